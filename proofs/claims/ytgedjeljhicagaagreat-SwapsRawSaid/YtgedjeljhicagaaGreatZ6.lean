/- Parts of the proof: see the text that holds the theorem. -/
import Derived.Test.YtgedjeljhicagaaGreatZ5
set_option linter.all false
namespace Go.Ev
open Go
variable [Lib] [Has1] [Has2] [Has3] [Has4] [Has5] [Has6] [Has7] [Has8] [Has9] [Has10] [Has11] [Has12] [Has13]
abbrev sxV (ws out : List World) (i j : Nat) (t : Int) (k : Int) : List D := [.und, .und, I i, I j, I t, .und, .bp 1 0, .bp 2 0, .und, .und, .ref 3 0 out.length, .und, .und, .und, .und, .und, .und, .t (.sl (ws.map World.e)), I ws.length, I k, .und, .und]
theorem set_nth_id {α : Type} [Dat α] (l : List α) (i : Nat) (h : i < l.length) : l.set i (nth l i) = l := by
 rw [nth_eq (List.getElem?_eq_getElem h), List.set_getElem_self]
theorem rset (w : Wh) (t : Int) (c : ¬ (raiseF w t).2 = 0) : (raiseF w t).1 = w := by
 unfold raiseF at c ⊢
 split
 · rfl
 · rename_i c'; rw [if_neg c'] at c; exact absurd rfl c
abbrev sxI (ws : List World) (n i j : Nat) (t : Int) (k : Int) (c : Int) : List D := [.und, .und, I i, I j, I t, .und, .bp 1 0, .bp 2 0, .und, .und, .ref 3 0 n, .und, .bp 7 0, .und, .und, .und, .und, .t (.sl (ws.map World.e)), I ws.length, I k, .t (.agg [.int .i64 i, .int .i64 j]), I c]
abbrev sxH (m : Mine) (ws out : List World) (x0 x1 : T) (tags : List Int) (q : List Wh) : Heap := [.box (mineCells m), .box [.t (.sl (ws.map World.e))], .box [.nil], .arr 2 false 0 ((out.map World.e).map .t), .box [.t x0, .t x1], .arr 1 false 0 ((tags.map (T.int .i64)).map .t), .arr 2 false 0 ((q.map Wh.e).map .t), .box [.ref 5 0 tags.length, .ref 6 0 q.length]]
theorem sexch_in1 (m : Mine) (ws out : List World) (x0 x1 : T) (tags : List Int) (q : List Wh) (n i j : Nat) (t : Int) (k : Int) (hq : q.length ≤ 1000000) (hi : i < q.length) (hw : (nth q i).frm.length ≤ 1000000)   :
 roundC true [0, 1, 5, 8, 9, 11, 13, 14, 15, 16] 8 (exS CALL K.swaps_Exchange_l2b ⟨sxI ws n i j t k 0, sxH m ws out x0 x1 tags q⟩) = some ⟨sxI ws n i j t k 1, sxH m ws out x0 x1 tags (q.set i (raiseF (nth q i) t).1)⟩ := by
 have r := praise_ok (nth q i) t hw
 by_cases c : (raiseF (nth q i) t).2 = 0
 · generalize raiseF (nth q i) t = z at *
   obtain ⟨⟨t1, f1⟩, e1⟩ := z
   simp only at c
   subst c
   generalize hx : nth q i = x at *
   obtain ⟨tx, fx⟩ := x
   simp only at *
   simp (disch := omega) only [go_sem, K.swaps_Exchange_l2b, ↓reduceIte, hx, r, sxH, List.length_set, Nat.reduceAdd, Nat.reduceSub]
 · have e := rset _ _ c
   rw [e, set_nth_id q i hi]
   rw [e] at r
   generalize (raiseF (nth q i) t).2 = z at *
   generalize hx : nth q i = x at *
   obtain ⟨tx, fx⟩ := x
   simp only at *
   simp (disch := omega) only [go_sem, K.swaps_Exchange_l2b, ↓reduceIte, hx, r, c, sxH, Nat.reduceAdd, Nat.reduceSub]
theorem sexch_in2 (m : Mine) (ws out : List World) (x0 x1 : T) (tags : List Int) (q : List Wh) (n i j : Nat) (t : Int) (k : Int) (hq : q.length ≤ 1000000) (hi : j < q.length) (hw : (nth q j).frm.length ≤ 1000000)   :
 roundC true [0, 1, 5, 8, 9, 11, 13, 14, 15, 16] 8 (exS CALL K.swaps_Exchange_l2b ⟨sxI ws n i j t k 1, sxH m ws out x0 x1 tags q⟩) = some ⟨sxI ws n i j t k 2, sxH m ws out x0 x1 tags (q.set j (raiseF (nth q j) t).1)⟩ := by
 have r := praise_ok (nth q j) t hw
 by_cases c : (raiseF (nth q j) t).2 = 0
 · generalize raiseF (nth q j) t = z at *
   obtain ⟨⟨t1, f1⟩, e1⟩ := z
   simp only at c
   subst c
   generalize hx : nth q j = x at *
   obtain ⟨tx, fx⟩ := x
   simp only at *
   simp (disch := omega) only [go_sem, K.swaps_Exchange_l2b, ↓reduceIte, hx, r, sxH, List.length_set, Int.reduceAdd, Nat.reduceAdd, Nat.reduceSub]
 · have e := rset _ _ c
   rw [e, set_nth_id q j hi]
   rw [e] at r
   generalize (raiseF (nth q j) t).2 = z at *
   generalize hx : nth q j = x at *
   obtain ⟨tx, fx⟩ := x
   simp only at *
   simp (disch := omega) only [go_sem, K.swaps_Exchange_l2b, ↓reduceIte, hx, r, c, sxH, Int.reduceAdd, Nat.reduceAdd, Nat.reduceSub]
theorem sexch_in (m : Mine) (ws out : List World) (x0 x1 : T) (tags : List Int) (q : List Wh) (n i j : Nat) (hij : i ≠ j) (t : Int) (k : Int) (hq : q.length ≤ 1000000) (hi : i < q.length) (hj : j < q.length) (hwi : (nth q i).frm.length ≤ 1000000) (hwj : (nth q j).frm.length ≤ 1000000) (z : D) :
 exS CALL K.swaps_Exchange_l2 ⟨[.und, .und, I i, I j, I t, .und, .bp 1 0, .bp 2 0, .und, .und, .ref 3 0 n, z, .bp 7 0, .und, .und, .und, .und, .t (.sl (ws.map World.e)), I ws.length, I k, .t (.agg [.int .i64 i, .int .i64 j]), I 0], sxH m ws out x0 x1 tags q⟩ =
  some (.exit 3, ⟨sxI ws n i j t k 2, sxH m ws out x0 x1 tags ((q.set i (raiseF (nth q i) t).1).set j (raiseF (nth q j) t).1)⟩) := by
 have n1 : nth (q.set i (raiseF (nth q i) t).1) j = nth q j := by rw [set_nth _ _ hi, if_neg (fun e => hij e.symm)]
 have r1 := sexch_in1 m ws out x0 x1 tags q n i j t k hq hi hwi
 have r2 := sexch_in2 m ws out x0 x1 tags (q.set i (raiseF (nth q i) t).1) n i j t k (by rw [List.length_set]; exact hq) (by rw [List.length_set]; exact hj) (by rw [n1]; exact hwj)
 rw [n1] at r2
 show loopC true _ (exS CALL K.swaps_Exchange_l2b) ⟨sxI ws n i j t k 0, sxH m ws out x0 x1 tags q⟩ = _
 refine loopC_step r1 (loopC_step r2 (loopC_exit ?_ (by simp)))
 generalize (q.set i (raiseF (nth q i) t).1).set j (raiseF (nth q j) t).1 = q2 at *
 simp (disch := omega) only [go_sem, K.swaps_Exchange_l2b, ↓reduceIte, sxH, Nat.reduceAdd, Nat.reduceSub]
theorem sexch_round (m : Mine) (ws : List World) (hw : ws.length ≤ 100000) (i j : Nat) (hij : i ≠ j) (t : Int) (k : Nat) (hk : k < ws.length) (hs : (nth ws k).sz)
 (i1 : i < (nth ws k).tags.length) (j1 : j < (nth ws k).tags.length) (hl : (nth ws k).whr.length = (nth ws k).tags.length) (out : List World) (ho : out.length ≤ 1000000) :
 roundC true [0, 1, 5, 8, 9, 11, 12, 13, 14, 15, 16, 20, 21] 4 (exS CALL K.swaps_Exchange_l1b ⟨sxV ws out i j t k, exH m ws out⟩) =
  some ⟨sxV ws (exchS i j t (nth ws k) out) i j t (k + 1), exH m ws (exchS i j t (nth ws k) out)⟩ := by
 have c1 := wCopy_ok (nth ws k) hs
 have inn := fun z => sexch_in m ws out (tL (nth ws k).tags) (.sl ((nth ws k).whr.map Wh.e)) (((nth ws k).tags.set i (nth (nth ws k).tags j)).set j (nth (nth ws k).tags i)) (nth ws k).whr out.length i j hij t k (by have := hs.2.1; omega) (by omega) (by omega) (hs.2.2 _ (nth_mem (by omega))) (hs.2.2 _ (nth_mem (by omega))) z
 simp only [sxI, sxH, List.length_set] at inn
 have mt := smeet_ok (nth (nth ws k).whr i) (nth (nth ws k).whr j) t (hs.2.2 _ (nth_mem (by omega))) (hs.2.2 _ (nth_mem (by omega)))
 unfold exchS exchW swapL
 have n1 : ∀ w, nth ((nth ws k).whr.set i w) j = nth (nth ws k).whr j := fun w => by rw [set_nth _ _ (by omega), if_neg (fun e => hij e.symm)]
 generalize hx : nth ws k = x at *
 obtain ⟨tags, whr⟩ := x
 obtain ⟨s1, s2, s3⟩ := hs
 simp only at *
 generalize hwi : nth whr i = wi at *
 generalize hwj : nth whr j = wj at *
 generalize raiseF wi t = ri at *
 obtain ⟨⟨t1, f1⟩, e1⟩ := ri
 generalize raiseF wj t = rj at *
 obtain ⟨⟨t2, f2⟩, e2⟩ := rj
 obtain ⟨ti, fi⟩ := wi
 obtain ⟨tj, fj⟩ := wj
 simp only at *
 cases hm : meetB ⟨ti, fi⟩ ⟨tj, fj⟩ t with
 | true =>
   rw [hm] at mt
   simp (disch := omega) only [go_sem, K.swaps_Exchange_l1b, ↓reduceIte, exH, hx, hwi, hwj, n1, c1, mt, inn, List.length_set, Nat.reduceAdd, Nat.reduceSub]
   simp only [sxV, List.length_append, List.length_singleton]
 | false =>
   rw [hm] at mt
   simp (disch := omega) only [go_sem, K.swaps_Exchange_l1b, ↓reduceIte, exH, hx, hwi, hwj, n1, c1, mt, inn, List.length_set, Bool.false_eq_true, Nat.reduceAdd, Nat.reduceSub]
theorem sExch_ok {m : Mine} (h : m.ok) (b : Bel) (hs : b.sz) (h9 : b.worlds.length ≤ 9) (i j t : Int) :
 CALL 0 N.swaps_Exchange [.t m.e, .t b.e, I i, I j, I t] [] = some (.tup [.t (exchBel m b i j t).1.e, I (exchBel m b i j t).2], []) := by
 refine CALL_of K.t_swaps_Exchange rfl ?_
 have vb := swValid_ok h b hs
 unfold exchBel
 cases hb : belB m b with
 | false =>
   rw [hb] at vb
   obtain ⟨ws⟩ := b
   obtain ⟨places, roads⟩ := m
   simp only [mineCells] at *
   simp (disch := omega) only [go_sem, K.swaps_Exchange, ↓reduceIte, vb, Nat.reduceAdd, Nat.reduceSub]
 | true =>
   rw [hb] at vb
   have bv := bel_BV (ws := b.worlds) hb
   obtain ⟨w1, w2, f1, f2, w5⟩ := belB_spec hb
   obtain ⟨ws⟩ := b
   obtain ⟨s1, s2⟩ := hs
   simp only at s1 s2 w1 w2 w5 f1 f2 vb bv h9 ⊢
   have g0 : (ws.map World.e)[0]? = some (nth ws 0).e := map_nth _ (by omega)
   have wl : ∀ k, k < ws.length → (nth ws k).tags.length = (nth ws 0).tags.length ∧ (nth ws k).whr.length = (nth ws 0).tags.length := fun k hk => by
    obtain ⟨q1, q2, -⟩ := worldB_spec (w5 k hk)
    exact ⟨q1, q2⟩
   have fl : 1 ≤ (nth ws 0).tags.length ∧ (nth ws 0).tags.length ≤ 12 := ⟨bv.f1, bv.f2⟩
   have in1 := in_ok i 0 (((nth ws 0).tags.length : Int) - 1)
   have in2 := in_ok j 0 (((nth ws 0).tags.length : Int) - 1)
   have in3 := in_ok t 0 2147483648
   rw [if_neg (by simp)]
   by_cases ci : i < 0 ∨ ((nth ws 0).tags.length : Int) ≤ i
   · rw [if_pos (by omega)]
     rw [decide_eq_false (show ¬ (0 ≤ i ∧ i ≤ ((nth ws 0).tags.length : Int) - 1) by omega)] at in1
     generalize nth ws 0 = x at *
     obtain ⟨first, whr⟩ := x
     obtain ⟨places, roads⟩ := m
     simp only [mineCells] at *
     simp (disch := omega) only [go_sem, K.swaps_Exchange, ↓reduceIte, vb, g0, in1, Nat.reduceAdd, Nat.reduceSub]
   · rw [decide_eq_true (show 0 ≤ i ∧ i ≤ ((nth ws 0).tags.length : Int) - 1 by omega)] at in1
     by_cases cj : j < 0 ∨ ((nth ws 0).tags.length : Int) ≤ j
     · rw [if_pos (by omega)]
       rw [decide_eq_false (show ¬ (0 ≤ j ∧ j ≤ ((nth ws 0).tags.length : Int) - 1) by omega)] at in2
       generalize nth ws 0 = x at *
       obtain ⟨first, whr⟩ := x
       obtain ⟨places, roads⟩ := m
       simp only [mineCells] at *
       simp (disch := omega) only [go_sem, K.swaps_Exchange, ↓reduceIte, vb, g0, in1, in2, Nat.reduceAdd, Nat.reduceSub]
     · rw [decide_eq_true (show 0 ≤ j ∧ j ≤ ((nth ws 0).tags.length : Int) - 1 by omega)] at in2
       by_cases c5 : i = j
       · rw [if_pos (by omega)]
         generalize nth ws 0 = x at *
         obtain ⟨first, whr⟩ := x
         obtain ⟨places, roads⟩ := m
         simp only [mineCells] at *
         subst c5
         simp (disch := omega) only [go_sem, K.swaps_Exchange, ↓reduceIte, vb, g0, in1, in2, Nat.reduceAdd, Nat.reduceSub]
       · rw [if_neg (by omega)]
         by_cases ct : inT t
         · rw [if_neg (fun h => h ct)]
           rw [decide_eq_true (show 0 ≤ t ∧ t ≤ 2147483648 from ct)] at in3
           obtain ⟨i', rfl⟩ := Int.eq_ofNat_of_zero_le (show 0 ≤ i by omega)
           obtain ⟨j', rfl⟩ := Int.eq_ofNat_of_zero_le (show 0 ≤ j by omega)
           simp only [Int.toNat_natCast]
           have ln := exchNb_len i' j' t ws
           have loop : ∀ z0 z1 z5 z8 z9 z11 z12 z13 z14 z15 z16 z20 z21 : D, exS CALL K.swaps_Exchange_l1 ⟨[z0, z1, I i', I j', I t, z5, .bp 1 0, .bp 2 0, z8, z9, .ref 3 0 ws.length, z11, z12, z13, z14, z15, z16, .t (.sl (ws.map World.e)), I ws.length, I 0, z20, z21], exH m ws ws⟩ =
            some (.exit 1, ⟨sxV ws (exchNb i' j' t ws ws.length) i' j' t ws.length, exH m ws (exchNb i' j' t ws ws.length)⟩) := by
            intro z0 z1 z5 z8 z9 z11 z12 z13 z14 z15 z16 z20 z21
            refine loop_up (fun k => ⟨sxV ws (exchNb i' j' t ws k) i' j' t k, exH m ws (exchNb i' j' t ws k)⟩) ws.length rfl ?_ ?_ (by simp)
            · intro k hk
              obtain ⟨q1, q2⟩ := wl k hk
              have := ln k
              exact sexch_round m ws (by omega) i' j' (by omega) t k hk (s2 _ (nth_mem hk)) (by omega) (by omega) (by omega) _ (by omega)
            · have := ln ws.length
              generalize exchNb i' j' t ws ws.length = L at *
              simp (disch := omega) only [go_sem, K.swaps_Exchange_l1b, ↓reduceIte, exH, sxV, Nat.reduceAdd, Nat.reduceSub]
           have ln := ln ws.length
           have wv := exchNb_WV h (fun x hx => bv.wv x hx) (i := i') (j := j') (by omega) (by omega) t ws.length (Nat.le_refl _)
           have ty := wTidy_ok h bv.pr bv.f1 bv.f2 (exchNb i' j' t ws ws.length) wv (by omega) (by omega)
           have cl := cloneW_ok ws (by omega) (by omega)
           generalize exchNb i' j' t ws ws.length = L at *
           generalize tidyF L = Z at *
           simp only [exH, sxV] at loop
           generalize nth ws 0 = x at *
           obtain ⟨first, whr⟩ := x
           obtain ⟨places, roads⟩ := m
           simp only [mineCells] at *
           by_cases c6 : 24 < Z.length
           · simp (disch := omega) only [go_sem, K.swaps_Exchange, ↓reduceIte, vb, g0, in1, in2, in3, c5, c6, loop, ty, cl, Nat.reduceAdd, Nat.reduceSub]
           · simp (disch := omega) only [go_sem, K.swaps_Exchange, ↓reduceIte, vb, g0, in1, in2, in3, c5, c6, loop, ty, cl, Nat.reduceAdd, Nat.reduceSub]
         · rw [if_pos ct]
           rw [decide_eq_false (show ¬ (0 ≤ t ∧ t ≤ 2147483648) from ct)] at in3
           generalize nth ws 0 = x at *
           obtain ⟨first, whr⟩ := x
           obtain ⟨places, roads⟩ := m
           simp only [mineCells] at *
           simp (disch := omega) only [go_sem, K.swaps_Exchange, ↓reduceIte, vb, g0, in1, in2, in3, c5, Nat.reduceAdd, Nat.reduceSub]
theorem sameR_in (ws : List World) (tags : List Int) (whr : List Wh) (hl : whr.length ≤ 1000000) (hz : ∀ w ∈ whr, w.frm.length ≤ 1000000) (k : Int) :
 exS CALL K.ref26_Same_l2 ⟨[.und, .und, .bp 0 0, .bp 1 0, .und, I k, .bp 2 0, .bp 3 0, I 0], [.box [.t (.sl (ws.map World.e))], .box [.t (.sl (ws.map World.e))], .box [.t (tL tags), .t (.sl (whr.map Wh.e))], .box [.t (tL tags), .t (.sl (whr.map Wh.e))]]⟩ =
  some (.exit 2, ⟨[.und, .und, .bp 0 0, .bp 1 0, .und, I k, .bp 2 0, .bp 3 0, I whr.length], [.box [.t (.sl (ws.map World.e))], .box [.t (.sl (ws.map World.e))], .box [.t (tL tags), .t (.sl (whr.map Wh.e))], .box [.t (tL tags), .t (.sl (whr.map Wh.e))]]⟩) := by
 refine loop_up (fun j => ⟨[.und, .und, .bp 0 0, .bp 1 0, .und, I k, .bp 2 0, .bp 3 0, I j], [.box [.t (.sl (ws.map World.e))], .box [.t (.sl (ws.map World.e))], .box [.t (tL tags), .t (.sl (whr.map Wh.e))], .box [.t (tL tags), .t (.sl (whr.map Wh.e))]]⟩) whr.length rfl ?_ ?_ (by simp)
 · intro j hj
   have ex : (whr.map Wh.e)[j]? = some (nth whr j).e := map_nth _ hj
   have sm := same25_ok (nth whr j) (nth whr j) (hz _ (nth_mem hj))
   rw [decide_eq_true ⟨rfl, rfl⟩] at sm
   clear hz
   generalize nth whr j = x at *
   obtain ⟨t, f⟩ := x
   simp (disch := omega) only [go_sem, K.ref26_Same_l2b, ↓reduceIte, ex, sm, Nat.reduceAdd, Nat.reduceSub]
 · simp (disch := omega) only [go_sem, K.ref26_Same_l2b, ↓reduceIte, Nat.reduceAdd, Nat.reduceSub]
theorem sameR_ok (b : Bel) (hs : b.sz) : CALL 0 N.ref26_Same [.t b.e, .t b.e] [] = some (B true, []) := by
 refine CALL_of K.t_ref26_Same rfl ?_
 obtain ⟨ws⟩ := b
 obtain ⟨s1, s2⟩ := hs
 simp only at *
 have loop : ∀ z0 z1 z4 z6 z7 z8 : D, exS CALL K.ref26_Same_l1 ⟨[z0, z1, .bp 0 0, .bp 1 0, z4, I 0, z6, z7, z8], [.box [.t (.sl (ws.map World.e))], .box [.t (.sl (ws.map World.e))]]⟩ =
  some (.exit 0, ⟨[.und, .und, .bp 0 0, .bp 1 0, .und, I ws.length, .und, .und, .und], [.box [.t (.sl (ws.map World.e))], .box [.t (.sl (ws.map World.e))]]⟩) := by
  intro z0 z1 z4 z6 z7 z8
  refine loop_up (fun j => ⟨[.und, .und, .bp 0 0, .bp 1 0, .und, I j, .und, .und, .und], [.box [.t (.sl (ws.map World.e))], .box [.t (.sl (ws.map World.e))]]⟩) ws.length rfl ?_ ?_ (by simp)
  · intro j hj
    have ex : (ws.map World.e)[j]? = some (nth ws j).e := map_nth _ hj
    have z := s2 _ (nth_mem hj)
    have sm := same_ok (nth ws j).tags (nth ws j).tags (by have := z.1; omega)
    rw [decide_eq_true rfl] at sm
    have inn := sameR_in ws (nth ws j).tags (nth ws j).whr (by have := z.2.1; omega) z.2.2 j
    clear s2 z
    generalize nth ws j = x at *
    obtain ⟨tags, whr⟩ := x
    simp only at *
    simp (disch := omega) only [go_sem, K.ref26_Same_l1b, ↓reduceIte, ex, sm, inn, Nat.reduceAdd, Nat.reduceSub]
  · simp (disch := omega) only [go_sem, K.ref26_Same_l1b, ↓reduceIte, Nat.reduceAdd, Nat.reduceSub]
 simp (disch := omega) only [go_sem, K.ref26_Same, ↓reduceIte, loop, Nat.reduceAdd, Nat.reduceSub]
theorem same26_ok (b : Bel) (hs : b.sz) (e : Int) : CALL 0 N.law26_same [.t b.e, .t b.e, I e, I e] [] = some (B true, []) := by
 refine CALL_of K.t_law26_same rfl ?_
 have s := sameR_ok b hs
 obtain ⟨ws⟩ := b
 simp (disch := omega) only [go_sem, K.law26_same, ↓reduceIte, s, Nat.reduceAdd, Nat.reduceSub]
def rnN (m : Mine) (t : Int) (l : List Wh) : Nat → List Wh
 | 0 => l
 | j + 1 => (rnN m t l j).set j (renewF m (nth l j) t).1
def rnE (m : Mine) (t : Int) (l : List Wh) (e : Int) : Nat → Int
 | 0 => e
 | j + 1 => if rnE m t l e j = 0 then (renewF m (nth l j) t).2 else rnE m t l e j
theorem rnN_len (m : Mine) (t : Int) (l : List Wh) : ∀ j, (rnN m t l j).length = l.length
 | 0 => rfl
 | j + 1 => by simp only [rnN, List.length_set, rnN_len m t l j]
theorem rnN_is (m : Mine) (t : Int) (l : List Wh) : ∀ j, j ≤ l.length → rnN m t l j = (l.take j).map (fun w => (renewF m w t).1) ++ l.drop j
 | 0, _ => by simp [rnN]
 | j + 1, h => by
   rw [rnN, rnN_is m t l j (by omega), take_nth (by omega : j < l.length), List.map_append]
   have e : l.drop j = nth l j :: l.drop (j + 1) := by rw [List.drop_eq_getElem_cons (by omega), nth_eq (List.getElem?_eq_getElem (by omega : j < l.length))]
   rw [e, List.set_append_right _ _ (by simp; omega)]
   simp
   rw [show j - min j l.length = 0 by omega]; rfl
theorem rnN_all (m : Mine) (t : Int) (l : List Wh) : rnN m t l l.length = l.map fun w => (renewF m w t).1 := by
 rw [rnN_is m t l l.length (Nat.le_refl _)]; simp
def rnW (m : Mine) (t : Int) (x : World) : World := ⟨x.tags, x.whr.map fun w => (renewF m w t).1⟩
def rnX (m : Mine) (t : Int) (ws : List World) (e : Int) : Nat → Int
 | 0 => e
 | j + 1 => rnE m t (nth ws j).whr (rnX m t ws e j) (nth ws j).whr.length
abbrev rvV (ws : List World) (whr : List Wh) (n : Nat) (t e : Int) (i : Int) (j : Int) : List D := [.und, .und, I t, .bp 0 0, .bp 1 0, .bp 2 0, .und, .bp 3 0, I e, .und, .bp 8 0, .und, .und, .und, .und, .t (.sl (ws.map World.e)), I ws.length, I i, .t (.sl (whr.map Wh.e)), I n, I j]
abbrev rvH (m : Mine) (ws out : List World) (x0 x1 : T) (tags : List Int) (q : List Wh) : Heap := [.box (mineCells m), .box [.t (.sl (ws.map World.e))], .box [.nil], .box [.ref 4 0 out.length], .arr 2 false 0 ((out.map World.e).map .t), .box [.t x0, .t x1], .arr 1 false 0 ((tags.map (T.int .i64)).map .t), .arr 2 false 0 ((q.map Wh.e).map .t), .box [.ref 6 0 tags.length, .ref 7 0 q.length]]
theorem rv_step {m : Mine} (h : m.ok) (ws out : List World) (x0 x1 : T) (tags : List Int) (whr q : List Wh) (hq : q.length = whr.length) (hl : whr.length ≤ 1000000) (t e i : Int) (j : Nat) (hj : j < whr.length) (hz : (nth whr j).frm.length ≤ 1000000) :
 ((renewF m (nth whr j) t).2 ≠ 6 → roundC true [0, 1, 6, 9, 11, 12, 13, 14] 9 (exS CALL K.swaps_Renew_l2b ⟨rvV ws whr whr.length t e i j, rvH m ws out x0 x1 tags q⟩) =
   some ⟨rvV ws whr whr.length t (if e = 0 then (renewF m (nth whr j) t).2 else e) i (j + 1), rvH m ws out x0 x1 tags (q.set j (renewF m (nth whr j) t).1)⟩) ∧
 ((renewF m (nth whr j) t).2 = 6 → ∃ vs H, exS CALL K.swaps_Renew_l2b ⟨rvV ws whr whr.length t e i j, rvH m ws out x0 x1 tags q⟩ = some (.ret, ⟨vs, H⟩) ∧ vs[5]? = some (.bp 2 0) ∧ vs[6]? = some (I 6) ∧ H[2]? = some (.box [.t (.sl (ws.map World.e))])) := by
 have g := prenew_ok h (nth whr j) t hz
 have ex : (whr.map Wh.e)[j]? = some (nth whr j).e := map_nth _ hj
 generalize renewF m (nth whr j) t = r at *
 obtain ⟨⟨t1, f1⟩, code⟩ := r
 generalize nth whr j = x at *
 obtain ⟨tx, fx⟩ := x
 obtain ⟨places, roads⟩ := m
 simp only [mineCells, rvV, rvH] at *
 constructor
 · intro c6
   by_cases e0 : e = 0
   · subst e0
     simp (disch := omega) only [go_sem, K.swaps_Renew_l2b, ↓reduceIte, g, ex, c6, List.length_set, Nat.reduceAdd, Nat.reduceSub]
   · simp (disch := omega) only [go_sem, K.swaps_Renew_l2b, ↓reduceIte, g, ex, c6, e0, List.length_set, Nat.reduceAdd, Nat.reduceSub]
 · intro c6
   subst c6
   simp (disch := omega) only [go_sem, K.swaps_Renew_l2b, ↓reduceIte, g, ex, Nat.reduceAdd, Nat.reduceSub]
   exact ⟨_, _, rfl, rfl, rfl, rfl⟩
def rn6 (m : Mine) (t : Int) (l : List Wh) (j : Nat) : Bool := decide ((renewF m (nth l j) t).2 = 6)
theorem rv_in {m : Mine} (h : m.ok) (ws out : List World) (x0 x1 : T) (tags : List Int) (whr : List Wh) (hl : whr.length ≤ 1000000) (hz : ∀ w ∈ whr, w.frm.length ≤ 1000000) (t e i : Int) (z9 z11 z12 z13 z14 z6 z0 z1 : D) :
 ((List.range whr.length).find? (rn6 m t whr) = none ∧ exS CALL K.swaps_Renew_l2 ⟨[z0, z1, I t, .bp 0 0, .bp 1 0, .bp 2 0, z6, .bp 3 0, I e, z9, .bp 8 0, z11, z12, z13, z14, .t (.sl (ws.map World.e)), I ws.length, I i, .t (.sl (whr.map Wh.e)), I whr.length, I 0], rvH m ws out x0 x1 tags whr⟩ =
   some (.exit 2, ⟨rvV ws whr whr.length t (rnE m t whr e whr.length) i whr.length, rvH m ws out x0 x1 tags (whr.map fun w => (renewF m w t).1)⟩)) ∨
 ∃ j q, (List.range whr.length).find? (rn6 m t whr) = some j ∧ exS CALL K.swaps_Renew_l2 ⟨[z0, z1, I t, .bp 0 0, .bp 1 0, .bp 2 0, z6, .bp 3 0, I e, z9, .bp 8 0, z11, z12, z13, z14, .t (.sl (ws.map World.e)), I ws.length, I i, .t (.sl (whr.map Wh.e)), I whr.length, I 0], rvH m ws out x0 x1 tags whr⟩ = some q ∧
  q.1 = .ret ∧ q.2.vs[5]? = some (.bp 2 0) ∧ q.2.vs[6]? = some (I 6) ∧ q.2.H[2]? = some (.box [.t (.sl (ws.map World.e))]) := by
 have ln := rnN_len m t whr
 have lp := loop_find (gc := true) (dead := [0, 1, 6, 9, 11, 12, 13, 14]) (c := K.swaps_Renew_l2b)
  (vs := [z0, z1, I t, .bp 0 0, .bp 1 0, .bp 2 0, z6, .bp 3 0, I e, z9, .bp 8 0, z11, z12, z13, z14, .t (.sl (ws.map World.e)), I ws.length, I i, .t (.sl (whr.map Wh.e)), I whr.length, I 0]) (H := rvH m ws out x0 x1 tags whr)
  (fun j => ⟨rvV ws whr whr.length t (rnE m t whr e j) i j, rvH m ws out x0 x1 tags (rnN m t whr j)⟩) whr.length (rn6 m t whr)
  (fun _ q => q.1 = .ret ∧ q.2.vs[5]? = some (.bp 2 0) ∧ q.2.vs[6]? = some (I 6) ∧ q.2.H[2]? = some (.box [.t (.sl (ws.map World.e))]))
  (.exit 2, ⟨rvV ws whr whr.length t (rnE m t whr e whr.length) i whr.length, rvH m ws out x0 x1 tags (rnN m t whr whr.length)⟩) rfl
  (fun j hj hq => (rv_step h ws out x0 x1 tags whr _ (ln j) hl t _ i j hj (hz _ (nth_mem hj))).1 (by simpa [rn6] using hq))
  (fun j hj hq => by
   obtain ⟨vs, H, a, b⟩ := (rv_step h ws out x0 x1 tags whr _ (ln j) hl t (rnE m t whr e j) i j hj (hz _ (nth_mem hj))).2 (by simpa [rn6] using hq)
   exact ⟨_, a, by simp, rfl, b⟩)
  (by
   have := ln whr.length
   generalize rnN m t whr whr.length = L at *
   generalize rnE m t whr e whr.length = E at *
   simp (disch := omega) only [go_sem, K.swaps_Renew_l2b, ↓reduceIte, rvV, rvH, Nat.reduceAdd, Nat.reduceSub]) (by simp)
 rw [rnN_all] at lp
 exact lp
def rx6 (m : Mine) (t : Int) (ws : List World) (i : Nat) : Bool := ((List.range (nth ws i).whr.length).find? (rn6 m t (nth ws i).whr)).isSome
abbrev rwV (ws : List World) (t e : Int) (i : Int) : List D := [.und, .und, I t, .bp 0 0, .bp 1 0, .bp 2 0, .und, .bp 3 0, I e, .und, .und, .und, .und, .und, .und, .t (.sl (ws.map World.e)), I ws.length, I i, .und, .und, .und]
abbrev rwH (m : Mine) (ws out : List World) : Heap := [.box (mineCells m), .box [.t (.sl (ws.map World.e))], .box [.nil], .box [.ref 4 0 out.length], .arr 2 false 0 ((out.map World.e).map .t)]
theorem rw_step {m : Mine} (h : m.ok) (ws out : List World) (hw : ws.length ≤ 1000000) (ho : out.length ≤ 1000000) (t e : Int) (i : Nat) (hi : i < ws.length) (hz : (nth ws i).sz) :
 (rx6 m t ws i = false → roundC true [0, 1, 6, 9, 10, 11, 12, 13, 14, 18, 19, 20] 5 (exS CALL K.swaps_Renew_l1b ⟨rwV ws t e i, rwH m ws out⟩) =
  some ⟨rwV ws t (rnE m t (nth ws i).whr e (nth ws i).whr.length) (i + 1), rwH m ws (out ++ [rnW m t (nth ws i)])⟩) ∧
 (rx6 m t ws i = true → ∃ q, exS CALL K.swaps_Renew_l1b ⟨rwV ws t e i, rwH m ws out⟩ = some q ∧ q.1 = .ret ∧ q.2.vs[5]? = some (.bp 2 0) ∧ q.2.vs[6]? = some (I 6) ∧ q.2.H[2]? = some (.box [.t (.sl (ws.map World.e))])) := by
 have ex : (ws.map World.e)[i]? = some (nth ws i).e := map_nth _ hi
 have cw := wCopy_ok (nth ws i) hz
 obtain ⟨z1, z2, z3⟩ := hz
 have inn := rv_in h ws out (tL (nth ws i).tags) (.sl ((nth ws i).whr.map Wh.e)) (nth ws i).tags (nth ws i).whr z2 z3 t e i (.bp 5 0) .und .und .und .und .und .und .und
 unfold rx6
 constructor
 · intro hf
   rcases inn with ⟨e1, e2⟩ | ⟨j, q, e1, -⟩
   · clear hf e1
     unfold rnW
     have ln : (((nth ws i).whr.map fun w => (renewF m w t).1)).length = (nth ws i).whr.length := by simp
     generalize (nth ws i).whr.map (fun w => (renewF m w t).1) = r at *
     generalize rnE m t (nth ws i).whr e (nth ws i).whr.length = e' at *
     generalize nth ws i = x at *
     obtain ⟨tags, whr⟩ := x
     obtain ⟨places, roads⟩ := m
     simp only [mineCells, rwV, rwH, rvV, rvH] at *
     simp (disch := omega) only [go_sem, K.swaps_Renew_l1b, ↓reduceIte, ex, cw, e2, ln, Nat.reduceAdd, Nat.reduceSub]
   · rw [e1] at hf; simp at hf
 · intro hf
   rcases inn with ⟨e1, e2⟩ | ⟨j, ⟨x, vs, H⟩, e1, e2, e3, e4, e5, e6⟩
   · rw [e1] at hf; simp at hf
   · clear hf e1
     simp only at e3 e4 e5 e6
     subst e3
     generalize nth ws i = x at *
     obtain ⟨tags, whr⟩ := x
     obtain ⟨places, roads⟩ := m
     simp only [mineCells, rwV, rwH, rvV, rvH] at *
     simp (disch := omega) only [go_sem, K.swaps_Renew_l1b, ↓reduceIte, ex, cw, e2, Nat.reduceAdd, Nat.reduceSub]
     exact ⟨_, rfl, rfl, e4, e5, e6⟩
def renewBel (m : Mine) (b : Bel) (t : Int) : Bel × Int :=
 if b.worlds.length < 1 ∨ 24 < b.worlds.length then (b, 6) else match (List.range b.worlds.length).find? (rx6 m t b.worlds) with
  | some _ => (b, 6)
  | none => if rnX m t b.worlds 0 b.worlds.length ≠ 0 then (b, rnX m t b.worlds 0 b.worlds.length) else (⟨b.worlds.map (rnW m t)⟩, 0)
def rnWs (m : Mine) (t : Int) (ws : List World) : Nat → List World
 | 0 => []
 | j + 1 => rnWs m t ws j ++ [rnW m t (nth ws j)]
theorem rnWs_is (m : Mine) (t : Int) (ws : List World) : ∀ j, j ≤ ws.length → rnWs m t ws j = (ws.take j).map (rnW m t)
 | 0, _ => rfl
 | j + 1, h => by rw [rnWs, rnWs_is m t ws j (by omega), take_nth (by omega), List.map_append]; rfl
theorem sRenew_ok {m : Mine} (h : m.ok) (b : Bel) (hs : b.sz) (t : Int) :
 CALL 0 N.swaps_Renew [.t m.e, .t b.e, I t] [] = some (.tup [.t (renewBel m b t).1.e, I (renewBel m b t).2], []) := by
 refine CALL_of K.t_swaps_Renew rfl ?_
 have va := planValid_ok h
 have li := in_ok (b.worlds.length : Int) 1 24
 obtain ⟨ws⟩ := b
 obtain ⟨s1, s2⟩ := hs
 unfold renewBel
 simp only at s1 s2 li ⊢
 by_cases c : ws.length < 1 ∨ 24 < ws.length
 · rw [decide_eq_false (by omega)] at li
   rw [if_pos c]
   obtain ⟨places, roads⟩ := m
   simp only [mineCells] at *
   simp (disch := omega) only [go_sem, K.swaps_Renew, ↓reduceIte, va, li, Nat.reduceAdd, Nat.reduceSub]
 · rw [decide_eq_true (by omega)] at li
   rw [if_neg c]
   have ln : ∀ j, j ≤ ws.length → (rnWs m t ws j).length = j := fun j hj => by rw [rnWs_is m t ws j hj]; simp; omega
   have lp := fun z0 z1 z6 z9 z10 z11 z12 z13 z14 z18 z19 z20 => loop_find (gc := true) (dead := [0, 1, 6, 9, 10, 11, 12, 13, 14, 18, 19, 20]) (c := K.swaps_Renew_l1b)
    (vs := [z0, z1, I t, .bp 0 0, .bp 1 0, .bp 2 0, z6, .bp 3 0, I 0, z9, z10, z11, z12, z13, z14, .t (.sl (ws.map World.e)), I ws.length, I 0, z18, z19, z20]) (H := rwH m ws [])
    (fun i => ⟨rwV ws t (rnX m t ws 0 i) i, rwH m ws (rnWs m t ws i)⟩) ws.length (rx6 m t ws)
    (fun _ q => q.1 = .ret ∧ q.2.vs[5]? = some (.bp 2 0) ∧ q.2.vs[6]? = some (I 6) ∧ q.2.H[2]? = some (.box [.t (.sl (ws.map World.e))]))
    (.exit 0, ⟨rwV ws t (rnX m t ws 0 ws.length) ws.length, rwH m ws (rnWs m t ws ws.length)⟩) rfl
    (fun j hj hq => (rw_step h ws _ s1 (by rw [ln j (by omega)]; omega) t (rnX m t ws 0 j) j hj (s2 _ (nth_mem hj))).1 hq)
    (fun j hj hq => by
     obtain ⟨q, a, b, c⟩ := (rw_step h ws (rnWs m t ws j) s1 (by rw [ln j (by omega)]; omega) t (rnX m t ws 0 j) j hj (s2 _ (nth_mem hj))).2 hq
     exact ⟨q, a, by rw [b]; simp, b, c⟩)
    (by
     have := ln ws.length (Nat.le_refl _)
     generalize rnWs m t ws ws.length = L at *
     generalize rnX m t ws 0 ws.length = E at *
     simp (disch := omega) only [go_sem, K.swaps_Renew_l1b, ↓reduceIte, rwV, rwH, Nat.reduceAdd, Nat.reduceSub]) (by simp)
   have lp' : ∀ z0 z1 z6 z9 z10 z11 z12 z13 z14 z18 z19 z20, _ ∨ _ := lp
   clear lp
   rcases lp' .und .und .und .und .und .und .und .und .und .und .und .und with ⟨e1, -⟩ | ⟨j, -, e1, -⟩
   · rw [e1]
     have e2 : ∀ z0 z1 z6 z9 z10 z11 z12 z13 z14 z18 z19 z20 : D, exS CALL K.swaps_Renew_l1 ⟨[z0, z1, I t, .bp 0 0, .bp 1 0, .bp 2 0, z6, .bp 3 0, I 0, z9, z10, z11, z12, z13, z14, .t (.sl (ws.map World.e)), I ws.length, I 0, z18, z19, z20], rwH m ws []⟩ = some (.exit 0, ⟨rwV ws t (rnX m t ws 0 ws.length) ws.length, rwH m ws (rnWs m t ws ws.length)⟩) := fun z0 z1 z6 z9 z10 z11 z12 z13 z14 z18 z19 z20 => by
      rcases lp' z0 z1 z6 z9 z10 z11 z12 z13 z14 z18 z19 z20 with ⟨-, e⟩ | ⟨j, q, e3, -⟩
      · exact e
      · rw [e1] at e3; cases e3
     have l2 := ln ws.length (Nat.le_refl _)
     have rw_ := rnWs_is m t ws ws.length (Nat.le_refl _)
     rw [List.take_length] at rw_
     rw [← rw_]
     clear lp' e1 rw_
     generalize rnWs m t ws ws.length = L at *
     generalize rnX m t ws 0 ws.length = E at *
     obtain ⟨places, roads⟩ := m
     simp only [mineCells, rwV, rwH, List.map_nil, List.length_nil] at *
     by_cases c0 : E = 0
     · subst c0
       simp (disch := omega) only [go_sem, K.swaps_Renew, ↓reduceIte, va, li, e2, Nat.reduceAdd, Nat.reduceSub]
     · simp (disch := omega) only [go_sem, K.swaps_Renew, ↓reduceIte, va, li, e2, c0, ne_eq, not_false_eq_true, Nat.reduceAdd, Nat.reduceSub]
   · rw [e1]
     obtain ⟨q, e2, e3, e4, e5, e6⟩ : ∃ q, exS CALL K.swaps_Renew_l1 ⟨[.t m.e, .t (Bel.e ⟨ws⟩), I t, .bp 0 0, .bp 1 0, .bp 2 0, I 0, .bp 3 0, I 0, .und, .und, .und, .und, .und, .und, .t (.sl (ws.map World.e)), I ws.length, I 0, .und, .und, .und], rwH m ws []⟩ = some q ∧ q.1 = .ret ∧ q.2.vs[5]? = some (.bp 2 0) ∧ q.2.vs[6]? = some (I 6) ∧ q.2.H[2]? = some (.box [.t (.sl (ws.map World.e))]) := by
      rcases lp' (.t m.e) (.t (Bel.e ⟨ws⟩)) (I 0) .und .und .und .und .und .und .und .und .und with ⟨e, -⟩ | ⟨j2, q, -, e3, e4⟩
      · rw [e1] at e; cases e
      · exact ⟨q, e3, e4⟩
     clear lp' e1
     obtain ⟨x, vs, H⟩ := q
     simp only at e3 e4 e5 e6
     subst e3
     obtain ⟨places, roads⟩ := m
     simp only [mineCells, rwV, rwH, List.map_nil, List.length_nil] at *
     simp (disch := omega) only [go_sem, K.swaps_Renew, ↓reduceIte, va, li, e2, e4, e5, e6, Nat.reduceAdd, Nat.reduceSub]
end Go.Ev
namespace Go.Ev
open Go
variable [Lib] [Has1] [Has2] [Has3] [Has4]
theorem mapO_of {α β γ : Type} {f : β → Option γ} {g : α → β} {h : α → γ} : ∀ {l : List α}, (∀ x ∈ l, f (g x) = some (h x)) → mapO f (l.map g) = some (l.map h)
 | [], _ => rfl
 | a :: l, hh => by
   have ih := mapO_of (f := f) (g := g) (h := h) (l := l) fun x hx => hh x (List.mem_cons_of_mem _ hx)
   simp only [List.map_cons, mapO, hh a List.mem_cons_self, Option.bind_some, ih, Option.map_some]
theorem pairs_map {α : Type} (f g : Nat → α) : ∀ n, (List.range n).flatMap (fun i => [f i, g i]) = (List.range (2 * n)).map (fun k => if k % 2 = 0 then f (k / 2) else g (k / 2))
 | 0 => rfl
 | n + 1 => by
   have e : 2 * (n + 1) = 2 * n + 1 + 1 := by omega
   have e1 : (2 * n) % 2 = 0 := by omega
   have e2 : ¬ (2 * n + 1) % 2 = 0 := by omega
   have e3 : (2 * n) / 2 = n := by omega
   have e4 : (2 * n + 1) / 2 = n := by omega
   rw [List.range_succ, List.flatMap_append, pairs_map f g n, e, List.range_succ, List.range_succ, List.map_append, List.map_append]
   simp only [List.map_cons, List.map_nil, List.flatMap_cons, List.flatMap_nil, if_pos e1, if_neg e2, e3, e4, List.append_assoc, List.append_nil, List.cons_append, List.nil_append]
def cpEl (s : Nat) (ws : List World) (i : Nat) : D := .agg [.ref (s + 2 * i + 1) 0 (nth ws i).tags.length, .ref (s + 2 * i + 2) 0 (nth ws i).whr.length]
def cpOb (ws : List World) (k : Nat) : Obj := if k % 2 = 0 then .arr 1 false 0 (ints (nth ws (k / 2)).tags) else .arr 2 false 0 (whs (nth ws (k / 2)).whr)
def cpH (s : Nat) (ws : List World) : Heap := .arr 2 false 0 ((List.range ws.length).map (cpEl s ws)) :: (List.range (2 * ws.length)).map (cpOb ws)
theorem cpOb_ren (f : Nat → Option Nat) (ws : List World) (k : Nat) : renObj f (cpOb ws k) = some (cpOb ws k) := by
 unfold cpOb
 split <;> simp only [renObj, ints, whs, ren_map, Option.map_some]
theorem cp_ren (s : Nat) (ws : List World) : mapO (renObj (backTo [] s)) (cpH 0 ws) = some (cpH s ws) := by
 have e1 : ∀ i : Nat, backTo [] s (0 + 2 * i + 1) = some (s + 2 * i + 1) := fun i => by simp [backTo]; omega
 have e2 : ∀ i : Nat, backTo [] s (0 + 2 * i + 2) = some (s + 2 * i + 2) := fun i => by simp [backTo]; omega
 have h1 : mapO (ren (backTo [] s) depth) ((List.range ws.length).map (cpEl 0 ws)) = some ((List.range ws.length).map (cpEl s ws)) := mapO_of fun i _ => by
  simp only [cpEl, depth, ren, mapO, e1, e2, Option.map_some, Option.bind_some]
 have h2 : mapO (renObj (backTo [] s)) ((List.range (2 * ws.length)).map (cpOb ws)) = some ((List.range (2 * ws.length)).map (cpOb ws)) := mapO_of fun k _ => cpOb_ren _ ws k
 unfold cpH
 simp only [mapO, renObj, h1, h2, Option.map_some, Option.bind_some]
def cpNew (n : Nat) : List Nat := (List.range (2 * n)).map (fun k => if k % 2 = 0 then 4 + 3 * (k / 2) else 5 + 3 * (k / 2))
theorem cpNew_nodup (n : Nat) : ([3] ++ cpNew n).Nodup := by
 have h : (cpNew n).Pairwise (· < ·) := by
  unfold cpNew
  rw [List.pairwise_map]
  refine List.Pairwise.imp (fun {a b} hab => ?_) List.pairwise_lt_range
  have : a < b := hab
  split <;> split <;> omega
 rw [List.singleton_append, List.nodup_cons]
 refine ⟨fun hm => ?_, List.Pairwise.imp (fun {a b} hab => Nat.ne_of_lt hab) h⟩
 unfold cpNew at hm
 obtain ⟨k, _, hk⟩ := List.mem_map.1 hm
 split at hk <;> omega
theorem cpNew_get (n k : Nat) (h : k < 2 * n) : ([3] ++ cpNew n)[k + 1]? = some (if k % 2 = 0 then 4 + 3 * (k / 2) else 5 + 3 * (k / 2)) := by
 unfold cpNew
 rw [List.singleton_append, List.getElem?_cons_succ, List.getElem?_map, List.getElem?_range h]; rfl
theorem finish_two (H : Heap) (ws : List World) (h3 : H[3]? = some (.arr 2 false 0 ((List.range ws.length).map (fun i => D.agg [.ref (4 + 3 * i) 0 (nth ws i).tags.length, .ref (5 + 3 * i) 0 (nth ws i).whr.length]))))
 (ha : ∀ i, i < ws.length → H[4 + 3 * i]? = some (.arr 1 false 0 (ints (nth ws i).tags))) (hb : ∀ i, i < ws.length → H[5 + 3 * i]? = some (.arr 2 false 0 (whs (nth ws i).whr))) :
 finish 0 2 H [.agg [.ref 3 0 ws.length]] = some (.agg [.ref 0 0 ws.length], cpH 0 ws) := by
 have hold : ([D.agg [.ref 3 0 ws.length]].all (old 0 depth) && (H.take 0).all (fun o => o.ds.all (old 0 depth))) = false := by simp [old, depth]
 have nd := cpNew_nodup ws.length
 have hids : idsOf H [3] = cpNew ws.length := by
  simp only [idsOf, List.flatMap_cons, List.flatMap_nil, List.append_nil, h3, Obj.ds, List.flatMap_map]
  simp only [ids, depth, List.flatMap_cons, List.flatMap_nil, List.append_nil, List.cons_append, List.nil_append]
  exact pairs_map _ _ _
 have hpick : pick H (cpNew ws.length) = some ((List.range (2 * ws.length)).map (cpOb ws)) := by
  refine pick_get' (by unfold cpNew; simp) fun k i o hk ho => ?_
  unfold cpNew at hk
  rw [List.getElem?_map] at hk ho
  have hl : k < 2 * ws.length := by
   cases hr : (List.range (2 * ws.length))[k]? with
   | none => rw [hr] at hk; simp at hk
   | some v => have := (List.getElem?_eq_some_iff.1 hr).1; simpa using this
  rw [List.getElem?_range hl] at hk ho
  simp only [Option.map_some, Option.some.injEq] at hk ho
  subst hk; subst ho
  unfold cpOb
  split
  · exact ha _ (by omega)
  · exact hb _ (by omega)
 have hch : (((List.range (2 * ws.length)).map (cpOb ws)).flatMap fun o => o.ds.flatMap (arrs H depth)) = [] := by
  rw [List.flatMap_eq_nil_iff]
  intro o ho
  obtain ⟨k, _, rfl⟩ := List.mem_map.1 ho
  unfold cpOb
  split <;> simp only [Obj.ds, ints, whs, arrs_t]
 have hfz : mapO (freezeArr H) ((List.range (2 * ws.length)).map (cpOb ws)) = some ((List.range (2 * ws.length)).map (cpOb ws)) := mapO_of fun k _ => by
  have key : ∀ ts : List T, mapO (fun d => (frz H depth d).map D.t) (ts.map .t) = some (ts.map .t) := fun ts => mapO_of fun x _ => by simp only [frz_t, Option.map_some]
  unfold cpOb
  split <;> simp only [freezeArr, ints, whs, key, Option.map_some]
 have hk : keepLv H (max 2 1) (List.range 0) ([D.agg [.ref 3 0 ws.length]].flatMap (ids depth) ++ idsOf H (List.range 0)) =
  some ([3] ++ cpNew ws.length, .arr 2 false 0 ((List.range ws.length).map (fun i => D.agg [.ref (4 + 3 * i) 0 (nth ws i).tags.length, .ref (5 + 3 * i) 0 (nth ws i).whr.length])) :: (List.range (2 * ws.length)).map (cpOb ws)) := by
  have e1 : [D.agg [.ref 3 0 ws.length]].flatMap (ids depth) ++ idsOf H (List.range 0) = [3] := by simp [ids, depth, idsOf]
  have hnew : (addNew [] [3]).drop 0 = [3] := by simp [addNew]
  have hm : max 2 1 = 1 + 1 := rfl
  rw [e1, hm]
  simp only [List.range_zero]
  unfold keepLv
  simp only [List.length_nil, hnew, pick, h3, Option.bind_some, Option.map_some, Nat.one_ne_zero, if_false]
  unfold keepLv
  simp only [List.nil_append, hids, addNew_app _ _ nd, List.length_singleton, List.drop_left', hpick, Option.bind_some, if_true, hch, List.all_nil, hfz, keepLv, Option.map_some, List.append_nil, List.singleton_append, List.drop_one, List.tail_cons]
 unfold finish
 rw [if_neg (by omega), Option.bind_some, hold, if_neg (by simp), hk]
 have i0 : idxOf ([3] ++ cpNew ws.length) 3 = some 0 := rfl
 have iA : ∀ i, i < ws.length → idxOf ([3] ++ cpNew ws.length) (4 + 3 * i) = some (0 + 2 * i + 1) := fun i hi => by
  have g := cpNew_get ws.length (2 * i) (by omega)
  rw [if_pos (by omega), show 4 + 3 * (2 * i / 2) = 4 + 3 * i by omega] at g
  rw [show 0 + 2 * i + 1 = 2 * i + 1 by omega]
  exact idxOf_range' _ _ _ nd g
 have iB : ∀ i, i < ws.length → idxOf ([3] ++ cpNew ws.length) (5 + 3 * i) = some (0 + 2 * i + 2) := fun i hi => by
  have g := cpNew_get ws.length (2 * i + 1) (by omega)
  rw [if_neg (by omega), show 5 + 3 * ((2 * i + 1) / 2) = 5 + 3 * i by omega] at g
  rw [show 0 + 2 * i + 2 = 2 * i + 1 + 1 by omega]
  exact idxOf_range' _ _ _ nd g
 have hes : mapO (ren (idxOf ([3] ++ cpNew ws.length)) depth) ((List.range ws.length).map (fun i => D.agg [.ref (4 + 3 * i) 0 (nth ws i).tags.length, .ref (5 + 3 * i) 0 (nth ws i).whr.length])) = some ((List.range ws.length).map (cpEl 0 ws)) := mapO_of fun i hi => by
  have hi := List.mem_range.1 hi
  simp only [cpEl, depth, ren, mapO, iA i hi, iB i hi, Option.map_some, Option.bind_some]
 have hob : mapO (renObj (idxOf ([3] ++ cpNew ws.length))) ((List.range (2 * ws.length)).map (cpOb ws)) = some ((List.range (2 * ws.length)).map (cpOb ws)) := mapO_of fun k _ => cpOb_ren _ ws k
 simp only [depth] at hes
 simp only [Option.bind_some, List.range_zero, List.nil_append, List.take_zero, resArrs, Nat.succ_ne_zero, if_false, List.all_nil, if_true, mapO, renObj, hes, hob, ren, depth, i0, Option.map_some, tupOf, cpH]
theorem hs_get {H t : Heap} {i k : Nat} {o : Obj} (h : i < H.length) : (H.set k o ++ t)[i]? = (H.set k o)[i]? := List.getElem?_append_left (by rw [List.length_set]; exact h)
theorem hs_set {H t : Heap} {i k : Nat} {o o' : Obj} (h : i < H.length) : (H.set k o ++ t).set i o' = (H.set k o).set i o' ++ t := List.set_append_left _ _ (by rw [List.length_set]; exact h)
theorem copy2_loop (l : List World) (h1 : l.length ≤ 1000000) (h2 : ∀ x ∈ l, x.sz) (a : D) : ∃ q, exS CALL K.ref26_Copy_v1_l1 ⟨[a, .bp 0 0, .bp 1 0, .bp 2 0, I 0], [.box [.t (tX l)], .box [.nil], .box [.ref 3 0 0], .arr 2 false 0 []]⟩ = some q ∧
 ∃ H, q = (.exit 0, ⟨[.und, .bp 0 0, .bp 1 0, .bp 2 0, I l.length], H⟩) ∧ H[1]? = some (.box [.nil]) ∧ H[2]? = some (.box [.ref 3 0 l.length]) ∧
  H[3]? = some (.arr 2 false 0 ((List.range l.length).map (fun i => D.agg [.ref (4 + 3 * i) 0 (nth l i).tags.length, .ref (5 + 3 * i) 0 (nth l i).whr.length]))) ∧
  (∀ i, i < l.length → H[4 + 3 * i]? = some (.arr 1 false 0 (ints (nth l i).tags))) ∧ (∀ i, i < l.length → H[5 + 3 * i]? = some (.arr 2 false 0 (whs (nth l i).whr))) := by
 refine loop_inv (fun j st => ∃ H, st = ⟨[.und, .bp 0 0, .bp 1 0, .bp 2 0, I j], H⟩ ∧ H.length = 4 + 3 * j ∧ H[0]? = some (.box [.t (tX l)]) ∧ H[1]? = some (.box [.nil]) ∧ H[2]? = some (.box [.ref 3 0 j]) ∧
  H[3]? = some (.arr 2 false 0 ((List.range j).map (fun i => D.agg [.ref (4 + 3 * i) 0 (nth l i).tags.length, .ref (5 + 3 * i) 0 (nth l i).whr.length]))) ∧
  (∀ i, i < j → H[4 + 3 * i]? = some (.arr 1 false 0 (ints (nth l i).tags))) ∧ (∀ i, i < j → H[5 + 3 * i]? = some (.arr 2 false 0 (whs (nth l i).whr)))) l.length _ ?_ ?_ ?_
 · exact ⟨_, rfl, rfl, rfl, rfl, rfl, rfl, fun i hi => absurd hi (by omega), fun i hi => absurd hi (by omega)⟩
 · rintro j st hj ⟨H, rfl, hlen, e0, e1, e2, e3, hA, hB⟩
   have g : (l.map World.e)[j]? = some (nth l j).e := map_nth _ hj
   have c := copyWorld_ok1 (nth l j) (h2 _ (nth_mem hj))
   have rs : (List.range (j + 1)).map (fun i => D.agg [.ref (4 + 3 * i) 0 (nth l i).tags.length, .ref (5 + 3 * i) 0 (nth l i).whr.length]) = (List.range j).map (fun i => D.agg [.ref (4 + 3 * i) 0 (nth l i).tags.length, .ref (5 + 3 * i) 0 (nth l i).whr.length]) ++ [D.agg [.ref (4 + 3 * j) 0 (nth l j).tags.length, .ref (5 + 3 * j) 0 (nth l j).whr.length]] := by
    rw [List.range_succ, List.map_append]; rfl
   have el : ((List.range j).map (fun i => D.agg [.ref (4 + 3 * i) 0 (nth l i).tags.length, .ref (5 + 3 * i) 0 (nth l i).whr.length])).length = j := by simp
   generalize (List.range j).map (fun i => D.agg [.ref (4 + 3 * i) 0 (nth l i).tags.length, .ref (5 + 3 * i) 0 (nth l i).whr.length]) = es at *
   have n1 : 4 + 3 * j = H.length := hlen.symm
   have n2 : 5 + 3 * j = H.length + 1 := by omega
   rw [n1, n2] at rs
   refine ⟨⟨[.und, .bp 0 0, .bp 1 0, .bp 2 0, I (j + 1)], (H.set 3 (.arr 2 false 0 (es ++ [D.agg [.ref H.length 0 (nth l j).tags.length, .ref (H.length + 1) 0 (nth l j).whr.length]]))).set 2 (.box [.ref 3 0 (j + 1)]) ++ [.arr 1 false 0 (ints (nth l j).tags), .arr 2 false 0 (whs (nth l j).whr), .arr 2 false 0 [D.agg [.ref H.length 0 (nth l j).tags.length, .ref (H.length + 1) 0 (nth l j).whr.length]]]⟩, ?_, _, rfl, ?_⟩
   · generalize hx : nth l j = x at *
     obtain ⟨tags, whr⟩ := x
     simp only [ints, whs] at *
     clear rs hA hB
     simp (disch := omega) only [go_sem, K.ref26_Copy_v1_l1b, ↓reduceIte, Nat.reduceAdd, Nat.reduceSub, g, c, e0, e1, e2, e3, el, hp_get, hp_get_len, hp_get_add, hp_set, hp_set_len, hp_set_add, hp_assoc, hs_get, hs_set, hp_set_ne, List.length_set, Nat.add_assoc, Nat.sub_zero]
   · have old_ : ∀ (o o' : Obj) (t : Heap) (i : Nat), i < H.length → i ≠ 2 → i ≠ 3 → ((H.set 3 o).set 2 o' ++ t)[i]? = H[i]? := fun o o' t i h1 h2 h3 => by
      rw [List.getElem?_append_left (by simp; exact h1), hp_set_ne (fun e => h2 e.symm), hp_set_ne (fun e => h3 e.symm)]
     have new_ : ∀ (o o' : Obj) (t : Heap) (k : Nat), ((H.set 3 o).set 2 o' ++ t)[H.length + k]? = t[k]? := fun o o' t k => by
      rw [List.getElem?_append_right (by simp)]; simp
     refine ⟨by simp; omega, ?_, ?_, ?_, ?_, ?_, ?_⟩
     · rw [old_ _ _ _ 0 (by omega) (by omega) (by omega)]; exact e0
     · rw [old_ _ _ _ 1 (by omega) (by omega) (by omega)]; exact e1
     · rw [List.getElem?_append_left (by simp; omega), hp_set_get (by simp; omega)]
     · rw [List.getElem?_append_left (by simp; omega), hp_set_ne (by omega), hp_set_get (by omega), rs]
     · intro i hi
       by_cases c : i < j
       · rw [old_ _ _ _ _ (by omega) (by omega) (by omega)]; exact hA i c
       · have : i = j := by omega
         subst this
         rw [n1, show H.length = H.length + 0 from rfl, new_]; rfl
     · intro i hi
       by_cases c : i < j
       · rw [old_ _ _ _ _ (by omega) (by omega) (by omega)]; exact hB i c
       · have : i = j := by omega
         subst this
         rw [n2, new_]; rfl
 · rintro st ⟨H, rfl, hlen, e0, e1, e2, e3, hA, hB⟩
   refine ⟨(.exit 0, ⟨[.und, .bp 0 0, .bp 1 0, .bp 2 0, I l.length], H⟩), ?_, by simp, H, rfl, e1, e2, e3, hA, hB⟩
   simp (disch := omega) only [go_sem, K.ref26_Copy_v1_l1b, ↓reduceIte, Nat.reduceAdd, Nat.reduceSub, e0]
theorem copyBel_ok2 (b : Bel) (h : b.sz) : CALL 2 N.ref26_Copy_v1 [.t b.e] [] = some (.agg [.ref 0 0 b.worlds.length], cpH 0 b.worlds) := by
 refine CALL_of K.t_ref26_Copy_v1 rfl ?_
 obtain ⟨h1, h2⟩ := h
 obtain ⟨q, hq, H, rfl, e1, e2, e3, hA, hB⟩ := copy2_loop b.worlds h1 h2 (.t b.e)
 have fin := finish_two (H.set 1 (.box [.ref 3 0 b.worlds.length])) b.worlds (by rw [hp_set_ne (by omega)]; exact e3) (fun i hi => by rw [hp_set_ne (by omega)]; exact hA i hi) (fun i hi => by rw [hp_set_ne (by omega)]; exact hB i hi)
 have hl := hp_lt e1
 obtain ⟨l⟩ := b
 simp only at *
 simp (disch := omega) only [go_sem, K.ref26_Copy_v1, ↓reduceIte, hq, e1, e2, hp_set_get, fin, Nat.reduceAdd, Nat.reduceSub]
theorem frz_congr {H H' : Heap} : ∀ (k : Nat) (d : D), (∀ i ∈ arrs H k d, ∃ sz pin pin' ep es, H[i]? = some (.arr sz pin ep es) ∧ H'[i]? = some (.arr sz pin' ep es)) → frz H' k d = frz H k d ∧ arrs H' k d = arrs H k d := by
 intro k
 induction k with
 | zero => intro d _; cases d <;> exact ⟨rfl, rfl⟩
 | succ k ih =>
   intro d h
   have list : ∀ es : List D, (∀ i ∈ es.flatMap (arrs H k), ∃ sz pin pin' ep es, H[i]? = some (.arr sz pin ep es) ∧ H'[i]? = some (.arr sz pin' ep es)) → mapO (frz H' k) es = mapO (frz H k) es ∧ es.flatMap (arrs H' k) = es.flatMap (arrs H k) := by
    intro es
    induction es with
    | nil => intro _; exact ⟨rfl, rfl⟩
    | cons e es ihl =>
      intro he
      obtain ⟨a1, a2⟩ := ih e fun i hi => he i (by simp [hi])
      obtain ⟨b1, b2⟩ := ihl fun i hi => he i (by rw [List.flatMap_cons]; exact List.mem_append_right _ hi)
      exact ⟨by simp only [mapO, a1, b1], by simp only [List.flatMap_cons, a2, b2]⟩
   cases d with
   | agg cs =>
     simp only [arrs] at h
     obtain ⟨a1, a2⟩ := list cs h
     exact ⟨by simp only [frz, a1], by simp only [arrs, a2]⟩
   | ref id ep n =>
     obtain ⟨sz, pin, pin', ep', es, e1, e2⟩ := h id (by simp [arrs])
     have : ∀ i ∈ es.flatMap (arrs H k), ∃ sz pin pin' ep es, H[i]? = some (.arr sz pin ep es) ∧ H'[i]? = some (.arr sz pin' ep es) := fun i hi => h i (by simp only [arrs, e1]; exact List.mem_cons_of_mem _ hi)
     obtain ⟨a1, a2⟩ := list es this
     refine ⟨?_, by simp only [arrs, e1, e2, a2]⟩
     simp only [frz, arrAt, e1, e2]
     by_cases c : ep = ep' ∧ n = es.length
     · simp only [if_pos c, Option.bind_some, a1]
     · simp only [if_neg c, Option.bind_none]
   | sub id ep n lo hi =>
     obtain ⟨sz, pin, pin', ep', es, e1, e2⟩ := h id (by simp [arrs])
     have : ∀ i ∈ es.flatMap (arrs H k), ∃ sz pin pin' ep es, H[i]? = some (.arr sz pin ep es) ∧ H'[i]? = some (.arr sz pin' ep es) := fun i hi => h i (by simp only [arrs, e1]; exact List.mem_cons_of_mem _ hi)
     obtain ⟨a1, a2⟩ := list es this
     have : ∀ i ∈ ((es.drop lo).take (hi - lo)).flatMap (arrs H k), ∃ sz pin pin' ep es, H[i]? = some (.arr sz pin ep es) ∧ H'[i]? = some (.arr sz pin' ep es) := fun i hi => by
      obtain ⟨e, he, hi⟩ := List.mem_flatMap.1 hi
      exact this i (List.mem_flatMap.2 ⟨e, List.mem_of_mem_drop (List.mem_of_mem_take he), hi⟩)
     obtain ⟨b1, b2⟩ := list _ this
     refine ⟨?_, by simp only [arrs, e1, e2, a2]⟩
     simp only [frz, arrAt, e1, e2]
     by_cases c : ep = ep' ∧ n = es.length
     · simp only [if_pos c, Option.bind_some, b1]
     · simp only [if_neg c, Option.bind_none]
   | _ => exact ⟨rfl, rfl⟩
theorem flatMap_eq {α β : Type} {f g : α → List β} : ∀ {l : List α}, (∀ x ∈ l, f x = g x) → l.flatMap f = l.flatMap g
 | [], _ => rfl
 | a :: l, h => by rw [List.flatMap_cons, List.flatMap_cons, h a List.mem_cons_self, flatMap_eq fun x hx => h x (List.mem_cons_of_mem _ hx)]
theorem Rp.frzK {H : Heap} {id : Nat} {es : List D} {fa fb : Nat → Nat} {out : List World} (hr : Rp H id es fa fb out) (k : Nat) :
 Go.Ev.frz H (k + 4) (.ref id 0 out.length) = some (.sl (out.map World.e)) ∧ arrs H (k + 4) (.ref id 0 out.length) = id :: (List.range out.length).flatMap (fun j => [fa j, fb j]) := by
 have hl := hr.len
 have key : ∀ (j : Nat) (hj : j < out.length), Go.Ev.frz H (k + 3) (.agg [.ref (fa j) 0 (nth out j).tags.length, .ref (fb j) 0 (nth out j).whr.length]) = some (nth out j).e ∧
  arrs H (k + 3) (.agg [.ref (fa j) 0 (nth out j).tags.length, .ref (fb j) 0 (nth out j).whr.length]) = [fa j, fb j] := by
  intro j hj
  have h1 := hr.ha j hj
  have h2 := hr.hb j hj
  simp (disch := omega) only [go_sem, h1, h2, ints, whs, ↓reduceIte]
 have hes : es = (List.range out.length).map (fun j => D.agg [.ref (fa j) 0 (nth out j).tags.length, .ref (fb j) 0 (nth out j).whr.length]) := by
  refine List.ext_getElem? fun j => ?_
  by_cases c : j < out.length
  · rw [hr.el j c, List.getElem?_map, List.getElem?_range c]; rfl
  · rw [List.getElem?_eq_none (by omega), List.getElem?_eq_none (by simp; omega)]
 have hout : out.map World.e = (List.range out.length).map (fun j => (nth out j).e) := by
  refine List.ext_getElem? fun j => ?_
  by_cases c : j < out.length
  · rw [map_nth _ c, List.getElem?_map, List.getElem?_range c]; rfl
  · rw [List.getElem?_eq_none (by simp; omega), List.getElem?_eq_none (by simp; omega)]
 constructor
 · simp only [Go.Ev.frz, arrAt, hr.arr]
   rw [if_pos (by simp [hl]), Option.bind_some, hes, hout]
   rw [mapO_of (h := fun j => (nth out j).e) fun j hj => (key j (List.mem_range.1 hj)).1]; rfl
 · simp only [arrs, hr.arr, hes, List.flatMap_map]
   congr 1
   refine flatMap_eq fun j hj => (key j (List.mem_range.1 hj)).2
section
variable {bm : Mine} (hm : bm.ok) {t : Int} (i : Nat) {H : Heap} {io iB iO n a fbi tl : Nat} {es : List D} {whr : List Wh} (e1 : H[iO]? = some (.box [.ref io 0 n])) (e2 : H[io]? = some (.arr 2 false 0 es)) (e3 : es.length = n)
 (e4 : es[i]? = some (.agg [.ref a 0 tl, .ref fbi 0 whr.length])) (e5 : H[fbi]? = some (.arr 2 false 0 (whs whr))) (e6 : H[iB]? = some (.box (mineCells bm))) (hi : i < n) (hn : n ≤ 1000000) (hl : whr.length ≤ 1000000)
include hm e1 e2 e3 e4 e5 e6 hi hn hl
end
theorem Rp.app {H : Heap} {id : Nat} {es : List D} {fa fb : Nat → Nat} {out : List World} (hr : Rp H id es fa fb out) (t : Heap) : Rp (H ++ t) id es fa fb out :=
 ⟨by rw [hp_get (hp_lt hr.arr)]; exact hr.arr, hr.len, hr.el, fun j hj => by rw [hp_get (hp_lt (hr.ha j hj))]; exact hr.ha j hj, fun j hj => by rw [hp_get (hp_lt (hr.hb j hj))]; exact hr.hb j hj, hr.na, hr.nb, hr.nab, hr.nbb⟩
structure SlH (H : Heap) (b : List World) (bm : Mine) (iB iO io : Nat) (es : List D) (fa fb : Nat → Nat) (A : List Nat) (O : List World) : Prop where
 h1 : H[1]? = some (.box [.ref 3 0 b.length])
 h2 : H[2]? = some (.box [.nil])
 hB : H[iB]? = some (.box (mineCells bm))
 hO : H[iO]? = some (.box [.ref io 0 O.length])
 rp : Rp H io es fa fb O
 ar : ∀ i ∈ A, ∃ sz pin ep es, H[i]? = some (.arr sz pin ep es)
 nA : ∀ i ∈ A, ∀ j, j < O.length → i ≠ fb j
 eA : arrs H 7 (.ref 3 0 b.length) = A
 fr : frz H 7 (.ref 3 0 b.length) = some (.sl (b.map World.e))
theorem SlH.step {H : Heap} {b : List World} {bm : Mine} {iB iO io : Nat} {es : List D} {fa fb : Nat → Nat} {A : List Nat} {O : List World} (h : SlH H b bm iB iO io es fa fb A O) {i : Nat} (hi : i < O.length) (x : World) (ht : (nth O i).tags = x.tags)
 (hw : x.whr.length = (nth O i).whr.length) (o : Obj) : SlH (H.set (fb i) (.arr 2 false 0 (whs x.whr)) ++ [o]) b bm iB iO io es fa fb A (O.set i x) := by
 have hb := h.rp.hb i hi
 have nb : ∀ {k : Nat} {cs : List D}, H[k]? = some (.box cs) → (H.set (fb i) (.arr 2 false 0 (whs x.whr)) ++ [o])[k]? = some (.box cs) := fun {k cs} hk => by
  have ne : fb i ≠ k := fun e => by rw [e, hk] at hb; cases hb
  rw [hp_get (by rw [List.length_set]; exact hp_lt hk), hp_set_ne ne]; exact hk
 have na : ∀ k ∈ A, (H.set (fb i) (.arr 2 false 0 (whs x.whr)) ++ [o])[k]? = H[k]? := fun k hk => by
  obtain ⟨sz, pin, ep, es', e⟩ := h.ar k hk
  rw [hp_get (by rw [List.length_set]; exact hp_lt e), hp_set_ne (fun e => h.nA k hk i hi e.symm)]
 have fc := frz_congr (H := H) (H' := H.set (fb i) (.arr 2 false 0 (whs x.whr)) ++ [o]) 7 (.ref 3 0 b.length) (fun k hk => by
  rw [h.eA] at hk
  obtain ⟨sz, pin, ep, es', e⟩ := h.ar k hk
  exact ⟨sz, pin, pin, ep, es', e, by rw [na k hk]; exact e⟩)
 refine ⟨nb h.h1, nb h.h2, nb h.hB, by rw [List.length_set]; exact nb h.hO, (h.rp.merge hi x ht hw).app _, fun k hk => ?_, by rw [List.length_set]; exact h.nA, by rw [fc.2]; exact h.eA, by rw [fc.1]; exact h.fr⟩
 obtain ⟨sz, pin, ep, es', e⟩ := h.ar k hk
 exact ⟨sz, pin, ep, es', by rw [na k hk]; exact e⟩
end Go.Ev
namespace Go.Ev
open Go
variable [Lib] [Has1] [Has2] [Has3] [Has4]
theorem backP_cp (H : Heap) (ws : List World) (n : Nat) : backP H (.agg [.ref 0 0 n], cpH 0 ws) = some (.agg [.ref H.length 0 n], H ++ cpH H.length ws) := by
 have e : backP H (.agg [.ref 0 0 n], cpH 0 ws) = (ren (backTo [] H.length) depth (.agg [.ref 0 0 n])).bind fun r' => (mapO (renObj (backTo [] H.length)) (cpH 0 ws)).map fun os => (r', H ++ os) := by
  unfold backP
  rw [if_neg (by simp [cpH])]
 rw [e, cp_ren]
 simp [ren, depth, mapO, backTo]
theorem callW_cp (H H1 : Heap) (ws : List World) (n : Nat) : callW H H1 [] (.agg [.ref 0 0 n], cpH 0 ws) = some (.agg [.ref H.length 0 n], H1 ++ cpH H.length ws) := by
 have e : callW H H1 [] (.agg [.ref 0 0 n], cpH 0 ws) = callB H1 H.length [] (.agg [.ref 0 0 n], cpH 0 ws) := by
  unfold callW
  rw [if_neg (by simp [cpH])]
 have e2 : ren (backTo [] H.length) 8 (.agg [.ref 0 0 n]) = some (.agg [.ref H.length 0 n]) := by simp [ren, mapO, backTo]
 rw [e, callB_eq, e2, Option.bind_some]
 unfold callZ
 rw [cp_ren]
 simp [callY, putBack]
theorem hp2_get {a b t : Heap} : (a ++ b ++ t)[a.length + b.length]? = t[0]? := by
 rw [List.getElem?_append_right (by simp)]; simp
def rpA (fa fb : Nat → Nat) (n : Nat) : List Nat := (List.range n).flatMap (fun j => [fa j, fb j])
theorem Rp.in6 {H : Heap} {id : Nat} {es : List D} {fa fb : Nat → Nat} {out : List World} (hr : Rp H id es fa fb out) : mapO (Go.Ev.frz H 6) es = some (out.map World.e) ∧ arrsL H 6 es = rpA fa fb out.length := by
 obtain ⟨h1, h2⟩ := hr.frzK 3
 constructor
 · simp only [Go.Ev.frz, arrAt, hr.arr] at h1
   rw [if_pos (by simp [hr.len]), Option.bind_some] at h1
   obtain ⟨x, hx, he⟩ := Option.map_eq_some_iff.1 h1
   cases he
   exact hx
 · simp only [arrs, hr.arr] at h2
   exact (List.cons.inj h2).2
theorem cp_len (s : Nat) (ws : List World) : (cpH s ws).length = 2 * ws.length + 1 := by simp [cpH]
theorem cpOb_get {X : Heap} {s : Nat} (hs : X.length = s) (ws : List World) (t : Heap) {k : Nat} (hk : k < 2 * ws.length) : (X ++ cpH s ws ++ t)[s + k + 1]? = some (cpOb ws k) := by
 subst hs
 rw [List.append_assoc, List.getElem?_append_right (by omega), show X.length + k + 1 - X.length = k + 1 by omega, List.getElem?_append_left (by rw [cp_len]; omega)]
 unfold cpH
 rw [List.getElem?_cons_succ, List.getElem?_map, List.getElem?_range hk]; rfl
theorem cp_Rp {X : Heap} {s : Nat} (hs : X.length = s) (ws : List World) (t : Heap) : Rp (X ++ cpH s ws ++ t) s ((List.range ws.length).map (cpEl s ws)) (fun j => s + 2 * j + 1) (fun j => s + 2 * j + 2) ws where
 arr := by
  subst hs
  rw [List.append_assoc, List.getElem?_append_right (Nat.le_refl _), Nat.sub_self]; rfl
 len := by simp
 el := fun j hj => by rw [List.getElem?_map, List.getElem?_range hj]; rfl
 ha := fun j hj => by
  have := cpOb_get hs ws t (k := 2 * j) (by omega)
  rw [this]
  unfold cpOb
  rw [if_pos (by omega), show 2 * j / 2 = j by omega]
 hb := fun j hj => by
  have := cpOb_get hs ws t (k := 2 * j + 1) (by omega)
  rw [show s + 2 * j + 2 = s + (2 * j + 1) + 1 by omega, this]
  unfold cpOb
  rw [if_neg (by omega), show (2 * j + 1) / 2 = j by omega]
 na := fun j _ => by omega
 nb := fun j _ => by omega
 nab := fun i j _ _ => by omega
 nbb := fun i j _ _ h => by omega
end Go.Ev
namespace Go.Ev
open Go
variable [Lib] [Has1] [Has2] [Has3] [Has4] [Has5] [Has6] [Has7] [Has8] [Has9] [Has10] [Has11] [Has12] [Has13]
theorem rn_plain (m : Mine) (t : Int) (w : Wh) : (plainB w m.places.length = false ↔ (renewF m w t).2 = 6) ∧ ((renewF m w t).2 = 0 ∨ (renewF m w t).2 = 6 ∨ (renewF m w t).2 = 8) := by
 unfold renewF
 cases h : plainB w m.places.length with
 | false => simp
 | true =>
   simp only [Bool.true_eq_false, if_false, false_iff]
   split <;> simp
abbrev rrH (m : Mine) (ws : List World) : Heap := [.box (mineCells m), .box [.t (.sl (ws.map World.e))], .box [.nil]]
abbrev rrV (t : Int) (i j : D) : List D := [.und, .und, I t, .bp 0 0, .bp 1 0, .bp 2 0, .und, i, j, .und, .und, .und, .und, .und]
theorem rr_in (m : Mine) (ws : List World) (i : Nat) (hi : i < ws.length) (hz : (nth ws i).sz) (t : Int) (z0 z1 z6 z9 z10 z11 z12 z13 : D) :
 ((List.range (nth ws i).whr.length).find? (rn6 m t (nth ws i).whr) = none ∧ exS CALL K.ref26_Renew_l2 ⟨[z0, z1, I t, .bp 0 0, .bp 1 0, .bp 2 0, z6, I i, I 0, z9, z10, z11, z12, z13], rrH m ws⟩ =
   some (.exit 2, ⟨rrV t (I i) (I (nth ws i).whr.length), rrH m ws⟩)) ∨
 ∃ j q, (List.range (nth ws i).whr.length).find? (rn6 m t (nth ws i).whr) = some j ∧ exS CALL K.ref26_Renew_l2 ⟨[z0, z1, I t, .bp 0 0, .bp 1 0, .bp 2 0, z6, I i, I 0, z9, z10, z11, z12, z13], rrH m ws⟩ = some q ∧
  q.1 = .ret ∧ q.2.vs[5]? = some (.bp 2 0) ∧ q.2.vs[6]? = some (I 6) ∧ q.2.H[2]? = some (.box [.t (.sl (ws.map World.e))]) := by
 have ex : (ws.map World.e)[i]? = some (nth ws i).e := map_nth _ hi
 obtain ⟨y1, y2, y3⟩ := hz
 refine loop_find (gc := false) (dead := [0, 1, 6, 9, 10, 11, 12, 13]) (c := K.ref26_Renew_l2b) (vs := [z0, z1, I t, .bp 0 0, .bp 1 0, .bp 2 0, z6, I i, I 0, z9, z10, z11, z12, z13]) (H := rrH m ws)
  (fun j => ⟨rrV t (I i) (I j), rrH m ws⟩) (nth ws i).whr.length (rn6 m t (nth ws i).whr) (fun _ q => q.1 = .ret ∧ q.2.vs[5]? = some (.bp 2 0) ∧ q.2.vs[6]? = some (I 6) ∧ q.2.H[2]? = some (.box [.t (.sl (ws.map World.e))])) (.exit 2, ⟨rrV t (I i) (I (nth ws i).whr.length), rrH m ws⟩) rfl ?_ ?_ ?_ (by simp)
 · intro j hj hq
   have pl := plain_ok (nth (nth ws i).whr j) m.places.length (by have := y3 _ (nth_mem hj); omega)
   have ew : ((nth ws i).whr.map Wh.e)[j]? = some (nth (nth ws i).whr j).e := map_nth _ hj
   have c : plainB (nth (nth ws i).whr j) m.places.length = true := by
    cases h : plainB (nth (nth ws i).whr j) m.places.length with
    | true => rfl
    | false => rw [(rn_plain m t _).1] at h; simp [rn6, h] at hq
   rw [c] at pl
   clear hq c y3
   generalize nth (nth ws i).whr j = w at *
   generalize nth ws i = x at *
   obtain ⟨tags, whr⟩ := x
   obtain ⟨tw, fw⟩ := w
   obtain ⟨places, roads⟩ := m
   simp only [rrV, rrH, mineCells] at *
   simp (disch := omega) only [go_sem, K.ref26_Renew_l2b, ↓reduceIte, ex, ew, pl, Nat.reduceAdd, Nat.reduceSub]
 · intro j hj hq
   have pl := plain_ok (nth (nth ws i).whr j) m.places.length (by have := y3 _ (nth_mem hj); omega)
   have ew : ((nth ws i).whr.map Wh.e)[j]? = some (nth (nth ws i).whr j).e := map_nth _ hj
   have c : plainB (nth (nth ws i).whr j) m.places.length = false := (rn_plain m t _).1.2 (by simpa [rn6] using hq)
   rw [c] at pl
   clear hq c y3
   generalize nth (nth ws i).whr j = w at *
   generalize nth ws i = x at *
   obtain ⟨tags, whr⟩ := x
   obtain ⟨tw, fw⟩ := w
   obtain ⟨places, roads⟩ := m
   simp only [rrV, rrH, mineCells] at *
   simp (disch := omega) only [go_sem, K.ref26_Renew_l2b, ↓reduceIte, ex, ew, pl, Bool.false_eq_true, Nat.reduceAdd, Nat.reduceSub]
   exact ⟨_, rfl, by simp, rfl, rfl, rfl, rfl⟩
 · generalize nth ws i = x at *
   obtain ⟨tags, whr⟩ := x
   simp only [rrV, rrH, mineCells] at *
   simp (disch := omega) only [go_sem, K.ref26_Renew_l2b, ↓reduceIte, ex, Nat.reduceAdd, Nat.reduceSub]
theorem rr_out (m : Mine) (ws : List World) (s1 : ws.length ≤ 1000000) (s2 : ∀ x ∈ ws, x.sz) (t : Int) (z0 z1 z6 z8 z9 z10 z11 z12 z13 : D) :
 ((List.range ws.length).find? (rx6 m t ws) = none ∧ exS CALL K.ref26_Renew_l1 ⟨[z0, z1, I t, .bp 0 0, .bp 1 0, .bp 2 0, z6, I 0, z8, z9, z10, z11, z12, z13], rrH m ws⟩ =
   some (.exit 0, ⟨rrV t (I ws.length) .und, rrH m ws⟩)) ∨
 ∃ j q, (List.range ws.length).find? (rx6 m t ws) = some j ∧ exS CALL K.ref26_Renew_l1 ⟨[z0, z1, I t, .bp 0 0, .bp 1 0, .bp 2 0, z6, I 0, z8, z9, z10, z11, z12, z13], rrH m ws⟩ = some q ∧
  q.1 = .ret ∧ q.2.vs[5]? = some (.bp 2 0) ∧ q.2.vs[6]? = some (I 6) ∧ q.2.H[2]? = some (.box [.t (.sl (ws.map World.e))]) := by
 refine loop_find (gc := false) (dead := [0, 1, 6, 8, 9, 10, 11, 12, 13]) (c := K.ref26_Renew_l1b) (vs := [z0, z1, I t, .bp 0 0, .bp 1 0, .bp 2 0, z6, I 0, z8, z9, z10, z11, z12, z13]) (H := rrH m ws)
  (fun j => ⟨rrV t (I j) .und, rrH m ws⟩) ws.length (rx6 m t ws) (fun _ q => q.1 = .ret ∧ q.2.vs[5]? = some (.bp 2 0) ∧ q.2.vs[6]? = some (I 6) ∧ q.2.H[2]? = some (.box [.t (.sl (ws.map World.e))])) (.exit 0, ⟨rrV t (I ws.length) .und, rrH m ws⟩) rfl ?_ ?_ ?_ (by simp)
 · intro j hj hq
   have inn := fun z0 z1 z6 z9 z10 z11 z12 z13 => rr_in m ws j hj (s2 _ (nth_mem hj)) t z0 z1 z6 z9 z10 z11 z12 z13
   rcases inn .und .und .und .und .und .und .und .und with ⟨e1, e2⟩ | ⟨k, q, e1, -⟩
   · simp only [rrV, rrH] at *
     simp (disch := omega) only [go_sem, K.ref26_Renew_l1b, ↓reduceIte, e2, Nat.reduceAdd, Nat.reduceSub]
   · simp [rx6, e1] at hq
 · intro j hj hq
   have inn := fun z0 z1 z6 z9 z10 z11 z12 z13 => rr_in m ws j hj (s2 _ (nth_mem hj)) t z0 z1 z6 z9 z10 z11 z12 z13
   rcases inn .und .und .und .und .und .und .und .und with ⟨e1, -⟩ | ⟨k, ⟨x, vs, H⟩, e1, e2, e3, e4, e5, e6⟩
   · simp [rx6, e1] at hq
   · simp only at e3 e4 e5 e6
     subst e3
     simp only [rrV, rrH] at *
     simp (disch := omega) only [go_sem, K.ref26_Renew_l1b, ↓reduceIte, e2, Nat.reduceAdd, Nat.reduceSub]
     exact ⟨_, rfl, by simp, rfl, e4, e5, e6⟩
 · simp only [rrV, rrH] at *
   simp (disch := omega) only [go_sem, K.ref26_Renew_l1b, ↓reduceIte, Nat.reduceAdd, Nat.reduceSub]
structure RnH (m : Mine) (ws out : List World) (k9 : Nat) (H : Heap) (es : List D) (fa fb : Nat → Nat) : Prop where
 e0 : H[0]? = some (.box (mineCells m))
 e1 : H[1]? = some (.box [.t (.sl (ws.map World.e))])
 e2 : H[2]? = some (.box [.nil])
 e9 : H[k9]? = some (.box [.ref 3 0 ws.length])
 rp : Rp H 3 es fa fb out
abbrev rsV (t : Int) (k9 : Nat) (i j : D) : List D := [.und, .und, I t, .bp 0 0, .bp 1 0, .bp 2 0, .und, .und, .und, .bp k9 0, i, j, .und, .und]
def rn0 (m : Mine) (t : Int) (l : List Wh) (j : Nat) : Prop := ∀ k, k < j → (renewF m (nth l k) t).2 = 0
theorem rs_step {m : Mine} (h : m.ok) (ws out : List World) (hol : out.length = ws.length) (t : Int) (k9 : Nat) {i : Nat} (hi : i < ws.length) (hz : (nth ws i).sz) {j : Nat} (hj : j < (nth ws i).whr.length) (ho : nth out i = ⟨(nth ws i).tags, rnN m t (nth ws i).whr j⟩)
 (H : Heap) (es : List D) (fa fb : Nat → Nat) (hr : RnH m ws out k9 H es fa fb) :
 ((renewF m (nth (nth ws i).whr j) t).2 = 0 → ∃ H', roundC false [0, 1, 6, 7, 8, 12, 13] H.length (exS CALL K.ref26_Renew_l4b ⟨rsV t k9 (I i) (I j), H⟩) = some ⟨rsV t k9 (I i) (I (j + 1)), H'⟩ ∧ RnH m ws (out.set i ⟨(nth ws i).tags, rnN m t (nth ws i).whr (j + 1)⟩) k9 H' es fa fb) ∧
 ((renewF m (nth (nth ws i).whr j) t).2 ≠ 0 → ∃ q, exS CALL K.ref26_Renew_l4b ⟨rsV t k9 (I i) (I j), H⟩ = some q ∧ q.1 = .ret ∧ q.2.vs[5]? = some (.bp 2 0) ∧ q.2.vs[6]? = some (I (renewF m (nth (nth ws i).whr j) t).2) ∧ q.2.H[2]? = some (.box [.t (.sl (ws.map World.e))])) := by
 obtain ⟨e0, e1, e2, e9, rp⟩ := hr
 obtain ⟨y1, y2, y3⟩ := hz
 have ex : (ws.map World.e)[i]? = some (nth ws i).e := map_nth _ hi
 have ew : ((nth ws i).whr.map Wh.e)[j]? = some (nth (nth ws i).whr j).e := map_nth _ hj
 have g := rrenew_ok h (nth (nth ws i).whr j) t (y3 _ (nth_mem hj))
 have l0 := hp_lt e0
 have l1 := hp_lt e1
 have l2 := hp_lt e2
 have l9 := hp_lt e9
 have arr := rp.arr
 have len := rp.len
 have el := rp.el i (by omega)
 have hb := rp.hb i (by omega)
 have lb := hp_lt hb
 have ll := rnN_len m t (nth ws i).whr j
 rw [ho] at el hb
 simp only [ll] at el hb
 have nb : fb i ≠ 0 ∧ fb i ≠ 1 ∧ fb i ≠ 2 ∧ fb i ≠ k9 := ⟨fun e => (by rw [e, e0] at hb; cases hb), fun e => (by rw [e, e1] at hb; cases hb), fun e => (by rw [e, e2] at hb; cases hb), fun e => (by rw [e, e9] at hb; cases hb)⟩
 constructor
 · intro c0
   have mg := (rp.merge (k := i) (by omega) ⟨(nth ws i).tags, rnN m t (nth ws i).whr (j + 1)⟩ (by rw [ho]) (by rw [ho]; simp only [rnN_len])).more [.box [I (renewF m (nth (nth ws i).whr j) t).1.time, .t (tL (renewF m (nth (nth ws i).whr j) t).1.frm)]]
   refine ⟨_, ?_, ?_, ?_, ?_, ?_, mg⟩
   · rw [c0] at g
     simp only [rnN]
     clear mg y3 ho
     generalize renewF m (nth (nth ws i).whr j) t = r at *
     obtain ⟨⟨t1, f1⟩, code⟩ := r
     generalize rnN m t (nth ws i).whr j = L at *
     generalize nth (nth ws i).whr j = w at *
     generalize nth ws i = x at *
     obtain ⟨tags, whr⟩ := x
     obtain ⟨tw, fw⟩ := w
     obtain ⟨places, roads⟩ := m
     simp only [rsV, ints, whs, mineCells] at *
     generalize fb i = b at *
     simp (disch := omega) only [go_sem, K.ref26_Renew_l4b, ↓reduceIte, ex, ew, g, e0, e1, e2, e9, arr, len, el, hb, hp_get, hp_get_len, hp_get_add, hp_set, hp_set_len, hp_assoc, Nat.reduceAdd, Nat.reduceSub]
   all_goals
    rw [hp_get (by rw [List.length_set]; omega), hp_set_ne (by omega)]
    assumption
 · intro c0
   clear y3 ho
   generalize renewF m (nth (nth ws i).whr j) t = r at *
   obtain ⟨⟨t1, f1⟩, code⟩ := r
   generalize nth (nth ws i).whr j = w at *
   generalize nth ws i = x at *
   obtain ⟨tags, whr⟩ := x
   obtain ⟨tw, fw⟩ := w
   obtain ⟨places, roads⟩ := m
   simp only [rsV, ints, whs, mineCells] at *
   simp (disch := omega) only [go_sem, K.ref26_Renew_l4b, ↓reduceIte, ex, ew, g, c0, e0, e1, e2, e9, hp_get, hp_get_len, hp_get_add, hp_set, hp_set_len, hp_assoc, Nat.reduceAdd, Nat.reduceSub]
   refine ⟨_, rfl, rfl, rfl, rfl, ?_⟩
   show (List.set H 2 _ ++ _)[2]? = _
   rw [hp_get (by rw [List.length_set]; exact l2), hp_set_get l2]
theorem rs_in {m : Mine} (h : m.ok) (ws out : List World) (hol : out.length = ws.length) (t : Int) (k9 : Nat) {i : Nat} (hi : i < ws.length) (hz : (nth ws i).sz) (ho : nth out i = nth ws i)
 (H : Heap) (es : List D) (fa fb : Nat → Nat) (hr : RnH m ws out k9 H es fa fb) (z0 z1 z6 z7 z8 z12 z13 : D) :
 ∃ q, exS CALL K.ref26_Renew_l4 ⟨[z0, z1, I t, .bp 0 0, .bp 1 0, .bp 2 0, z6, z7, z8, .bp k9 0, I i, I 0, z12, z13], H⟩ = some q ∧
  ((∃ H', q = (.exit 6, ⟨rsV t k9 (I i) (I (nth ws i).whr.length), H'⟩) ∧ RnH m ws (out.set i (rnW m t (nth ws i))) k9 H' es fa fb ∧ rn0 m t (nth ws i).whr (nth ws i).whr.length) ∨
   (q.1 = .ret ∧ q.2.vs[5]? = some (.bp 2 0) ∧ (∃ j, j < (nth ws i).whr.length ∧ (renewF m (nth (nth ws i).whr j) t).2 ≠ 0 ∧ q.2.vs[6]? = some (I (renewF m (nth (nth ws i).whr j) t).2)) ∧ q.2.H[2]? = some (.box [.t (.sl (ws.map World.e))]))) := by
 have y2 := hz.2.1
 refine loop_x (fun j st => ∃ H, st = ⟨rsV t k9 (I i) (I j), H⟩ ∧ RnH m ws (out.set i ⟨(nth ws i).tags, rnN m t (nth ws i).whr j⟩) k9 H es fa fb ∧ rn0 m t (nth ws i).whr j) (nth ws i).whr.length _ ?_ ?_ ?_
 · refine ⟨H, rfl, ?_, fun k hk => absurd hk (by omega)⟩
   have : out.set i ⟨(nth ws i).tags, rnN m t (nth ws i).whr 0⟩ = out := by
    show out.set i (nth ws i) = out
    rw [← ho, set_nth_id _ _ (by omega)]
   rw [this]; exact hr
 · rintro j st hj ⟨H, rfl, hR, h0⟩
   have st := rs_step h ws (out.set i ⟨(nth ws i).tags, rnN m t (nth ws i).whr j⟩) (by rw [List.length_set]; exact hol) t k9 hi hz hj (by rw [set_nth _ _ (by omega), if_pos rfl]) H es fa fb hR
   by_cases c : (renewF m (nth (nth ws i).whr j) t).2 = 0
   · obtain ⟨H', a, b⟩ := st.1 c
     rw [List.set_set] at b
     refine .inl ⟨_, a, H', rfl, b, fun k hk => ?_⟩
     by_cases e : k = j
     · rw [e]; exact c
     · exact h0 k (by omega)
   · obtain ⟨q, a, b, d, e, f⟩ := st.2 c
     exact .inr ⟨q, a, by rw [b]; simp, .inr ⟨b, d, ⟨j, hj, c, e⟩, f⟩⟩
 · rintro st ⟨H, rfl, hR, h0⟩
   rw [rnN_all] at hR
   refine ⟨(.exit 6, ⟨rsV t k9 (I i) (I (nth ws i).whr.length), H⟩), ?_, by simp, .inl ⟨H, rfl, hR, h0⟩⟩
   have ex : (ws.map World.e)[i]? = some (nth ws i).e := map_nth _ hi
   have e1 := hR.e1
   have l1 := hp_lt e1
   generalize nth ws i = x at *
   obtain ⟨tags, whr⟩ := x
   simp only [rsV] at *
   simp (disch := omega) only [go_sem, K.ref26_Renew_l4b, ↓reduceIte, ex, e1, Nat.reduceAdd, Nat.reduceSub]
def rnO (m : Mine) (t : Int) (ws : List World) : Nat → List World
 | 0 => ws
 | i + 1 => (rnO m t ws i).set i (rnW m t (nth ws i))
theorem rnO_len (m : Mine) (t : Int) (ws : List World) : ∀ j, (rnO m t ws j).length = ws.length
 | 0 => rfl
 | j + 1 => by simp only [rnO, List.length_set, rnO_len m t ws j]
theorem rnO_is (m : Mine) (t : Int) (l : List World) : ∀ j, j ≤ l.length → rnO m t l j = (l.take j).map (rnW m t) ++ l.drop j
 | 0, _ => by simp [rnO]
 | j + 1, h => by
   rw [rnO, rnO_is m t l j (by omega), take_nth (by omega : j < l.length), List.map_append]
   have e : l.drop j = nth l j :: l.drop (j + 1) := by rw [List.drop_eq_getElem_cons (by omega), nth_eq (List.getElem?_eq_getElem (by omega : j < l.length))]
   rw [e, List.set_append_right _ _ (by simp; omega)]
   simp
   rw [show j - min j l.length = 0 by omega]; rfl
theorem rnO_nth (m : Mine) (t : Int) (l : List World) {j : Nat} (h : j < l.length) : nth (rnO m t l j) j = nth l j := by
 rw [rnO_is m t l j (by omega)]
 refine nth_eq ?_
 rw [List.getElem?_append_right (by simp; omega), List.getElem?_drop]
 simp only [List.length_map, List.length_take]
 rw [show j + (j - min j l.length) = j by omega, nth_some h]
theorem rs_out {m : Mine} (h : m.ok) (ws : List World) (s1 : ws.length ≤ 1000000) (s2 : ∀ x ∈ ws, x.sz) (t : Int) (k9 : Nat) (H : Heap) (es : List D) (fa fb : Nat → Nat) (hr : RnH m ws ws k9 H es fa fb) (z0 z1 z6 z7 z8 z11 z12 z13 : D) :
 ∃ q, exS CALL K.ref26_Renew_l3 ⟨[z0, z1, I t, .bp 0 0, .bp 1 0, .bp 2 0, z6, z7, z8, .bp k9 0, I 0, z11, z12, z13], H⟩ = some q ∧
  ((∃ H', q = (.exit 4, ⟨rsV t k9 (I ws.length) .und, H'⟩) ∧ RnH m ws (ws.map (rnW m t)) k9 H' es fa fb ∧ ∀ i, i < ws.length → rn0 m t (nth ws i).whr (nth ws i).whr.length) ∨
   (q.1 = .ret ∧ q.2.vs[5]? = some (.bp 2 0) ∧ (∃ i j, i < ws.length ∧ j < (nth ws i).whr.length ∧ (renewF m (nth (nth ws i).whr j) t).2 ≠ 0 ∧ q.2.vs[6]? = some (I (renewF m (nth (nth ws i).whr j) t).2)) ∧ q.2.H[2]? = some (.box [.t (.sl (ws.map World.e))]))) := by
 refine loop_x (fun i st => ∃ H, st = ⟨rsV t k9 (I i) .und, H⟩ ∧ RnH m ws (rnO m t ws i) k9 H es fa fb ∧ ∀ k, k < i → rn0 m t (nth ws k).whr (nth ws k).whr.length) ws.length _ ?_ ?_ ?_
 · exact ⟨H, rfl, hr, fun k hk => absurd hk (by omega)⟩
 · rintro i st hi ⟨H, rfl, hR, h0⟩
   have e1 := hR.e1
   have l1 := hp_lt e1
   obtain ⟨q, hq, hQ⟩ := rs_in h ws (rnO m t ws i) (rnO_len m t ws i) t k9 hi (s2 _ (nth_mem hi)) (rnO_nth m t ws hi) H es fa fb hR .und .und .und .und .und .und .und
   rcases hQ with ⟨H', rfl, hR', h1⟩ | ⟨b, d, ⟨j, hj, c, e⟩, f⟩
   · refine .inl ⟨⟨rsV t k9 (I (i + 1)) .und, H'⟩, ?_, H', rfl, hR', fun k hk => ?_⟩
     · simp only [rsV] at *
       simp (disch := omega) only [go_sem, K.ref26_Renew_l3b, ↓reduceIte, e1, hq, Nat.reduceAdd, Nat.reduceSub]
     · by_cases ek : k = i
       · rw [ek]; exact h1
       · exact h0 k (by omega)
   · obtain ⟨x, vs, H2⟩ := q
     simp only at b d e f
     subst b
     refine .inr ⟨(.ret, ⟨vs, H2⟩), ?_, by simp, .inr ⟨rfl, d, ⟨i, j, hi, hj, c, e⟩, f⟩⟩
     simp only [rsV] at *
     simp (disch := omega) only [go_sem, K.ref26_Renew_l3b, ↓reduceIte, e1, hq, Nat.reduceAdd, Nat.reduceSub]
 · rintro st ⟨H, rfl, hR, h0⟩
   have e1 := hR.e1
   have l1 := hp_lt e1
   have fin : rnO m t ws ws.length = ws.map (rnW m t) := by rw [rnO_is m t ws ws.length (Nat.le_refl _)]; simp
   rw [fin] at hR
   refine ⟨(.exit 4, ⟨rsV t k9 (I ws.length) .und, H⟩), ?_, by simp, .inl ⟨H, rfl, hR, h0⟩⟩
   simp only [rsV]
   simp (disch := omega) only [go_sem, K.ref26_Renew_l3b, ↓reduceIte, e1, Nat.reduceAdd, Nat.reduceSub]
theorem rnE_08 (m : Mine) (t : Int) (l : List Wh) (h : ∀ j, j < l.length → (renewF m (nth l j) t).2 ≠ 6) {e : Int} (he : e = 0 ∨ e = 8) : ∀ j, j ≤ l.length → (rnE m t l e j = 0 ∨ rnE m t l e j = 8) ∧ (rnE m t l e j = 0 ↔ e = 0 ∧ rn0 m t l j)
 | 0, _ => ⟨he, ⟨fun h => ⟨h, fun k hk => absurd hk (by omega)⟩, fun h => h.1⟩⟩
 | j + 1, hj => by
   obtain ⟨a, b⟩ := rnE_08 m t l h he j (by omega)
   have c := (rn_plain m t (nth l j)).2
   have d := h j (by omega)
   have s : rn0 m t l (j + 1) ↔ rn0 m t l j ∧ (renewF m (nth l j) t).2 = 0 := by
    constructor
    · exact fun x => ⟨fun k hk => x k (by omega), x j (by omega)⟩
    · rintro ⟨x, y⟩ k hk
      by_cases e : k = j
      · rw [e]; exact y
      · exact x k (by omega)
   simp only [rnE]
   by_cases e0 : rnE m t l e j = 0
   · rw [if_pos e0]
     refine ⟨by omega, ?_⟩
     rw [s]
     have := b.1 e0
     constructor
     · exact fun x => ⟨this.1, this.2, x⟩
     · exact fun x => x.2.2
   · rw [if_neg e0]
     refine ⟨a, ?_⟩
     rw [s]
     constructor
     · exact fun x => absurd x e0
     · exact fun x => b.2 ⟨x.1, x.2.1⟩
theorem rnX_08 (m : Mine) (t : Int) (ws : List World) (h : ∀ i, i < ws.length → ∀ j, j < (nth ws i).whr.length → (renewF m (nth (nth ws i).whr j) t).2 ≠ 6) : ∀ i, i ≤ ws.length → (rnX m t ws 0 i = 0 ∨ rnX m t ws 0 i = 8) ∧ (rnX m t ws 0 i = 0 ↔ ∀ k, k < i → rn0 m t (nth ws k).whr (nth ws k).whr.length)
 | 0, _ => ⟨.inl rfl, ⟨fun _ k hk => absurd hk (by omega), fun _ => rfl⟩⟩
 | i + 1, hi => by
   obtain ⟨a, b⟩ := rnX_08 m t ws h i (by omega)
   obtain ⟨c, d⟩ := rnE_08 m t (nth ws i).whr (h i (by omega)) a (nth ws i).whr.length (Nat.le_refl _)
   simp only [rnX]
   refine ⟨c, ?_⟩
   rw [d, b]
   constructor
   · rintro ⟨x, y⟩ k hk
     by_cases e : k = i
     · rw [e]; exact y
     · exact x k (by omega)
   · exact fun x => ⟨fun k hk => x k (by omega), x i (by omega)⟩
theorem rx6_none {m : Mine} {t : Int} {ws : List World} (h : (List.range ws.length).find? (rx6 m t ws) = none) : ∀ i, i < ws.length → ∀ j, j < (nth ws i).whr.length → (renewF m (nth (nth ws i).whr j) t).2 ≠ 6 := by
 intro i hi j hj e
 have a := List.find?_eq_none.1 h i (List.mem_range.2 hi)
 apply a
 unfold rx6
 rw [List.find?_isSome]
 exact ⟨j, List.mem_range.2 hj, decide_eq_true e⟩
theorem finish_agg {H : Heap} {cs : List D} {x : T} (e : Go.Ev.frz H depth (.agg cs) = some x) (c : Int) : finish 0 0 H [.agg cs, I c] = some (.tup [.t x, I c], []) := by
 have o1 : [D.t x, I c].all (old 0 depth) = true := by simp [old]
 unfold finish
 simp only [if_true, mapO, argD, e, Option.map_some, Option.bind_some, o1, List.take_zero, List.all_nil, Bool.and_self, resArrs, tupOf]
 rw [if_pos (by simp [arrs])]
theorem Rp.setBox {H : Heap} {id : Nat} {es : List D} {fa fb : Nat → Nat} {out : List World} (hr : Rp H id es fa fb out) {k : Nat} {cs : List D} (hk : H[k]? = some (.box cs)) (o : Obj) : Rp (H.set k o) id es fa fb out := by
 have ne : ∀ {i : Nat} {sz ep : Nat} {p : Bool} {l : List D}, H[i]? = some (.arr sz p ep l) → k ≠ i := fun h e => by rw [← e, hk] at h; cases h
 exact ⟨by rw [hp_set_ne (ne hr.arr)]; exact hr.arr, hr.len, hr.el, fun j hj => by rw [hp_set_ne (ne (hr.ha j hj))]; exact hr.ha j hj, fun j hj => by rw [hp_set_ne (ne (hr.hb j hj))]; exact hr.hb j hj, hr.na, hr.nb, hr.nab, hr.nbb⟩
theorem rRenew_ok {m : Mine} (h : m.ok) (b : Bel) (hs : b.sz) (t : Int) :
 CALL 0 N.ref26_Renew [.t m.e, .t b.e, I t] [] = some (.tup [.t (renewBel m b t).1.e, I (renewBel m b t).2], []) := by
 refine CALL_of K.t_ref26_Renew rfl ?_
 have ck := check_ok h
 have cb := copyBel_ok b hs
 have cb2 := copyBel_ok2 b hs
 obtain ⟨ws⟩ := b
 obtain ⟨s1, s2⟩ := hs
 unfold renewBel
 simp only at s1 s2 ⊢
 by_cases c1 : ws.length < 1
 · rw [if_pos (.inl c1)]
   obtain ⟨places, roads⟩ := m
   simp only [mineCells] at *
   simp (disch := omega) only [go_sem, K.ref26_Renew, ↓reduceIte, ck, cb, c1, Nat.reduceAdd, Nat.reduceSub]
 · by_cases c2 : 24 < ws.length
   · rw [if_pos (.inr c2)]
     obtain ⟨places, roads⟩ := m
     simp only [mineCells] at *
     simp (disch := omega) only [go_sem, K.ref26_Renew, ↓reduceIte, ck, cb, c1, c2, Nat.reduceAdd, Nat.reduceSub]
   · rw [if_neg (by omega)]
     have ro := fun z0 z1 z6 z8 z9 z10 z11 z12 z13 => rr_out m ws s1 s2 t z0 z1 z6 z8 z9 z10 z11 z12 z13
     rcases ro (.t m.e) (.t (Bel.e ⟨ws⟩)) (I 0) .und .und .und .und .und .und with ⟨e1, e2⟩ | ⟨j, ⟨x, vs, H⟩, e1, e2, e3, e4, e5, e6⟩
     · rw [e1]
       obtain ⟨x1, x2⟩ := rnX_08 m t ws (rx6_none e1) ws.length (Nat.le_refl _)
       have hR : RnH m ws ws (2 * ws.length + 1 + 1 + 1 + 1) ([.box (mineCells m), .box [.t (.sl (ws.map World.e))], .box [.nil]] ++ cpH 3 ws ++ [.box [.ref 3 0 ws.length]]) ((List.range ws.length).map (cpEl 3 ws)) (fun j => 3 + 2 * j + 1) (fun j => 3 + 2 * j + 2) := by
        refine ⟨rfl, rfl, rfl, ?_, cp_Rp rfl ws _⟩
        have := hp2_get (a := [.box (mineCells m), .box [.t (.sl (ws.map World.e))], .box [.nil]]) (b := cpH 3 ws) (t := [.box [.ref 3 0 ws.length]])
        rw [cp_len] at this
        rw [show 2 * ws.length + 1 + 1 + 1 + 1 = 3 + (2 * ws.length + 1) by omega]
        exact this
       have gA : ∀ o : Obj, (cpH 3 ws ++ [o])[2 * ws.length + 1]? = some o := fun o => by
        rw [List.getElem?_append_right (by rw [cp_len]; omega), cp_len, Nat.sub_self]; rfl
       have gS : ∀ o o2 : Obj, (cpH 3 ws ++ [o]).set (2 * ws.length + 1) o2 = cpH 3 ws ++ [o2] := fun o o2 => by
        rw [List.set_append_right _ _ (by rw [cp_len]; omega), cp_len, Nat.sub_self]; rfl
       have n6 := rx6_none e1
       obtain ⟨q, hq, hQ⟩ := rs_out h ws s1 s2 t _ _ _ _ _ hR .und .und .und (I ws.length) .und .und .und .und
       have cl := cp_len 3 ws
       clear ro e1
       rcases hQ with ⟨H', rfl, hR', h0⟩ | ⟨b, d, ⟨i, j, hi, hj, cc, ee⟩, f⟩
       · have z0 := x2.2 h0
         rw [if_neg (by omega)]
         have g2 := hR'.e2
         have fz : ∀ o : Obj, finish 0 0 (H'.set 2 o) [.agg [.ref 3 0 ws.length], I 0] = some (.tup [.t (.agg [.sl ((ws.map (rnW m t)).map World.e)]), I 0], []) := fun o => by
          refine finish_agg ?_ 0
          have rp := hR'.rp.setBox g2 o
          have ha : arrAt (H'.set 2 o) 3 0 ws.length = some (2, false, (List.range ws.length).map (cpEl 3 ws)) := by simp only [arrAt, rp.arr]; rw [if_pos ⟨trivial, by simp⟩]
          show (mapO (Go.Ev.frz (H'.set 2 o) 7) [.ref 3 0 ws.length]).map T.agg = _
          have e7 : Go.Ev.frz (H'.set 2 o) 7 (.ref 3 0 ws.length) = some (.sl ((ws.map (rnW m t)).map World.e)) := by
           show ((arrAt (H'.set 2 o) 3 0 ws.length).bind fun a => mapO (Go.Ev.frz (H'.set 2 o) 6) a.2.2).map T.sl = _
           rw [ha, Option.bind_some, rp.in6.1]; rfl
          simp only [mapO, e7, Option.bind_some, Option.map_some]
         have g9 := hR'.e9
         have l2 := hp_lt g2
         have l9 := hp_lt g9
         clear hR hR' h0 x1 x2 s2 z0
         generalize ws.map (rnW m t) = L at *
         obtain ⟨places, roads⟩ := m
         simp only [mineCells, rrH, rsV, List.cons_append, List.nil_append] at *
         simp (disch := omega) only [go_sem, K.ref26_Renew, ↓reduceIte, ck, cb, cb2, c1, c2, e2, cl, callW_cp, backP_cp, gA, gS, hq, g9, g2, hp_set_get, fz, Nat.reduceAdd, Nat.reduceSub]
       · have n8 : (renewF m (nth (nth ws i).whr j) t).2 = 8 := by
          have := (rn_plain m t (nth (nth ws i).whr j)).2
          have := n6 i hi j hj
          omega
         have e8 : rnX m t ws 0 ws.length = 8 := by
          have : rnX m t ws 0 ws.length ≠ 0 := fun e => cc (x2.1 e i hi j hj)
          omega
         rw [e8, if_pos (by omega)]
         rw [n8] at ee
         obtain ⟨x, vs, H⟩ := q
         simp only at b d ee f
         subst b
         clear hR x1 x2 s2 n6 e8
         obtain ⟨places, roads⟩ := m
         simp only [mineCells, rrH, rsV, List.cons_append, List.nil_append] at *
         simp (disch := omega) only [go_sem, K.ref26_Renew, ↓reduceIte, ck, cb, cb2, c1, c2, e2, cl, callW_cp, backP_cp, gA, gS, hq, d, ee, f, Nat.reduceAdd, Nat.reduceSub]
     · rw [e1]
       simp only at e3 e4 e5 e6
       subst e3
       clear ro e1
       obtain ⟨places, roads⟩ := m
       simp only [mineCells, rrH] at *
       simp (disch := omega) only [go_sem, K.ref26_Renew, ↓reduceIte, ck, cb, c1, c2, e2, e4, e5, e6, Nat.reduceAdd, Nat.reduceSub]
end Go.Ev
namespace Go.Ev
open Go
variable [Lib] [Has1] [Has2] [Has3] [Has4] [Has5] [Has6] [Has7] [Has8] [Has9]
end Go.Ev
namespace Go.Ev
open Go
variable [Lib] [Has1] [Has2] [Has3] [Has4] [Has5] [Has6] [Has7] [Has8] [Has9] [Has10] [Has11] [Has12] [Has13]
theorem bel_sz {m : Mine} (hm : m.ok) {b : Bel} (hb : belB m b = true) : b.sz := by
 obtain ⟨w1, w2, -⟩ := belB_spec hb
 have bv := bel_BV (ws := b.worlds) hb
 exact ⟨by omega, fun x hx => (bv.wv x hx).wsz hm bv.f2⟩
theorem see_sz {m : Mine} (hm : m.ok) {b : Bel} (hs : b.sz) (tag : Int) (l : List Int) (a c : Int) : (seeBel m b tag l a c).1.sz := by
 by_cases hb : belB m b = true
 · exact bel_sz hm (see_bel hm hb tag l a c)
 · have : borneF m b tag ≠ 0 := by unfold borneF; rw [if_pos (by simpa using hb)]; omega
   unfold seeBel; rw [if_pos this]; exact hs
theorem abs_sz {m : Mine} (hm : m.ok) {b : Bel} (hs : b.sz) (tag : Int) (l : List Int) (a c bl : Int) : (absBel m b tag l a c bl).1.sz := by
 by_cases hb : belB m b = true
 · exact bel_sz hm (abs_bel hm hb tag l a c bl)
 · have : borneF m b tag ≠ 0 := by unfold borneF; rw [if_pos (by simpa using hb)]; omega
   unfold absBel; rw [if_pos this]; exact hs
theorem exch_sz {m : Mine} (hm : m.ok) {b : Bel} (hs : b.sz) (i j t : Int) : (exchBel m b i j t).1.sz := by
 by_cases hb : belB m b = true
 · exact bel_sz hm (exch_bel hm hb i j t)
 · unfold exchBel; rw [if_pos (by simpa using hb)]; exact hs
theorem rn_len {m : Mine} (hm : m.ok) (t : Int) {w : Wh} (h : w.frm.length ≤ 1000000) : (renewF m w t).1.frm.length ≤ 1000000 := by
 unfold renewF
 cases hp : plainB w m.places.length with
 | false => simpa using h
 | true =>
   obtain ⟨p1, p2, p3⟩ := plainB_spec hp
   rw [if_neg (by simp)]
   split
   · exact h
   · rename_i c
     have np := hm.np
     have := closeF_len hm t (by unfold inT at p2 ⊢; omega) none (by simp) (l := w.frm) (by omega) (fun x hx => plT_bnd (p3 x hx))
     simp only; omega
theorem renew_sz {m : Mine} (hm : m.ok) {b : Bel} (hs : b.sz) (t : Int) : (renewBel m b t).1.sz := by
 unfold renewBel
 split
 · exact hs
 · split
   · exact hs
   · split
     · exact hs
     · refine ⟨by simpa using hs.1, fun x hx => ?_⟩
       obtain ⟨y, hy, rfl⟩ := List.mem_map.1 hx
       obtain ⟨y1, y2, y3⟩ := hs.2 y hy
       refine ⟨y1, by simpa [rnW] using y2, fun w hw => ?_⟩
       simp only [rnW] at hw
       obtain ⟨v, hv, rfl⟩ := List.mem_map.1 hw
       exact rn_len hm t (y3 v hv)
theorem agree26_ok {m : Mine} (hm : m.ok) (h1 : 1 ≤ m.places.length) (b : Bel) (hs : b.sz) (tag : Int) (l : List Int) (hl : l.length ≤ 1000000) (n0 n1 n2 : Int) :
 CALL 0 N.law26_agree [.t m.e, .t b.e, I tag, .t (tL l), .t (.agg [tI n0, tI n1, tI n2])] [] = some (B true, []) := by
 refine CALL_of K.t_law26_agree rfl ?_
 have a1 := swSee_ok hm h1 b hs tag l hl n0 n1
 have a2 := seeBel_ok hm b hs tag l hl n0 n1
 have a3 := same26_ok _ (see_sz hm hs tag l n0 n1) (seeBel m b tag l n0 n1).2
 have b1 := swAbsent_ok hm h1 b hs tag l hl n0 n1 n2
 have b2 := absBel_ok hm b hs tag l hl n0 n1 n2
 have b3 := same26_ok _ (abs_sz hm hs tag l n0 n1 n2) (absBel m b tag l n0 n1 n2).2
 have c1 := sRenew_ok hm b hs n1
 have c2 := rRenew_ok hm b hs n1
 have c3 := same26_ok _ (renew_sz hm hs n1) (renewBel m b n1).2
 have d1 := swValid_ok hm b hs
 have d2 := belB_ok hm b hs
 have f1 := possible_ok b hs n2 n0
 have f2 := possible26_ok b hs n2 n0
 have f3 := same_ok (possB b n2 n0) (possB b n2 n0) (by have := possB_len b n2 n0; omega)
 simp only [decide_true] at f3
 generalize seeBel m b tag l n0 n1 = r1 at *
 obtain ⟨⟨w1⟩, k1⟩ := r1
 generalize absBel m b tag l n0 n1 n2 = r2 at *
 obtain ⟨⟨w2⟩, k2⟩ := r2
 generalize renewBel m b n1 = r3 at *
 obtain ⟨⟨w3⟩, k3⟩ := r3
 generalize possB b n2 n0 = p at *
 obtain ⟨ws⟩ := b
 obtain ⟨places, roads⟩ := m
 simp only at *
 cases hv : belB ⟨places, roads⟩ ⟨ws⟩ with
 | true =>
   rw [hv] at d1 d2
   simp (disch := omega) only [go_sem, K.law26_agree, ↓reduceIte, a1, a2, a3, b1, b2, b3, c1, c2, c3, d1, d2, f1, f2, f3, Nat.reduceMul, Nat.reduceAdd, Nat.reduceSub]
 | false =>
   rw [hv] at d1 d2
   simp (disch := omega) only [go_sem, K.law26_agree, ↓reduceIte, a1, a2, a3, b1, b2, b3, c1, c2, c3, d1, d2, f1, f2, f3, Nat.reduceMul, Nat.reduceAdd, Nat.reduceSub]
def liW (x : World) : Bool := decide (x.whr.length ≤ 8 ∧ x.tags.length ≤ 20) && (List.range x.whr.length).all fun j => decide ((nth x.whr j).frm.length ≤ 100)
def liB (b : Bel) : Bool := (List.range b.worlds.length).all (fun i => liW (nth b.worlds i)) && decide (b.worlds.length ≤ 8)
abbrev liV (i j : D) : List D := [.und, .bp 0 0, .und, i, j]
theorem li_in (ws : List World) (i : Nat) (hi : i < ws.length) (hw : (nth ws i).whr.length ≤ 8) (z0 z2 : D) :
 exS CALL K.law26_light_l2 ⟨[z0, .bp 0 0, z2, I i, I 0], [.box [.t (.sl (ws.map World.e))]]⟩ =
  some (match (List.range (nth ws i).whr.length).find? (fun j => !decide ((nth (nth ws i).whr j).frm.length ≤ 100)) with
   | some j => (.ret, ⟨[.und, .bp 0 0, B false, I i, I j], [.box [.t (.sl (ws.map World.e))]]⟩)
   | none => (.exit 2, ⟨liV (I i) (I (nth ws i).whr.length), [.box [.t (.sl (ws.map World.e))]]⟩)) := by
 have ex : (ws.map World.e)[i]? = some (nth ws i).e := map_nth _ hi
 refine loop_first (fun j => ⟨liV (I i) (I j), [.box [.t (.sl (ws.map World.e))]]⟩) (nth ws i).whr.length _ _ _ rfl ?_ ?_ ?_ (by simp)
 · intro j hj hp
   have ew : ((nth ws i).whr.map Wh.e)[j]? = some (nth (nth ws i).whr j).e := map_nth _ hj
   have hp : (nth (nth ws i).whr j).frm.length ≤ 100 := by simpa using hp
   generalize nth (nth ws i).whr j = w at *
   generalize nth ws i = x at *
   obtain ⟨tags, whr⟩ := x
   obtain ⟨tw, fw⟩ := w
   simp only [liV] at *
   simp (disch := omega) only [go_sem, K.law26_light_l2b, ↓reduceIte, ex, ew, Nat.reduceAdd, Nat.reduceSub]
 · intro j hj hp
   have ew : ((nth ws i).whr.map Wh.e)[j]? = some (nth (nth ws i).whr j).e := map_nth _ hj
   have hp : 100 < (nth (nth ws i).whr j).frm.length := by simpa using hp
   generalize nth (nth ws i).whr j = w at *
   generalize nth ws i = x at *
   obtain ⟨tags, whr⟩ := x
   obtain ⟨tw, fw⟩ := w
   simp only [liV] at *
   refine ⟨?_, by simp⟩
   simp (disch := omega) only [go_sem, K.law26_light_l2b, ↓reduceIte, ex, ew, Nat.reduceAdd, Nat.reduceSub]
 · generalize nth ws i = x at *
   obtain ⟨tags, whr⟩ := x
   simp only [liV] at *
   simp (disch := omega) only [go_sem, K.law26_light_l2b, ↓reduceIte, ex, Nat.reduceAdd, Nat.reduceSub]
theorem any_isSome {α : Type} (l : List α) (p : α → Bool) : l.any p = (l.find? p).isSome := by
 rw [Bool.eq_iff_iff, List.find?_isSome, List.any_eq_true]
theorem li_step (ws : List World) (hl : ws.length ≤ 9223372036854775807) (i : Nat) (hi : i < ws.length) :
 (liW (nth ws i) = true → roundC true [0, 2, 4] 1 (exS CALL K.law26_light_l1b ⟨liV (I i) .und, [.box [.t (.sl (ws.map World.e))]]⟩) = some ⟨liV (I (i + 1)) .und, [.box [.t (.sl (ws.map World.e))]]⟩) ∧
 (liW (nth ws i) = false → ∃ q, exS CALL K.law26_light_l1b ⟨liV (I i) .und, [.box [.t (.sl (ws.map World.e))]]⟩ = some q ∧ q.1 = .ret ∧ q.2.vs[2]? = some (B false)) := by
 have ex : (ws.map World.e)[i]? = some (nth ws i).e := map_nth _ hi
 have inn := fun h z0 z2 => li_in ws i hi h z0 z2
 unfold liW
 by_cases c1 : (nth ws i).whr.length ≤ 8
 · have inn := inn c1
   by_cases c2 : (nth ws i).tags.length ≤ 20
   · rw [decide_eq_true ⟨c1, c2⟩, Bool.true_and, List.all_eq_not_any_not, any_isSome]
     cases hf : (List.range (nth ws i).whr.length).find? (fun j => !decide ((nth (nth ws i).whr j).frm.length ≤ 100)) with
     | none =>
       refine ⟨fun _ => ?_, fun h => by simp at h⟩
       simp only [hf] at inn
       clear hf
       generalize nth ws i = x at *
       obtain ⟨tags, whr⟩ := x
       simp only [liV] at *
       simp (disch := omega) only [go_sem, K.law26_light_l1b, ↓reduceIte, ex, inn, Nat.reduceAdd, Nat.reduceSub]
     | some j =>
       refine ⟨fun h => by simp at h, fun _ => ?_⟩
       have inn2 := fun z0 z2 => (inn z0 z2).trans (by rw [hf])
       clear hf inn
       generalize nth ws i = x at *
       obtain ⟨tags, whr⟩ := x
       simp only [liV] at *
       simp (disch := omega) only [go_sem, K.law26_light_l1b, ↓reduceIte, ex, inn2, Nat.reduceAdd, Nat.reduceSub]
       exact ⟨_, rfl, rfl, rfl⟩
   · rw [decide_eq_false (fun h => c2 h.2), Bool.false_and]
     refine ⟨fun h => by simp at h, fun _ => ?_⟩
     clear inn
     generalize nth ws i = x at *
     obtain ⟨tags, whr⟩ := x
     simp only [liV] at *
     simp (disch := omega) only [go_sem, K.law26_light_l1b, ↓reduceIte, ex, Nat.reduceAdd, Nat.reduceSub]
     exact ⟨_, rfl, rfl, rfl⟩
 · rw [decide_eq_false (fun h => c1 h.1), Bool.false_and]
   refine ⟨fun h => by simp at h, fun _ => ?_⟩
   clear inn
   generalize nth ws i = x at *
   obtain ⟨tags, whr⟩ := x
   simp only [liV] at *
   simp (disch := omega) only [go_sem, K.law26_light_l1b, ↓reduceIte, ex, Nat.reduceAdd, Nat.reduceSub]
   exact ⟨_, rfl, rfl, rfl⟩
theorem light26_ok (b : Bel) (hl : b.worlds.length ≤ 9223372036854775807) : CALL 0 N.law26_light [.t b.e] [] = some (B (liB b), []) := by
 refine CALL_of K.t_law26_light rfl ?_
 obtain ⟨ws⟩ := b
 simp only at hl
 have lp := fun z0 z2 z4 => loop_find (gc := true) (dead := [0, 2, 4]) (c := K.law26_light_l1b) (vs := [z0, .bp 0 0, z2, I 0, z4]) (H := [.box [.t (.sl (ws.map World.e))]])
  (fun i => ⟨liV (I i) .und, [.box [.t (.sl (ws.map World.e))]]⟩) ws.length (fun i => !liW (nth ws i)) (fun _ q => q.1 = .ret ∧ q.2.vs[2]? = some (B false)) (.exit 0, ⟨liV (I ws.length) .und, [.box [.t (.sl (ws.map World.e))]]⟩) rfl
  (fun j hj hq => (li_step ws hl j hj).1 (by simpa using hq))
  (fun j hj hq => by
   obtain ⟨q, a, b, c⟩ := (li_step ws hl j hj).2 (by simpa using hq)
   exact ⟨q, a, by rw [b]; simp, b, c⟩)
  (by simp (disch := omega) only [go_sem, K.law26_light_l1b, ↓reduceIte, liV, Nat.reduceAdd, Nat.reduceSub]) (by simp)
 have lp' : ∀ z0 z2 z4, _ ∨ _ := lp
 clear lp
 unfold liB
 rw [List.all_eq_not_any_not, any_isSome]
 rcases lp' (.t (Bel.e ⟨ws⟩)) (B false) .und with ⟨e1, e2⟩ | ⟨j, ⟨x, vs, H⟩, e1, e2, e3, e4⟩
 · have e2 : exS CALL K.law26_light_l1 _ = _ := e2
   simp only [e1, liV, Option.isSome_none, Bool.not_false, Bool.true_and] at *
   by_cases c : ws.length ≤ 8
   · simp (disch := omega) only [go_sem, K.law26_light, ↓reduceIte, e2, c, decide_true, Nat.reduceAdd, Nat.reduceSub]
   · simp (disch := omega) only [go_sem, K.law26_light, ↓reduceIte, e2, c, decide_false, Nat.reduceAdd, Nat.reduceSub]
 · have e2 : exS CALL K.law26_light_l1 _ = _ := e2
   simp only at e3 e4
   subst e3
   simp only [e1, Option.isSome_some, Bool.not_true, Bool.false_and]
   simp (disch := omega) only [go_sem, K.law26_light, ↓reduceIte, e2, e4, Nat.reduceAdd, Nat.reduceSub]
theorem liB_sz {b : Bel} (h : liB b = true) : b.sz ∧ b.worlds.length ≤ 8 := by
 simp only [liB, Bool.and_eq_true, decide_eq_true_eq, List.all_eq_true, List.mem_range] at h
 obtain ⟨h1, h2⟩ := h
 refine ⟨⟨by omega, fun x hx => ?_⟩, h2⟩
 obtain ⟨i, hi⟩ := List.mem_iff_getElem?.1 hx
 have il := (List.getElem?_eq_some_iff.1 hi).1
 have w := h1 i il
 rw [nth_eq hi] at w
 simp only [liW, Bool.and_eq_true, decide_eq_true_eq, List.all_eq_true, List.mem_range] at w
 obtain ⟨⟨w1, w2⟩, w3⟩ := w
 refine ⟨by omega, by omega, fun v hv => ?_⟩
 obtain ⟨j, hj⟩ := List.mem_iff_getElem?.1 hv
 have := w3 j (List.getElem?_eq_some_iff.1 hj).1
 rw [nth_eq hj] at this
 omega
theorem SwapsRaw_law (aw : CALL 0 N.law26_awake [] [] = some (B true, [])) (li : List Int) (b : Bel) (hb : b.worlds.length ≤ 9223372036854775807) (n0 n1 n2 : Int) : CALL 0 N.law26_SwapsRaw [.t (tL li), .t b.e, .t (.agg [tI n0, tI n1, tI n2])] [] = some (B true, []) := by
 refine CALL_of K.t_law26_SwapsRaw rfl ?_
 have lo := light_ok li
 have lb := light26_ok b hb
 by_cases c : li.length ≤ 400
 · simp only [c, decide_true] at lo
   cases hv : liB b with
   | true =>
     rw [hv] at lb
     obtain ⟨hs, h8⟩ := liB_sz hv
     have ro := roll_x li
     have d0 : (Dice.mk li 0).light := c
     generalize (Dice.mk li 0) = d at *
     obtain ⟨m, e1, mo, l1, hm, p1, p2, r1, r2⟩ := mine_x d0
     obtain ⟨l, e3, so, l3, sl⟩ := some_x l1 m.places.length (by omega)
     have x1 := sExch_ok hm b hs (by omega) n0 n1 n2
     have x2 := exchBel_ok hm b hs n0 n1 n2
     have x3 := same26_ok _ (exch_sz hm hs n0 n1 n2) (exchBel m b n0 n1 n2).2
     have ag := agree26_ok hm (by omega) b hs n0 l (by omega) n0 n1 n2
     generalize exchBel m b n0 n1 n2 = q at *
     obtain ⟨⟨w1⟩, k1⟩ := q
     obtain ⟨ws⟩ := b
     obtain ⟨places, roads⟩ := m
     simp only [mineCells] at *
     simp (disch := omega) only [go_sem, K.law26_SwapsRaw, ↓reduceIte, lo, lb, ro, mo, so, x1, x2, x3, ag, aw, Nat.reduceMul, Nat.reduceAdd, Nat.reduceSub]
   | false =>
     rw [hv] at lb
     obtain ⟨ws⟩ := b
     simp (disch := omega) only [go_sem, K.law26_SwapsRaw, ↓reduceIte, lo, lb, aw, Nat.reduceMul, Nat.reduceAdd, Nat.reduceSub]
 · simp only [c, decide_false] at lo
   obtain ⟨ws⟩ := b
   simp (disch := omega) only [go_sem, K.law26_SwapsRaw, ↓reduceIte, lo, lb, aw, Nat.reduceMul, Nat.reduceAdd, Nat.reduceSub]
end Go.Ev
