/- Parts of the proof: see the text that holds the theorem. -/
import Derived.Test.YtgedjeljhicagaaGreatZ4
set_option linter.all false
set_option maxRecDepth 100000
namespace Go.Ev
open Go
variable [Lib] [Has1] [Has2] [Has3] [Has4] [Has6] [Has7] [Has8] [Has9]
theorem shaped1_ok (x : Int) : CALL 0 N.places_shaped_1 [I x] [] = some (B (!decide (plT x)), []) := by
  refine CALL_of K.t_places_shaped_1 rfl ?_
  have i := in_ok x 0 2147483648
  unfold plT inT
  by_cases c : x = 1099511627776
  · subst c
    simp (disch := omega) only [go_sem, K.places_shaped_1, ↓reduceIte, Nat.reduceAdd, Nat.reduceSub]
  · by_cases c2 : 0 ≤ x ∧ x ≤ 2147483648
    · simp only [c2, and_self, decide_true] at i
      simp (disch := omega) only [go_sem, K.places_shaped_1, ↓reduceIte, i, c, c2, false_or, and_self, decide_true, Nat.reduceAdd, Nat.reduceSub]
    · simp only [c2, decide_false] at i
      simp (disch := omega) only [go_sem, K.places_shaped_1, ↓reduceIte, i, c, c2, false_or, decide_false, Nat.reduceAdd, Nat.reduceSub]
theorem shaped_ok (m : Mine) (hm : m.places.length ≤ 1000000) (w : Wh) (hl : w.frm.length ≤ 1000000) : CALL 0 N.places_shaped [.t m.e, .t w.e] [] = some (B (plainB w m.places.length), []) := by
  refine CALL_of K.t_places_shaped rfl ?_
  have i := in_ok w.time 0 2147483648
  have cf : CALL 0 N.slices_ContainsFunc_int_int [.t (tL w.frm), .fn N.places_shaped_1 []] [] = some (B (w.frm.any fun x => !decide (plT x)), []) := containsFunc_ok w.frm (by omega) N.places_shaped_1 [] (fun x => !decide (plT x)) (fun x _ => shaped1_ok x)
  have e : plainB w m.places.length = (decide ((w.frm.length : Int) = m.places.length ∧ inT w.time) && !(w.frm.any fun x => !decide (plT x))) := by
    unfold plainB
    rw [all_rng, any_rng w.frm (fun x => !decide (plT x))]
  rw [e]
  unfold inT
  generalize (w.frm.any fun x => !decide (plT x)) = r at *
  obtain ⟨places, roads⟩ := m
  obtain ⟨time, frm⟩ := w
  simp only at *
  clear e
  by_cases c1 : (frm.length : Int) = places.length
  · by_cases c2 : 0 ≤ time ∧ time ≤ 2147483648
    · simp only [c2, and_self, decide_true] at i
      cases r <;> simp (disch := omega) only [go_sem, K.places_shaped, ↓reduceIte, i, cf, c1, c2, and_self, decide_true, Bool.true_and, Nat.reduceAdd, Nat.reduceSub]
    · simp only [c2, decide_false] at i
      simp (disch := omega) only [go_sem, K.places_shaped, ↓reduceIte, i, cf, c1, c2, and_false, decide_false, Bool.false_and, Nat.reduceAdd, Nat.reduceSub]
  · simp (disch := omega) only [go_sem, K.places_shaped, ↓reduceIte, c1, false_and, decide_false, Bool.false_and, Nat.reduceAdd, Nat.reduceSub]
theorem pvalid_ok {m : Mine} (h : m.ok) (w : Wh) (hl : w.frm.length ≤ 1000000) : CALL 0 N.places_Valid [.t m.e, .t w.e] [] = some (B (validB m w), []) := by
  refine CALL_of K.t_places_Valid rfl ?_
  have np := h.np
  have v := planValid_ok h
  have s := shaped_ok m (by omega) w hl
  unfold validB
  cases hp : plainB w m.places.length with
  | false =>
    rw [hp] at s
    obtain ⟨places, roads⟩ := m
    obtain ⟨time, frm⟩ := w
    simp only at *
    simp (disch := omega) only [go_sem, K.places_Valid, ↓reduceIte, v, s, Bool.false_and, Nat.reduceAdd, Nat.reduceSub]
  | true =>
    rw [hp] at s
    obtain ⟨p1, p2, p3⟩ := plainB_spec hp
    have hb : bnd w.frm := fun x hx => plT_bnd (p3 x hx)
    have lo := (lowered_ok h w.time (by unfold inT at p2; omega) (by unfold inT at p2; omega) w.frm (by omega) hb).1
    have ll := closeF_len h w.time p2 none (by simp) (l := w.frm) (by omega) hb
    have eq := equal_ok (closeF m w.time none w.frm) w.frm (by omega) (by omega)
    generalize closeF m w.time none w.frm = c at *
    obtain ⟨places, roads⟩ := m
    obtain ⟨time, frm⟩ := w
    simp only at *
    clear hb p3
    simp (disch := omega) only [go_sem, K.places_Valid, ↓reduceIte, v, s, lo, eq, Bool.true_and, Nat.reduceAdd, Nat.reduceSub]
theorem pstart_ok {m : Mine} (h : m.ok) (h1 : 1 ≤ m.places.length) (p t : Int) : CALL 0 N.places_Start [.t m.e, I p, I t] [] = some (.tup [.t (startF m p t).1.e, I (startF m p t).2], []) := by
  refine CALL_of K.t_places_Start rfl ?_
  have np := h.np
  have v := planValid_ok h
  have i1 := in_ok p 0 (m.places.length - 1)
  have i2 := in_ok t 0 2147483648
  have nw := nowhere1_ok h h1
  have nl := neverL_len m.places.length
  unfold startF
  by_cases c1 : p < 0 ∨ (m.places.length : Int) ≤ p
  · rw [if_pos c1]
    rw [decide_eq_false (by omega)] at i1
    obtain ⟨places, roads⟩ := m
    simp only at *
    simp (disch := omega) only [go_sem, K.places_Start, ↓reduceIte, v, i1, Nat.reduceAdd, Nat.reduceSub]
    rfl
  · rw [if_neg c1]
    rw [decide_eq_true (by omega)] at i1
    by_cases c2 : inT t
    · rw [if_pos c2]
      rw [decide_eq_true (show 0 ≤ t ∧ t ≤ 2147483648 from c2)] at i2
      have hb : bnd ((neverL m.places.length).set p.toNat t) := bnd_set (neverL_bnd _) (by unfold inT at c2; omega) (by unfold inT at c2; omega)
      have lo := (lowered_ok h t (by unfold inT at c2; omega) (by unfold inT at c2; omega) ((neverL m.places.length).set p.toNat t) (by simp) hb).1
      generalize closeF m t none ((neverL m.places.length).set p.toNat t) = c at *
      generalize neverL m.places.length = ne at *
      obtain ⟨places, roads⟩ := m
      simp only at *
      clear hb
      simp (disch := omega) only [go_sem, K.places_Start, ↓reduceIte, v, i1, i2, nw, lo, Nat.reduceAdd, Nat.reduceSub]
    · rw [if_neg c2]
      rw [decide_eq_false (show ¬ (0 ≤ t ∧ t ≤ 2147483648) from c2)] at i2
      obtain ⟨places, roads⟩ := m
      simp only at *
      simp (disch := omega) only [go_sem, K.places_Start, ↓reduceIte, v, i1, i2, Nat.reduceAdd, Nat.reduceSub]
      rfl
theorem given25_ok {m : Mine} (h : m.ok) (w : Wh) (hl : w.frm.length ≤ 1000000) (places : List Int) (hp : places.length ≤ 1000000) (a b : Int) :
    CALL 0 N.places_given [.t m.e, .t w.e, .t (tL places), I a, I b] [] = some (I (askedF m w places a b), []) := by
  refine CALL_of K.t_places_given rfl ?_
  have np := h.np
  have v := pvalid_ok h w hl
  have s := rising_ok places 0 (m.places.length - 1) (by omega)
  rw [ris_set] at s
  have i1 := in_ok a 0 2147483648
  have i2 := in_ok b 0 2147483648
  have e0 : (places ≠ []) ↔ (places.length : Int) ≠ 0 := by rw [ne_eq, ← List.length_eq_zero_iff]; omega
  unfold askedF
  cases hv : validB m w with
  | false =>
    rw [hv] at v
    rw [if_neg (by simp)]
    obtain ⟨pl, roads⟩ := m
    obtain ⟨time, frm⟩ := w
    simp only at *
    simp (disch := omega) only [go_sem, K.places_given, ↓reduceIte, v, Nat.reduceAdd, Nat.reduceSub]
  | true =>
    rw [hv] at v
    by_cases c0 : (places.length : Int) = 0
    · rw [if_neg (fun h => e0.1 h.2.1 c0)]
      obtain ⟨pl, roads⟩ := m
      obtain ⟨time, frm⟩ := w
      simp only at *
      simp (disch := omega) only [go_sem, K.places_given, ↓reduceIte, v, c0, Nat.reduceAdd, Nat.reduceSub]
    · cases hs : setB places m.places.length with
      | false =>
        rw [hs] at s
        rw [if_neg (by simp)]
        obtain ⟨pl, roads⟩ := m
        obtain ⟨time, frm⟩ := w
        simp only at *
        simp (disch := omega) only [go_sem, K.places_given, ↓reduceIte, v, s, c0, Nat.reduceAdd, Nat.reduceSub]
      | true =>
        rw [hs] at s
        rw [if_pos ⟨rfl, e0.2 c0, rfl⟩]
        obtain ⟨pl, roads⟩ := m
        obtain ⟨time, frm⟩ := w
        simp only at *
        by_cases c1 : inT a
        · rw [decide_eq_true (show 0 ≤ a ∧ a ≤ 2147483648 from c1)] at i1
          by_cases c2 : inT b
          · rw [decide_eq_true (show 0 ≤ b ∧ b ≤ 2147483648 from c2)] at i2
            by_cases c3 : a ≤ b
            · rw [if_pos ⟨c1, c2, c3⟩]
              simp (disch := omega) only [go_sem, K.places_given, ↓reduceIte, v, s, c0, i1, i2, c3, Nat.reduceAdd, Nat.reduceSub]
            · rw [if_neg (fun h => c3 h.2.2)]
              simp (disch := omega) only [go_sem, K.places_given, ↓reduceIte, v, s, c0, i1, i2, c3, Nat.reduceAdd, Nat.reduceSub]
          · rw [decide_eq_false (show ¬ (0 ≤ b ∧ b ≤ 2147483648) from c2)] at i2
            rw [if_neg (fun h => c2 h.2.1)]
            simp (disch := omega) only [go_sem, K.places_given, ↓reduceIte, v, s, c0, i1, i2, Nat.reduceAdd, Nat.reduceSub]
        · rw [decide_eq_false (show ¬ (0 ≤ a ∧ a ≤ 2147483648) from c1)] at i1
          rw [if_neg (fun h => c1 h.1)]
          simp (disch := omega) only [go_sem, K.places_given, ↓reduceIte, v, s, c0, i1, Nat.reduceAdd, Nat.reduceSub]
theorem same25_ok (a b : Wh) (ha : a.frm.length ≤ 1000000) : CALL 0 N.ref25_Same [.t a.e, .t b.e] [] = some (B (decide (a.time = b.time ∧ a.frm = b.frm)), []) := by
  refine CALL_of K.t_ref25_Same rfl ?_
  have s := same_ok a.frm b.frm (by omega)
  obtain ⟨t1, f1⟩ := a
  obtain ⟨t2, f2⟩ := b
  simp only at *
  by_cases c : t1 = t2
  · simp (disch := omega) only [go_sem, K.ref25_Same, ↓reduceIte, s, c, true_and, Nat.reduceAdd, Nat.reduceSub]
  · simp (disch := omega) only [go_sem, K.ref25_Same, ↓reduceIte, s, c, false_and, decide_false, Nat.reduceAdd, Nat.reduceSub]
end Go.Ev

namespace Go.Ev
open Go
variable [Lib] [Has1] [Has2] [Has3] [Has4] [Has5] [Has6] [Has7] [Has8] [Has9] [Has10] [Has11]
theorem find_first_some {n j : Nat} {p : Nat → Bool} (h1 : j < n) (h2 : p j = true) (h3 : ∀ k, k < j → p k = false) : (List.range n).find? p = some j := by
  cases hf : (List.range n).find? p with
  | none => exact absurd h2 (by simpa using List.find?_eq_none.1 hf j (List.mem_range.2 h1))
  | some k =>
    obtain ⟨k1, k2⟩ := find_lt hf
    have : k ≤ j := by
      rcases Nat.lt_or_ge j k with c | c
      · rw [List.find?_range_eq_some] at hf
        exact absurd h2 (by simpa using hf.2.2 j c)
      · exact c
    rcases Nat.lt_or_ge k j with c | c
    · rw [h3 k c] at k2; cases k2
    · rw [show k = j by omega]
theorem find_none_of {n : Nat} {p : Nat → Bool} (h : ∀ k, k < n → p k = false) : (List.range n).find? p = none := List.find?_eq_none.2 fun x hx => by rw [h x (List.mem_range.1 hx)]; simp
theorem cmpL_less (a b : List Int) : decide (cmpL a b < 0) = lessB a b := by
  unfold cmpL lessB
  cases hf : (List.range (min a.length b.length)).find? (fun j => decide (nth a j ≠ nth b j)) with
  | some j =>
    rw [List.find?_range_eq_some] at hf
    obtain ⟨h2, h1, h3⟩ := hf
    have h1 := List.mem_range.1 h1
    have e : (List.range a.length).find? (cmpP a b) = some j := find_first_some (by omega) (by simp only [cmpP, h2, Bool.or_true]) (fun k hk => by
      have := h3 k hk
      simp only [cmpP, Bool.or_eq_false_iff, decide_eq_false_iff_not]
      exact ⟨by omega, by simpa using this⟩)
    have h2 : nth a j ≠ nth b j := by simpa using h2
    rw [e]
    simp only [if_neg (by omega : ¬ b.length ≤ j)]
    rw [decide_eq_decide]
    unfold cmpI
    split
    · omega
    · split <;> omega
  | none =>
    have h3 : ∀ k, k < min a.length b.length → nth a k = nth b k := fun k hk => by
      have := List.find?_eq_none.1 hf k (List.mem_range.2 hk)
      simpa using this
    by_cases c : a.length ≤ b.length
    · have e : (List.range a.length).find? (cmpP a b) = none := find_none_of fun k hk => by
        simp only [cmpP, Bool.or_eq_false_iff, decide_eq_false_iff_not, Decidable.not_not]
        exact ⟨by omega, h3 k (by omega)⟩
      rw [e]
      simp only [decide_eq_decide]
      split <;> omega
    · have e : (List.range a.length).find? (cmpP a b) = some b.length := find_first_some (by omega) (by simp [cmpP]) (fun k hk => by
        simp only [cmpP, Bool.or_eq_false_iff, decide_eq_false_iff_not, Decidable.not_not]
        exact ⟨by omega, h3 k (by omega)⟩)
      rw [e]
      simp only [Nat.le_refl, if_true, decide_eq_decide]
      omega
def pwB (m : Mine) (ws : List World) (first : List Int) (i : Nat) : Bool :=
  decide (1 ≤ (nth ws i).tags.length ∧ (nth ws i).tags.length ≤ 12) && decide ((nth ws i).whr.length = (nth ws i).tags.length) && properB (nth ws i).tags && decide (sortI (nth ws i).tags = sortI first) && (decide (i = 0) || lessB (nth ws (i - 1)).tags (nth ws i).tags) && !((nth ws i).whr.any fun x => !validB m x)
def pbelB (m : Mine) (b : Bel) : Bool := decide (1 ≤ b.worlds.length ∧ b.worlds.length ≤ 24) && (List.range b.worlds.length).all (pwB m b.worlds (nth b.worlds 0).tags)
theorem sort_perm_eq {a b : List Int} : sortI a = sortI b ↔ a.Perm b := by
  constructor
  · intro h
    exact (sortI_perm a).symm.trans (h ▸ sortI_perm b)
  · intro h
    exact up_eq (sortI_up a) (sortI_up b) ((sortI_perm a).trans (h.trans (sortI_perm b).symm))
theorem nodup_sub_perm {a b : List Int} (ha : a.Nodup) (hb : b.Nodup) (hl : a.length = b.length) (hs : ∀ x ∈ a, x ∈ b) : a.Perm b := by
  have key : ∀ y ∈ b, y ∈ a := fun y hy => Decidable.byContradiction fun hn => by
    have := nodup_sub_len ha (l' := b.erase y) (fun x hx => (List.mem_erase_of_ne (fun e => hn (by rw [← e]; exact hx))).2 (hs x hx))
    rw [List.length_erase_of_mem hy] at this
    have := List.length_pos_of_mem hy
    omega
  exact (List.perm_ext_iff_of_nodup ha hb).2 fun x => ⟨hs x, key x⟩
theorem pbel_bel (m : Mine) (b : Bel) : pbelB m b = belB m b := by
  obtain ⟨ws⟩ := b
  rw [Bool.eq_iff_iff]
  constructor
  · intro h
    simp only [pbelB, Bool.and_eq_true, decide_eq_true_eq, List.all_eq_true, List.mem_range, pwB, Bool.or_eq_true, Bool.not_eq_true', List.any_eq_false, Bool.not_eq_false'] at h
    obtain ⟨⟨h1, h2⟩, h⟩ := h
    have h0 := h 0 (by omega)
    simp only [belB, Bool.and_eq_true, decide_eq_true_eq, List.all_eq_true, List.mem_range, worldB, Bool.or_eq_true, whoB]
    refine ⟨⟨⟨h1, h2⟩, h0.1.1.1.1.1⟩, fun i hi => ?_⟩
    obtain ⟨⟨⟨⟨⟨a1, a2⟩, a3⟩, a4⟩, a5⟩, a6⟩ := h i hi
    have pm := sort_perm_eq.1 a4
    refine ⟨⟨⟨⟨pm.length_eq, by rw [a2, pm.length_eq]⟩, a3⟩, a5⟩, fun k hk => ⟨?_, ?_⟩⟩
    · exact bearerF_mem.2 (pm.mem_iff.1 (nth_mem hk))
    · simpa using a6 _ (nth_mem (l := (nth ws i).whr) (j := k) (by omega))
  · intro h
    obtain ⟨h1, h2, h3, h4, h5⟩ := belB_spec h
    simp only at h1 h2 h3 h4 h5
    have p0 := (worldB_spec (h5 0 (by omega))).2.2.1
    simp only [pbelB, Bool.and_eq_true, decide_eq_true_eq, List.all_eq_true, List.mem_range, pwB, Bool.or_eq_true, Bool.not_eq_true', List.any_eq_false, Bool.not_eq_false']
    refine ⟨⟨h1, h2⟩, fun i hi => ?_⟩
    obtain ⟨w1, w2, w3, w4⟩ := worldB_spec (h5 i hi)
    have ls := h5 i hi
    simp only [worldB, Bool.and_eq_true, Bool.or_eq_true, decide_eq_true_eq] at ls
    refine ⟨⟨⟨⟨⟨by omega, by omega⟩, w3⟩, ?_⟩, ls.1.2⟩, fun x hx => ?_⟩
    · refine sort_perm_eq.2 (nodup_sub_perm (properB_nodup w3) (properB_nodup p0) w1 fun x hx => ?_)
      obtain ⟨j, hj⟩ := List.mem_iff_getElem?.1 hx
      have := (w4 j (List.getElem?_eq_some_iff.1 hj).1).1
      rwa [nth_eq hj] at this
    · obtain ⟨j, hj⟩ := List.mem_iff_getElem?.1 hx
      have := (w4 j (by rw [w1, ← w2]; exact (List.getElem?_eq_some_iff.1 hj).1)).2
      rw [nth_eq hj] at this
      simpa using this
theorem swValid1_ok {m : Mine} (h : m.ok) (x : Wh) (hx : x.frm.length ≤ 1000000) : CALL 0 N.swaps_Valid_1 [.t x.e, .bp 0 0] [.box (mineCells m)] = some (B (!validB m x), [.box (mineCells m)]) := by
  refine CALL_of K.t_swaps_Valid_1 rfl ?_
  have v := pvalid_ok h x hx
  obtain ⟨places, roads⟩ := m
  obtain ⟨time, frm⟩ := x
  simp only at *
  simp (disch := omega) only [go_sem, K.swaps_Valid_1, ↓reduceIte, v, Nat.reduceAdd, Nat.reduceSub]
abbrev swS (m : Mine) (ws : List World) (first : List Int) (i : Nat) : St :=
  ⟨[.und, .und, .bp 0 0, .bp 1 0, .und, .t (tL (sortI first)), .und, .und, .t (.sl (ws.map World.e)), I ws.length, I i], [.box (mineCells m), .box [.t (.sl (ws.map World.e))], .box [.t (tL first)]]⟩
theorem pw_step {m : Mine} (h : m.ok) (ws : List World) (first : List Int) (hf : first.length ≤ 1000000) (hs : ∀ x ∈ ws, x.sz) (i : Nat) (hi : i < ws.length) (hl : ws.length ≤ 1000000) :
    (pwB m ws first i = true → roundC true [0, 1, 4, 6, 7] 3 (exS CALL K.swaps_Valid_l1b (swS m ws first i)) = some (swS m ws first (i + 1))) ∧
    (pwB m ws first i = false → ∃ q, exS CALL K.swaps_Valid_l1b (swS m ws first i) = some q ∧ q.1 = .ret ∧ q.2.vs[4]? = some (B false)) := by
  simp only [swS]
  have sz := hs _ (nth_mem hi)
  have ex : (ws.map World.e)[i]? = some (nth ws i).e := map_nth _ hi
  unfold pwB
  have ey : 0 < i → (ws.map World.e)[i - 1]? = some (nth ws (i - 1)).e ∧ (nth ws (i - 1)).tags.length ≤ 1000000 := fun h0 => ⟨map_nth _ (by omega), (hs _ (nth_mem (by omega))).1⟩
  generalize nth ws (i - 1) = y at *
  generalize nth ws i = x at *
  obtain ⟨tags, whr⟩ := x
  obtain ⟨ptags, pwhr⟩ := y
  obtain ⟨s1, s2, s3⟩ := sz
  simp only at s1 s2 s3 ey ⊢
  have li := in_ok tags.length 1 12
  have tg := tagged_ok tags s1
  have va := values_ok tags
  have so := sorted_ok tags s1
  have eq := equal_ok (sortI tags) (sortI first) (by rw [sortI_len]; omega) (by rw [sortI_len]; omega)
  have cf := containsFuncH_ok whr (by omega) N.swaps_Valid_1 [[.sl (m.places.map Place.e), .sl (m.roads.map Road.e)]] (fun x => !validB m x) (fun x hx => swValid1_ok h x (s3 x hx))
  have cf : CALL 0 N.slices_ContainsFunc_api_Whereabouts_api_Whereabouts [.t (.sl (whr.map Wh.e)), .fn N.swaps_Valid_1 [.bp 0 0]] [.box (mineCells m)] = some (B (whr.any fun x => !validB m x), [.box (mineCells m)]) := cf
  have cp : 0 < i → CALL 0 N.slices_Compare_int_int [.t (tL ptags), .t (tL tags)] [] = some (I (cmpL ptags tags), []) := fun h0 => compare_ok ptags tags (ey h0).2 s1
  have cl := cmpL_less ptags tags
  generalize sortI tags = st at *
  generalize sortI first = sf at *
  generalize (whr.any fun x => !validB m x) = an at *
  generalize properB tags = pr at *
  generalize lessB ptags tags = le at *
  generalize cmpL ptags tags = cc at *
  clear hs s3
  by_cases c1 : 1 ≤ tags.length ∧ tags.length ≤ 12
  · have li : CALL 0 N.lists_In [I tags.length, I 1, I 12] [] = some (B true, []) := by rw [li, decide_eq_true (by omega)]
    by_cases c2 : whr.length = tags.length
    · cases pr with
      | false =>
        refine ⟨fun h => by simp at h, fun _ => ?_⟩
        simp (disch := omega) only [go_sem, K.swaps_Valid_l1b, ↓reduceIte, li, tg, ex, c2, Nat.reduceAdd, Nat.reduceSub]
        refine ⟨_, rfl, ?_, ?_⟩ <;> rfl
      | true =>
        by_cases c4 : st = sf
        · subst c4
          simp only [decide_true] at eq
          cases i with
          | zero =>
            cases an with
            | true =>
              refine ⟨fun h => by simp at h, fun _ => ?_⟩
              simp (disch := omega) only [go_sem, K.swaps_Valid_l1b, ↓reduceIte, li, tg, ex, c2, va, so, eq, cf, Nat.reduceAdd, Nat.reduceSub]
              refine ⟨_, rfl, ?_, ?_⟩ <;> rfl
            | false =>
              refine ⟨fun _ => ?_, fun h => by simp [c1, c2] at h⟩
              simp (disch := omega) only [go_sem, K.swaps_Valid_l1b, ↓reduceIte, li, tg, ex, c2, va, so, eq, cf, Nat.reduceAdd, Nat.reduceSub]
          | succ i =>
            obtain ⟨ey, -⟩ := ey (by omega)
            have cp := cp (by omega)
            simp only [Nat.add_sub_cancel] at ey
            cases le with
            | false =>
              have cl : ¬ cc < 0 := by simpa using cl
              refine ⟨fun h => by simp at h, fun _ => ?_⟩
              simp (disch := omega) only [go_sem, K.swaps_Valid_l1b, ↓reduceIte, li, tg, ex, c2, va, so, eq, ey, cp, Nat.reduceAdd, Nat.reduceSub]
              refine ⟨_, rfl, ?_, ?_⟩ <;> rfl
            | true =>
              have cl : cc < 0 := by simpa using cl
              cases an with
              | true =>
                refine ⟨fun h => by simp at h, fun _ => ?_⟩
                simp (disch := omega) only [go_sem, K.swaps_Valid_l1b, ↓reduceIte, li, tg, ex, c2, va, so, eq, ey, cp, cf, Nat.reduceAdd, Nat.reduceSub]
                refine ⟨_, rfl, ?_, ?_⟩ <;> rfl
              | false =>
                refine ⟨fun _ => ?_, fun h => by simp [c1, c2] at h⟩
                simp (disch := omega) only [go_sem, K.swaps_Valid_l1b, ↓reduceIte, li, tg, ex, c2, va, so, eq, ey, cp, cf, Nat.reduceAdd, Nat.reduceSub]
        · simp only [c4, decide_false] at eq
          refine ⟨fun h => by simp [c4] at h, fun _ => ?_⟩
          simp (disch := omega) only [go_sem, K.swaps_Valid_l1b, ↓reduceIte, li, tg, ex, c2, va, so, eq, Nat.reduceAdd, Nat.reduceSub]
          refine ⟨_, rfl, ?_, ?_⟩ <;> rfl
    · refine ⟨fun h => by simp [c2] at h, fun _ => ?_⟩
      simp (disch := omega) only [go_sem, K.swaps_Valid_l1b, ↓reduceIte, li, ex, c2, Nat.reduceAdd, Nat.reduceSub]
      refine ⟨_, rfl, ?_, ?_⟩ <;> rfl
  · have li : CALL 0 N.lists_In [I tags.length, I 1, I 12] [] = some (B false, []) := by rw [li, decide_eq_false (by omega)]
    refine ⟨fun h => by simp [c1] at h, fun _ => ?_⟩
    simp (disch := omega) only [go_sem, K.swaps_Valid_l1b, ↓reduceIte, li, ex, Nat.reduceAdd, Nat.reduceSub]
    refine ⟨_, rfl, ?_, ?_⟩ <;> rfl
end Go.Ev

namespace Go.Ev
open Go
variable [Lib] [Has1] [Has2]
theorem set_nthW {α : Type} [Dat α] (l : List α) (k : Nat) (hk : k < l.length) (x : α) (j : Nat) : nth (l.set k x) j = if j = k then x else nth l j := by
  unfold nth
  by_cases h : j = k
  · subst h; rw [if_pos rfl]; simp [hk]
  · rw [if_neg h]
    have : ¬ k = j := fun e => h e.symm
    simp [List.getElem?_set, this]
theorem ext_nthW {α : Type} [Dat α] {a b : List α} (h : a.length = b.length) (e : ∀ j, j < a.length → nth a j = nth b j) : a = b := by
  apply List.ext_getElem h
  intro j h1 h2
  have := e j h1
  rwa [nth_eq (List.getElem?_eq_getElem h1), nth_eq (List.getElem?_eq_getElem h2)] at this
def clW (m : Mine) (t : Int) (into : Option (List Int)) (y : List Int) : Prop := ∀ k, k < m.roads.length → ∀ back, inOK into ((nth m.roads k).dst back) = true → 0 ≤ walkT m k back 6 9 12 →
  nth y ((nth m.roads k).src back).toNat < 1099511627776 → max t (nth y ((nth m.roads k).src back).toNat + walkT m k back 6 9 12) ≤ 2147483648 →
  nth y ((nth m.roads k).dst back).toNat ≤ max t (nth y ((nth m.roads k).src back).toNat + walkT m k back 6 9 12)
theorem clW_mono {m : Mine} {t t' : Int} (ht : t ≤ t') {into : Option (List Int)} {y : List Int} (h : clW m t none y) : clW m t' into y := by
  intro k hk back _ h1 h2 h3
  have := h k hk back rfl h1 h2 (by omega)
  omega
theorem closeN_invW {α : Type} {f : α → α × Bool} (P : α → Prop) (hP : ∀ l, P l → P (f l).1) : ∀ n l, P l → P (closeN f n l)
  | 0, l, h => h
  | n + 1, l, h => by
    unfold closeN
    split
    · exact closeN_invW P hP n _ (hP l h)
    · exact hP l h
theorem closeN_fixW {α : Type} {f : α → α × Bool} (P : α → Prop) (mes : α → Nat) (hP : ∀ l, P l → P (f l).1 ∧ ((f l).2 = true → mes (f l).1 < mes l) ∧ ((f l).2 = false → (f l).1 = l)) : ∀ n l, P l → mes l < n → (f (closeN f n l)).2 = false ∧ P (closeN f n l)
  | 0, l, _, h => by omega
  | n + 1, l, hp, h => by
    obtain ⟨h1, h2, h3⟩ := hP l hp
    unfold closeN
    cases hf : (f l).2 with
    | true =>
      rw [if_pos rfl]
      have := h2 hf
      exact closeN_fixW P mes hP n _ h1 (by omega)
    | false =>
      rw [if_neg (by simp), h3 hf]
      exact ⟨hf, hp⟩
theorem halfF_is {m : Mine} (t : Int) (into : Option (List Int)) (k : Nat) (back : Bool) (l : List Int) :
    (inOK into ((nth m.roads k).dst back) = true ∧ 0 ≤ walkT m k back 6 9 12 ∧ nth l ((nth m.roads k).src back).toNat < 1099511627776 ∧ max t (nth l ((nth m.roads k).src back).toNat + walkT m k back 6 9 12) ≤ 2147483648 ∧
      max t (nth l ((nth m.roads k).src back).toNat + walkT m k back 6 9 12) < nth l ((nth m.roads k).dst back).toNat ∧
      halfF m t into k back l = (l.set ((nth m.roads k).dst back).toNat (max t (nth l ((nth m.roads k).src back).toNat + walkT m k back 6 9 12)), true)) ∨
    (halfF m t into k back l = (l, false) ∧ ¬ (inOK into ((nth m.roads k).dst back) = true ∧ 0 ≤ walkT m k back 6 9 12 ∧ nth l ((nth m.roads k).src back).toNat < 1099511627776 ∧ max t (nth l ((nth m.roads k).src back).toNat + walkT m k back 6 9 12) ≤ 2147483648 ∧
      max t (nth l ((nth m.roads k).src back).toNat + walkT m k back 6 9 12) < nth l ((nth m.roads k).dst back).toNat)) := by
  unfold halfF lowerF lowerC
  cases inOK into ((nth m.roads k).dst back) with
  | false => right; simp
  | true =>
    simp only [↓reduceIte, true_and, Bool.and_eq_true, decide_eq_true_eq]
    by_cases c : ((0 ≤ walkT m k back 6 9 12 ∧ nth l ((nth m.roads k).src back).toNat < 1099511627776) ∧ max t (nth l ((nth m.roads k).src back).toNat + walkT m k back 6 9 12) ≤ 2147483648) ∧ max t (nth l ((nth m.roads k).src back).toNat + walkT m k back 6 9 12) < nth l ((nth m.roads k).dst back).toNat
    · left
      refine ⟨c.1.1.1, c.1.1.2, c.1.2, c.2, ?_⟩
      rw [if_pos c]
      simp [c.1.1.1, c.1.1.2, c.1.2, c.2]
    · right
      refine ⟨?_, fun h => c ⟨⟨⟨h.1, h.2.1⟩, h.2.2.1⟩, h.2.2.2⟩⟩
      rw [if_neg c]
      simp only [Prod.mk.injEq, true_and]
      rw [Bool.eq_false_iff]; intro h; simp only [Bool.and_eq_true, decide_eq_true_eq] at h; exact c h
section
variable {m : Mine} (h : m.ok) {t : Int} {into : Option (List Int)}
include h
theorem stepsF_inv (P : List Int → Prop) (hP : ∀ l, l.length = m.places.length → bnd l → P l → ∀ k, k < m.roads.length → ∀ back, P (halfF m t into k back l).1) {l : List Int} (hl : l.length = m.places.length) (hb : bnd l) (hp : P l) : ∀ k, k ≤ m.roads.length → P (stepsF m t into l k).1
  | 0, _ => hp
  | k + 1, hk => by
    have ih := stepsF_inv P hP hl hb hp k (by omega)
    have b1 := stepsF_bnd h (t := t) (into := into) hl hb k (by omega)
    have l1 : (stepsF m t into l k).1.length = m.places.length := by rw [stepsF_len, hl]
    simp only [stepsF, stepF]
    exact hP _ (by rw [halfF_len, l1]) (halfF_bnd h l1 b1 (by omega) false) (hP _ l1 b1 ih k (by omega) false) k (by omega) true
theorem closeF_inv (P : List Int → Prop) (hP : ∀ l, l.length = m.places.length → bnd l → P l → ∀ k, k < m.roads.length → ∀ back, P (halfF m t into k back l).1) {l : List Int} (hl : l.length = m.places.length) (hb : bnd l) (hp : P l) : P (closeF m t into l) :=
  (closeN_invW (f := roundF m t into) (fun l => (l.length = m.places.length ∧ bnd l) ∧ P l) (fun l hl => ⟨⟨by unfold roundF; rw [stepsF_len]; exact hl.1.1, stepsF_bnd h hl.1.1 hl.1.2 _ (Nat.le_refl _)⟩, stepsF_inv h P hP hl.1.1 hl.1.2 hl.2 _ (Nat.le_refl _)⟩) _ l ⟨⟨hl, hb⟩, hp⟩).2
theorem closeF_lb {l : List Int} (hl : l.length = m.places.length) (hb : bnd l) : (closeF m t into l).length = m.places.length ∧ bnd (closeF m t into l) :=
  (closeN_invW (f := roundF m t into) (fun l => (l.length = m.places.length ∧ bnd l)) (fun l hl => ⟨by unfold roundF; rw [stepsF_len]; exact hl.1, stepsF_bnd h hl.1 hl.2 _ (Nat.le_refl _)⟩) _ l ⟨hl, hb⟩)
theorem closeF_le {l : List Int} (hl : l.length = m.places.length) (hb : bnd l) (j : Nat) : nth (closeF m t into l) j ≤ nth l j :=
  closeF_inv h (fun l' => nth l' j ≤ nth l j) (fun l' hl' hb' hp k hk back => by
    have r2 := Road.dst_ok (h.rs _ (nth_mem hk)) back
    rcases halfF_is (m := m) t into k back l' with ⟨_, _, _, _, c, e⟩ | ⟨e, _⟩
    · rw [e]; simp only
      rw [set_nthW _ _ (by omega)]
      split
      · rename_i hj; rw [hj] at hp; rw [hj]; omega
      · exact hp
    · rw [e]; exact hp) hl hb (Int.le_refl _)
theorem closeF_ge {y l : List Int} (hy : clW m t into y) (hl : l.length = m.places.length) (hb : bnd l) (hle : ∀ j, nth y j ≤ nth l j) : ∀ j, nth y j ≤ nth (closeF m t into l) j :=
  closeF_inv h (fun l' => ∀ j, nth y j ≤ nth l' j) (fun l' hl' hb' hp k hk back => by
    have r2 := Road.dst_ok (h.rs _ (nth_mem hk)) back
    rcases halfF_is (m := m) t into k back l' with ⟨c1, c2, c3, c4, c5, e⟩ | ⟨e, _⟩
    · rw [e]; simp only
      intro j
      rw [set_nthW _ _ (by omega)]
      split
      · rename_i hj
        have := hp ((nth m.roads k).src back).toNat
        have := hy k hk back c1 c2 (by omega) (by omega)
        rw [hj]; omega
      · exact hp j
    · rw [e]; exact hp) hl hb hle
theorem stepsF_no {l : List Int} (hl : l.length = m.places.length) (hb : bnd l) : ∀ k, k ≤ m.roads.length → (stepsF m t into l k).2 = false → ∀ i, i < k → ∀ back, (halfF m t into i back l).2 = false
  | 0, _, _, i, hi, _ => by omega
  | k + 1, hk, hf, i, hi, back => by
    have e := (stepsF_sum h (t := t) (into := into) hl hb k (by omega)).2
    have ih := stepsF_no hl hb k (by omega)
    simp only [stepsF, stepF, Bool.or_eq_false_iff] at hf
    obtain ⟨⟨f1, f2⟩, f3⟩ := hf
    have e := e f1
    rw [e] at f2 f3
    have e2 := (halfF_sum h (t := t) (into := into) hl hb (k := k) (by omega) false).2 f2
    rw [e2] at f3
    by_cases c : i < k
    · exact ih f1 i c back
    · have : i = k := by omega
      subst this
      cases back
      · exact f2
      · exact f3
theorem closeF_cl {l : List Int} (hl : l.length = m.places.length) (hb : bnd l) : clW m t into (closeF m t into l) := by
  obtain ⟨h1, h2, h3⟩ := closeN_fixW (f := roundF m t into) (fun l => l.length = m.places.length ∧ bnd l) sumN (fun l ⟨hl, hb⟩ => ⟨⟨by unfold roundF; rw [stepsF_len]; exact hl, stepsF_bnd h hl hb _ (Nat.le_refl _)⟩, stepsF_sum h hl hb _ (Nat.le_refl _)⟩) (sumN l + 1) l ⟨hl, hb⟩ (Nat.lt_succ_self _)
  intro k hk back c1 c2 c3 c4
  have no := stepsF_no h (t := t) (into := into) h2 h3 m.roads.length (Nat.le_refl _) h1 k hk back
  change (halfF m t into k back (closeF m t into l)).2 = false at no
  rcases halfF_is (m := m) t into k back (closeF m t into l) with ⟨_, _, _, _, _, e⟩ | ⟨_, e⟩
  · rw [e] at no; cases no
  · exact Classical.byContradiction fun hc => e ⟨c1, c2, c3, c4, by omega⟩
theorem closeF_id {l : List Int} (hl : l.length = m.places.length) (hb : bnd l) (hc : clW m t into l) : closeF m t into l = l := by
  apply ext_nthW (by rw [(closeF_lb h hl hb).1, hl])
  intro j hj
  exact Int.le_antisymm (closeF_le h hl hb j) (closeF_ge h hc hl hb (fun _ => Int.le_refl _) j)
theorem closeF_mem (P : Int → Prop) {l : List Int} (hl : l.length = m.places.length) (hb : bnd l) (hp : ∀ x ∈ l, P x) (ht : ∀ x, t ≤ x → x ≤ 2147483648 → P x) : ∀ x ∈ closeF m t into l, P x :=
  closeF_inv h (fun l' => ∀ x ∈ l', P x) (fun l' hl' hb' hp k hk back => by
    rcases halfF_is (m := m) t into k back l' with ⟨c1, c2, c3, c4, c5, e⟩ | ⟨e, _⟩
    · rw [e]
      intro x hx
      rcases List.mem_or_eq_of_mem_set hx with hx | hx
      · exact hp x hx
      · subst hx; exact ht _ (by omega) c4
    · rw [e]; exact hp) hl hb hp
end
theorem validB_of {m : Mine} (h : m.ok) {w : Wh} (hl : w.frm.length = m.places.length) (ht : inT w.time) (hp : ∀ x ∈ w.frm, plT x) (hc : clW m w.time none w.frm) : validB m w = true := by
  have hb : bnd w.frm := fun x hx => plT_bnd (hp x hx)
  simp only [validB, plainB, Bool.and_eq_true, decide_eq_true_eq, List.all_eq_true, List.mem_range]
  exact ⟨⟨⟨by omega, ht⟩, fun j hj => hp _ (nth_mem hj)⟩, closeF_id h hl hb hc⟩
theorem close_valid {m : Mine} (h : m.ok) {l : List Int} (hl : l.length = m.places.length) (hp : ∀ x ∈ l, plT x) {a b : Int} (ha : 0 ≤ a) (hab : a ≤ b) (hb : inT b) : validB m ⟨b, closeF m a none l⟩ = true := by
  have bn : bnd l := fun x hx => plT_bnd (hp x hx)
  exact validB_of h (closeF_lb h hl bn).1 hb (closeF_mem h plT hl bn hp (fun x h1 h2 => .inr ⟨by omega, h2⟩)) (clW_mono hab (closeF_cl h hl bn))
theorem neverL_pl (n : Nat) : ∀ x ∈ neverL n, plT x := fun x hx => by rw [List.eq_of_mem_replicate hx]; exact .inl rfl
theorem start_valid {m : Mine} (h : m.ok) {p t : Int} (h0 : 0 ≤ p) (h1 : p < m.places.length) (ht : inT t) : startF m p t = (⟨t, closeF m t none ((neverL m.places.length).set p.toNat t)⟩, 0) ∧ validB m (startF m p t).1 = true := by
  have e : startF m p t = (⟨t, closeF m t none ((neverL m.places.length).set p.toNat t)⟩, 0) := by
    unfold startF; rw [if_neg (by omega), if_pos ht]
  refine ⟨e, ?_⟩
  rw [e]
  refine close_valid h (by simp) (fun x hx => ?_) ht.1 (Int.le_refl _) ht
  rcases List.mem_or_eq_of_mem_set hx with hx | hx
  · exact neverL_pl _ x hx
  · subst hx; exact .inr ht
theorem seeN_nth {w : Wh} {l : List Int} {b : Int} {n : Nat} (hl : ∀ p ∈ l, 0 ≤ p ∧ p < n) : ∀ k, k ≤ l.length → ∀ j, j < n → nth (seeN w l b n k).1 j = if (j : Int) ∈ l.take k ∧ nth w.frm j ≤ b then nth w.frm j else 1099511627776
  | 0, _, j, hj => by
    rw [if_neg (by simp)]
    exact nth_eq (by simp [seeN, neverL, hj])
  | k + 1, hk, j, hj => by
    have ih := seeN_nth (w := w) (b := b) hl k (by omega) j hj
    have p := hl _ (nth_mem (l := l) (j := k) (by omega))
    rw [take_nth (by omega)]
    simp only [seeN, seeStep]
    by_cases e : (j : Int) = nth l k
    · have e2 : j = (nth l k).toNat := by omega
      by_cases c : nth w.frm (nth l k).toNat ≤ b
      · rw [if_pos c, set_nthW _ _ (by rw [seeN_len]; omega), if_pos e2, if_pos ⟨by simp [e], by rw [e2]; exact c⟩, e2]
      · rw [if_neg c, ih, if_neg (fun x => c (by rw [← e2]; exact x.2)), if_neg (fun x => c (by rw [← e2]; exact x.2))]
    · have e2 : ¬ j = (nth l k).toNat := by omega
      have mm : ((j : Int) ∈ l.take k ++ [nth l k]) ↔ (j : Int) ∈ l.take k := by simp [e]
      simp only [mm]
      rw [← ih]
      split
      · rw [set_nthW _ _ (by rw [seeN_len]; omega), if_neg e2]
      · rfl
end Go.Ev

namespace Go.Ev
open Go
variable [Lib] [Has1] [Has2] [Has8] [Has9]
theorem setB_memW {l : List Int} {n : Int} (h : setB l n = true) : ∀ x ∈ l, 0 ≤ x ∧ x < n := by
  intro x hx
  simp only [setB, List.all_eq_true, List.mem_range, decide_eq_true_eq] at h
  obtain ⟨j, hj⟩ := List.mem_iff_getElem?.1 hx
  have := h j (List.getElem?_eq_some_iff.1 hj).1
  rw [nth_eq hj] at this
  exact ⟨this.1, this.2.1⟩
theorem seeN_pl {w : Wh} {l : List Int} {b : Int} {n : Nat} (hl : ∀ p ∈ l, 0 ≤ p ∧ p < n) (hw : ∀ x ∈ w.frm, plT x) (hn : w.frm.length = n) : ∀ x ∈ (seeN w l b n l.length).1, plT x := by
  intro x hx
  obtain ⟨j, hj⟩ := List.mem_iff_getElem?.1 hx
  have jl := (List.getElem?_eq_some_iff.1 hj).1
  rw [seeN_len] at jl
  have e := seeN_nth (w := w) (b := b) hl _ (Nat.le_refl _) j jl
  rw [nth_eq hj] at e
  rw [e]
  split
  · exact hw _ (nth_mem (by omega))
  · exact .inl rfl
theorem see_cases {m : Mine} (h : m.ok) {w : Wh} (hv : validB m w = true) (l : List Int) (a b : Int) :
    (seeF m w l a b = (⟨b, closeF m a none (seeN w l b m.places.length l.length).1⟩, 0) ∧ askedF m w l a b = 0 ∧ w.time ≤ a ∧ (seeN w l b m.places.length l.length).2 = true ∧ validB m (seeF m w l a b).1 = true) ∨ ((seeF m w l a b).1 = w ∧ (seeF m w l a b).2 ≠ 0) := by
  by_cases c0 : askedF m w l a b = 0
  · obtain ⟨-, h0, hs, ia, ib, hab⟩ := askedF_0 c0
    by_cases c1 : a < w.time
    · right; unfold seeF; rw [if_neg (by simpa using c0), if_pos c1]; exact ⟨rfl, by simp⟩
    · cases c2 : (seeN w l b m.places.length l.length).2 with
      | false => right; unfold seeF; rw [if_neg (by simpa using c0), if_neg c1, if_neg (by simp [c2])]; exact ⟨rfl, by simp⟩
      | true =>
        left
        have e : seeF m w l a b = (⟨b, closeF m a none (seeN w l b m.places.length l.length).1⟩, 0) := by
          unfold seeF; rw [if_neg (by simpa using c0), if_neg c1, if_pos c2]
        obtain ⟨v1, v2, v3, -⟩ := validB_spec hv
        refine ⟨e, c0, by omega, rfl, ?_⟩
        rw [e]
        exact close_valid h (seeN_len ..) (seeN_pl (setB_memW hs) v3 v1) ia.1 hab ib
  · right; unfold seeF; rw [if_pos c0]; exact ⟨rfl, c0⟩
theorem see_valid {m : Mine} (h : m.ok) {w : Wh} (hv : validB m w = true) (l : List Int) (a b : Int) : validB m (seeF m w l a b).1 = true := by
  rcases see_cases h hv l a b with ⟨-, -, -, -, v⟩ | ⟨e, -⟩
  · exact v
  · rw [e]; exact hv
end Go.Ev

namespace Go.Ev
open Go
variable [Lib] [Has1] [Has2] [Has3] [Has4] [Has6] [Has7] [Has8] [Has9]
theorem psee_ok {m : Mine} (h : m.ok) (h1 : 1 ≤ m.places.length) (w : Wh) (hl : w.frm.length ≤ 1000000) (l : List Int) (hp : l.length ≤ 1000000) (a b : Int) :
    CALL 0 N.places_See [.t m.e, .t w.e, .t (tL l), I a, I b] [] = some (.tup [.t (seeF m w l a b).1.e, I (seeF m w l a b).2], []) := by
  refine CALL_of K.t_places_See rfl ?_
  have np := h.np
  have g := given25_ok h w hl l hp a b
  have nw := nowhere1_ok h h1
  unfold seeF
  by_cases c0 : askedF m w l a b = 0
  · rw [if_neg (by simpa using c0)]
    rw [c0] at g
    obtain ⟨hv, h0, hs, ia, ib, hab⟩ := askedF_0 c0
    obtain ⟨v1, v2, v3, -⟩ := validB_spec hv
    by_cases c1 : a < w.time
    · rw [if_pos c1]
      obtain ⟨places, roads⟩ := m
      obtain ⟨time, frm⟩ := w
      simp only at *
      simp (disch := omega) only [go_sem, K.places_See, ↓reduceIte, g, c1, Nat.reduceAdd, Nat.reduceSub]
    · rw [if_neg c1]
      have hb : bnd w.frm := fun x hx => plT_bnd (v3 x hx)
      have lm := fun {j : Nat} (hj : j < l.length) => setB_nth hs hj
      have sl := seeN_len w l b m.places.length
      have sb := seeN_bnd (n := m.places.length) hb l b (fun p hp => by
        obtain ⟨j, hj⟩ := List.mem_iff_getElem?.1 hp
        have := lm (List.getElem?_eq_some_iff.1 hj).1
        rw [nth_eq hj] at this
        omega) l.length (Nat.le_refl _)
      have loop : ∀ z0 z1 z2 z8 z9 z12 : D, exS CALL K.places_See_l1 ⟨[z0, z1, z2, I a, I b, .bp 0 0, .bp 1 0, .bp 2 0, z8, z9, .ref 3 0 m.places.length, B false, z12, .t (tL l), I l.length, I 0], [.box (mineCells m), .box [I w.time, .t (tL w.frm)], .box [I 0, .nil], arr1 (neverL m.places.length)]⟩ =
          some (.exit 0, ⟨[.und, .und, .und, I a, I b, .bp 0 0, .bp 1 0, .bp 2 0, .und, .und, .ref 3 0 m.places.length, B (seeN w l b m.places.length l.length).2, .und, .t (tL l), I l.length, I l.length], [.box (mineCells m), .box [I w.time, .t (tL w.frm)], .box [I 0, .nil], arr1 (seeN w l b m.places.length l.length).1]⟩) := by
        intro z0 z1 z2 z8 z9 z12
        refine loop_up (fun j => ⟨[.und, .und, .und, I a, I b, .bp 0 0, .bp 1 0, .bp 2 0, .und, .und, .ref 3 0 m.places.length, B (seeN w l b m.places.length j).2, .und, .t (tL l), I l.length, I j], [.box (mineCells m), .box [I w.time, .t (tL w.frm)], .box [I 0, .nil], arr1 (seeN w l b m.places.length j).1]⟩) l.length rfl ?_ ?_ (by simp)
        · intro j hj
          have lj := sl j
          have nj := lm hj
          simp only [seeN, seeStep]
          generalize seeN w l b m.places.length j = r at *
          obtain ⟨r1, r2⟩ := r
          obtain ⟨places, roads⟩ := m
          obtain ⟨time, frm⟩ := w
          simp only [mineCells] at *
          by_cases c : nth frm (nth l j).toNat ≤ b
          · simp (disch := omega) only [go_sem, K.places_See_l1b, ↓reduceIte, c, Nat.reduceAdd, Nat.reduceSub]
          · simp (disch := omega) only [go_sem, K.places_See_l1b, ↓reduceIte, c, Nat.reduceAdd, Nat.reduceSub]
        · obtain ⟨places, roads⟩ := m
          obtain ⟨time, frm⟩ := w
          simp only [mineCells] at *
          simp (disch := omega) only [go_sem, K.places_See_l1b, ↓reduceIte, Nat.reduceAdd, Nat.reduceSub]
      have sl := sl l.length
      have lo := (lowered_ok h a (by unfold inT at ia; omega) (by unfold inT at ia; omega) (seeN w l b m.places.length l.length).1 sl sb).1
      clear sb lm hb v3
      cases c2 : (seeN w l b m.places.length l.length).2 with
      | false =>
        rw [if_neg (by simp)]
        rw [c2] at loop
        generalize (seeN w l b m.places.length l.length).1 = r at *
        generalize neverL m.places.length = ne at *
        obtain ⟨places, roads⟩ := m
        obtain ⟨time, frm⟩ := w
        simp only [mineCells] at *
        simp (disch := omega) only [go_sem, K.places_See, ↓reduceIte, g, c1, nw, loop, Nat.reduceAdd, Nat.reduceSub]
      | true =>
        rw [if_pos rfl]
        rw [c2] at loop
        generalize closeF m a none (seeN w l b m.places.length l.length).1 = cl at *
        generalize (seeN w l b m.places.length l.length).1 = r at *
        generalize neverL m.places.length = ne at *
        obtain ⟨places, roads⟩ := m
        obtain ⟨time, frm⟩ := w
        simp only [mineCells] at *
        simp (disch := omega) only [go_sem, K.places_See, ↓reduceIte, g, c1, nw, loop, lo, sl, Nat.reduceAdd, Nat.reduceSub]
  · rw [if_pos c0]
    generalize askedF m w l a b = q at *
    obtain ⟨places, roads⟩ := m
    obtain ⟨time, frm⟩ := w
    simp only at *
    simp (disch := omega) only [go_sem, K.places_See, ↓reduceIte, g, c0, Nat.reduceAdd, Nat.reduceSub]
theorem pabs_ok {m : Mine} (h : m.ok) (w : Wh) (hl : w.frm.length ≤ 1000000) (l : List Int) (hp : l.length ≤ 1000000) (a b bl : Int) :
    CALL 0 N.places_Absent [.t m.e, .t w.e, .t (tL l), I a, I b, I bl] [] = some (.tup [.t (absF m w l a b bl).1.e, I (absF m w l a b bl).2], []) := by
  refine CALL_of K.t_places_Absent rfl ?_
  have np := h.np
  have g := given25_ok h w hl l hp a b
  have ib := in_ok bl 0 2147483648
  unfold absF
  by_cases c0 : askedF m w l a b = 0
  · rw [if_neg (by simpa using c0)]
    rw [c0] at g
    obtain ⟨hv, h0, hs, ia, ibb, hab⟩ := askedF_0 c0
    obtain ⟨v1, v2, v3, -⟩ := validB_spec hv
    unfold inT at v2 ia ibb
    by_cases c1 : inT bl
    · rw [if_neg (fun x => x c1)]
      rw [decide_eq_true (show 0 ≤ bl ∧ bl ≤ 2147483648 from c1)] at ib
      unfold inT at c1
      by_cases c2 : b < w.time
      · rw [if_pos c2]
        obtain ⟨places, roads⟩ := m
        obtain ⟨time, frm⟩ := w
        simp only at *
        simp (disch := omega) only [go_sem, K.places_Absent, ↓reduceIte, g, ib, c2, Nat.reduceAdd, Nat.reduceSub]
      · rw [if_neg c2]
        by_cases c3 : b - max a w.time ≤ bl
        · rw [if_pos c3]
          obtain ⟨places, roads⟩ := m
          obtain ⟨time, frm⟩ := w
          simp only at *
          simp (disch := omega) only [go_sem, K.places_Absent, ↓reduceIte, g, ib, c2, c3, Nat.reduceAdd, Nat.reduceSub]
        · rw [if_neg c3]
          have hb : bnd w.frm := fun x hx => plT_bnd (v3 x hx)
          have lm := fun {j : Nat} (hj : j < l.length) => setB_nth hs hj
          have ll := setB_len (n := m.places.length) hs
          have al := absN_len w.frm l
          have ab := absN_bnd hb l l.length
          have cl := clone1_ok w.frm hl
          have ht : inT (b - bl) := by unfold inT; omega
          have lo1 := (lowered_ok h (b - bl) ht.1 (by unfold inT at ht; omega) (absN w.frm l l.length) (by rw [al]; exact v1) ab).2 l (by omega)
          have hin : ∀ s, some l = some s → s ≠ [] ∧ s.length ≤ 64 := by intro s h; cases h; exact ⟨h0, by omega⟩
          have c1l := closeF_len h (b - bl) ht (some l) hin (l := absN w.frm l l.length) (by rw [al]; exact v1) ab
          have c1b := closeF_bnd h (b - bl) ht (some l) hin (l := absN w.frm l l.length) (by rw [al]; exact v1) ab
          have lo2 := (lowered_ok h b ibb.1 (by omega) _ c1l c1b).1
          have loop : ∀ z0 z1 z2 z3 z7 z10 z11 z13 : D, exS CALL K.places_Absent_l1 ⟨[z0, z1, z2, z3, I b, I bl, .bp 0 0, z7, .bp 2 0, .bp 3 0, z10, z11, .ref 4 0 w.frm.length, z13, .t (tL l), I l.length, I 0], [.box (mineCells m), .box [I w.time, .t (tL w.frm)], .box [.t (tL l)], .box [I 0, .nil], arr1 w.frm]⟩ =
              some (.exit 1, ⟨[.und, .und, .und, .und, I b, I bl, .bp 0 0, .und, .bp 2 0, .bp 3 0, .und, .und, .ref 4 0 w.frm.length, .und, .t (tL l), I l.length, I l.length], [.box (mineCells m), .box [I w.time, .t (tL w.frm)], .box [.t (tL l)], .box [I 0, .nil], arr1 (absN w.frm l l.length)]⟩) := by
            intro z0 z1 z2 z3 z7 z10 z11 z13
            refine loop_up (fun j => ⟨[.und, .und, .und, .und, I b, I bl, .bp 0 0, .und, .bp 2 0, .bp 3 0, .und, .und, .ref 4 0 w.frm.length, .und, .t (tL l), I l.length, I j], [.box (mineCells m), .box [I w.time, .t (tL w.frm)], .box [.t (tL l)], .box [I 0, .nil], arr1 (absN w.frm l j)]⟩) l.length rfl ?_ ?_ (by simp)
            · intro j hj
              have lj := al j
              have nj := lm hj
              simp only [absN]
              generalize absN w.frm l j = r at *
              obtain ⟨places, roads⟩ := m
              obtain ⟨time, frm⟩ := w
              simp only [mineCells] at *
              simp (disch := omega) only [go_sem, K.places_Absent_l1b, ↓reduceIte, Nat.reduceAdd, Nat.reduceSub]
            · obtain ⟨places, roads⟩ := m
              obtain ⟨time, frm⟩ := w
              simp only [mineCells] at *
              simp (disch := omega) only [go_sem, K.places_Absent_l1b, ↓reduceIte, Nat.reduceAdd, Nat.reduceSub]
          have al := al l.length
          clear ab lm hb v3 hin c1b
          generalize closeF m b none (closeF m (b - bl) (some l) (absN w.frm l l.length)) = r3 at *
          generalize closeF m (b - bl) (some l) (absN w.frm l l.length) = r2 at *
          generalize absN w.frm l l.length = r1 at *
          obtain ⟨places, roads⟩ := m
          obtain ⟨time, frm⟩ := w
          simp only [mineCells] at *
          have e2 : r2.length = frm.length := by omega
          simp (disch := omega) only [go_sem, K.places_Absent, ↓reduceIte, g, ib, c2, c3, cl, loop, lo1, lo2, al, e2, Nat.reduceAdd, Nat.reduceSub]
    · rw [if_pos c1]
      rw [decide_eq_false (show ¬ (0 ≤ bl ∧ bl ≤ 2147483648) from c1)] at ib
      obtain ⟨places, roads⟩ := m
      obtain ⟨time, frm⟩ := w
      simp only at *
      simp (disch := omega) only [go_sem, K.places_Absent, ↓reduceIte, g, ib, Nat.reduceAdd, Nat.reduceSub]
  · rw [if_pos c0]
    generalize askedF m w l a b = q at *
    obtain ⟨places, roads⟩ := m
    obtain ⟨time, frm⟩ := w
    simp only at *
    simp (disch := omega) only [go_sem, K.places_Absent, ↓reduceIte, g, c0, Nat.reduceAdd, Nat.reduceSub]
end Go.Ev

namespace Go.Ev
open Go
variable [Lib] [Has1] [Has2]
section
variable {m : Mine} (hm : m.ok) {N : Nat} {b : Bel} (hb : BOk m N b) {s : Wh} (hs : s.frm.length = m.places.length) {l : List Mch}
variable (hl : ∀ y ∈ l, y.pl.length ≤ m.places.length ∧ 1 ≤ y.pl.length ∧ ∀ x ∈ y.pl, 0 ≤ x ∧ x < m.places.length) {t a : Int} (t0 : 0 ≤ t) (t1 : t ≤ 10000) (a0 : 0 ≤ a) (a1 : a ≤ 10000) (d : Dice)
include hm hb hs hl t0 t1 a0 a1
omit hm hb t0 t1 a1 in
end
def Dice.skip (d : Dice) (n : Int) : Nat → Dice
  | 0 => d
  | k + 1 => ((d.skip n k).next n).2
end Go.Ev

namespace Go.Ev
open Go
variable [Lib] [Has1] [Has2] [Has5]
end Go.Ev

namespace Go.Ev
open Go
variable [Lib] [Has1] [Has2] [Has3] [Has4] [Has5] [Has6] [Has7] [Has8] [Has9]
end Go.Ev

namespace Go.Ev
open Go
variable [Lib] [Has1] [Has2] [Has3] [Has4] [Has5] [Has6] [Has7] [Has8] [Has9]
end Go.Ev

namespace Go.Ev
open Go
variable [Lib] [Has1] [Has2] [Has3] [Has4] [Has5] [Has6] [Has7] [Has8] [Has9]
theorem abs_cases {m : Mine} (h : m.ok) {w : Wh} (hv : validB m w = true) (l : List Int) (a b bl : Int) :
    (absF m w l a b bl = (⟨b, closeF m b none (closeF m (b - bl) (some l) (absN w.frm l l.length))⟩, 0) ∧ askedF m w l a b = 0 ∧ w.time ≤ b ∧ max a w.time < b - bl ∧ inT bl ∧
      (closeF m (b - bl) (some l) (absN w.frm l l.length)).length = m.places.length ∧ (∀ x ∈ closeF m (b - bl) (some l) (absN w.frm l l.length), plT x)) ∨
    ((absF m w l a b bl).1 = w ∧ ((absF m w l a b bl).2 = 0 → w.time ≤ b ∧ askedF m w l a b = 0)) := by
  by_cases c0 : askedF m w l a b = 0
  · obtain ⟨-, h0, hs, ia, ib, hab⟩ := askedF_0 c0
    by_cases c1 : inT bl
    · by_cases c2 : b < w.time
      · right; unfold absF; rw [if_neg (by simpa using c0), if_neg (fun x => x c1), if_pos c2]; exact ⟨rfl, by simp⟩
      · by_cases c3 : b - max a w.time ≤ bl
        · right; unfold absF; rw [if_neg (by simpa using c0), if_neg (fun x => x c1), if_neg c2, if_pos c3]; exact ⟨rfl, fun _ => ⟨by omega, c0⟩⟩
        · left
          obtain ⟨v1, v2, v3, -⟩ := validB_spec hv
          have pl : ∀ x ∈ absN w.frm l l.length, plT x := by
            have key : ∀ k, ∀ x ∈ absN w.frm l k, plT x := by
              intro k
              induction k with
              | zero => exact v3
              | succ k ih =>
                intro x hx
                rcases List.mem_or_eq_of_mem_set hx with hx | hx
                · exact ih x hx
                · exact .inl hx
            exact key _
          have bn : bnd (absN w.frm l l.length) := fun x hx => plT_bnd (pl x hx)
          unfold inT at ia c1 v2 ib
          refine ⟨?_, c0, by omega, by omega, c1, (closeF_lb h (by rw [absN_len]; exact v1) bn).1, closeF_mem h plT (by rw [absN_len]; exact v1) bn pl (fun x h1 h2 => .inr ⟨by omega, h2⟩)⟩
          unfold absF; rw [if_neg (by simpa using c0), if_neg (fun x => x (by unfold inT; omega)), if_neg c2, if_neg c3]
    · right; unfold absF; rw [if_neg (by simpa using c0), if_pos c1]; exact ⟨rfl, by simp⟩
  · right; unfold absF; rw [if_pos c0]; exact ⟨rfl, fun h => absurd h c0⟩
theorem abs_valid {m : Mine} (h : m.ok) {w : Wh} (hv : validB m w = true) (l : List Int) (a b bl : Int) : validB m (absF m w l a b bl).1 = true := by
  rcases abs_cases h hv l a b bl with ⟨e, c0, -, hm, hbl, ln, pl⟩ | ⟨e, -⟩
  · obtain ⟨-, -, hs, ia, ib, hab⟩ := askedF_0 c0
    rw [e]
    exact close_valid h ln pl (by unfold inT at ib; omega) (Int.le_refl _) ib
  · rw [e]; exact hv
end Go.Ev

namespace Go.Ev
open Go
variable [Lib] [Has1] [Has2] [Has3] [Has4] [Has5] [Has6] [Has7] [Has8] [Has9] [Has10] [Has11]
def lexB : List Int → List Int → Bool
  | _, [] => false
  | [], _ :: _ => true
  | a :: r, b :: s => decide (a < b) || (decide (a = b) && lexB r s)
theorem nth_cons_succ (a : Int) (l : List Int) (j : Nat) : nth (a :: l) (j + 1) = nth l j := by simp [nth]
theorem nth_cons_zero (a : Int) (l : List Int) : nth (a :: l) 0 = a := by simp [nth]
theorem less_lex : ∀ a b : List Int, lessB a b = lexB a b
  | a, [] => by
    unfold lessB lexB
    simp
  | [], b :: s => by
    unfold lessB lexB
    simp
  | a :: r, b :: s => by
    have ih := less_lex r s
    unfold lessB at ih ⊢
    have e : min (a :: r).length (b :: s).length = min r.length s.length + 1 := by simp only [List.length_cons]; omega
    rw [e, List.range_succ_eq_map, List.find?_cons]
    simp only [nth_cons_zero]
    by_cases h : a = b
    · subst h
      simp only [ne_eq, not_true_eq_false, decide_false, Bool.false_eq_true, List.find?_map, lexB, decide_true, Bool.true_and, Int.lt_irrefl, Bool.false_or]
      rw [← ih]
      have : ((fun j => decide (¬nth (a :: r) j = nth (a :: s) j)) ∘ Nat.succ) = fun j => decide (nth r j ≠ nth s j) := by
        funext j
        simp only [Function.comp, Nat.succ_eq_add_one, nth_cons_succ, ne_eq]
      rw [this]
      cases (List.range (min r.length s.length)).find? (fun j => decide (nth r j ≠ nth s j)) with
      | some j => simp only [Option.map_some, Nat.succ_eq_add_one, nth_cons_succ]
      | none => simp only [Option.map_none, List.length_cons, Nat.add_lt_add_iff_right]
    · simp only [ne_eq, h, not_false_eq_true, decide_true, lexB, decide_false, Bool.false_and, Bool.or_false, nth_cons_zero]
structure WV (m : Mine) (first : List Int) (x : World) : Prop where
  pm : x.tags.Perm first
  wl : x.whr.length = first.length
  wv : ∀ w ∈ x.whr, validB m w = true
structure BV (m : Mine) (first : List Int) (ws : List World) : Prop where
  pr : properB first = true
  f1 : 1 ≤ first.length
  f2 : first.length ≤ 12
  wv : ∀ x ∈ ws, WV m first x
  up : ws.Pairwise fun x y => lexB x.tags y.tags = true
theorem proper_perm {a b : List Int} (h : a.Perm b) (hb : properB b = true) : properB a = true := by
  rw [properB_iff] at hb ⊢
  exact ⟨h.nodup_iff.2 hb.1, fun x hx => hb.2 x (h.mem_iff.1 hx)⟩
theorem BV.bel {m : Mine} {first : List Int} {ws : List World} (h : BV m first ws) (h1 : 1 ≤ ws.length) (h2 : ws.length ≤ 24) : belB m ⟨ws⟩ = true := by
  have w0 := h.wv _ (nth_mem (l := ws) (j := 0) (by omega))
  have l0 := w0.pm.length_eq
  simp only [belB, Bool.and_eq_true, decide_eq_true_eq, List.all_eq_true, List.mem_range, worldB, Bool.or_eq_true, whoB]
  have f1 := h.f1
  have f2 := h.f2
  refine ⟨⟨⟨h1, h2⟩, by omega⟩, fun i hi => ?_⟩
  have wi := h.wv _ (nth_mem (l := ws) (j := i) hi)
  have li := wi.pm.length_eq
  have wl := wi.wl
  refine ⟨⟨⟨by omega, proper_perm wi.pm h.pr⟩, ?_⟩, fun k hk => ⟨?_, ?_⟩⟩
  · by_cases c : i = 0
    · exact .inl c
    · right
      rw [less_lex]
      have := (List.pairwise_iff_getElem.1 h.up) (i - 1) i (by omega) hi (by omega)
      rwa [← nth_eq (List.getElem?_eq_getElem (by omega : i - 1 < ws.length)), ← nth_eq (List.getElem?_eq_getElem hi)] at this
  · exact bearerF_mem.2 (w0.pm.symm.mem_iff.1 (wi.pm.mem_iff.1 (nth_mem hk)))
  · exact wi.wv _ (nth_mem (by omega))
end Go.Ev

namespace Go.Ev.N
def law26_SwapsStarts : Nat := 271
def law26_SwapsMany : Nat := 272
def law26_SwapsTrue : Nat := 273
def law26_SwapsAlone : Nat := 274
def law26_SwapsRaw : Nat := 275
def law26_SwapsMade : Nat := 276
def law26_awake : Nat := 277
def swaps_Start : Nat := 278
def law26_same : Nat := 279
def law26_pair : Nat := 280
def swaps_Exchange : Nat := 281
def swaps_See : Nat := 282
def swaps_Absent : Nat := 283
def law26_light : Nat := 284
def law26_agree : Nat := 285
def ref26_Same : Nat := 286
def slices_Clone_api_World_api_World : Nat := 287
def swaps_meet : Nat := 288
def worlds_Copy : Nat := 289
def worlds_Tidy : Nat := 290
def swaps_apply : Nat := 291
def swaps_See_1 : Nat := 292
def swaps_Absent_1 : Nat := 293
def swaps_Renew : Nat := 294
def ref26_Renew : Nat := 295
def swaps_meet_1 : Nat := 296
def slices_SortedStableFunc_api_World : Nat := 297
def slices_Values_api_World_api_World : Nat := 298
def worlds_Tidy_1 : Nat := 299
def slices_Collect_api_World : Nat := 300
def slices_SortStableFunc_api_World_api_World : Nat := 301
def slices_Values_api_World_api_World_1 : Nat := 302
def slices_stableCmpFunc_api_World : Nat := 303
def slices_insertionSortCmpFunc_api_World : Nat := 304
def slices_symMergeCmpFunc_api_World : Nat := 305
def slices_rotateCmpFunc_api_World : Nat := 306
def slices_swapRangeCmpFunc_api_World : Nat := 307
def worlds_Copy_v1 : Nat := 308
end Go.Ev.N

namespace Go.Ev.K
open Go.Ev
def law26_SwapsAlone_l1b : C := (.seq (.ite [{ o := .mv (.v 12) }, { o := .bin .gtr (.l 0) (.i 0) }] [] 0 .skip (.exit 0)) (.seq (.blk 1 (.seq (.reg [{ o := .mv (.v 2) }, { o := .fa (.v 3) 0 }, { o := .ld (.l 0) 1 false }, { o := .ln (.l 0) }, { o := .ca N.made_Dice_Some 0 [] [.l 3, .l 0] }, { o := .mv (.v 11) }, { o := .mv (.v 2) }, { o := .ca N.made_Dice_Next 0 [] [.l 0, .i 60] }, { o := .bin .add (.l 2) (.l 0) }, { o := .mv (.l 4), d := some 13 }, { o := .mv (.l 1), d := some 14 }] []) (.seq (.reg [{ o := .mv (.v 14) }, { o := .mv (.v 2) }, { o := .ca N.made_Dice_Next 0 [] [.l 0, .i 60] }, { o := .bin .add (.l 2) (.l 0) }, { o := .mv (.l 0), d := some 15 }] []) (.seq (.reg [{ o := .mv (.v 2) }, { o := .bs [.i 8, .i 3] 1 }, { o := .ca N.made_Dice_Of 0 [] [.l 1, .l 0] }, { o := .mv (.l 0), d := some 16 }] []) (.seq (.reg [{ o := .mv (.v 7), d := some 17 }] []) (.seq (.ite [{ o := .mv (.v 16) }, { o := .bin .eql (.l 0) (.i 3) }] [] 0 (.reg [{ o := .mv (.v 9), d := some 17 }] []) .skip) (.seq (.ite [{ o := .mv (.v 2) }, { o := .ca N.made_Dice_One 0 [] [.l 0, .i 2] }] [] 0 (.seq (.reg [{ o := .al [.t (.int .i64 (0)), .nil] [], d := some 18 }, { o := .ld (.v 3) 2 true }, { o := .mv (.v 17) }, { o := .nc (.l 0) }, { o := .ld (.l 0) 2 true }, { o := .mv (.v 13) }, { o := .mv (.v 14) }, { o := .mv (.v 15) }, { o := .ca N.ref25_See 0 [] [.l 6, .l 3, .l 2, .l 1, .l 0] }, { o := .mv (.l 0) }, { o := .ex (.l 0) 0 }, { o := .ex (.l 1) 1 }, { o := .st (.l 11) (.l 1) 2 [] }, { o := .mv (.l 1), d := some 19 }] [(0, 9)]) (.seq (.reg [{ o := .ld (.v 3) 2 true }, { o := .ld (.v 5) 1 true }, { o := .mv (.v 16) }, { o := .mv (.v 13) }, { o := .mv (.v 14) }, { o := .mv (.v 15) }, { o := .ca N.swaps_See 0 [] [.l 5, .l 4, .l 3, .l 2, .l 1, .l 0] }, { o := .mv (.l 0) }, { o := .ex (.l 0) 0 }, { o := .ex (.l 1) 1 }, { o := .st (.v 5) (.l 1) 1 [] }, { o := .mv (.l 1), d := some 6 }] []) (.seq (.ite [{ o := .mv (.v 19) }, { o := .bin .eql (.l 0) (.i 0) }] [] 0 (.reg [{ o := .mv (.v 17) }, { o := .ld (.v 18) 2 true }, { o := .nc (.l 1) }, { o := .st (.l 0) (.l 1) 2 [] }] []) .skip) (.ite [{ o := .mv (.v 19) }, { o := .mv (.v 6) }, { o := .bin .neq (.l 1) (.l 0) }, { o := .mv (.l 0) }, { o := .mv (.v 19), g := some (0, true) }, { o := .bin .neq (.l 0) (.i 42), g := some (1, true) }, { o := .pk (.l 2) (.l 0) (.b false) }] [] 0 (.seq (.reg [{ o := .mv (.b false), d := some 1 }] []) .ret) .skip)))) (.seq (.reg [{ o := .mv (.v 17) }, { o := .ld (.v 3) 2 true }, { o := .mv (.v 17) }, { o := .nc (.l 0) }, { o := .ld (.l 0) 2 true }, { o := .mv (.v 13) }, { o := .mv (.v 14) }, { o := .mv (.v 15) }, { o := .ca N.ref25_Absent 0 [2] [.l 6, .l 3, .l 2, .l 1, .l 0, .i 20] }, { o := .mv (.l 0) }, { o := .ex (.l 0) 0 }, { o := .ex (.l 1) 1 }, { o := .nc (.l 11) }, { o := .st (.l 0) (.l 2) 2 [] }] []) (.reg [{ o := .ld (.v 3) 2 true }, { o := .ld (.v 5) 1 true }, { o := .mv (.v 16) }, { o := .mv (.v 13) }, { o := .mv (.v 14) }, { o := .mv (.v 15) }, { o := .ca N.swaps_Absent 0 [] [.l 5, .l 4, .l 3, .l 2, .l 1, .l 0, .i 20] }, { o := .mv (.l 0) }, { o := .ex (.l 0) 0 }, { o := .ex (.l 1) 1 }, { o := .st (.v 5) (.l 1) 1 [] }] []))) (.seq (.ite [{ o := .fa (.v 5) 0 }, { o := .ld (.l 0) 1 false }, { o := .ln (.l 0) }, { o := .bin .neq (.l 0) (.i 1) }, { o := .mv (.l 0) }, { o := .fa (.v 5) 0, g := some (0, false) }, { o := .ld (.l 0) 1 false, g := some (1, false) }, { o := .ia (.l 0) (.i 0) 2, g := some (2, false) }, { o := .fa (.l 0) 1, g := some (3, false) }, { o := .ld (.l 0) 1 false, g := some (4, false) }, { o := .ln (.l 0), g := some (5, false) }, { o := .bin .neq (.l 0) (.i 2), g := some (6, false) }, { o := .pk (.l 7) (.b true) (.l 0) }, { o := .mv (.l 0) }, { o := .fa (.v 5) 0, g := some (0, false) }, { o := .ld (.l 0) 1 false, g := some (1, false) }, { o := .ia (.l 0) (.i 0) 2, g := some (2, false) }, { o := .fa (.l 0) 1, g := some (3, false) }, { o := .ld (.l 0) 1 false, g := some (4, false) }, { o := .ia (.l 0) (.i 0) 2, g := some (5, false) }, { o := .ld (.l 0) 2 true, g := some (6, false) }, { o := .ld (.v 7) 2 true, g := some (7, false) }, { o := .ca N.ref25_Same 0 [] [.l 1, .l 0], g := some (8, false) }, { o := .un .not (.l 0), g := some (9, false) }, { o := .pk (.l 10) (.b true) (.l 0) }, { o := .mv (.l 0) }, { o := .fa (.v 5) 0, g := some (0, false) }, { o := .ld (.l 0) 1 false, g := some (1, false) }, { o := .ia (.l 0) (.i 0) 2, g := some (2, false) }, { o := .fa (.l 0) 1, g := some (3, false) }, { o := .ld (.l 0) 1 false, g := some (4, false) }, { o := .ia (.l 0) (.i 1) 2, g := some (5, false) }, { o := .ld (.l 0) 2 true, g := some (6, false) }, { o := .ld (.v 9) 2 true, g := some (7, false) }, { o := .ca N.ref25_Same 0 [] [.l 1, .l 0], g := some (8, false) }, { o := .un .not (.l 0), g := some (9, false) }, { o := .pk (.l 10) (.b true) (.l 0) }] [] 0 (.seq (.reg [{ o := .mv (.b false), d := some 1 }] []) .ret) .skip) (.reg [{ o := .mv (.v 11) }, { o := .mv (.v 2) }, { o := .ca N.made_Dice_Next 0 [] [.l 0, .i 40] }, { o := .bin .add (.l 2) (.l 0) }, { o := .mv (.l 0), d := some 11 }] []))))))))) (.reg [{ o := .mv (.v 12) }, { o := .bin .sub (.l 0) (.i 1) }, { o := .mv (.l 0), d := some 12 }] [])))
def law26_SwapsAlone_l1 : C := .loop true [0, 1, 4, 6, 8, 10, 13, 14, 15, 16, 17, 18, 19] K.law26_SwapsAlone_l1b
def law26_SwapsAlone : Fn := { nargs := 1, vars := [0, 2, 3, 4, 5, 6, 7, 8, 9, 10, 11, 12, 13, 14, 15, 16, 17, 18, 19, 20], body := (.seq (.reg [{ o := .mv (.b false), d := some 1 }] []) (.seq (.ite [{ o := .mv (.v 0) }, { o := .ca N.made_Light 0 [] [.l 0] }, { o := .un .not (.l 0) }] [] 0 (.seq (.reg [{ o := .ca N.law26_awake 0 [] [] }, { o := .mv (.l 0), d := some 1 }] []) .ret) .skip) (.seq (.reg [{ o := .mv (.v 0) }, { o := .ca N.made_Roll 0 [] [.l 0] }, { o := .mv (.l 0), d := some 2 }] []) (.seq (.reg [{ o := .mv (.v 2) }, { o := .ca N.made_Dice_Mine 0 [] [.l 0] }, { o := .al [.nil, .nil] [], d := some 3 }, { o := .st (.l 0) (.l 1) 2 [] }] []) (.seq (.reg [{ o := .mv (.v 2) }, { o := .fa (.v 3) 0 }, { o := .ld (.l 0) 1 false }, { o := .ln (.l 0) }, { o := .ca N.made_Dice_Next 0 [] [.l 3, .l 0] }, { o := .mv (.v 2) }, { o := .fa (.v 3) 0 }, { o := .ld (.l 0) 1 false }, { o := .ln (.l 0) }, { o := .ca N.made_Dice_Next 0 [] [.l 3, .l 0] }, { o := .bs [.l 5, .l 0] 1 }, { o := .mv (.l 0), d := some 4 }] [(7, 0)]) (.seq (.reg [{ o := .ld (.v 3) 2 true }, { o := .bs [.i 8, .i 3] 1 }, { o := .mv (.v 4) }, { o := .ca N.swaps_Start 0 [] [.l 2, .l 1, .l 0, .i 20] }, { o := .mv (.l 0) }, { o := .ex (.l 0) 0 }, { o := .ex (.l 1) 1 }, { o := .al [.nil] [], d := some 5 }, { o := .st (.l 0) (.l 2) 1 [] }, { o := .mv (.l 2), d := some 6 }] []) (.seq (.reg [{ o := .al [.t (.int .i64 (0)), .nil] [], d := some 7 }, { o := .ld (.v 3) 2 true }, { o := .mv (.v 4) }, { o := .ia (.l 0) (.i 0) 1 }, { o := .ld (.l 0) 1 false }, { o := .ca N.ref25_Start 0 [] [.l 3, .l 0, .i 20] }, { o := .mv (.l 0) }, { o := .ex (.l 0) 0 }, { o := .ex (.l 1) 1 }, { o := .st (.l 8) (.l 1) 2 [] }, { o := .mv (.l 1), d := some 8 }] [(0, 6)]) (.seq (.reg [{ o := .al [.t (.int .i64 (0)), .nil] [], d := some 9 }, { o := .ld (.v 3) 2 true }, { o := .mv (.v 4) }, { o := .ia (.l 0) (.i 1) 1 }, { o := .ld (.l 0) 1 false }, { o := .ca N.ref25_Start 0 [] [.l 3, .l 0, .i 20] }, { o := .mv (.l 0) }, { o := .ex (.l 0) 0 }, { o := .ex (.l 1) 1 }, { o := .st (.l 8) (.l 1) 2 [] }, { o := .mv (.l 1), d := some 10 }] [(0, 6)]) (.seq (.ite [{ o := .mv (.v 6) }, { o := .bin .neq (.l 0) (.i 0) }, { o := .mv (.l 0) }, { o := .mv (.v 8), g := some (0, false) }, { o := .bin .neq (.l 0) (.i 0), g := some (1, false) }, { o := .pk (.l 2) (.b true) (.l 0) }, { o := .mv (.l 0) }, { o := .mv (.v 10), g := some (0, false) }, { o := .bin .neq (.l 0) (.i 0), g := some (1, false) }, { o := .pk (.l 2) (.b true) (.l 0) }] [] 0 (.seq (.reg [{ o := .mv (.b false), d := some 1 }] []) .ret) .skip) (.seq (.reg [{ o := .mv (.i 20), d := some 11 }] []) (.seq (.seq (.reg [{ o := .mv (.v 2) }, { o := .ca N.made_Dice_Next 0 [] [.l 0, .i 8] }, { o := .mv (.l 0), d := some 12 }] []) (.blk 0 K.law26_SwapsAlone_l1)) (.seq (.reg [{ o := .ca N.law26_awake 0 [] [] }, { o := .mv (.l 0), d := some 1 }] []) .ret)))))))))))), res := [(1, none)] }
def law26_awake : Fn := { nargs := 0, vars := [0, 1, 2, 3, 4, 5, 6, 7, 8], body := (.seq (.reg [{ o := .mv (.b false), d := some 0 }] []) (.seq (.reg [{ o := .ca N.law26_pair 0 [] [] }, { o := .al [.nil, .nil] [], d := some 1 }, { o := .st (.l 0) (.l 1) 2 [] }] []) (.seq (.reg [{ o := .ld (.v 1) 2 true }, { o := .bs [.i 4, .i 9] 1 }, { o := .bs [.i 0, .i 0] 1 }, { o := .ca N.swaps_Start 0 [] [.l 2, .l 1, .l 0, .i 0] }, { o := .mv (.l 0) }, { o := .ex (.l 0) 0 }, { o := .ex (.l 1) 1 }, { o := .al [.nil] [], d := some 2 }, { o := .st (.l 0) (.l 2) 1 [] }, { o := .mv (.l 2), d := some 3 }] []) (.seq (.reg [{ o := .ld (.v 1) 2 true }, { o := .ld (.v 2) 1 true }, { o := .ca N.swaps_Exchange 0 [] [.l 1, .l 0, .i 0, .i 1, .i 0] }, { o := .mv (.l 0) }, { o := .ex (.l 0) 0 }, { o := .ex (.l 1) 1 }, { o := .al [.nil] [], d := some 4 }, { o := .st (.l 0) (.l 2) 1 [] }, { o := .mv (.l 2), d := some 5 }] []) (.seq (.reg [{ o := .ld (.v 1) 2 true }, { o := .ld (.v 4) 1 true }, { o := .bs [.i 1] 1 }, { o := .ca N.swaps_See 0 [] [.l 2, .l 1, .i 9, .l 0, .i 20, .i 20] }, { o := .mv (.l 0) }, { o := .ex (.l 0) 0 }, { o := .ex (.l 1) 1 }, { o := .al [.nil] [], d := some 6 }, { o := .st (.l 0) (.l 2) 1 [] }, { o := .mv (.l 2), d := some 7 }] []) (.seq (.reg [{ o := .ld (.v 6) 1 true }, { o := .ca N.swaps_Possible 0 [] [.l 0, .i 0, .i 20] }, { o := .mv (.l 0), d := some 8 }] []) (.seq (.reg [{ o := .mv (.v 3) }, { o := .bin .eql (.l 0) (.i 0) }, { o := .mv (.l 0) }, { o := .mv (.v 5), g := some (0, true) }, { o := .bin .eql (.l 0) (.i 0), g := some (1, true) }, { o := .pk (.l 2) (.l 0) (.b false) }, { o := .mv (.l 0) }, { o := .mv (.v 7), g := some (0, true) }, { o := .bin .eql (.l 0) (.i 0), g := some (1, true) }, { o := .pk (.l 2) (.l 0) (.b false) }, { o := .mv (.l 0) }, { o := .fa (.v 2) 0, g := some (0, true) }, { o := .ld (.l 0) 1 false, g := some (1, true) }, { o := .ln (.l 0), g := some (2, true) }, { o := .bin .eql (.l 0) (.i 1), g := some (3, true) }, { o := .pk (.l 4) (.l 0) (.b false) }, { o := .mv (.l 0) }, { o := .fa (.v 4) 0, g := some (0, true) }, { o := .ld (.l 0) 1 false, g := some (1, true) }, { o := .ln (.l 0), g := some (2, true) }, { o := .bin .eql (.l 0) (.i 2), g := some (3, true) }, { o := .pk (.l 4) (.l 0) (.b false) }, { o := .mv (.l 0) }, { o := .fa (.v 6) 0, g := some (0, true) }, { o := .ld (.l 0) 1 false, g := some (1, true) }, { o := .ln (.l 0), g := some (2, true) }, { o := .bin .eql (.l 0) (.i 2), g := some (3, true) }, { o := .pk (.l 4) (.l 0) (.b false) }, { o := .mv (.l 0) }, { o := .mv (.v 8), g := some (0, true) }, { o := .ln (.l 0), g := some (1, true) }, { o := .bin .eql (.l 0) (.i 2), g := some (2, true) }, { o := .pk (.l 3) (.l 0) (.b false) }, { o := .mv (.l 0) }, { o := .ld (.v 1) 2 true, g := some (0, true) }, { o := .ld (.v 6) 1 true, g := some (1, true) }, { o := .ca N.swaps_Valid 0 [] [.l 1, .l 0], g := some (2, true) }, { o := .pk (.l 3) (.l 0) (.b false) }, { o := .mv (.l 0), d := some 0 }] []) .ret))))))), res := [(0, none)] }
def swaps_Start_l1b : C := (.its  [{ o := .bin .lss (.v 13) (.v 12) }] [] 0 .skip (.exit 1) (.seq (.blk 2 (.seq (.reg [{ o := .ia (.v 11) (.v 13) 1 }, { o := .ld (.l 0) 1 false }, { o := .mv (.l 0), d := some 8 }] []) (.seq (.reg [{ o := .ld (.v 4) 2 true }, { o := .mv (.v 8) }, { o := .mv (.v 3) }, { o := .ca N.places_Start 0 [] [.l 2, .l 1, .l 0] }, { o := .mv (.l 0) }, { o := .ex (.l 0) 0 }, { o := .ex (.l 1) 1 }, { o := .al [.t (.int .i64 (0)), .nil] [], d := some 9 }, { o := .st (.l 0) (.l 2) 2 [] }, { o := .mv (.l 2), d := some 10 }] []) (.seq (.ite [{ o := .mv (.v 10) }, { o := .bin .neq (.l 0) (.i 0) }] [] 0 (.seq (.reg [{ o := .bd [.nil] [] }, { o := .mv (.v 10) }, { o := .st (.v 5) (.l 1) 1 [] }, { o := .mv (.l 1), d := some 6 }] []) .ret) .skip) (.reg [{ o := .fa (.v 7) 1 }, { o := .ld (.l 0) 1 false }, { o := .ld (.v 9) 2 true }, { o := .bs [.l 0] 2 }, { o := .app (.l 2) (.l 0) true 2 }, { o := .fa (.v 7) 1 }, { o := .st (.l 0) (.l 1) 1 [] }] []))))) (.reg [{ o := .bin .add (.v 13) (.i 1) }, { o := .mv (.l 0), d := some 13 }] [])))
def swaps_Start_l1 : C := .loop true [0, 1, 2, 6, 8, 9, 10] K.swaps_Start_l1b
def swaps_Start : Fn := { nargs := 4, vars := [0, 1, 2, 3, 4, 8, 9, 10, 12, 13, 14, 41, 42, 43], body := (.seq (.reg [{ o := .bx (.v 0) 2, d := some 4 }, { o := .al [.nil] [], d := some 5 }, { o := .mv (.i 0), d := some 6 }] []) (.seq (.blk 0 (.ite [{ o := .ld (.v 4) 2 true }, { o := .ca N.plan_Valid 0 [] [.l 0] }, { o := .un .not (.l 0) }, { o := .mv (.l 0) }, { o := .mv (.v 1), g := some (0, false) }, { o := .ln (.l 0), g := some (1, false) }, { o := .mv (.v 2), g := some (2, false) }, { o := .ln (.l 0), g := some (3, false) }, { o := .bin .neq (.l 2) (.l 0), g := some (4, false) }, { o := .pk (.l 5) (.b true) (.l 0) }, { o := .mv (.l 0) }, { o := .mv (.v 1), g := some (0, false) }, { o := .ln (.l 0), g := some (1, false) }, { o := .ca N.lists_In 0 [] [.l 0, .i 1, .i 12], g := some (2, false) }, { o := .un .not (.l 0), g := some (3, false) }, { o := .pk (.l 4) (.b true) (.l 0) }, { o := .mv (.l 0) }] [] 0 (.seq (.reg [{ o := .bd [.nil] [] }, { o := .st (.v 5) (.l 0) 1 [] }, { o := .mv (.i 6), d := some 6 }] []) .ret) (.ite [{ o := .mv (.v 1) }, { o := .ca N.swaps_tagged 0 [] [.l 0] }, { o := .un .not (.l 0) }, { o := .mv (.l 0) }] [] 0 (.seq (.reg [{ o := .bd [.nil] [] }, { o := .st (.v 5) (.l 0) 1 [] }, { o := .mv (.i 41), d := some 6 }] []) .ret) .skip))) (.seq (.reg [{ o := .mv (.v 1) }, { o := .ca N.slices_Clone_int_int 0 [] [.l 0] }, { o := .bd [.nil, .nil] [(0, 1, .l 0)] }, { o := .al [.nil, .nil] [(1, 2)], d := some 7 }, { o := .st (.l 0) (.l 1) 2 [(1, 2)] }] []) (.seq (.seq (.reg [{ o := .mv (.v 2), d := some 11 }, { o := .ln (.l 0), d := some 12 }, { o := .mv (.i 0), d := some 13 }] []) (.blk 1 K.swaps_Start_l1)) (.seq (.reg [{ o := .ld (.v 7) 2 true }, { o := .bs [.l 0] 2 }, { o := .bd [.nil] [(0, 1, .l 0)] }, { o := .st (.v 5) (.l 0) 1 [] }, { o := .mv (.i 0), d := some 6 }] []) .ret))))), res := [(5, some (1, true)), (6, none)] }
def law26_pair : Fn := { nargs := 0, vars := [0], body := (.seq (.reg [{ o := .al [.nil, .nil] [], d := some 0 }] []) (.seq (.reg [{ o := .bd [.t (.int .i64 (0)), .t (.bool false)] [(1, 1, .b true)] }, { o := .bd [.t (.int .i64 (0)), .t (.bool false)] [] }, { o := .bs [.l 1, .l 0] 2 }, { o := .bd [.t (.int .i64 (0)), .t (.int .i64 (0))] [(0, 1, .i 1), (1, 1, .i 1)] }, { o := .bd [.t (.int .i64 (0)), .t (.int .i64 (0)), .t (.int .i64 (0)), .t (.int .i64 (0)), .t (.bool false), .t (.bool false), .t (.int .i64 (0)), .t (.int .i64 (0)), .t (.int .i64 (0)), .t (.int .i64 (0))] [(1, 1, .i 1), (2, 1, .i 12), (3, 1, .i 1), (4, 1, .b true), (6, 2, .l 0)] }, { o := .bs [.l 0] 10 }, { o := .bd [.nil, .nil] [(0, 1, .l 3), (1, 1, .l 0)] }, { o := .st (.v 0) (.l 0) 2 [] }] []) .ret)), res := [(0, some (2, true))] }
def swaps_Exchange_l2b : C := (.its  [{ o := .bin .lss (.v 21) (.i 2) }] [] 0 .skip (.exit 3) (.seq (.blk 4 (.seq (.reg [{ o := .ix (.v 20) (.v 21) 2 1 false }, { o := .mv (.l 0), d := some 13 }] []) (.seq (.reg [{ o := .fa (.v 12) 1 }, { o := .ld (.l 0) 1 false }, { o := .mv (.v 13) }, { o := .ia (.l 1) (.l 0) 2 }, { o := .ld (.l 0) 2 true }, { o := .mv (.v 4) }, { o := .ca N.places_Raise 0 [] [.l 1, .l 0] }, { o := .mv (.l 0) }, { o := .ex (.l 0) 0 }, { o := .ex (.l 1) 1 }, { o := .al [.t (.int .i64 (0)), .nil] [], d := some 14 }, { o := .st (.l 0) (.l 2) 2 [] }, { o := .mv (.l 2), d := some 15 }] []) (.ite [{ o := .mv (.v 15) }, { o := .bin .eql (.l 0) (.i 0) }] [] 0 (.reg [{ o := .fa (.v 12) 1 }, { o := .ld (.l 0) 1 false }, { o := .mv (.v 13) }, { o := .ld (.v 14) 2 true }, { o := .ia (.l 2) (.l 1) 2 }, { o := .st (.l 0) (.l 1) 2 [] }] []) .skip)))) (.reg [{ o := .bin .add (.v 21) (.i 1) }, { o := .mv (.l 0), d := some 21 }] [])))
def swaps_Exchange_l2 : C := .loop true [0, 1, 5, 8, 9, 11, 13, 14, 15, 16] K.swaps_Exchange_l2b
def swaps_Exchange_l1b : C := (.its  [{ o := .bin .lss (.v 19) (.v 18) }] [] 0 .skip (.exit 1) (.seq (.blk 2 (.seq (.reg [{ o := .ia (.v 17) (.v 19) 2 }, { o := .ld (.l 0) 2 true }, { o := .al [.nil, .nil] [], d := some 11 }, { o := .st (.l 0) (.l 1) 2 [] }] []) (.seq (.ite [{ o := .fa (.v 11) 1 }, { o := .ld (.l 0) 1 false }, { o := .mv (.v 2) }, { o := .ia (.l 1) (.l 0) 2 }, { o := .ld (.l 0) 2 true }, { o := .fa (.v 11) 1 }, { o := .ld (.l 0) 1 false }, { o := .mv (.v 3) }, { o := .ia (.l 1) (.l 0) 2 }, { o := .ld (.l 0) 2 true }, { o := .mv (.v 4) }, { o := .ca N.swaps_meet 0 [] [.l 6, .l 1, .l 0] }, { o := .un .not (.l 0) }] [] 0 (.exit 2) .skip) (.seq (.reg [{ o := .ld (.v 11) 2 true }, { o := .ca N.worlds_Copy_v1 1 [] [.l 0] }, { o := .al [.nil, .nil] [], d := some 12 }, { o := .st (.l 0) (.l 1) 2 [] }] []) (.seq (.reg [{ o := .fa (.v 12) 0 }, { o := .ld (.l 0) 1 false }, { o := .mv (.v 2) }, { o := .fa (.v 12) 0 }, { o := .ld (.l 0) 1 false }, { o := .mv (.v 3) }, { o := .fa (.v 12) 0 }, { o := .ld (.l 0) 1 false }, { o := .mv (.v 3) }, { o := .ia (.l 1) (.l 0) 1 }, { o := .ld (.l 0) 1 false }, { o := .fa (.v 12) 0 }, { o := .ld (.l 0) 1 false }, { o := .mv (.v 2) }, { o := .ia (.l 1) (.l 0) 1 }, { o := .ld (.l 0) 1 false }, { o := .ia (.l 14) (.l 13) 1 }, { o := .st (.l 0) (.l 6) 1 [] }, { o := .ia (.l 13) (.l 12) 1 }, { o := .st (.l 0) (.l 3) 1 [] }] [(4, 18)]) (.seq (.seq (.reg [{ o := .mv (.v 2) }, { o := .mv (.v 3) }, { o := .bd [.t (.int .i64 (0)), .t (.int .i64 (0))] [(0, 1, .l 1), (1, 1, .l 0)], d := some 20 }, { o := .mv (.i 0), d := some 21 }] []) (.blk 3 K.swaps_Exchange_l2)) (.reg [{ o := .mv (.v 10) }, { o := .ld (.v 12) 2 true }, { o := .bs [.l 0] 2 }, { o := .app (.l 2) (.l 0) true 2 }, { o := .mv (.l 0), d := some 10 }] []))))))) (.reg [{ o := .bin .add (.v 19) (.i 1) }, { o := .mv (.l 0), d := some 19 }] [])))
def swaps_Exchange_l1 : C := .loop true [0, 1, 5, 8, 9, 11, 12, 13, 14, 15, 16, 20, 21] K.swaps_Exchange_l1b
def swaps_Exchange : Fn := { nargs := 5, vars := [0, 1, 2, 3, 4, 5, 6, 10, 11, 12, 13, 15, 16, 18, 19, 20, 21, 60, 61, 62, 101, 102], body := (.seq (.reg [{ o := .bx (.v 0) 2, d := some 5 }, { o := .bx (.v 1) 1, d := some 6 }, { o := .al [.nil] [], d := some 7 }, { o := .mv (.i 0), d := some 8 }] []) (.seq (.ite [{ o := .ld (.v 5) 2 true }, { o := .ld (.v 6) 1 true }, { o := .ca N.swaps_Valid 0 [] [.l 1, .l 0] }, { o := .un .not (.l 0) }] [] 0 (.seq (.reg [{ o := .ld (.v 6) 1 true }, { o := .st (.v 7) (.l 0) 1 [] }, { o := .mv (.i 6), d := some 8 }] []) .ret) .skip) (.seq (.reg [{ o := .fa (.v 6) 0 }, { o := .ld (.l 0) 1 false }, { o := .ia (.l 0) (.i 0) 2 }, { o := .fa (.l 0) 0 }, { o := .ld (.l 0) 1 false }, { o := .ln (.l 0) }, { o := .bin .sub (.l 0) (.i 1) }, { o := .mv (.l 0), d := some 9 }] []) (.seq (.blk 0 (.ite [{ o := .mv (.v 2) }, { o := .mv (.v 9) }, { o := .ca N.lists_In 0 [] [.l 1, .i 0, .l 0] }, { o := .un .not (.l 0) }, { o := .mv (.l 0) }, { o := .mv (.v 3), g := some (0, false) }, { o := .mv (.v 9), g := some (1, false) }, { o := .ca N.lists_In 0 [] [.l 1, .i 0, .l 0], g := some (2, false) }, { o := .un .not (.l 0), g := some (3, false) }, { o := .pk (.l 4) (.b true) (.l 0) }, { o := .mv (.l 0) }, { o := .mv (.v 2), g := some (0, false) }, { o := .mv (.v 3), g := some (1, false) }, { o := .bin .eql (.l 1) (.l 0), g := some (2, false) }, { o := .pk (.l 3) (.b true) (.l 0) }, { o := .mv (.l 0) }] [] 0 (.seq (.reg [{ o := .ld (.v 6) 1 true }, { o := .st (.v 7) (.l 0) 1 [] }, { o := .mv (.i 19), d := some 8 }] []) .ret) (.ite [{ o := .mv (.v 4) }, { o := .ca N.lists_In 0 [] [.l 0, .i 0, .i 2147483648] }, { o := .un .not (.l 0) }, { o := .mv (.l 0) }] [] 0 (.seq (.reg [{ o := .ld (.v 6) 1 true }, { o := .st (.v 7) (.l 0) 1 [] }, { o := .mv (.i 8), d := some 8 }] []) .ret) .skip))) (.seq (.reg [{ o := .fa (.v 6) 0 }, { o := .ld (.l 0) 1 false }, { o := .ca N.slices_Clone_api_World_api_World 1 [] [.l 0] }, { o := .mv (.l 0), d := some 10 }] []) (.seq (.seq (.reg [{ o := .fa (.v 6) 0 }, { o := .ld (.l 0) 1 false, d := some 17 }, { o := .ln (.l 0), d := some 18 }, { o := .mv (.i 0), d := some 19 }] []) (.blk 1 K.swaps_Exchange_l1)) (.seq (.reg [{ o := .mv (.v 10) }, { o := .ca N.worlds_Tidy 0 [] [.l 0] }, { o := .bd [.nil] [(0, 1, .l 0)] }, { o := .al [.nil] [], d := some 16 }, { o := .st (.l 0) (.l 1) 1 [] }] []) (.seq (.ite [{ o := .fa (.v 16) 0 }, { o := .ld (.l 0) 1 false }, { o := .ln (.l 0) }, { o := .bin .gtr (.l 0) (.i 24) }] [] 0 (.seq (.reg [{ o := .ld (.v 6) 1 true }, { o := .st (.v 7) (.l 0) 1 [] }, { o := .mv (.i 44), d := some 8 }] []) .ret) .skip) (.seq (.reg [{ o := .ld (.v 16) 1 true }, { o := .st (.v 7) (.l 0) 1 [] }, { o := .mv (.i 0), d := some 8 }] []) .ret))))))))), res := [(7, some (1, true)), (8, none)] }
def swaps_See : Fn := { nargs := 6, vars := [0, 1, 2, 3, 4, 5, 6, 7, 9, 10, 11, 12, 13], body := (.seq (.reg [{ o := .bx (.v 0) 2, d := some 6 }, { o := .bx (.v 1) 1, d := some 7 }, { o := .bx (.v 3) 1, d := some 8 }, { o := .bx (.v 4) 1, d := some 9 }, { o := .bx (.v 5) 1, d := some 10 }, { o := .al [.nil] [], d := some 11 }, { o := .mv (.i 0), d := some 12 }] []) (.seq (.reg [{ o := .ld (.v 6) 2 true }, { o := .ld (.v 7) 1 true }, { o := .mv (.v 2) }, { o := .mf N.swaps_See_1 [.v 6, .v 8, .v 9, .v 10] }, { o := .ca N.swaps_apply 0 [] [.l 3, .l 2, .l 1, .l 0] }, { o := .ex (.l 0) 0 }, { o := .ex (.l 1) 1 }, { o := .st (.v 11) (.l 1) 1 [] }, { o := .mv (.l 1), d := some 12 }] []) .ret)), res := [(11, some (1, true)), (12, none)] }
def swaps_Absent : Fn := { nargs := 7, vars := [0, 1, 2, 3, 4, 5, 6, 7, 8, 10, 11, 12, 13, 14, 15], body := (.seq (.reg [{ o := .bx (.v 0) 2, d := some 7 }, { o := .bx (.v 1) 1, d := some 8 }, { o := .bx (.v 3) 1, d := some 9 }, { o := .bx (.v 4) 1, d := some 10 }, { o := .bx (.v 5) 1, d := some 11 }, { o := .bx (.v 6) 1, d := some 12 }, { o := .al [.nil] [], d := some 13 }, { o := .mv (.i 0), d := some 14 }] []) (.seq (.reg [{ o := .ld (.v 7) 2 true }, { o := .ld (.v 8) 1 true }, { o := .mv (.v 2) }, { o := .mf N.swaps_Absent_1 [.v 7, .v 9, .v 10, .v 11, .v 12] }, { o := .ca N.swaps_apply 0 [] [.l 3, .l 2, .l 1, .l 0] }, { o := .ex (.l 0) 0 }, { o := .ex (.l 1) 1 }, { o := .st (.v 13) (.l 1) 1 [] }, { o := .mv (.l 1), d := some 14 }] []) .ret)), res := [(13, some (1, true)), (14, none)] }
end Go.Ev.K
namespace Go.Ev
class Has12 [Lib] : Prop where
  t_law26_SwapsAlone : Lib.fs N.law26_SwapsAlone = some K.law26_SwapsAlone
  t_law26_awake : Lib.fs N.law26_awake = some K.law26_awake
  t_swaps_Start : Lib.fs N.swaps_Start = some K.swaps_Start
  t_law26_pair : Lib.fs N.law26_pair = some K.law26_pair
  t_swaps_Exchange : Lib.fs N.swaps_Exchange = some K.swaps_Exchange
  t_swaps_See : Lib.fs N.swaps_See = some K.swaps_See
  t_swaps_Absent : Lib.fs N.swaps_Absent = some K.swaps_Absent
namespace K
variable [Lib] [Has12]
theorem t_law26_SwapsAlone : Lib.fs N.law26_SwapsAlone = some K.law26_SwapsAlone := Has12.t_law26_SwapsAlone
theorem t_law26_awake : Lib.fs N.law26_awake = some K.law26_awake := Has12.t_law26_awake
theorem t_swaps_Start : Lib.fs N.swaps_Start = some K.swaps_Start := Has12.t_swaps_Start
theorem t_law26_pair : Lib.fs N.law26_pair = some K.law26_pair := Has12.t_law26_pair
theorem t_swaps_Exchange : Lib.fs N.swaps_Exchange = some K.swaps_Exchange := Has12.t_swaps_Exchange
theorem t_swaps_See : Lib.fs N.swaps_See = some K.swaps_See := Has12.t_swaps_See
theorem t_swaps_Absent : Lib.fs N.swaps_Absent = some K.swaps_Absent := Has12.t_swaps_Absent
end K
end Go.Ev

namespace Go.Ev.K
open Go.Ev
def slices_Clone_api_World_api_World : Fn := { nargs := 1, vars := [0, 2], body := (.seq (.reg [{ o := .mv (.c (.nil)), d := some 1 }] []) (.itk  [{ o := .mv (.v 0) }, { o := .eqk (.sl) false (.l 0) (.c (.nil)) }] [] 0 (.seq (.reg [{ o := .nw 2, d := some 1 }] []) .ret) .skip (.seq (.reg [{ o := .bsr [] 2 }, { o := .mv (.v 0) }, { o := .app (.l 1) (.l 0) false 2 }, { o := .mv (.l 0), d := some 1 }] []) .ret))), res := [(1, none)] }
def swaps_meet : Fn := { nargs := 3, vars := [0, 1, 2, 3, 4, 6, 7], body := (.seq (.reg [{ o := .bx (.v 0) 2, d := some 3 }, { o := .bx (.v 1) 2, d := some 4 }, { o := .mv (.b false), d := some 5 }] []) (.seq (.reg [{ o := .ld (.v 4) 2 true }, { o := .mv (.v 2) }, { o := .ca N.places_Possible 0 [] [.l 1, .l 0] }, { o := .al [.nil] [], d := some 6 }, { o := .st (.l 0) (.l 1) 1 [] }] []) (.seq (.reg [{ o := .ld (.v 3) 2 true }, { o := .mv (.v 2) }, { o := .ca N.places_Possible 0 [] [.l 1, .l 0] }, { o := .mf N.swaps_meet_1 [.v 6] }, { o := .ca N.slices_ContainsFunc_int_int 0 [] [.l 1, .l 0] }, { o := .mv (.l 0), d := some 5 }] []) .ret))), res := [(5, none)] }
def worlds_Copy_l1b : C := (.its  [{ o := .bin .lss (.v 7) (.v 6) }] [] 0 .skip (.exit 0) (.seq (.blk 1 (.seq (.reg [{ o := .ia (.v 5) (.v 7) 2 }, { o := .ld (.l 0) 2 true }, { o := .al [.t (.int .i64 (0)), .nil] [], d := some 4 }, { o := .st (.l 0) (.l 1) 2 [] }] []) (.reg [{ o := .fa (.v 3) 1 }, { o := .ld (.l 0) 1 false }, { o := .fa (.v 4) 0 }, { o := .ld (.l 0) 1 false }, { o := .fa (.v 4) 1 }, { o := .ld (.l 0) 1 false }, { o := .ca N.slices_Clone_int_int 0 [] [.l 0] }, { o := .bd [.t (.int .i64 (0)), .nil] [(0, 1, .l 3), (1, 1, .l 0)] }, { o := .bs [.l 0] 2 }, { o := .app (.l 7) (.l 0) true 2 }, { o := .fa (.v 3) 1 }, { o := .st (.l 0) (.l 1) 1 [] }] [(1, 7), (1, 9), (3, 7)]))) (.reg [{ o := .bin .add (.v 7) (.i 1) }, { o := .mv (.l 0), d := some 7 }] [])))
def worlds_Copy_l1 : C := .loop true [0, 1, 4] K.worlds_Copy_l1b
def worlds_Copy : Fn := { nargs := 1, vars := [0, 1, 2, 3, 5, 11, 12, 13], body := (.seq (.reg [{ o := .bx (.v 0) 2, d := some 1 }, { o := .al [.nil, .nil] [], d := some 2 }] []) (.seq (.reg [{ o := .fa (.v 1) 0 }, { o := .ld (.l 0) 1 false }, { o := .ca N.slices_Clone_int_int 0 [] [.l 0] }, { o := .bd [.nil, .nil] [(0, 1, .l 0)] }, { o := .al [.nil, .nil] [(1, 2)], d := some 3 }, { o := .st (.l 0) (.l 1) 2 [(1, 2)] }] []) (.seq (.seq (.reg [{ o := .fa (.v 1) 1 }, { o := .ld (.l 0) 1 false, d := some 5 }, { o := .ln (.l 0), d := some 6 }, { o := .mv (.i 0), d := some 7 }] []) (.blk 0 K.worlds_Copy_l1)) (.seq (.reg [{ o := .ld (.v 3) 2 true }, { o := .st (.v 2) (.l 0) 2 [] }] []) .ret)))), res := [(2, some (2, true))] }
def worlds_Tidy_l2b : C := (.its  [{ o := .bin .lss (.v 11) (.v 10) }] [] 0 .skip (.exit 2) (.seq (.blk 3 (.seq (.reg [{ o := .mv (.v 11) }, { o := .mv (.l 0), d := some 6 }] []) (.reg [{ o := .mv (.v 3) }, { o := .mv (.v 5) }, { o := .bin .sub (.l 0) (.i 1) }, { o := .ia (.l 2) (.l 0) 2 }, { o := .fa (.l 0) 1 }, { o := .ld (.l 0) 1 false }, { o := .mv (.v 6) }, { o := .mv (.v 3) }, { o := .mv (.v 5) }, { o := .bin .sub (.l 0) (.i 1) }, { o := .ia (.l 2) (.l 0) 2 }, { o := .fa (.l 0) 1 }, { o := .ld (.l 0) 1 false }, { o := .mv (.v 6) }, { o := .ia (.l 1) (.l 0) 2 }, { o := .ld (.l 0) 2 true }, { o := .fa (.v 4) 1 }, { o := .ld (.l 0) 1 false }, { o := .mv (.v 6) }, { o := .ia (.l 1) (.l 0) 2 }, { o := .ld (.l 0) 2 true }, { o := .ca N.places_Join 0 [] [.l 5, .l 0] }, { o := .mv (.l 0) }, { o := .ex (.l 0) 0 }, { o := .ex (.l 1) 1 }, { o := .ia (.l 19) (.l 18) 2 }, { o := .st (.l 0) (.l 2) 2 [] }] [(3, 22), (5, 22)]))) (.reg [{ o := .bin .add (.v 11) (.i 1) }, { o := .mv (.l 0), d := some 11 }] [])))
def worlds_Tidy_l2 : C := .loop false [0, 1, 2, 6] K.worlds_Tidy_l2b
def worlds_Tidy_l1b : C := (.its  [{ o := .bin .lss (.v 9) (.v 8) }] [] 0 .skip (.exit 0) (.seq (.blk 1 (.seq (.reg [{ o := .ia (.v 7) (.v 9) 2 }, { o := .ld (.l 0) 2 true }, { o := .al [.nil, .nil] [], d := some 4 }, { o := .st (.l 0) (.l 1) 2 [] }] []) (.seq (.seq (.reg [{ o := .mv (.v 3) }, { o := .ln (.l 0) }, { o := .mv (.l 0), d := some 5 }] []) (.ite [{ o := .mv (.v 5) }, { o := .bin .gtr (.l 0) (.i 0) }, { o := .mv (.l 0) }, { o := .mv (.v 3), g := some (0, true) }, { o := .mv (.v 5), g := some (1, true) }, { o := .bin .sub (.l 0) (.i 1), g := some (2, true) }, { o := .ia (.l 2) (.l 0) 2, g := some (3, true) }, { o := .fa (.l 0) 0, g := some (4, true) }, { o := .ld (.l 0) 1 false, g := some (5, true) }, { o := .fa (.v 4) 0, g := some (6, true) }, { o := .ld (.l 0) 1 false, g := some (7, true) }, { o := .ca N.slices_Equal_int_int 0 [] [.l 2, .l 0], g := some (8, true) }, { o := .pk (.l 9) (.l 0) (.b false) }] [] 0 (.seq (.seq (.reg [{ o := .fa (.v 4) 1 }, { o := .ld (.l 0) 1 false }, { o := .ln (.l 0), d := some 10 }, { o := .mv (.i 0), d := some 11 }] []) (.blk 2 K.worlds_Tidy_l2)) (.exit 1)) .skip)) (.reg [{ o := .mv (.v 3) }, { o := .ld (.v 4) 2 true }, { o := .ca N.worlds_Copy_v1 1 [] [.l 0] }, { o := .bsr [.l 0] 2 }, { o := .app (.l 3) (.l 0) false 2 }, { o := .mv (.l 0), d := some 3 }] [])))) (.reg [{ o := .bin .add (.v 9) (.i 1) }, { o := .mv (.l 0), d := some 9 }] [])))
def worlds_Tidy_l1 : C := .loop false [0, 1, 2, 4, 5, 6, 10, 11] K.worlds_Tidy_l1b
def worlds_Tidy : Fn := { nargs := 1, vars := [0, 2, 3, 4, 6, 7, 8, 12, 13, 14, 35, 36], body := (.seq (.reg [{ o := .mv (.c (.nil)), d := some 1 }] []) (.seq (.reg [{ o := .mv (.v 0) }, { o := .ca N.slices_Values_api_World_api_World 0 [] [.l 0] }, { o := .ca N.slices_SortedStableFunc_api_World 0 [] [.l 0, .c (.fn N.worlds_Tidy_1 [])] }, { o := .mv (.l 0), d := some 2 }] []) (.seq (.reg [{ o := .nw 2, d := some 3 }] []) (.seq (.seq (.reg [{ o := .mv (.v 2), d := some 7 }, { o := .ln (.l 0), d := some 8 }, { o := .mv (.i 0), d := some 9 }] []) (.blk 0 K.worlds_Tidy_l1)) (.seq (.reg [{ o := .mv (.v 3) }, { o := .mv (.l 0), d := some 1 }] []) .ret))))), res := [(1, none)] }
def swaps_apply_l1b : C := (.its  [{ o := .bin .lss (.v 16) (.v 15) }] [] 0 .skip (.exit 0) (.seq (.blk 1 (.seq (.reg [{ o := .ia (.v 14) (.v 16) 2 }, { o := .ld (.l 0) 2 true }, { o := .al [.nil, .nil] [], d := some 9 }, { o := .st (.l 0) (.l 1) 2 [] }] []) (.seq (.reg [{ o := .fa (.v 9) 0 }, { o := .ld (.l 0) 1 false }, { o := .mv (.v 2) }, { o := .ca N.slices_Index_int_int 0 [] [.l 1, .l 0] }, { o := .mv (.l 0), d := some 10 }] []) (.seq (.reg [{ o := .ld (.v 9) 2 true }, { o := .ca N.worlds_Copy_v1 1 [] [.l 0] }, { o := .al [.nil, .nil] [], d := some 11 }, { o := .st (.l 0) (.l 1) 2 [] }] []) (.seq (.reg [{ o := .mv (.v 3) }, { o := .fa (.v 11) 1 }, { o := .ld (.l 0) 1 false }, { o := .mv (.v 10) }, { o := .ia (.l 1) (.l 0) 2 }, { o := .ld (.l 0) 2 true }, { o := .cw (.l 5) 0 [] [.l 0] }, { o := .mv (.l 0) }, { o := .ex (.l 0) 0 }, { o := .ex (.l 1) 1 }, { o := .al [.t (.int .i64 (0)), .nil] [], d := some 12 }, { o := .st (.l 0) (.l 2) 2 [] }, { o := .mv (.l 2), d := some 13 }] []) (.seq (.seq (.reg [{ o := .mv (.v 13), d := some 17 }] []) (.blk 2 (.seq (.seq (.reg [{ o := .bin .eql (.v 17) (.i 6) }, { o := .mv (.l 0), d := some 18 }] []) (.itv 18 .skip (.reg [{ o := .bin .eql (.v 17) (.i 8) }, { o := .mv (.l 0), d := some 18 }] []))) (.itv 18 (.seq (.reg [{ o := .ld (.v 5) 1 true }, { o := .mv (.v 13) }, { o := .st (.v 6) (.l 1) 1 [] }, { o := .mv (.l 1), d := some 7 }] []) .ret) (.ite [{ o := .bin .eql (.v 17) (.i 43) }, { o := .mv (.l 0) }] [] 0 (.exit 1) (.ite [{ o := .bin .eql (.v 17) (.i 0) }, { o := .mv (.l 0) }] [] 0 (.reg [{ o := .fa (.v 11) 1 }, { o := .ld (.l 0) 1 false }, { o := .mv (.v 10) }, { o := .ld (.v 12) 2 true }, { o := .ia (.l 2) (.l 1) 2 }, { o := .st (.l 0) (.l 1) 2 [] }] []) .skip)))))) (.reg [{ o := .fa (.v 8) 0 }, { o := .ld (.l 0) 1 false }, { o := .ld (.v 11) 2 true }, { o := .bs [.l 0] 2 }, { o := .app (.l 2) (.l 0) true 2 }, { o := .fa (.v 8) 0 }, { o := .st (.l 0) (.l 1) 1 [] }] []))))))) (.reg [{ o := .bin .add (.v 16) (.i 1) }, { o := .mv (.l 0), d := some 16 }] [])))
def swaps_apply_l1 : C := .loop true [0, 1, 4, 7, 9, 10, 11, 12, 13, 17, 18] K.swaps_apply_l1b
def swaps_apply : Fn := { nargs := 4, vars := [0, 1, 2, 3, 4, 5, 8, 9, 10, 12, 13, 14, 15, 16, 32, 33, 34, 54, 55], body := (.seq (.reg [{ o := .bx (.v 0) 2, d := some 4 }, { o := .bx (.v 1) 1, d := some 5 }, { o := .al [.nil] [], d := some 6 }, { o := .mv (.i 0), d := some 7 }] []) (.seq (.ite [{ o := .ld (.v 4) 2 true }, { o := .ld (.v 5) 1 true }, { o := .ca N.swaps_Valid 0 [] [.l 1, .l 0] }, { o := .un .not (.l 0) }] [] 0 (.seq (.reg [{ o := .ld (.v 5) 1 true }, { o := .st (.v 6) (.l 0) 1 [] }, { o := .mv (.i 6), d := some 7 }] []) .ret) .skip) (.seq (.ite [{ o := .fa (.v 5) 0 }, { o := .ld (.l 0) 1 false }, { o := .ia (.l 0) (.i 0) 2 }, { o := .fa (.l 0) 0 }, { o := .ld (.l 0) 1 false }, { o := .mv (.v 2) }, { o := .ca N.slices_Contains_int_int 0 [] [.l 1, .l 0] }, { o := .un .not (.l 0) }] [] 0 (.seq (.reg [{ o := .ld (.v 5) 1 true }, { o := .st (.v 6) (.l 0) 1 [] }, { o := .mv (.i 41), d := some 7 }] []) .ret) .skip) (.seq (.reg [{ o := .al [.nil] [(0, 2)], d := some 8 }] []) (.seq (.seq (.reg [{ o := .fa (.v 5) 0 }, { o := .ld (.l 0) 1 false, d := some 14 }, { o := .ln (.l 0), d := some 15 }, { o := .mv (.i 0), d := some 16 }] []) (.blk 0 K.swaps_apply_l1)) (.seq (.ite [{ o := .fa (.v 8) 0 }, { o := .ld (.l 0) 1 false }, { o := .ln (.l 0) }, { o := .bin .eql (.l 0) (.i 0) }] [] 0 (.seq (.reg [{ o := .ld (.v 5) 1 true }, { o := .st (.v 6) (.l 0) 1 [] }, { o := .mv (.i 43), d := some 7 }] []) .ret) .skip) (.seq (.reg [{ o := .ld (.v 8) 1 true }, { o := .st (.v 6) (.l 0) 1 [] }, { o := .mv (.i 0), d := some 7 }] []) .ret))))))), res := [(6, some (1, true)), (7, none)] }
def swaps_See_1 : Fn := { nargs := 5, vars := [0, 1, 2, 3, 4, 5, 6, 7], body := (.seq (.reg [{ o := .bx (.v 0) 2, d := some 5 }, { o := .al [.t (.int .i64 (0)), .nil] [], d := some 6 }, { o := .mv (.i 0), d := some 7 }] []) (.seq (.reg [{ o := .ld (.v 1) 2 true }, { o := .ld (.v 5) 2 true }, { o := .ld (.v 2) 1 false }, { o := .ld (.v 3) 1 false }, { o := .ld (.v 4) 1 false }, { o := .ca N.places_See 0 [] [.l 4, .l 3, .l 2, .l 1, .l 0] }, { o := .ex (.l 0) 0 }, { o := .ex (.l 1) 1 }, { o := .st (.v 6) (.l 1) 2 [] }, { o := .mv (.l 1), d := some 7 }] []) .ret)), res := [(6, some (2, true)), (7, none)] }
def swaps_Absent_1 : Fn := { nargs := 6, vars := [0, 1, 2, 3, 4, 5, 6, 7, 8], body := (.seq (.reg [{ o := .bx (.v 0) 2, d := some 6 }, { o := .al [.t (.int .i64 (0)), .nil] [], d := some 7 }, { o := .mv (.i 0), d := some 8 }] []) (.seq (.reg [{ o := .ld (.v 1) 2 true }, { o := .ld (.v 6) 2 true }, { o := .ld (.v 2) 1 false }, { o := .ld (.v 3) 1 false }, { o := .ld (.v 4) 1 false }, { o := .ld (.v 5) 1 false }, { o := .ca N.places_Absent 0 [] [.l 5, .l 4, .l 3, .l 2, .l 1, .l 0] }, { o := .ex (.l 0) 0 }, { o := .ex (.l 1) 1 }, { o := .st (.v 7) (.l 1) 2 [] }, { o := .mv (.l 1), d := some 8 }] []) .ret)), res := [(7, some (2, true)), (8, none)] }
def swaps_meet_1 : Fn := { nargs := 2, vars := [0, 1, 3], body := (.seq (.reg [{ o := .mv (.b false), d := some 2 }] []) (.seq (.reg [{ o := .ld (.v 1) 1 false }, { o := .mv (.v 0) }, { o := .ca N.slices_Contains_int_int 0 [] [.l 1, .l 0] }, { o := .mv (.l 0), d := some 2 }] []) .ret)), res := [(2, none)] }
def slices_SortedStableFunc_api_World : Fn := { nargs := 2, vars := [0, 1, 4, 5], body := (.seq (.reg [{ o := .mv (.c (.nil)), d := some 2 }] []) (.seq (.reg [{ o := .mv (.v 0) }, { o := .ca N.slices_Collect_api_World 1 [] [.l 0] }, { o := .mv (.l 0), d := some 3 }] []) (.seq (.reg [{ o := .mv (.v 3) }, { o := .mv (.v 1) }, { o := .ca N.slices_SortStableFunc_api_World_api_World 0 [0] [.l 1, .l 0] }] []) (.seq (.reg [{ o := .mv (.v 3) }, { o := .mv (.l 0), d := some 2 }] []) .ret)))), res := [(2, none)] }
def slices_Values_api_World_api_World : Fn := { nargs := 1, vars := [0, 1, 2], body := (.seq (.reg [{ o := .bx (.v 0) 1, d := some 1 }, { o := .mv (.c (.und)), d := some 2 }] []) (.seq (.reg [{ o := .mf N.slices_Values_api_World_api_World_1 [.v 1] }, { o := .mv (.l 0), d := some 2 }] []) .ret)), res := [(2, none)] }
def worlds_Tidy_1 : Fn := { nargs := 2, vars := [0, 1, 2, 3, 4], body := (.seq (.reg [{ o := .bx (.v 0) 2, d := some 2 }, { o := .bx (.v 1) 2, d := some 3 }, { o := .mv (.i 0), d := some 4 }] []) (.seq (.reg [{ o := .fa (.v 2) 0 }, { o := .ld (.l 0) 1 false }, { o := .fa (.v 3) 0 }, { o := .ld (.l 0) 1 false }, { o := .ca N.slices_Compare_int_int 0 [] [.l 2, .l 0] }, { o := .mv (.l 0), d := some 4 }] []) .ret)), res := [(4, none)] }
def slices_Collect_api_World : Fn := { nargs := 1, vars := [2], body := .fail, res := [(0, none)], prim := [3, N.slices_Values_api_World_api_World_1] }
def slices_SortStableFunc_api_World_api_World : Fn := { nargs := 2, vars := [0, 1], body := (.reg [{ o := .mv (.v 0) }, { o := .mv (.v 0) }, { o := .ln (.l 0) }, { o := .mv (.v 1) }, { o := .ca N.slices_stableCmpFunc_api_World 0 [0] [.l 3, .l 1, .l 0] }] []), res := [] }
def slices_Values_api_World_api_World_1_l1b : C := (.its  [{ o := .bin .lss (.v 5) (.v 4) }] [] 0 .skip (.exit 0) (.seq (.blk 1 (.seq (.reg [{ o := .ia (.v 3) (.v 5) 2 }, { o := .ld (.l 0) 2 true }, { o := .al [.nil, .nil] [], d := some 2 }, { o := .st (.l 0) (.l 1) 2 [] }] []) (.ite [{ o := .mv (.v 0) }, { o := .ld (.v 2) 2 true }, { o := .cw (.l 1) 0 [] [.l 0] }, { o := .un .not (.l 0) }] [] 0 .ret .skip))) (.reg [{ o := .bin .add (.v 5) (.i 1) }, { o := .mv (.l 0), d := some 5 }] [])))
def slices_Values_api_World_api_World_1_l1 : C := .loop true [1, 2] K.slices_Values_api_World_api_World_1_l1b
def slices_Values_api_World_api_World_1 : Fn := { nargs := 2, vars := [0, 1, 4, 5, 6, 7], body := (.seq (.reg [{ o := .ld (.v 1) 1 false, d := some 3 }, { o := .ln (.l 0), d := some 4 }, { o := .mv (.i 0), d := some 5 }] []) (.blk 0 K.slices_Values_api_World_api_World_1_l1)), res := [] }
def slices_stableCmpFunc_api_World_l1b : C := (.seq (.ite [{ o := .mv (.v 5) }, { o := .mv (.v 1) }, { o := .bin .leq (.l 1) (.l 0) }] [] 0 .skip (.exit 0)) (.blk 1 (.seq (.reg [{ o := .mv (.v 0) }, { o := .mv (.v 4) }, { o := .mv (.v 5) }, { o := .mv (.v 2) }, { o := .ca N.slices_insertionSortCmpFunc_api_World 0 [0] [.l 3, .l 2, .l 1, .l 0] }] []) (.seq (.reg [{ o := .mv (.v 5) }, { o := .mv (.l 0), d := some 4 }] []) (.reg [{ o := .mv (.v 5) }, { o := .mv (.v 3) }, { o := .bin .add (.l 1) (.l 0) }, { o := .mv (.l 0), d := some 5 }] [])))))
def slices_stableCmpFunc_api_World_l1 : C := .loop true [6] K.slices_stableCmpFunc_api_World_l1b
def slices_stableCmpFunc_api_World_l3b : C := (.seq (.ite [{ o := .mv (.v 5) }, { o := .mv (.v 1) }, { o := .bin .leq (.l 1) (.l 0) }] [] 0 .skip (.exit 4)) (.blk 5 (.seq (.reg [{ o := .mv (.v 0) }, { o := .mv (.v 4) }, { o := .mv (.v 4) }, { o := .mv (.v 3) }, { o := .bin .add (.l 1) (.l 0) }, { o := .mv (.v 5) }, { o := .mv (.v 2) }, { o := .ca N.slices_symMergeCmpFunc_api_World 0 [0] [.l 6, .l 5, .l 2, .l 1, .l 0] }] []) (.seq (.reg [{ o := .mv (.v 5) }, { o := .mv (.l 0), d := some 4 }] []) (.reg [{ o := .mv (.v 5) }, { o := .mv (.v 3) }, { o := .bin .mul (.i 2) (.l 0) }, { o := .bin .add (.l 2) (.l 0) }, { o := .mv (.l 0), d := some 5 }] [])))))
def slices_stableCmpFunc_api_World_l3 : C := .loop true [6] K.slices_stableCmpFunc_api_World_l3b
def slices_stableCmpFunc_api_World_l2b : C := (.seq (.ite [{ o := .mv (.v 3) }, { o := .mv (.v 1) }, { o := .bin .lss (.l 1) (.l 0) }] [] 0 .skip (.exit 2)) (.blk 3 (.seq (.reg [{ o := .mv (.v 3) }, { o := .bin .mul (.i 2) (.l 0) }, { o := .mv (.i 0), d := some 4 }, { o := .mv (.l 1), d := some 5 }] []) (.seq (.blk 4 K.slices_stableCmpFunc_api_World_l3) (.seq (.seq (.reg [{ o := .mv (.v 4) }, { o := .mv (.v 3) }, { o := .bin .add (.l 1) (.l 0) }, { o := .mv (.l 0), d := some 6 }] []) (.ite [{ o := .mv (.v 6) }, { o := .mv (.v 1) }, { o := .bin .lss (.l 1) (.l 0) }] [] 0 (.reg [{ o := .mv (.v 0) }, { o := .mv (.v 4) }, { o := .mv (.v 6) }, { o := .mv (.v 1) }, { o := .mv (.v 2) }, { o := .ca N.slices_symMergeCmpFunc_api_World 0 [0] [.l 4, .l 3, .l 2, .l 1, .l 0] }] []) .skip)) (.reg [{ o := .mv (.v 3) }, { o := .bin .mul (.l 0) (.i 2) }, { o := .mv (.l 0), d := some 3 }] []))))))
def slices_stableCmpFunc_api_World_l2 : C := .loop true [4, 5, 6] K.slices_stableCmpFunc_api_World_l2b
def slices_stableCmpFunc_api_World : Fn := { nargs := 3, vars := [0, 1, 2, 6, 7, 8, 9], body := (.seq (.reg [{ o := .mv (.i 20), d := some 3 }] []) (.seq (.reg [{ o := .mv (.v 3) }, { o := .mv (.i 0), d := some 4 }, { o := .mv (.l 1), d := some 5 }] []) (.seq (.blk 0 K.slices_stableCmpFunc_api_World_l1) (.seq (.reg [{ o := .mv (.v 0) }, { o := .mv (.v 4) }, { o := .mv (.v 1) }, { o := .mv (.v 2) }, { o := .ca N.slices_insertionSortCmpFunc_api_World 0 [0] [.l 3, .l 2, .l 1, .l 0] }] []) (.blk 2 K.slices_stableCmpFunc_api_World_l2))))), res := [] }
def slices_insertionSortCmpFunc_api_World_l2b : C := (.seq (.ite [{ o := .mv (.v 5) }, { o := .mv (.v 1) }, { o := .bin .gtr (.l 1) (.l 0) }, { o := .mv (.l 0) }, { o := .mv (.v 3), g := some (0, true) }, { o := .mv (.v 0), g := some (1, true) }, { o := .mv (.v 5), g := some (2, true) }, { o := .ia (.l 1) (.l 0) 2, g := some (3, true) }, { o := .ld (.l 0) 2 true, g := some (4, true) }, { o := .mv (.v 0), g := some (5, true) }, { o := .mv (.v 5), g := some (6, true) }, { o := .bin .sub (.l 0) (.i 1), g := some (7, true) }, { o := .ia (.l 2) (.l 0) 2, g := some (8, true) }, { o := .ld (.l 0) 2 true, g := some (9, true) }, { o := .cw (.l 9) 0 [] [.l 5, .l 0], g := some (10, true) }, { o := .bin .lss (.l 0) (.i 0), g := some (11, true) }, { o := .pk (.l 12) (.l 0) (.b false) }] [] 0 .skip (.exit 2)) (.seq (.blk 3 (.reg [{ o := .mv (.v 0) }, { o := .mv (.v 5) }, { o := .mv (.v 0) }, { o := .mv (.v 5) }, { o := .bin .sub (.l 0) (.i 1) }, { o := .mv (.v 0) }, { o := .mv (.v 5) }, { o := .bin .sub (.l 0) (.i 1) }, { o := .ia (.l 2) (.l 0) 2 }, { o := .ld (.l 0) 2 true }, { o := .mv (.v 0) }, { o := .mv (.v 5) }, { o := .ia (.l 1) (.l 0) 2 }, { o := .ld (.l 0) 2 true }, { o := .ia (.l 13) (.l 12) 2 }, { o := .st (.l 0) (.l 5) 2 [] }, { o := .ia (.l 13) (.l 11) 2 }, { o := .st (.l 0) (.l 3) 2 [] }] [])) (.reg [{ o := .mv (.v 5) }, { o := .bin .sub (.l 0) (.i 1) }, { o := .mv (.l 0), d := some 5 }] [])))
def slices_insertionSortCmpFunc_api_World_l2 : C := .loop true [] K.slices_insertionSortCmpFunc_api_World_l2b
def slices_insertionSortCmpFunc_api_World_l1b : C := (.seq (.ite [{ o := .mv (.v 4) }, { o := .mv (.v 2) }, { o := .bin .lss (.l 1) (.l 0) }] [] 0 .skip (.exit 0)) (.seq (.blk 1 (.seq (.reg [{ o := .mv (.v 4) }, { o := .mv (.l 0), d := some 5 }] []) (.blk 2 K.slices_insertionSortCmpFunc_api_World_l2))) (.reg [{ o := .mv (.v 4) }, { o := .bin .add (.l 0) (.i 1) }, { o := .mv (.l 0), d := some 4 }] [])))
def slices_insertionSortCmpFunc_api_World_l1 : C := .loop true [5] K.slices_insertionSortCmpFunc_api_World_l1b
def slices_insertionSortCmpFunc_api_World : Fn := { nargs := 4, vars := [0, 1, 2, 3, 8, 9], body := (.seq (.reg [{ o := .mv (.v 1) }, { o := .bin .add (.l 0) (.i 1) }, { o := .mv (.l 0), d := some 4 }] []) (.blk 0 K.slices_insertionSortCmpFunc_api_World_l1)), res := [] }
def slices_symMergeCmpFunc_api_World_l1b : C := (.seq (.ite [{ o := .mv (.v 5) }, { o := .mv (.v 6) }, { o := .bin .lss (.l 1) (.l 0) }] [] 0 .skip (.exit 0)) (.blk 1 (.seq (.reg [{ o := .mv (.v 5) }, { o := .mv (.v 6) }, { o := .bin .add (.l 1) (.l 0) }, { o := .cv .u64 (.l 0) }, { o := .bin .shr (.l 0) (.c (.t (.int .u64 (1)))) }, { o := .cv .i64 (.l 0) }, { o := .mv (.l 0), d := some 7 }] []) (.ite [{ o := .mv (.v 4) }, { o := .mv (.v 0) }, { o := .mv (.v 7) }, { o := .ia (.l 1) (.l 0) 2 }, { o := .ld (.l 0) 2 true }, { o := .mv (.v 0) }, { o := .mv (.v 1) }, { o := .ia (.l 1) (.l 0) 2 }, { o := .ld (.l 0) 2 true }, { o := .cw (.l 8) 0 [] [.l 4, .l 0] }, { o := .bin .lss (.l 0) (.i 0) }] [] 0 (.reg [{ o := .mv (.v 7) }, { o := .bin .add (.l 0) (.i 1) }, { o := .mv (.l 0), d := some 5 }] []) (.reg [{ o := .mv (.v 7) }, { o := .mv (.l 0), d := some 6 }] [])))))
def slices_symMergeCmpFunc_api_World_l1 : C := .loop true [2, 3, 7, 8, 9, 10, 11, 12, 13, 14, 15, 16, 17, 18, 19] K.slices_symMergeCmpFunc_api_World_l1b
def slices_symMergeCmpFunc_api_World_l2b : C := (.seq (.ite [{ o := .mv (.v 8) }, { o := .mv (.v 5) }, { o := .bin .sub (.l 0) (.i 1) }, { o := .bin .lss (.l 2) (.l 0) }] [] 0 .skip (.exit 2)) (.seq (.blk 3 (.reg [{ o := .mv (.v 0) }, { o := .mv (.v 8) }, { o := .mv (.v 0) }, { o := .mv (.v 8) }, { o := .bin .add (.l 0) (.i 1) }, { o := .mv (.v 0) }, { o := .mv (.v 8) }, { o := .bin .add (.l 0) (.i 1) }, { o := .ia (.l 2) (.l 0) 2 }, { o := .ld (.l 0) 2 true }, { o := .mv (.v 0) }, { o := .mv (.v 8) }, { o := .ia (.l 1) (.l 0) 2 }, { o := .ld (.l 0) 2 true }, { o := .ia (.l 13) (.l 12) 2 }, { o := .st (.l 0) (.l 5) 2 [] }, { o := .ia (.l 13) (.l 11) 2 }, { o := .st (.l 0) (.l 3) 2 [] }] [])) (.reg [{ o := .mv (.v 8) }, { o := .bin .add (.l 0) (.i 1) }, { o := .mv (.l 0), d := some 8 }] [])))
def slices_symMergeCmpFunc_api_World_l2 : C := .loop true [1, 2, 3, 4, 6, 7, 9, 10, 11, 12, 13, 14, 15, 16, 17, 18, 19] K.slices_symMergeCmpFunc_api_World_l2b
def slices_symMergeCmpFunc_api_World_l3b : C := (.seq (.ite [{ o := .mv (.v 9) }, { o := .mv (.v 10) }, { o := .bin .lss (.l 1) (.l 0) }] [] 0 .skip (.exit 4)) (.blk 5 (.seq (.reg [{ o := .mv (.v 9) }, { o := .mv (.v 10) }, { o := .bin .add (.l 1) (.l 0) }, { o := .cv .u64 (.l 0) }, { o := .bin .shr (.l 0) (.c (.t (.int .u64 (1)))) }, { o := .cv .i64 (.l 0) }, { o := .mv (.l 0), d := some 11 }] []) (.ite [{ o := .mv (.v 4) }, { o := .mv (.v 0) }, { o := .mv (.v 2) }, { o := .ia (.l 1) (.l 0) 2 }, { o := .ld (.l 0) 2 true }, { o := .mv (.v 0) }, { o := .mv (.v 11) }, { o := .ia (.l 1) (.l 0) 2 }, { o := .ld (.l 0) 2 true }, { o := .cw (.l 8) 0 [] [.l 4, .l 0] }, { o := .bin .lss (.l 0) (.i 0) }, { o := .un .not (.l 0) }] [] 0 (.reg [{ o := .mv (.v 11) }, { o := .bin .add (.l 0) (.i 1) }, { o := .mv (.l 0), d := some 9 }] []) (.reg [{ o := .mv (.v 11) }, { o := .mv (.l 0), d := some 10 }] [])))))
def slices_symMergeCmpFunc_api_World_l3 : C := .loop true [1, 3, 5, 6, 7, 8, 11, 12, 13, 14, 15, 16, 17, 18, 19] K.slices_symMergeCmpFunc_api_World_l3b
def slices_symMergeCmpFunc_api_World_l4b : C := (.seq (.ite [{ o := .mv (.v 12) }, { o := .mv (.v 9) }, { o := .bin .gtr (.l 1) (.l 0) }] [] 0 .skip (.exit 6)) (.seq (.blk 7 (.reg [{ o := .mv (.v 0) }, { o := .mv (.v 12) }, { o := .mv (.v 0) }, { o := .mv (.v 12) }, { o := .bin .sub (.l 0) (.i 1) }, { o := .mv (.v 0) }, { o := .mv (.v 12) }, { o := .bin .sub (.l 0) (.i 1) }, { o := .ia (.l 2) (.l 0) 2 }, { o := .ld (.l 0) 2 true }, { o := .mv (.v 0) }, { o := .mv (.v 12) }, { o := .ia (.l 1) (.l 0) 2 }, { o := .ld (.l 0) 2 true }, { o := .ia (.l 13) (.l 12) 2 }, { o := .st (.l 0) (.l 5) 2 [] }, { o := .ia (.l 13) (.l 11) 2 }, { o := .st (.l 0) (.l 3) 2 [] }] [])) (.reg [{ o := .mv (.v 12) }, { o := .bin .sub (.l 0) (.i 1) }, { o := .mv (.l 0), d := some 12 }] [])))
def slices_symMergeCmpFunc_api_World_l4 : C := .loop true [1, 2, 3, 4, 5, 6, 7, 8, 10, 11, 13, 14, 15, 16, 17, 18, 19] K.slices_symMergeCmpFunc_api_World_l4b
def slices_symMergeCmpFunc_api_World_l5b : C := (.seq (.ite [{ o := .mv (.v 15) }, { o := .mv (.v 16) }, { o := .bin .lss (.l 1) (.l 0) }] [] 0 .skip (.exit 8)) (.blk 9 (.seq (.reg [{ o := .mv (.v 15) }, { o := .mv (.v 16) }, { o := .bin .add (.l 1) (.l 0) }, { o := .cv .u64 (.l 0) }, { o := .bin .shr (.l 0) (.c (.t (.int .u64 (1)))) }, { o := .cv .i64 (.l 0) }, { o := .mv (.l 0), d := some 18 }] []) (.ite [{ o := .mv (.v 4) }, { o := .mv (.v 0) }, { o := .mv (.v 17) }, { o := .mv (.v 18) }, { o := .bin .sub (.l 1) (.l 0) }, { o := .ia (.l 3) (.l 0) 2 }, { o := .ld (.l 0) 2 true }, { o := .mv (.v 0) }, { o := .mv (.v 18) }, { o := .ia (.l 1) (.l 0) 2 }, { o := .ld (.l 0) 2 true }, { o := .cw (.l 10) 0 [] [.l 4, .l 0] }, { o := .bin .lss (.l 0) (.i 0) }, { o := .un .not (.l 0) }] [] 0 (.reg [{ o := .mv (.v 18) }, { o := .bin .add (.l 0) (.i 1) }, { o := .mv (.l 0), d := some 15 }] []) (.reg [{ o := .mv (.v 18) }, { o := .mv (.l 0), d := some 16 }] [])))))
def slices_symMergeCmpFunc_api_World_l5 : C := .loop true [5, 6, 7, 8, 9, 10, 11, 12, 18, 19] K.slices_symMergeCmpFunc_api_World_l5b
def slices_symMergeCmpFunc_api_World : Fn := { nargs := 5, vars := [0, 1, 2, 3, 4, 10, 11, 12, 13, 14, 15, 16, 17, 18, 19, 20, 21, 22, 23, 24], body := (.seq (.ite [{ o := .mv (.v 2) }, { o := .mv (.v 1) }, { o := .bin .sub (.l 1) (.l 0) }, { o := .bin .eql (.l 0) (.i 1) }] [] 0 (.seq (.reg [{ o := .mv (.v 2) }, { o := .mv (.l 0), d := some 5 }] []) (.seq (.reg [{ o := .mv (.v 3) }, { o := .mv (.l 0), d := some 6 }] []) (.seq (.blk 0 K.slices_symMergeCmpFunc_api_World_l1) (.seq (.seq (.reg [{ o := .mv (.v 1) }, { o := .mv (.l 0), d := some 8 }] []) (.blk 2 K.slices_symMergeCmpFunc_api_World_l2)) .ret)))) .skip) (.seq (.ite [{ o := .mv (.v 3) }, { o := .mv (.v 2) }, { o := .bin .sub (.l 1) (.l 0) }, { o := .bin .eql (.l 0) (.i 1) }] [] 0 (.seq (.reg [{ o := .mv (.v 1) }, { o := .mv (.l 0), d := some 9 }] []) (.seq (.reg [{ o := .mv (.v 2) }, { o := .mv (.l 0), d := some 10 }] []) (.seq (.blk 4 K.slices_symMergeCmpFunc_api_World_l3) (.seq (.seq (.reg [{ o := .mv (.v 2) }, { o := .mv (.l 0), d := some 12 }] []) (.blk 6 K.slices_symMergeCmpFunc_api_World_l4)) .ret)))) .skip) (.seq (.reg [{ o := .mv (.v 1) }, { o := .mv (.v 3) }, { o := .bin .add (.l 1) (.l 0) }, { o := .cv .u64 (.l 0) }, { o := .bin .shr (.l 0) (.c (.t (.int .u64 (1)))) }, { o := .cv .i64 (.l 0) }, { o := .mv (.l 0), d := some 13 }] []) (.seq (.reg [{ o := .mv (.v 13) }, { o := .mv (.v 2) }, { o := .bin .add (.l 1) (.l 0) }, { o := .mv (.l 0), d := some 14 }] []) (.seq (.reg [{ o := .mv (.i 0), d := some 15 }, { o := .mv (.i 0), d := some 16 }] []) (.seq (.ite [{ o := .mv (.v 2) }, { o := .mv (.v 13) }, { o := .bin .gtr (.l 1) (.l 0) }] [] 0 (.seq (.reg [{ o := .mv (.v 14) }, { o := .mv (.v 3) }, { o := .bin .sub (.l 1) (.l 0) }, { o := .mv (.l 0), d := some 15 }] []) (.reg [{ o := .mv (.v 13) }, { o := .mv (.l 0), d := some 16 }] [])) (.seq (.reg [{ o := .mv (.v 1) }, { o := .mv (.l 0), d := some 15 }] []) (.reg [{ o := .mv (.v 2) }, { o := .mv (.l 0), d := some 16 }] []))) (.seq (.reg [{ o := .mv (.v 14) }, { o := .bin .sub (.l 0) (.i 1) }, { o := .mv (.l 0), d := some 17 }] []) (.seq (.blk 8 K.slices_symMergeCmpFunc_api_World_l5) (.seq (.reg [{ o := .mv (.v 14) }, { o := .mv (.v 15) }, { o := .bin .sub (.l 1) (.l 0) }, { o := .mv (.l 0), d := some 19 }] []) (.seq (.ite [{ o := .mv (.v 15) }, { o := .mv (.v 2) }, { o := .bin .lss (.l 1) (.l 0) }, { o := .mv (.l 0) }, { o := .mv (.v 2), g := some (0, true) }, { o := .mv (.v 19), g := some (1, true) }, { o := .bin .lss (.l 1) (.l 0), g := some (2, true) }, { o := .pk (.l 3) (.l 0) (.b false) }] [] 0 (.reg [{ o := .mv (.v 0) }, { o := .mv (.v 15) }, { o := .mv (.v 2) }, { o := .mv (.v 19) }, { o := .mv (.v 4) }, { o := .ca N.slices_rotateCmpFunc_api_World 0 [0] [.l 4, .l 3, .l 2, .l 1, .l 0] }] []) .skip) (.seq (.ite [{ o := .mv (.v 1) }, { o := .mv (.v 15) }, { o := .bin .lss (.l 1) (.l 0) }, { o := .mv (.l 0) }, { o := .mv (.v 15), g := some (0, true) }, { o := .mv (.v 13), g := some (1, true) }, { o := .bin .lss (.l 1) (.l 0), g := some (2, true) }, { o := .pk (.l 3) (.l 0) (.b false) }] [] 0 (.reg [{ o := .mv (.v 0) }, { o := .mv (.v 1) }, { o := .mv (.v 15) }, { o := .mv (.v 13) }, { o := .mv (.v 4) }, { o := .ca N.slices_symMergeCmpFunc_api_World 0 [0] [.l 4, .l 3, .l 2, .l 1, .l 0] }] []) .skip) (.ite [{ o := .mv (.v 13) }, { o := .mv (.v 19) }, { o := .bin .lss (.l 1) (.l 0) }, { o := .mv (.l 0) }, { o := .mv (.v 19), g := some (0, true) }, { o := .mv (.v 3), g := some (1, true) }, { o := .bin .lss (.l 1) (.l 0), g := some (2, true) }, { o := .pk (.l 3) (.l 0) (.b false) }] [] 0 (.reg [{ o := .mv (.v 0) }, { o := .mv (.v 13) }, { o := .mv (.v 19) }, { o := .mv (.v 3) }, { o := .mv (.v 4) }, { o := .ca N.slices_symMergeCmpFunc_api_World 0 [0] [.l 4, .l 3, .l 2, .l 1, .l 0] }] []) .skip)))))))))))), res := [] }
def slices_rotateCmpFunc_api_World_l1b : C := (.seq (.ite [{ o := .mv (.v 5) }, { o := .mv (.v 6) }, { o := .bin .neq (.l 1) (.l 0) }] [] 0 .skip (.exit 0)) (.blk 1 (.ite [{ o := .mv (.v 5) }, { o := .mv (.v 6) }, { o := .bin .gtr (.l 1) (.l 0) }] [] 0 (.seq (.reg [{ o := .mv (.v 0) }, { o := .mv (.v 2) }, { o := .mv (.v 5) }, { o := .bin .sub (.l 1) (.l 0) }, { o := .mv (.v 2) }, { o := .mv (.v 6) }, { o := .mv (.v 4) }, { o := .ca N.slices_swapRangeCmpFunc_api_World 0 [0] [.l 6, .l 3, .l 2, .l 1, .l 0] }] []) (.reg [{ o := .mv (.v 5) }, { o := .mv (.v 6) }, { o := .bin .sub (.l 1) (.l 0) }, { o := .mv (.l 0), d := some 5 }] [])) (.seq (.reg [{ o := .mv (.v 0) }, { o := .mv (.v 2) }, { o := .mv (.v 5) }, { o := .bin .sub (.l 1) (.l 0) }, { o := .mv (.v 2) }, { o := .mv (.v 6) }, { o := .bin .add (.l 1) (.l 0) }, { o := .mv (.v 5) }, { o := .bin .sub (.l 1) (.l 0) }, { o := .mv (.v 5) }, { o := .mv (.v 4) }, { o := .ca N.slices_swapRangeCmpFunc_api_World 0 [0] [.l 10, .l 7, .l 2, .l 1, .l 0] }] []) (.reg [{ o := .mv (.v 6) }, { o := .mv (.v 5) }, { o := .bin .sub (.l 1) (.l 0) }, { o := .mv (.l 0), d := some 6 }] [])))))
def slices_rotateCmpFunc_api_World_l1 : C := .loop true [1, 3] K.slices_rotateCmpFunc_api_World_l1b
def slices_rotateCmpFunc_api_World : Fn := { nargs := 5, vars := [0, 1, 2, 3, 4, 10, 11], body := (.seq (.reg [{ o := .mv (.v 2) }, { o := .mv (.v 1) }, { o := .bin .sub (.l 1) (.l 0) }, { o := .mv (.l 0), d := some 5 }] []) (.seq (.reg [{ o := .mv (.v 3) }, { o := .mv (.v 2) }, { o := .bin .sub (.l 1) (.l 0) }, { o := .mv (.l 0), d := some 6 }] []) (.seq (.blk 0 K.slices_rotateCmpFunc_api_World_l1) (.reg [{ o := .mv (.v 0) }, { o := .mv (.v 2) }, { o := .mv (.v 5) }, { o := .bin .sub (.l 1) (.l 0) }, { o := .mv (.v 2) }, { o := .mv (.v 5) }, { o := .mv (.v 4) }, { o := .ca N.slices_swapRangeCmpFunc_api_World 0 [0] [.l 6, .l 3, .l 2, .l 1, .l 0] }] [])))), res := [] }
def slices_swapRangeCmpFunc_api_World_l1b : C := (.seq (.ite [{ o := .mv (.v 4) }, { o := .mv (.v 3) }, { o := .bin .lss (.l 1) (.l 0) }] [] 0 .skip (.exit 0)) (.seq (.blk 1 (.reg [{ o := .mv (.v 0) }, { o := .mv (.v 1) }, { o := .mv (.v 4) }, { o := .bin .add (.l 1) (.l 0) }, { o := .mv (.v 0) }, { o := .mv (.v 2) }, { o := .mv (.v 4) }, { o := .bin .add (.l 1) (.l 0) }, { o := .mv (.v 0) }, { o := .mv (.v 2) }, { o := .mv (.v 4) }, { o := .bin .add (.l 1) (.l 0) }, { o := .ia (.l 3) (.l 0) 2 }, { o := .ld (.l 0) 2 true }, { o := .mv (.v 0) }, { o := .mv (.v 1) }, { o := .mv (.v 4) }, { o := .bin .add (.l 1) (.l 0) }, { o := .ia (.l 3) (.l 0) 2 }, { o := .ld (.l 0) 2 true }, { o := .ia (.l 19) (.l 16) 2 }, { o := .st (.l 0) (.l 7) 2 [] }, { o := .ia (.l 17) (.l 14) 2 }, { o := .st (.l 0) (.l 3) 2 [] }] [])) (.reg [{ o := .mv (.v 4) }, { o := .bin .add (.l 0) (.i 1) }, { o := .mv (.l 0), d := some 4 }] [])))
def slices_swapRangeCmpFunc_api_World_l1 : C := .loop true [] K.slices_swapRangeCmpFunc_api_World_l1b
def slices_swapRangeCmpFunc_api_World : Fn := { nargs := 5, vars := [0, 1, 2, 3, 10], body := (.seq (.reg [{ o := .mv (.i 0), d := some 4 }] []) (.blk 0 K.slices_swapRangeCmpFunc_api_World_l1)), res := [] }
def worlds_Copy_v1_l1b : C := (.its  [{ o := .bin .lss (.v 7) (.v 6) }] [] 0 .skip (.exit 0) (.seq (.blk 1 (.seq (.reg [{ o := .ia (.v 5) (.v 7) 2 }, { o := .ld (.l 0) 2 true }, { o := .al [.t (.int .i64 (0)), .nil] [], d := some 4 }, { o := .st (.l 0) (.l 1) 2 [] }] []) (.reg [{ o := .fa (.v 3) 1 }, { o := .ld (.l 0) 1 false }, { o := .fa (.v 4) 0 }, { o := .ld (.l 0) 1 false }, { o := .fa (.v 4) 1 }, { o := .ld (.l 0) 1 false }, { o := .ca N.slices_Clone_int_int 1 [] [.l 0] }, { o := .bd [.t (.int .i64 (0)), .nil] [(0, 1, .l 3), (1, 1, .l 0)] }, { o := .bs [.l 0] 2 }, { o := .app (.l 7) (.l 0) true 2 }, { o := .fa (.v 3) 1 }, { o := .st (.l 0) (.l 1) 1 [] }] [(1, 7), (1, 9), (3, 7)]))) (.reg [{ o := .bin .add (.v 7) (.i 1) }, { o := .mv (.l 0), d := some 7 }] [])))
def worlds_Copy_v1_l1 : C := .loop true [0, 1, 4] K.worlds_Copy_v1_l1b
def worlds_Copy_v1 : Fn := { nargs := 1, vars := [0, 1, 2, 3, 5, 11, 12, 13], body := (.seq (.reg [{ o := .bx (.v 0) 2, d := some 1 }, { o := .al [.nil, .nil] [], d := some 2 }] []) (.seq (.reg [{ o := .fa (.v 1) 0 }, { o := .ld (.l 0) 1 false }, { o := .ca N.slices_Clone_int_int 1 [] [.l 0] }, { o := .bd [.nil, .nil] [(0, 1, .l 0)] }, { o := .al [.nil, .nil] [(1, 2)], d := some 3 }, { o := .st (.l 0) (.l 1) 2 [(1, 2)] }] []) (.seq (.seq (.reg [{ o := .fa (.v 1) 1 }, { o := .ld (.l 0) 1 false, d := some 5 }, { o := .ln (.l 0), d := some 6 }, { o := .mv (.i 0), d := some 7 }] []) (.blk 0 K.worlds_Copy_v1_l1)) (.seq (.reg [{ o := .ld (.v 3) 2 true }, { o := .st (.v 2) (.l 0) 2 [] }] []) .ret)))), res := [(2, some (2, true))] }
end Go.Ev.K
namespace Go.Ev
class Has13 [Lib] : Prop where
  t_slices_Clone_api_World_api_World : Lib.fs N.slices_Clone_api_World_api_World = some K.slices_Clone_api_World_api_World
  t_swaps_meet : Lib.fs N.swaps_meet = some K.swaps_meet
  t_worlds_Copy : Lib.fs N.worlds_Copy = some K.worlds_Copy
  t_worlds_Tidy : Lib.fs N.worlds_Tidy = some K.worlds_Tidy
  t_swaps_apply : Lib.fs N.swaps_apply = some K.swaps_apply
  t_swaps_See_1 : Lib.fs N.swaps_See_1 = some K.swaps_See_1
  t_swaps_Absent_1 : Lib.fs N.swaps_Absent_1 = some K.swaps_Absent_1
  t_swaps_meet_1 : Lib.fs N.swaps_meet_1 = some K.swaps_meet_1
  t_slices_SortedStableFunc_api_World : Lib.fs N.slices_SortedStableFunc_api_World = some K.slices_SortedStableFunc_api_World
  t_slices_Values_api_World_api_World : Lib.fs N.slices_Values_api_World_api_World = some K.slices_Values_api_World_api_World
  t_worlds_Tidy_1 : Lib.fs N.worlds_Tidy_1 = some K.worlds_Tidy_1
  t_slices_Collect_api_World : Lib.fs N.slices_Collect_api_World = some K.slices_Collect_api_World
  t_slices_SortStableFunc_api_World_api_World : Lib.fs N.slices_SortStableFunc_api_World_api_World = some K.slices_SortStableFunc_api_World_api_World
  t_slices_Values_api_World_api_World_1 : Lib.fs N.slices_Values_api_World_api_World_1 = some K.slices_Values_api_World_api_World_1
  t_slices_stableCmpFunc_api_World : Lib.fs N.slices_stableCmpFunc_api_World = some K.slices_stableCmpFunc_api_World
  t_slices_insertionSortCmpFunc_api_World : Lib.fs N.slices_insertionSortCmpFunc_api_World = some K.slices_insertionSortCmpFunc_api_World
  t_slices_symMergeCmpFunc_api_World : Lib.fs N.slices_symMergeCmpFunc_api_World = some K.slices_symMergeCmpFunc_api_World
  t_slices_rotateCmpFunc_api_World : Lib.fs N.slices_rotateCmpFunc_api_World = some K.slices_rotateCmpFunc_api_World
  t_slices_swapRangeCmpFunc_api_World : Lib.fs N.slices_swapRangeCmpFunc_api_World = some K.slices_swapRangeCmpFunc_api_World
  t_worlds_Copy_v1 : Lib.fs N.worlds_Copy_v1 = some K.worlds_Copy_v1
namespace K
variable [Lib] [Has13]
theorem t_slices_Clone_api_World_api_World : Lib.fs N.slices_Clone_api_World_api_World = some K.slices_Clone_api_World_api_World := Has13.t_slices_Clone_api_World_api_World
theorem t_swaps_meet : Lib.fs N.swaps_meet = some K.swaps_meet := Has13.t_swaps_meet
theorem t_worlds_Copy : Lib.fs N.worlds_Copy = some K.worlds_Copy := Has13.t_worlds_Copy
theorem t_worlds_Tidy : Lib.fs N.worlds_Tidy = some K.worlds_Tidy := Has13.t_worlds_Tidy
theorem t_swaps_apply : Lib.fs N.swaps_apply = some K.swaps_apply := Has13.t_swaps_apply
theorem t_swaps_See_1 : Lib.fs N.swaps_See_1 = some K.swaps_See_1 := Has13.t_swaps_See_1
theorem t_swaps_Absent_1 : Lib.fs N.swaps_Absent_1 = some K.swaps_Absent_1 := Has13.t_swaps_Absent_1
theorem t_swaps_meet_1 : Lib.fs N.swaps_meet_1 = some K.swaps_meet_1 := Has13.t_swaps_meet_1
theorem t_slices_SortedStableFunc_api_World : Lib.fs N.slices_SortedStableFunc_api_World = some K.slices_SortedStableFunc_api_World := Has13.t_slices_SortedStableFunc_api_World
theorem t_slices_Values_api_World_api_World : Lib.fs N.slices_Values_api_World_api_World = some K.slices_Values_api_World_api_World := Has13.t_slices_Values_api_World_api_World
theorem t_worlds_Tidy_1 : Lib.fs N.worlds_Tidy_1 = some K.worlds_Tidy_1 := Has13.t_worlds_Tidy_1
theorem t_slices_Collect_api_World : Lib.fs N.slices_Collect_api_World = some K.slices_Collect_api_World := Has13.t_slices_Collect_api_World
theorem t_slices_SortStableFunc_api_World_api_World : Lib.fs N.slices_SortStableFunc_api_World_api_World = some K.slices_SortStableFunc_api_World_api_World := Has13.t_slices_SortStableFunc_api_World_api_World
theorem t_slices_Values_api_World_api_World_1 : Lib.fs N.slices_Values_api_World_api_World_1 = some K.slices_Values_api_World_api_World_1 := Has13.t_slices_Values_api_World_api_World_1
theorem t_slices_stableCmpFunc_api_World : Lib.fs N.slices_stableCmpFunc_api_World = some K.slices_stableCmpFunc_api_World := Has13.t_slices_stableCmpFunc_api_World
theorem t_slices_insertionSortCmpFunc_api_World : Lib.fs N.slices_insertionSortCmpFunc_api_World = some K.slices_insertionSortCmpFunc_api_World := Has13.t_slices_insertionSortCmpFunc_api_World
theorem t_slices_symMergeCmpFunc_api_World : Lib.fs N.slices_symMergeCmpFunc_api_World = some K.slices_symMergeCmpFunc_api_World := Has13.t_slices_symMergeCmpFunc_api_World
theorem t_slices_rotateCmpFunc_api_World : Lib.fs N.slices_rotateCmpFunc_api_World = some K.slices_rotateCmpFunc_api_World := Has13.t_slices_rotateCmpFunc_api_World
theorem t_slices_swapRangeCmpFunc_api_World : Lib.fs N.slices_swapRangeCmpFunc_api_World = some K.slices_swapRangeCmpFunc_api_World := Has13.t_slices_swapRangeCmpFunc_api_World
theorem t_worlds_Copy_v1 : Lib.fs N.worlds_Copy_v1 = some K.worlds_Copy_v1 := Has13.t_worlds_Copy_v1
end K
end Go.Ev

namespace Go.Ev
open Go
variable [Lib] [Has1] [Has2] [Has3] [Has4] [Has5] [Has6] [Has7] [Has8] [Has9] [Has10] [Has11] [Has12] [Has13]
theorem wCopy_loop (x : World) (h : x.sz) : ∀ z0 z1 z4 : D, exS CALL K.worlds_Copy_v1_l1 ⟨[z0, z1, .bp 1 0, .bp 3 0, z4, .t (.sl (x.whr.map Wh.e)), I x.whr.length, I 0], [.box [.t (tL x.tags), .t (.sl (x.whr.map Wh.e))], .box [.nil, .nil], arr1 x.tags, .box [.ref 2 0 x.tags.length, .ref 5 0 0], .arr 2 false 0 [], .arr 2 false 0 []]⟩ =
    some (.exit 0, ⟨[.und, .und, .bp 1 0, .bp 3 0, .und, .t (.sl (x.whr.map Wh.e)), I x.whr.length, I x.whr.length], [.box [.t (tL x.tags), .t (.sl (x.whr.map Wh.e))], .box [.nil, .nil], arr1 x.tags, .box [.ref 2 0 x.tags.length, .ref 5 0 x.whr.length], .arr 2 false 0 [], .arr 2 false 0 ((x.whr.map Wh.e).map .t)]⟩) := by
  intro z0 z1 z4
  obtain ⟨tags, whr⟩ := x
  obtain ⟨h1, h2, h3⟩ := h
  simp only at h1 h2 h3 ⊢
  have tk : whr.take whr.length = whr := by simp
  refine loop_up (fun j => ⟨[.und, .und, .bp 1 0, .bp 3 0, .und, .t (.sl (whr.map Wh.e)), I whr.length, I j], [.box [.t (tL tags), .t (.sl (whr.map Wh.e))], .box [.nil, .nil], arr1 tags, .box [.ref 2 0 tags.length, .ref 5 0 (whr.take j).length], .arr 2 false 0 [], .arr 2 false 0 (((whr.take j).map Wh.e).map .t)]⟩) whr.length rfl ?_ ?_ (by simp)
  · intro j hj
    have c := clone1_ok (nth whr j).frm (h3 _ (nth_mem hj))
    have ex : (whr.map Wh.e)[j]? = some (nth whr j).e := map_nth _ hj
    have lt : (whr.take j).length = j := by rw [List.length_take]; omega
    have tk : whr.take (j + 1) = whr.take j ++ [nth whr j] := take_nth hj
    generalize nth whr j = w at *
    generalize whr.take j = pre at *
    obtain ⟨time, frm⟩ := w
    simp only [arr1] at *
    simp (disch := omega) only [go_sem, K.worlds_Copy_v1_l1b, ↓reduceIte, ex, c, lt, tk, List.map_append, List.map_cons, List.map_nil, List.length_append, List.length_cons, List.length_nil, Nat.reduceAdd, Nat.reduceSub]
  · simp only [arr1]
    simp (disch := omega) only [go_sem, K.worlds_Copy_v1_l1b, ↓reduceIte, tk, Nat.reduceAdd, Nat.reduceSub]
theorem wCopy_ok (x : World) (h : x.sz) : CALL 1 N.worlds_Copy_v1 [.t x.e] [] = some (.agg [.ref 0 0 x.tags.length, .ref 1 0 x.whr.length], [.arr 1 false 0 ((x.tags.map (T.int .i64)).map .t), .arr 2 false 0 ((x.whr.map Wh.e).map .t)]) := by
  refine CALL_of K.t_worlds_Copy_v1 rfl ?_
  have loop := wCopy_loop x h
  have c := clone1_ok x.tags h.1
  obtain ⟨tags, whr⟩ := x
  obtain ⟨h1, h2, h3⟩ := h
  simp only [arr1] at h1 h2 h3 loop c ⊢
  simp (disch := omega) only [go_sem, K.worlds_Copy_v1, ↓reduceIte, loop, c, Nat.reduceAdd, Nat.reduceSub]
end Go.Ev

namespace Go.Ev
open Go
variable [Lib] [Has1] [Has2] [Has3] [Has4] [Has5] [Has6] [Has7] [Has8] [Has9] [Has10] [Has11] [Has12] [Has13]
end Go.Ev

namespace Go.Ev
open Go
variable [Lib] [Has1] [Has2] [Has3] [Has4] [Has5] [Has6] [Has7] [Has8] [Has9]
end Go.Ev

namespace Go.Ev
open Go
variable [Lib] [Has1] [Has2] [Has3] [Has4] [Has5] [Has6] [Has7] [Has8] [Has9] [Has10] [Has11]
end Go.Ev

namespace Go.Ev
open Go
variable [Lib] [Has1] [Has2] [Has3] [Has4] [Has5] [Has6] [Has7] [Has8] [Has9] [Has10] [Has11]
end Go.Ev

namespace Go.Ev
open Go
variable [Lib] [Has1] [Has2] [Has3] [Has4] [Has5] [Has6] [Has7] [Has8] [Has9] [Has10] [Has11]
structure SH (n p : Nat) (l : List Wh) : Prop where
  ln : l.length = n
  fr : ∀ w ∈ l, w.frm.length = p
theorem WV.sh {m : Mine} {first : List Int} {x : World} (h : WV m first x) : SH first.length m.places.length x.whr :=
  ⟨h.wl, fun w hw => (validB_spec (h.wv w hw)).1⟩
end Go.Ev

namespace Go.Ev
open Go
variable [Lib] [Has1] [Has2] [Has3] [Has4] [Has5] [Has6] [Has7] [Has8] [Has9] [Has10] [Has11] [Has12] [Has13]
theorem Rp.more {H : Heap} {id : Nat} {es : List D} {fa fb : Nat → Nat} {out : List World} (hr : Rp H id es fa fb out) (t : Heap) : Rp (H ++ t) id es fa fb out :=
  ⟨by rw [hp_get (hp_lt hr.arr)]; exact hr.arr, hr.len, hr.el, fun j hj => by rw [hp_get (hp_lt (hr.ha j hj))]; exact hr.ha j hj, fun j hj => by rw [hp_get (hp_lt (hr.hb j hj))]; exact hr.hb j hj, hr.na, hr.nb, hr.nab, hr.nbb⟩
end Go.Ev

namespace Go.Ev
open Go
variable [Lib] [Has1] [Has2] [Has3] [Has4] [Has5] [Has6] [Has7] [Has8] [Has9] [Has10] [Has11] [Has12] [Has13]
end Go.Ev

namespace Go.Ev
open Go
variable [Lib] [Has1] [Has2] [Has3] [Has4] [Has5] [Has6] [Has7] [Has8] [Has9] [Has10] [Has11]
theorem swValid_ok {m : Mine} (h : m.ok) (b : Bel) (hs : b.sz) : CALL 0 N.swaps_Valid [.t m.e, .t b.e] [] = some (B (belB m b), []) := by
  rw [← pbel_bel]
  refine CALL_of K.t_swaps_Valid rfl ?_
  obtain ⟨h1, h2⟩ := hs
  have v := planValid_ok h
  obtain ⟨ws⟩ := b
  simp only at h1 h2
  have li := in_ok ws.length 1 24
  unfold pbelB
  simp only
  by_cases c : 1 ≤ ws.length ∧ ws.length ≤ 24
  · have li : CALL 0 N.lists_In [I ws.length, I 1, I 24] [] = some (B true, []) := by rw [li, decide_eq_true (by omega)]
    have e0 : (ws.map World.e)[0]? = some (nth ws 0).e := map_nth _ (by omega)
    have sz := (h2 _ (nth_mem (l := ws) (j := 0) (by omega))).1
    have loop := fun a b c d e => loop_find (gc := true) (dead := [0, 1, 4, 6, 7]) (c := K.swaps_Valid_l1b) (vs := [a, b, .bp 0 0, .bp 1 0, c, .t (tL (sortI (nth ws 0).tags)), d, e, .t (.sl (ws.map World.e)), I ws.length, I 0]) (H := [.box (mineCells m), .box [.t (.sl (ws.map World.e))], .box [.t (tL (nth ws 0).tags)]])
      (swS m ws (nth ws 0).tags) ws.length (fun j => !pwB m ws (nth ws 0).tags j) (fun _ q => q.1 = .ret ∧ q.2.vs[4]? = some (B false))
      (.exit 0, swS m ws (nth ws 0).tags ws.length) rfl
      (fun j hj hp => (pw_step h ws _ sz h2 j hj h1).1 (by simpa using hp))
      (fun j hj hp => by
        obtain ⟨q, q1, q2, q3⟩ := (pw_step h ws _ sz h2 j hj h1).2 (by simpa using hp)
        exact ⟨q, q1, by rw [q2]; simp, q2, q3⟩)
      (by simp (disch := omega) only [go_sem, K.swaps_Valid_l1b, swS, ↓reduceIte, Nat.reduceAdd, Nat.reduceSub]) (by simp)
    rw [find_all]
    have va := values_ok (nth ws 0).tags
    have so := sorted_ok (nth ws 0).tags sz
    have loop := loop (.t m.e) (.t (Bel.e ⟨ws⟩)) (B false) .und .und
    generalize nth ws 0 = x at *
    obtain ⟨first, whr⟩ := x
    simp only [swS] at *
    generalize sortI first = sf at *
    rcases loop with ⟨e1, e2⟩ | ⟨j, ⟨x, vs, H⟩, e1, e2, e3, e4⟩
    · have e2 : exS CALL K.swaps_Valid_l1 _ = _ := e2
      simp (disch := omega) only [go_sem, K.swaps_Valid, ↓reduceIte, v, li, e0, va, so, c, and_self, decide_true, Bool.true_and, e1, e2, Option.isNone, Nat.reduceAdd, Nat.reduceSub]
    · have e2 : exS CALL K.swaps_Valid_l1 _ = _ := e2
      simp only at e3 e4
      subst e3
      simp (disch := omega) only [go_sem, K.swaps_Valid, ↓reduceIte, v, li, e0, va, so, c, and_self, decide_true, Bool.true_and, e1, e2, Option.isNone, Nat.reduceAdd, Nat.reduceSub]
      simp (disch := omega) only [go_sem, getRes, e4, List.take_zero]
  · have li : CALL 0 N.lists_In [I ws.length, I 1, I 24] [] = some (B false, []) := by rw [li, decide_eq_false (by omega)]
    simp (disch := omega) only [go_sem, K.swaps_Valid, ↓reduceIte, v, li, c, decide_false, Bool.false_and, Nat.reduceAdd, Nat.reduceSub]
end Go.Ev

namespace Go.Ev
open Go
variable [Lib] [Has1] [Has2] [Has6] [Has7]
end Go.Ev

namespace Go.Ev
open Go
variable [Lib] [Has1] [Has2] [Has6] [Has7]
abbrev smMax : Int := 2147483648
end Go.Ev

namespace Go.Ev
open Go
variable [Lib] [Has1] [Has2] [Has6] [Has7]
section
variable {m : Mine} (h : m.ok) {fl : List Spn}
include h
end
end Go.Ev

namespace Go.Ev
open Go
def clP (m : Mine) (fl : List Spn) (y : List Int) : Prop := ∀ k, k < m.roads.length → ∀ back, 0 ≤ travelF (nth m.roads k) (nth fl k) back →
  nth y ((nth m.roads k).src back).toNat + travelF (nth m.roads k) (nth fl k) back ≤ smMax →
  nth y ((nth m.roads k).dst back).toNat ≤ nth y ((nth m.roads k).src back).toNat + travelF (nth m.roads k) (nth fl k) back
variable [Lib] [Has1] [Has2] [Has6] [Has7]
end Go.Ev

namespace Go.Ev
open Go
variable [Lib] [Has1] [Has2] [Has6] [Has7]
end Go.Ev

namespace Go.Ev
open Go
variable [Lib] [Has1] [Has2] [Has6] [Has7]
end Go.Ev

namespace Go.Ev
open Go
variable [Lib] [Has1] [Has2] [Has6] [Has7]
def tmOk (l : List Int) : Prop := ∀ x ∈ l, 0 ≤ x ∧ (x ≤ smMax ∨ x = 1099511627776)
theorem tmOk.bnd {l : List Int} (h : tmOk l) : bnd l := fun x hx => by have := h x hx; simp only [smMax] at this; omega
end Go.Ev

namespace Go.Ev
open Go
variable [Lib] [Has1] [Has2] [Has3] [Has4] [Has6] [Has7]
end Go.Ev

namespace Go.Ev
open Go
variable [Lib] [Has1] [Has2] [Has3] [Has4] [Has6] [Has7]
end Go.Ev

namespace Go.Ev
open Go
variable [Lib] [Has1] [Has2] [Has3] [Has4] [Has6] [Has7]
end Go.Ev

namespace Go.Ev
open Go
variable [Lib] [Has1] [Has2] [Has3] [Has4] [Has6] [Has7]
end Go.Ev

namespace Go.Ev
open Go
variable [Lib] [Has1] [Has2] [Has3] [Has4] [Has6] [Has7]
structure SGood (m : Mine) (fl : List Spn) (s : Wh) : Prop where
  ln : s.frm.length = m.places.length
  ti : inT s.time
  tm : tmOk s.frm
  lo : ∀ x ∈ s.frm, s.time ≤ x
  cl : clP m fl s.frm
theorem SGood.valid {m : Mine} {fl : List Spn} {s : Wh} (h : SGood m fl s) : validS m s = true := by
  simp only [validS, Bool.and_eq_true, decide_eq_true_eq, List.all_eq_true, List.mem_range]
  refine ⟨fun j hj => ?_, h.ln, h.ti⟩
  have a := h.tm _ (nth_mem hj)
  have b := h.lo _ (nth_mem hj)
  unfold plS
  simp only [smMax] at a
  omega
end Go.Ev

namespace Go.Ev
open Go
variable [Lib] [Has1] [Has2] [Has3] [Has4] [Has6] [Has7]
end Go.Ev

namespace Go.Ev
open Go
variable [Lib] [Has1] [Has2] [Has3] [Has4] [Has6] [Has7]
end Go.Ev

namespace Go.Ev
open Go
variable [Lib] [Has1] [Has2] [Has3] [Has4] [Has5] [Has6] [Has7] [Has8] [Has9] [Has10] [Has11]
end Go.Ev

namespace Go.Ev
open Go
variable [Lib] [Has1] [Has2] [Has3] [Has4] [Has5] [Has6] [Has7] [Has8] [Has9] [Has10] [Has11]
end Go.Ev

namespace Go.Ev
open Go
variable [Lib] [Has1] [Has2] [Has3] [Has4] [Has5] [Has6] [Has7] [Has8] [Has9] [Has10] [Has11]
section
variable {m : Mine} (hm : m.ok) (l : List Mch) (hl : l.length ≤ 1000) (hp : ∀ x ∈ l, x.pl.length ≤ 1000000) (s : Wh) (hs : s.frm.length ≤ 1000000) (b : Bel) (hb : b.sz) (t a : Int)
include hm hl hp hs hb
end
end Go.Ev

namespace Go.Ev
open Go
variable [Lib] [Has1] [Has2] [Has3] [Has4] [Has6] [Has7]
end Go.Ev

namespace Go.Ev
open Go
variable [Lib] [Has1] [Has2] [Has3] [Has4] [Has6] [Has7]
theorem some_x {d : Dice} (hd : d.light) (n : Nat) (hn : n ≤ 1000000) :
    ∃ (l : List Int) (e : Dice), CALL 0 N.made_Dice_Some [.bp 0 0, I n] [d.obj] = some (.t (tL l), [e.obj]) ∧ e.light ∧ l.length ≤ n :=
  ⟨_, _, some_ok d n hn hd, Dice.someN_light hd n, d.someN_len n⟩
end Go.Ev

namespace Go.Ev
open Go
variable [Lib] [Has1] [Has2]
def sh (s x : Int) : Int := if x < 1099511627776 then x + s else x
def shL (s : Int) (l : List Int) : List Int := l.map (sh s)
@[simp] theorem shL_len (s : Int) (l : List Int) : (shL s l).length = l.length := List.length_map ..
end Go.Ev

namespace Go.Ev
open Go
variable [Lib] [Has1] [Has2] [Has3] [Has4] [Has5] [Has6] [Has7] [Has8] [Has9]
end Go.Ev

namespace Go.Ev
open Go
variable [Lib] [Has1] [Has2] [Has3] [Has4] [Has5] [Has6] [Has7] [Has8] [Has9]
end Go.Ev

namespace Go.Ev
open Go
variable [Lib] [Has1] [Has2] [Has3] [Has4] [Has5] [Has6] [Has7] [Has8] [Has9]
end Go.Ev

namespace Go.Ev
open Go
variable [Lib] [Has1] [Has2] [Has3] [Has4] [Has5] [Has6] [Has7] [Has8] [Has9]
end Go.Ev

namespace Go.Ev
open Go
variable [Lib] [Has1] [Has2] [Has3] [Has4] [Has5] [Has6] [Has7] [Has8] [Has9]
end Go.Ev

namespace Go.Ev
open Go
variable [Lib] [Has1] [Has2] [Has3] [Has4] [Has5] [Has6] [Has7] [Has8] [Has9]
end Go.Ev

namespace Go.Ev
open Go
variable [Lib] [Has1] [Has2] [Has3] [Has4] [Has5] [Has6] [Has7] [Has8] [Has9] [Has10] [Has11]
end Go.Ev

namespace Go.Ev
open Go
variable [Lib] [Has1] [Has2] [Has3] [Has4] [Has5] [Has6] [Has7] [Has8] [Has9] [Has10] [Has11]
end Go.Ev

namespace Go.Ev
open Go
variable [Lib] [Has1] [Has2] [Has3] [Has4] [Has5] [Has6] [Has7] [Has8] [Has9] [Has10] [Has11] [Has12] [Has13]
theorem bearer_mem (l : List Int) (x : Int) : decide (x ∈ l) = decide (0 ≤ bearerF l x) := by
  rw [decide_eq_decide]
  unfold bearerF
  cases hf : (List.range l.length).find? (fun j => decide (nth l j = x)) with
  | some j =>
    obtain ⟨h1, h2⟩ := find_lt hf
    have h2 : nth l j = x := by simpa using h2
    refine ⟨fun _ => by simp, fun _ => ?_⟩
    rw [← h2]; exact nth_mem h1
  | none =>
    refine ⟨fun h => ?_, fun h => by simp at h⟩
    obtain ⟨j, hj⟩ := List.mem_iff_getElem?.1 h
    have h1 := (List.getElem?_eq_some_iff.1 hj).1
    have := List.find?_eq_none.1 hf j (List.mem_range.2 h1)
    rw [nth_eq hj] at this
    simp at this
theorem swSee1_ok {m : Mine} (h : m.ok) (h1 : 1 ≤ m.places.length) (w : Wh) (hl : w.frm.length ≤ 1000000) (l : List Int) (hp : l.length ≤ 1000000) (a c : Int) :
    CALL 0 N.swaps_See_1 [.t w.e, .bp 0 0, .bp 1 0, .bp 2 0, .bp 3 0] [.box (mineCells m), .box [.t (tL l)], .box [I a], .box [I c]] = some (.tup [.t (seeF m w l a c).1.e, I (seeF m w l a c).2], [.box (mineCells m), .box [.t (tL l)], .box [I a], .box [I c]]) := by
  refine CALL_of K.t_swaps_See_1 rfl ?_
  have g := psee_ok h h1 w hl l hp a c
  generalize (seeF m w l a c) = r at *
  obtain ⟨⟨t, f⟩, e⟩ := r
  obtain ⟨places, roads⟩ := m
  obtain ⟨time, frm⟩ := w
  simp only [mineCells] at *
  simp (disch := omega) only [go_sem, K.swaps_See_1, ↓reduceIte, g, Nat.reduceAdd, Nat.reduceSub]
abbrev swSeeH (m : Mine) (l : List Int) (a c : Int) (ws out : List World) : Heap := [.box (mineCells m), .box [.t (tL l)], .box [I a], .box [I c], .box (mineCells m), .box [.t (.sl (ws.map World.e))], .box [.nil], .box [.ref 8 0 out.length], .arr 2 false 0 ((out.map World.e).map .t)]
theorem swSee_round {m : Mine} (h : m.ok) (h1 : 1 ≤ m.places.length) (ws : List World) (hw : ws.length ≤ 1000000) (tag : Int) (l : List Int) (hp : l.length ≤ 1000000) (a c : Int) (i : Nat) (hi : i < ws.length) (hs : (nth ws i).sz)
    (hb : 0 ≤ bearerF (nth ws i).tags tag) (hb2 : bearerF (nth ws i).tags tag < (nth ws i).whr.length) (out : List World) (ho : out.length ≤ 1000000) :
    ((seeW m tag l a c (nth ws i)).2 ≠ 6 ∧ (seeW m tag l a c (nth ws i)).2 ≠ 8 → roundC true [0, 1, 4, 7, 9, 10, 11, 12, 13, 17, 18] 9 (exS CALL K.swaps_apply_l1b ⟨[.und, .und, I tag, .fn N.swaps_See_1 [.bp 0 0, .bp 1 0, .bp 2 0, .bp 3 0], .und, .bp 5 0, .bp 6 0, .und, .bp 7 0, .und, .und, .und, .und, .und, .t (.sl (ws.map World.e)), I ws.length, I i, .und, .und], swSeeH m l a c ws out⟩) =
      some ⟨[.und, .und, I tag, .fn N.swaps_See_1 [.bp 0 0, .bp 1 0, .bp 2 0, .bp 3 0], .und, .bp 5 0, .bp 6 0, .und, .bp 7 0, .und, .und, .und, .und, .und, .t (.sl (ws.map World.e)), I ws.length, I (i + 1), .und, .und], swSeeH m l a c ws (stepW tag (seeW m tag l a c (nth ws i)) (nth ws i) out)⟩) ∧
    ((seeW m tag l a c (nth ws i)).2 = 6 ∨ (seeW m tag l a c (nth ws i)).2 = 8 → ∃ vs H, exS CALL K.swaps_apply_l1b ⟨[.und, .und, I tag, .fn N.swaps_See_1 [.bp 0 0, .bp 1 0, .bp 2 0, .bp 3 0], .und, .bp 5 0, .bp 6 0, .und, .bp 7 0, .und, .und, .und, .und, .und, .t (.sl (ws.map World.e)), I ws.length, I i, .und, .und], swSeeH m l a c ws out⟩ =
      some (.ret, ⟨vs, H⟩) ∧ vs[6]? = some (.bp 6 0) ∧ vs[7]? = some (I (seeW m tag l a c (nth ws i)).2) ∧ H[6]? = some (.box [.t (.sl (ws.map World.e))]) ∧ H.take 4 = [.box (mineCells m), .box [.t (tL l)], .box [I a], .box [I c]]) := by
  unfold seeW stepW putW
  have c1 := wCopy_ok (nth ws i) hs
  have br : CALL 0 N.slices_Index_int_int [.t (tL (nth ws i).tags), I tag] [] = some (I (bearerF (nth ws i).tags tag), []) := index_ok (nth ws i).tags tag (by have := hs.1; omega)
  have s3 := hs.2.2 _ (nth_mem (l := (nth ws i).whr) (j := (bearerF (nth ws i).tags tag).toNat) (by omega))
  have se := swSee1_ok h h1 (nth (nth ws i).whr (bearerF (nth ws i).tags tag).toNat) s3 l hp a c
  generalize hx : nth ws i = x at *
  obtain ⟨tags, whr⟩ := x
  simp only at c1 br s3 se hb hb2 ⊢
  generalize bearerF tags tag = k at *
  generalize hy : nth whr k.toNat = y at *
  generalize (seeF m y l a c) = r at *
  obtain ⟨⟨time, frm⟩, e⟩ := r
  obtain ⟨t0, f0⟩ := y
  obtain ⟨s1, s2, -⟩ := hs
  obtain ⟨places, roads⟩ := m
  simp only [mineCells] at s1 s2 s3 se ⊢
  constructor
  · rintro ⟨n6, n8⟩
    by_cases e43 : e = 43
    · subst e43
      simp (disch := omega) only [go_sem, K.swaps_apply_l1b, ↓reduceIte, hx, hy, c1, br, se, Nat.reduceAdd, Nat.reduceSub]
    · by_cases e0 : e = 0
      · subst e0
        simp (disch := omega) only [go_sem, K.swaps_apply_l1b, ↓reduceIte, hx, hy, c1, br, se, Nat.reduceAdd, Nat.reduceSub]
        simp only [swSeeH, mineCells, List.length_append, List.length_singleton, List.map_append, List.map_cons, List.map_nil]
      · simp (disch := omega) only [go_sem, K.swaps_apply_l1b, ↓reduceIte, hx, hy, c1, br, se, Nat.reduceAdd, Nat.reduceSub]
        simp only [swSeeH, mineCells, List.length_append, List.length_singleton, List.map_append, List.map_cons, List.map_nil]
  · rintro (h68 | h68) <;> subst h68
    · simp (disch := omega) only [go_sem, K.swaps_apply_l1b, ↓reduceIte, hx, hy, c1, br, se, Nat.reduceAdd, Nat.reduceSub]
      exact ⟨_, _, rfl, rfl, rfl, rfl, rfl⟩
    · simp (disch := omega) only [go_sem, K.swaps_apply_l1b, ↓reduceIte, hx, hy, c1, br, se, Nat.reduceAdd, Nat.reduceSub]
      exact ⟨_, _, rfl, rfl, rfl, rfl, rfl⟩
theorem swSeeA_ok {m : Mine} (h : m.ok) (h1 : 1 ≤ m.places.length) (b : Bel) (hs : b.sz) (tag : Int) (l : List Int) (hp : l.length ≤ 1000000) (a c : Int) :
    CALL 0 N.swaps_apply [.t m.e, .t b.e, I tag, .fn N.swaps_See_1 [.bp 0 0, .bp 1 0, .bp 2 0, .bp 3 0]] [.box (mineCells m), .box [.t (tL l)], .box [I a], .box [I c]] = some (.tup [.t (seeBel m b tag l a c).1.e, I (seeBel m b tag l a c).2], [.box (mineCells m), .box [.t (tL l)], .box [I a], .box [I c]]) := by
  refine CALL_of K.t_swaps_apply rfl ?_
  have va := swValid_ok h b hs
  unfold seeBel
  by_cases hv : belB m b = true
  · have n1 : 1 ≤ b.worlds.length := (belB_spec hv).1
    have e0 : (b.worlds.map World.e)[0]? = some (nth b.worlds 0).e := map_nth _ (by omega)
    have ct := contains_ok (nth b.worlds 0).tags tag (by have := (hs.2 _ (nth_mem (l := b.worlds) (j := 0) (by omega))).1; omega)
    rw [bearer_mem] at ct
    by_cases c0 : borneF m b tag = 0
    · obtain ⟨-, bb⟩ := borne_0 c0
      rw [decide_eq_true (bb 0 (by omega)).1] at ct
      rw [if_neg (by simpa using c0)]
      obtain ⟨ws⟩ := b
      obtain ⟨s1, s2⟩ := hs
      simp only at s1 s2 bb va e0 ct ⊢
      rw [hv] at va
      have ln := seeNb_len m tag l a c ws
      have loop := fun x y z4 z7 z9 z10 z11 z12 z13 z17 z18 => loop_find (gc := true) (dead := [0, 1, 4, 7, 9, 10, 11, 12, 13, 17, 18]) (c := K.swaps_apply_l1b)
        (vs := [x, y, I tag, .fn N.swaps_See_1 [.bp 0 0, .bp 1 0, .bp 2 0, .bp 3 0], z4, .bp 5 0, .bp 6 0, z7, .bp 7 0, z9, z10, z11, z12, z13, .t (.sl (ws.map World.e)), I ws.length, I 0, z17, z18]) (H := swSeeH m l a c ws [])
        (fun i => ⟨[.und, .und, I tag, .fn N.swaps_See_1 [.bp 0 0, .bp 1 0, .bp 2 0, .bp 3 0], .und, .bp 5 0, .bp 6 0, .und, .bp 7 0, .und, .und, .und, .und, .und, .t (.sl (ws.map World.e)), I ws.length, I i, .und, .und], swSeeH m l a c ws (seeNb m tag l a c ws i)⟩) ws.length (seeBad m tag l a c ws)
        (fun i q => q.1 = .ret ∧ q.2.vs[6]? = some (.bp 6 0) ∧ q.2.vs[7]? = some (I (seeW m tag l a c (nth ws i)).2) ∧ q.2.H[6]? = some (.box [.t (.sl (ws.map World.e))]) ∧ q.2.H.take 4 = [.box (mineCells m), .box [.t (tL l)], .box [I a], .box [I c]])
        (.exit 0, ⟨[.und, .und, I tag, .fn N.swaps_See_1 [.bp 0 0, .bp 1 0, .bp 2 0, .bp 3 0], .und, .bp 5 0, .bp 6 0, .und, .bp 7 0, .und, .und, .und, .und, .und, .t (.sl (ws.map World.e)), I ws.length, I ws.length, .und, .und], swSeeH m l a c ws (seeNb m tag l a c ws ws.length)⟩) rfl
        (fun j hj hq => by
          have := ln j
          have hq : ¬ ((seeW m tag l a c (nth ws j)).2 = 6 ∨ (seeW m tag l a c (nth ws j)).2 = 8) := by simpa [seeBad] using hq
          obtain ⟨b1, b2⟩ := bb j hj
          have r := (swSee_round h h1 ws s1 tag l hp a c j hj (s2 _ (nth_mem hj)) b1 b2 (seeNb m tag l a c ws j) (by omega)).1 (by omega)
          simp only [seeNb]
          exact r)
        (fun j hj hq => by
          have := ln j
          have hq : (seeW m tag l a c (nth ws j)).2 = 6 ∨ (seeW m tag l a c (nth ws j)).2 = 8 := by simpa [seeBad] using hq
          obtain ⟨b1, b2⟩ := bb j hj
          obtain ⟨vs, H, q1, q2⟩ := (swSee_round h h1 ws s1 tag l hp a c j hj (s2 _ (nth_mem hj)) b1 b2 (seeNb m tag l a c ws j) (by omega)).2 hq
          exact ⟨_, q1, by simp, rfl, q2⟩)
        (by
          have := ln ws.length
          generalize seeNb m tag l a c ws ws.length = L at *
          simp (disch := omega) only [go_sem, K.swaps_apply_l1b, ↓reduceIte, swSeeH, Nat.reduceAdd, Nat.reduceSub]) (by simp)
      have loop' : ∀ x y z4 z7 z9 z10 z11 z12 z13 z17 z18, _ ∨ _ := loop
      clear loop
      rcases loop' (.t m.e) (.t (Bel.e ⟨ws⟩)) (.bp 4 0) (I 0) .und .und .und .und .und .und .und with ⟨e1, e2⟩ | ⟨j, ⟨x, vs, H⟩, e1, e2, e3, e4, e5, e6, e7⟩
      · have e2 : exS CALL K.swaps_apply_l1 _ = _ := e2
        simp only [swSeeH, List.map_nil, List.length_nil] at e2
        have := ln ws.length
        rw [e1]
        generalize seeNb m tag l a c ws ws.length = L at *
        obtain ⟨places, roads⟩ := m
        simp only [mineCells] at *
        generalize nth ws 0 = x at *
        obtain ⟨first, whr⟩ := x
        by_cases L0 : L.length = 0
        · simp (disch := omega) only [go_sem, K.swaps_apply, ↓reduceIte, va, e0, ct, e2, L0, Nat.reduceAdd, Nat.reduceSub]
        · simp (disch := omega) only [go_sem, K.swaps_apply, ↓reduceIte, va, e0, ct, e2, L0, Nat.reduceAdd, Nat.reduceSub]
      · have e2 : exS CALL K.swaps_apply_l1 _ = _ := e2
        simp only [swSeeH, List.map_nil, List.length_nil] at e2
        rw [e1]
        simp only at e3 e4 e5 e6 e7
        subst e3
        obtain ⟨places, roads⟩ := m
        simp only [mineCells] at *
        generalize nth ws 0 = x at *
        obtain ⟨first, whr⟩ := x
        simp (disch := omega) only [go_sem, K.swaps_apply, ↓reduceIte, va, e0, ct, e2, e4, e5, e6, e7, Nat.reduceAdd, Nat.reduceSub]
    · have c1 : ¬ 0 ≤ bearerF (nth b.worlds 0).tags tag := fun hh => c0 (by unfold borneF; rw [if_neg (by simp [hv]), if_neg (by omega)])
      have c2 : borneF m b tag = 41 := by unfold borneF; rw [if_neg (by simp [hv]), if_pos (by omega)]
      rw [decide_eq_false c1] at ct
      rw [if_pos c0, c2]
      rw [hv] at va
      obtain ⟨ws⟩ := b
      obtain ⟨places, roads⟩ := m
      simp only [mineCells] at *
      generalize nth ws 0 = x at *
      obtain ⟨first, whr⟩ := x
      simp (disch := omega) only [go_sem, K.swaps_apply, ↓reduceIte, va, e0, ct, Nat.reduceAdd, Nat.reduceSub]
  · have hv : belB m b = false := by simpa using hv
    have c2 : borneF m b tag = 6 := by unfold borneF; rw [if_pos hv]
    rw [if_pos (by omega), c2]
    rw [hv] at va
    obtain ⟨ws⟩ := b
    obtain ⟨places, roads⟩ := m
    simp only [mineCells] at *
    simp (disch := omega) only [go_sem, K.swaps_apply, ↓reduceIte, va, Nat.reduceAdd, Nat.reduceSub]
theorem swSee_ok {m : Mine} (h : m.ok) (h1 : 1 ≤ m.places.length) (b : Bel) (hs : b.sz) (tag : Int) (l : List Int) (hp : l.length ≤ 1000000) (a c : Int) :
    CALL 0 N.swaps_See [.t m.e, .t b.e, I tag, .t (tL l), I a, I c] [] = some (.tup [.t (seeBel m b tag l a c).1.e, I (seeBel m b tag l a c).2], []) := by
  refine CALL_of K.t_swaps_See rfl ?_
  have g := swSeeA_ok h h1 b hs tag l hp a c
  generalize seeBel m b tag l a c = r at *
  obtain ⟨⟨r1⟩, r2⟩ := r
  obtain ⟨places, roads⟩ := m
  obtain ⟨ws⟩ := b
  simp only [mineCells] at *
  simp (disch := omega) only [go_sem, K.swaps_See, ↓reduceIte, g, Nat.reduceAdd, Nat.reduceSub]
end Go.Ev

namespace Go.Ev
open Go
variable [Lib] [Has1] [Has2] [Has3] [Has4] [Has5] [Has6] [Has7] [Has8] [Has9] [Has10] [Has11] [Has12] [Has13]
theorem askedF_43 (m : Mine) (w : Wh) (l : List Int) (a b : Int) : askedF m w l a b ≠ 43 := by
  unfold askedF
  repeat' split
  all_goals omega
theorem absW_43 (m : Mine) (tag : Int) (l : List Int) (a c bl : Int) (x : World) : (absW m tag l a c bl x).2 ≠ 43 := by
  unfold absW absF
  repeat' split
  all_goals first | exact askedF_43 _ _ _ _ _ | (simp only; omega)
theorem stepW_A {tag : Int} {r : Wh × Int} (h : r.2 ≠ 43) (x : World) (out : List World) : stepW tag r x out = stepA tag r x out := by
  unfold stepW stepA; rw [if_neg h]
theorem swAbsent1_ok {m : Mine} (h : m.ok) (h1 : 1 ≤ m.places.length) (w : Wh) (hl : w.frm.length ≤ 1000000) (l : List Int) (hp : l.length ≤ 1000000) (a c bl : Int) :
    CALL 0 N.swaps_Absent_1 [.t w.e, .bp 0 0, .bp 1 0, .bp 2 0, .bp 3 0, .bp 4 0] [.box (mineCells m), .box [.t (tL l)], .box [I a], .box [I c], .box [I bl]] = some (.tup [.t (absF m w l a c bl).1.e, I (absF m w l a c bl).2], [.box (mineCells m), .box [.t (tL l)], .box [I a], .box [I c], .box [I bl]]) := by
  refine CALL_of K.t_swaps_Absent_1 rfl ?_
  have g := pabs_ok h w hl l hp a c bl
  generalize (absF m w l a c bl) = r at *
  obtain ⟨⟨t, f⟩, e⟩ := r
  obtain ⟨places, roads⟩ := m
  obtain ⟨time, frm⟩ := w
  simp only [mineCells] at *
  simp (disch := omega) only [go_sem, K.swaps_Absent_1, ↓reduceIte, g, Nat.reduceAdd, Nat.reduceSub]
abbrev swAbsentH (m : Mine) (l : List Int) (a c bl : Int) (ws out : List World) : Heap := [.box (mineCells m), .box [.t (tL l)], .box [I a], .box [I c], .box [I bl], .box (mineCells m), .box [.t (.sl (ws.map World.e))], .box [.nil], .box [.ref 9 0 out.length], .arr 2 false 0 ((out.map World.e).map .t)]
theorem swAbsent_round {m : Mine} (h : m.ok) (h1 : 1 ≤ m.places.length) (ws : List World) (hw : ws.length ≤ 1000000) (tag : Int) (l : List Int) (hp : l.length ≤ 1000000) (a c bl : Int) (i : Nat) (hi : i < ws.length) (hs : (nth ws i).sz)
    (hb : 0 ≤ bearerF (nth ws i).tags tag) (hb2 : bearerF (nth ws i).tags tag < (nth ws i).whr.length) (out : List World) (ho : out.length ≤ 1000000) :
    ((absW m tag l a c bl (nth ws i)).2 ≠ 6 ∧ (absW m tag l a c bl (nth ws i)).2 ≠ 8 → roundC true [0, 1, 4, 7, 9, 10, 11, 12, 13, 17, 18] 10 (exS CALL K.swaps_apply_l1b ⟨[.und, .und, I tag, .fn N.swaps_Absent_1 [.bp 0 0, .bp 1 0, .bp 2 0, .bp 3 0, .bp 4 0], .und, .bp 6 0, .bp 7 0, .und, .bp 8 0, .und, .und, .und, .und, .und, .t (.sl (ws.map World.e)), I ws.length, I i, .und, .und], swAbsentH m l a c bl ws out⟩) =
      some ⟨[.und, .und, I tag, .fn N.swaps_Absent_1 [.bp 0 0, .bp 1 0, .bp 2 0, .bp 3 0, .bp 4 0], .und, .bp 6 0, .bp 7 0, .und, .bp 8 0, .und, .und, .und, .und, .und, .t (.sl (ws.map World.e)), I ws.length, I (i + 1), .und, .und], swAbsentH m l a c bl ws (stepW tag (absW m tag l a c bl (nth ws i)) (nth ws i) out)⟩) ∧
    ((absW m tag l a c bl (nth ws i)).2 = 6 ∨ (absW m tag l a c bl (nth ws i)).2 = 8 → ∃ vs H, exS CALL K.swaps_apply_l1b ⟨[.und, .und, I tag, .fn N.swaps_Absent_1 [.bp 0 0, .bp 1 0, .bp 2 0, .bp 3 0, .bp 4 0], .und, .bp 6 0, .bp 7 0, .und, .bp 8 0, .und, .und, .und, .und, .und, .t (.sl (ws.map World.e)), I ws.length, I i, .und, .und], swAbsentH m l a c bl ws out⟩ =
      some (.ret, ⟨vs, H⟩) ∧ vs[6]? = some (.bp 7 0) ∧ vs[7]? = some (I (absW m tag l a c bl (nth ws i)).2) ∧ H[7]? = some (.box [.t (.sl (ws.map World.e))]) ∧ H.take 5 = [.box (mineCells m), .box [.t (tL l)], .box [I a], .box [I c], .box [I bl]]) := by
  unfold absW stepW putW
  have c1 := wCopy_ok (nth ws i) hs
  have br : CALL 0 N.slices_Index_int_int [.t (tL (nth ws i).tags), I tag] [] = some (I (bearerF (nth ws i).tags tag), []) := index_ok (nth ws i).tags tag (by have := hs.1; omega)
  have s3 := hs.2.2 _ (nth_mem (l := (nth ws i).whr) (j := (bearerF (nth ws i).tags tag).toNat) (by omega))
  have se := swAbsent1_ok h h1 (nth (nth ws i).whr (bearerF (nth ws i).tags tag).toNat) s3 l hp a c bl
  generalize hx : nth ws i = x at *
  obtain ⟨tags, whr⟩ := x
  simp only at c1 br s3 se hb hb2 ⊢
  generalize bearerF tags tag = k at *
  generalize hy : nth whr k.toNat = y at *
  generalize (absF m y l a c bl) = r at *
  obtain ⟨⟨time, frm⟩, e⟩ := r
  obtain ⟨t0, f0⟩ := y
  obtain ⟨s1, s2, -⟩ := hs
  obtain ⟨places, roads⟩ := m
  simp only [mineCells] at s1 s2 s3 se ⊢
  constructor
  · rintro ⟨n6, n8⟩
    by_cases e43 : e = 43
    · subst e43
      simp (disch := omega) only [go_sem, K.swaps_apply_l1b, ↓reduceIte, hx, hy, c1, br, se, Nat.reduceAdd, Nat.reduceSub]
    · by_cases e0 : e = 0
      · subst e0
        simp (disch := omega) only [go_sem, K.swaps_apply_l1b, ↓reduceIte, hx, hy, c1, br, se, Nat.reduceAdd, Nat.reduceSub]
        simp only [swAbsentH, mineCells, List.length_append, List.length_singleton, List.map_append, List.map_cons, List.map_nil]
      · simp (disch := omega) only [go_sem, K.swaps_apply_l1b, ↓reduceIte, hx, hy, c1, br, se, Nat.reduceAdd, Nat.reduceSub]
        simp only [swAbsentH, mineCells, List.length_append, List.length_singleton, List.map_append, List.map_cons, List.map_nil]
  · rintro (h68 | h68) <;> subst h68
    · simp (disch := omega) only [go_sem, K.swaps_apply_l1b, ↓reduceIte, hx, hy, c1, br, se, Nat.reduceAdd, Nat.reduceSub]
      exact ⟨_, _, rfl, rfl, rfl, rfl, rfl⟩
    · simp (disch := omega) only [go_sem, K.swaps_apply_l1b, ↓reduceIte, hx, hy, c1, br, se, Nat.reduceAdd, Nat.reduceSub]
      exact ⟨_, _, rfl, rfl, rfl, rfl, rfl⟩
theorem swAbsentA_ok {m : Mine} (h : m.ok) (h1 : 1 ≤ m.places.length) (b : Bel) (hs : b.sz) (tag : Int) (l : List Int) (hp : l.length ≤ 1000000) (a c bl : Int) :
    CALL 0 N.swaps_apply [.t m.e, .t b.e, I tag, .fn N.swaps_Absent_1 [.bp 0 0, .bp 1 0, .bp 2 0, .bp 3 0, .bp 4 0]] [.box (mineCells m), .box [.t (tL l)], .box [I a], .box [I c], .box [I bl]] = some (.tup [.t (absBel m b tag l a c bl).1.e, I (absBel m b tag l a c bl).2], [.box (mineCells m), .box [.t (tL l)], .box [I a], .box [I c], .box [I bl]]) := by
  refine CALL_of K.t_swaps_apply rfl ?_
  have va := swValid_ok h b hs
  unfold absBel
  by_cases hv : belB m b = true
  · have n1 : 1 ≤ b.worlds.length := (belB_spec hv).1
    have e0 : (b.worlds.map World.e)[0]? = some (nth b.worlds 0).e := map_nth _ (by omega)
    have ct := contains_ok (nth b.worlds 0).tags tag (by have := (hs.2 _ (nth_mem (l := b.worlds) (j := 0) (by omega))).1; omega)
    rw [bearer_mem] at ct
    by_cases c0 : borneF m b tag = 0
    · obtain ⟨-, bb⟩ := borne_0 c0
      rw [decide_eq_true (bb 0 (by omega)).1] at ct
      rw [if_neg (by simpa using c0)]
      obtain ⟨ws⟩ := b
      obtain ⟨s1, s2⟩ := hs
      simp only at s1 s2 bb va e0 ct ⊢
      rw [hv] at va
      have ln := absNb_len m tag l a c bl ws
      have loop := fun x y z4 z7 z9 z10 z11 z12 z13 z17 z18 => loop_find (gc := true) (dead := [0, 1, 4, 7, 9, 10, 11, 12, 13, 17, 18]) (c := K.swaps_apply_l1b)
        (vs := [x, y, I tag, .fn N.swaps_Absent_1 [.bp 0 0, .bp 1 0, .bp 2 0, .bp 3 0, .bp 4 0], z4, .bp 6 0, .bp 7 0, z7, .bp 8 0, z9, z10, z11, z12, z13, .t (.sl (ws.map World.e)), I ws.length, I 0, z17, z18]) (H := swAbsentH m l a c bl ws [])
        (fun i => ⟨[.und, .und, I tag, .fn N.swaps_Absent_1 [.bp 0 0, .bp 1 0, .bp 2 0, .bp 3 0, .bp 4 0], .und, .bp 6 0, .bp 7 0, .und, .bp 8 0, .und, .und, .und, .und, .und, .t (.sl (ws.map World.e)), I ws.length, I i, .und, .und], swAbsentH m l a c bl ws (absNb m tag l a c bl ws i)⟩) ws.length (absBad m tag l a c bl ws)
        (fun i q => q.1 = .ret ∧ q.2.vs[6]? = some (.bp 7 0) ∧ q.2.vs[7]? = some (I (absW m tag l a c bl (nth ws i)).2) ∧ q.2.H[7]? = some (.box [.t (.sl (ws.map World.e))]) ∧ q.2.H.take 5 = [.box (mineCells m), .box [.t (tL l)], .box [I a], .box [I c], .box [I bl]])
        (.exit 0, ⟨[.und, .und, I tag, .fn N.swaps_Absent_1 [.bp 0 0, .bp 1 0, .bp 2 0, .bp 3 0, .bp 4 0], .und, .bp 6 0, .bp 7 0, .und, .bp 8 0, .und, .und, .und, .und, .und, .t (.sl (ws.map World.e)), I ws.length, I ws.length, .und, .und], swAbsentH m l a c bl ws (absNb m tag l a c bl ws ws.length)⟩) rfl
        (fun j hj hq => by
          have := ln j
          have hq : ¬ ((absW m tag l a c bl (nth ws j)).2 = 6 ∨ (absW m tag l a c bl (nth ws j)).2 = 8) := by simpa [absBad] using hq
          obtain ⟨b1, b2⟩ := bb j hj
          have r := (swAbsent_round h h1 ws s1 tag l hp a c bl j hj (s2 _ (nth_mem hj)) b1 b2 (absNb m tag l a c bl ws j) (by omega)).1 (by omega)
          rw [stepW_A (absW_43 _ _ _ _ _ _ _)] at r
          exact r)
        (fun j hj hq => by
          have := ln j
          have hq : (absW m tag l a c bl (nth ws j)).2 = 6 ∨ (absW m tag l a c bl (nth ws j)).2 = 8 := by simpa [absBad] using hq
          obtain ⟨b1, b2⟩ := bb j hj
          obtain ⟨vs, H, q1, q2⟩ := (swAbsent_round h h1 ws s1 tag l hp a c bl j hj (s2 _ (nth_mem hj)) b1 b2 (absNb m tag l a c bl ws j) (by omega)).2 hq
          exact ⟨_, q1, by simp, rfl, q2⟩)
        (by
          have := ln ws.length
          generalize absNb m tag l a c bl ws ws.length = L at *
          simp (disch := omega) only [go_sem, K.swaps_apply_l1b, ↓reduceIte, swAbsentH, Nat.reduceAdd, Nat.reduceSub]) (by simp)
      have loop' : ∀ x y z4 z7 z9 z10 z11 z12 z13 z17 z18, _ ∨ _ := loop
      clear loop
      rcases loop' (.t m.e) (.t (Bel.e ⟨ws⟩)) (.bp 5 0) (I 0) .und .und .und .und .und .und .und with ⟨e1, e2⟩ | ⟨j, ⟨x, vs, H⟩, e1, e2, e3, e4, e5, e6, e7⟩
      · have e2 : exS CALL K.swaps_apply_l1 _ = _ := e2
        simp only [swAbsentH, List.map_nil, List.length_nil] at e2
        have := ln ws.length
        rw [e1]
        generalize absNb m tag l a c bl ws ws.length = L at *
        obtain ⟨places, roads⟩ := m
        simp only [mineCells] at *
        generalize nth ws 0 = x at *
        obtain ⟨first, whr⟩ := x
        have L1 : L.length ≠ 0 := by omega
        simp (disch := omega) only [go_sem, K.swaps_apply, ↓reduceIte, va, e0, ct, e2, L1, Nat.reduceAdd, Nat.reduceSub]
      · have e2 : exS CALL K.swaps_apply_l1 _ = _ := e2
        simp only [swAbsentH, List.map_nil, List.length_nil] at e2
        rw [e1]
        simp only at e3 e4 e5 e6 e7
        subst e3
        obtain ⟨places, roads⟩ := m
        simp only [mineCells] at *
        generalize nth ws 0 = x at *
        obtain ⟨first, whr⟩ := x
        simp (disch := omega) only [go_sem, K.swaps_apply, ↓reduceIte, va, e0, ct, e2, e4, e5, e6, e7, Nat.reduceAdd, Nat.reduceSub]
    · have c1 : ¬ 0 ≤ bearerF (nth b.worlds 0).tags tag := fun hh => c0 (by unfold borneF; rw [if_neg (by simp [hv]), if_neg (by omega)])
      have c2 : borneF m b tag = 41 := by unfold borneF; rw [if_neg (by simp [hv]), if_pos (by omega)]
      rw [decide_eq_false c1] at ct
      rw [if_pos c0, c2]
      rw [hv] at va
      obtain ⟨ws⟩ := b
      obtain ⟨places, roads⟩ := m
      simp only [mineCells] at *
      generalize nth ws 0 = x at *
      obtain ⟨first, whr⟩ := x
      simp (disch := omega) only [go_sem, K.swaps_apply, ↓reduceIte, va, e0, ct, Nat.reduceAdd, Nat.reduceSub]
  · have hv : belB m b = false := by simpa using hv
    have c2 : borneF m b tag = 6 := by unfold borneF; rw [if_pos hv]
    rw [if_pos (by omega), c2]
    rw [hv] at va
    obtain ⟨ws⟩ := b
    obtain ⟨places, roads⟩ := m
    simp only [mineCells] at *
    simp (disch := omega) only [go_sem, K.swaps_apply, ↓reduceIte, va, Nat.reduceAdd, Nat.reduceSub]
theorem swAbsent_ok {m : Mine} (h : m.ok) (h1 : 1 ≤ m.places.length) (b : Bel) (hs : b.sz) (tag : Int) (l : List Int) (hp : l.length ≤ 1000000) (a c bl : Int) :
    CALL 0 N.swaps_Absent [.t m.e, .t b.e, I tag, .t (tL l), I a, I c, I bl] [] = some (.tup [.t (absBel m b tag l a c bl).1.e, I (absBel m b tag l a c bl).2], []) := by
  refine CALL_of K.t_swaps_Absent rfl ?_
  have g := swAbsentA_ok h h1 b hs tag l hp a c bl
  generalize absBel m b tag l a c bl = r at *
  obtain ⟨⟨r1⟩, r2⟩ := r
  obtain ⟨places, roads⟩ := m
  obtain ⟨ws⟩ := b
  simp only [mineCells] at *
  simp (disch := omega) only [go_sem, K.swaps_Absent, ↓reduceIte, g, Nat.reduceAdd, Nat.reduceSub]
end Go.Ev

namespace Go.Ev
open Go
variable [Lib] [Has1] [Has2] [Has3] [Has4] [Has5] [Has6] [Has7] [Has8] [Has9] [Has10] [Has11] [Has12] [Has13]
end Go.Ev

namespace Go.Ev
open Go
variable [Lib] [Has1] [Has2] [Has3] [Has4] [Has5] [Has6] [Has7] [Has8] [Has9] [Has10] [Has11] [Has12] [Has13]
end Go.Ev

namespace Go.Ev
open Go
variable [Lib] [Has1] [Has2] [Has3] [Has4] [Has5] [Has6] [Has7] [Has8] [Has9] [Has10] [Has11] [Has12] [Has13]
abbrev ssH (m : Mine) (tags : List Int) (ws : List Wh) : Heap := [.box (mineCells m), .box [.nil], .box [.t (tL tags), .ref 4 0 ws.length], .arr 2 false 0 [], .arr 2 false 0 ((ws.map Wh.e).map .t)]
theorem sStart_ok {m : Mine} (h : m.ok) (h1 : 1 ≤ m.places.length) (tags starts : List Int) (hl : tags.length ≤ 1000000) (t : Int) :
    CALL 0 N.swaps_Start [.t m.e, .t (tL tags), .t (tL starts), I t] [] = some (.tup [.t (startBel m tags starts t).1.e, I (startBel m tags starts t).2], []) := by
  refine CALL_of K.t_swaps_Start rfl ?_
  have va := planValid_ok h
  have tg := tagged_ok tags hl
  have li := in_ok (tags.length : Int) 1 12
  have cl := clone0_ok tags hl
  unfold startBel
  by_cases c1 : tags.length = starts.length
  · have e := c1.symm
    by_cases c2 : 1 ≤ tags.length ∧ tags.length ≤ 12
    · rw [decide_eq_true (by omega)] at li
      rw [if_pos ⟨c1, c2⟩]
      cases hp : properB tags with
      | false =>
        rw [hp] at tg
        obtain ⟨places, roads⟩ := m
        simp only at *
        simp (disch := omega) only [go_sem, K.swaps_Start, ↓reduceIte, va, tg, li, e, Bool.false_eq_true, Nat.reduceAdd, Nat.reduceSub]
        rfl
      | true =>
        rw [hp] at tg
        have loop : ∀ z0 z1 z2 z6 z8 z9 z10 : D, exS CALL K.swaps_Start_l1 ⟨[z0, z1, z2, I t, .bp 0 0, .bp 1 0, z6, .bp 2 0, z8, z9, z10, .t (tL starts), I tags.length, I 0], ssH m tags []⟩ =
            some (match (List.range tags.length).find? (fun i => !decide ((startF m (nth starts i) t).2 = 0)) with
              | some i => (.ret, ⟨[.und, .und, .und, I t, .bp 0 0, .bp 1 0, I (startF m (nth starts i) t).2, .bp 2 0, I (nth starts i), .bp 5 0, I (startF m (nth starts i) t).2, .t (tL starts), I tags.length, I i], ssH m tags (startWs m starts t i) ++ [.box [I (startF m (nth starts i) t).1.time, .t (tL (startF m (nth starts i) t).1.frm)]]⟩)
              | none => (.exit 1, ⟨[.und, .und, .und, I t, .bp 0 0, .bp 1 0, .und, .bp 2 0, .und, .und, .und, .t (tL starts), I tags.length, I tags.length], ssH m tags (startWs m starts t tags.length)⟩)) := by
          intro z0 z1 z2 z6 z8 z9 z10
          refine loop_first (fun j => ⟨[.und, .und, .und, I t, .bp 0 0, .bp 1 0, .und, .bp 2 0, .und, .und, .und, .t (tL starts), I tags.length, I j], ssH m tags (startWs m starts t j)⟩) tags.length _ _ _ rfl ?_ ?_ ?_ (by simp)
          · intro j hj hp
            have st := pstart_ok h h1 (nth starts j) t
            have ln := startWs_len m starts t j
            have hp : (startF m (nth starts j) t).2 = 0 := by simpa using hp
            rw [startWs_succ]
            generalize startWs m starts t j = L at *
            generalize startF m (nth starts j) t = r at *
            obtain ⟨⟨time, frm⟩, e⟩ := r
            obtain ⟨places, roads⟩ := m
            simp only [mineCells] at st hp ⊢
            subst hp
            simp (disch := omega) only [go_sem, K.swaps_Start_l1b, ↓reduceIte, ssH, st, Nat.reduceAdd, Nat.reduceSub]
          · intro j hj hp
            have st := pstart_ok h h1 (nth starts j) t
            have ln := startWs_len m starts t j
            have hp : (startF m (nth starts j) t).2 ≠ 0 := by simpa using hp
            generalize startWs m starts t j = L at *
            generalize startF m (nth starts j) t = r at *
            obtain ⟨⟨time, frm⟩, e⟩ := r
            obtain ⟨places, roads⟩ := m
            simp only [mineCells] at st hp ⊢
            refine ⟨?_, by simp⟩
            simp (disch := omega) only [go_sem, K.swaps_Start_l1b, ↓reduceIte, ssH, st, Nat.reduceAdd, Nat.reduceSub]
          · have ln := startWs_len m starts t tags.length
            generalize startWs m starts t tags.length = L at *
            simp (disch := omega) only [go_sem, K.swaps_Start_l1b, ↓reduceIte, ssH, Nat.reduceAdd, Nat.reduceSub]
        simp only [ssH, List.map_nil, List.length_nil] at loop
        cases hf : (List.range tags.length).find? (fun i => !decide ((startF m (nth starts i) t).2 = 0)) with
        | some i =>
          simp only [hf] at loop
          dsimp only
          generalize startF m (nth starts i) t = r at *
          obtain ⟨⟨time, frm⟩, e6⟩ := r
          generalize startWs m starts t i = L at *
          obtain ⟨places, roads⟩ := m
          simp only [mineCells] at *
          simp (disch := omega) only [go_sem, K.swaps_Start, ↓reduceIte, va, tg, li, cl, loop, e, Nat.reduceAdd, Nat.reduceSub]
          rfl
        | none =>
          simp only [hf] at loop
          have ln := startWs_len m starts t tags.length
          generalize startWs m starts t tags.length = L at *
          obtain ⟨places, roads⟩ := m
          simp only [mineCells] at *
          simp (disch := omega) only [go_sem, K.swaps_Start, ↓reduceIte, va, tg, li, cl, loop, e, Nat.reduceAdd, Nat.reduceSub]
          rfl
    · rw [decide_eq_false (by omega)] at li
      rw [if_neg (fun x => c2 ⟨x.2.1, x.2.2⟩)]
      obtain ⟨places, roads⟩ := m
      simp only at *
      simp (disch := omega) only [go_sem, K.swaps_Start, ↓reduceIte, va, li, e, Nat.reduceAdd, Nat.reduceSub]
      rfl
  · rw [if_neg (fun x => c1 x.1)]
    obtain ⟨places, roads⟩ := m
    simp only at *
    simp (disch := omega) only [go_sem, K.swaps_Start, ↓reduceIte, va, li, c1, Nat.reduceAdd, Nat.reduceSub]
    rfl
end Go.Ev

namespace Go.Ev
open Go
variable [Lib] [Has1] [Has2] [Has3] [Has4] [Has5] [Has6] [Has7] [Has8] [Has9] [Has10] [Has11] [Has12] [Has13]
end Go.Ev

namespace Go.Ev
open Go
variable [Lib] [Has1] [Has2] [Has3] [Has4] [Has5] [Has6] [Has7] [Has8] [Has9] [Has10] [Has11] [Has12] [Has13]
end Go.Ev

namespace Go.Ev
open Go
variable [Lib] [Has1] [Has2] [Has3] [Has4] [Has5] [Has6] [Has7] [Has8] [Has9] [Has10] [Has11] [Has12] [Has13]
end Go.Ev

namespace Go.Ev
open Go
variable [Lib] [Has1] [Has2] [Has3] [Has4] [Has5] [Has6] [Has7] [Has8] [Has9]
end Go.Ev

namespace Go.Ev
open Go
variable [Lib] [Has1] [Has2] [Has3] [Has4] [Has5] [Has6] [Has7] [Has8] [Has9] [Has10] [Has11] [Has12] [Has13]
abbrev saW (x y : Wh) : World := ⟨[8, 3], [x, y]⟩
theorem sa_bv {m : Mine} {x y : Wh} (hx : validB m x = true) (hy : validB m y = true) : BV m [8, 3] [saW x y] :=
  ⟨by decide, by simp, by simp, fun w hw => by
    rw [List.mem_singleton.1 hw]
    refine ⟨List.Perm.refl _, rfl, fun v hv => ?_⟩
    simp only [List.mem_cons, List.not_mem_nil, or_false] at hv
    rcases hv with rfl | rfl <;> assumption, by simp⟩
theorem sa_borne {m : Mine} {x y : Wh} (hx : validB m x = true) (hy : validB m y = true) {tag : Int} (ht : tag = 8 ∨ tag = 3) : borneF m ⟨[saW x y]⟩ tag = 0 := by
  have hb := (sa_bv hx hy).bel (by simp) (by simp)
  unfold borneF
  rw [if_neg (by simp [hb])]
  have e : nth [saW x y] 0 = saW x y := rfl
  simp only [e]
  rcases ht with rfl | rfl
  · rw [show bearerF [8, 3] 8 = 0 from by decide]; rfl
  · rw [show bearerF [8, 3] 3 = 1 from by decide]; rfl
theorem seeF_code (m : Mine) (w : Wh) (l : List Int) (a b : Int) : ((seeF m w l a b).2 = 0 ∨ (seeF m w l a b).2 = 6 ∨ (seeF m w l a b).2 = 8 ∨ (seeF m w l a b).2 = 42 ∨ (seeF m w l a b).2 = 43) ∧ ((seeF m w l a b).2 ≠ 0 → (seeF m w l a b).1 = w) := by
  unfold seeF
  split
  · rename_i c
    refine ⟨?_, fun _ => rfl⟩
    unfold askedF at c ⊢
    split
    · split <;> simp
    · simp
  · split
    · simp
    · split <;> simp
theorem absF_code (m : Mine) (w : Wh) (l : List Int) (a b bl : Int) : (absF m w l a b bl).2 ≠ 0 → (absF m w l a b bl).1 = w := by
  unfold absF
  split
  · exact fun _ => rfl
  · split
    · exact fun _ => rfl
    · split
      · exact fun _ => rfl
      · split <;> simp
theorem find1 (p : Nat → Bool) : (List.range 1).find? p = if p 0 = true then some 0 else none := by
  show [0].find? p = _
  rw [List.find?_cons]
  cases h : p 0 <;> simp
theorem sa_see {m : Mine} {x y : Wh} (hx : validB m x = true) (hy : validB m y = true) {tag : Int} (ht : tag = 8 ∨ tag = 3) (l : List Int) (a c : Int) :
    seeBel m ⟨[saW x y]⟩ tag l a c = (⟨[if tag = 8 then saW (seeF m x l a c).1 y else saW x (seeF m y l a c).1]⟩, if (if tag = 8 then seeF m x l a c else seeF m y l a c).2 = 42 then 0 else (if tag = 8 then seeF m x l a c else seeF m y l a c).2) := by
  unfold seeBel
  rw [sa_borne hx hy ht, if_neg (by simp)]
  have e : nth [saW x y] 0 = saW x y := rfl
  have key : ∀ (z : Wh) (p : Wh → World), seeW m tag l a c (saW x y) = seeF m z l a c → (∀ w, putW tag (saW x y) w = p w) → p z = saW x y →
      (match (List.range [saW x y].length).find? (seeBad m tag l a c [saW x y]) with
        | some i => ((⟨[saW x y]⟩ : Bel), (seeW m tag l a c (nth [saW x y] i)).2)
        | none => if (seeNb m tag l a c [saW x y] [saW x y].length).length = 0 then (⟨[saW x y]⟩, 43) else (⟨seeNb m tag l a c [saW x y] [saW x y].length⟩, 0)) =
      (⟨[p (seeF m z l a c).1]⟩, if (seeF m z l a c).2 = 42 then 0 else (seeF m z l a c).2) := by
    intro z p hz hp hpz
    obtain ⟨h1, h2⟩ := seeF_code m z l a c
    simp only [List.length_singleton, find1, seeBad, seeNb, e, hz, stepW, hp]
    generalize seeF m z l a c = r at *
    obtain ⟨w, q⟩ := r
    simp only at *
    rcases h1 with rfl | rfl | rfl | rfl | rfl
    · simp
    · rw [h2 (by omega), hpz]; simp [e, hz]
    · rw [h2 (by omega), hpz]; simp [e, hz]
    · rw [h2 (by omega), hpz]; simp [e, hz]
    · rw [h2 (by omega), hpz]; simp [e, hz]
  rcases ht with rfl | rfl
  · rw [if_pos rfl, if_pos rfl]
    exact key x (fun w => saW w y) rfl (fun w => rfl) rfl
  · simp only [show ((3 : Int) = 8) = False from by simp, if_false]
    exact key y (fun w => saW x w) rfl (fun w => rfl) rfl
theorem sa_abs {m : Mine} {x y : Wh} (hx : validB m x = true) (hy : validB m y = true) {tag : Int} (ht : tag = 8 ∨ tag = 3) (l : List Int) (a c bl : Int) :
    (absBel m ⟨[saW x y]⟩ tag l a c bl).1 = ⟨[if tag = 8 then saW (absF m x l a c bl).1 y else saW x (absF m y l a c bl).1]⟩ := by
  unfold absBel
  rw [sa_borne hx hy ht, if_neg (by simp)]
  have e : nth [saW x y] 0 = saW x y := rfl
  have key : ∀ (z : Wh) (p : Wh → World), absW m tag l a c bl (saW x y) = absF m z l a c bl → (∀ w, putW tag (saW x y) w = p w) → p z = saW x y →
      (match (List.range [saW x y].length).find? (absBad m tag l a c bl [saW x y]) with
        | some i => ((⟨[saW x y]⟩ : Bel), (absW m tag l a c bl (nth [saW x y] i)).2)
        | none => (⟨absNb m tag l a c bl [saW x y] [saW x y].length⟩, 0)).1 = ⟨[p (absF m z l a c bl).1]⟩ := by
    intro z p hz hp hpz
    have h2 := absF_code m z l a c bl
    simp only [List.length_singleton, find1, absBad, absNb, e, hz, stepA, hp]
    generalize absF m z l a c bl = r at *
    obtain ⟨w, q⟩ := r
    simp only at *
    by_cases c0 : q = 0
    · subst c0; simp
    · rw [h2 c0, hpz]
      split
      · rfl
      · simp [c0]
  rcases ht with rfl | rfl
  · rw [if_pos rfl]
    exact key x (fun w => saW w y) rfl (fun w => rfl) rfl
  · simp only [show ((3 : Int) = 8) = False from by simp, if_false]
    exact key y (fun w => saW x w) rfl (fun w => rfl) rfl
end Go.Ev

namespace Go.Ev
open Go
variable [Lib] [Has1] [Has2] [Has3] [Has4] [Has5] [Has6] [Has7] [Has8] [Has9] [Has10] [Has11] [Has12] [Has13]
abbrev saV (mo v : Int) : List D := [.und, .und, .bp 0 0, .bp 1 0, .und, .bp 2 0, .und, .bp 3 0, .und, .bp 4 0, .und, I mo, I v, .und, .und, .und, .und, .und, .und, .und]
abbrev saH (e : Dice) (m : Mine) (x y : Wh) : Heap := [e.obj, .box (mineCells m), .box [.t (.sl [(saW x y).e])], .box [I x.time, .t (tL x.frm)], .box [I y.time, .t (tL y.frm)]]
theorem sa_round {d : Dice} (hd : d.light) {m : Mine} (hm : m.ok) (h1 : 1 ≤ m.places.length) {x y : Wh} (hx : validB m x = true) (hy : validB m y = true) (mo v : Int) (m1 : 0 ≤ mo) (m2 : mo ≤ 1000) (hv : 0 < v) (hv2 : v ≤ 100) :
    ∃ (e : Dice) (x' y' : Wh) (mo' : Int), roundC true [0, 1, 4, 6, 8, 10, 13, 14, 15, 16, 17, 18, 19] 5 (exS CALL K.law26_SwapsAlone_l1b ⟨saV mo v, saH d m x y⟩) = some ⟨saV mo' (v - 1), saH e m x' y'⟩ ∧ e.light ∧ validB m x' = true ∧ validB m y' = true ∧ 0 ≤ mo' ∧ mo' ≤ mo + 40 := by
  have np := hm.np
  obtain ⟨l, e1, so, l1, ll⟩ := some_x hd m.places.length (by omega)
  obtain ⟨a, e2, na, l2, a1, a2⟩ := next_x l1 60 (by omega) (by omega)
  obtain ⟨c, e3, nc, l3, c1, c2⟩ := next_x l2 60 (by omega) (by omega)
  obtain ⟨tag, e4, ot, l4, ht⟩ := of_x l3 [8, 3] (by simp) (by simp)
  obtain ⟨f, e5, on, l5⟩ := one_x l4 2 (by omega) (by omega)
  obtain ⟨q, e6, nq, l6, q1, q2⟩ := next_x l5 40 (by omega) (by omega)
  have ht : tag = 8 ∨ tag = 3 := by simpa using ht
  have vx := (validB_spec hx).1
  have vy := (validB_spec hy).1
  have bs : Bel.sz ⟨[saW x y]⟩ := by
    refine ⟨by simp, fun w hw => ?_⟩
    rw [List.mem_singleton.1 hw]
    refine ⟨by simp, by simp, fun z hz => ?_⟩
    simp only [List.mem_cons, List.not_mem_nil, or_false] at hz
    rcases hz with rfl | rfl <;> omega
  cases f with
  | true =>
    have sb := swSee_ok hm h1 ⟨[saW x y]⟩ bs tag l (by omega) (mo + a) (mo + a + c)
    rw [sa_see hx hy ht] at sb
    have gx := see_ok hm x (by omega) l (by omega) (mo + a) (mo + a + c)
    have gy := see_ok hm y (by omega) l (by omega) (mo + a) (mo + a + c)
    obtain ⟨kx, ix⟩ := seeF_code m x l (mo + a) (mo + a + c)
    obtain ⟨ky, iy⟩ := seeF_code m y l (mo + a) (mo + a + c)
    have wx := see_valid hm hx l (mo + a) (mo + a + c)
    have wy := see_valid hm hy l (mo + a) (mo + a + c)
    rcases ht with rfl | rfl
    · refine ⟨e6, (seeF m x l (mo + a) (mo + a + c)).1, y, mo + q, ?_, l6, wx, hy, by omega, by omega⟩
      have s1 := same25_ok (seeF m x l (mo + a) (mo + a + c)).1 (seeF m x l (mo + a) (mo + a + c)).1 (by have := (validB_spec wx).1; omega)
      have s2 := same25_ok y y (by omega)
      rw [decide_eq_true ⟨rfl, rfl⟩] at s1 s2
      simp only [if_true] at sb
      clear hx hy wx wy ky iy gy bs
      by_cases c0 : (seeF m x l (mo + a) (mo + a + c)).2 = 0
      · rw [c0] at sb gx
        generalize seeF m x l (mo + a) (mo + a + c) = r at *
        obtain ⟨⟨t1, f1⟩, e0⟩ := r
        obtain ⟨tx, fx⟩ := x
        obtain ⟨ty, fy⟩ := y
        obtain ⟨places, roads⟩ := m
        simp only [mineCells, saV, saH, Bel.e, saW, World.e, Wh.e, Mine.e, tL, List.map_cons, List.map_nil, show ((0 : Int) = 42) = False from by simp, if_false] at *
        simp (disch := omega) only [go_sem, K.law26_SwapsAlone_l1b, ↓reduceIte, so, na, nc, ot, on, nq, sb, gx, s1, s2, hv, Bool.false_eq_true, Nat.reduceAdd, Nat.reduceSub]
      · have i := ix c0
        generalize seeF m x l (mo + a) (mo + a + c) = r at *
        obtain ⟨r1, e0⟩ := r
        simp only at i c0 kx
        subst i
        obtain ⟨tx, fx⟩ := r1
        obtain ⟨ty, fy⟩ := y
        obtain ⟨places, roads⟩ := m
        simp only [mineCells, saV, saH, Bel.e, saW, World.e, Wh.e, Mine.e, tL, List.map_cons, List.map_nil] at *
        by_cases c42 : e0 = 42
        · subst c42
          simp only [if_true] at sb
          simp (disch := omega) only [go_sem, K.law26_SwapsAlone_l1b, ↓reduceIte, so, na, nc, ot, on, nq, sb, gx, s1, s2, hv, Bool.false_eq_true, Nat.reduceAdd, Nat.reduceSub]
        · rw [if_neg c42] at sb
          simp (disch := omega) only [go_sem, K.law26_SwapsAlone_l1b, ↓reduceIte, so, na, nc, ot, on, nq, sb, gx, s1, s2, hv, c0, Bool.false_eq_true, Nat.reduceAdd, Nat.reduceSub]
    · refine ⟨e6, x, (seeF m y l (mo + a) (mo + a + c)).1, mo + q, ?_, l6, hx, wy, by omega, by omega⟩
      have s1 := same25_ok x x (by omega)
      have s2 := same25_ok (seeF m y l (mo + a) (mo + a + c)).1 (seeF m y l (mo + a) (mo + a + c)).1 (by have := (validB_spec wy).1; omega)
      rw [decide_eq_true ⟨rfl, rfl⟩] at s1 s2
      simp only [show ((3 : Int) = 8) = False from by simp, if_false] at sb
      clear hx hy wx wy kx ix gx bs
      by_cases c0 : (seeF m y l (mo + a) (mo + a + c)).2 = 0
      · rw [c0] at sb gy
        generalize seeF m y l (mo + a) (mo + a + c) = r at *
        obtain ⟨⟨t1, f1⟩, e0⟩ := r
        obtain ⟨tx, fx⟩ := x
        obtain ⟨ty, fy⟩ := y
        obtain ⟨places, roads⟩ := m
        simp only [mineCells, saV, saH, Bel.e, saW, World.e, Wh.e, Mine.e, tL, List.map_cons, List.map_nil, show ((0 : Int) = 42) = False from by simp, if_false] at *
        simp (disch := omega) only [go_sem, K.law26_SwapsAlone_l1b, ↓reduceIte, so, na, nc, ot, on, nq, sb, gy, s1, s2, hv, Bool.false_eq_true, Nat.reduceAdd, Nat.reduceSub]
      · have i := iy c0
        generalize seeF m y l (mo + a) (mo + a + c) = r at *
        obtain ⟨r1, e0⟩ := r
        simp only at i c0 ky
        subst i
        obtain ⟨tx, fx⟩ := x
        obtain ⟨ty, fy⟩ := r1
        obtain ⟨places, roads⟩ := m
        simp only [mineCells, saV, saH, Bel.e, saW, World.e, Wh.e, Mine.e, tL, List.map_cons, List.map_nil] at *
        by_cases c42 : e0 = 42
        · subst c42
          simp only [if_true] at sb
          simp (disch := omega) only [go_sem, K.law26_SwapsAlone_l1b, ↓reduceIte, so, na, nc, ot, on, nq, sb, gy, s1, s2, hv, Bool.false_eq_true, Nat.reduceAdd, Nat.reduceSub]
        · rw [if_neg c42] at sb
          simp (disch := omega) only [go_sem, K.law26_SwapsAlone_l1b, ↓reduceIte, so, na, nc, ot, on, nq, sb, gy, s1, s2, hv, c0, Bool.false_eq_true, Nat.reduceAdd, Nat.reduceSub]
  | false =>
    have sb := swAbsent_ok hm h1 ⟨[saW x y]⟩ bs tag l (by omega) (mo + a) (mo + a + c) 20
    rw [sa_abs hx hy ht] at sb
    generalize (absBel m ⟨[saW x y]⟩ tag l (mo + a) (mo + a + c) 20).2 = ee at *
    have gx := abs_ok hm x (by omega) l (by omega) (mo + a) (mo + a + c) 20
    have gy := abs_ok hm y (by omega) l (by omega) (mo + a) (mo + a + c) 20
    have wx := abs_valid hm hx l (mo + a) (mo + a + c) 20
    have wy := abs_valid hm hy l (mo + a) (mo + a + c) 20
    rcases ht with rfl | rfl
    · refine ⟨e6, (absF m x l (mo + a) (mo + a + c) 20).1, y, mo + q, ?_, l6, wx, hy, by omega, by omega⟩
      have s1 := same25_ok (absF m x l (mo + a) (mo + a + c) 20).1 (absF m x l (mo + a) (mo + a + c) 20).1 (by have := (validB_spec wx).1; omega)
      have s2 := same25_ok y y (by omega)
      rw [decide_eq_true ⟨rfl, rfl⟩] at s1 s2
      simp only [if_true] at sb
      clear hx hy wx wy gy bs
      generalize absF m x l (mo + a) (mo + a + c) 20 = r at *
      obtain ⟨⟨t1, f1⟩, e0⟩ := r
      obtain ⟨tx, fx⟩ := x
      obtain ⟨ty, fy⟩ := y
      obtain ⟨places, roads⟩ := m
      simp only [mineCells, saV, saH, Bel.e, saW, World.e, Wh.e, Mine.e, tL, List.map_cons, List.map_nil] at *
      simp (disch := omega) only [go_sem, K.law26_SwapsAlone_l1b, ↓reduceIte, so, na, nc, ot, on, nq, sb, gx, s1, s2, hv, Bool.false_eq_true, Nat.reduceAdd, Nat.reduceSub]
    · refine ⟨e6, x, (absF m y l (mo + a) (mo + a + c) 20).1, mo + q, ?_, l6, hx, wy, by omega, by omega⟩
      have s1 := same25_ok x x (by omega)
      have s2 := same25_ok (absF m y l (mo + a) (mo + a + c) 20).1 (absF m y l (mo + a) (mo + a + c) 20).1 (by have := (validB_spec wy).1; omega)
      rw [decide_eq_true ⟨rfl, rfl⟩] at s1 s2
      simp only [show ((3 : Int) = 8) = False from by simp, if_false] at sb
      clear hx hy wx wy gx bs
      generalize absF m y l (mo + a) (mo + a + c) 20 = r at *
      obtain ⟨⟨t1, f1⟩, e0⟩ := r
      obtain ⟨tx, fx⟩ := x
      obtain ⟨ty, fy⟩ := y
      obtain ⟨places, roads⟩ := m
      simp only [mineCells, saV, saH, Bel.e, saW, World.e, Wh.e, Mine.e, tL, List.map_cons, List.map_nil] at *
      simp (disch := omega) only [go_sem, K.law26_SwapsAlone_l1b, ↓reduceIte, so, na, nc, ot, on, nq, sb, gy, s1, s2, hv, Bool.false_eq_true, Nat.reduceAdd, Nat.reduceSub]
def saP (m : Mine) (n : Nat) (j : Nat) (st : St) : Prop :=
  ∃ (e : Dice) (x y : Wh) (mo : Int), st = ⟨saV mo ((n : Int) - j), saH e m x y⟩ ∧ e.light ∧ validB m x = true ∧ validB m y = true ∧ 0 ≤ mo ∧ mo ≤ 20 + 40 * j
theorem sa_loop {e0 : Dice} (l0 : e0.light) {m : Mine} (hm : m.ok) (h1 : 1 ≤ m.places.length) {x y : Wh} (hx : validB m x = true) (hy : validB m y = true) (n : Nat) (hn : n ≤ 10) :
    ∃ (e : Dice) (x' y' : Wh) (mo : Int), ∀ z0 z1 z4 z6 z8 z10 z13 z14 z15 z16 z17 z18 z19 : D,
    exS CALL K.law26_SwapsAlone_l1 ⟨[z0, z1, .bp 0 0, .bp 1 0, z4, .bp 2 0, z6, .bp 3 0, z8, .bp 4 0, z10, I 20, I n, z13, z14, z15, z16, z17, z18, z19], saH e0 m x y⟩ = some (.exit 0, ⟨saV mo 0, saH e m x' y'⟩) := by
  have key : ∀ z0 z1 z4 z6 z8 z10 z13 z14 z15 z16 z17 z18 z19 : D, ∃ r, exS CALL K.law26_SwapsAlone_l1 ⟨[z0, z1, .bp 0 0, .bp 1 0, z4, .bp 2 0, z6, .bp 3 0, z8, .bp 4 0, z10, I 20, I n, z13, z14, z15, z16, z17, z18, z19], saH e0 m x y⟩ = some r ∧
      ∃ (e : Dice) (x' y' : Wh) (mo : Int), r = (.exit 0, ⟨saV mo 0, saH e m x' y'⟩) := by
    intro z0 z1 z4 z6 z8 z10 z13 z14 z15 z16 z17 z18 z19
    refine loop_x (saP m n) n _ ?_ ?_ ?_
    · refine ⟨e0, x, y, 20, ?_, l0, hx, hy, by omega, by omega⟩
      simp only [saV, Int.natCast_zero, Int.sub_zero]; rfl
    · rintro j s hj ⟨e, x, y, mo, rfl, l1, vx, vy, m1, m2⟩
      obtain ⟨e', x', y', mo', r1, l2, vx', vy', m3, m4⟩ := sa_round l1 hm h1 vx vy mo ((n : Int) - j) m1 (by omega) (by omega) (by omega)
      refine .inl ⟨_, r1, e', x', y', mo', ?_, l2, vx', vy', m3, by omega⟩
      rw [show (n : Int) - ((j + 1 : Nat) : Int) = (n : Int) - j - 1 by omega]
    · rintro s ⟨e, x, y, mo, rfl, l1, vx, vy, m1, m2⟩
      refine ⟨(.exit 0, ⟨saV mo 0, saH e m x y⟩), ?_, by simp, e, x, y, mo, rfl⟩
      simp only [saV, saH, Int.sub_self]
      simp (disch := omega) only [go_sem, K.law26_SwapsAlone_l1b, ↓reduceIte, Nat.reduceAdd, Nat.reduceSub]
  obtain ⟨r, hr, e, x', y', mo, rfl⟩ := key .und .und .und .und .und .und .und .und .und .und .und .und .und
  exact ⟨e, x', y', mo, fun z0 z1 z4 z6 z8 z10 z13 z14 z15 z16 z17 z18 z19 => by
    rw [← hr]
    show loopC true _ _ ⟨dropV _ _, _⟩ = loopC true _ _ ⟨dropV _ _, _⟩
    simp (disch := omega) only [go_sem, Nat.reduceAdd, Nat.reduceSub]⟩
theorem sa_start {m : Mine} (hm : m.ok) {p q : Int} (p0 : 0 ≤ p) (p1 : p < m.places.length) (q0 : 0 ≤ q) (q1 : q < m.places.length) :
    startBel m [8, 3] [p, q] 20 = (⟨[saW (startF m p 20).1 (startF m q 20).1]⟩, 0) := by
  have t : inT 20 := by unfold inT; omega
  have a := (start_valid hm p0 p1 t).1
  have b := (start_valid hm q0 q1 t).1
  have pr : properB [8, 3] = true := by decide
  have n0 : nth [p, q] 0 = p := rfl
  have n1 : nth [p, q] 1 = q := rfl
  have a2 : (startF m p 20).2 = 0 := by rw [a]
  have b2 : (startF m q 20).2 = 0 := by rw [b]
  have rg : List.range 2 = [0, 1] := rfl
  unfold startBel
  simp only [List.length_cons, List.length_nil, Nat.reduceAdd, pr, if_true, rg, startWs, List.map_cons, List.map_nil, n0, n1, List.find?_cons, List.find?_nil, a2, b2, decide_true, Bool.not_true]
  simp
theorem SwapsAlone_law (aw : CALL 0 N.law26_awake [] [] = some (B true, [])) (li : List Int) : CALL 0 N.law26_SwapsAlone [.t (tL li)] [] = some (B true, []) := by
  refine CALL_of K.t_law26_SwapsAlone rfl ?_
  have lo := light_ok li
  by_cases c : li.length ≤ 400
  · simp only [c, decide_true] at lo
    have ro := roll_x li
    have d0 : (Dice.mk li 0).light := c
    generalize (Dice.mk li 0) = d at *
    obtain ⟨m, e1, mo, l1, hm, p1, p2, r1, r2⟩ := mine_x d0
    obtain ⟨p, e2, np, l2, q1, q2⟩ := next_x l1 m.places.length (by omega) (by omega)
    obtain ⟨q, e3, nq, l3, q3, q4⟩ := next_x l2 m.places.length (by omega) (by omega)
    obtain ⟨n, e4, nx, l4, n1, n2⟩ := next_x l3 8 (by omega) (by omega)
    obtain ⟨n, rfl⟩ := Int.eq_ofNat_of_zero_le n1
    have sb := sStart_ok hm (by omega) [8, 3] [p, q] (by simp) 20
    rw [sa_start hm q1 q2 q3 q4] at sb
    have t : inT 20 := by unfold inT; omega
    obtain ⟨ea, va⟩ := start_valid hm q1 q2 t
    obtain ⟨eb, vb⟩ := start_valid hm q3 q4 t
    have ga := start_ok hm p 20
    have gb := start_ok hm q 20
    have fa : (startF m p 20).2 = 0 := by rw [ea]
    have fb : (startF m q 20).2 = 0 := by rw [eb]
    rw [fa] at ga
    rw [fb] at gb
    clear ea eb fa fb
    generalize (startF m p 20).1 = x at *
    generalize (startF m q 20).1 = y at *
    obtain ⟨e5, x', y', mo', lp⟩ := sa_loop l4 hm (by omega) va vb n (by omega)
    clear va vb
    obtain ⟨tx, fx⟩ := x
    obtain ⟨ty, fy⟩ := y
    obtain ⟨places, roads⟩ := m
    simp only [mineCells, saV, saH, Bel.e, saW, World.e, Wh.e, Mine.e, tL, List.map_cons, List.map_nil] at *
    simp (disch := omega) only [go_sem, K.law26_SwapsAlone, ↓reduceIte, lo, ro, mo, np, nq, sb, ga, gb, nx, lp, aw, Nat.reduceAdd, Nat.reduceSub]
  · simp only [c, decide_false] at lo
    simp (disch := omega) only [go_sem, K.law26_SwapsAlone, ↓reduceIte, lo, aw, Nat.reduceAdd, Nat.reduceSub]
end Go.Ev

