/- Parts of the proof: see the text that holds the theorem. -/
import Derived.Test.YtddpkhnllojfpaaGreatZ5
set_option linter.all false
namespace Go.Ev
open Go
variable [Lib] [Has1] [Has2] [Has6] [Has7] [Has8] [Has9]
theorem halfF_eq {m : Mine} (h : m.ok) (t : Int) (into : Option (List Int)) {k : Nat} (hk : k < m.roads.length) (back : Bool) (l : List Int) :
    halfF m t into k back l = if 0 ≤ walkT m k back 6 9 12 ∧ nth l ((nth m.roads k).src back).toNat < 1099511627776 ∧ fallC into l ((nth m.roads k).dst back).toNat (max (nth l ((nth m.roads k).src back).toNat + walkT m k back 6 9 12) t) = true
      then (l.set ((nth m.roads k).dst back).toNat (max (nth l ((nth m.roads k).src back).toNat + walkT m k back 6 9 12) t), true) else (l, false) := by
  have r2 := Road.dst_ok (h.rs _ (nth_mem hk)) back
  unfold halfF fallC lowerF lowerC
  have e : (((nth m.roads k).dst back).toNat : Int) = (nth m.roads k).dst back := by omega
  rw [e]
  generalize (nth m.roads k).dst back = d at *
  generalize ((nth m.roads k).src back).toNat = s at *
  generalize walkT m k back 6 9 12 = v at *
  rw [Int.max_comm t]
  generalize max (nth l s + v) t = x at *
  cases inOK into d with
  | false => simp
  | true =>
    simp only [↓reduceIte, Bool.and_true, Bool.and_eq_true, decide_eq_true_eq]
    by_cases c : ((0 ≤ v ∧ nth l s < 1099511627776) ∧ x ≤ 2147483648) ∧ x < nth l d.toNat
    · obtain ⟨⟨⟨c1, c2⟩, c3⟩, c4⟩ := c
      simp [c1, c2, c3, c4]
    · have c' : ¬ (0 ≤ v ∧ nth l s < 1099511627776 ∧ x ≤ 2147483648 ∧ x < nth l d.toNat) := fun h => c ⟨⟨⟨h.1, h.2.1⟩, h.2.2.1⟩, h.2.2.2⟩
      rw [if_neg c, if_neg c']
      simp only [Prod.mk.injEq, true_and]
      have : (decide (0 ≤ v) && decide (nth l s < 1099511627776) && decide (x ≤ 2147483648) && decide (x < nth l d.toNat)) = false := by
        rw [Bool.eq_false_iff]; intro h; simp only [Bool.and_eq_true, decide_eq_true_eq] at h; exact c h
      exact this
abbrev lowF : D := .fn N.places_lowered_1 [.bp 1 0, .bp 2 0, .bp 3 0, .bp 4 0]
abbrev arrH (into : Option (List Int)) (t : Int) (s : List Int × Bool) : Heap := arr1 s.1 :: .box [I t] :: .box [.ref 0 0 s.1.length] :: .box [smD into] :: .box [B s.2] :: smE into
abbrev roadC (x : Road) : List D := [I x.frm, I x.to, I x.len, I x.area, B x.walk, B x.closed, I x.restL, I x.restH, I x.liftL, I x.liftH]
theorem half_round {m : Mine} (h : m.ok) (t : Int) (ht : 0 ≤ t) (ht2 : t ≤ 1000000000000) (into : Option (List Int)) (hi : ∀ s, into = some s → s.length ≤ 64) (l : List Int) (hl : l.length = m.places.length) (hb : bnd l) (ch : Bool) {k : Nat} (hk : k < m.roads.length) (back : Bool) :
    roundC true [0, 6, 7, 8, 9] (arrH into t (l, ch) ++ [Obj.box (mineCells m), Obj.box (roadC (nth m.roads k))]).length (exS CALL K.places_arrivals_l2b ⟨[.und, .ref 0 0 l.length, lowF, .bp (smK into) 0, I k, .bp (smK into + 1) 0, .und, .und, .und, .und, .t (.sl (m.roads.map Road.e)), I m.roads.length, I k, .t (.agg [.bool false, .bool true]), I (if back then 1 else 0 : Nat)], arrH into t (l, ch) ++ [.box (mineCells m), .box (roadC (nth m.roads k))]⟩) =
      some ⟨[.und, .ref 0 0 l.length, lowF, .bp (smK into) 0, I k, .bp (smK into + 1) 0, .und, .und, .und, .und, .t (.sl (m.roads.map Road.e)), I m.roads.length, I k, .t (.agg [.bool false, .bool true]), I ((if back then 1 else 0 : Nat) + 1)], arrH into t ((halfF m t into k back l).1, ch || (halfF m t into k back l).2) ++ [.box (mineCells m), .box (roadC (nth m.roads k))]⟩ := by
  have np := h.np
  have nr := h.nr
  have ok := h.rs _ (nth_mem hk)
  have r1 := Road.src_ok ok back
  have r2 := Road.dst_ok ok back
  have wt := wtime_ok h k hk back
  have wl := walkT_lo h k hk back
  have b1 := hb _ (nth_mem (l := l) (j := ((nth m.roads k).src back).toNat) (by omega))
  have lo := low1_ok into hi l (by omega) hb ((nth m.roads k).src back) ((nth m.roads k).dst back).toNat (by omega) (nth l ((nth m.roads k).src back).toNat + walkT m k back 6 9 12) t ch
  have e : (((nth m.roads k).dst back).toNat : Int) = (nth m.roads k).dst back := by omega
  rw [e] at lo
  rw [halfF_eq h t into hk back l]
  have ls : ∀ x, (l.set ((nth m.roads k).dst back).toNat x).length = l.length := fun x => List.length_set ..
  generalize walkT m k back 6 9 12 = v at *
  generalize hx : nth m.roads k = x at *
  clear hx ok
  obtain ⟨frm, to, len, area, walk, closed, rl, rh, ll, lh⟩ := x
  obtain ⟨places, roads⟩ := m
  simp only at hl np nr hk
  have h01 : (1 : Int) = 0 + 1 := rfl
  by_cases c1 : 0 ≤ v
  · by_cases c2 : nth l ((Road.mk frm to len area walk closed rl rh ll lh).src back).toNat < 1099511627776
    · cases c3 : fallC into l ((Road.mk frm to len area walk closed rl rh ll lh).dst back).toNat (max (nth l ((Road.mk frm to len area walk closed rl rh ll lh).src back).toNat + v) t) <;>
      cases back <;> simp only [Road.src, Road.dst, Bool.false_eq_true, ↓reduceIte] at * <;> simp only [c1, c2, c3, and_true, true_and, and_self, and_false, Bool.false_eq_true, ↓reduceIte] at lo ⊢ <;>
      cases into <;> simp only [smE, smD, smK, mineCells, roadC, arrH, List.cons_append, List.nil_append] at * <;>
      simp (disch := omega) only [go_sem, K.places_arrivals_l2b, ↓reduceIte, wt, lo, c1, c2, ls, Bool.or_true, Bool.or_false, Nat.reduceAdd, Nat.reduceSub]
    · cases back <;> simp only [Road.src, Road.dst, Bool.false_eq_true, ↓reduceIte] at * <;> simp only [c1, c2, false_and, and_false, ↓reduceIte] <;>
      cases into <;> simp only [smE, smD, smK, mineCells, roadC, arrH, List.cons_append, List.nil_append] at * <;>
      simp (disch := omega) only [go_sem, K.places_arrivals_l2b, ↓reduceIte, wt, c1, c2, Bool.or_false, Nat.reduceAdd, Nat.reduceSub]
  · cases back <;> simp only [Road.src, Road.dst, Bool.false_eq_true, ↓reduceIte] at * <;> simp only [c1, false_and, ↓reduceIte] <;>
    cases into <;> simp only [smE, smD, smK, mineCells, roadC, arrH, List.cons_append, List.nil_append] at * <;>
    simp (disch := omega) only [go_sem, K.places_arrivals_l2b, ↓reduceIte, wt, c1, Bool.or_false, Nat.reduceAdd, Nat.reduceSub]
end Go.Ev

namespace Go.Ev
open Go
variable [Lib] [Has1] [Has2] [Has6] [Has7] [Has8] [Has9]
theorem arr_road {m : Mine} (h : m.ok) (t : Int) (ht : 0 ≤ t) (ht2 : t ≤ 1000000000000) (into : Option (List Int)) (hi : ∀ s, into = some s → s.length ≤ 64) (l : List Int) (hl : l.length = m.places.length) (hb : bnd l) (ch : Bool) {k : Nat} (hk : k < m.roads.length) :
    roundC true [0, 4, 5, 6, 7, 8, 9, 13, 14] (arrH into t (l, ch) ++ [Obj.box (mineCells m)]).length (exS CALL K.places_arrivals_l1b ⟨[.und, .ref 0 0 l.length, lowF, .bp (smK into) 0, .und, .und, .und, .und, .und, .und, .t (.sl (m.roads.map Road.e)), I m.roads.length, I k, .und, .und], arrH into t (l, ch) ++ [.box (mineCells m)]⟩) =
      some ⟨[.und, .ref 0 0 (stepF m t into k (l, ch)).1.length, lowF, .bp (smK into) 0, .und, .und, .und, .und, .und, .und, .t (.sl (m.roads.map Road.e)), I m.roads.length, I (k + 1), .und, .und], arrH into t (stepF m t into k (l, ch)) ++ [.box (mineCells m)]⟩ := by
  have nr := h.nr
  have g : (m.roads.map Road.e)[k]? = some (nth m.roads k).e := map_nth _ hk
  have h1 := half_round h t ht ht2 into hi l hl hb ch hk false
  have l1 : (halfF m t into k false l).1.length = l.length := halfF_len ..
  have l2 : (halfF m t into k true (halfF m t into k false l).1).1.length = l.length := by rw [halfF_len, l1]
  have h2 := half_round h t ht ht2 into hi (halfF m t into k false l).1 (by omega) (halfF_bnd h hl hb hk false) (ch || (halfF m t into k false l).2) hk true
  have st : stepF m t into k (l, ch) = ((halfF m t into k true (halfF m t into k false l).1).1, ch || (halfF m t into k false l).2 || (halfF m t into k true (halfF m t into k false l).1).2) := rfl
  rw [st]
  simp only [l1, l2, Bool.false_eq_true, ↓reduceIte] at h1 h2 ⊢
  have inner : ∀ z0 z6 z7 z8 z9 : D, exS CALL K.places_arrivals_l2 ⟨[z0, .ref 0 0 l.length, lowF, .bp (smK into) 0, I k, .bp (smK into + 1) 0, z6, z7, z8, z9, .t (.sl (m.roads.map Road.e)), I m.roads.length, I k, .t (.agg [.bool false, .bool true]), I 0], arrH into t (l, ch) ++ [.box (mineCells m), .box (roadC (nth m.roads k))]⟩ =
      some (.exit 2, ⟨[.und, .ref 0 0 l.length, lowF, .bp (smK into) 0, I k, .bp (smK into + 1) 0, .und, .und, .und, .und, .t (.sl (m.roads.map Road.e)), I m.roads.length, I k, .t (.agg [.bool false, .bool true]), I 2],
        arrH into t ((halfF m t into k true (halfF m t into k false l).1).1, ch || (halfF m t into k false l).2 || (halfF m t into k true (halfF m t into k false l).1).2) ++ [.box (mineCells m), .box (roadC (nth m.roads k))]⟩) := by
    intro z0 z6 z7 z8 z9
    refine loop_up (fun j => ⟨[.und, .ref 0 0 l.length, lowF, .bp (smK into) 0, I k, .bp (smK into + 1) 0, .und, .und, .und, .und, .t (.sl (m.roads.map Road.e)), I m.roads.length, I k, .t (.agg [.bool false, .bool true]), I j],
      arrH into t (match j with | 0 => (l, ch) | 1 => ((halfF m t into k false l).1, ch || (halfF m t into k false l).2) | _ => ((halfF m t into k true (halfF m t into k false l).1).1, ch || (halfF m t into k false l).2 || (halfF m t into k true (halfF m t into k false l).1).2)) ++ [.box (mineCells m), .box (roadC (nth m.roads k))]⟩) 2 rfl ?_ ?_ (by simp)
    · intro j hj
      have hj2 : j = 0 ∨ j = 1 := by omega
      rcases hj2 with rfl | rfl
      · exact h1
      · exact h2
    · clear h1 h2
      cases into <;> simp only [smE, smD, smK, mineCells, roadC, arrH, List.cons_append, List.nil_append] <;>
      simp (disch := omega) only [go_sem, K.places_arrivals_l2b, ↓reduceIte, Nat.reduceAdd, Nat.reduceSub]
  clear h1 h2 st
  generalize halfF m t into k true (halfF m t into k false l).1 = b2 at *
  generalize halfF m t into k false l = b1 at *
  generalize hx : nth m.roads k = x at *
  clear hx
  obtain ⟨frm, to, len, area, walk, closed, rl, rh, ll, lh⟩ := x
  obtain ⟨places, roads⟩ := m
  simp only at nr hk
  cases into <;> simp only [smE, smD, smK, mineCells, roadC, arrH, List.cons_append, List.nil_append] at * <;>
  simp (disch := omega) only [go_sem, K.places_arrivals_l1b, ↓reduceIte, g, inner, l2, Nat.reduceAdd, Nat.reduceSub]
theorem arrivals_ok {m : Mine} (h : m.ok) (t : Int) (ht : 0 ≤ t) (ht2 : t ≤ 1000000000000) (into : Option (List Int)) (hi : ∀ s, into = some s → s.length ≤ 64) (l : List Int) (hl : l.length = m.places.length) (hb : bnd l) (ch : Bool) :
    CALL 0 N.places_arrivals [.t m.e, .ref 0 0 l.length, lowF] (arrH into t (l, ch)) = some (.tup [], arrH into t ((roundF m t into l).1, ch || (roundF m t into l).2)) := by
  refine CALL_of K.t_places_arrivals rfl ?_
  have nr := h.nr
  have ls := fun k => stepsF_len m t into l k
  have loop : ∀ z0 z4 z5 z6 z7 z8 z9 z13 z14 : D, exS CALL K.places_arrivals_l1 ⟨[z0, .ref 0 0 l.length, lowF, .bp (smK into) 0, z4, z5, z6, z7, z8, z9, .t (.sl (m.roads.map Road.e)), I m.roads.length, I 0, z13, z14], arrH into t (l, ch) ++ [.box (mineCells m)]⟩ =
      some (.exit 0, ⟨[.und, .ref 0 0 l.length, lowF, .bp (smK into) 0, .und, .und, .und, .und, .und, .und, .t (.sl (m.roads.map Road.e)), I m.roads.length, I m.roads.length, .und, .und], arrH into t ((roundF m t into l).1, ch || (roundF m t into l).2) ++ [.box (mineCells m)]⟩) := by
    intro z0 z4 z5 z6 z7 z8 z9 z13 z14
    refine loop_up (fun j => ⟨[.und, .ref 0 0 l.length, lowF, .bp (smK into) 0, .und, .und, .und, .und, .und, .und, .t (.sl (m.roads.map Road.e)), I m.roads.length, I j, .und, .und], arrH into t ((stepsF m t into l j).1, ch || (stepsF m t into l j).2) ++ [.box (mineCells m)]⟩) m.roads.length ?_ ?_ ?_ (by simp)
    · simp only [stepsF, Bool.or_false]; rfl
    · intro j hj
      have r := arr_road h t ht ht2 into hi (stepsF m t into l j).1 (by rw [ls, hl]) (stepsF_bnd h hl hb j (by omega)) (ch || (stepsF m t into l j).2) hj
      have e : stepF m t into j ((stepsF m t into l j).1, ch || (stepsF m t into l j).2) = ((stepsF m t into l (j + 1)).1, ch || (stepsF m t into l (j + 1)).2) := by
        simp only [stepsF, stepF, Bool.or_assoc]
      rw [e] at r
      simp only [ls] at r
      exact r
    · clear ls
      cases into <;> simp only [smE, smD, smK, mineCells, roadC, arrH, List.cons_append, List.nil_append] <;>
      simp (disch := omega) only [go_sem, K.places_arrivals_l1b, ↓reduceIte, roundF, Nat.reduceAdd, Nat.reduceSub]
  have l2 : (roundF m t into l).1.length = l.length := by unfold roundF; rw [ls]
  clear ls
  generalize roundF m t into l = r at *
  obtain ⟨r1, r2⟩ := r
  obtain ⟨places, roads⟩ := m
  simp only at nr hl l2
  cases into <;> simp only [smE, smD, smK, mineCells, roadC, arrH, List.cons_append, List.nil_append] at * <;>
  simp (disch := omega) only [go_sem, K.places_arrivals, ↓reduceIte, loop, l2, Nat.reduceAdd, Nat.reduceSub]
end Go.Ev

namespace Go.Ev
open Go
variable [Lib] [Has1] [Has2] [Has6] [Has7] [Has8] [Has9]
section
variable (a0 a1 a2 a3 a4 a5 x y : Obj) (ds : Heap)
theorem h5_get : (a0 :: a1 :: a2 :: a3 :: a4 :: (ds ++ [x]))[ds.length + 5]? = some x := by simp
theorem h5_set : (a0 :: a1 :: a2 :: a3 :: a4 :: (ds ++ [x])).set (ds.length + 5) y = a0 :: a1 :: a2 :: a3 :: a4 :: (ds ++ [y]) := by simp
theorem h6_get : (a0 :: a1 :: a2 :: a3 :: a4 :: a5 :: (ds ++ [x]))[ds.length + 6]? = some x := by simp
theorem h6_set : (a0 :: a1 :: a2 :: a3 :: a4 :: a5 :: (ds ++ [x])).set (ds.length + 6) y = a0 :: a1 :: a2 :: a3 :: a4 :: a5 :: (ds ++ [y]) := by simp
theorem h_get1 (u : Obj) : (ds ++ [u] ++ [x])[ds.length + 1]? = some x := by simp
theorem h5_set1 (u : Obj) : (a0 :: a1 :: a2 :: a3 :: a4 :: (ds ++ [u] ++ [x])).set (ds.length + 1 + 1 + 1 + 1 + 1 + 1) y = a0 :: a1 :: a2 :: a3 :: a4 :: (ds ++ [u] ++ [y]) := by simp
theorem h6_set1 (u : Obj) : (a0 :: a1 :: a2 :: a3 :: a4 :: a5 :: (ds ++ [u] ++ [x])).set (ds.length + 1 + 1 + 1 + 1 + 1 + 1 + 1) y = a0 :: a1 :: a2 :: a3 :: a4 :: a5 :: (ds ++ [u] ++ [y]) := by simp
theorem h_len : (ds ++ [x]).length = ds.length + 1 := by simp
end
@[go_sem] theorem eqB_self (n : Nat) : eqB n n = true := by
  induction n with
  | zero => rfl
  | succ n ih => exact ih
abbrev lowH (m : Mine) (into : Option (List Int)) (t : Int) (l : List Int) (ds : Heap) (c : Bool) : Heap := match into with
  | none => .box (mineCells m) :: .box [I t] :: .box [.fn N.places_all []] :: arr1 l :: .box [.ref 3 0 l.length] :: (ds ++ [.box [B c]])
  | some s => .box [.t (tL s)] :: .box (mineCells m) :: .box [I t] :: .box [.fn N.places_Absent_1 [.bp 0 0]] :: arr1 l :: .box [.ref 4 0 l.length] :: (ds ++ [.box [B c]])
abbrev lowS (m : Mine) (into : Option (List Int)) (t : Int) (l : List Int) (ds : Heap) (c : Bool) : St := match into with
  | none => ⟨[.und, .und, .und, .und, .bp 0 0, .bp 1 0, .bp 2 0, .und, .bp 4 0, .bp (ds.length + 5) 0, .und], lowH m none t l ds c⟩
  | some s => ⟨[.und, .und, .und, .und, .bp 1 0, .bp 2 0, .bp 3 0, .und, .bp 5 0, .bp (ds.length + 6) 0, .und], lowH m (some s) t l ds c⟩
theorem low_round {m : Mine} (h : m.ok) (t : Int) (ht : 0 ≤ t) (ht2 : t ≤ 1000000000000) (into : Option (List Int)) (hi : ∀ s, into = some s → s.length ≤ 64) (l : List Int) (hl : l.length = m.places.length) (hb : bnd l) (ds : Heap) (k : Nat) :
    roundC false [0, 1, 2, 3, 7, 10] k (exS CALL K.places_lowered_l1b (lowS m into t l ds true)) = some (lowS m into t (roundF m t into l).1 (ds ++ [.box [B (roundF m t into l).2]]) (roundF m t into l).2) := by
  have nr := h.nr
  have ar := arrivals_ok h t ht ht2 into hi l hl hb false
  have l2 : (roundF m t into l).1.length = l.length := by unfold roundF; rw [stepsF_len]
  cases into with
  | none =>
    generalize roundF m t none l = r at *
    obtain ⟨r1, r2⟩ := r
    obtain ⟨places, roads⟩ := m
    simp only [lowH, lowS, arrH, smE, smD, mineCells, Bool.false_or] at *
    simp (disch := omega) only [go_sem, K.places_lowered_l1b, ↓reduceIte, ar, h5_get, h5_set, h_len, l2, h_get1, h5_set1, Nat.reduceAdd, Nat.reduceSub]
  | some s =>
    generalize roundF m t (some s) l = r at *
    obtain ⟨r1, r2⟩ := r
    obtain ⟨places, roads⟩ := m
    simp only [lowH, lowS, arrH, smE, smD, mineCells, Bool.false_or] at *
    simp (disch := omega) only [go_sem, K.places_lowered_l1b, ↓reduceIte, ar, h6_get, h6_set, h_len, l2, h_get1, h6_set1, Nat.reduceAdd, Nat.reduceSub]
theorem low_exit (m : Mine) (into : Option (List Int)) (t : Int) (l : List Int) (ds : Heap) : exS CALL K.places_lowered_l1b (lowS m into t l ds false) = some (.exit 0, lowS m into t l ds false) := by
  obtain ⟨places, roads⟩ := m
  cases into with
  | none =>
    simp only [lowH, lowS, mineCells]
    simp (disch := omega) only [go_sem, K.places_lowered_l1b, ↓reduceIte, h5_get, Nat.reduceAdd, Nat.reduceSub]
  | some s =>
    simp only [lowH, lowS, mineCells]
    simp (disch := omega) only [go_sem, K.places_lowered_l1b, ↓reduceIte, h6_get, Nat.reduceAdd, Nat.reduceSub]
theorem low_loop {m : Mine} (h : m.ok) (t : Int) (ht : 0 ≤ t) (ht2 : t ≤ 1000000000000) (into : Option (List Int)) (hi : ∀ s, into = some s → s.length ≤ 64) : ∀ (n : Nat) (l : List Int) (ds : Heap), sumN l < n → l.length = m.places.length → bnd l →
    ∃ ds', loopC false [0, 1, 2, 3, 7, 10] (exS CALL K.places_lowered_l1b) (lowS m into t l ds true) = some (.exit 0, lowS m into t (closeN (roundF m t into) n l) ds' false)
  | 0, l, ds, hn, _, _ => absurd hn (by omega)
  | n + 1, l, ds, hn, hl, hb => by
    have r := low_round h t ht ht2 into hi l hl hb ds (lowS m into t l ds true).H.length
    have s := (stepsF_sum h (t := t) (into := into) hl hb m.roads.length (Nat.le_refl _)).1
    change (roundF m t into l).2 = true → sumN (roundF m t into l).1 < sumN l at s
    unfold closeN
    cases hc : (roundF m t into l).2 with
    | true =>
      rw [hc] at r
      obtain ⟨ds', h2⟩ := low_loop h t ht ht2 into hi n (roundF m t into l).1 _ (by have := s hc; omega) (by unfold roundF; rw [stepsF_len, hl]) (stepsF_bnd h hl hb _ (Nat.le_refl _))
      exact ⟨ds', loopC_step r h2⟩
    | false =>
      rw [hc] at r
      exact ⟨_, loopC_step r (loopC_exit (low_exit m into t _ _) (by simp))⟩
theorem lowered_ok {m : Mine} (h : m.ok) (t : Int) (ht : 0 ≤ t) (ht2 : t ≤ 1000000000000) (l : List Int) (hl : l.length = m.places.length) (hb : bnd l) :
    CALL 0 N.places_lowered [.t m.e, .t (tL l), I t, .fn N.places_all []] [] = some (.t (tL (closeF m t none l)), []) ∧
    ∀ s : List Int, s.length ≤ 64 → CALL 1 N.places_lowered [.t m.e, .t (tL l), I t, .fn N.places_Absent_1 [.bp 0 0]] [.box [.t (tL s)]] = some (.ref 1 0 l.length, [.box [.t (tL s)], arr1 (closeF m t (some s) l)]) := by
  have np := h.np
  have c1 := clone1_ok l (by omega)
  have ln : ∀ into, (closeF m t into l).length = l.length := by
    intro into
    have key : ∀ n l, (closeN (roundF m t into) n l).length = l.length := by
      intro n
      induction n with
      | zero => intro l; rfl
      | succ n ih =>
        intro l
        unfold closeN
        split
        · rw [ih]; unfold roundF; rw [stepsF_len]
        · unfold roundF; rw [stepsF_len]
    exact key _ _
  refine ⟨CALL_of K.t_places_lowered rfl ?_, fun s hs => CALL_of K.t_places_lowered rfl ?_⟩
  · obtain ⟨ds, lp⟩ := low_loop h t ht ht2 none (by simp) (sumN l + 1) l [] (Nat.lt_succ_self _) hl hb
    have ln := ln none
    have lp : ∀ z0 z1 z2 z3 z7 z10 : D, exS CALL K.places_lowered_l1 ⟨[z0, z1, z2, z3, .bp 0 0, .bp 1 0, .bp 2 0, z7, .bp 4 0, .bp 5 0, z10], [.box (mineCells m), .box [I t], .box [.fn N.places_all []], arr1 l, .box [.ref 3 0 l.length], .box [B true]]⟩ = some (.exit 0, lowS m none t (closeF m t none l) ds false) := fun z0 z1 z2 z3 z7 z10 => lp
    generalize closeF m t none l = r at *
    obtain ⟨places, roads⟩ := m
    simp only [lowH, lowS, mineCells] at *
    simp (disch := omega) only [go_sem, K.places_lowered, ↓reduceIte, c1, lp, ln, Nat.reduceAdd, Nat.reduceSub]
  · obtain ⟨ds, lp⟩ := low_loop h t ht ht2 (some s) (by intro s' h; cases h; exact hs) (sumN l + 1) l [] (Nat.lt_succ_self _) hl hb
    have l2 := ln (some s)
    clear ln
    have lp : ∀ z0 z1 z2 z3 z7 z10 : D, exS CALL K.places_lowered_l1 ⟨[z0, z1, z2, z3, .bp 1 0, .bp 2 0, .bp 3 0, z7, .bp 5 0, .bp 6 0, z10], [.box [.t (tL s)], .box (mineCells m), .box [I t], .box [.fn N.places_Absent_1 [.bp 0 0]], arr1 l, .box [.ref 4 0 l.length], .box [B true]]⟩ = some (.exit 0, lowS m (some s) t (closeF m t (some s) l) ds false) := fun z0 z1 z2 z3 z7 z10 => lp
    generalize closeF m t (some s) l = r at *
    obtain ⟨places, roads⟩ := m
    simp only [lowH, lowS, mineCells] at *
    simp (disch := omega) only [go_sem, K.places_lowered, ↓reduceIte, c1, lp, l2, Nat.reduceAdd, Nat.reduceSub]
end Go.Ev

namespace Go.Ev
open Go
variable [Lib] [Has1] [Has2] [Has3] [Has4] [Has6] [Has7] [Has8] [Has9]
theorem shaped1_ok (x : Int) : CALL 0 N.places_shaped_1 [I x] [] = some (B (!decide (plT x)), []) := by
  refine CALL_of K.t_places_shaped_1 rfl ?_
  have i := in_ok x 0 2147483648
  unfold plT inT
  by_cases c : x = 1099511627776
  · subst c
    simp (disch := omega) only [go_sem, K.places_shaped_1, ↓reduceIte, Nat.reduceAdd, Nat.reduceSub]
  · by_cases c2 : 0 ≤ x ∧ x ≤ 2147483648
    · simp only [c2, and_self, decide_true] at i
      simp (disch := omega) only [go_sem, K.places_shaped_1, ↓reduceIte, i, c, c2, false_or, and_self, decide_true, Nat.reduceAdd, Nat.reduceSub]
    · simp only [c2, decide_false] at i
      simp (disch := omega) only [go_sem, K.places_shaped_1, ↓reduceIte, i, c, c2, false_or, decide_false, Nat.reduceAdd, Nat.reduceSub]
theorem shaped_ok (m : Mine) (hm : m.places.length ≤ 1000000) (w : Wh) (hl : w.frm.length ≤ 1000000) : CALL 0 N.places_shaped [.t m.e, .t w.e] [] = some (B (plainB w m.places.length), []) := by
  refine CALL_of K.t_places_shaped rfl ?_
  have i := in_ok w.time 0 2147483648
  have cf : CALL 0 N.slices_ContainsFunc_int_int [.t (tL w.frm), .fn N.places_shaped_1 []] [] = some (B (w.frm.any fun x => !decide (plT x)), []) := containsFunc_ok w.frm (by omega) N.places_shaped_1 [] (fun x => !decide (plT x)) (fun x _ => shaped1_ok x)
  have e : plainB w m.places.length = (decide ((w.frm.length : Int) = m.places.length ∧ inT w.time) && !(w.frm.any fun x => !decide (plT x))) := by
    unfold plainB
    rw [all_rng, any_rng w.frm (fun x => !decide (plT x))]
  rw [e]
  unfold inT
  generalize (w.frm.any fun x => !decide (plT x)) = r at *
  obtain ⟨places, roads⟩ := m
  obtain ⟨time, frm⟩ := w
  simp only at *
  clear e
  by_cases c1 : (frm.length : Int) = places.length
  · by_cases c2 : 0 ≤ time ∧ time ≤ 2147483648
    · simp only [c2, and_self, decide_true] at i
      cases r <;> simp (disch := omega) only [go_sem, K.places_shaped, ↓reduceIte, i, cf, c1, c2, and_self, decide_true, Bool.true_and, Nat.reduceAdd, Nat.reduceSub]
    · simp only [c2, decide_false] at i
      simp (disch := omega) only [go_sem, K.places_shaped, ↓reduceIte, i, cf, c1, c2, and_false, decide_false, Bool.false_and, Nat.reduceAdd, Nat.reduceSub]
  · simp (disch := omega) only [go_sem, K.places_shaped, ↓reduceIte, c1, false_and, decide_false, Bool.false_and, Nat.reduceAdd, Nat.reduceSub]
theorem pvalid_ok {m : Mine} (h : m.ok) (w : Wh) (hl : w.frm.length ≤ 1000000) : CALL 0 N.places_Valid [.t m.e, .t w.e] [] = some (B (validB m w), []) := by
  refine CALL_of K.t_places_Valid rfl ?_
  have np := h.np
  have v := planValid_ok h
  have s := shaped_ok m (by omega) w hl
  unfold validB
  cases hp : plainB w m.places.length with
  | false =>
    rw [hp] at s
    obtain ⟨places, roads⟩ := m
    obtain ⟨time, frm⟩ := w
    simp only at *
    simp (disch := omega) only [go_sem, K.places_Valid, ↓reduceIte, v, s, Bool.false_and, Nat.reduceAdd, Nat.reduceSub]
  | true =>
    rw [hp] at s
    obtain ⟨p1, p2, p3⟩ := plainB_spec hp
    have hb : bnd w.frm := fun x hx => plT_bnd (p3 x hx)
    have lo := (lowered_ok h w.time (by unfold inT at p2; omega) (by unfold inT at p2; omega) w.frm (by omega) hb).1
    have ll := closeF_len h w.time p2 none (by simp) (l := w.frm) (by omega) hb
    have eq := equal_ok (closeF m w.time none w.frm) w.frm (by omega) (by omega)
    generalize closeF m w.time none w.frm = c at *
    obtain ⟨places, roads⟩ := m
    obtain ⟨time, frm⟩ := w
    simp only at *
    clear hb p3
    simp (disch := omega) only [go_sem, K.places_Valid, ↓reduceIte, v, s, lo, eq, Bool.true_and, Nat.reduceAdd, Nat.reduceSub]
end Go.Ev

namespace Go.Ev
open Go
variable [Lib] [Has1] [Has2] [Has3] [Has4] [Has5] [Has6] [Has7] [Has8] [Has9] [Has10] [Has11]
theorem find_first_some {n j : Nat} {p : Nat → Bool} (h1 : j < n) (h2 : p j = true) (h3 : ∀ k, k < j → p k = false) : (List.range n).find? p = some j := by
  cases hf : (List.range n).find? p with
  | none => exact absurd h2 (by simpa using List.find?_eq_none.1 hf j (List.mem_range.2 h1))
  | some k =>
    obtain ⟨k1, k2⟩ := find_lt hf
    have : k ≤ j := by
      rcases Nat.lt_or_ge j k with c | c
      · rw [List.find?_range_eq_some] at hf
        exact absurd h2 (by simpa using hf.2.2 j c)
      · exact c
    rcases Nat.lt_or_ge k j with c | c
    · rw [h3 k c] at k2; cases k2
    · rw [show k = j by omega]
theorem find_none_of {n : Nat} {p : Nat → Bool} (h : ∀ k, k < n → p k = false) : (List.range n).find? p = none := List.find?_eq_none.2 fun x hx => by rw [h x (List.mem_range.1 hx)]; simp
theorem cmpL_less (a b : List Int) : decide (cmpL a b < 0) = lessB a b := by
  unfold cmpL lessB
  cases hf : (List.range (min a.length b.length)).find? (fun j => decide (nth a j ≠ nth b j)) with
  | some j =>
    rw [List.find?_range_eq_some] at hf
    obtain ⟨h2, h1, h3⟩ := hf
    have h1 := List.mem_range.1 h1
    have e : (List.range a.length).find? (cmpP a b) = some j := find_first_some (by omega) (by simp only [cmpP, h2, Bool.or_true]) (fun k hk => by
      have := h3 k hk
      simp only [cmpP, Bool.or_eq_false_iff, decide_eq_false_iff_not]
      exact ⟨by omega, by simpa using this⟩)
    have h2 : nth a j ≠ nth b j := by simpa using h2
    rw [e]
    simp only [if_neg (by omega : ¬ b.length ≤ j)]
    rw [decide_eq_decide]
    unfold cmpI
    split
    · omega
    · split <;> omega
  | none =>
    have h3 : ∀ k, k < min a.length b.length → nth a k = nth b k := fun k hk => by
      have := List.find?_eq_none.1 hf k (List.mem_range.2 hk)
      simpa using this
    by_cases c : a.length ≤ b.length
    · have e : (List.range a.length).find? (cmpP a b) = none := find_none_of fun k hk => by
        simp only [cmpP, Bool.or_eq_false_iff, decide_eq_false_iff_not, Decidable.not_not]
        exact ⟨by omega, h3 k (by omega)⟩
      rw [e]
      simp only [decide_eq_decide]
      split <;> omega
    · have e : (List.range a.length).find? (cmpP a b) = some b.length := find_first_some (by omega) (by simp [cmpP]) (fun k hk => by
        simp only [cmpP, Bool.or_eq_false_iff, decide_eq_false_iff_not, Decidable.not_not]
        exact ⟨by omega, h3 k (by omega)⟩)
      rw [e]
      simp only [Nat.le_refl, if_true, decide_eq_decide]
      omega
def pwB (m : Mine) (ws : List World) (first : List Int) (i : Nat) : Bool :=
  decide (1 ≤ (nth ws i).tags.length ∧ (nth ws i).tags.length ≤ 12) && decide ((nth ws i).whr.length = (nth ws i).tags.length) && properB (nth ws i).tags && decide (sortI (nth ws i).tags = sortI first) && (decide (i = 0) || lessB (nth ws (i - 1)).tags (nth ws i).tags) && !((nth ws i).whr.any fun x => !validB m x)
def pbelB (m : Mine) (b : Bel) : Bool := decide (1 ≤ b.worlds.length ∧ b.worlds.length ≤ 24) && (List.range b.worlds.length).all (pwB m b.worlds (nth b.worlds 0).tags)
theorem sort_perm_eq {a b : List Int} : sortI a = sortI b ↔ a.Perm b := by
  constructor
  · intro h
    exact (sortI_perm a).symm.trans (h ▸ sortI_perm b)
  · intro h
    exact up_eq (sortI_up a) (sortI_up b) ((sortI_perm a).trans (h.trans (sortI_perm b).symm))
theorem nodup_sub_perm {a b : List Int} (ha : a.Nodup) (hb : b.Nodup) (hl : a.length = b.length) (hs : ∀ x ∈ a, x ∈ b) : a.Perm b := by
  have key : ∀ y ∈ b, y ∈ a := fun y hy => Decidable.byContradiction fun hn => by
    have := nodup_sub_len ha (l' := b.erase y) (fun x hx => (List.mem_erase_of_ne (fun e => hn (by rw [← e]; exact hx))).2 (hs x hx))
    rw [List.length_erase_of_mem hy] at this
    have := List.length_pos_of_mem hy
    omega
  exact (List.perm_ext_iff_of_nodup ha hb).2 fun x => ⟨hs x, key x⟩
theorem pbel_bel (m : Mine) (b : Bel) : pbelB m b = belB m b := by
  obtain ⟨ws⟩ := b
  rw [Bool.eq_iff_iff]
  constructor
  · intro h
    simp only [pbelB, Bool.and_eq_true, decide_eq_true_eq, List.all_eq_true, List.mem_range, pwB, Bool.or_eq_true, Bool.not_eq_true', List.any_eq_false, Bool.not_eq_false'] at h
    obtain ⟨⟨h1, h2⟩, h⟩ := h
    have h0 := h 0 (by omega)
    simp only [belB, Bool.and_eq_true, decide_eq_true_eq, List.all_eq_true, List.mem_range, worldB, Bool.or_eq_true, whoB]
    refine ⟨⟨⟨h1, h2⟩, h0.1.1.1.1.1⟩, fun i hi => ?_⟩
    obtain ⟨⟨⟨⟨⟨a1, a2⟩, a3⟩, a4⟩, a5⟩, a6⟩ := h i hi
    have pm := sort_perm_eq.1 a4
    refine ⟨⟨⟨⟨pm.length_eq, by rw [a2, pm.length_eq]⟩, a3⟩, a5⟩, fun k hk => ⟨?_, ?_⟩⟩
    · exact bearerF_mem.2 (pm.mem_iff.1 (nth_mem hk))
    · simpa using a6 _ (nth_mem (l := (nth ws i).whr) (j := k) (by omega))
  · intro h
    obtain ⟨h1, h2, h3, h4, h5⟩ := belB_spec h
    simp only at h1 h2 h3 h4 h5
    have p0 := (worldB_spec (h5 0 (by omega))).2.2.1
    simp only [pbelB, Bool.and_eq_true, decide_eq_true_eq, List.all_eq_true, List.mem_range, pwB, Bool.or_eq_true, Bool.not_eq_true', List.any_eq_false, Bool.not_eq_false']
    refine ⟨⟨h1, h2⟩, fun i hi => ?_⟩
    obtain ⟨w1, w2, w3, w4⟩ := worldB_spec (h5 i hi)
    have ls := h5 i hi
    simp only [worldB, Bool.and_eq_true, Bool.or_eq_true, decide_eq_true_eq] at ls
    refine ⟨⟨⟨⟨⟨by omega, by omega⟩, w3⟩, ?_⟩, ls.1.2⟩, fun x hx => ?_⟩
    · refine sort_perm_eq.2 (nodup_sub_perm (properB_nodup w3) (properB_nodup p0) w1 fun x hx => ?_)
      obtain ⟨j, hj⟩ := List.mem_iff_getElem?.1 hx
      have := (w4 j (List.getElem?_eq_some_iff.1 hj).1).1
      rwa [nth_eq hj] at this
    · obtain ⟨j, hj⟩ := List.mem_iff_getElem?.1 hx
      have := (w4 j (by rw [w1, ← w2]; exact (List.getElem?_eq_some_iff.1 hj).1)).2
      rw [nth_eq hj] at this
      simpa using this
theorem swValid1_ok {m : Mine} (h : m.ok) (x : Wh) (hx : x.frm.length ≤ 1000000) : CALL 0 N.swaps_Valid_1 [.t x.e, .bp 0 0] [.box (mineCells m)] = some (B (!validB m x), [.box (mineCells m)]) := by
  refine CALL_of K.t_swaps_Valid_1 rfl ?_
  have v := pvalid_ok h x hx
  obtain ⟨places, roads⟩ := m
  obtain ⟨time, frm⟩ := x
  simp only at *
  simp (disch := omega) only [go_sem, K.swaps_Valid_1, ↓reduceIte, v, Nat.reduceAdd, Nat.reduceSub]
abbrev swS (m : Mine) (ws : List World) (first : List Int) (i : Nat) : St :=
  ⟨[.und, .und, .bp 0 0, .bp 1 0, .und, .t (tL (sortI first)), .und, .und, .t (.sl (ws.map World.e)), I ws.length, I i], [.box (mineCells m), .box [.t (.sl (ws.map World.e))], .box [.t (tL first)]]⟩
theorem pw_step {m : Mine} (h : m.ok) (ws : List World) (first : List Int) (hf : first.length ≤ 1000000) (hs : ∀ x ∈ ws, x.sz) (i : Nat) (hi : i < ws.length) (hl : ws.length ≤ 1000000) :
    (pwB m ws first i = true → roundC true [0, 1, 4, 6, 7] 3 (exS CALL K.swaps_Valid_l1b (swS m ws first i)) = some (swS m ws first (i + 1))) ∧
    (pwB m ws first i = false → ∃ q, exS CALL K.swaps_Valid_l1b (swS m ws first i) = some q ∧ q.1 = .ret ∧ q.2.vs[4]? = some (B false)) := by
  simp only [swS]
  have sz := hs _ (nth_mem hi)
  have ex : (ws.map World.e)[i]? = some (nth ws i).e := map_nth _ hi
  unfold pwB
  have ey : 0 < i → (ws.map World.e)[i - 1]? = some (nth ws (i - 1)).e ∧ (nth ws (i - 1)).tags.length ≤ 1000000 := fun h0 => ⟨map_nth _ (by omega), (hs _ (nth_mem (by omega))).1⟩
  generalize nth ws (i - 1) = y at *
  generalize nth ws i = x at *
  obtain ⟨tags, whr⟩ := x
  obtain ⟨ptags, pwhr⟩ := y
  obtain ⟨s1, s2, s3⟩ := sz
  simp only at s1 s2 s3 ey ⊢
  have li := in_ok tags.length 1 12
  have tg := tagged_ok tags s1
  have va := values_ok tags
  have so := sorted_ok tags s1
  have eq := equal_ok (sortI tags) (sortI first) (by rw [sortI_len]; omega) (by rw [sortI_len]; omega)
  have cf := containsFuncH_ok whr (by omega) N.swaps_Valid_1 [[.sl (m.places.map Place.e), .sl (m.roads.map Road.e)]] (fun x => !validB m x) (fun x hx => swValid1_ok h x (s3 x hx))
  have cf : CALL 0 N.slices_ContainsFunc_api_Whereabouts_api_Whereabouts [.t (.sl (whr.map Wh.e)), .fn N.swaps_Valid_1 [.bp 0 0]] [.box (mineCells m)] = some (B (whr.any fun x => !validB m x), [.box (mineCells m)]) := cf
  have cp : 0 < i → CALL 0 N.slices_Compare_int_int [.t (tL ptags), .t (tL tags)] [] = some (I (cmpL ptags tags), []) := fun h0 => compare_ok ptags tags (ey h0).2 s1
  have cl := cmpL_less ptags tags
  generalize sortI tags = st at *
  generalize sortI first = sf at *
  generalize (whr.any fun x => !validB m x) = an at *
  generalize properB tags = pr at *
  generalize lessB ptags tags = le at *
  generalize cmpL ptags tags = cc at *
  clear hs s3
  by_cases c1 : 1 ≤ tags.length ∧ tags.length ≤ 12
  · have li : CALL 0 N.lists_In [I tags.length, I 1, I 12] [] = some (B true, []) := by rw [li, decide_eq_true (by omega)]
    by_cases c2 : whr.length = tags.length
    · cases pr with
      | false =>
        refine ⟨fun h => by simp at h, fun _ => ?_⟩
        simp (disch := omega) only [go_sem, K.swaps_Valid_l1b, ↓reduceIte, li, tg, ex, c2, Nat.reduceAdd, Nat.reduceSub]
        refine ⟨_, rfl, ?_, ?_⟩ <;> rfl
      | true =>
        by_cases c4 : st = sf
        · subst c4
          simp only [decide_true] at eq
          cases i with
          | zero =>
            cases an with
            | true =>
              refine ⟨fun h => by simp at h, fun _ => ?_⟩
              simp (disch := omega) only [go_sem, K.swaps_Valid_l1b, ↓reduceIte, li, tg, ex, c2, va, so, eq, cf, Nat.reduceAdd, Nat.reduceSub]
              refine ⟨_, rfl, ?_, ?_⟩ <;> rfl
            | false =>
              refine ⟨fun _ => ?_, fun h => by simp [c1, c2] at h⟩
              simp (disch := omega) only [go_sem, K.swaps_Valid_l1b, ↓reduceIte, li, tg, ex, c2, va, so, eq, cf, Nat.reduceAdd, Nat.reduceSub]
          | succ i =>
            obtain ⟨ey, -⟩ := ey (by omega)
            have cp := cp (by omega)
            simp only [Nat.add_sub_cancel] at ey
            cases le with
            | false =>
              have cl : ¬ cc < 0 := by simpa using cl
              refine ⟨fun h => by simp at h, fun _ => ?_⟩
              simp (disch := omega) only [go_sem, K.swaps_Valid_l1b, ↓reduceIte, li, tg, ex, c2, va, so, eq, ey, cp, Nat.reduceAdd, Nat.reduceSub]
              refine ⟨_, rfl, ?_, ?_⟩ <;> rfl
            | true =>
              have cl : cc < 0 := by simpa using cl
              cases an with
              | true =>
                refine ⟨fun h => by simp at h, fun _ => ?_⟩
                simp (disch := omega) only [go_sem, K.swaps_Valid_l1b, ↓reduceIte, li, tg, ex, c2, va, so, eq, ey, cp, cf, Nat.reduceAdd, Nat.reduceSub]
                refine ⟨_, rfl, ?_, ?_⟩ <;> rfl
              | false =>
                refine ⟨fun _ => ?_, fun h => by simp [c1, c2] at h⟩
                simp (disch := omega) only [go_sem, K.swaps_Valid_l1b, ↓reduceIte, li, tg, ex, c2, va, so, eq, ey, cp, cf, Nat.reduceAdd, Nat.reduceSub]
        · simp only [c4, decide_false] at eq
          refine ⟨fun h => by simp [c4] at h, fun _ => ?_⟩
          simp (disch := omega) only [go_sem, K.swaps_Valid_l1b, ↓reduceIte, li, tg, ex, c2, va, so, eq, Nat.reduceAdd, Nat.reduceSub]
          refine ⟨_, rfl, ?_, ?_⟩ <;> rfl
    · refine ⟨fun h => by simp [c2] at h, fun _ => ?_⟩
      simp (disch := omega) only [go_sem, K.swaps_Valid_l1b, ↓reduceIte, li, ex, c2, Nat.reduceAdd, Nat.reduceSub]
      refine ⟨_, rfl, ?_, ?_⟩ <;> rfl
  · have li : CALL 0 N.lists_In [I tags.length, I 1, I 12] [] = some (B false, []) := by rw [li, decide_eq_false (by omega)]
    refine ⟨fun h => by simp [c1] at h, fun _ => ?_⟩
    simp (disch := omega) only [go_sem, K.swaps_Valid_l1b, ↓reduceIte, li, ex, Nat.reduceAdd, Nat.reduceSub]
    refine ⟨_, rfl, ?_, ?_⟩ <;> rfl
end Go.Ev

namespace Go.Ev
open Go
variable [Lib] [Has1] [Has2]
theorem set_nthW {α : Type} [Dat α] (l : List α) (k : Nat) (hk : k < l.length) (x : α) (j : Nat) : nth (l.set k x) j = if j = k then x else nth l j := by
  unfold nth
  by_cases h : j = k
  · subst h; rw [if_pos rfl]; simp [hk]
  · rw [if_neg h]
    have : ¬ k = j := fun e => h e.symm
    simp [List.getElem?_set, this]
theorem ext_nthW {α : Type} [Dat α] {a b : List α} (h : a.length = b.length) (e : ∀ j, j < a.length → nth a j = nth b j) : a = b := by
  apply List.ext_getElem h
  intro j h1 h2
  have := e j h1
  rwa [nth_eq (List.getElem?_eq_getElem h1), nth_eq (List.getElem?_eq_getElem h2)] at this
def clW (m : Mine) (t : Int) (into : Option (List Int)) (y : List Int) : Prop := ∀ k, k < m.roads.length → ∀ back, inOK into ((nth m.roads k).dst back) = true → 0 ≤ walkT m k back 6 9 12 →
  nth y ((nth m.roads k).src back).toNat < 1099511627776 → max t (nth y ((nth m.roads k).src back).toNat + walkT m k back 6 9 12) ≤ 2147483648 →
  nth y ((nth m.roads k).dst back).toNat ≤ max t (nth y ((nth m.roads k).src back).toNat + walkT m k back 6 9 12)
theorem clW_mono {m : Mine} {t t' : Int} (ht : t ≤ t') {into : Option (List Int)} {y : List Int} (h : clW m t none y) : clW m t' into y := by
  intro k hk back _ h1 h2 h3
  have := h k hk back rfl h1 h2 (by omega)
  omega
theorem closeN_invW {α : Type} {f : α → α × Bool} (P : α → Prop) (hP : ∀ l, P l → P (f l).1) : ∀ n l, P l → P (closeN f n l)
  | 0, l, h => h
  | n + 1, l, h => by
    unfold closeN
    split
    · exact closeN_invW P hP n _ (hP l h)
    · exact hP l h
theorem closeN_fixW {α : Type} {f : α → α × Bool} (P : α → Prop) (mes : α → Nat) (hP : ∀ l, P l → P (f l).1 ∧ ((f l).2 = true → mes (f l).1 < mes l) ∧ ((f l).2 = false → (f l).1 = l)) : ∀ n l, P l → mes l < n → (f (closeN f n l)).2 = false ∧ P (closeN f n l)
  | 0, l, _, h => by omega
  | n + 1, l, hp, h => by
    obtain ⟨h1, h2, h3⟩ := hP l hp
    unfold closeN
    cases hf : (f l).2 with
    | true =>
      rw [if_pos rfl]
      have := h2 hf
      exact closeN_fixW P mes hP n _ h1 (by omega)
    | false =>
      rw [if_neg (by simp), h3 hf]
      exact ⟨hf, hp⟩
theorem halfF_is {m : Mine} (t : Int) (into : Option (List Int)) (k : Nat) (back : Bool) (l : List Int) :
    (inOK into ((nth m.roads k).dst back) = true ∧ 0 ≤ walkT m k back 6 9 12 ∧ nth l ((nth m.roads k).src back).toNat < 1099511627776 ∧ max t (nth l ((nth m.roads k).src back).toNat + walkT m k back 6 9 12) ≤ 2147483648 ∧
      max t (nth l ((nth m.roads k).src back).toNat + walkT m k back 6 9 12) < nth l ((nth m.roads k).dst back).toNat ∧
      halfF m t into k back l = (l.set ((nth m.roads k).dst back).toNat (max t (nth l ((nth m.roads k).src back).toNat + walkT m k back 6 9 12)), true)) ∨
    (halfF m t into k back l = (l, false) ∧ ¬ (inOK into ((nth m.roads k).dst back) = true ∧ 0 ≤ walkT m k back 6 9 12 ∧ nth l ((nth m.roads k).src back).toNat < 1099511627776 ∧ max t (nth l ((nth m.roads k).src back).toNat + walkT m k back 6 9 12) ≤ 2147483648 ∧
      max t (nth l ((nth m.roads k).src back).toNat + walkT m k back 6 9 12) < nth l ((nth m.roads k).dst back).toNat)) := by
  unfold halfF lowerF lowerC
  cases inOK into ((nth m.roads k).dst back) with
  | false => right; simp
  | true =>
    simp only [↓reduceIte, true_and, Bool.and_eq_true, decide_eq_true_eq]
    by_cases c : ((0 ≤ walkT m k back 6 9 12 ∧ nth l ((nth m.roads k).src back).toNat < 1099511627776) ∧ max t (nth l ((nth m.roads k).src back).toNat + walkT m k back 6 9 12) ≤ 2147483648) ∧ max t (nth l ((nth m.roads k).src back).toNat + walkT m k back 6 9 12) < nth l ((nth m.roads k).dst back).toNat
    · left
      refine ⟨c.1.1.1, c.1.1.2, c.1.2, c.2, ?_⟩
      rw [if_pos c]
      simp [c.1.1.1, c.1.1.2, c.1.2, c.2]
    · right
      refine ⟨?_, fun h => c ⟨⟨⟨h.1, h.2.1⟩, h.2.2.1⟩, h.2.2.2⟩⟩
      rw [if_neg c]
      simp only [Prod.mk.injEq, true_and]
      rw [Bool.eq_false_iff]; intro h; simp only [Bool.and_eq_true, decide_eq_true_eq] at h; exact c h
section
variable {m : Mine} (h : m.ok) {t : Int} {into : Option (List Int)}
include h
theorem stepsF_inv (P : List Int → Prop) (hP : ∀ l, l.length = m.places.length → bnd l → P l → ∀ k, k < m.roads.length → ∀ back, P (halfF m t into k back l).1) {l : List Int} (hl : l.length = m.places.length) (hb : bnd l) (hp : P l) : ∀ k, k ≤ m.roads.length → P (stepsF m t into l k).1
  | 0, _ => hp
  | k + 1, hk => by
    have ih := stepsF_inv P hP hl hb hp k (by omega)
    have b1 := stepsF_bnd h (t := t) (into := into) hl hb k (by omega)
    have l1 : (stepsF m t into l k).1.length = m.places.length := by rw [stepsF_len, hl]
    simp only [stepsF, stepF]
    exact hP _ (by rw [halfF_len, l1]) (halfF_bnd h l1 b1 (by omega) false) (hP _ l1 b1 ih k (by omega) false) k (by omega) true
theorem closeF_inv (P : List Int → Prop) (hP : ∀ l, l.length = m.places.length → bnd l → P l → ∀ k, k < m.roads.length → ∀ back, P (halfF m t into k back l).1) {l : List Int} (hl : l.length = m.places.length) (hb : bnd l) (hp : P l) : P (closeF m t into l) :=
  (closeN_invW (f := roundF m t into) (fun l => (l.length = m.places.length ∧ bnd l) ∧ P l) (fun l hl => ⟨⟨by unfold roundF; rw [stepsF_len]; exact hl.1.1, stepsF_bnd h hl.1.1 hl.1.2 _ (Nat.le_refl _)⟩, stepsF_inv h P hP hl.1.1 hl.1.2 hl.2 _ (Nat.le_refl _)⟩) _ l ⟨⟨hl, hb⟩, hp⟩).2
theorem closeF_lb {l : List Int} (hl : l.length = m.places.length) (hb : bnd l) : (closeF m t into l).length = m.places.length ∧ bnd (closeF m t into l) :=
  (closeN_invW (f := roundF m t into) (fun l => (l.length = m.places.length ∧ bnd l)) (fun l hl => ⟨by unfold roundF; rw [stepsF_len]; exact hl.1, stepsF_bnd h hl.1 hl.2 _ (Nat.le_refl _)⟩) _ l ⟨hl, hb⟩)
theorem closeF_le {l : List Int} (hl : l.length = m.places.length) (hb : bnd l) (j : Nat) : nth (closeF m t into l) j ≤ nth l j :=
  closeF_inv h (fun l' => nth l' j ≤ nth l j) (fun l' hl' hb' hp k hk back => by
    have r2 := Road.dst_ok (h.rs _ (nth_mem hk)) back
    rcases halfF_is (m := m) t into k back l' with ⟨_, _, _, _, c, e⟩ | ⟨e, _⟩
    · rw [e]; simp only
      rw [set_nthW _ _ (by omega)]
      split
      · rename_i hj; rw [hj] at hp; rw [hj]; omega
      · exact hp
    · rw [e]; exact hp) hl hb (Int.le_refl _)
theorem closeF_ge {y l : List Int} (hy : clW m t into y) (hl : l.length = m.places.length) (hb : bnd l) (hle : ∀ j, nth y j ≤ nth l j) : ∀ j, nth y j ≤ nth (closeF m t into l) j :=
  closeF_inv h (fun l' => ∀ j, nth y j ≤ nth l' j) (fun l' hl' hb' hp k hk back => by
    have r2 := Road.dst_ok (h.rs _ (nth_mem hk)) back
    rcases halfF_is (m := m) t into k back l' with ⟨c1, c2, c3, c4, c5, e⟩ | ⟨e, _⟩
    · rw [e]; simp only
      intro j
      rw [set_nthW _ _ (by omega)]
      split
      · rename_i hj
        have := hp ((nth m.roads k).src back).toNat
        have := hy k hk back c1 c2 (by omega) (by omega)
        rw [hj]; omega
      · exact hp j
    · rw [e]; exact hp) hl hb hle
theorem stepsF_no {l : List Int} (hl : l.length = m.places.length) (hb : bnd l) : ∀ k, k ≤ m.roads.length → (stepsF m t into l k).2 = false → ∀ i, i < k → ∀ back, (halfF m t into i back l).2 = false
  | 0, _, _, i, hi, _ => by omega
  | k + 1, hk, hf, i, hi, back => by
    have e := (stepsF_sum h (t := t) (into := into) hl hb k (by omega)).2
    have ih := stepsF_no hl hb k (by omega)
    simp only [stepsF, stepF, Bool.or_eq_false_iff] at hf
    obtain ⟨⟨f1, f2⟩, f3⟩ := hf
    have e := e f1
    rw [e] at f2 f3
    have e2 := (halfF_sum h (t := t) (into := into) hl hb (k := k) (by omega) false).2 f2
    rw [e2] at f3
    by_cases c : i < k
    · exact ih f1 i c back
    · have : i = k := by omega
      subst this
      cases back
      · exact f2
      · exact f3
theorem closeF_cl {l : List Int} (hl : l.length = m.places.length) (hb : bnd l) : clW m t into (closeF m t into l) := by
  obtain ⟨h1, h2, h3⟩ := closeN_fixW (f := roundF m t into) (fun l => l.length = m.places.length ∧ bnd l) sumN (fun l ⟨hl, hb⟩ => ⟨⟨by unfold roundF; rw [stepsF_len]; exact hl, stepsF_bnd h hl hb _ (Nat.le_refl _)⟩, stepsF_sum h hl hb _ (Nat.le_refl _)⟩) (sumN l + 1) l ⟨hl, hb⟩ (Nat.lt_succ_self _)
  intro k hk back c1 c2 c3 c4
  have no := stepsF_no h (t := t) (into := into) h2 h3 m.roads.length (Nat.le_refl _) h1 k hk back
  change (halfF m t into k back (closeF m t into l)).2 = false at no
  rcases halfF_is (m := m) t into k back (closeF m t into l) with ⟨_, _, _, _, _, e⟩ | ⟨_, e⟩
  · rw [e] at no; cases no
  · exact Classical.byContradiction fun hc => e ⟨c1, c2, c3, c4, by omega⟩
theorem closeF_id {l : List Int} (hl : l.length = m.places.length) (hb : bnd l) (hc : clW m t into l) : closeF m t into l = l := by
  apply ext_nthW (by rw [(closeF_lb h hl hb).1, hl])
  intro j hj
  exact Int.le_antisymm (closeF_le h hl hb j) (closeF_ge h hc hl hb (fun _ => Int.le_refl _) j)
theorem closeF_mem (P : Int → Prop) {l : List Int} (hl : l.length = m.places.length) (hb : bnd l) (hp : ∀ x ∈ l, P x) (ht : ∀ x, t ≤ x → x ≤ 2147483648 → P x) : ∀ x ∈ closeF m t into l, P x :=
  closeF_inv h (fun l' => ∀ x ∈ l', P x) (fun l' hl' hb' hp k hk back => by
    rcases halfF_is (m := m) t into k back l' with ⟨c1, c2, c3, c4, c5, e⟩ | ⟨e, _⟩
    · rw [e]
      intro x hx
      rcases List.mem_or_eq_of_mem_set hx with hx | hx
      · exact hp x hx
      · subst hx; exact ht _ (by omega) c4
    · rw [e]; exact hp) hl hb hp
end
theorem validB_of {m : Mine} (h : m.ok) {w : Wh} (hl : w.frm.length = m.places.length) (ht : inT w.time) (hp : ∀ x ∈ w.frm, plT x) (hc : clW m w.time none w.frm) : validB m w = true := by
  have hb : bnd w.frm := fun x hx => plT_bnd (hp x hx)
  simp only [validB, plainB, Bool.and_eq_true, decide_eq_true_eq, List.all_eq_true, List.mem_range]
  exact ⟨⟨⟨by omega, ht⟩, fun j hj => hp _ (nth_mem hj)⟩, closeF_id h hl hb hc⟩
theorem validB_cl {m : Mine} (h : m.ok) {w : Wh} (hv : validB m w = true) : clW m w.time none w.frm := by
  obtain ⟨v1, v2, v3, v4⟩ := validB_spec hv
  have := closeF_cl h (t := w.time) (into := none) v1 (fun x hx => plT_bnd (v3 x hx))
  rwa [v4] at this
theorem close_valid {m : Mine} (h : m.ok) {l : List Int} (hl : l.length = m.places.length) (hp : ∀ x ∈ l, plT x) {a b : Int} (ha : 0 ≤ a) (hab : a ≤ b) (hb : inT b) : validB m ⟨b, closeF m a none l⟩ = true := by
  have bn : bnd l := fun x hx => plT_bnd (hp x hx)
  exact validB_of h (closeF_lb h hl bn).1 hb (closeF_mem h plT hl bn hp (fun x h1 h2 => .inr ⟨by omega, h2⟩)) (clW_mono hab (closeF_cl h hl bn))
theorem neverL_pl (n : Nat) : ∀ x ∈ neverL n, plT x := fun x hx => by rw [List.eq_of_mem_replicate hx]; exact .inl rfl
theorem start_valid {m : Mine} (h : m.ok) {p t : Int} (h0 : 0 ≤ p) (h1 : p < m.places.length) (ht : inT t) : startF m p t = (⟨t, closeF m t none ((neverL m.places.length).set p.toNat t)⟩, 0) ∧ validB m (startF m p t).1 = true := by
  have e : startF m p t = (⟨t, closeF m t none ((neverL m.places.length).set p.toNat t)⟩, 0) := by
    unfold startF; rw [if_neg (by omega), if_pos ht]
  refine ⟨e, ?_⟩
  rw [e]
  refine close_valid h (by simp) (fun x hx => ?_) ht.1 (Int.le_refl _) ht
  rcases List.mem_or_eq_of_mem_set hx with hx | hx
  · exact neverL_pl _ x hx
  · subst hx; exact .inr ht
theorem seeN_nth {w : Wh} {l : List Int} {b : Int} {n : Nat} (hl : ∀ p ∈ l, 0 ≤ p ∧ p < n) : ∀ k, k ≤ l.length → ∀ j, j < n → nth (seeN w l b n k).1 j = if (j : Int) ∈ l.take k ∧ nth w.frm j ≤ b then nth w.frm j else 1099511627776
  | 0, _, j, hj => by
    rw [if_neg (by simp)]
    exact nth_eq (by simp [seeN, neverL, hj])
  | k + 1, hk, j, hj => by
    have ih := seeN_nth (w := w) (b := b) hl k (by omega) j hj
    have p := hl _ (nth_mem (l := l) (j := k) (by omega))
    rw [take_nth (by omega)]
    simp only [seeN, seeStep]
    by_cases e : (j : Int) = nth l k
    · have e2 : j = (nth l k).toNat := by omega
      by_cases c : nth w.frm (nth l k).toNat ≤ b
      · rw [if_pos c, set_nthW _ _ (by rw [seeN_len]; omega), if_pos e2, if_pos ⟨by simp [e], by rw [e2]; exact c⟩, e2]
      · rw [if_neg c, ih, if_neg (fun x => c (by rw [← e2]; exact x.2)), if_neg (fun x => c (by rw [← e2]; exact x.2))]
    · have e2 : ¬ j = (nth l k).toNat := by omega
      have mm : ((j : Int) ∈ l.take k ++ [nth l k]) ↔ (j : Int) ∈ l.take k := by simp [e]
      simp only [mm]
      rw [← ih]
      split
      · rw [set_nthW _ _ (by rw [seeN_len]; omega), if_neg e2]
      · rfl
end Go.Ev

namespace Go.Ev
open Go
variable [Lib] [Has1] [Has2] [Has8] [Has9]
theorem setB_memW {l : List Int} {n : Int} (h : setB l n = true) : ∀ x ∈ l, 0 ≤ x ∧ x < n := by
  intro x hx
  simp only [setB, List.all_eq_true, List.mem_range, decide_eq_true_eq] at h
  obtain ⟨j, hj⟩ := List.mem_iff_getElem?.1 hx
  have := h j (List.getElem?_eq_some_iff.1 hj).1
  rw [nth_eq hj] at this
  exact ⟨this.1, this.2.1⟩
theorem seeN_pl {w : Wh} {l : List Int} {b : Int} {n : Nat} (hl : ∀ p ∈ l, 0 ≤ p ∧ p < n) (hw : ∀ x ∈ w.frm, plT x) (hn : w.frm.length = n) : ∀ x ∈ (seeN w l b n l.length).1, plT x := by
  intro x hx
  obtain ⟨j, hj⟩ := List.mem_iff_getElem?.1 hx
  have jl := (List.getElem?_eq_some_iff.1 hj).1
  rw [seeN_len] at jl
  have e := seeN_nth (w := w) (b := b) hl _ (Nat.le_refl _) j jl
  rw [nth_eq hj] at e
  rw [e]
  split
  · exact hw _ (nth_mem (by omega))
  · exact .inl rfl
theorem see_cases {m : Mine} (h : m.ok) {w : Wh} (hv : validB m w = true) (l : List Int) (a b : Int) :
    (seeF m w l a b = (⟨b, closeF m a none (seeN w l b m.places.length l.length).1⟩, 0) ∧ askedF m w l a b = 0 ∧ w.time ≤ a ∧ (seeN w l b m.places.length l.length).2 = true ∧ validB m (seeF m w l a b).1 = true) ∨ ((seeF m w l a b).1 = w ∧ (seeF m w l a b).2 ≠ 0) := by
  by_cases c0 : askedF m w l a b = 0
  · obtain ⟨-, h0, hs, ia, ib, hab⟩ := askedF_0 c0
    by_cases c1 : a < w.time
    · right; unfold seeF; rw [if_neg (by simpa using c0), if_pos c1]; exact ⟨rfl, by simp⟩
    · cases c2 : (seeN w l b m.places.length l.length).2 with
      | false => right; unfold seeF; rw [if_neg (by simpa using c0), if_neg c1, if_neg (by simp [c2])]; exact ⟨rfl, by simp⟩
      | true =>
        left
        have e : seeF m w l a b = (⟨b, closeF m a none (seeN w l b m.places.length l.length).1⟩, 0) := by
          unfold seeF; rw [if_neg (by simpa using c0), if_neg c1, if_pos c2]
        obtain ⟨v1, v2, v3, -⟩ := validB_spec hv
        refine ⟨e, c0, by omega, rfl, ?_⟩
        rw [e]
        exact close_valid h (seeN_len ..) (seeN_pl (setB_memW hs) v3 v1) ia.1 hab ib
  · right; unfold seeF; rw [if_pos c0]; exact ⟨rfl, c0⟩
theorem see_valid {m : Mine} (h : m.ok) {w : Wh} (hv : validB m w = true) (l : List Int) (a b : Int) : validB m (seeF m w l a b).1 = true := by
  rcases see_cases h hv l a b with ⟨-, -, -, -, v⟩ | ⟨e, -⟩
  · exact v
  · rw [e]; exact hv
end Go.Ev

namespace Go.Ev
open Go
variable [Lib] [Has1] [Has2] [Has3] [Has4] [Has6] [Has7] [Has8] [Has9]
end Go.Ev

namespace Go.Ev
open Go
variable [Lib] [Has1] [Has2]
theorem mem_possF {s : Wh} {t : Int} {p : Int} : p ∈ possF s t ↔ 0 ≤ p ∧ p < s.frm.length ∧ nth s.frm p.toNat ≤ t := by
  unfold possF
  rw [mem_whereF]
  constructor
  · rintro ⟨k, rfl, h1, h2⟩
    exact ⟨by omega, by omega, by simpa using h2⟩
  · rintro ⟨h1, h2, h3⟩
    exact ⟨p.toNat, by omega, by omega, by simpa using h3⟩
theorem meetsB_iff {a b : List Int} : meetsB a b = true ↔ ∃ p, p ∈ a ∧ p ∈ b := by
  unfold meetsB; rw [List.any_eq_true]; simp
theorem meets_mono {s : Wh} {t t' : Int} (h : t ≤ t') {l : List Int} (hm : meetsB (possF s t) l = true) : meetsB (possF s t') l = true := by
  rw [meetsB_iff] at hm ⊢
  obtain ⟨p, h1, h2⟩ := hm
  rw [mem_possF] at h1
  exact ⟨p, mem_possF.2 ⟨h1.1, h1.2.1, by omega⟩, h2⟩
theorem cmd_2 {x : Mch} {s : Wh} {b : Bel} {t a : Int} : cmdF x s b t a = 2 ↔ meetsB (possF s t) x.pl = true := by
  unfold cmdF
  split
  · simp [*]
  · rename_i h
    constructor
    · intro e; split at e
      · simp at e
      · split at e <;> simp at e
    · intro e; exact absurd e h
theorem cmd_12 {x : Mch} {s : Wh} {b : Bel} {t a : Int} (ha : 0 ≤ a) : (cmdF x s b t a = 2 ∨ cmdF x s b t a = 1) ↔ meetsB (possF s (t + a)) x.pl = true := by
  constructor
  · rintro (h | h)
    · exact meets_mono (by omega) (cmd_2.1 h)
    · unfold cmdF at h
      split at h
      · simp at h
      · split at h
        · assumption
        · split at h <;> simp at h
  · intro h
    by_cases h2 : meetsB (possF s t) x.pl = true
    · exact .inl (cmd_2.2 h2)
    · right; unfold cmdF; rw [if_neg h2, if_pos h]
section
variable {m : Mine} (hm : m.ok) {N : Nat} {b : Bel} (hb : BOk m N b) {s : Wh} (hs : s.frm.length = m.places.length) {l : List Mch}
variable (hl : ∀ y ∈ l, y.pl.length ≤ m.places.length ∧ 1 ≤ y.pl.length ∧ ∀ x ∈ y.pl, 0 ≤ x ∧ x < m.places.length) {t a : Int} (t0 : 0 ≤ t) (t1 : t ≤ 10000) (a0 : 0 ≤ a) (a1 : a ≤ 10000) (d : Dice)
include hm hb hs hl t0 t1 a0 a1
omit hm hb t0 t1 a1 in
end
def Dice.skip (d : Dice) (n : Int) : Nat → Dice
  | 0 => d
  | k + 1 => ((d.skip n k).next n).2
end Go.Ev

namespace Go.Ev
open Go
variable [Lib] [Has1] [Has2] [Has5]
end Go.Ev

namespace Go.Ev
open Go
variable [Lib] [Has1] [Has2] [Has3] [Has4] [Has5] [Has6] [Has7] [Has8] [Has9]
end Go.Ev

namespace Go.Ev
open Go
variable [Lib] [Has1] [Has2] [Has3] [Has4] [Has5] [Has6] [Has7] [Has8] [Has9]
theorem minN_nth (a b : List Int) : ∀ n j, j < n → nth (minN a b n) j = min (nth a j) (nth b j)
  | 0, j, h => by omega
  | n + 1, j, h => by
    have ln := minN_len a b n
    by_cases e : j = n
    · subst e
      exact nth_eq (by simp only [minN]; rw [List.getElem?_append_right (by omega), ln]; simp)
    · have ih := minN_nth a b n j (by omega)
      rw [← ih]
      have : (minN a b n)[j]? = some (nth (minN a b n) j) := nth_some (by omega)
      exact nth_eq (by simp only [minN]; rw [List.getElem?_append_left (by omega)]; exact this)
theorem join_valid {m : Mine} (h : m.ok) {a b : Wh} (ha : validB m a = true) (hb : validB m b = true) : (joinF a b).2 = 0 ∧ validB m (joinF a b).1 = true ∧ (joinF a b).1.frm.length = m.places.length ∧ ∀ j, j < m.places.length → nth (joinF a b).1.frm j = min (nth a.frm j) (nth b.frm j) := by
  obtain ⟨a1, a2, a3, -⟩ := validB_spec ha
  obtain ⟨b1, b2, b3, -⟩ := validB_spec hb
  have ca := validB_cl h ha
  have cb := validB_cl h hb
  have e : joinF a b = (⟨max a.time b.time, minN a.frm b.frm a.frm.length⟩, 0) := by unfold joinF; rw [if_pos (by omega)]
  rw [e]
  have mn := fun j (hj : j < m.places.length) => minN_nth a.frm b.frm a.frm.length j (by omega)
  refine ⟨rfl, validB_of h (by simp only [minN_len]; exact a1) (by unfold inT at *; simp only; omega) (fun x hx => ?_) ?_, by simp only [minN_len]; exact a1, mn⟩
  · obtain ⟨j, hj⟩ := List.mem_iff_getElem?.1 hx
    have jl := (List.getElem?_eq_some_iff.1 hj).1
    simp only [minN_len] at jl
    have := mn j (by omega)
    rw [nth_eq hj] at this
    have x1 := a3 _ (nth_mem (l := a.frm) (j := j) jl)
    have x2 := b3 _ (nth_mem (l := b.frm) (j := j) (by omega))
    unfold plT inT at *
    omega
  · intro k hk back hi h1 h2 h3
    have r1 := Road.src_ok (h.rs _ (nth_mem hk)) back
    have r2 := Road.dst_ok (h.rs _ (nth_mem hk)) back
    simp only at h2 h3 ⊢
    rw [mn _ (by omega)] at h2 h3 ⊢
    rw [mn _ (by omega)]
    have y1 := ca k hk back rfl h1
    have y2 := cb k hk back rfl h1
    omega
end Go.Ev

namespace Go.Ev
open Go
variable [Lib] [Has1] [Has2] [Has3] [Has4] [Has5] [Has6] [Has7] [Has8] [Has9]
theorem abs_cases {m : Mine} (h : m.ok) {w : Wh} (hv : validB m w = true) (l : List Int) (a b bl : Int) :
    (absF m w l a b bl = (⟨b, closeF m b none (closeF m (b - bl) (some l) (absN w.frm l l.length))⟩, 0) ∧ askedF m w l a b = 0 ∧ w.time ≤ b ∧ max a w.time < b - bl ∧ inT bl ∧
      (closeF m (b - bl) (some l) (absN w.frm l l.length)).length = m.places.length ∧ (∀ x ∈ closeF m (b - bl) (some l) (absN w.frm l l.length), plT x)) ∨
    ((absF m w l a b bl).1 = w ∧ ((absF m w l a b bl).2 = 0 → w.time ≤ b ∧ askedF m w l a b = 0)) := by
  by_cases c0 : askedF m w l a b = 0
  · obtain ⟨-, h0, hs, ia, ib, hab⟩ := askedF_0 c0
    by_cases c1 : inT bl
    · by_cases c2 : b < w.time
      · right; unfold absF; rw [if_neg (by simpa using c0), if_neg (fun x => x c1), if_pos c2]; exact ⟨rfl, by simp⟩
      · by_cases c3 : b - max a w.time ≤ bl
        · right; unfold absF; rw [if_neg (by simpa using c0), if_neg (fun x => x c1), if_neg c2, if_pos c3]; exact ⟨rfl, fun _ => ⟨by omega, c0⟩⟩
        · left
          obtain ⟨v1, v2, v3, -⟩ := validB_spec hv
          have pl : ∀ x ∈ absN w.frm l l.length, plT x := by
            have key : ∀ k, ∀ x ∈ absN w.frm l k, plT x := by
              intro k
              induction k with
              | zero => exact v3
              | succ k ih =>
                intro x hx
                rcases List.mem_or_eq_of_mem_set hx with hx | hx
                · exact ih x hx
                · exact .inl hx
            exact key _
          have bn : bnd (absN w.frm l l.length) := fun x hx => plT_bnd (pl x hx)
          unfold inT at ia c1 v2 ib
          refine ⟨?_, c0, by omega, by omega, c1, (closeF_lb h (by rw [absN_len]; exact v1) bn).1, closeF_mem h plT (by rw [absN_len]; exact v1) bn pl (fun x h1 h2 => .inr ⟨by omega, h2⟩)⟩
          unfold absF; rw [if_neg (by simpa using c0), if_neg (fun x => x (by unfold inT; omega)), if_neg c2, if_neg c3]
    · right; unfold absF; rw [if_neg (by simpa using c0), if_pos c1]; exact ⟨rfl, by simp⟩
  · right; unfold absF; rw [if_pos c0]; exact ⟨rfl, fun h => absurd h c0⟩
theorem abs_valid {m : Mine} (h : m.ok) {w : Wh} (hv : validB m w = true) (l : List Int) (a b bl : Int) : validB m (absF m w l a b bl).1 = true := by
  rcases abs_cases h hv l a b bl with ⟨e, c0, -, hm, hbl, ln, pl⟩ | ⟨e, -⟩
  · obtain ⟨-, -, hs, ia, ib, hab⟩ := askedF_0 c0
    rw [e]
    exact close_valid h ln pl (by unfold inT at ib; omega) (Int.le_refl _) ib
  · rw [e]; exact hv
end Go.Ev

namespace Go.Ev
open Go
variable [Lib] [Has1] [Has2] [Has3] [Has4] [Has5] [Has6] [Has7] [Has8] [Has9] [Has10] [Has11]
def lexB : List Int → List Int → Bool
  | _, [] => false
  | [], _ :: _ => true
  | a :: r, b :: s => decide (a < b) || (decide (a = b) && lexB r s)
theorem nth_cons_succ (a : Int) (l : List Int) (j : Nat) : nth (a :: l) (j + 1) = nth l j := by simp [nth]
theorem nth_cons_zero (a : Int) (l : List Int) : nth (a :: l) 0 = a := by simp [nth]
theorem less_lex : ∀ a b : List Int, lessB a b = lexB a b
  | a, [] => by
    unfold lessB lexB
    simp
  | [], b :: s => by
    unfold lessB lexB
    simp
  | a :: r, b :: s => by
    have ih := less_lex r s
    unfold lessB at ih ⊢
    have e : min (a :: r).length (b :: s).length = min r.length s.length + 1 := by simp only [List.length_cons]; omega
    rw [e, List.range_succ_eq_map, List.find?_cons]
    simp only [nth_cons_zero]
    by_cases h : a = b
    · subst h
      simp only [ne_eq, not_true_eq_false, decide_false, Bool.false_eq_true, List.find?_map, lexB, decide_true, Bool.true_and, Int.lt_irrefl, Bool.false_or]
      rw [← ih]
      have : ((fun j => decide (¬nth (a :: r) j = nth (a :: s) j)) ∘ Nat.succ) = fun j => decide (nth r j ≠ nth s j) := by
        funext j
        simp only [Function.comp, Nat.succ_eq_add_one, nth_cons_succ, ne_eq]
      rw [this]
      cases (List.range (min r.length s.length)).find? (fun j => decide (nth r j ≠ nth s j)) with
      | some j => simp only [Option.map_some, Nat.succ_eq_add_one, nth_cons_succ]
      | none => simp only [Option.map_none, List.length_cons, Nat.add_lt_add_iff_right]
    · simp only [ne_eq, h, not_false_eq_true, decide_true, lexB, decide_false, Bool.false_and, Bool.or_false, nth_cons_zero]
theorem lex_trans : ∀ {a b c : List Int}, lexB a b = true → lexB b c = true → lexB a c = true
  | _, _, [], _, h => by simp [lexB] at h
  | [], _, _ :: _, _, _ => rfl
  | _ :: _, [], _, h, _ => by simp [lexB] at h
  | a :: r, b :: s, c :: t, h1, h2 => by
    simp only [lexB, Bool.or_eq_true, Bool.and_eq_true, decide_eq_true_eq] at h1 h2 ⊢
    rcases h1 with h1 | ⟨h1, k1⟩
    · rcases h2 with h2 | ⟨h2, k2⟩
      · left; omega
      · left; omega
    · rcases h2 with h2 | ⟨h2, k2⟩
      · left; omega
      · right; exact ⟨by omega, lex_trans k1 k2⟩
theorem lex_total : ∀ a b : List Int, lexB a b = true ∨ a = b ∨ lexB b a = true
  | [], [] => .inr (.inl rfl)
  | [], _ :: _ => .inl rfl
  | _ :: _, [] => .inr (.inr rfl)
  | a :: r, b :: s => by
    simp only [lexB, Bool.or_eq_true, Bool.and_eq_true, decide_eq_true_eq, List.cons.injEq]
    rcases lex_total r s with h | h | h
    · by_cases c : a < b
      · exact .inl (.inl c)
      · by_cases c2 : a = b
        · exact .inl (.inr ⟨c2, h⟩)
        · exact .inr (.inr (.inl (by omega)))
    · by_cases c : a < b
      · exact .inl (.inl c)
      · by_cases c2 : a = b
        · exact .inr (.inl ⟨c2, h⟩)
        · exact .inr (.inr (.inl (by omega)))
    · by_cases c : a < b
      · exact .inl (.inl c)
      · by_cases c2 : a = b
        · exact .inr (.inr (.inr ⟨c2.symm, h⟩))
        · exact .inr (.inr (.inl (by omega)))
structure WV (m : Mine) (first : List Int) (x : World) : Prop where
  pm : x.tags.Perm first
  wl : x.whr.length = first.length
  wv : ∀ w ∈ x.whr, validB m w = true
structure BV (m : Mine) (first : List Int) (ws : List World) : Prop where
  pr : properB first = true
  f1 : 1 ≤ first.length
  f2 : first.length ≤ 12
  wv : ∀ x ∈ ws, WV m first x
  up : ws.Pairwise fun x y => lexB x.tags y.tags = true
theorem proper_perm {a b : List Int} (h : a.Perm b) (hb : properB b = true) : properB a = true := by
  rw [properB_iff] at hb ⊢
  exact ⟨h.nodup_iff.2 hb.1, fun x hx => hb.2 x (h.mem_iff.1 hx)⟩
theorem BV.bel {m : Mine} {first : List Int} {ws : List World} (h : BV m first ws) (h1 : 1 ≤ ws.length) (h2 : ws.length ≤ 24) : belB m ⟨ws⟩ = true := by
  have w0 := h.wv _ (nth_mem (l := ws) (j := 0) (by omega))
  have l0 := w0.pm.length_eq
  simp only [belB, Bool.and_eq_true, decide_eq_true_eq, List.all_eq_true, List.mem_range, worldB, Bool.or_eq_true, whoB]
  have f1 := h.f1
  have f2 := h.f2
  refine ⟨⟨⟨h1, h2⟩, by omega⟩, fun i hi => ?_⟩
  have wi := h.wv _ (nth_mem (l := ws) (j := i) hi)
  have li := wi.pm.length_eq
  have wl := wi.wl
  refine ⟨⟨⟨by omega, proper_perm wi.pm h.pr⟩, ?_⟩, fun k hk => ⟨?_, ?_⟩⟩
  · by_cases c : i = 0
    · exact .inl c
    · right
      rw [less_lex]
      have := (List.pairwise_iff_getElem.1 h.up) (i - 1) i (by omega) hi (by omega)
      rwa [← nth_eq (List.getElem?_eq_getElem (by omega : i - 1 < ws.length)), ← nth_eq (List.getElem?_eq_getElem hi)] at this
  · exact bearerF_mem.2 (w0.pm.symm.mem_iff.1 (wi.pm.mem_iff.1 (nth_mem hk)))
  · exact wi.wv _ (nth_mem (by omega))
theorem bel_BV {m : Mine} {ws : List World} (h : belB m ⟨ws⟩ = true) : BV m (nth ws 0).tags ws := by
  obtain ⟨h1, h2, h3, h4, h5⟩ := belB_spec h
  simp only at h1 h2 h3 h4 h5
  have p0 := (worldB_spec (h5 0 (by omega))).2.2.1
  refine ⟨p0, h3, h4, fun x hx => ?_, ?_⟩
  · obtain ⟨i, hi⟩ := List.mem_iff_getElem?.1 hx
    have il := (List.getElem?_eq_some_iff.1 hi).1
    obtain ⟨w1, w2, w3, w4⟩ := worldB_spec (h5 i il)
    rw [nth_eq hi] at w1 w2 w3 w4
    refine ⟨nodup_sub_perm (properB_nodup w3) (properB_nodup p0) w1 fun y hy => ?_, w2, fun w hw => ?_⟩
    · obtain ⟨j, hj⟩ := List.mem_iff_getElem?.1 hy
      have := (w4 j (List.getElem?_eq_some_iff.1 hj).1).1
      rwa [nth_eq hj] at this
    · obtain ⟨j, hj⟩ := List.mem_iff_getElem?.1 hw
      have := (w4 j (by rw [w1, ← w2]; exact (List.getElem?_eq_some_iff.1 hj).1)).2
      rwa [nth_eq hj] at this
  · have key : ∀ d i, i + d + 1 < ws.length → lexB (nth ws i).tags (nth ws (i + d + 1)).tags = true := by
      intro d
      induction d with
      | zero =>
        intro i hi
        have := h5 (i + 1) hi
        simp only [worldB, Bool.and_eq_true, Bool.or_eq_true, decide_eq_true_eq] at this
        have := this.1.2
        rw [← less_lex]
        simpa using this
      | succ d ih =>
        intro i hi
        have a := ih i (by omega)
        have := h5 (i + (d + 1) + 1) hi
        simp only [worldB, Bool.and_eq_true, Bool.or_eq_true, decide_eq_true_eq] at this
        have b := this.1.2.resolve_left (by omega)
        rw [less_lex, show i + (d + 1) + 1 - 1 = i + d + 1 by omega] at b
        exact lex_trans a b
    rw [List.pairwise_iff_getElem]
    intro i j hi hj hij
    have := key (j - i - 1) i (by omega)
    rw [show i + (j - i - 1) + 1 = j by omega, nth_eq (List.getElem?_eq_getElem hi), nth_eq (List.getElem?_eq_getElem hj)] at this
    exact this
end Go.Ev

namespace Go.Ev
open Go
variable [Lib] [Has1] [Has2] [Has3] [Has4] [Has5] [Has6] [Has7] [Has8] [Has9]
end Go.Ev

namespace Go.Ev
open Go
variable [Lib] [Has1] [Has2] [Has3] [Has4] [Has5] [Has6] [Has7] [Has8] [Has9] [Has10] [Has11]
theorem swapL_perm {l : List Int} {i j : Nat} (hi : i < l.length) (hj : j < l.length) : (swapL l i j).Perm l := by
  have := Array.swap_perm (xs := l.toArray) (i := i) (j := j) (by simpa using hi) (by simpa using hj)
  rw [Array.perm_iff_toList_perm] at this
  unfold swapL
  rw [nth_eq (List.getElem?_eq_getElem hi), nth_eq (List.getElem?_eq_getElem hj)]
  simpa [Array.swap] using this
theorem set_valid {m : Mine} {l : List Wh} (hl : ∀ w ∈ l, validB m w = true) (i : Nat) {x : Wh} (hx : i < l.length → validB m x = true) : ∀ w ∈ l.set i x, validB m w = true := by
  intro w hw
  by_cases h : i < l.length
  · rcases List.mem_or_eq_of_mem_set hw with a | rfl
    · exact hl w a
    · exact hx h
  · rw [List.set_eq_of_length_le (by omega)] at hw; exact hl w hw
theorem raise_valid {m : Mine} (h : m.ok) {w : Wh} (hv : validB m w = true) (t : Int) : validB m (raiseF w t).1 = true := by
  unfold raiseF
  split
  · exact hv
  · obtain ⟨a, b, c, -⟩ := validB_spec hv
    have cl := validB_cl h hv
    unfold inT at b
    exact validB_of h a (by simp only; unfold inT; omega) c (clW_mono (t' := t) (by omega) cl)
theorem putW_WV {m : Mine} {first : List Int} {x : World} (h : WV m first x) (tag : Int) {w : Wh} (hw : (bearerF x.tags tag).toNat < x.whr.length → validB m w = true) : WV m first (putW tag x w) :=
  ⟨h.pm, by simp [putW, h.wl], set_valid h.wv _ hw⟩
def seeG (m : Mine) (tag : Int) (l : List Int) (a b : Int) (x : World) : Option World :=
  if (seeW m tag l a b x).2 = 43 then none else some (if (seeW m tag l a b x).2 = 0 then putW tag x (seeW m tag l a b x).1 else x)
theorem seeNb_is (m : Mine) (tag : Int) (l : List Int) (a b : Int) (ws : List World) : ∀ j, j ≤ ws.length → seeNb m tag l a b ws j = (ws.take j).filterMap (seeG m tag l a b)
  | 0, _ => by simp [seeNb]
  | j + 1, h => by
    rw [take_nth (by omega), List.filterMap_append]
    simp only [seeNb, seeNb_is m tag l a b ws j (by omega), stepW, seeG, List.filterMap_cons, List.filterMap_nil]
    split <;> simp_all
theorem absNb_is (m : Mine) (tag : Int) (l : List Int) (a b bl : Int) (ws : List World) : ∀ j, j ≤ ws.length → absNb m tag l a b bl ws j = (ws.take j).map fun x => if (absW m tag l a b bl x).2 = 0 then putW tag x (absW m tag l a b bl x).1 else x
  | 0, _ => by simp [absNb]
  | j + 1, h => by
    rw [take_nth (by omega), List.map_append]
    simp only [absNb, absNb_is m tag l a b bl ws j (by omega), stepA, List.map_cons, List.map_nil]
theorem seeG_WV {m : Mine} (hm : m.ok) {first : List Int} {tag : Int} {l : List Int} {a b : Int} {x y : World} (h : WV m first x) (e : seeG m tag l a b x = some y) : WV m first y ∧ y.tags = x.tags := by
  unfold seeG at e
  split at e
  · cases e
  · simp only [Option.some.injEq] at e
    subst e
    split
    · exact ⟨putW_WV h tag fun hl => see_valid hm (h.wv _ (nth_mem hl)) l a b, rfl⟩
    · exact ⟨h, rfl⟩
theorem see_BV {m : Mine} (hm : m.ok) {first : List Int} {ws : List World} (h : BV m first ws) (tag : Int) (l : List Int) (a b : Int) : BV m first (seeNb m tag l a b ws ws.length) := by
  rw [seeNb_is m tag l a b ws _ (Nat.le_refl _), List.take_length]
  refine ⟨h.pr, h.f1, h.f2, fun y hy => ?_, ?_⟩
  · obtain ⟨x, hx, e⟩ := List.mem_filterMap.1 hy
    exact (seeG_WV hm (h.wv x hx) e).1
  · rw [List.pairwise_filterMap]
    refine (List.Pairwise.imp_of_mem ?_ h.up)
    intro x y hx hy hxy x' ex y' ey
    rw [(seeG_WV hm (h.wv x hx) ex).2, (seeG_WV hm (h.wv y hy) ey).2]
    exact hxy
theorem abs_BV {m : Mine} (hm : m.ok) {first : List Int} {ws : List World} (h : BV m first ws) (tag : Int) (l : List Int) (a b bl : Int) : BV m first (absNb m tag l a b bl ws ws.length) := by
  rw [absNb_is m tag l a b bl ws _ (Nat.le_refl _), List.take_length]
  have tg : ∀ x : World, (if (absW m tag l a b bl x).2 = 0 then putW tag x (absW m tag l a b bl x).1 else x).tags = x.tags := by
    intro x; split <;> rfl
  refine ⟨h.pr, h.f1, h.f2, fun y hy => ?_, ?_⟩
  · obtain ⟨x, hx, rfl⟩ := List.mem_map.1 hy
    have wx := h.wv x hx
    split
    · exact putW_WV wx tag fun hl => abs_valid hm (wx.wv _ (nth_mem hl)) l a b bl
    · exact wx
  · rw [List.pairwise_map]
    refine h.up.imp fun {x y} hxy => ?_
    rw [tg, tg]; exact hxy
theorem exchW_WV {m : Mine} (hm : m.ok) {first : List Int} {x : World} (h : WV m first x) {i j : Nat} (hi : i < first.length) (hj : j < first.length) (t : Int) : WV m first (exchW i j t x) := by
  have wl := h.wl
  have tl := h.pm.length_eq
  refine ⟨(swapL_perm (by omega) (by omega)).trans h.pm, by simp [exchW, wl], ?_⟩
  exact set_valid (set_valid h.wv i fun hl => raise_valid hm (h.wv _ (nth_mem hl)) t) j fun hl => raise_valid hm (h.wv _ (nth_mem (by simpa using hl))) t
theorem exchNb_WV {m : Mine} (hm : m.ok) {first : List Int} {ws : List World} (h : ∀ x ∈ ws, WV m first x) {i j : Nat} (hi : i < first.length) (hj : j < first.length) (t : Int) : ∀ k, k ≤ ws.length → ∀ x ∈ exchNb i j t ws k, WV m first x
  | 0, _, x, hx => h x hx
  | k + 1, hk, x, hx => by
    simp only [exchNb, exchS] at hx
    split at hx
    · rcases List.mem_append.1 hx with hx | hx
      · exact exchNb_WV hm h hi hj t k (by omega) x hx
      · rw [List.mem_singleton.1 hx]
        exact exchW_WV hm (h _ (nth_mem (by omega))) hi hj t
    · exact exchNb_WV hm h hi hj t k (by omega) x hx
theorem joinN_valid {m : Mine} (hm : m.ok) {a b : List Wh} (ha : ∀ w ∈ a, validB m w = true) (hb : ∀ w ∈ b, validB m w = true) : ∀ p, p ≤ a.length → p ≤ b.length → ∀ w ∈ joinN a b p, validB m w = true
  | 0, _, _, w, hw => ha w hw
  | p + 1, h1, h2, w, hw => by
    refine set_valid (joinN_valid hm ha hb p (by omega) (by omega)) p (fun _ => ?_) w hw
    exact (join_valid hm (ha _ (nth_mem (by omega))) (hb _ (nth_mem (by omega)))).2.1
theorem tidyK_lt {out : List World} {x : World} {k : Nat} (h : k < tidyK out x) : lexB (nth out k).tags x.tags = true := by
  unfold tidyK at h
  split at h
  · rename_i j hf
    rw [List.find?_range_eq_some] at hf
    have := hf.2.2 k h
    rw [← less_lex]; simpa using this
  · rename_i hf
    have := List.find?_eq_none.1 hf k (List.mem_range.2 h)
    rw [← less_lex]; simpa using this
theorem tidyK_at {out : List World} {x : World} (h : tidyK out x < out.length) : lexB (nth out (tidyK out x)).tags x.tags = false := by
  unfold tidyK at h ⊢
  split
  · rename_i j hf
    rw [List.find?_range_eq_some] at hf
    have := hf.1
    rw [← less_lex]; simpa using this
  · rename_i hf
    rw [hf] at h; simp at h
theorem tidy1_BV {m : Mine} (hm : m.ok) {first : List Int} {out : List World} (h : BV m first out) {x : World} (hx : WV m first x) : BV m first (tidy1 out x) := by
  have kl := tidyK_le out x
  unfold tidy1
  split
  · rename_i c
    obtain ⟨c1, c2⟩ := c
    have wk := h.wv _ (nth_mem c1)
    have w1 := wk.wl
    have w2 := hx.wl
    refine ⟨h.pr, h.f1, h.f2, fun y hy => ?_, ?_⟩
    · rcases List.mem_or_eq_of_mem_set hy with a | rfl
      · exact h.wv y a
      · exact ⟨hx.pm, by rw [joinWs, joinN_len]; exact w1, joinN_valid hm wk.wv hx.wv _ (by omega) (by omega)⟩
    · have u := h.up
      rw [← List.pairwise_map (f := World.tags) (R := fun a b => lexB a b = true)] at u ⊢
      rw [List.map_set]
      have e : (out.map World.tags).set (tidyK out x) x.tags = out.map World.tags := by
        apply List.ext_getElem?
        intro i
        by_cases hi : tidyK out x = i
        · rw [← hi, List.getElem?_set_self (by simpa using c1), List.getElem?_map, nth_some c1, ← c2]; rfl
        · rw [List.getElem?_set_ne hi]
      rw [e]; exact u
  · rename_i c
    refine ⟨h.pr, h.f1, h.f2, fun y hy => ?_, ?_⟩
    · simp only [List.mem_append, List.mem_singleton] at hy
      rcases hy with (hy | rfl) | hy
      · exact h.wv y (List.mem_of_mem_take hy)
      · exact hx
      · exact h.wv y (List.mem_of_mem_drop hy)
    · have u := h.up
      have lo : ∀ y ∈ out.take (tidyK out x), lexB y.tags x.tags = true := by
        intro y hy
        obtain ⟨i, hi⟩ := List.mem_iff_getElem?.1 hy
        have il := (List.getElem?_eq_some_iff.1 hi).1
        rw [List.length_take] at il
        rw [List.getElem?_take_of_lt (by omega)] at hi
        have := tidyK_lt (out := out) (x := x) (k := i) (by omega)
        rwa [nth_eq hi] at this
      have hi : ∀ y ∈ out.drop (tidyK out x), lexB x.tags y.tags = true := by
        intro y hy
        obtain ⟨i, hi⟩ := List.mem_iff_getElem?.1 hy
        have il := (List.getElem?_eq_some_iff.1 hi).1
        rw [List.length_drop] at il
        rw [List.getElem?_drop] at hi
        have c1 : tidyK out x < out.length := by omega
        have at_ := tidyK_at c1
        have ne : (nth out (tidyK out x)).tags ≠ x.tags := fun e => c ⟨c1, e⟩
        have first_ : lexB x.tags (nth out (tidyK out x)).tags = true := by
          rcases lex_total (nth out (tidyK out x)).tags x.tags with a | a | a
          · rw [a] at at_; cases at_
          · exact absurd a ne
          · exact a
        by_cases i0 : i = 0
        · subst i0
          rw [Nat.add_zero] at hi
          rwa [nth_eq hi] at first_
        · have := (List.pairwise_iff_getElem.1 u) (tidyK out x) (tidyK out x + i) (by omega) (by omega) (by omega)
          rw [← nth_eq (List.getElem?_eq_getElem (by omega : tidyK out x < out.length)), ← nth_eq (List.getElem?_eq_getElem (by omega : tidyK out x + i < out.length)), nth_eq hi] at this
          exact lex_trans first_ this
      have td : out.take (tidyK out x) ++ out.drop (tidyK out x) = out := List.take_append_drop _ _
      have u2 := u
      rw [← td, List.pairwise_append] at u2
      rw [List.append_assoc, List.pairwise_append]
      refine ⟨u2.1, ?_, fun y hy z hz => ?_⟩
      · rw [List.singleton_append, List.pairwise_cons]; exact ⟨hi, u2.2.1⟩
      · simp only [List.singleton_append, List.mem_cons] at hz
        rcases hz with rfl | hz
        · exact lo y hy
        · exact u2.2.2 y hy z hz
theorem tidyN_BV {m : Mine} (hm : m.ok) {first : List Int} (pr : properB first = true) (f1 : 1 ≤ first.length) (f2 : first.length ≤ 12) {l : List World} (hl : ∀ x ∈ l, WV m first x) : ∀ j, j ≤ l.length → BV m first (tidyN l j)
  | 0, _ => ⟨pr, f1, f2, fun x hx => by simp [tidyN] at hx, by simp [tidyN]⟩
  | j + 1, h => tidy1_BV hm (tidyN_BV hm pr f1 f2 hl j (by omega)) (hl _ (nth_mem (by omega)))
end Go.Ev

namespace Go.Ev
open Go
variable [Lib] [Has1] [Has2] [Has3] [Has4] [Has5] [Has6] [Has7] [Has8] [Has9] [Has10] [Has11]
theorem swValid_ok {m : Mine} (h : m.ok) (b : Bel) (hs : b.sz) : CALL 0 N.swaps_Valid [.t m.e, .t b.e] [] = some (B (belB m b), []) := by
  rw [← pbel_bel]
  refine CALL_of K.t_swaps_Valid rfl ?_
  obtain ⟨h1, h2⟩ := hs
  have v := planValid_ok h
  obtain ⟨ws⟩ := b
  simp only at h1 h2
  have li := in_ok ws.length 1 24
  unfold pbelB
  simp only
  by_cases c : 1 ≤ ws.length ∧ ws.length ≤ 24
  · have li : CALL 0 N.lists_In [I ws.length, I 1, I 24] [] = some (B true, []) := by rw [li, decide_eq_true (by omega)]
    have e0 : (ws.map World.e)[0]? = some (nth ws 0).e := map_nth _ (by omega)
    have sz := (h2 _ (nth_mem (l := ws) (j := 0) (by omega))).1
    have loop := fun a b c d e => loop_find (gc := true) (dead := [0, 1, 4, 6, 7]) (c := K.swaps_Valid_l1b) (vs := [a, b, .bp 0 0, .bp 1 0, c, .t (tL (sortI (nth ws 0).tags)), d, e, .t (.sl (ws.map World.e)), I ws.length, I 0]) (H := [.box (mineCells m), .box [.t (.sl (ws.map World.e))], .box [.t (tL (nth ws 0).tags)]])
      (swS m ws (nth ws 0).tags) ws.length (fun j => !pwB m ws (nth ws 0).tags j) (fun _ q => q.1 = .ret ∧ q.2.vs[4]? = some (B false))
      (.exit 0, swS m ws (nth ws 0).tags ws.length) rfl
      (fun j hj hp => (pw_step h ws _ sz h2 j hj h1).1 (by simpa using hp))
      (fun j hj hp => by
        obtain ⟨q, q1, q2, q3⟩ := (pw_step h ws _ sz h2 j hj h1).2 (by simpa using hp)
        exact ⟨q, q1, by rw [q2]; simp, q2, q3⟩)
      (by simp (disch := omega) only [go_sem, K.swaps_Valid_l1b, swS, ↓reduceIte, Nat.reduceAdd, Nat.reduceSub]) (by simp)
    rw [find_all]
    have va := values_ok (nth ws 0).tags
    have so := sorted_ok (nth ws 0).tags sz
    have loop := loop (.t m.e) (.t (Bel.e ⟨ws⟩)) (B false) .und .und
    generalize nth ws 0 = x at *
    obtain ⟨first, whr⟩ := x
    simp only [swS] at *
    generalize sortI first = sf at *
    rcases loop with ⟨e1, e2⟩ | ⟨j, ⟨x, vs, H⟩, e1, e2, e3, e4⟩
    · have e2 : exS CALL K.swaps_Valid_l1 _ = _ := e2
      simp (disch := omega) only [go_sem, K.swaps_Valid, ↓reduceIte, v, li, e0, va, so, c, and_self, decide_true, Bool.true_and, e1, e2, Option.isNone, Nat.reduceAdd, Nat.reduceSub]
    · have e2 : exS CALL K.swaps_Valid_l1 _ = _ := e2
      simp only at e3 e4
      subst e3
      simp (disch := omega) only [go_sem, K.swaps_Valid, ↓reduceIte, v, li, e0, va, so, c, and_self, decide_true, Bool.true_and, e1, e2, Option.isNone, Nat.reduceAdd, Nat.reduceSub]
      simp (disch := omega) only [go_sem, getRes, e4, List.take_zero]
  · have li : CALL 0 N.lists_In [I ws.length, I 1, I 24] [] = some (B false, []) := by rw [li, decide_eq_false (by omega)]
    simp (disch := omega) only [go_sem, K.swaps_Valid, ↓reduceIte, v, li, c, decide_false, Bool.false_and, Nat.reduceAdd, Nat.reduceSub]
end Go.Ev

namespace Go.Ev
open Go
variable [Lib] [Has1] [Has2] [Has6] [Has7]
end Go.Ev

namespace Go.Ev
open Go
variable [Lib] [Has1] [Has2] [Has6] [Has7]
abbrev smMax : Int := 2147483648
def reachF (l : List Int) (n : Int) (p q : Nat) : List Int × Bool := if n < 0 ∨ smMax < nth l p ∨ smMax < nth l p + n ∨ nth l q ≤ nth l p + n then (l, false) else (l.set q (nth l p + n), true)
end Go.Ev

namespace Go.Ev
open Go
variable [Lib] [Has1] [Has2] [Has6] [Has7]
def spHalf (m : Mine) (fl : List Spn) (k : Nat) (back : Bool) (l : List Int) : List Int × Bool :=
  reachF l (travelF (nth m.roads k) (nth fl k) back) ((nth m.roads k).src back).toNat ((nth m.roads k).dst back).toNat
def spStep (m : Mine) (fl : List Spn) (k : Nat) (s : List Int × Bool) : List Int × Bool :=
  ((spHalf m fl k true (spHalf m fl k false s.1).1).1, s.2 || (spHalf m fl k false s.1).2 || (spHalf m fl k true (spHalf m fl k false s.1).1).2)
def spSteps (m : Mine) (fl : List Spn) (l : List Int) : Nat → List Int × Bool
  | 0 => (l, false)
  | k + 1 => spStep m fl k (spSteps m fl l k)
theorem reachF_len (l : List Int) (n : Int) (p q : Nat) : (reachF l n p q).1.length = l.length := by unfold reachF; split <;> simp
theorem reachF_bnd {l : List Int} (hb : bnd l) {n : Int} {p q : Nat} (hp : p < l.length) : bnd (reachF l n p q).1 := by
  unfold reachF
  split
  · exact hb
  · rename_i c
    intro x hx
    have := hb _ (nth_mem hp)
    rcases List.mem_or_eq_of_mem_set hx with h | h
    · exact hb x h
    · simp only [smMax] at c; subst h; omega
theorem reachF_sum {l : List Int} (hb : bnd l) {n : Int} {p q : Nat} (hp : p < l.length) (hq : q < l.length) :
    ((reachF l n p q).2 = true → sumN (reachF l n p q).1 < sumN l) ∧ ((reachF l n p q).2 = false → (reachF l n p q).1 = l) := by
  unfold reachF
  split
  · exact ⟨fun h => by simp at h, fun _ => rfl⟩
  · rename_i c
    refine ⟨fun _ => ?_, fun h => by simp at h⟩
    have := hb _ (nth_mem hp)
    exact sumN_set hq (by omega) (by omega)
theorem spHalf_len (m : Mine) (fl : List Spn) (k : Nat) (back : Bool) (l : List Int) : (spHalf m fl k back l).1.length = l.length := reachF_len _ _ _ _
theorem spSteps_len (m : Mine) (fl : List Spn) (l : List Int) : ∀ k, (spSteps m fl l k).1.length = l.length
  | 0 => rfl
  | k + 1 => by simp only [spSteps, spStep, spHalf_len, spSteps_len m fl l k]
section
variable {m : Mine} (h : m.ok) {fl : List Spn}
include h
theorem spHalf_bnd {l : List Int} (hl : l.length = m.places.length) (hb : bnd l) {k : Nat} (hk : k < m.roads.length) (back : Bool) : bnd (spHalf m fl k back l).1 := by
  have r1 := Road.src_ok (h.rs _ (nth_mem hk)) back
  exact reachF_bnd hb (by omega)
theorem spHalf_sum {l : List Int} (hl : l.length = m.places.length) (hb : bnd l) {k : Nat} (hk : k < m.roads.length) (back : Bool) :
    ((spHalf m fl k back l).2 = true → sumN (spHalf m fl k back l).1 < sumN l) ∧ ((spHalf m fl k back l).2 = false → (spHalf m fl k back l).1 = l) := by
  have r1 := Road.src_ok (h.rs _ (nth_mem hk)) back
  have r2 := Road.dst_ok (h.rs _ (nth_mem hk)) back
  exact reachF_sum hb (by omega) (by omega)
theorem spSteps_bnd {l : List Int} (hl : l.length = m.places.length) (hb : bnd l) : ∀ k, k ≤ m.roads.length → bnd (spSteps m fl l k).1
  | 0, _ => hb
  | k + 1, hk => by
    have ih := spSteps_bnd hl hb k (by omega)
    simp only [spSteps, spStep]
    exact spHalf_bnd h (by rw [spHalf_len, spSteps_len, hl]) (spHalf_bnd h (by rw [spSteps_len, hl]) ih (by omega) _) (by omega) _
theorem spSteps_sum {l : List Int} (hl : l.length = m.places.length) (hb : bnd l) : ∀ k, k ≤ m.roads.length →
    ((spSteps m fl l k).2 = true → sumN (spSteps m fl l k).1 < sumN l) ∧ ((spSteps m fl l k).2 = false → (spSteps m fl l k).1 = l)
  | 0, _ => ⟨fun h => by simp [spSteps] at h, fun _ => rfl⟩
  | k + 1, hk => by
    obtain ⟨i1, i2⟩ := spSteps_sum hl hb k (by omega)
    have hb1 := spSteps_bnd h (fl := fl) hl hb k (by omega)
    have hl1 : (spSteps m fl l k).1.length = m.places.length := by rw [spSteps_len, hl]
    obtain ⟨a1, a2⟩ := spHalf_sum h (fl := fl) hl1 hb1 (k := k) (by omega) false
    have hb2 := spHalf_bnd h (fl := fl) hl1 hb1 (k := k) (by omega) false
    obtain ⟨c1, c2⟩ := spHalf_sum h (fl := fl) (by rw [spHalf_len, hl1]) hb2 (k := k) (by omega) true
    simp only [spSteps, spStep]
    generalize spSteps m fl l k = s at *
    obtain ⟨sl, sb⟩ := s
    simp only at *
    generalize spHalf m fl k false sl = a at *
    obtain ⟨al, ab⟩ := a
    simp only at *
    generalize spHalf m fl k true al = b at *
    obtain ⟨bl, bb⟩ := b
    simp only at *
    cases sb <;> cases ab <;> cases bb <;> simp_all <;> omega
end
def spRound (m : Mine) (fl : List Spn) (l : List Int) : List Int × Bool := spSteps m fl l m.roads.length
def spF (m : Mine) (fl : List Spn) (l : List Int) : List Int := closeN (spRound m fl) (sumN l + 1) l
end Go.Ev

namespace Go.Ev
open Go
theorem set_nth2 {α : Type} [Dat α] (l : List α) (k : Nat) (hk : k < l.length) (x : α) (j : Nat) : nth (l.set k x) j = if j = k then x else nth l j := by
  unfold nth
  by_cases h : j = k
  · subst h; rw [if_pos rfl]; simp [hk]
  · rw [if_neg h]
    have : ¬ k = j := fun e => h e.symm
    simp [List.getElem?_set, this]
theorem closeN_inv {α : Type} {f : α → α × Bool} (P : α → Prop) (hP : ∀ l, P l → P (f l).1) : ∀ n l, P l → P (closeN f n l)
  | 0, l, h => h
  | n + 1, l, h => by
    unfold closeN
    split
    · exact closeN_inv P hP n _ (hP l h)
    · exact hP l h
theorem closeN_fix {α : Type} {f : α → α × Bool} (P : α → Prop) (mes : α → Nat) (hP : ∀ l, P l → P (f l).1 ∧ ((f l).2 = true → mes (f l).1 < mes l) ∧ ((f l).2 = false → (f l).1 = l)) : ∀ n l, P l → mes l < n → (f (closeN f n l)).2 = false ∧ P (closeN f n l)
  | 0, l, _, h => by omega
  | n + 1, l, hp, h => by
    obtain ⟨h1, h2, h3⟩ := hP l hp
    unfold closeN
    cases hf : (f l).2 with
    | true =>
      rw [if_pos rfl]
      have := h2 hf
      exact closeN_fix P mes hP n _ h1 (by omega)
    | false =>
      rw [if_neg (by simp), h3 hf]
      exact ⟨hf, hp⟩
def clP (m : Mine) (fl : List Spn) (y : List Int) : Prop := ∀ k, k < m.roads.length → ∀ back, 0 ≤ travelF (nth m.roads k) (nth fl k) back →
  nth y ((nth m.roads k).src back).toNat + travelF (nth m.roads k) (nth fl k) back ≤ smMax →
  nth y ((nth m.roads k).dst back).toNat ≤ nth y ((nth m.roads k).src back).toNat + travelF (nth m.roads k) (nth fl k) back
def clS (m : Mine) (fl : List Spn) (y : List Int) : Prop := ∀ k, k < m.roads.length → ∀ back, 0 ≤ travelF (nth m.roads k) (nth fl k) back →
  nth y ((nth m.roads k).dst back).toNat ≤ nth y ((nth m.roads k).src back).toNat + travelF (nth m.roads k) (nth fl k) back
variable [Lib] [Has1] [Has2] [Has6] [Has7]
theorem spHalf_ge {m : Mine} (h : m.ok) {fl : List Spn} {y l : List Int} (hy : clP m fl y) (hl : l.length = m.places.length) {k : Nat} (hk : k < m.roads.length) (back : Bool) (hle : ∀ j, nth y j ≤ nth l j) : ∀ j, nth y j ≤ nth (spHalf m fl k back l).1 j := by
  have r2 := Road.dst_ok (h.rs _ (nth_mem hk)) back
  intro j
  unfold spHalf reachF
  split
  · exact hle j
  · rename_i c
    have c := c
    simp only [not_or, Int.not_lt, Int.not_le] at c
    obtain ⟨c1, c2, c3, c4⟩ := c
    rw [set_nth2 _ _ (by omega)]
    split
    · rename_i e
      have := hy k hk back (by omega) (by have := hle ((nth m.roads k).src back).toNat; omega)
      have := hle ((nth m.roads k).src back).toNat
      rw [e]; omega
    · exact hle j
theorem spSteps_ge {m : Mine} (h : m.ok) {fl : List Spn} {y l : List Int} (hy : clP m fl y) (hl : l.length = m.places.length) (hle : ∀ j, nth y j ≤ nth l j) : ∀ k, k ≤ m.roads.length → ∀ j, nth y j ≤ nth (spSteps m fl l k).1 j
  | 0, _ => hle
  | k + 1, hk => by
    have ih := spSteps_ge h hy hl hle k (by omega)
    simp only [spSteps, spStep]
    exact spHalf_ge h hy (by rw [spHalf_len, spSteps_len, hl]) (by omega) true (spHalf_ge h hy (by rw [spSteps_len, hl]) (by omega) false ih)
theorem spF_ge {m : Mine} (h : m.ok) {fl : List Spn} {y l : List Int} (hy : clP m fl y) (hl : l.length = m.places.length) (hle : ∀ j, nth y j ≤ nth l j) : ∀ j, nth y j ≤ nth (spF m fl l) j :=
  (closeN_inv (f := spRound m fl) (fun l => l.length = m.places.length ∧ ∀ j, nth y j ≤ nth l j) (fun l hp => ⟨by rw [spRound, spSteps_len]; exact hp.1, spSteps_ge h hy hp.1 hp.2 _ (Nat.le_refl _)⟩) _ l ⟨hl, hle⟩).2
theorem spHalf_le {m : Mine} {fl : List Spn} {l : List Int} {k : Nat} (back : Bool) (hb : ((nth m.roads k).dst back).toNat < l.length) : ∀ j, nth (spHalf m fl k back l).1 j ≤ nth l j := by
  intro j
  unfold spHalf reachF
  split
  · exact Int.le_refl _
  · rename_i c
    simp only [not_or, Int.not_lt, Int.not_le] at c
    rw [set_nth2 _ _ hb]
    split
    · rename_i e; rw [e]; omega
    · exact Int.le_refl _
theorem spSteps_no {m : Mine} (h : m.ok) {fl : List Spn} {l : List Int} (hl : l.length = m.places.length) (hb : bnd l) : ∀ k, k ≤ m.roads.length → (spSteps m fl l k).2 = false → ∀ i, i < k → ∀ back, (spHalf m fl i back l).2 = false
  | 0, _, _, i, hi, _ => by omega
  | k + 1, hk, hf, i, hi, back => by
    have e := (spSteps_sum h (fl := fl) hl hb k (by omega)).2
    have ih := spSteps_no h (fl := fl) hl hb k (by omega)
    simp only [spSteps, spStep, Bool.or_eq_false_iff] at hf
    obtain ⟨⟨f1, f2⟩, f3⟩ := hf
    have e := e f1
    rw [e] at f2 f3
    have e2 := (spHalf_sum h (fl := fl) hl hb (k := k) (by omega) false).2 f2
    rw [e2] at f3
    by_cases c : i < k
    · exact ih f1 i c back
    · have : i = k := by omega
      subst this
      cases back
      · exact f2
      · exact f3
theorem spF_clP {m : Mine} (h : m.ok) {fl : List Spn} {l : List Int} (hl : l.length = m.places.length) (hb : bnd l) : clP m fl (spF m fl l) ∧ (spF m fl l).length = m.places.length ∧ bnd (spF m fl l) := by
  obtain ⟨h1, h2, h3⟩ := closeN_fix (f := spRound m fl) (fun l => l.length = m.places.length ∧ bnd l) sumN (fun l ⟨hl, hb⟩ => ⟨⟨by rw [spRound, spSteps_len]; exact hl, spSteps_bnd h hl hb _ (Nat.le_refl _)⟩, spSteps_sum h hl hb _ (Nat.le_refl _)⟩) (sumN l + 1) l ⟨hl, hb⟩ (Nat.lt_succ_self _)
  refine ⟨fun k hk back hn hm => ?_, h2, h3⟩
  have no := spSteps_no h h2 h3 m.roads.length (Nat.le_refl _) h1 k hk back
  change (spHalf m fl k back (spF m fl l)).2 = false at no
  unfold spHalf reachF at no
  split at no
  · rename_i c
    have r1 := Road.src_ok (h.rs _ (nth_mem hk)) back
    have hs := h3 _ (nth_mem (l := closeN (spRound m fl) (sumN l + 1) l) (j := ((nth m.roads k).src back).toNat) (by omega))
    change 0 ≤ nth (spF m fl l) _ ∧ nth (spF m fl l) _ ≤ _ at hs
    omega
  · cases no
end Go.Ev

namespace Go.Ev
open Go
variable [Lib] [Has1] [Has2] [Has6] [Has7]
def belowC (a l : List Int) : Prop := ∀ j, nth l j ≤ smMax → nth a j ≤ nth l j
theorem smHalf_below {m : Mine} (h : m.ok) {fl : List Spn} {a l : List Int} (ha : clP m fl a) (hl : l.length = m.places.length) (hb : bnd l) {k : Nat} (hk : k < m.roads.length) (back : Bool) (hle : belowC a l) : belowC a (smHalf m fl k back l).1 := by
  have r2 := Road.dst_ok (h.rs _ (nth_mem hk)) back
  have r1 := Road.src_ok (h.rs _ (nth_mem hk)) back
  intro j hj
  simp only [smHalf, downF] at hj ⊢
  split at hj
  · rename_i c
    rw [if_pos c]
    simp only [downC, decide_eq_true_eq] at c
    rw [set_nth2 _ _ (by omega)] at hj ⊢
    split at hj
    · rename_i e
      rw [if_pos e, e]
      have := hle ((nth m.roads k).src back).toNat (by omega)
      have := ha k hk back c.1 (by omega)
      omega
    · rename_i e
      rw [if_neg e]
      exact hle j hj
  · rename_i c
    rw [if_neg c]
    exact hle j hj
theorem smSteps_below {m : Mine} (h : m.ok) {fl : List Spn} {a l : List Int} (ha : clP m fl a) (hl : l.length = m.places.length) (hb : bnd l) (hle : belowC a l) : ∀ k, k ≤ m.roads.length → belowC a (smSteps m fl l k).1
  | 0, _ => hle
  | k + 1, hk => by
    have ih := smSteps_below h ha hl hb hle k (by omega)
    have hb1 := smSteps_bnd h (fl := fl) hl hb k (by omega)
    have hl1 : (smSteps m fl l k).1.length = m.places.length := by rw [smSteps_len, hl]
    simp only [smSteps, smStep]
    exact smHalf_below h ha (by rw [smHalf_len, hl1]) (smHalf_bnd h (fl := fl) hl1 hb1 (k := k) (by omega) false) (by omega) true (smHalf_below h ha hl1 hb1 (by omega) false ih)
theorem smSteps_no {m : Mine} (h : m.ok) {fl : List Spn} {l : List Int} (hl : l.length = m.places.length) (hb : bnd l) : ∀ k, k ≤ m.roads.length → (smSteps m fl l k).2 = false → ∀ i, i < k → ∀ back, (smHalf m fl i back l).2 = false
  | 0, _, _, i, hi, _ => by omega
  | k + 1, hk, hf, i, hi, back => by
    have e := (smSteps_sum h (fl := fl) hl hb k (by omega)).2
    have ih := smSteps_no h (fl := fl) hl hb k (by omega)
    simp only [smSteps, smStep, Bool.or_eq_false_iff] at hf
    obtain ⟨⟨f1, f2⟩, f3⟩ := hf
    have e := e f1
    rw [e] at f2 f3
    have e2 := (smHalf_sum h (fl := fl) hl hb (k := k) (by omega) false).2 f2
    rw [e2] at f3
    by_cases c : i < k
    · exact ih f1 i c back
    · have : i = k := by omega
      subst this
      cases back
      · exact f2
      · exact f3
theorem smD_facts {m : Mine} (h : m.ok) {fl : List Spn} {a l : List Int} (ha : clP m fl a) (hl : l.length = m.places.length) (hb : bnd l) (hle : belowC a l) :
    clS m fl (closeN (smRound m fl) (sumN l + 1) l) ∧ belowC a (closeN (smRound m fl) (sumN l + 1) l) ∧ (closeN (smRound m fl) (sumN l + 1) l).length = m.places.length ∧ bnd (closeN (smRound m fl) (sumN l + 1) l) := by
  obtain ⟨h1, ⟨h2, h3⟩, h4⟩ := closeN_fix (f := smRound m fl) (fun l => (l.length = m.places.length ∧ bnd l) ∧ belowC a l) sumN (fun l ⟨⟨hl, hb⟩, hle⟩ => ⟨⟨⟨by rw [smRound, smSteps_len]; exact hl, smSteps_bnd h hl hb _ (Nat.le_refl _)⟩, smSteps_below h ha hl hb hle _ (Nat.le_refl _)⟩, smSteps_sum h hl hb _ (Nat.le_refl _)⟩) (sumN l + 1) l ⟨⟨hl, hb⟩, hle⟩ (Nat.lt_succ_self _)
  refine ⟨fun k hk back hn => ?_, h4, h2, h3⟩
  have no := smSteps_no h h2 h3 m.roads.length (Nat.le_refl _) h1 k hk back
  simp only [smHalf, downC, decide_eq_false_iff_not] at no
  omega
end Go.Ev

namespace Go.Ev
open Go
variable [Lib] [Has1] [Has2] [Has6] [Has7]
theorem capN_nth2 (l : List Int) : ∀ k j, k ≤ l.length → nth (capN l k) j = if j < k ∧ smMax < nth l j then 1099511627776 else nth l j
  | 0, j, _ => by simp [capN]
  | k + 1, j, hk => by
    have ih := capN_nth2 l k
    have e := ih k (by omega)
    rw [if_neg (by omega)] at e
    have ij := ih j (by omega)
    simp only [capN]
    rw [e]
    by_cases c : 2147483648 < nth l k
    · rw [if_pos c, set_nth2 _ _ (by rw [capN_len]; omega), ij]
      by_cases hj : j = k
      · subst hj; rw [if_pos rfl, if_pos ⟨by omega, c⟩]
      · rw [if_neg hj]
        by_cases c2 : j < k ∧ smMax < nth l j
        · rw [if_pos c2, if_pos ⟨by omega, c2.2⟩]
        · rw [if_neg c2, if_neg (fun h => c2 ⟨by omega, h.2⟩)]
    · rw [if_neg c, ij]
      by_cases c2 : j < k ∧ smMax < nth l j
      · rw [if_pos c2, if_pos ⟨by omega, c2.2⟩]
      · rw [if_neg c2, if_neg (fun h => c2 ⟨by
          have : j ≠ k := fun e => by subst e; exact c h.2
          omega, h.2⟩)]
theorem spF_le {m : Mine} (h : m.ok) {fl : List Spn} {l : List Int} (hl : l.length = m.places.length) : ∀ j, nth (spF m fl l) j ≤ nth l j := by
  have steps : ∀ (l : List Int), l.length = m.places.length → ∀ k, k ≤ m.roads.length → ∀ j, nth (spSteps m fl l k).1 j ≤ nth l j := by
    intro l hl k
    induction k with
    | zero => intro _ j; exact Int.le_refl _
    | succ k ih =>
      intro hk j
      have r1 := Road.dst_ok (h.rs _ (nth_mem (l := m.roads) (j := k) (by omega))) false
      have r2 := Road.dst_ok (h.rs _ (nth_mem (l := m.roads) (j := k) (by omega))) true
      simp only [spSteps, spStep]
      have a := spHalf_le (m := m) (fl := fl) (l := (spHalf m fl k false (spSteps m fl l k).1).1) (k := k) true (by rw [spHalf_len, spSteps_len]; omega) j
      have b := spHalf_le (m := m) (fl := fl) (l := (spSteps m fl l k).1) (k := k) false (by rw [spSteps_len]; omega) j
      have c := ih (by omega) j
      omega
  exact (closeN_inv (f := spRound m fl) (fun l' => l'.length = m.places.length ∧ ∀ j, nth l' j ≤ nth l j) (fun l' hp => ⟨by rw [spRound, spSteps_len]; exact hp.1, fun j => Int.le_trans (steps l' hp.1 _ (Nat.le_refl _) j) (hp.2 j)⟩) _ l ⟨hl, fun j => Int.le_refl _⟩).2
end Go.Ev

namespace Go.Ev
open Go
variable [Lib] [Has1] [Has2] [Has6] [Has7]
theorem ext_nth2 {α : Type} [Dat α] {a b : List α} (h : a.length = b.length) (e : ∀ j, j < a.length → nth a j = nth b j) : a = b := by
  apply List.ext_getElem h
  intro j h1 h2
  have := e j h1
  rwa [nth_eq (List.getElem?_eq_getElem h1), nth_eq (List.getElem?_eq_getElem h2)] at this
theorem smHalf_le {m : Mine} {fl : List Spn} {l : List Int} {k : Nat} (back : Bool) (hb : ((nth m.roads k).dst back).toNat < l.length) : ∀ j, nth (smHalf m fl k back l).1 j ≤ nth l j := by
  intro j
  simp only [smHalf, downF]
  split
  · rename_i c
    simp only [downC, decide_eq_true_eq] at c
    rw [set_nth2 _ _ hb]
    split
    · rename_i e; rw [e]; omega
    · exact Int.le_refl _
  · exact Int.le_refl _
theorem smSteps_le {m : Mine} (h : m.ok) {fl : List Spn} {l : List Int} (hl : l.length = m.places.length) : ∀ k, k ≤ m.roads.length → ∀ j, nth (smSteps m fl l k).1 j ≤ nth l j
  | 0, _, j => Int.le_refl _
  | k + 1, hk, j => by
    have r1 := Road.dst_ok (h.rs _ (nth_mem (l := m.roads) (j := k) (by omega))) false
    have r2 := Road.dst_ok (h.rs _ (nth_mem (l := m.roads) (j := k) (by omega))) true
    simp only [smSteps, smStep]
    have a := smHalf_le (m := m) (fl := fl) (l := (smHalf m fl k false (smSteps m fl l k).1).1) (k := k) true (by rw [smHalf_len, smSteps_len]; omega) j
    have b := smHalf_le (m := m) (fl := fl) (l := (smSteps m fl l k).1) (k := k) false (by rw [smSteps_len]; omega) j
    have c := smSteps_le h (fl := fl) hl k (by omega) j
    omega
theorem smD_le {m : Mine} (h : m.ok) {fl : List Spn} {l : List Int} (hl : l.length = m.places.length) : ∀ j, nth (closeN (smRound m fl) (sumN l + 1) l) j ≤ nth l j :=
  (closeN_inv (f := smRound m fl) (fun l' => l'.length = m.places.length ∧ ∀ j, nth l' j ≤ nth l j) (fun l' hp => ⟨by rw [smRound, smSteps_len]; exact hp.1, fun j => Int.le_trans (smSteps_le h hp.1 _ (Nat.le_refl _) j) (hp.2 j)⟩) _ l ⟨hl, fun j => Int.le_refl _⟩).2
def tmOk (l : List Int) : Prop := ∀ x ∈ l, 0 ≤ x ∧ (x ≤ smMax ∨ x = 1099511627776)
theorem tmOk.bnd {l : List Int} (h : tmOk l) : bnd l := fun x hx => by have := h x hx; simp only [smMax] at this; omega
theorem closeS_nth {m : Mine} {fl : List Spn} {l : List Int} (hl : (closeN (smRound m fl) (sumN l + 1) l).length = m.places.length) {j : Nat} (hj : j < m.places.length) :
    nth (closeS m fl l) j = if smMax < nth (closeN (smRound m fl) (sumN l + 1) l) j then 1099511627776 else nth (closeN (smRound m fl) (sumN l + 1) l) j := by
  unfold closeS
  rw [capN_nth2 _ _ _ (by omega)]
  by_cases c : smMax < nth (closeN (smRound m fl) (sumN l + 1) l) j
  · rw [if_pos ⟨hj, c⟩, if_pos c]
  · rw [if_neg (fun x => c x.2), if_neg c]
theorem closeS_len2 {m : Mine} (h : m.ok) {fl : List Spn} {l : List Int} (hl : l.length = m.places.length) (hb : bnd l) : (closeS m fl l).length = m.places.length := by
  unfold closeS; rw [capN_len]
  exact (closeN_fix (f := smRound m fl) (fun l => l.length = m.places.length ∧ Go.Ev.bnd l) sumN (fun l ⟨hl, hb⟩ => ⟨⟨by rw [smRound, smSteps_len]; exact hl, smSteps_bnd h hl hb _ (Nat.le_refl _)⟩, smSteps_sum h hl hb _ (Nat.le_refl _)⟩) (sumN l + 1) l ⟨hl, hb⟩ (Nat.lt_succ_self _)).2.1
theorem spF_closeS {m : Mine} (h : m.ok) {fl : List Spn} {l : List Int} (hl : l.length = m.places.length) (ht : tmOk l) : spF m fl l = closeS m fl l := by
  have hb := ht.bnd
  obtain ⟨a1, a2, a3⟩ := spF_clP h (fl := fl) hl hb
  have a4 := spF_le h (fl := fl) hl
  obtain ⟨d1, d2, d3, d4⟩ := smD_facts h (fl := fl) a1 hl hb (fun j _ => a4 j)
  have d5 := smD_le h (fl := fl) hl
  have cn := fun {j : Nat} (hj : j < m.places.length) => closeS_nth (m := m) (fl := fl) (l := l) d3 hj
  have cl := closeS_len2 h (fl := fl) hl hb
  generalize closeN (smRound m fl) (sumN l + 1) l = D at *
  apply ext_nth2 (by omega)
  intro j hj
  have hj : j < m.places.length := by omega
  apply Int.le_antisymm
  · rw [cn hj]
    split
    · have := a3 _ (nth_mem (l := spF m fl l) (j := j) (by omega)); omega
    · exact d2 j (by omega)
  · refine spF_ge h (y := closeS m fl l) ?_ hl ?_ j
    · intro k hk back hn hm
      have r1 := Road.src_ok (h.rs _ (nth_mem hk)) back
      have r2 := Road.dst_ok (h.rs _ (nth_mem hk)) back
      have x := d1 k hk back hn
      rw [cn (by omega)] at hm ⊢
      rw [cn (by omega)]
      simp only [smMax] at *
      split at hm
      · omega
      · rename_i c
        rw [if_neg c, if_neg (by omega)]
        omega
    · intro i
      by_cases hi : i < m.places.length
      · rw [cn hi]
        have := ht _ (nth_mem (l := l) (j := i) (by omega))
        have := d5 i
        split <;> omega
      · have e1 : nth (closeS m fl l) i = 0 := by unfold nth; rw [List.getD_eq_getElem?_getD, List.getElem?_eq_none (by omega)]; rfl
        have e2 : nth l i = 0 := by unfold nth; rw [List.getD_eq_getElem?_getD, List.getElem?_eq_none (by omega)]; rfl
        rw [e1, e2]; exact Int.le_refl _
end Go.Ev

namespace Go.Ev
open Go
variable [Lib] [Has1] [Has2] [Has3] [Has4] [Has6] [Has7]
theorem setB_mem {l : List Int} {n : Int} (h : setB l n = true) : ∀ x ∈ l, 0 ≤ x ∧ x < n := by
  intro x hx
  simp only [setB, List.all_eq_true, List.mem_range, decide_eq_true_eq] at h
  obtain ⟨j, hj⟩ := List.mem_iff_getElem?.1 hx
  have := h j (List.getElem?_eq_some_iff.1 hj).1
  rw [nth_eq hj] at this
  exact ⟨this.1, this.2.1⟩
theorem initS_tm (l : List Int) {t : Int} (ht : inT t) (n : Nat) : tmOk (initS l t n) := by
  intro x hx
  simp only [initS, List.mem_map] at hx
  obtain ⟨p, -, rfl⟩ := hx
  unfold inT at ht
  simp only [smMax]
  split <;> omega
end Go.Ev

namespace Go.Ev
open Go
variable [Lib] [Has1] [Has2] [Has3] [Has4] [Has6] [Has7]
theorem sValid1_ok (x t : Int) (fr : T) : CALL 0 N.smoke_Valid_1 [I x, .bp 0 0] [.box [I t, .t fr]] = some (B (!decide (plS t x)), [.box [I t, .t fr]]) := by
  refine CALL_of K.t_smoke_Valid_1 rfl ?_
  have i := in_ok x t 2147483648
  unfold plS
  by_cases c : x = 1099511627776
  · subst c
    simp (disch := omega) only [go_sem, K.smoke_Valid_1, ↓reduceIte, Nat.reduceAdd, Nat.reduceSub]
  · by_cases c2 : t ≤ x ∧ x ≤ 2147483648
    · simp only [c2, and_self, decide_true] at i
      simp (disch := omega) only [go_sem, K.smoke_Valid_1, ↓reduceIte, i, c, c2, false_or, and_self, decide_true, Nat.reduceAdd, Nat.reduceSub]
    · simp only [c2, decide_false] at i
      simp (disch := omega) only [go_sem, K.smoke_Valid_1, ↓reduceIte, i, c, c2, false_or, decide_false, Nat.reduceAdd, Nat.reduceSub]
theorem sValid_ok {m : Mine} (h : m.ok) (s : Wh) (hl : s.frm.length ≤ 1000000) : CALL 0 N.smoke_Valid [.t m.e, .t s.e] [] = some (B (validS m s), []) := by
  refine CALL_of K.t_smoke_Valid rfl ?_
  have v := planValid_ok h
  have np := h.np
  have i := in_ok s.time 0 2147483648
  have cf := containsFunc_ok s.frm (by omega) N.smoke_Valid_1 [[tI s.time, tL s.frm]] (fun x => !decide (plS s.time x)) (fun x _ => sValid1_ok x s.time (tL s.frm))
  have e : validS m s = (!(s.frm.any fun x => !decide (plS s.time x)) && decide (s.frm.length = m.places.length ∧ inT s.time)) := by
    unfold validS
    rw [all_rng, any_rng s.frm (fun x => !decide (plS s.time x))]
  rw [e]
  generalize (s.frm.any fun x => !decide (plS s.time x)) = r at *
  obtain ⟨places, roads⟩ := m
  obtain ⟨time, frm⟩ := s
  simp only at *
  unfold inT
  clear e
  have cf : CALL 0 N.slices_ContainsFunc_int_int [.t (tL frm), .fn N.smoke_Valid_1 [.bp 0 0]] [.box [I time, .t (tL frm)]] = some (B r, [.box [I time, .t (tL frm)]]) := cf
  by_cases c1 : frm.length = places.length
  · by_cases c2 : 0 ≤ time ∧ time ≤ 2147483648
    · simp only [c2, and_self, decide_true] at i
      cases r <;> simp (disch := omega) only [go_sem, K.smoke_Valid, ↓reduceIte, v, i, cf, c1, c2, and_self, decide_true, Nat.reduceAdd, Nat.reduceSub]
    · simp only [c2, decide_false] at i
      cases r <;> simp (disch := omega) only [go_sem, K.smoke_Valid, ↓reduceIte, v, i, cf, c1, c2, and_false, decide_false, Nat.reduceAdd, Nat.reduceSub]
  · cases r <;> simp (disch := omega) only [go_sem, K.smoke_Valid, ↓reduceIte, v, c1, false_and, decide_false, Nat.reduceAdd, Nat.reduceSub]
def mxL (t : Int) (l : List Int) : List Int := l.map fun x => max x t
theorem mxL_nth (t : Int) {l : List Int} {i : Nat} (hi : i < l.length) : nth (mxL t l) i = max (nth l i) t := nth_eq (by rw [mxL, map_nth _ hi])
theorem maxN_nth (t : Int) (l : List Int) : ∀ j, j ≤ l.length → ∀ i, nth (maxN t l j) i = if i < j then max (nth l i) t else nth l i
  | 0, _, i => by rw [maxN, if_neg (by omega)]
  | j + 1, hj, i => by
    have ih := maxN_nth t l j (by omega)
    rw [maxN, set_nth2 _ _ (by rw [maxN_len]; omega), ih j, if_neg (by omega : ¬ j < j), ih i]
    by_cases e : i = j
    · rw [if_pos e, if_pos (by omega), e]
    · rw [if_neg e]
      by_cases c : i < j
      · rw [if_pos c, if_pos (by omega)]
      · rw [if_neg c, if_neg (by omega)]
theorem maxN_all (t : Int) (l : List Int) : maxN t l l.length = mxL t l := by
  apply ext_nth2 (by rw [maxN_len]; simp [mxL])
  intro j hj
  rw [maxN_len] at hj
  rw [maxN_nth t l _ (Nat.le_refl _), if_pos hj, mxL_nth t hj]
end Go.Ev

namespace Go.Ev
open Go
variable [Lib] [Has1] [Has2] [Has3] [Has4] [Has6] [Has7]
theorem mxL_tm {t : Int} (ht : inT t) {l : List Int} (h : bnd l) (h2 : ∀ x ∈ l, x ≤ smMax ∨ x = 1099511627776) : tmOk (mxL t l) := by
  intro x hx
  simp only [mxL, List.mem_map] at hx
  obtain ⟨y, hy, rfl⟩ := hx
  have := h y hy
  have := h2 y hy
  unfold inT at ht
  simp only [smMax] at *
  omega
theorem chHalf_mem {m : Mine} {fl : List Spn} {frm : List Int} {t : Int} {k : Nat} {back : Bool} {l : List Int} (hi : ((nth m.roads k).dst back).toNat < l.length) (P : Int → Prop) (hp : ∀ x ∈ l, P x) (ht : P t) : ∀ x ∈ chHalf m fl frm t k back l, P x := by
  unfold chHalf
  split
  · intro x hx
    rcases List.mem_or_eq_of_mem_set hx with h | h
    · exact hp x h
    · subst h
      have := hp _ (nth_mem hi)
      rcases Int.le_total (nth l ((nth m.roads k).dst back).toNat) t with c | c
      · rw [Int.min_eq_left c]; exact this
      · rw [Int.min_eq_right c]; exact ht
  · exact hp
theorem chN_mem {m : Mine} (h : m.ok) {fl : List Spn} {frm : List Int} {t : Int} (hl : frm.length = m.places.length) (P : Int → Prop) (hp : ∀ x ∈ frm, P x) (ht : P t) : ∀ k, k ≤ m.roads.length → ∀ x ∈ chN m fl frm t k, P x
  | 0, _ => hp
  | k + 1, hk => by
    have r1 := Road.dst_ok (h.rs _ (nth_mem (l := m.roads) (j := k) (by omega))) false
    have r2 := Road.dst_ok (h.rs _ (nth_mem (l := m.roads) (j := k) (by omega))) true
    have ih := chN_mem h (fl := fl) hl P hp ht k (by omega)
    simp only [chN, chStep]
    exact chHalf_mem (by rw [chHalf_len, chN_len]; omega) P (chHalf_mem (by rw [chN_len]; omega) P ih ht) ht
end Go.Ev

namespace Go.Ev
open Go
variable [Lib] [Has1] [Has2] [Has3] [Has4] [Has6] [Has7]
theorem flB_of {m : Mine} {l : List Spn} (h1 : l.length = m.roads.length) (h2 : ∀ x ∈ l, x.ok) : flowsB m l = true := by
  simp only [flowsB, Bool.and_eq_true, decide_eq_true_eq, List.all_eq_true, List.mem_range]
  exact ⟨fun j hj => h2 _ (nth_mem hj), h1⟩
theorem startS_is {m : Mine} {fl : List Spn} (hf : flowsB m fl = true) {l : List Int} (hl : setB l m.places.length = true) {t : Int} (ht : inT t) :
    startS m fl l t = (⟨t, closeS m fl (initS l t m.places.length)⟩, 0) := by
  unfold startS
  rw [if_neg (by simp [hf]), if_neg (by simp [hl]), if_neg (fun h => h ht)]
theorem nth_out {l : List Int} {i : Nat} (h : l.length ≤ i) : nth l i = 0 := by unfold nth; rw [List.getD_eq_getElem?_getD, List.getElem?_eq_none h]; rfl
theorem initS_nth (l : List Int) (t : Int) {n j : Nat} (hj : j < n) : nth (initS l t n) j = if (j : Int) ∈ l then t else 1099511627776 := nth_eq (by simp [initS, hj])
end Go.Ev

namespace Go.Ev
open Go
variable [Lib] [Has1] [Has2] [Has3] [Has4] [Has6] [Has7]
structure SGood (m : Mine) (fl : List Spn) (s : Wh) : Prop where
  ln : s.frm.length = m.places.length
  ti : inT s.time
  tm : tmOk s.frm
  lo : ∀ x ∈ s.frm, s.time ≤ x
  cl : clP m fl s.frm
theorem SGood.valid {m : Mine} {fl : List Spn} {s : Wh} (h : SGood m fl s) : validS m s = true := by
  simp only [validS, Bool.and_eq_true, decide_eq_true_eq, List.all_eq_true, List.mem_range]
  refine ⟨fun j hj => ?_, h.ln, h.ti⟩
  have a := h.tm _ (nth_mem hj)
  have b := h.lo _ (nth_mem hj)
  unfold plS
  simp only [smMax] at a
  omega
theorem nth_repl {n i : Nat} (t : Int) (h : i < n) : nth (List.replicate n t) i = t := nth_eq (by rw [List.getElem?_replicate, if_pos h])
theorem closeS_facts {m : Mine} (h : m.ok) {fl : List Spn} {l : List Int} (hl : l.length = m.places.length) (ht : tmOk l) {t : Int} (hb : ∀ x ∈ l, t ≤ x) (hit : inT t) :
    SGood m fl ⟨t, closeS m fl l⟩ ∧ ∀ j, nth (closeS m fl l) j ≤ nth l j := by
  have e := spF_closeS h (fl := fl) hl ht
  obtain ⟨a1, a2, a3⟩ := spF_clP h (fl := fl) hl ht.bnd
  have le := spF_le h (fl := fl) hl
  have ge := spF_ge h (fl := fl) (y := List.replicate m.places.length t) (l := l) (by
    intro k hk back hn _
    have r1 := Road.src_ok (h.rs _ (nth_mem hk)) back
    have r2 := Road.dst_ok (h.rs _ (nth_mem hk)) back
    rw [nth_repl t (by omega), nth_repl t (by omega)]
    omega) hl (fun i => by
      by_cases hi : i < m.places.length
      · rw [nth_repl t hi]; exact hb _ (nth_mem (by omega))
      · rw [nth_out (by simp; omega), nth_out (by omega)]; omega)
  have cn := fun {j : Nat} (hj : j < m.places.length) => closeS_nth (m := m) (fl := fl) (l := l) (smD_facts h (fl := fl) a1 hl ht.bnd (fun j _ => le j)).2.2.1 hj
  rw [e] at a1 a2 a3 le ge
  refine ⟨⟨a2, hit, fun x hx => ?_, fun x hx => ?_, a1⟩, le⟩
  · obtain ⟨j, hj⟩ := List.mem_iff_getElem?.1 hx
    have jl := (List.getElem?_eq_some_iff.1 hj).1
    have := cn (j := j) (by rw [← a2]; exact jl)
    rw [nth_eq hj] at this
    have := a3 x hx
    split at * <;> omega
  · obtain ⟨j, hj⟩ := List.mem_iff_getElem?.1 hx
    have jl := (List.getElem?_eq_some_iff.1 hj).1
    have := ge j
    rw [nth_eq hj, nth_repl t (by rw [← a2]; exact jl)] at this
    exact this
theorem initS_lo (l : List Int) {t : Int} (ht : inT t) (n : Nat) : ∀ x ∈ initS l t n, t ≤ x := by
  intro x hx
  simp only [initS, List.mem_map] at hx
  obtain ⟨p, -, rfl⟩ := hx
  unfold inT at ht
  split <;> omega
theorem startS_facts {m : Mine} (h : m.ok) {fl : List Spn} (hf : flowsB m fl = true) {l : List Int} (hl : setB l m.places.length = true) {t : Int} (ht : inT t) :
    ∃ s : Wh, startS m fl l t = (s, 0) ∧ SGood m fl s ∧ s.time = t ∧ ∀ p ∈ l, nth s.frm p.toNat ≤ t := by
  have f := closeS_facts h (fl := fl) (initS_len l t m.places.length) (initS_tm l ht _) (initS_lo l ht _) ht
  refine ⟨_, startS_is hf hl ht, f.1, rfl, fun p hp => ?_⟩
  have b := setB_mem hl p hp
  have := f.2 p.toNat
  rw [initS_nth l t (by omega), if_pos (by rw [show ((p.toNat : Nat) : Int) = p by omega]; exact hp)] at this
  exact this
theorem chHalf_le {m : Mine} {fl : List Spn} {frm : List Int} {t : Int} {k : Nat} {back : Bool} {l : List Int} (hi : ((nth m.roads k).dst back).toNat < l.length) : ∀ j, nth (chHalf m fl frm t k back l) j ≤ nth l j := by
  intro j
  unfold chHalf
  split
  · rw [set_nth2 _ _ hi]
    split
    · rename_i e; rw [e]; omega
    · exact Int.le_refl _
  · exact Int.le_refl _
theorem chN_le {m : Mine} (h : m.ok) {fl : List Spn} {frm : List Int} {t : Int} (hl : frm.length = m.places.length) : ∀ k, k ≤ m.roads.length → ∀ j, nth (chN m fl frm t k) j ≤ nth frm j
  | 0, _, j => Int.le_refl _
  | k + 1, hk, j => by
    have r1 := Road.dst_ok (h.rs _ (nth_mem (l := m.roads) (j := k) (by omega))) false
    have r2 := Road.dst_ok (h.rs _ (nth_mem (l := m.roads) (j := k) (by omega))) true
    have ih := chN_le h (fl := fl) (t := t) hl k (by omega) j
    simp only [chN, chStep]
    have a := chHalf_le (m := m) (fl := fl) (frm := frm) (t := t) (k := k) (back := true) (l := chHalf m fl frm t k false (chN m fl frm t k)) (by rw [chHalf_len, chN_len]; omega) j
    have b := chHalf_le (m := m) (fl := fl) (frm := frm) (t := t) (k := k) (back := false) (l := chN m fl frm t k) (by rw [chN_len]; omega) j
    omega
theorem chN_road {m : Mine} (h : m.ok) {fl : List Spn} {frm : List Int} {t : Int} (hl : frm.length = m.places.length) {r : Nat} {back : Bool} (h1 : nth frm ((nth m.roads r).src back).toNat ≤ t) (h2 : 0 ≤ travelF (nth m.roads r) (nth fl r) back) :
    ∀ k, k ≤ m.roads.length → r < k → nth (chN m fl frm t k) ((nth m.roads r).dst back).toNat ≤ t
  | 0, _, hr => by omega
  | k + 1, hk, hr => by
    have r1 := Road.dst_ok (h.rs _ (nth_mem (l := m.roads) (j := k) (by omega))) false
    have r2 := Road.dst_ok (h.rs _ (nth_mem (l := m.roads) (j := k) (by omega))) true
    have a := chHalf_le (m := m) (fl := fl) (frm := frm) (t := t) (k := k) (back := true) (l := chHalf m fl frm t k false (chN m fl frm t k)) (by rw [chHalf_len, chN_len]; omega) ((nth m.roads r).dst back).toNat
    have b := chHalf_le (m := m) (fl := fl) (frm := frm) (t := t) (k := k) (back := false) (l := chN m fl frm t k) (by rw [chN_len]; omega) ((nth m.roads r).dst back).toNat
    simp only [chN, chStep]
    by_cases e : r < k
    · have := chN_road h hl h1 h2 k (by omega) e
      omega
    · have : r = k := by omega
      subst this
      have key : ∀ l : List Int, l.length = m.places.length → nth (chHalf m fl frm t r back l) ((nth m.roads r).dst back).toNat ≤ t := by
        intro l ll
        have r3 := Road.dst_ok (h.rs _ (nth_mem (l := m.roads) (j := r) (by omega))) back
        unfold chHalf
        rw [if_pos ⟨h1, h2⟩, set_nth2 _ _ (by omega), if_pos rfl]
        omega
      cases back with
      | false => have := key (chN m fl frm t r) (by rw [chN_len]; omega); omega
      | true => exact key _ (by rw [chHalf_len, chN_len]; omega)
theorem changeS_facts {m : Mine} (h : m.ok) {old : List Spn} (ho : flowsB m old = true) {next : Mine} (hn : next.ok) {fl : List Spn} (hf : flowsB next fl = true) (hp : next.places.length = m.places.length) {s : Wh} (hs : validS m s = true) {t : Int} (h1 : s.time ≤ t) (h2 : t ≤ 2147483648) :
    ∃ s' : Wh, changeS m old next fl s t = (s', 0) ∧ SGood next fl s' ∧ s'.time = t ∧ (∀ j, nth s'.frm j ≤ max (nth s.frm j) t) ∧
      ∀ k, k < m.roads.length → ∀ back, nth s.frm ((nth m.roads k).src back).toNat ≤ t → 0 ≤ travelF (nth m.roads k) (nth old k) back → nth s'.frm ((nth m.roads k).dst back).toNat ≤ t := by
  obtain ⟨s1, s2, s3⟩ := validS_spec hs
  have ht : inT t := by unfold inT at s2 ⊢; omega
  have hb : bnd s.frm := fun x hx => by
    have := s3 x hx
    unfold plS at this; unfold inT at s2; omega
  have cb := chN_bnd h old s1 hb ht m.roads.length (Nat.le_refl _)
  have cl := chN_len m old s.frm t m.roads.length
  have ca := maxN_all t (chN m old s.frm t m.roads.length)
  rw [cl, s1] at ca
  have tm := mxL_tm ht cb (chN_mem h s1 (fun x => x ≤ smMax ∨ x = 1099511627776) (fun x hx => by
    have := s3 x hx
    unfold plS at this; simp only [smMax]; omega) (by unfold inT at ht; simp only [smMax]; omega) _ (Nat.le_refl _))
  have ml : (mxL t (chN m old s.frm t m.roads.length)).length = next.places.length := by simp only [mxL, List.length_map]; omega
  have f := closeS_facts hn (fl := fl) ml tm (t := t) (fun x hx => by
    simp only [mxL, List.mem_map] at hx
    obtain ⟨y, -, rfl⟩ := hx
    omega) ht
  refine ⟨_, ?_, f.1, rfl, fun j => ?_, fun k hk back a b => ?_⟩
  · unfold changeS
    rw [if_neg (by simp [hs, ho, hf, hp]), if_neg (by omega), ca]
  · refine Int.le_trans (f.2 j) ?_
    by_cases hj : j < m.places.length
    · rw [mxL_nth t (by omega)]
      have := chN_le h (fl := old) (t := t) s1 m.roads.length (Nat.le_refl _) j
      omega
    · rw [nth_out (by omega)]; unfold inT at ht; omega
  · have r3 := Road.dst_ok (h.rs _ (nth_mem hk)) back
    refine Int.le_trans (f.2 _) ?_
    rw [mxL_nth t (by omega)]
    have := chN_road h s1 a b m.roads.length (Nat.le_refl _) hk
    omega
end Go.Ev

namespace Go.Ev
open Go
variable [Lib] [Has1] [Has2] [Has3] [Has4] [Has6] [Has7]
end Go.Ev

namespace Go.Ev
open Go
variable [Lib] [Has1] [Has2] [Has3] [Has4] [Has6] [Has7]
end Go.Ev

namespace Go.Ev
open Go
variable [Lib] [Has1] [Has2] [Has3] [Has4] [Has5] [Has6] [Has7] [Has8] [Has9] [Has10] [Has11]
def oddM (n : Int) (x : Mch) : Bool := !decide ((x.kind = 1 ∨ x.kind = 2) ∧ (0 ≤ x.num ∧ x.num ≤ 23) ∧ x.pl.length ≠ 0) || !setB x.pl n
def mchB (m : Mine) (l : List Mch) : Bool := decide (l.length ≤ 48) && !(l.any (oddM m.places.length))
theorem fVal1_ok {m : Mine} (h : m.ok) (x : Mch) (hx : x.pl.length ≤ 1000000) : CALL 0 N.firerules_Valid_1 [.t x.e, .bp 0 0] [.box (mineCells m)] = some (B (oddM m.places.length x), [.box (mineCells m)]) := by
  refine CALL_of K.t_firerules_Valid_1 rfl ?_
  have np := h.np
  have ri := rising_ok x.pl 0 (m.places.length - 1) (by omega)
  rw [ris_set] at ri
  have li := in_ok x.num 0 23
  unfold oddM
  obtain ⟨places, roads⟩ := m
  obtain ⟨kind, num, pl⟩ := x
  simp only at *
  generalize setB pl places.length = st at *
  by_cases k : kind = 1 ∨ kind = 2
  · by_cases c : 0 ≤ num ∧ num ≤ 23
    · have li : CALL 0 N.lists_In [I num, I 0, I 23] [] = some (B true, []) := by rw [li, decide_eq_true c]
      by_cases l : pl.length = 0
      · rcases k with rfl | rfl <;> simp (disch := omega) only [go_sem, K.firerules_Valid_1, ↓reduceIte, li, l, c, ne_eq, not_true_eq_false, and_false, decide_false, Bool.not_false, Bool.true_or, Nat.reduceAdd, Nat.reduceSub]
      · rcases k with rfl | rfl <;> cases st <;> simp (disch := omega) only [go_sem, K.firerules_Valid_1, ↓reduceIte, li, l, c, ri, ne_eq, not_false_eq_true, and_self, true_or, or_true, decide_true, Bool.not_true, Bool.false_or, Bool.not_false, Nat.reduceAdd, Nat.reduceSub]
    · have li : CALL 0 N.lists_In [I num, I 0, I 23] [] = some (B false, []) := by rw [li, decide_eq_false c]
      rcases k with rfl | rfl <;> simp (disch := omega) only [go_sem, K.firerules_Valid_1, ↓reduceIte, li, c, false_and, and_false, decide_false, Bool.not_false, Bool.true_or, Nat.reduceAdd, Nat.reduceSub]
  · have k1 : ¬ kind = 1 := fun e => k (.inl e)
    have k2 : ¬ kind = 2 := fun e => k (.inr e)
    simp (disch := omega) only [go_sem, K.firerules_Valid_1, ↓reduceIte, k1, k2, or_self, false_and, decide_false, Bool.not_false, Bool.true_or, Nat.reduceAdd, Nat.reduceSub]
theorem fVal_ok {m : Mine} (h : m.ok) (l : List Mch) (hl : l.length ≤ 1000000) (hs : ∀ x ∈ l, x.pl.length ≤ 1000000) : CALL 0 N.firerules_Valid [.t m.e, .t (.sl (l.map Mch.e))] [] = some (B (mchB m l), []) := by
  refine CALL_of K.t_firerules_Valid rfl ?_
  have v := planValid_ok h
  have cf := containsFuncM_ok l (by omega) N.firerules_Valid_1 [[.sl (m.places.map Place.e), .sl (m.roads.map Road.e)]] (oddM m.places.length) (fun x hx => fVal1_ok h x (hs x hx))
  have cf : CALL 0 N.slices_ContainsFunc_api_Machine_api_Machine [.t (.sl (l.map Mch.e)), .fn N.firerules_Valid_1 [.bp 0 0]] [.box (mineCells m)] = some (B (l.any (oddM m.places.length)), [.box (mineCells m)]) := cf
  unfold mchB
  obtain ⟨places, roads⟩ := m
  simp only at *
  generalize (l.any (oddM places.length)) = an at *
  by_cases c : l.length ≤ 48
  · cases an <;> simp (disch := omega) only [go_sem, K.firerules_Valid, ↓reduceIte, v, cf, c, decide_true, Bool.true_and, Nat.reduceAdd, Nat.reduceSub]
  · simp (disch := omega) only [go_sem, K.firerules_Valid, ↓reduceIte, v, c, decide_false, Bool.false_and, Nat.reduceAdd, Nat.reduceSub]
end Go.Ev

namespace Go.Ev
open Go
variable [Lib] [Has1] [Has2] [Has3] [Has4] [Has5] [Has6] [Has7] [Has8] [Has9] [Has10] [Has11]
end Go.Ev

namespace Go.Ev
open Go
variable [Lib] [Has1] [Has2] [Has3] [Has4] [Has5] [Has6] [Has7] [Has8] [Has9] [Has10] [Has11]
def cmdsF (m : Mine) (l : List Mch) (s : Wh) (b : Bel) (t a : Int) : List Int × Int :=
  if mchB m l = true ∧ validS m s = true ∧ belB m b = true then
    (if (0 ≤ t ∧ t ≤ 2147483648) ∧ (0 ≤ a ∧ a ≤ 2147483648) then (l.map fun x => cmdF x s b t a, 0) else ([], 8))
  else ([], 6)
theorem map_take_nth {α β : Type} [Dat α] (f : α → β) {l : List α} {j : Nat} (h : j < l.length) : (l.take (j + 1)).map f = (l.take j).map f ++ [f (nth l j)] := by
  rw [take_nth h, List.map_append]; rfl
section
variable {m : Mine} (hm : m.ok) (l : List Mch) (hl : l.length ≤ 1000) (hp : ∀ x ∈ l, x.pl.length ≤ 1000000) (s : Wh) (hs : s.frm.length ≤ 1000000) (b : Bel) (hb : b.sz) (t a : Int)
include hm hl hp hs hb
theorem cmdsP_loop (h1 : 0 ≤ t) (h2 : t ≤ 2147483648) (h3 : 0 ≤ a) (h4 : a ≤ 2147483648) : ∀ z0 z1 z2 z3 z9 z10 z12 : D, exS CALL K.firerules_Commands_l1 ⟨[z0, z1, z2, z3, I t, I a, .bp 0 0, .bp 1 0, .bp 2 0, z9, z10, .ref 3 0 0, z12, .t (.sl (l.map Mch.e)), I l.length, I 0], [.box (mineCells m), .box [I s.time, .t (tL s.frm)], .box [.t (.sl (b.worlds.map World.e))], .arr 1 false 0 []]⟩ =
    some (.exit 1, ⟨[.und, .und, .und, .und, I t, I a, .bp 0 0, .bp 1 0, .bp 2 0, .und, .und, .ref 3 0 (l.map fun x => cmdF x s b t a).length, .und, .t (.sl (l.map Mch.e)), I l.length, I l.length], [.box (mineCells m), .box [I s.time, .t (tL s.frm)], .box [.t (.sl (b.worlds.map World.e))], arr1 (l.map fun x => cmdF x s b t a)]⟩) := by
  intro z0 z1 z2 z3 z9 z10 z12
  have fin : l.map (fun x => cmdF x s b t a) = (l.take l.length).map (fun x => cmdF x s b t a) := by rw [List.take_length]
  rw [fin]
  refine loop_up (fun j => ⟨[.und, .und, .und, .und, I t, I a, .bp 0 0, .bp 1 0, .bp 2 0, .und, .und, .ref 3 0 ((l.take j).map fun x => cmdF x s b t a).length, .und, .t (.sl (l.map Mch.e)), I l.length, I j], [.box (mineCells m), .box [I s.time, .t (tL s.frm)], .box [.t (.sl (b.worlds.map World.e))], arr1 ((l.take j).map fun x => cmdF x s b t a)]⟩) l.length rfl ?_ ?_ (by simp)
  · intro j hj
    have ex : (l.map Mch.e)[j]? = some (nth l j).e := map_nth _ hj
    have c := cmd_ok m (nth l j) (hp _ (nth_mem hj)) s hs b hb t a (by omega) (by omega)
    have mt := map_take_nth (fun x => cmdF x s b t a) hj
    have ln : ((l.take j).map fun x => cmdF x s b t a).length ≤ 1000 := by rw [List.length_map, List.length_take]; omega
    simp only [mt]
    generalize (l.take j).map (fun x => cmdF x s b t a) = r at *
    generalize cmdF (nth l j) s b t a = v at *
    generalize nth l j = x at *
    obtain ⟨places, roads⟩ := m
    obtain ⟨kind, num, pl⟩ := x
    obtain ⟨time, frm⟩ := s
    obtain ⟨ws⟩ := b
    clear mt fin
    simp only [arr1] at *
    simp (disch := omega) only [go_sem, K.firerules_Commands_l1b, ↓reduceIte, ex, c, List.map_append, List.map_cons, List.map_nil, List.length_append, List.length_cons, List.length_nil, Nat.reduceAdd, Nat.reduceSub]
  · generalize (l.take l.length).map (fun x => cmdF x s b t a) = r at *
    simp only [arr1]
    simp (disch := omega) only [go_sem, K.firerules_Commands_l1b, ↓reduceIte, Nat.reduceAdd, Nat.reduceSub]
theorem cmdsP_ok : CALL 0 N.firerules_Commands [.t m.e, .t (.sl (l.map Mch.e)), .t s.e, .t b.e, I t, I a] [] = some (.tup [.t (tL (cmdsF m l s b t a).1), I (cmdsF m l s b t a).2], []) := by
  refine CALL_of K.t_firerules_Commands rfl ?_
  have v1 := fVal_ok hm l (by omega) hp
  have v2 := sValid_ok hm s hs
  have v3 := swValid_ok hm b hb
  have i1 := in_ok t 0 2147483648
  have i2 := in_ok a 0 2147483648
  have lp := cmdsP_loop hm l hl hp s hs b hb t a
  have mc : (l.map fun x => cmdF x s b t a).length ≤ 1000 := by rw [List.length_map]; exact hl
  unfold cmdsF
  generalize mchB m l = b1 at *
  generalize validS m s = b2 at *
  generalize belB m b = b3 at *
  generalize (l.map fun x => cmdF x s b t a) = r at *
  obtain ⟨places, roads⟩ := m
  obtain ⟨time, frm⟩ := s
  obtain ⟨ws⟩ := b
  simp only [arr1] at *
  clear hm hb hp
  cases b1 with
  | false => simp (disch := omega) only [go_sem, K.firerules_Commands, ↓reduceIte, v1, Bool.false_eq_true, false_and, Nat.reduceAdd, Nat.reduceSub] <;> try rfl
  | true =>
    cases b2 with
    | false => simp (disch := omega) only [go_sem, K.firerules_Commands, ↓reduceIte, v1, v2, Bool.false_eq_true, false_and, and_false, Nat.reduceAdd, Nat.reduceSub] <;> try rfl
    | true =>
      cases b3 with
      | false => simp (disch := omega) only [go_sem, K.firerules_Commands, ↓reduceIte, v1, v2, v3, Bool.false_eq_true, false_and, and_false, Nat.reduceAdd, Nat.reduceSub] <;> try rfl
      | true =>
        by_cases c1 : 0 ≤ t ∧ t ≤ 2147483648
        · rw [decide_eq_true c1] at i1
          by_cases c2 : 0 ≤ a ∧ a ≤ 2147483648
          · rw [decide_eq_true c2] at i2
            have lp := lp c1.1 c1.2 c2.1 c2.2
            simp (disch := omega) only [go_sem, K.firerules_Commands, ↓reduceIte, v1, v2, v3, i1, i2, c1, c2, lp, and_self, Nat.reduceAdd, Nat.reduceSub]
          · rw [decide_eq_false c2] at i2
            simp (disch := omega) only [go_sem, K.firerules_Commands, ↓reduceIte, v1, v2, v3, i1, i2, c1, c2, and_self, and_false, Nat.reduceAdd, Nat.reduceSub] <;> try rfl
        · rw [decide_eq_false c1] at i1
          simp (disch := omega) only [go_sem, K.firerules_Commands, ↓reduceIte, v1, v2, v3, i1, c1, and_self, false_and, Nat.reduceAdd, Nat.reduceSub] <;> try rfl
end
end Go.Ev

namespace Go.Ev
open Go
variable [Lib] [Has1] [Has2] [Has3] [Has4] [Has6] [Has7]
end Go.Ev

namespace Go.Ev
open Go
variable [Lib] [Has1] [Has2] [Has3] [Has4] [Has6] [Has7]
end Go.Ev

namespace Go.Ev
open Go
variable [Lib] [Has1] [Has2]
def sh (s x : Int) : Int := if x < 1099511627776 then x + s else x
def shL (s : Int) (l : List Int) : List Int := l.map (sh s)
@[simp] theorem shL_len (s : Int) (l : List Int) : (shL s l).length = l.length := List.length_map ..
end Go.Ev

namespace Go.Ev
open Go
variable [Lib] [Has1] [Has2] [Has3] [Has4] [Has5] [Has6] [Has7] [Has8] [Has9]
end Go.Ev

namespace Go.Ev
open Go
variable [Lib] [Has1] [Has2] [Has3] [Has4] [Has5] [Has6] [Has7] [Has8] [Has9]
theorem nth_snocL (l : List Int) (x : Int) {j : Nat} (hj : j < l.length) : nth (l ++ [x]) j = nth l j := by
  unfold nth; simp [List.getD_eq_getElem?_getD, List.getElem?_append_left hj]
theorem nth_snocR (l : List Int) (x : Int) : nth (l ++ [x]) l.length = x := by
  unfold nth; simp [List.getD_eq_getElem?_getD]
end Go.Ev

namespace Go.Ev
open Go
variable [Lib] [Has1] [Has2] [Has3] [Has4] [Has5] [Has6] [Has7] [Has8] [Has9]
end Go.Ev

namespace Go.Ev
open Go
variable [Lib] [Has1] [Has2] [Has3] [Has4] [Has5] [Has6] [Has7] [Has8] [Has9]
end Go.Ev

namespace Go.Ev
open Go
variable [Lib] [Has1] [Has2] [Has3] [Has4] [Has5] [Has6] [Has7] [Has8] [Has9]
end Go.Ev

namespace Go.Ev
open Go
variable [Lib] [Has1] [Has2] [Has3] [Has4] [Has5] [Has6] [Has7] [Has8] [Has9]
theorem setB_snoc {l : List Int} {n : Nat} (h : setB l n = true) : setB l ((n + 1 : Nat) : Int) = true ∧ setB (l ++ [(n : Int)]) ((n + 1 : Nat) : Int) = true := by
  simp only [setB, List.all_eq_true, List.mem_range, decide_eq_true_eq] at h ⊢
  refine ⟨fun j hj => ?_, fun j hj => ?_⟩
  · obtain ⟨a, b, c⟩ := h j hj; exact ⟨a, by omega, c⟩
  · by_cases c : j < l.length
    · obtain ⟨a, b, c⟩ := h j c
      rw [nth_snocL _ _ (by omega)]
      refine ⟨a, by omega, fun hj => ?_⟩
      rw [nth_snocL _ _ (by omega)]; exact c hj
    · have e : j = l.length := by simp at hj; omega
      subst e
      rw [nth_snocR]
      refine ⟨by omega, by omega, fun hj => ?_⟩
      rw [nth_snocL _ _ (by omega)]
      exact (h (l.length - 1) (by omega)).2.1
theorem someN_setB (d : Dice) : ∀ n : Nat, setB (d.someN n).1 n = true
  | 0 => rfl
  | n + 1 => by
    have ih := someN_setB d n
    have := setB_snoc ih
    simp only [Dice.someN]
    split
    · exact this.2
    · exact this.1
end Go.Ev

namespace Go.Ev
open Go
variable [Lib] [Has1] [Has2] [Has3] [Has4] [Has5] [Has6] [Has7] [Has8] [Has9] [Has10] [Has11]
theorem mch_in (d : Dice) (n : Nat) : (1 ≤ (d.mch n).1.kind ∧ (d.mch n).1.kind ≤ 2) ∧ 0 ≤ (d.mch n).1.num ∧ (d.mch n).1.num < 5 := by
  unfold Dice.mch
  simp only
  have a := d.next_lo 2
  have b := d.next_hi (n := 2) (by omega)
  have a2 := (d.next 2).2.next_lo 5
  have b2 := (d.next 2).2.next_hi (n := 5) (by omega)
  split <;> (simp only; omega)
theorem mch_set (d : Dice) {n : Nat} (hn : 1 ≤ n) : setB (d.mch n).1.pl n = true := by
  unfold Dice.mch
  simp only
  split
  · have a := ((((d.next 2).2.next 5).2).someN n).2.next_lo n
    have b := ((((d.next 2).2.next 5).2).someN n).2.next_hi (n := n) (by omega)
    exact setB_one a b
  · exact someN_setB _ n
theorem mch_even (d : Dice) {n : Nat} (hn : 1 ≤ n) : oddM n (d.mch n).1 = false := by
  have a := mch_in d n
  have b := mch_set d hn
  have c := d.mch_good hn
  unfold oddM
  rw [b]
  simp only [Bool.not_true, Bool.or_false, Bool.not_eq_false', decide_eq_true_eq]
  omega
theorem mchN_even (d : Dice) {n : Nat} (hn : 1 ≤ n) : ∀ k, ∀ y ∈ (d.mchN n k).1, oddM n y = false
  | 0, y, hy => by simp [Dice.mchN] at hy
  | k + 1, y, hy => by
    simp only [Dice.mchN, List.mem_append, List.mem_singleton] at hy
    rcases hy with hy | rfl
    · exact mchN_even d hn k y hy
    · exact mch_even _ hn
theorem mchs_x {d : Dice} (hd : d.light) {m : Mine} (hn : 1 ≤ m.places.length) (hn2 : m.places.length ≤ 1000) :
    ∃ (l : List Mch) (e : Dice), CALL 0 N.law40_some [.bp 0 0, .t m.e] [d.obj] = some (.t (.sl (l.map Mch.e)), [e.obj]) ∧ e.light ∧ l.length ≤ 3 ∧ (∀ x ∈ l, x.pl.length ≤ m.places.length) ∧ mchB m l = true := by
  have s9 := d.next_hi (n := 4) (by omega)
  have sl := Dice.mchN_len (d.next 4).2 m.places.length (d.next 4).1.toNat
  refine ⟨_, _, mchs_ok hn hn2 d hd, Dice.mchN_light (Dice.next_light hd 4) _ _, ?_, fun x hx => (Dice.mchN_good _ hn _ x hx).1, ?_⟩
  · show ((d.next 4).2.mchN m.places.length (d.next 4).1.toNat).1.length ≤ 3
    omega
  · have ev := mchN_even (d.next 4).2 hn (d.next 4).1.toNat
    show mchB m ((d.next 4).2.mchN m.places.length (d.next 4).1.toNat).1 = true
    unfold mchB
    rw [decide_eq_true (by omega), Bool.true_and, Bool.not_eq_true', List.any_eq_false]
    intro x hx
    rw [ev x hx]; simp
end Go.Ev

namespace Go.Ev
open Go
variable [Lib] [Has1] [Has2] [Has3] [Has4] [Has5] [Has6] [Has7] [Has8] [Has9] [Has10] [Has11]
theorem see_bel {m : Mine} (hm : m.ok) {b : Bel} (hb : belB m b = true) (tag : Int) (l : List Int) (a c : Int) : belB m (seeBel m b tag l a c).1 = true := by
  unfold seeBel
  split
  · exact hb
  · split
    · exact hb
    · split
      · exact hb
      · rename_i h
        obtain ⟨ws⟩ := b
        have bv := see_BV hm (bel_BV hb) tag l a c
        have ln := seeNb_len m tag l a c ws ws.length
        obtain ⟨h1, h2, -⟩ := belB_spec hb
        simp only at h1 h2 h ⊢
        exact bv.bel (by omega) (by omega)
theorem abs_bel {m : Mine} (hm : m.ok) {b : Bel} (hb : belB m b = true) (tag : Int) (l : List Int) (a c bl : Int) : belB m (absBel m b tag l a c bl).1 = true := by
  unfold absBel
  split
  · exact hb
  · split
    · exact hb
    · obtain ⟨ws⟩ := b
      have bv := abs_BV hm (bel_BV hb) tag l a c bl
      have ln := absNb_len m tag l a c bl ws ws.length
      obtain ⟨h1, h2, -⟩ := belB_spec hb
      simp only at h1 h2 ⊢
      exact bv.bel (by omega) (by omega)
theorem exch_bel {m : Mine} (hm : m.ok) {b : Bel} (hb : belB m b = true) (i j t : Int) : belB m (exchBel m b i j t).1 = true := by
  unfold exchBel
  split
  · exact hb
  · split
    · exact hb
    · rename_i hij
      split
      · exact hb
      · split
        · exact hb
        · rename_i hl
          obtain ⟨ws⟩ := b
          have bv := bel_BV hb
          obtain ⟨h1, h2, -⟩ := belB_spec hb
          simp only at h1 h2 hl hij ⊢
          have nb := exchNb_WV hm bv.wv (i := i.toNat) (j := j.toNat) (by omega) (by omega) t ws.length (Nat.le_refl _)
          have el := exchNb_len i.toNat j.toNat t ws ws.length
          have tv := tidyN_BV hm bv.pr bv.f1 bv.f2 nb _ (Nat.le_refl _)
          refine BV.bel tv ?_ (Nat.not_lt.1 hl)
          have t1 : ∀ k, 1 ≤ k → 1 ≤ (tidyN (exchNb i.toNat j.toNat t ws ws.length) k).length := by
            intro k hk
            obtain ⟨k, rfl⟩ : ∃ k', k = k' + 1 := ⟨k - 1, by omega⟩
            exact (tidy1_len _ _).2.2
          exact t1 _ (by omega)
theorem belN_valid {m : Mine} (hm : m.ok) {n : Int} {s : BSt} (hb : belB m s.b = true) : ∀ k, belB m (Dice.belN m n s k).b = true
  | 0 => hb
  | k + 1 => by
    have ih := belN_valid hm (n := n) hb k
    simp only [Dice.belN]
    generalize Dice.belN m n s k = q at *
    unfold Dice.belStep
    simp only
    split
    · simp only
      split
      · exact exch_bel hm ih _ _ _
      · exact ih
    · split
      · simp only
        split
        · exact see_bel hm ih _ _ _ _
        · exact ih
      · simp only
        split
        · exact abs_bel hm ih _ _ _ _ _
        · exact ih
theorem bel0_valid {m : Mine} (hm : m.ok) (h1 : 1 ≤ m.places.length) (d : Dice) : belB m (d.bel0 m).b = true := by
  have pb := belP_bd d
  have tl := tagsN_len d.belP
  have sl : (d.belS m).1.length = d.belP := Dice.nextsN_len _ _ _
  have t0 := (d.belS m).2.next_lo 100
  have t9 := (d.belS m).2.next_hi (n := 100) (by omega)
  have pr := tagsN_proper (n := d.belP) (by omega)
  unfold Dice.bel0
  rw [bel0_is hm h1]
  refine BV.bel (first := tagsN d.belP) ⟨pr, by omega, by omega, fun x hx => ?_, by simp⟩ (by simp) (by simp)
  rw [List.mem_singleton.1 hx]
  refine ⟨List.Perm.refl _, by simp, fun w hw => ?_⟩
  simp only [startWs, List.mem_map, List.mem_range] at hw
  obtain ⟨i, hi, rfl⟩ := hw
  have hi : i < (d.belS m).1.length := by rw [sl, ← tl]; exact hi
  have := nextsN_in (d.next 3).2 (n := m.places.length) (by omega) d.belP _ (nth_mem hi)
  exact (start_valid hm this.1 this.2 ⟨by omega, by omega⟩).2
theorem belief_valid {m : Mine} (hm : m.ok) (h1 : 1 ≤ m.places.length) (d : Dice) : belB m (d.belief m).1 = true := belN_valid hm (bel0_valid hm h1 d) _
theorem belief_v {d : Dice} (hd : d.light) {m : Mine} (hm : m.ok) (h1 : 1 ≤ m.places.length) :
    ∃ (b : Bel) (e : Dice) (np : Nat), CALL 0 N.made_Dice_Belief [.bp 0 0, .t m.e] [d.obj] = some (.t b.e, [e.obj]) ∧ e.light ∧ BOk m np b ∧ belB m b = true :=
  ⟨_, _, _, belief_ok hm h1 d hd, (belF_good hm h1 hd).2, (belF_good hm h1 hd).1, belief_valid hm h1 d⟩
theorem spread_valid {m : Mine} (hm : m.ok) (h1 : 1 ≤ m.places.length) (d : Dice) {fl : List Spn} (hf : flowsB m fl = true) : validS m (d.spread m fl).1 = true := by
  unfold Dice.spread
  simp only
  have p0 := d.next_lo m.places.length
  have p9 := d.next_hi (n := m.places.length) (by omega)
  have t0 := (d.next m.places.length).2.next_lo 200
  have t9 := (d.next m.places.length).2.next_hi (n := 200) (by omega)
  obtain ⟨s, e1, sg, st, -⟩ := startS_facts hm hf (l := [(d.next m.places.length).1]) (setB_one p0 p9) (t := ((d.next m.places.length).2.next 200).1) ⟨by omega, by omega⟩
  rw [e1]
  simp only
  split
  · generalize (((d.next m.places.length).2.next 200).2.one 2).2 = o
    have fg := Dice.flowsN_good o m.roads.length
    have fl2 := Dice.flowsN_len o m.roads.length
    have a0 := (o.flows m).2.next_lo 100
    have a9 := (o.flows m).2.next_hi (n := 100) (by omega)
    split
    · rename_i hr
      obtain ⟨s', e2, sg2, -⟩ := changeS_facts hm hf hm (fl := (o.flows m).1) (flowsB_of fl2 fg) rfl sg.valid (t := s.time + ((o.flows m).2.next 100).1) (by omega) (by omega)
      rw [e2]
      exact sg2.valid
    · exact sg.valid
  · exact sg.valid
theorem spread_v {d : Dice} (hd : d.light) {m : Mine} (hm : m.ok) (h1 : 1 ≤ m.places.length) {fl : List Spn} (f1 : fl.length = m.roads.length) (f2 : ∀ x ∈ fl, x.ok) :
    ∃ (s : Wh) (e : Dice), CALL 0 N.made_Dice_Spread [.bp 0 0, .t m.e, .t (tS fl)] [d.obj] = some (.t s.e, [e.obj]) ∧ e.light ∧ s.frm.length = m.places.length ∧ 0 ≤ s.time ∧ s.time ≤ 300 ∧ validS m s = true := by
  have g := Dice.spread_good (d := d) hm h1 (flB_of f1 f2)
  have nr := hm.nr
  exact ⟨_, _, spread_ok hm h1 fl (by omega) d hd, Dice.spread_light hd m fl, g.1, g.2.1, g.2.2, spread_valid hm h1 d (flB_of f1 f2)⟩
end Go.Ev

namespace Go.Ev
open Go
variable [Lib] [Has1] [Has2] [Has3] [Has4] [Has5] [Has6] [Has7] [Has8] [Has9] [Has10] [Has11]
abbrev moS (e : Dice) (m : Mine) (l : List Mch) (s : Wh) (ws : List World) (q : List Int) (j : Int) : St :=
  ⟨[.und, .und, .bp 0 0, .bp 1 0, .t (.sl (l.map Mch.e)), .bp 2 0, .bp 3 0, .bp 4 0, I j, .und, .und, .und, .und, .und, .und, .und, .und, .und],
   [e.obj, .box (mineCells m), .box [I s.time, .t (tL s.frm)], .box [.t (.sl (ws.map World.e))], .box [I s.time, .ref 6 0 q.length], .arr 1 false 0 [], arr1 q]⟩
def moP (m : Mine) (l : List Mch) (s : Wh) (ws : List World) (j : Nat) (st : St) : Prop :=
  ∃ (e : Dice) (q : List Int), st = moS e m l s ws q j ∧ e.light ∧ q.length = j ∧ ∀ i, i < j → nth q i ≤ nth s.frm i ∧ plS s.time (nth q i)
theorem nth_snoc {q : List Int} {x : Int} {i : Nat} (h : i < q.length + 1) : nth (q ++ [x]) i = if i < q.length then nth q i else x := by
  unfold nth
  simp only [List.getD_eq_getElem?_getD]
  split
  · rw [List.getElem?_append_left (by assumption)]
  · rw [List.getElem?_append_right (by omega), show i - q.length = 0 by omega]; rfl
theorem mo_round (m : Mine) (l : List Mch) {s : Wh} (hs : s.frm.length ≤ 64) (t0 : 0 ≤ s.time) (t9 : s.time ≤ 300) (hv : ∀ x ∈ s.frm, plS s.time x) (ws : List World) {j : Nat} (hj : j < s.frm.length) {st : St} (hP : moP m l s ws j st) :
    ∃ st', roundC true [0, 1, 9, 10, 11, 12, 13, 14, 15, 16, 17] st.H.length (exS CALL K.law40_FireRulesMore_l1b st) = some st' ∧ moP m l s ws (j + 1) st' := by
  obtain ⟨e, q, rfl, el, ql, qf⟩ := hP
  obtain ⟨b, e1, bo, l1⟩ := one_x el 3 (by omega) (by omega)
  have v := hv _ (nth_mem hj)
  have fin : ∀ x : Int, x ≤ nth s.frm j → plS s.time x → ∀ i, i < j + 1 → nth (q ++ [x]) i ≤ nth s.frm i ∧ plS s.time (nth (q ++ [x]) i) := by
    intro x h1 h2 i hi
    rw [nth_snoc (by omega)]
    split
    · exact qf i (by omega)
    · rw [show i = j by omega]; exact ⟨h1, h2⟩
  cases b with
  | false =>
    refine ⟨moS e1 m l s ws (q ++ [nth s.frm j]) ((j + 1 : Nat) : Int), ?_, e1, _, rfl, l1, by simp [ql], fin _ (Int.le_refl _) v⟩
    generalize hx : nth s.frm j = x at *
    clear fin qf hv
    obtain ⟨time, frm⟩ := s
    simp only [moS, arr1] at *
    simp (disch := omega) only [go_sem, K.law40_FireRulesMore_l1b, ↓reduceIte, bo, hx, Bool.false_eq_true, List.map_append, List.map_cons, List.map_nil, List.length_append, List.length_cons, List.length_nil, Nat.reduceAdd, Nat.reduceSub]
  | true =>
    obtain ⟨r, e2, ro, l2, r0, r9⟩ := next_x l1 300 (by omega) (by omega)
    refine ⟨moS e2 m l s ws (q ++ [min (nth s.frm j) (s.time + r)]) ((j + 1 : Nat) : Int), ?_, e2, _, rfl, l2, by simp [ql], fin _ (Int.min_le_left _ _) ?_⟩
    · generalize hx : nth s.frm j = x at *
      clear fin qf hv
      obtain ⟨time, frm⟩ := s
      simp only [moS, arr1] at *
      simp (disch := omega) only [go_sem, K.law40_FireRulesMore_l1b, ↓reduceIte, bo, ro, hx, List.map_append, List.map_cons, List.map_nil, List.length_append, List.length_cons, List.length_nil, Nat.reduceAdd, Nat.reduceSub]
    · unfold plS at v ⊢
      omega
end Go.Ev

namespace Go.Ev
open Go
variable [Lib] [Has1] [Has2] [Has3] [Has4] [Has5] [Has6] [Has7] [Has8] [Has9] [Has10] [Has11]
theorem mo_loop {e0 : Dice} (l0 : e0.light) (m : Mine) (l : List Mch) {s : Wh} (hs : s.frm.length ≤ 64) (t0 : 0 ≤ s.time) (t9 : s.time ≤ 300) (hv : ∀ x ∈ s.frm, plS s.time x) (ws : List World) :
    ∃ (e : Dice) (q : List Int), e.light ∧ q.length = s.frm.length ∧ (∀ i, i < s.frm.length → nth q i ≤ nth s.frm i ∧ plS s.time (nth q i)) ∧
    ∀ z0 z1 z9 z10 z11 z12 z13 z14 z15 z16 z17 : D, exS CALL K.law40_FireRulesMore_l1 ⟨[z0, z1, .bp 0 0, .bp 1 0, .t (.sl (l.map Mch.e)), .bp 2 0, .bp 3 0, .bp 4 0, I 0, z9, z10, z11, z12, z13, z14, z15, z16, z17],
      [e0.obj, .box (mineCells m), .box [I s.time, .t (tL s.frm)], .box [.t (.sl (ws.map World.e))], .box [I s.time, .ref 6 0 0], .arr 1 false 0 [], .arr 1 false 0 []]⟩ = some (.exit 0, moS e m l s ws q s.frm.length) := by
  have key : ∀ z0 z1 z9 z10 z11 z12 z13 z14 z15 z16 z17 : D, ∃ r, exS CALL K.law40_FireRulesMore_l1 ⟨[z0, z1, .bp 0 0, .bp 1 0, .t (.sl (l.map Mch.e)), .bp 2 0, .bp 3 0, .bp 4 0, I 0, z9, z10, z11, z12, z13, z14, z15, z16, z17],
      [e0.obj, .box (mineCells m), .box [I s.time, .t (tL s.frm)], .box [.t (.sl (ws.map World.e))], .box [I s.time, .ref 6 0 0], .arr 1 false 0 [], .arr 1 false 0 []]⟩ = some r ∧
      ∃ (e : Dice) (q : List Int), r = (.exit 0, moS e m l s ws q s.frm.length) ∧ e.light ∧ q.length = s.frm.length ∧ (∀ i, i < s.frm.length → nth q i ≤ nth s.frm i ∧ plS s.time (nth q i)) := by
    intro z0 z1 z9 z10 z11 z12 z13 z14 z15 z16 z17
    refine loop_x (moP m l s ws) s.frm.length _ ?_ ?_ ?_
    · exact ⟨e0, [], rfl, l0, rfl, fun i hi => by omega⟩
    · intro j st hj hP
      exact .inl (mo_round m l hs t0 t9 hv ws hj hP)
    · rintro st ⟨e, q, rfl, a⟩
      refine ⟨(.exit 0, moS e m l s ws q s.frm.length), ?_, by simp, e, q, rfl, a⟩
      obtain ⟨time, frm⟩ := s
      simp only [moS, arr1]
      simp (disch := omega) only [go_sem, K.law40_FireRulesMore_l1b, ↓reduceIte, Nat.reduceAdd, Nat.reduceSub]
  obtain ⟨r, hr, e, q, rfl, a, b, c⟩ := key .und .und .und .und .und .und .und .und .und .und .und
  exact ⟨e, q, a, b, c, fun z0 z1 z9 z10 z11 z12 z13 z14 z15 z16 z17 => by
    rw [← hr]
    show loopC true _ _ ⟨dropV _ _, _⟩ = loopC true _ _ ⟨dropV _ _, _⟩
    simp (disch := omega) only [go_sem, Nat.reduceAdd, Nat.reduceSub]⟩
theorem meets_sooner {s q : Wh} (hl : q.frm.length = s.frm.length) (h : ∀ i, i < s.frm.length → nth q.frm i ≤ nth s.frm i) {t : Int} {l : List Int} (hm : meetsB (possF s t) l = true) : meetsB (possF q t) l = true := by
  obtain ⟨p, h1, h2⟩ := meetsB_iff.1 hm
  obtain ⟨a, b, c⟩ := mem_possF.1 h1
  refine meetsB_iff.2 ⟨p, mem_possF.2 ⟨a, by omega, ?_⟩, h2⟩
  have := h p.toNat (by omega)
  omega
theorem cmd_sooner {x : Mch} {s q : Wh} {b : Bel} (hl : q.frm.length = s.frm.length) (h : ∀ i, i < s.frm.length → nth q.frm i ≤ nth s.frm i) {t a : Int} (ha : 0 ≤ a) :
    (cmdF x s b t a = 2 → cmdF x q b t a = 2) ∧ (cmdF x s b t a = 1 → cmdF x q b t a = 2 ∨ cmdF x q b t a = 1) :=
  ⟨fun e => cmd_2.2 (meets_sooner hl h (cmd_2.1 e)), fun e => (cmd_12 ha).2 (meets_sooner hl h ((cmd_12 ha).1 (.inr e)))⟩
abbrev moH (e : Dice) (m : Mine) (s : Wh) (ws : List World) (q : List Int) (p : Bool) : Heap :=
  [e.obj, .box (mineCells m), .box [I s.time, .t (tL s.frm)], .box [.t (.sl (ws.map World.e))], .box [I s.time, .ref 6 0 q.length], .arr 1 false 0 [], .arr 1 p 0 ((q.map (T.int .i64)).map .t)]
theorem mo_check (l : List Mch) (hl : l.length ≤ 1000) (x y : List Int) (xl : x.length = l.length) (yl : y.length = l.length) (h : ∀ i, i < l.length → (nth x i = 2 → nth y i = 2) ∧ (nth x i = 1 → nth y i = 2 ∨ nth y i = 1)) (e : Dice) (m : Mine) (s : Wh) (ws : List World) (q : List Int) (p : Bool) :
    ∀ z0 z1 z2 z3 z5 z6 z7 z8 z9 z10 z11 z13 z15 z17 : D, exS CALL K.law40_FireRulesMore_l2 ⟨[z0, z1, z2, z3, .t (.sl (l.map Mch.e)), z5, z6, z7, z8, z9, z10, z11, .t (tL x), z13, .t (tL y), z15, I 0, z17], moH e m s ws q p⟩ =
    some (.exit 2, ⟨[.und, .und, .und, .und, .t (.sl (l.map Mch.e)), .und, .und, .und, .und, .und, .und, .und, .t (tL x), .und, .t (tL y), .und, I l.length, .und], moH e m s ws q p⟩) := by
  intro z0 z1 z2 z3 z5 z6 z7 z8 z9 z10 z11 z13 z15 z17
  refine loop_up (fun j => ⟨[.und, .und, .und, .und, .t (.sl (l.map Mch.e)), .und, .und, .und, .und, .und, .und, .und, .t (tL x), .und, .t (tL y), .und, I j, .und], moH e m s ws q p⟩) l.length rfl ?_ ?_ (by simp)
  · intro j hj
    obtain ⟨h1, h2⟩ := h j hj
    have ex : (x.map (T.int .i64))[j]? = some (.int .i64 (nth x j)) := map_nth _ (by omega)
    have ey : (y.map (T.int .i64))[j]? = some (.int .i64 (nth y j)) := map_nth _ (by omega)
    clear h
    generalize nth x j = a at *
    generalize nth y j = b at *
    simp only [moH]
    by_cases a2 : a = 2
    · have b2 := h1 a2
      simp (disch := omega) only [go_sem, K.law40_FireRulesMore_l2b, ↓reduceIte, ex, ey, a2, b2, Bool.false_eq_true, Nat.reduceAdd, Nat.reduceSub]
    · by_cases a1 : a = 1
      · rcases h2 a1 with b2 | b1
        · simp (disch := omega) only [go_sem, K.law40_FireRulesMore_l2b, ↓reduceIte, ex, ey, a1, b2, Bool.false_eq_true, Nat.reduceAdd, Nat.reduceSub]
        · simp (disch := omega) only [go_sem, K.law40_FireRulesMore_l2b, ↓reduceIte, ex, ey, a1, b1, Bool.false_eq_true, Nat.reduceAdd, Nat.reduceSub]
      · by_cases b2 : b = 2
        · simp (disch := omega) only [go_sem, K.law40_FireRulesMore_l2b, ↓reduceIte, ex, ey, a1, a2, b2, Bool.false_eq_true, Nat.reduceAdd, Nat.reduceSub]
        · simp (disch := omega) only [go_sem, K.law40_FireRulesMore_l2b, ↓reduceIte, ex, ey, a1, a2, b2, Bool.false_eq_true, Nat.reduceAdd, Nat.reduceSub]
  · simp only [moH]
    simp (disch := omega) only [go_sem, K.law40_FireRulesMore_l2b, ↓reduceIte, Nat.reduceAdd, Nat.reduceSub]
theorem cmdsF_is {m : Mine} {l : List Mch} {s : Wh} {b : Bel} {t a : Int} (h1 : mchB m l = true) (h2 : validS m s = true) (h3 : belB m b = true) (ht : 0 ≤ t ∧ t ≤ 2147483648) (ha : 0 ≤ a ∧ a ≤ 2147483648) : cmdsF m l s b t a = (l.map fun x => cmdF x s b t a, 0) := by
  unfold cmdsF; rw [if_pos ⟨h1, h2, h3⟩, if_pos ⟨ht, ha⟩]
theorem nth_mapM {f : Mch → Int} {l : List Mch} {i : Nat} (h : i < l.length) : nth (l.map f) i = f (nth l i) := nth_eq (by rw [List.getElem?_map, nth_some h]; rfl)
theorem FireRulesMore_law (aw : CALL 0 N.law40_awake [] [] = some (B true, [])) (li : List Int) : CALL 0 N.law40_FireRulesMore [.t (tL li)] [] = some (B true, []) := by
  refine CALL_of K.t_law40_FireRulesMore rfl ?_
  have lo := light_ok li
  by_cases c : li.length ≤ 400
  · simp only [c, decide_true] at lo
    have ro := roll_x li
    have d0 : (Dice.mk li 0).light := c
    generalize (Dice.mk li 0) = d at *
    obtain ⟨m, e1, mo, l1, hm, p1, p2, r1, r2⟩ := mine_x d0
    obtain ⟨l, e2, so, l2, ll, lp, lv⟩ := mchs_x l1 (m := m) (by omega) (by omega)
    obtain ⟨fl, e3, fo, l3, f1, f2⟩ := flows_x l2 hm
    obtain ⟨s, e4, po, l4, s1, s2, s3, sv⟩ := spread_v l3 hm (by omega) f1 f2
    obtain ⟨b, e5, np, bo, l5, bg, bv⟩ := belief_v l4 hm (by omega)
    obtain ⟨-, -, sp⟩ := validS_spec sv
    obtain ⟨e6, q, l6, ql, qf, loop⟩ := mo_loop l5 m l (s := s) (by omega) s2 s3 sp b.worlds
    obtain ⟨n, e7, no, l7, n0, n9⟩ := next_x l6 300 (by omega) (by omega)
    obtain ⟨a, e8, ao, l8, am⟩ := of_x l7 [0, 60] (by simp) (by simp)
    have sz := bg.sz hm
    have lp : ∀ x ∈ l, x.pl.length ≤ 1000000 := fun x hx => by have := lp x hx; omega
    simp only [List.mem_cons, List.not_mem_nil, or_false] at am
    have qv : validS m ⟨s.time, q⟩ = true := by
      simp only [validS, Bool.and_eq_true, decide_eq_true_eq, List.all_eq_true, List.mem_range]
      exact ⟨fun j hj => (qf j (by omega)).2, by omega, by unfold inT; omega⟩
    have c1 := cmdsP_ok hm l (by omega) lp s (by omega) b sz (s.time + n) a
    have c2 := cmdsP_ok hm l (by omega) lp ⟨s.time, q⟩ (by simp only; omega) b sz (s.time + n) a
    rw [cmdsF_is lv sv bv ⟨by omega, by omega⟩ ⟨by omega, by omega⟩] at c1
    rw [cmdsF_is lv qv bv ⟨by omega, by omega⟩ ⟨by omega, by omega⟩] at c2
    have ck := mo_check l (by omega) (l.map fun x => cmdF x s b (s.time + n) a) (l.map fun x => cmdF x ⟨s.time, q⟩ b (s.time + n) a) (by simp) (by simp) (fun i hi => by
      rw [nth_mapM hi, nth_mapM hi]
      exact cmd_sooner (by simpa using ql) (fun i hi => (qf i hi).1) (by omega)) e8 m s b.worlds q true
    have x1 : (l.map fun x => cmdF x s b (s.time + n) a).length = l.length := by simp
    have x2 : (l.map fun x => cmdF x ⟨s.time, q⟩ b (s.time + n) a).length = l.length := by simp
    generalize (l.map fun x => cmdF x s b (s.time + n) a) = r1 at *
    generalize (l.map fun x => cmdF x ⟨s.time, q⟩ b (s.time + n) a) = r2 at *
    clear am qf sp lp qv sv bv lv
    obtain ⟨ws⟩ := b
    obtain ⟨time, frm⟩ := s
    obtain ⟨places, roads⟩ := m
    simp only [moS, moH, arr1, tL, List.map_cons, List.map_nil] at *
    simp (disch := omega) only [go_sem, K.law40_FireRulesMore, ↓reduceIte, lo, ro, mo, so, fo, po, bo, loop, no, ao, c1, c2, x1, x2, ck, aw, Bool.false_eq_true, Nat.reduceAdd, Nat.reduceSub]
  · simp only [c, decide_false] at lo
    simp (disch := omega) only [go_sem, K.law40_FireRulesMore, ↓reduceIte, lo, aw, Nat.reduceAdd, Nat.reduceSub]
end Go.Ev

