/- Parts of the proof: see the text that holds the theorem. -/
import Derived.Test.YtddpkhnllojfpaaGreatZ4
set_option linter.all false
set_option maxRecDepth 100000
/- Chapter 28 of the references: smoke. -/
namespace Go.Ev
open Go
variable [Lib] [Has1] [Has2]

structure Spn where
  low : Int
  high : Int
instance : Dat Spn := ⟨⟨0, 0⟩⟩
abbrev Spn.e (f : Spn) : T := .agg [tI f.low, tI f.high]
abbrev tS (l : List Spn) : T := .sl (l.map Spn.e)

def Spn.ok (f : Spn) : Prop := -1125899906842624 ≤ f.low ∧ f.high ≤ 1125899906842624 ∧ f.low ≤ f.high
instance (f : Spn) : Decidable f.ok := by unfold Spn.ok; infer_instance

theorem span28_ok (f : Spn) : CALL 0 N.ref28_Span [.t f.e] [] = some (B (decide f.ok), []) := by
  refine CALL_of K.t_ref28_Span rfl ?_
  unfold Spn.ok
  by_cases h1 : -1125899906842624 ≤ f.low <;> by_cases h2 : f.high ≤ 1125899906842624 <;> by_cases h3 : f.low ≤ f.high <;> simp (disch := omega) only [go_sem, K.ref28_Span, ↓reduceIte, h1, h2, h3]

def flowsB (m : Mine) (l : List Spn) : Bool := (List.range l.length).all (fun j => decide (nth l j).ok) && decide (l.length = m.roads.length)

theorem flowsB_spec {m : Mine} {l : List Spn} (h : flowsB m l = true) : l.length = m.roads.length ∧ ∀ j, j < l.length → (nth l j).ok := by
  simp only [flowsB, Bool.and_eq_true, decide_eq_true_eq, List.all_eq_true, List.mem_range] at h
  exact ⟨h.2, h.1⟩

theorem flows_ok (m : Mine) (hm : m.roads.length ≤ 1000000) (l : List Spn) (hl : l.length ≤ 1000000) : CALL 0 N.ref28_Flows [.t m.e, .t (tS l)] [] = some (B (flowsB m l), []) := by
  refine CALL_of K.t_ref28_Flows rfl ?_
  have loop : ∀ a b : D, exS CALL K.ref28_Flows_l1 ⟨[a, .t (tS l), .bp 0 0, b, I 0], [.box (mineCells m)]⟩ =
      some (match (List.range l.length).find? (fun j => !decide (nth l j).ok) with
        | some j => (.ret, ⟨[.und, .t (tS l), .bp 0 0, B false, I j], [.box (mineCells m)]⟩)
        | none => (.exit 0, ⟨[.und, .t (tS l), .bp 0 0, .und, I l.length], [.box (mineCells m)]⟩)) := by
    intro a b
    refine loop_first (fun j => ⟨[.und, .t (tS l), .bp 0 0, .und, I j], [.box (mineCells m)]⟩) l.length (fun j => !decide (nth l j).ok) _ _ rfl ?_ ?_ ?_ (by simp)
    · intro j hj hp
      have s := span28_ok (nth l j)
      have hp : (nth l j).ok := by simpa using hp
      simp only [hp, decide_true] at s
      simp (disch := omega) only [go_sem, K.ref28_Flows_l1b, ↓reduceIte, s]
    · intro j hj hp
      have s := span28_ok (nth l j)
      have hp : ¬ (nth l j).ok := by simpa using hp
      simp only [hp, decide_false] at s
      simp (disch := omega) only [go_sem, K.ref28_Flows_l1b, ↓reduceIte, s]
      simp
    · simp (disch := omega) only [go_sem, K.ref28_Flows_l1b, ↓reduceIte]
  unfold flowsB
  rw [find_all]
  simp (disch := omega) only [go_sem, K.ref28_Flows, ↓reduceIte, loop]
  cases hf : (List.range l.length).find? (fun j => !decide (nth l j).ok) with
  | some j => simp (disch := omega) only [go_sem, ↓reduceIte, Option.isNone, Bool.false_and]
  | none =>
    by_cases he : l.length = m.roads.length
    · simp (disch := omega) only [go_sem, ↓reduceIte, Option.isNone, he, Bool.true_and, decide_true]
    · simp (disch := omega) only [go_sem, ↓reduceIte, Option.isNone, he, Bool.true_and, decide_false]

/-- How long smoke travels. -/
def travelF (x : Road) (f : Spn) (back : Bool) : Int :=
  if x.closed = true then -1 else
  let g := if back then -f.low else f.high
  let out := if 0 < g then (x.len * x.area * 1000).tdiv g else -1
  if (if back then f.low < 500 * x.area else -500 * x.area < f.high) ∧ (out < 0 ∨ x.len < out) then x.len else out

theorem travelF_bd {n : Nat} {x : Road} (h : x.ok n) {f : Spn} (back : Bool) : -1 ≤ travelF x f back ∧ travelF x f back ≤ 100000000000 := by
  have l0 := h.l0; have l1 := h.l1; have a0 := h.a0; have a1 := h.a1
  have hm : 0 ≤ x.len * x.area := Int.mul_nonneg (by omega) (by omega)
  have hm2 : x.len * x.area ≤ 100000 * 1000 := Int.mul_le_mul l1 a1 (by omega) (by omega)
  unfold travelF
  simp only
  split
  · omega
  · have key : ∀ g : Int, -1 ≤ (if 0 < g then (x.len * x.area * 1000).tdiv g else -1) ∧ (if 0 < g then (x.len * x.area * 1000).tdiv g else -1) ≤ 100000000000 := by
      intro g
      split
      · have := tdiv_bd (a := x.len * x.area * 1000) (b := g) (by omega) (by omega)
        omega
      · omega
    cases back with
    | false =>
      have k := key f.high
      simp only [Bool.false_eq_true, ↓reduceIte]
      generalize (if 0 < f.high then (x.len * x.area * 1000).tdiv f.high else -1) = o at *
      split <;> omega
    | true =>
      have k := key (-f.low)
      simp only [↓reduceIte]
      generalize (if 0 < -f.low then (x.len * x.area * 1000).tdiv (-f.low) else -1) = o at *
      split <;> omega

theorem travel_ok {m : Mine} (h : m.ok) (k : Nat) (hk : k < m.roads.length) (f : Spn) (hf : f.ok) (back : Bool) :
    CALL 0 N.ref28_Travel [.t m.e, I k, .t f.e, B back] [] = some (I (travelF (nth m.roads k) f back), []) := by
  refine CALL_of K.t_ref28_Travel rfl ?_
  have nr := h.nr
  have ok := h.rs _ (nth_mem hk)
  obtain ⟨lo, hi⟩ := f
  unfold Spn.ok at hf
  unfold travelF
  generalize hx : nth m.roads k = x at *
  have l0 := ok.l0; have l1 := ok.l1; have a0 := ok.a0; have a1 := ok.a1
  obtain ⟨frm, to, len, area, walk, closed, rl, rh, ll, lh⟩ := x
  simp only at l0 l1 a0 a1 hf ⊢
  clear ok
  have hm : 0 ≤ len * area := Int.mul_nonneg (by omega) (by omega)
  have hm2 : len * area ≤ 100000 * 1000 := Int.mul_le_mul l1 a1 (by omega) (by omega)
  cases closed with
  | true => simp (disch := omega) only [go_sem, K.ref28_Travel, ↓reduceIte, hx]
  | false =>
    cases back with
    | false =>
      by_cases c1 : 0 < hi
      · have g1 := tdiv_bd (a := len * area * 1000) (b := hi) (by omega) (by omega)
        by_cases c2 : len < (len * area * 1000).tdiv hi
        · simp (disch := omega) only [go_sem, K.ref28_Travel, ↓reduceIte, hx, c1, c2, and_self, or_true, and_true, Bool.false_eq_true]
        · simp (disch := omega) only [go_sem, K.ref28_Travel, ↓reduceIte, hx, c1, c2, and_self, or_false, and_true, and_false, Bool.false_eq_true]
      · by_cases c2 : -500 * area < hi
        · simp (disch := omega) only [go_sem, K.ref28_Travel, ↓reduceIte, hx, c1, c2, and_self, true_or, and_true, Bool.false_eq_true]
        · simp (disch := omega) only [go_sem, K.ref28_Travel, ↓reduceIte, hx, c1, c2, false_and, Bool.false_eq_true]
    | true =>
      have w : IntKind.i64.wrap (-lo) = -lo := wrap_id (by omega) (by omega)
      by_cases c1 : 0 < -lo
      · have g1 := tdiv_bd (a := len * area * 1000) (b := -lo) (by omega) (by omega)
        by_cases c2 : len < (len * area * 1000).tdiv (-lo)
        · simp (disch := omega) only [go_sem, K.ref28_Travel, ↓reduceIte, hx, c1, c2, w, Int.zero_sub, and_self, or_true, and_true, Bool.false_eq_true]
        · simp (disch := omega) only [go_sem, K.ref28_Travel, ↓reduceIte, hx, c1, c2, w, Int.zero_sub, and_self, or_false, and_true, and_false, Bool.false_eq_true]
      · by_cases c2 : lo < 500 * area
        · simp (disch := omega) only [go_sem, K.ref28_Travel, ↓reduceIte, hx, c1, c2, w, Int.zero_sub, and_self, true_or, and_true, Bool.false_eq_true]
        · simp (disch := omega) only [go_sem, K.ref28_Travel, ↓reduceIte, hx, c1, c2, w, Int.zero_sub, false_and, Bool.false_eq_true]

end Go.Ev

/- Chapter 28 of the references: closing times of smoke. -/
namespace Go.Ev
open Go
variable [Lib] [Has1] [Has2]

def downC (l : List Int) (p q : Nat) (t : Int) : Bool := decide (0 ≤ t ∧ nth l p + t < nth l q)
def downF (l : List Int) (p q : Nat) (t : Int) : List Int := if downC l p q t = true then l.set q (nth l p + t) else l
def smHalf (m : Mine) (fl : List Spn) (k : Nat) (back : Bool) (l : List Int) : List Int × Bool :=
  (downF l ((nth m.roads k).src back).toNat ((nth m.roads k).dst back).toNat (travelF (nth m.roads k) (nth fl k) back), downC l ((nth m.roads k).src back).toNat ((nth m.roads k).dst back).toNat (travelF (nth m.roads k) (nth fl k) back))
def smStep (m : Mine) (fl : List Spn) (k : Nat) (s : List Int × Bool) : List Int × Bool :=
  let a := smHalf m fl k false s.1
  let b := smHalf m fl k true a.1
  (b.1, s.2 || a.2 || b.2)
def smSteps (m : Mine) (fl : List Spn) (l : List Int) : Nat → List Int × Bool
  | 0 => (l, false)
  | k + 1 => smStep m fl k (smSteps m fl l k)
def smRound (m : Mine) (fl : List Spn) (l : List Int) : List Int × Bool := smSteps m fl l m.roads.length

theorem downF_len (l : List Int) (p q : Nat) (t : Int) : (downF l p q t).length = l.length := by unfold downF; split <;> simp
theorem smHalf_len (m : Mine) (fl : List Spn) (k : Nat) (back : Bool) (l : List Int) : (smHalf m fl k back l).1.length = l.length := downF_len ..
theorem smSteps_len (m : Mine) (fl : List Spn) (l : List Int) : ∀ k, (smSteps m fl l k).1.length = l.length
  | 0 => rfl
  | k + 1 => by simp only [smSteps, smStep, smHalf_len, smSteps_len m fl l k]

theorem downF_bnd {l : List Int} (h : bnd l) {p q : Nat} (hp : p < l.length) (hq : q < l.length) {t : Int} : bnd (downF l p q t) := by
  unfold downF
  split
  · rename_i hc
    simp only [downC, decide_eq_true_eq] at hc
    have h1 := h _ (nth_mem hp)
    have h2 := h _ (nth_mem hq)
    exact bnd_set h (by omega) (by omega)
  · exact h
theorem downF_sum {l : List Int} (hb : bnd l) {p q : Nat} (hp : p < l.length) (hq : q < l.length) {t : Int} :
    (downC l p q t = true → sumN (downF l p q t) < sumN l) ∧ (downC l p q t = false → downF l p q t = l) := by
  unfold downF
  constructor
  · intro hc
    rw [if_pos hc]
    simp only [downC, decide_eq_true_eq] at hc
    have := hb _ (nth_mem hp)
    exact sumN_set hq (by omega) hc.2
  · intro hc; rw [if_neg (by simp [hc])]

section
variable {m : Mine} (h : m.ok) {fl : List Spn}
include h
theorem smHalf_bnd {l : List Int} (hl : l.length = m.places.length) (hb : bnd l) {k : Nat} (hk : k < m.roads.length) (back : Bool) : bnd (smHalf m fl k back l).1 := by
  have r1 := Road.src_ok (h.rs _ (nth_mem hk)) back
  have r2 := Road.dst_ok (h.rs _ (nth_mem hk)) back
  exact downF_bnd hb (by omega) (by omega)
theorem smSteps_bnd {l : List Int} (hl : l.length = m.places.length) (hb : bnd l) : ∀ k, k ≤ m.roads.length → bnd (smSteps m fl l k).1
  | 0, _ => hb
  | k + 1, hk => by
    simp only [smSteps, smStep]
    exact smHalf_bnd h (by rw [smHalf_len, smSteps_len, hl]) (smHalf_bnd h (by rw [smSteps_len, hl]) (smSteps_bnd hl hb k (by omega)) (by omega) _) (by omega) _
theorem smHalf_sum {l : List Int} (hl : l.length = m.places.length) (hb : bnd l) {k : Nat} (hk : k < m.roads.length) (back : Bool) :
    ((smHalf m fl k back l).2 = true → sumN (smHalf m fl k back l).1 < sumN l) ∧ ((smHalf m fl k back l).2 = false → (smHalf m fl k back l).1 = l) := by
  have r1 := Road.src_ok (h.rs _ (nth_mem hk)) back
  have r2 := Road.dst_ok (h.rs _ (nth_mem hk)) back
  exact downF_sum hb (by omega) (by omega)
theorem smSteps_sum {l : List Int} (hl : l.length = m.places.length) (hb : bnd l) : ∀ k, k ≤ m.roads.length →
    ((smSteps m fl l k).2 = true → sumN (smSteps m fl l k).1 < sumN l) ∧ ((smSteps m fl l k).2 = false → (smSteps m fl l k).1 = l)
  | 0, _ => ⟨fun h => by simp [smSteps] at h, fun _ => rfl⟩
  | k + 1, hk => by
    obtain ⟨i1, i2⟩ := smSteps_sum hl hb k (by omega)
    have hb1 := smSteps_bnd h (fl := fl) hl hb k (by omega)
    have hl1 : (smSteps m fl l k).1.length = m.places.length := by rw [smSteps_len, hl]
    obtain ⟨a1, a2⟩ := smHalf_sum h (fl := fl) hl1 hb1 (k := k) (by omega) false
    have hb2 := smHalf_bnd h (fl := fl) hl1 hb1 (k := k) (by omega) false
    obtain ⟨c1, c2⟩ := smHalf_sum h (fl := fl) (by rw [smHalf_len, hl1]) hb2 (k := k) (by omega) true
    simp only [smSteps, smStep]
    generalize smSteps m fl l k = s at *
    obtain ⟨sl, sb⟩ := s
    simp only at *
    generalize smHalf m fl k false sl = a at *
    obtain ⟨al, ab⟩ := a
    simp only at *
    generalize smHalf m fl k true al = b at *
    obtain ⟨bl, bb⟩ := b
    simp only at *
    cases sb <;> cases ab <;> cases bb <;> simp_all <;> omega
end

/-- One road. -/
theorem sm_step {m : Mine} (h : m.ok) (fl : List Spn) (hfl : fl.length = m.roads.length) (hf : ∀ j, j < fl.length → (nth fl j).ok) (l : List Int) (hl : l.length = m.places.length) (hb : bnd l)
    (k : Nat) (hk : k < m.roads.length) (ag : Bool) :
    roundC true [0, 2, 4, 8, 9, 10, 11] 2 (exS CALL K.ref28_Close_l2b ⟨[.und, .t (tS fl), .und, .bp 0 0, .und, .ref 1 0 l.length, B ag, I k, .und, .und, .und, .und], [.box (mineCells m), .arr 1 false 0 ((l.map (T.int .i64)).map .t)]⟩) =
      some ⟨[.und, .t (tS fl), .und, .bp 0 0, .und, .ref 1 0 l.length, B (smStep m fl k (l, ag)).2, I (k + 1), .und, .und, .und, .und], [.box (mineCells m), .arr 1 false 0 (((smStep m fl k (l, ag)).1.map (T.int .i64)).map .t)]⟩ := by
  have np := h.np
  have nr := h.nr
  have t1 := travel_ok h k hk (nth fl k) (hf k (by omega)) false
  have t2 := travel_ok h k hk (nth fl k) (hf k (by omega)) true
  have w1 := travelF_bd (h.rs _ (nth_mem hk)) (f := nth fl k) false
  have w2 := travelF_bd (h.rs _ (nth_mem hk)) (f := nth fl k) true
  have r1 := Road.src_ok (h.rs _ (nth_mem hk)) false
  have r2 := Road.dst_ok (h.rs _ (nth_mem hk)) false
  simp only [Road.src, Road.dst, Bool.false_eq_true, ↓reduceIte] at r1 r2
  obtain ⟨f0, f1⟩ := r1
  obtain ⟨t0, t1'⟩ := r2
  have b1 := hb _ (nth_mem (l := l) (j := (nth m.roads k).frm.toNat) (by omega))
  have b2 := hb _ (nth_mem (l := l) (j := (nth m.roads k).to.toNat) (by omega))
  simp only [smStep, smHalf, Road.src, Road.dst, Bool.false_eq_true, ↓reduceIte]
  generalize hw1 : travelF (nth m.roads k) (nth fl k) false = v1 at *
  generalize hw2 : travelF (nth m.roads k) (nth fl k) true = v2 at *
  have hb3 := downF_bnd hb (p := (nth m.roads k).frm.toNat) (q := (nth m.roads k).to.toNat) (t := v1) (by omega) (by omega)
  have ln : (downF l (nth m.roads k).frm.toNat (nth m.roads k).to.toNat v1).length = l.length := downF_len ..
  have b3 := hb3 _ (nth_mem (j := (nth m.roads k).frm.toNat) (by omega))
  have b4 := hb3 _ (nth_mem (j := (nth m.roads k).to.toNat) (by omega))
  generalize hx : nth m.roads k = x at *
  obtain ⟨frm, to, len, area, walk, closed, rl, rh, ll, lh⟩ := x
  simp only at f0 f1 t0 t1' b1 b2 b3 b4 ln hb3 ⊢
  clear hb hb3 hf
  by_cases c1 : 0 ≤ v1 ∧ nth l frm.toNat + v1 < nth l to.toNat
  · have e1 : downC l frm.toNat to.toNat v1 = true := decide_eq_true c1
    have e2 : downF l frm.toNat to.toNat v1 = l.set to.toNat (nth l frm.toNat + v1) := by unfold downF; rw [if_pos e1]
    rw [e2] at ln b3 b4 ⊢
    obtain ⟨c1, c1'⟩ := c1
    by_cases c2 : 0 ≤ v2
    · by_cases c3 : nth (l.set to.toNat (nth l frm.toNat + v1)) to.toNat + v2 < nth (l.set to.toNat (nth l frm.toNat + v1)) frm.toNat
      · simp (disch := omega) only [go_sem, K.ref28_Close_l2b, ↓reduceIte, hx, t1, t2, e1, downF, downC, c1, c1', c2, c3, and_self, decide_true, Bool.or_true]
      · simp (disch := omega) only [go_sem, K.ref28_Close_l2b, ↓reduceIte, hx, t1, t2, e1, downF, downC, c1, c1', c2, c3, and_self, and_false, decide_true, decide_false, Bool.or_true, Bool.or_false, Bool.false_eq_true]
    · simp (disch := omega) only [go_sem, K.ref28_Close_l2b, ↓reduceIte, hx, t1, t2, e1, downF, downC, c1, c1', c2, and_self, false_and, decide_true, decide_false, Bool.or_true, Bool.or_false, Bool.false_eq_true]
  · have e1 : downC l frm.toNat to.toNat v1 = false := decide_eq_false c1
    have e2 : downF l frm.toNat to.toNat v1 = l := by unfold downF; rw [if_neg (by simp [e1])]
    rw [e2] at ln b3 b4 ⊢
    by_cases c4 : 0 ≤ v1
    · have c5 : ¬ nth l frm.toNat + v1 < nth l to.toNat := fun h => c1 ⟨c4, h⟩
      by_cases c2 : 0 ≤ v2
      · by_cases c3 : nth l to.toNat + v2 < nth l frm.toNat
        · simp (disch := omega) only [go_sem, K.ref28_Close_l2b, ↓reduceIte, hx, t1, t2, e1, downF, downC, c4, c5, c2, c3, and_self, decide_true, Bool.or_true]
        · simp (disch := omega) only [go_sem, K.ref28_Close_l2b, ↓reduceIte, hx, t1, t2, e1, downF, downC, c4, c5, c2, c3, and_self, and_false, decide_true, decide_false, Bool.or_true, Bool.or_false, Bool.false_eq_true]
      · simp (disch := omega) only [go_sem, K.ref28_Close_l2b, ↓reduceIte, hx, t1, t2, e1, downF, downC, c4, c5, c2, and_self, false_and, decide_true, decide_false, Bool.or_true, Bool.or_false, Bool.false_eq_true]
    · by_cases c2 : 0 ≤ v2
      · by_cases c3 : nth l to.toNat + v2 < nth l frm.toNat
        · simp (disch := omega) only [go_sem, K.ref28_Close_l2b, ↓reduceIte, hx, t1, t2, e1, downF, downC, c4, c2, c3, and_self, false_and, decide_false, decide_true, Bool.or_true]
        · simp (disch := omega) only [go_sem, K.ref28_Close_l2b, ↓reduceIte, hx, t1, t2, e1, downF, downC, c4, c2, c3, and_self, and_false, false_and, decide_true, decide_false, Bool.or_true, Bool.or_false, Bool.false_eq_true]
      · simp (disch := omega) only [go_sem, K.ref28_Close_l2b, ↓reduceIte, hx, t1, t2, e1, downF, downC, c4, c2, and_self, false_and, decide_true, decide_false, Bool.or_true, Bool.or_false, Bool.false_eq_true]

def capN (l : List Int) : Nat → List Int
  | 0 => l
  | j + 1 => if 2147483648 < nth (capN l j) j then (capN l j).set j 1099511627776 else capN l j
theorem capN_len (l : List Int) : ∀ j, (capN l j).length = l.length
  | 0 => rfl
  | j + 1 => by
    have := capN_len l j
    simp only [capN]; split <;> simp [this]
def closeS (m : Mine) (fl : List Spn) (l : List Int) : List Int := capN (closeN (smRound m fl) (sumN l + 1) l) m.places.length

theorem closeS_ok {m : Mine} (h : m.ok) (fl : List Spn) (hfl : flowsB m fl = true) (l : List Int) (hl : l.length = m.places.length) (hb : bnd l) :
    CALL 0 N.ref28_Close [.t m.e, .t (tS fl), .t (tL l)] [] = some (.t (tL (closeS m fl l)), []) ∧ (closeN (smRound m fl) (sumN l + 1) l).length = m.places.length ∧ bnd (closeN (smRound m fl) (sumN l + 1) l) := by
  have nr := h.nr
  have np := h.np
  obtain ⟨fl1, fl2⟩ := flowsB_spec hfl
  have inner : ∀ (l : List Int), l.length = m.places.length → bnd l → ∀ (a b c d e f g : D), exS CALL K.ref28_Close_l2 ⟨[a, .t (tS fl), b, .bp 0 0, c, .ref 1 0 l.length, B false, I 0, d, e, f, g], [.box (mineCells m), .arr 1 false 0 ((l.map (T.int .i64)).map .t)]⟩ =
      some (.exit 2, ⟨[.und, .t (tS fl), .und, .bp 0 0, .und, .ref 1 0 l.length, B (smRound m fl l).2, I m.roads.length, .und, .und, .und, .und], [.box (mineCells m), .arr 1 false 0 (((smRound m fl l).1.map (T.int .i64)).map .t)]⟩) := by
    intro l hl hb a b c d e f g
    refine loop_up (fun j => ⟨[.und, .t (tS fl), .und, .bp 0 0, .und, .ref 1 0 (smSteps m fl l j).1.length, B (smSteps m fl l j).2, I j, .und, .und, .und, .und], [.box (mineCells m), .arr 1 false 0 (((smSteps m fl l j).1.map (T.int .i64)).map .t)]⟩) m.roads.length rfl ?_ ?_ (by simp)
    · intro j hj
      have := sm_step h fl fl1 fl2 (smSteps m fl l j).1 (by rw [smSteps_len, hl]) (smSteps_bnd h hl hb j (by omega)) j hj (smSteps m fl l j).2
      have e : (smSteps m fl l (j + 1)).1.length = (smSteps m fl l j).1.length := by rw [smSteps_len, smSteps_len]
      rw [e]
      exact this
    · simp (disch := omega) only [go_sem, K.ref28_Close_l2b, ↓reduceIte, smRound, smSteps_len]
  have outer := fun (a b c d e f g h' : D) => loop_again (gc := true) (dead := [0, 2, 4, 7, 8, 9, 10, 11]) (c := K.ref28_Close_l1b) (vs := [a, .t (tS fl), b, .bp 0 0, c, .ref 1 0 l.length, B true, d, e, f, g, h']) (H := [.box (mineCells m), .arr 1 false 0 ((l.map (T.int .i64)).map .t)])
    (fun l ag => ⟨[.und, .t (tS fl), .und, .bp 0 0, .und, .ref 1 0 l.length, B ag, .und, .und, .und, .und, .und], [.box (mineCells m), .arr 1 false 0 ((l.map (T.int .i64)).map .t)]⟩)
    (fun l => (.exit 0, ⟨[.und, .t (tS fl), .und, .bp 0 0, .und, .ref 1 0 l.length, B false, .und, .und, .und, .und, .und], [.box (mineCells m), .arr 1 false 0 ((l.map (T.int .i64)).map .t)]⟩))
    (smRound m fl) (fun l => l.length = m.places.length ∧ bnd l) sumN
    (fun l ⟨hl, hb⟩ => ⟨⟨by rw [smRound, smSteps_len, hl], smSteps_bnd h hl hb _ (Nat.le_refl _)⟩, (smSteps_sum h hl hb _ (Nat.le_refl _)).1⟩)
    (by
      rintro l ⟨hl, hb⟩
      have := inner l hl hb
      have e : (smRound m fl l).1.length = l.length := by rw [smRound, smSteps_len]
      simp (disch := omega) only [go_sem, K.ref28_Close_l1b, ↓reduceIte, this, e])
    (by
      rintro l ⟨hl, hb⟩
      simp (disch := omega) only [go_sem, K.ref28_Close_l1b, ↓reduceIte, reduceCtorEq, ne_eq, not_false_eq_true, and_self])
    l ⟨hl, hb⟩ rfl
  obtain ⟨-, o2⟩ := outer .und .und .und .und .und .und .und .und
  refine ⟨?_, o2⟩
  refine CALL_of K.t_ref28_Close rfl ?_
  have o1 : ∀ a b c d e f g h' : D, exS CALL K.ref28_Close_l1 ⟨[a, .t (tS fl), b, .bp 0 0, c, .ref 1 0 l.length, B true, d, e, f, g, h'], [.box (mineCells m), .arr 1 false 0 ((l.map (T.int .i64)).map .t)]⟩ = _ := fun a b c d e f g h' => (outer a b c d e f g h').1
  clear outer inner
  have o2 := o2.1
  unfold closeS
  generalize closeN (smRound m fl) (sumN l + 1) l = l2 at *
  have ln := capN_len l2
  have o3 : ∀ a b c d e f g h' i j : D, exS CALL K.ref28_Close_l3 ⟨[a, b, c, d, e, .ref 1 0 l2.length, f, g, h', i, j, I 0], [.box (mineCells m), .arr 1 false 0 ((l2.map (T.int .i64)).map .t)]⟩ =
      some (.exit 4, ⟨[.und, .und, .und, .und, .und, .ref 1 0 l2.length, .und, .und, .und, .und, .und, I l2.length], [.box (mineCells m), .arr 1 false 0 (((capN l2 l2.length).map (T.int .i64)).map .t)]⟩) := by
    intro a b c d e f g h' i j
    refine loop_up (fun j => ⟨[.und, .und, .und, .und, .und, .ref 1 0 l2.length, .und, .und, .und, .und, .und, I j], [.box (mineCells m), .arr 1 false 0 (((capN l2 j).map (T.int .i64)).map .t)]⟩) l2.length rfl ?_ ?_ (by simp)
    · intro j hj
      have lj := ln j
      by_cases hc : 2147483648 < nth (capN l2 j) j
      · simp (disch := omega) only [go_sem, K.ref28_Close_l3b, ↓reduceIte, capN, hc]
      · simp (disch := omega) only [go_sem, K.ref28_Close_l3b, ↓reduceIte, capN, hc]
    · simp (disch := omega) only [go_sem, K.ref28_Close_l3b, ↓reduceIte]
  have ln := ln l2.length
  rw [← o2]
  simp (disch := omega) only [go_sem, K.ref28_Close, ↓reduceIte, o1, o3]

end Go.Ev

/- Chapter 28 of the references: starts and changes of smoke. -/
namespace Go.Ev
open Go
variable [Lib] [Has1] [Has2]

def plS (t x : Int) : Prop := x = 1099511627776 ∨ (t ≤ x ∧ x ≤ 2147483648)
instance (t x : Int) : Decidable (plS t x) := by unfold plS; infer_instance
def validS (m : Mine) (s : Wh) : Bool := (List.range s.frm.length).all (fun j => decide (plS s.time (nth s.frm j))) && decide (s.frm.length = m.places.length ∧ inT s.time)

theorem validS_ok {m : Mine} (h : m.ok) (s : Wh) (hl : s.frm.length ≤ 1000000) : CALL 0 N.ref28_Valid [.t m.e, .t s.e] [] = some (B (validS m s), []) := by
  refine CALL_of K.t_ref28_Valid rfl ?_
  have c := check_ok h
  have np := h.np
  obtain ⟨time, frm⟩ := s
  simp only at hl
  have loop : ∀ a b c : D, exS CALL K.ref28_Valid_l1 ⟨[a, b, .bp 0 0, .bp 1 0, c, I 0], [.box (mineCells m), .box [I time, .t (tL frm)]]⟩ =
      some (match (List.range frm.length).find? (fun j => !decide (plS time (nth frm j))) with
        | some j => (.ret, ⟨[.und, .und, .bp 0 0, .bp 1 0, B false, I j], [.box (mineCells m), .box [I time, .t (tL frm)]]⟩)
        | none => (.exit 0, ⟨[.und, .und, .bp 0 0, .bp 1 0, .und, I frm.length], [.box (mineCells m), .box [I time, .t (tL frm)]]⟩)) := by
    intro a b c
    refine loop_first (fun j => ⟨[.und, .und, .bp 0 0, .bp 1 0, .und, I j], [.box (mineCells m), .box [I time, .t (tL frm)]]⟩) frm.length (fun j => !decide (plS time (nth frm j))) _ _ rfl ?_ ?_ ?_ (by simp)
    · intro j hj hp
      have hp : plS time (nth frm j) := by simpa using hp
      unfold plS at hp
      by_cases h1 : nth frm j = 1099511627776
      · simp (disch := omega) only [go_sem, K.ref28_Valid_l1b, ↓reduceIte, h1]
      · simp (disch := omega) only [go_sem, K.ref28_Valid_l1b, ↓reduceIte]
    · intro j hj hp
      have hp : ¬ plS time (nth frm j) := by simpa using hp
      unfold plS at hp
      by_cases h2 : time ≤ nth frm j
      · simp (disch := omega) only [go_sem, K.ref28_Valid_l1b, ↓reduceIte]
        simp
      · simp (disch := omega) only [go_sem, K.ref28_Valid_l1b, ↓reduceIte]
        simp
    · simp (disch := omega) only [go_sem, K.ref28_Valid_l1b, ↓reduceIte]
  unfold validS
  rw [find_all]
  simp (disch := omega) only [go_sem, K.ref28_Valid, ↓reduceIte, loop]
  cases hf : (List.range frm.length).find? (fun j => !decide (plS time (nth frm j))) with
  | some j => simp (disch := omega) only [go_sem, ↓reduceIte, Option.isNone, Bool.false_and]
  | none =>
    by_cases h1 : frm.length = m.places.length
    · by_cases h2 : 0 ≤ time
      · by_cases h3 : time ≤ 2147483648
        · have h4 : inT time := ⟨h2, h3⟩
          simp (disch := omega) only [go_sem, ↓reduceIte, Option.isNone, c, h1, h4, and_self, decide_true, Bool.true_and]
        · have h4 : ¬ inT time := by unfold inT; omega
          simp (disch := omega) only [go_sem, ↓reduceIte, Option.isNone, c, h1, h4, and_false, decide_false, Bool.true_and]
      · have h4 : ¬ inT time := by unfold inT; omega
        simp (disch := omega) only [go_sem, ↓reduceIte, Option.isNone, c, h1, h4, and_false, decide_false, Bool.true_and]
    · simp (disch := omega) only [go_sem, ↓reduceIte, Option.isNone, c, h1, false_and, decide_false, Bool.true_and]

theorem copyS_ok (w : Wh) (hl : w.frm.length ≤ 4294967296) : CALL 0 N.ref28_Copy [.t w.e] [] = some (.t w.e, []) := by
  refine CALL_of K.t_ref28_Copy rfl ?_
  obtain ⟨time, frm⟩ := w
  simp only at *
  simp (disch := omega) only [go_sem, K.ref28_Copy, ↓reduceIte, Nat.reduceAdd, Nat.reduceSub]

def initS (l : List Int) (t : Int) (n : Nat) : List Int := (List.range n).map fun (p : Nat) => if (p : Int) ∈ l then t else 1099511627776
theorem initS_succ (l : List Int) (t : Int) (n : Nat) : initS l t (n + 1) = initS l t n ++ [if (n : Int) ∈ l then t else 1099511627776] := by
  unfold initS; rw [List.range_succ, List.map_append]; rfl
@[simp] theorem initS_len (l : List Int) (t : Int) (n : Nat) : (initS l t n).length = n := by simp [initS]
theorem initS_bnd (l : List Int) {t : Int} (ht : inT t) (n : Nat) : bnd (initS l t n) := by
  intro x hx
  simp only [initS, List.mem_map] at hx
  obtain ⟨p, -, rfl⟩ := hx
  unfold inT at ht
  split <;> omega

def startS (m : Mine) (fl : List Spn) (l : List Int) (t : Int) : Wh × Int :=
  if flowsB m fl = false then (⟨0, []⟩, 6) else if setB l m.places.length = false then (⟨0, []⟩, 3) else if ¬ inT t then (⟨0, []⟩, 8) else
  (⟨t, closeS m fl (initS l t m.places.length)⟩, 0)

theorem startS_ok {m : Mine} (h : m.ok) (fl : List Spn) (hfl : fl.length ≤ 1000000) (l : List Int) (hl : l.length ≤ 1000000) (t : Int) :
    CALL 0 N.ref28_Start [.t m.e, .t (tS fl), .t (tL l), I t] [] = some (.tup [.t (startS m fl l t).1.e, I (startS m fl l t).2], []) := by
  refine CALL_of K.t_ref28_Start rfl ?_
  have c := check_ok h
  have np := h.np
  have nr := h.nr
  have f := flows_ok m (by omega) fl (by omega)
  have s := set_ok l m.places.length (by omega)
  unfold startS
  cases hf : flowsB m fl with
  | false =>
    rw [hf] at f
    simp (disch := omega) only [go_sem, K.ref28_Start, ↓reduceIte, c, f]
    rfl
  | true =>
    rw [hf] at f
    cases hs : setB l m.places.length with
    | false =>
      rw [hs] at s
      simp (disch := omega) only [go_sem, K.ref28_Start, ↓reduceIte, c, f, s, Bool.true_eq_false]
      rfl
    | true =>
      rw [hs] at s
      by_cases h1 : 0 ≤ t
      · by_cases h2 : t ≤ 2147483648
        · have ht : inT t := ⟨h1, h2⟩
          have cl := (closeS_ok h fl hf (initS l t m.places.length) (initS_len ..) (initS_bnd l ht _)).1
          have ln := initS_len l t
          have loop : ∀ a b : D, exS CALL K.ref28_Start_l1 ⟨[a, .t (tS fl), .t (tL l), I t, .bp 0 0, .bp 1 0, b, .ref 2 0 0, I 0], [.box (mineCells m), .box [I 0, .nil], .arr 1 false 0 []]⟩ =
              some (.exit 1, ⟨[.und, .t (tS fl), .t (tL l), I t, .bp 0 0, .bp 1 0, .und, .ref 2 0 m.places.length, I m.places.length], [.box (mineCells m), .box [I 0, .nil], .arr 1 false 0 (((initS l t m.places.length).map (T.int .i64)).map .t)]⟩) := by
            intro a b
            refine loop_up (fun j => ⟨[.und, .t (tS fl), .t (tL l), I t, .bp 0 0, .bp 1 0, .und, .ref 2 0 j, I j], [.box (mineCells m), .box [I 0, .nil], .arr 1 false 0 (((initS l t j).map (T.int .i64)).map .t)]⟩) m.places.length rfl ?_ ?_ (by simp)
            · intro j hj
              have g := has_ok l j (by omega)
              have lj := ln j
              by_cases hm : (j : Int) ∈ l
              · simp only [hm, decide_true] at g
                simp (disch := omega) only [go_sem, K.ref28_Start_l1b, ↓reduceIte, g, hm, initS_succ]
              · simp only [hm, decide_false] at g
                simp (disch := omega) only [go_sem, K.ref28_Start_l1b, ↓reduceIte, g, hm, initS_succ]
            · simp (disch := omega) only [go_sem, K.ref28_Start_l1b, ↓reduceIte]
          have ln := ln m.places.length
          simp (disch := omega) only [go_sem, K.ref28_Start, ↓reduceIte, c, f, s, ht, loop, cl, Bool.true_eq_false, not_true_eq_false]
        · have ht : ¬ inT t := by unfold inT; omega
          simp (disch := omega) only [go_sem, K.ref28_Start, ↓reduceIte, c, f, s, ht, Bool.true_eq_false, not_false_eq_true]
          rfl
      · have ht : ¬ inT t := by unfold inT; omega
        simp (disch := omega) only [go_sem, K.ref28_Start, ↓reduceIte, c, f, s, ht, Bool.true_eq_false, not_false_eq_true]
        rfl

end Go.Ev

/- Chapter 28 of the references: a change. -/
namespace Go.Ev
open Go
variable [Lib] [Has1] [Has2]

def chHalf (m : Mine) (fl : List Spn) (frm : List Int) (t : Int) (k : Nat) (back : Bool) (l : List Int) : List Int :=
  if nth frm ((nth m.roads k).src back).toNat ≤ t ∧ 0 ≤ travelF (nth m.roads k) (nth fl k) back then l.set ((nth m.roads k).dst back).toNat (min (nth l ((nth m.roads k).dst back).toNat) t) else l
def chStep (m : Mine) (fl : List Spn) (frm : List Int) (t : Int) (k : Nat) (l : List Int) : List Int := chHalf m fl frm t k true (chHalf m fl frm t k false l)
def chN (m : Mine) (fl : List Spn) (frm : List Int) (t : Int) : Nat → List Int
  | 0 => frm
  | k + 1 => chStep m fl frm t k (chN m fl frm t k)
def maxN (t : Int) (l : List Int) : Nat → List Int
  | 0 => l
  | k + 1 => (maxN t l k).set k (max (nth (maxN t l k) k) t)

theorem chHalf_len (m : Mine) (fl : List Spn) (frm : List Int) (t : Int) (k : Nat) (back : Bool) (l : List Int) : (chHalf m fl frm t k back l).length = l.length := by
  unfold chHalf; split <;> simp
theorem chN_len (m : Mine) (fl : List Spn) (frm : List Int) (t : Int) : ∀ k, (chN m fl frm t k).length = frm.length
  | 0 => rfl
  | k + 1 => by simp only [chN, chStep, chHalf_len, chN_len m fl frm t k]
theorem maxN_len (t : Int) (l : List Int) : ∀ k, (maxN t l k).length = l.length
  | 0 => rfl
  | k + 1 => by simp only [maxN, List.length_set, maxN_len t l k]
theorem chHalf_bnd {m : Mine} (h : m.ok) (fl : List Spn) (frm : List Int) {t : Int} (ht : inT t) {k : Nat} (hk : k < m.roads.length) (back : Bool) {l : List Int} (hl : l.length = m.places.length) (hb : bnd l) : bnd (chHalf m fl frm t k back l) := by
  have r2 := Road.dst_ok (h.rs _ (nth_mem hk)) back
  unfold chHalf
  split
  · have := hb _ (nth_mem (l := l) (j := ((nth m.roads k).dst back).toNat) (by omega))
    unfold inT at ht
    exact bnd_set hb (by omega) (by omega)
  · exact hb
theorem chN_bnd {m : Mine} (h : m.ok) (fl : List Spn) {frm : List Int} (hl : frm.length = m.places.length) (hb : bnd frm) {t : Int} (ht : inT t) : ∀ k, k ≤ m.roads.length → bnd (chN m fl frm t k)
  | 0, _ => hb
  | k + 1, hk => chHalf_bnd h fl frm ht (by omega) _ (by rw [chHalf_len, chN_len, hl]) (chHalf_bnd h fl frm ht (by omega) _ (by rw [chN_len, hl]) (chN_bnd h fl hl hb ht k (by omega)))
theorem maxN_bnd {t : Int} (ht : inT t) {l : List Int} (hb : bnd l) : ∀ k, k ≤ l.length → bnd (maxN t l k)
  | 0, _ => hb
  | k + 1, hk => by
    have ih := maxN_bnd ht hb k (by omega)
    have := ih _ (nth_mem (l := maxN t l k) (j := k) (by rw [maxN_len]; omega))
    unfold inT at ht
    exact bnd_set ih (by omega) (by omega)

def changeS (m : Mine) (old : List Spn) (next : Mine) (fl : List Spn) (s : Wh) (t : Int) : Wh × Int :=
  if validS m s = false ∨ flowsB m old = false ∨ flowsB next fl = false ∨ next.places.length ≠ m.places.length then (s, 6) else
  if t < s.time ∨ 2147483648 < t then (s, 8) else (⟨t, closeS next fl (maxN t (chN m old s.frm t m.roads.length) m.places.length)⟩, 0)

theorem validS_spec {m : Mine} {s : Wh} (h : validS m s = true) : s.frm.length = m.places.length ∧ inT s.time ∧ ∀ x ∈ s.frm, plS s.time x := by
  simp only [validS, Bool.and_eq_true, decide_eq_true_eq, List.all_eq_true, List.mem_range] at h
  refine ⟨h.2.1, h.2.2, fun x hx => ?_⟩
  obtain ⟨j, hj⟩ := List.mem_iff_getElem?.1 hx
  have := h.1 j (List.getElem?_eq_some_iff.1 hj).1
  rwa [nth_eq hj] at this

/-- One road of a change. -/
theorem ch_step {m : Mine} (h : m.ok) (old : List Spn) (fl1 : old.length = m.roads.length) (fl2 : ∀ j, j < old.length → (nth old j).ok) (time t : Int) (ht : inT t) (frm l : List Int) (hl0 : frm.length = m.places.length) (hl : l.length = m.places.length)
    (k : Nat) (hk : k < m.roads.length) (H3 : List D) (r : D) (hr : Go.Ev.old 5 8 r = true) (h3 : allOld 5 8 H3 = true) :
    roundC true [0, 2, 4, 10, 13, 14] 5 (exS CALL K.ref28_Change_l1b ⟨[.und, .t (tS old), .und, r, .und, I t, .bp 0 0, .bp 1 0, .bp 2 0, .bp 3 0, .und, .ref 4 0 l.length, I k, .und, .und], [.box (mineCells m), .box H3, .box [I time, .t (tL frm)], .box [I 0, .nil], .arr 1 false 0 ((l.map (T.int .i64)).map .t)]⟩) =
      some ⟨[.und, .t (tS old), .und, r, .und, I t, .bp 0 0, .bp 1 0, .bp 2 0, .bp 3 0, .und, .ref 4 0 l.length, I (k + 1), .und, .und], [.box (mineCells m), .box H3, .box [I time, .t (tL frm)], .box [I 0, .nil], .arr 1 false 0 (((chStep m old frm t k l).map (T.int .i64)).map .t)]⟩ := by
  have np := h.np
  have nr := h.nr
  have t1 := travel_ok h k hk (nth old k) (fl2 k (by omega)) false
  have t2 := travel_ok h k hk (nth old k) (fl2 k (by omega)) true
  have r1 := Road.src_ok (h.rs _ (nth_mem hk)) false
  have r2 := Road.dst_ok (h.rs _ (nth_mem hk)) false
  simp only [Road.src, Road.dst, Bool.false_eq_true, ↓reduceIte] at r1 r2
  obtain ⟨f0, f1⟩ := r1
  obtain ⟨t0, t1'⟩ := r2
  unfold inT at ht
  simp only [chStep, chHalf, Road.src, Road.dst, Bool.false_eq_true, ↓reduceIte]
  generalize hw1 : travelF (nth m.roads k) (nth old k) false = v1 at *
  generalize hw2 : travelF (nth m.roads k) (nth old k) true = v2 at *
  generalize hx : nth m.roads k = x at *
  obtain ⟨a, b, len, area, walk, closed, rl, rh, ll, lh⟩ := x
  simp only at f0 f1 t0 t1' ⊢
  clear hw1 hw2 fl2
  have ln : (l.set b.toNat (min (nth l b.toNat) t)).length = l.length := List.length_set ..
  by_cases c1 : nth frm a.toNat ≤ t
  · by_cases c2 : 0 ≤ v1
    · by_cases c3 : nth frm b.toNat ≤ t
      · by_cases c4 : 0 ≤ v2
        · simp (disch := omega) only [go_sem, K.ref28_Change_l1b, ↓reduceIte, hx, t1, t2, c1, c2, c3, c4, and_self, hr, h3]
        · simp (disch := omega) only [go_sem, K.ref28_Change_l1b, ↓reduceIte, hx, t1, t2, c1, c2, c3, c4, and_self, and_false, hr, h3]
      · simp (disch := omega) only [go_sem, K.ref28_Change_l1b, ↓reduceIte, hx, t1, t2, c1, c2, c3, and_self, false_and, hr, h3]
    · by_cases c3 : nth frm b.toNat ≤ t
      · by_cases c4 : 0 ≤ v2
        · simp (disch := omega) only [go_sem, K.ref28_Change_l1b, ↓reduceIte, hx, t1, t2, c1, c2, c3, c4, and_self, and_false, hr, h3]
        · simp (disch := omega) only [go_sem, K.ref28_Change_l1b, ↓reduceIte, hx, t1, t2, c1, c2, c3, c4, and_self, and_false, hr, h3]
      · simp (disch := omega) only [go_sem, K.ref28_Change_l1b, ↓reduceIte, hx, t1, t2, c1, c2, c3, and_self, false_and, and_false, hr, h3]
  · by_cases c3 : nth frm b.toNat ≤ t
    · by_cases c4 : 0 ≤ v2
      · simp (disch := omega) only [go_sem, K.ref28_Change_l1b, ↓reduceIte, hx, t1, t2, c1, c3, c4, and_self, and_false, false_and, hr, h3]
      · simp (disch := omega) only [go_sem, K.ref28_Change_l1b, ↓reduceIte, hx, t1, t2, c1, c3, c4, and_self, and_false, false_and, hr, h3]
    · simp (disch := omega) only [go_sem, K.ref28_Change_l1b, ↓reduceIte, hx, t1, t2, c1, c3, and_self, false_and, hr, h3]

theorem changeS_ok {m : Mine} (h : m.ok) (old : List Spn) (ho : old.length ≤ 1000000) {next : Mine} (hn : next.ok) (fl : List Spn) (hfl : fl.length ≤ 1000000) (s : Wh) (hs : s.frm.length ≤ 1000000) (t : Int) :
    CALL 0 N.ref28_Change [.t m.e, .t (tS old), .t next.e, .t (tS fl), .t s.e, I t] [] = some (.tup [.t (changeS m old next fl s t).1.e, I (changeS m old next fl s t).2], []) := by
  refine CALL_of K.t_ref28_Change rfl ?_
  have c := copyS_ok s (by omega)
  have v := validS_ok h s hs
  have nr := h.nr
  have nr2 := hn.nr
  have np := h.np
  have np2 := hn.np
  have f1 := flows_ok m (by omega) old ho
  have f2 := flows_ok next (by omega) fl hfl
  have ck := check_ok hn
  unfold changeS
  cases hv : validS m s with
  | false =>
    rw [hv] at v
    obtain ⟨time, frm⟩ := s
    simp only at *
    simp (disch := omega) only [go_sem, K.ref28_Change, ↓reduceIte, c, v, true_or]
  | true =>
    rw [hv] at v
    obtain ⟨s1, s2, s3⟩ := validS_spec hv
    cases ho : flowsB m old with
    | false =>
      rw [ho] at f1
      obtain ⟨time, frm⟩ := s
      simp only at *
      simp (disch := omega) only [go_sem, K.ref28_Change, ↓reduceIte, c, v, f1, true_or, or_true]
    | true =>
      rw [ho] at f1
      obtain ⟨o1, o2⟩ := flowsB_spec ho
      cases hf : flowsB next fl with
      | false =>
        rw [hf] at f2
        obtain ⟨time, frm⟩ := s
        simp only at *
        simp (disch := omega) only [go_sem, K.ref28_Change, ↓reduceIte, c, v, f1, f2, ck, true_or, or_true]
      | true =>
        rw [hf] at f2
        by_cases hp : next.places.length = m.places.length
        · by_cases h1 : t < s.time
          · obtain ⟨time, frm⟩ := s
            simp only at *
            simp (disch := omega) only [go_sem, K.ref28_Change, ↓reduceIte, c, v, f1, f2, ck, hp, h1, true_or, ne_eq, not_true_eq_false, or_self, Bool.true_eq_false]
          · by_cases h2 : 2147483648 < t
            · obtain ⟨time, frm⟩ := s
              simp only at *
              simp (disch := omega) only [go_sem, K.ref28_Change, ↓reduceIte, c, v, f1, f2, ck, hp, h1, h2, or_true, ne_eq, not_true_eq_false, or_self, Bool.true_eq_false]
            · have ht : inT t := by unfold inT at s2 ⊢; omega
              obtain ⟨time, frm⟩ := s
              simp only at s1 s2 s3 c v h1 hs ⊢
              have hb : bnd frm := fun x hx => by
                have := s3 x hx
                unfold plS at this; unfold inT at s2; omega
              have l1 : ∀ a b c d e f : D, exS CALL K.ref28_Change_l1 ⟨[a, .t (tS old), b, .t (tS fl), c, I t, .bp 0 0, .bp 1 0, .bp 2 0, .bp 3 0, d, .ref 4 0 frm.length, I 0, e, f], [.box (mineCells m), .box (mineCells next), .box [I time, .t (tL frm)], .box [I 0, .nil], .arr 1 false 0 ((frm.map (T.int .i64)).map .t)]⟩ =
                  some (.exit 0, ⟨[.und, .t (tS old), .und, .t (tS fl), .und, I t, .bp 0 0, .bp 1 0, .bp 2 0, .bp 3 0, .und, .ref 4 0 frm.length, I m.roads.length, .und, .und], [.box (mineCells m), .box (mineCells next), .box [I time, .t (tL frm)], .box [I 0, .nil], .arr 1 false 0 (((chN m old frm t m.roads.length).map (T.int .i64)).map .t)]⟩) := by
                intro a b c d e f
                refine loop_up (fun j => ⟨[.und, .t (tS old), .und, .t (tS fl), .und, I t, .bp 0 0, .bp 1 0, .bp 2 0, .bp 3 0, .und, .ref 4 0 frm.length, I j, .und, .und], [.box (mineCells m), .box (mineCells next), .box [I time, .t (tL frm)], .box [I 0, .nil], .arr 1 false 0 (((chN m old frm t j).map (T.int .i64)).map .t)]⟩) m.roads.length rfl ?_ ?_ (by simp)
                · intro j hj
                  have st := ch_step h old o1 o2 time t ht frm (chN m old frm t j) s1 (by rw [chN_len, s1]) j hj (mineCells next) (.t (tS fl)) rfl rfl
                  rw [chN_len] at st
                  exact st
                · simp (disch := omega) only [go_sem, K.ref28_Change_l1b, ↓reduceIte]
              have lc := chN_len m old frm t m.roads.length
              have bc := chN_bnd h old s1 hb ht m.roads.length (Nat.le_refl _)
              generalize hL : chN m old frm t m.roads.length = L at *
              have lm := maxN_len t L
              have l2 : ∀ a b c d e f g h' i : D, exS CALL K.ref28_Change_l2 ⟨[a, b, c, .t (tS fl), d, I t, e, .bp 1 0, f, .bp 3 0, g, .ref 4 0 L.length, h', i, I 0], [.box (mineCells m), .box (mineCells next), .box [I time, .t (tL frm)], .box [I 0, .nil], .arr 1 false 0 ((L.map (T.int .i64)).map .t)]⟩ =
                  some (.exit 2, ⟨[.und, .und, .und, .t (tS fl), .und, I t, .und, .bp 1 0, .und, .bp 3 0, .und, .ref 4 0 L.length, .und, .und, I L.length], [.box (mineCells m), .box (mineCells next), .box [I time, .t (tL frm)], .box [I 0, .nil], .arr 1 false 0 (((maxN t L L.length).map (T.int .i64)).map .t)]⟩) := by
                intro a b c d e f g h' i
                refine loop_up (fun j => ⟨[.und, .und, .und, .t (tS fl), .und, I t, .und, .bp 1 0, .und, .bp 3 0, .und, .ref 4 0 L.length, .und, .und, I j], [.box (mineCells m), .box (mineCells next), .box [I time, .t (tL frm)], .box [I 0, .nil], .arr 1 false 0 (((maxN t L j).map (T.int .i64)).map .t)]⟩) L.length rfl ?_ ?_ (by simp)
                · intro j hj
                  have lj := lm j
                  simp (disch := omega) only [go_sem, K.ref28_Change_l2b, ↓reduceIte, maxN]
                · simp (disch := omega) only [go_sem, K.ref28_Change_l2b, ↓reduceIte]
              have lm := lm L.length
              have bm := maxN_bnd ht bc L.length (Nat.le_refl _)
              have cl := (closeS_ok hn fl hf (maxN t L L.length) (by omega) bm).1
              have e : m.places.length = frm.length := by omega
              rw [lc] at l2 cl lm
              simp (disch := omega) only [go_sem, K.ref28_Change, ↓reduceIte, c, v, f1, f2, ck, hp, h1, h2, e, or_false, ne_eq, not_true_eq_false, or_self, Bool.true_eq_false, l1, l2, cl]
              done
        · obtain ⟨time, frm⟩ := s
          simp only at *
          simp (disch := omega) only [go_sem, K.ref28_Change, ↓reduceIte, c, v, f1, f2, ck, hp, not_false_eq_true, ne_eq, or_true]

end Go.Ev

/- Chapter 26 of the references: tags. -/
namespace Go.Ev
open Go
variable [Lib] [Has1] [Has2]

/-- A loop that ends at the first round of a kind; how it ends is not told in full. -/
theorem loop_find {gc : Bool} {dead : List Nat} {c : C} {vs : List D} {H : Heap} (s : Nat → St) (n : Nat) (p : Nat → Bool) (P : Nat → Ex × St → Prop) (eN : Ex × St)
    (h0 : (⟨dropV dead vs, H⟩ : St) = s 0) (hs : ∀ j, j < n → p j = false → roundC gc dead (s j).H.length (exS CALL c (s j)) = some (s (j + 1)))
    (he : ∀ j, j < n → p j = true → ∃ q, exS CALL c (s j) = some q ∧ q.1 ≠ .normal ∧ P j q) (hN : exS CALL c (s n) = some eN) (hn : eN.1 ≠ .normal) :
    ((List.range n).find? p = none ∧ exS CALL (.loop gc dead c) ⟨vs, H⟩ = some eN) ∨ ∃ j q, (List.range n).find? p = some j ∧ exS CALL (.loop gc dead c) ⟨vs, H⟩ = some q ∧ P j q := by
  classical
  let e : Nat → Ex × St := fun j => if h : j < n ∧ p j = true then Classical.choose (he j h.1 h.2) else eN
  have h2 : ∀ j, j < n → p j = true → exS CALL c (s j) = some (e j) ∧ (e j).1 ≠ .normal ∧ P j (e j) := by
    intro j hj hp
    have e1 : e j = Classical.choose (he j hj hp) := dif_pos ⟨hj, hp⟩
    rw [e1]
    exact Classical.choose_spec (he j hj hp)
  have := loop_first s n p e eN h0 hs (fun j hj hp => ⟨(h2 j hj hp).1, (h2 j hj hp).2.1⟩) hN hn
  cases hf : (List.range n).find? p with
  | none => rw [hf] at this; exact .inl ⟨rfl, this⟩
  | some j =>
    rw [hf] at this
    obtain ⟨h3, h4⟩ := find_lt hf
    exact .inr ⟨j, e j, rfl, this, (h2 j h3 h4).2.2⟩

def lessB (a b : List Int) : Bool := match (List.range (min a.length b.length)).find? (fun j => decide (nth a j ≠ nth b j)) with
  | some j => decide (nth a j < nth b j)
  | none => decide (a.length < b.length)

theorem less_ok (a b : List Int) (ha : a.length ≤ 1000000) (hb : b.length ≤ 1000000) : CALL 0 N.ref26_Less [.t (tL a), .t (tL b)] [] = some (B (lessB a b), []) := by
  refine CALL_of K.t_ref26_Less rfl ?_
  have loop : ∀ c : D, exS CALL K.ref26_Less_l1 ⟨[.t (tL a), .t (tL b), c, I 0], []⟩ =
      some (match (List.range (min a.length b.length)).find? (fun j => decide (nth a j ≠ nth b j)) with
        | some j => (.ret, ⟨[.t (tL a), .t (tL b), B (decide (nth a j < nth b j)), I j], []⟩)
        | none => (.exit 0, ⟨[.t (tL a), .t (tL b), .und, I (min a.length b.length : Nat)], []⟩)) := by
    intro c
    refine loop_first (fun j => ⟨[.t (tL a), .t (tL b), .und, I j], []⟩) (min a.length b.length) (fun j => decide (nth a j ≠ nth b j)) _ _ rfl ?_ ?_ ?_ (by simp)
    · intro j hj hp
      have hp : nth a j = nth b j := by simpa using hp
      simp (disch := omega) only [go_sem, K.ref26_Less_l1b, ↓reduceIte]
    · intro j hj hp
      have hp : nth a j ≠ nth b j := by simpa using hp
      refine ⟨?_, by simp⟩
      by_cases h1 : nth a j < nth b j
      · simp (disch := omega) only [go_sem, K.ref26_Less_l1b, ↓reduceIte, h1, decide_true]
      · simp (disch := omega) only [go_sem, K.ref26_Less_l1b, ↓reduceIte, h1, decide_false]
    · by_cases h1 : a.length ≤ b.length
      · have e : min a.length b.length = a.length := by omega
        rw [e]
        simp (disch := omega) only [go_sem, K.ref26_Less_l1b, ↓reduceIte]
      · have e : min a.length b.length = b.length := by omega
        rw [e]
        simp (disch := omega) only [go_sem, K.ref26_Less_l1b, ↓reduceIte]
  unfold lessB
  simp (disch := omega) only [go_sem, K.ref26_Less, ↓reduceIte, loop]
  cases hf : (List.range (min a.length b.length)).find? (fun j => decide (nth a j ≠ nth b j)) with
  | some j => simp (disch := omega) only [go_sem, ↓reduceIte]
  | none =>
    by_cases h1 : a.length < b.length
    · simp (disch := omega) only [go_sem, ↓reduceIte, h1, decide_true]
    · simp (disch := omega) only [go_sem, ↓reduceIte, h1, decide_false]

def bearerF (l : List Int) (x : Int) : Int := match (List.range l.length).find? (fun j => decide (nth l j = x)) with
  | some j => j
  | none => -1

theorem bearer_ok (l : List Int) (x : Int) (hl : l.length ≤ 1000000) : CALL 0 N.ref26_bearer [.t (tL l), I x] [] = some (I (bearerF l x), []) := by
  refine CALL_of K.t_ref26_bearer rfl ?_
  have loop : ∀ c : D, exS CALL K.ref26_bearer_l1 ⟨[.t (tL l), I x, c, I 0], []⟩ =
      some (match (List.range l.length).find? (fun j => decide (nth l j = x)) with
        | some j => (.ret, ⟨[.t (tL l), I x, I j, I j], []⟩)
        | none => (.exit 0, ⟨[.t (tL l), I x, .und, I l.length], []⟩)) := by
    intro c
    refine loop_first (fun j => ⟨[.t (tL l), I x, .und, I j], []⟩) l.length (fun j => decide (nth l j = x)) _ _ rfl ?_ ?_ ?_ (by simp)
    · intro j hj hp
      have hp : ¬ nth l j = x := by simpa using hp
      simp (disch := omega) only [go_sem, K.ref26_bearer_l1b, ↓reduceIte]
    · intro j hj hp
      have hp : nth l j = x := by simpa using hp
      refine ⟨?_, by simp⟩
      simp (disch := omega) only [go_sem, K.ref26_bearer_l1b, ↓reduceIte, hp]
    · simp (disch := omega) only [go_sem, K.ref26_bearer_l1b, ↓reduceIte]
  unfold bearerF
  simp (disch := omega) only [go_sem, K.ref26_bearer, ↓reduceIte, loop]
  cases hf : (List.range l.length).find? (fun j => decide (nth l j = x)) with
  | some j => simp (disch := omega) only [go_sem, ↓reduceIte]
  | none => simp (disch := omega) only [go_sem, ↓reduceIte]

theorem bearerF_lt {l : List Int} {x : Int} (h : 0 ≤ bearerF l x) : bearerF l x < l.length ∧ nth l (bearerF l x).toNat = x := by
  unfold bearerF at h ⊢
  cases hf : (List.range l.length).find? (fun j => decide (nth l j = x)) with
  | some j =>
    obtain ⟨h1, h2⟩ := find_lt hf
    simp only [Int.toNat_natCast]
    exact ⟨by omega, of_decide_eq_true h2⟩
  | none => rw [hf] at h; simp at h

def properN (l : List Int) (j : Nat) : Bool := decide (1 ≤ nth l j ∧ nth l j ≤ 65535 ∧ bearerF (l.take j) (nth l j) < 0)
def properB (l : List Int) : Bool := (List.range l.length).all (properN l)

theorem proper_ok (l : List Int) (hl : l.length ≤ 1000000) : CALL 0 N.ref26_proper [.t (tL l)] [] = some (B (properB l), []) := by
  refine CALL_of K.t_ref26_proper rfl ?_
  have loop : ∀ c : D, exS CALL K.ref26_proper_l1 ⟨[.t (tL l), c, I 0], []⟩ =
      some (match (List.range l.length).find? (fun j => !properN l j) with
        | some j => (.ret, ⟨[.t (tL l), B false, I j], []⟩)
        | none => (.exit 0, ⟨[.t (tL l), .und, I l.length], []⟩)) := by
    intro c
    refine loop_first (fun j => ⟨[.t (tL l), .und, I j], []⟩) l.length (fun j => !properN l j) _ _ rfl ?_ ?_ ?_ (by simp)
    · intro j hj hp
      have hp : properN l j = true := by simpa using hp
      have b := bearer_ok (l.take j) (nth l j) (by rw [List.length_take]; omega)
      simp only [properN, decide_eq_true_eq] at hp
      simp only [tL, List.map_take] at b
      simp (disch := omega) only [go_sem, K.ref26_proper_l1b, ↓reduceIte, b]
    · intro j hj hp
      have hp : properN l j = false := by simpa using hp
      have b := bearer_ok (l.take j) (nth l j) (by rw [List.length_take]; omega)
      simp only [properN, decide_eq_false_iff_not] at hp
      simp only [tL, List.map_take] at b
      refine ⟨?_, by simp⟩
      by_cases h1 : nth l j < 1
      · simp (disch := omega) only [go_sem, K.ref26_proper_l1b, ↓reduceIte, b]
      · by_cases h2 : 65535 < nth l j
        · simp (disch := omega) only [go_sem, K.ref26_proper_l1b, ↓reduceIte, b]
        · simp (disch := omega) only [go_sem, K.ref26_proper_l1b, ↓reduceIte, b]
    · simp (disch := omega) only [go_sem, K.ref26_proper_l1b, ↓reduceIte]
  unfold properB
  rw [find_all]
  simp (disch := omega) only [go_sem, K.ref26_proper, ↓reduceIte, loop]
  cases hf : (List.range l.length).find? (fun j => !properN l j) with
  | some j => simp (disch := omega) only [go_sem, ↓reduceIte, Option.isNone]
  | none => simp (disch := omega) only [go_sem, ↓reduceIte, Option.isNone]

end Go.Ev

/- Chapter 26 of the references: worlds, copies, validity. -/
namespace Go.Ev
open Go
variable [Lib] [Has1] [Has2]

structure World where
  tags : List Int
  whr : List Wh
instance : Dat World := ⟨⟨[], []⟩⟩
abbrev World.e (x : World) : T := .agg [tL x.tags, .sl (x.whr.map Wh.e)]
structure Bel where
  worlds : List World
instance : Dat Bel := ⟨⟨[]⟩⟩
abbrev Bel.e (b : Bel) : T := .agg [.sl (b.worlds.map World.e)]

/-- Small enough. -/
def World.sz (x : World) : Prop := x.tags.length ≤ 1000000 ∧ x.whr.length ≤ 1000000 ∧ ∀ w ∈ x.whr, w.frm.length ≤ 1000000
def Bel.sz (b : Bel) : Prop := b.worlds.length ≤ 1000000 ∧ ∀ x ∈ b.worlds, x.sz

@[go_sem] theorem cellsAre_wh (l : List Wh) : cellsAre 2 (l.map Wh.e) = true := cellsAre_map 2 _ (fun _ => rfl) l
@[go_sem] theorem cellsAre_world (l : List World) : cellsAre 2 (l.map World.e) = true := cellsAre_map 2 _ (fun _ => rfl) l
@[go_sem] theorem appOK_wh (l : List Wh) : appOK 2 (l.map Wh.e) = true := by cases l <;> rfl
@[go_sem] theorem appOK_world (l : List World) : appOK 2 (l.map World.e) = true := by cases l <;> rfl

theorem copyWorld_loop (x : World) (h : x.sz) (a : D) : exS CALL K.ref26_CopyWorld_l1 ⟨[a, .bp 0 0, .bp 1 0, .bp 3 0, I 0], [.box [.t (tL x.tags), .t (.sl (x.whr.map Wh.e))], .box [.nil, .nil], .arr 1 false 0 ((x.tags.map (T.int .i64)).map .t), .box [.ref 2 0 x.tags.length, .ref 5 0 0], .arr 2 false 0 [], .arr 2 false 0 []]⟩ =
    some (.exit 0, ⟨[.und, .bp 0 0, .bp 1 0, .bp 3 0, I x.whr.length], [.box [.t (tL x.tags), .t (.sl (x.whr.map Wh.e))], .box [.nil, .nil], .arr 1 false 0 ((x.tags.map (T.int .i64)).map .t), .box [.ref 2 0 x.tags.length, .ref 5 0 x.whr.length], .arr 2 false 0 [], .arr 2 false 0 ((x.whr.map Wh.e).map .t)]⟩) := by
  obtain ⟨tags, whr⟩ := x
  obtain ⟨h1, h2, h3⟩ := h
  simp only at h1 h2 h3 ⊢
  have tk : whr.take whr.length = whr := by simp
  refine loop_up (fun j => ⟨[.und, .bp 0 0, .bp 1 0, .bp 3 0, I j], [.box [.t (tL tags), .t (.sl (whr.map Wh.e))], .box [.nil, .nil], .arr 1 false 0 ((tags.map (T.int .i64)).map .t), .box [.ref 2 0 tags.length, .ref 5 0 (whr.take j).length], .arr 2 false 0 [], .arr 2 false 0 (((whr.take j).map Wh.e).map .t)]⟩) whr.length rfl ?_ ?_ (by simp)
  · intro j hj
    have c := copy_ok (nth whr j) (by have := h3 _ (nth_mem hj); omega)
    have lt : (whr.take j).length = j := by rw [List.length_take]; omega
    generalize hx : nth whr j = w at *
    obtain ⟨time, frm⟩ := w
    have tk : whr.take (j + 1) = whr.take j ++ [⟨time, frm⟩] := by rw [take_nth hj, hx]
    generalize whr.take j = pre at *
    simp (disch := omega) only [go_sem, K.ref26_CopyWorld_l1b, ↓reduceIte, hx, c, lt, tk, Nat.reduceAdd, Nat.reduceSub]
  · simp (disch := omega) only [go_sem, K.ref26_CopyWorld_l1b, ↓reduceIte, tk]

theorem copyWorld_ok (x : World) (h : x.sz) : CALL 0 N.ref26_CopyWorld [.t x.e] [] = some (.t x.e, []) := by
  refine CALL_of K.t_ref26_CopyWorld rfl ?_
  have loop := copyWorld_loop x h
  obtain ⟨tags, whr⟩ := x
  obtain ⟨h1, h2, h3⟩ := h
  simp only at h1 h2 h3 loop ⊢
  simp (disch := omega) only [go_sem, K.ref26_CopyWorld, ↓reduceIte, loop]

/-- A world, of which the lists may be written. -/
theorem copyWorld_ok1 (x : World) (h : x.sz) : CALL 1 N.ref26_CopyWorld [.t x.e] [] = some (.agg [.ref 0 0 x.tags.length, .ref 1 0 x.whr.length], [.arr 1 false 0 ((x.tags.map (T.int .i64)).map .t), .arr 2 false 0 ((x.whr.map Wh.e).map .t)]) := by
  refine CALL_of K.t_ref26_CopyWorld rfl ?_
  have loop := copyWorld_loop x h
  obtain ⟨tags, whr⟩ := x
  obtain ⟨h1, h2, h3⟩ := h
  simp only at h1 h2 h3 loop ⊢
  simp (disch := omega) only [go_sem, K.ref26_CopyWorld, ↓reduceIte, loop]

theorem copyBel_loop (l : List World) (h1 : l.length ≤ 1000000) (h2 : ∀ x ∈ l, x.sz) (a : D) : exS CALL K.ref26_Copy_l1 ⟨[a, .bp 0 0, .bp 1 0, .bp 2 0, I 0], [.box [.t (.sl (l.map World.e))], .box [.nil], .box [.ref 3 0 0], .arr 2 false 0 []]⟩ =
    some (.exit 0, ⟨[.und, .bp 0 0, .bp 1 0, .bp 2 0, I l.length], [.box [.t (.sl (l.map World.e))], .box [.nil], .box [.ref 3 0 l.length], .arr 2 false 0 ((l.map World.e).map .t)]⟩) := by
  have tk : l.take l.length = l := by simp
  refine loop_up (fun j => ⟨[.und, .bp 0 0, .bp 1 0, .bp 2 0, I j], [.box [.t (.sl (l.map World.e))], .box [.nil], .box [.ref 3 0 (l.take j).length], .arr 2 false 0 (((l.take j).map World.e).map .t)]⟩) l.length rfl ?_ ?_ (by simp)
  · intro j hj
    have c := copyWorld_ok (nth l j) (h2 _ (nth_mem hj))
    have lt : (l.take j).length = j := by rw [List.length_take]; omega
    generalize hx : nth l j = w at *
    obtain ⟨tags, whr⟩ := w
    have tk : l.take (j + 1) = l.take j ++ [⟨tags, whr⟩] := by rw [take_nth hj, hx]
    generalize l.take j = pre at *
    simp (disch := omega) only [go_sem, K.ref26_Copy_l1b, ↓reduceIte, hx, c, lt, tk, Nat.reduceAdd, Nat.reduceSub]
  · simp (disch := omega) only [go_sem, K.ref26_Copy_l1b, ↓reduceIte, tk]

theorem copyBel_ok (b : Bel) (h : b.sz) : CALL 0 N.ref26_Copy [.t b.e] [] = some (.t b.e, []) := by
  refine CALL_of K.t_ref26_Copy rfl ?_
  obtain ⟨h1, h2⟩ := h
  have loop := copyBel_loop b.worlds h1 h2
  obtain ⟨l⟩ := b
  simp only at h1 h2 loop ⊢
  simp (disch := omega) only [go_sem, K.ref26_Copy, ↓reduceIte, loop]

theorem copyBel_ok1 (b : Bel) (h : b.sz) : CALL 1 N.ref26_Copy [.t b.e] [] = some (.agg [.ref 0 0 b.worlds.length], [.arr 2 false 0 ((b.worlds.map World.e).map .t)]) := by
  refine CALL_of K.t_ref26_Copy rfl ?_
  obtain ⟨h1, h2⟩ := h
  have loop := copyBel_loop b.worlds h1 h2
  obtain ⟨l⟩ := b
  simp only at h1 h2 loop ⊢
  simp (disch := omega) only [go_sem, K.ref26_Copy, ↓reduceIte, loop]

/- validity -/
def whoB (m : Mine) (first : List Int) (x : World) (k : Nat) : Bool := decide (0 ≤ bearerF first (nth x.tags k)) && validB m (nth x.whr k)
def worldB (m : Mine) (ws : List World) (first : List Int) (i : Nat) : Bool :=
  decide ((nth ws i).tags.length = first.length ∧ (nth ws i).whr.length = first.length) && properB (nth ws i).tags && (decide (i = 0) || lessB (nth ws (i - 1)).tags (nth ws i).tags) && (List.range (nth ws i).tags.length).all (whoB m first (nth ws i))
def belB (m : Mine) (b : Bel) : Bool :=
  decide (1 ≤ b.worlds.length ∧ b.worlds.length ≤ 24) && decide (1 ≤ (nth b.worlds 0).tags.length ∧ (nth b.worlds 0).tags.length ≤ 12) && (List.range b.worlds.length).all (worldB m b.worlds (nth b.worlds 0).tags)

theorem worldB_step {m : Mine} (h : m.ok) (ws : List World) (first : List Int) (hf : first.length ≤ 1000000) (hs : ∀ x ∈ ws, x.sz) (i : Nat) (hi : i < ws.length) (hl : ws.length ≤ 1000000) :
    (worldB m ws first i = true → roundC true [0, 1, 4, 7, 8] 2 (exS CALL K.ref26_Valid_l1b ⟨[.und, .und, .bp 0 0, .bp 1 0, .und, .t (tL first), I i, .und, .und], [.box (mineCells m), .box [.t (.sl (ws.map World.e))]]⟩) = some ⟨[.und, .und, .bp 0 0, .bp 1 0, .und, .t (tL first), I (i + 1), .und, .und], [.box (mineCells m), .box [.t (.sl (ws.map World.e))]]⟩) ∧
    (worldB m ws first i = false → ∃ q, exS CALL K.ref26_Valid_l1b ⟨[.und, .und, .bp 0 0, .bp 1 0, .und, .t (tL first), I i, .und, .und], [.box (mineCells m), .box [.t (.sl (ws.map World.e))]]⟩ = some q ∧ q.1 = .ret ∧ q.2.vs[4]? = some (B false)) := by
  have np := h.np
  have sz := hs _ (nth_mem hi)
  have sz0 : 0 < i → (nth ws (i - 1)).sz := fun h0 => hs _ (nth_mem (by omega))
  unfold worldB
  generalize hy : nth ws (i - 1) = y at *
  generalize hx : nth ws i = x at *
  obtain ⟨tags, whr⟩ := x
  obtain ⟨ptags, pwhr⟩ := y
  obtain ⟨s1, s2, s3⟩ := sz
  simp only at s1 s2 s3 sz0 ⊢
  have p := proper_ok tags s1
  have inner : tags.length = first.length → whr.length = first.length → ∀ a b c : D,
      ((List.range tags.length).all (whoB m first ⟨tags, whr⟩) = true ∧ exS CALL K.ref26_Valid_l2 ⟨[a, b, .bp 0 0, .bp 1 0, c, .t (tL first), I i, .bp 2 0, I 0], [.box (mineCells m), .box [.t (.sl (ws.map World.e))], .box [.t (tL tags), .t (.sl (whr.map Wh.e))]]⟩ =
        some (.exit 2, ⟨[.und, .und, .bp 0 0, .bp 1 0, .und, .t (tL first), I i, .bp 2 0, I tags.length], [.box (mineCells m), .box [.t (.sl (ws.map World.e))], .box [.t (tL tags), .t (.sl (whr.map Wh.e))]]⟩)) ∨
      ((List.range tags.length).all (whoB m first ⟨tags, whr⟩) = false ∧ ∃ j, exS CALL K.ref26_Valid_l2 ⟨[a, b, .bp 0 0, .bp 1 0, c, .t (tL first), I i, .bp 2 0, I 0], [.box (mineCells m), .box [.t (.sl (ws.map World.e))], .box [.t (tL tags), .t (.sl (whr.map Wh.e))]]⟩ =
        some (.ret, ⟨[.und, .und, .bp 0 0, .bp 1 0, B false, .t (tL first), I i, .bp 2 0, j], [.box (mineCells m), .box [.t (.sl (ws.map World.e))], .box [.t (tL tags), .t (.sl (whr.map Wh.e))]]⟩)) := by
    intro l1 l2 a b c
    have := loop_first (gc := true) (dead := [0, 1, 4]) (c := K.ref26_Valid_l2b) (vs := [a, b, .bp 0 0, .bp 1 0, c, .t (tL first), I i, .bp 2 0, I 0]) (H := [.box (mineCells m), .box [.t (.sl (ws.map World.e))], .box [.t (tL tags), .t (.sl (whr.map Wh.e))]])
      (fun j => ⟨[.und, .und, .bp 0 0, .bp 1 0, .und, .t (tL first), I i, .bp 2 0, I j], [.box (mineCells m), .box [.t (.sl (ws.map World.e))], .box [.t (tL tags), .t (.sl (whr.map Wh.e))]]⟩) tags.length (fun j => !whoB m first ⟨tags, whr⟩ j)
      (fun j => (.ret, ⟨[.und, .und, .bp 0 0, .bp 1 0, B false, .t (tL first), I i, .bp 2 0, I j], [.box (mineCells m), .box [.t (.sl (ws.map World.e))], .box [.t (tL tags), .t (.sl (whr.map Wh.e))]]⟩))
      (.exit 2, ⟨[.und, .und, .bp 0 0, .bp 1 0, .und, .t (tL first), I i, .bp 2 0, I tags.length], [.box (mineCells m), .box [.t (.sl (ws.map World.e))], .box [.t (tL tags), .t (.sl (whr.map Wh.e))]]⟩) rfl
      (by
        intro j hj hp
        have hp : whoB m first ⟨tags, whr⟩ j = true := by simpa using hp
        have b := bearer_ok first (nth tags j) hf
        have v := valid_ok h (nth whr j) (by have := s3 _ (nth_mem (l := whr) (j := j) (by omega)); omega)
        simp only [whoB, Bool.and_eq_true, decide_eq_true_eq] at hp
        rw [hp.2] at v
        have hp := hp.1
        simp (disch := omega) only [go_sem, K.ref26_Valid_l2b, ↓reduceIte, b, v])
      (by
        intro j hj hp
        have hp : whoB m first ⟨tags, whr⟩ j = false := by simpa using hp
        have b := bearer_ok first (nth tags j) hf
        have v := valid_ok h (nth whr j) (by have := s3 _ (nth_mem (l := whr) (j := j) (by omega)); omega)
        refine ⟨?_, by simp⟩
        by_cases c1 : bearerF first (nth tags j) < 0
        · simp (disch := omega) only [go_sem, K.ref26_Valid_l2b, ↓reduceIte, b, v]
        · have : validB m (nth whr j) = false := by
            simp only [whoB, Bool.and_eq_false_iff, decide_eq_false_iff_not] at hp
            rcases hp with hp | hp
            · exact absurd (by omega) hp
            · exact hp
          rw [this] at v
          simp (disch := omega) only [go_sem, K.ref26_Valid_l2b, ↓reduceIte, b, v])
      (by simp (disch := omega) only [go_sem, K.ref26_Valid_l2b, ↓reduceIte]) (by simp)
    cases hf : (List.range tags.length).find? (fun j => !whoB m first ⟨tags, whr⟩ j) with
    | none => rw [hf] at this; exact .inl ⟨by rw [find_all, hf]; rfl, this⟩
    | some j => rw [hf] at this; exact .inr ⟨by rw [find_all, hf]; rfl, ⟨_, this⟩⟩
  by_cases l1 : tags.length = first.length
  · by_cases l2 : whr.length = first.length
    · cases hp : properB tags with
      | false =>
        rw [hp] at p
        refine ⟨fun h => by simp [hp] at h, fun _ => ?_⟩
        simp (disch := omega) only [go_sem, K.ref26_Valid_l1b, ↓reduceIte, hx, p]
        refine ⟨_, rfl, ?_, ?_⟩ <;> rfl
      | true =>
        rw [hp] at p
        have inner := inner l1 l2
        cases i with
        | zero =>
          simp only [q_cast_zero] at inner
          simp only [l1, l2, and_self, decide_true, Bool.true_and, Bool.true_or] at inner ⊢
          rcases inner .und .und .und with ⟨e, -⟩ | ⟨e, -⟩
          · refine ⟨fun _ => ?_, fun h => by rw [e] at h; exact absurd h (by simp)⟩
            have inner := fun a b c => ((inner a b c).resolve_right fun h => by rw [e] at h; exact absurd h.1 (by simp)).2
            simp (disch := omega) only [go_sem, K.ref26_Valid_l1b, ↓reduceIte, hx, p, inner]
          · refine ⟨fun h => by rw [e] at h; exact absurd h (by simp), fun _ => ?_⟩
            have inner : ∀ a b c, _ := fun a b c => ((inner a b c).resolve_left fun h => by rw [e] at h; exact absurd h.1 (by simp)).2
            obtain ⟨j, inner⟩ := inner .und .und .und
            simp (disch := omega) only [go_sem, K.ref26_Valid_l1b, ↓reduceIte, hx, p, inner]
            refine ⟨_, rfl, ?_, ?_⟩ <;> rfl
        | succ i =>
          simp only [q_cast_add, q_cast_one] at inner
          rw [Nat.add_sub_cancel] at hy
          have ls := less_ok ptags tags (sz0 (by omega)).1 s1
          cases hl : lessB ptags tags with
          | false =>
            rw [hl] at ls
            refine ⟨fun h => by simp at h, fun _ => ?_⟩
            simp (disch := omega) only [go_sem, K.ref26_Valid_l1b, ↓reduceIte, hx, p, hy, ls]
            refine ⟨_, rfl, ?_, ?_⟩ <;> rfl
          | true =>
            rw [hl] at ls
            simp only [l1, l2, and_self, decide_true, Bool.true_and, Bool.or_true] at inner ⊢
            rcases inner .und .und .und with ⟨e, -⟩ | ⟨e, -⟩
            · refine ⟨fun _ => ?_, fun h => by rw [e] at h; exact absurd h (by simp)⟩
              have inner := fun a b c => ((inner a b c).resolve_right fun h => by rw [e] at h; exact absurd h.1 (by simp)).2
              simp (disch := omega) only [go_sem, K.ref26_Valid_l1b, ↓reduceIte, hx, hy, ls, p, inner]
            · refine ⟨fun h => by rw [e] at h; exact absurd h (by simp), fun _ => ?_⟩
              have inner : ∀ a b c, _ := fun a b c => ((inner a b c).resolve_left fun h => by rw [e] at h; exact absurd h.1 (by simp)).2
              obtain ⟨j, inner⟩ := inner .und .und .und
              simp (disch := omega) only [go_sem, K.ref26_Valid_l1b, ↓reduceIte, hx, hy, ls, p, inner]
              refine ⟨_, rfl, ?_, ?_⟩ <;> rfl
    · refine ⟨fun h => by simp [l2] at h, fun _ => ?_⟩
      simp (disch := omega) only [go_sem, K.ref26_Valid_l1b, ↓reduceIte, hx, p]
      refine ⟨_, rfl, ?_, ?_⟩ <;> rfl
  · refine ⟨fun h => by simp [l1] at h, fun _ => ?_⟩
    simp (disch := omega) only [go_sem, K.ref26_Valid_l1b, ↓reduceIte, hx, p]
    refine ⟨_, rfl, ?_, ?_⟩ <;> rfl

theorem belB_ok {m : Mine} (h : m.ok) (b : Bel) (hs : b.sz) : CALL 0 N.ref26_Valid [.t m.e, .t b.e] [] = some (B (belB m b), []) := by
  refine CALL_of K.t_ref26_Valid rfl ?_
  obtain ⟨h1, h2⟩ := hs
  have ck := check_ok h
  obtain ⟨ws⟩ := b
  unfold belB
  simp only at h1 h2 ⊢
  by_cases c1 : ws.length < 1
  · simp (disch := omega) only [go_sem, K.ref26_Valid, ↓reduceIte, show ¬ (1 ≤ ws.length ∧ ws.length ≤ 24) by omega, decide_false, Bool.false_and]
  · by_cases c2 : 24 < ws.length
    · simp (disch := omega) only [go_sem, K.ref26_Valid, ↓reduceIte, show ¬ (1 ≤ ws.length ∧ ws.length ≤ 24) by omega, decide_false, Bool.false_and]
    · have c3 : 1 ≤ ws.length ∧ ws.length ≤ 24 := by omega
      have sz := h2 _ (nth_mem (l := ws) (j := 0) (by omega))
      have i0 : (ws.map World.e)[0]? = some (nth ws 0).e := map_nth _ (by omega)
      generalize hx : nth ws 0 = x at *
      obtain ⟨first, whr⟩ := x
      have hf := sz.1
      simp only at hf ⊢
      by_cases c4 : first.length < 1
      · simp (disch := omega) only [go_sem, K.ref26_Valid, ↓reduceIte, ck, hx, c3, and_self, show ¬ (1 ≤ first.length ∧ first.length ≤ 12) by omega, decide_true, decide_false, Bool.true_and, Bool.false_and]
      · by_cases c5 : 12 < first.length
        · simp (disch := omega) only [go_sem, K.ref26_Valid, ↓reduceIte, ck, hx, c3, and_self, show ¬ (1 ≤ first.length ∧ first.length ≤ 12) by omega, decide_true, decide_false, Bool.true_and, Bool.false_and]
        · have loop := fun a b c d e => loop_find (gc := true) (dead := [0, 1, 4, 7, 8]) (c := K.ref26_Valid_l1b) (vs := [a, b, .bp 0 0, .bp 1 0, c, .t (tL first), I 0, d, e]) (H := [.box (mineCells m), .box [.t (.sl (ws.map World.e))]])
            (fun j => ⟨[.und, .und, .bp 0 0, .bp 1 0, .und, .t (tL first), I j, .und, .und], [.box (mineCells m), .box [.t (.sl (ws.map World.e))]]⟩) ws.length (fun j => !worldB m ws first j) (fun _ q => q.1 = .ret ∧ q.2.vs[4]? = some (B false))
            (.exit 0, ⟨[.und, .und, .bp 0 0, .bp 1 0, .und, .t (tL first), I ws.length, .und, .und], [.box (mineCells m), .box [.t (.sl (ws.map World.e))]]⟩) rfl
            (fun j hj hp => (worldB_step h ws first hf h2 j hj h1).1 (by simpa using hp))
            (fun j hj hp => by
              obtain ⟨q, q1, q2, q3⟩ := (worldB_step h ws first hf h2 j hj h1).2 (by simpa using hp)
              exact ⟨q, q1, by rw [q2]; simp, q2, q3⟩)
            (by simp (disch := omega) only [go_sem, K.ref26_Valid_l1b, ↓reduceIte]) (by simp)
          rw [find_all]
          rcases loop (.t m.e) (.t (Bel.e ⟨ws⟩)) (B false) .und .und with ⟨e1, e2⟩ | ⟨j, ⟨x, vs, H⟩, e1, e2, e3, e4⟩
          · have e2 : exS CALL K.ref26_Valid_l1 ⟨[.t m.e, .t (Bel.e ⟨ws⟩), .bp 0 0, .bp 1 0, B false, .t (tL first), I 0, .und, .und], [.box (mineCells m), .box [.t (.sl (ws.map World.e))]]⟩ = _ := e2
            simp (disch := omega) only [go_sem, K.ref26_Valid, ↓reduceIte, ck, hx, c3, and_self, show (1 ≤ first.length ∧ first.length ≤ 12) by omega, decide_true, decide_false, Bool.true_and, e1, e2, Option.isNone]
          · have e2 : exS CALL K.ref26_Valid_l1 ⟨[.t m.e, .t (Bel.e ⟨ws⟩), .bp 0 0, .bp 1 0, B false, .t (tL first), I 0, .und, .und], [.box (mineCells m), .box [.t (.sl (ws.map World.e))]]⟩ = _ := e2
            simp only at e3 e4
            subst e3
            simp (disch := omega) only [go_sem, K.ref26_Valid, ↓reduceIte, ck, hx, c3, and_self, show (1 ≤ first.length ∧ first.length ≤ 12) by omega, decide_true, decide_false, Bool.true_and, e1, e2, Option.isNone]
            simp (disch := omega) only [go_sem, getRes, e4, List.take_zero]

end Go.Ev

/- More about operations, and searches. -/
namespace Go.Ev
open Go
variable [Lib] [Has1] [Has2]

@[go_sem] theorem opBs_3n (H : Heap) (a b : List T) : opBs H 1 [.t (.sl a), .t (.sl b), .nil] = some (.t (.sl [.sl a, .sl b, .sl []]), H) := by
  simp only [opBs, List.all_cons, List.all_nil, D.cells, T.cells, List.map_cons, List.map_nil, List.length_cons, List.length_nil, mapO, frz, depth, arrs, List.flatMap_cons, List.flatMap_nil, pins]
  rfl
/- equality of numbers side by side -/
def eqAnd (c : Bool) : Option Bool → Option Bool
  | some d => some (c && d)
  | none => none
@[go_sem] theorem eqAnd_some (c d : Bool) : eqAnd c (some d) = some (c && d) := (rfl)
@[go_sem] theorem eqInts_nil : eqInts [] [] = some true := (rfl)
@[go_sem] theorem eqInts_cons (k : IntKind) (a b : Int) (xs ys : List T) : eqInts (.int k a :: xs) (.int k b :: ys) = eqAnd (decide (a = b)) (eqInts xs ys) := by
  simp only [eqInts, if_true, beqI]
  cases eqInts xs ys <;> rfl
def eqOut (H : Heap) (neg : Bool) : Option Bool → Option (D × Heap)
  | some r => some (.t (.bool (bif neg then !r else r)), H)
  | none => none
@[go_sem] theorem eqOut_true (H : Heap) (r : Bool) : eqOut H true (some r) = some (.t (.bool (!r)), H) := (rfl)
@[go_sem] theorem eqOut_false (H : Heap) (r : Bool) : eqOut H false (some r) = some (.t (.bool r), H) := (rfl)
@[go_sem] theorem opEqk_intsG (H : Heap) (n : Nat) (neg : Bool) (xs ys : List T) : opEqk H (.ints n) neg (some (.t (.agg xs))) (some (.t (.agg ys))) = if xs.length = n then eqOut H neg (eqInts xs ys) else none := by
  simp only [opEqk, Option.bind_some, eqkD, eqD]
  by_cases h : xs.length = n
  · simp only [if_pos h]
    cases eqInts xs ys with
    | none => rfl
    | some r => cases neg <;> rfl
  · simp only [if_neg h]; rfl

@[go_sem] theorem q_cast_two : ((2 : Nat) : Int) = 2 := (rfl)
@[go_sem] theorem q_cast_three : ((3 : Nat) : Int) = 3 := (rfl)

/- A search: the first round that leaves, or the end. -/
def firstN (n : Nat) (p : Nat → Bool) : Nat := ((List.range n).find? p).getD 0
theorem loop_srch {gc : Bool} {dead : List Nat} {c : C} {vs : List D} {H : Heap} (s : Nat → St) (n : Nat) (p : Nat → Bool) (e : Nat → Ex × St) (eN : Ex × St)
    (h0 : (⟨dropV dead vs, H⟩ : St) = s 0)
    (hs : ∀ j, j < n → p j = false → roundC gc dead (s j).H.length (exS CALL c (s j)) = some (s (j + 1)))
    (he : ∀ j, j < n → p j = true → exS CALL c (s j) = some (e j) ∧ (e j).1 ≠ .normal)
    (hN : exS CALL c (s n) = some eN) (hn : eN.1 ≠ .normal) :
    exS CALL (.loop gc dead c) ⟨vs, H⟩ = some (if (List.range n).any p = true then e (firstN n p) else eN) := by
  rw [loop_first s n p e eN h0 hs he hN hn, ← find_any]
  unfold firstN
  cases hf : (List.range n).find? p with
  | none => simp
  | some k => simp
theorem any_rng {α : Type} [Dat α] (l : List α) (p : α → Bool) : ((List.range l.length).any fun j => p (nth l j)) = l.any p := by
  rw [Bool.eq_iff_iff, List.any_eq_true, List.any_eq_true]
  constructor
  · rintro ⟨j, hj, hp⟩
    exact ⟨_, nth_mem (List.mem_range.1 hj), hp⟩
  · rintro ⟨x, hx, hp⟩
    obtain ⟨j, hj, rfl⟩ := List.getElem_of_mem hx
    exact ⟨j, List.mem_range.2 hj, by rw [nth_eq (List.getElem?_eq_getElem hj)]; exact hp⟩
theorem all_rng (n : Nat) (p : Nat → Bool) : (List.range n).all p = !((List.range n).any fun j => !p j) := by
  rw [List.all_eq_not_any_not]
end Go.Ev

/- MADE BY PROGRAM (lib.py): the numbers of functions. -/
namespace Go.Ev.N
def law34_FiringRaw : Nat := 78
def law34_FiringMade : Nat := 79
def law34_FiringNeeds : Nat := 80
def law34_awake : Nat := 81
def made_Dice_Ints : Nat := 82
def law34_scene : Nat := 83
def law34_agree : Nat := 84
def law34_ready : Nat := 85
def firing_Arm : Nat := 86
def firing_Agree : Nat := 87
def firing_Fire : Nat := 88
def firing_Abort : Nat := 89
def firing_Valid : Nat := 90
def firing_Due : Nat := 91
def ref32_Border : Nat := 92
def ref32_Seal : Nat := 93
def made_Last : Nat := 94
def ref34_Arm : Nat := 95
def ref34_Agree : Nat := 96
def ref34_Fire : Nat := 97
def ref34_Abort : Nat := 98
def ref34_Valid : Nat := 99
def firing_Safe : Nat := 100
def ref34_Safe : Nat := 101
def ref34_Due : Nat := 102
def firing_request_check : Nat := 103
def firing_timely : Nat := 104
def lists_Rising : Nat := 105
def ref32_Barred : Nat := 106
def ref32_seal : Nat := 107
def ref34_step : Nat := 108
def ref34_blast : Nat := 109
def keys_Valid : Nat := 110
def area_Clear : Nat := 111
def ref33_Valid : Nat := 112
def ref32_Clear : Nat := 113
def ref31_Copy : Nat := 114
def keys_Valid_1 : Nat := 115
def keys_roads : Nat := 116
def keys_boxed : Nat := 117
def area_Clear_1 : Nat := 118
def keys_boxed_1 : Nat := 119
def ref26_Copy_v1 : Nat := 120
def ref26_Copy_v2 : Nat := 121
def ref26_CopyWorld_v2 : Nat := 122
end Go.Ev.N

/- MADE BY PROGRAM (lib.py): the compact code of functions. -/
namespace Go.Ev.K
open Go.Ev
end Go.Ev.K
namespace Go.Ev
class Has3 [Lib] : Prop where
namespace K
variable [Lib] [Has3]
end K
end Go.Ev

/- MADE BY PROGRAM (lib.py): the compact code of functions. -/
namespace Go.Ev.K
open Go.Ev
def lists_Rising_l1b : C := (.its  [{ o := .bin .lss (.v 8) (.v 7) }] [] 0 .skip (.exit 0) (.seq (.blk 1 (.seq (.reg [{ o := .mv (.v 8) }, { o := .ia (.v 6) (.v 8) 1 }, { o := .ld (.l 0) 1 false }, { o := .mv (.l 2), d := some 4 }, { o := .mv (.l 1), d := some 5 }] []) (.ite [{ o := .mv (.v 5) }, { o := .mv (.v 1) }, { o := .bin .lss (.l 1) (.l 0) }, { o := .mv (.l 0) }, { o := .mv (.v 5), g := some (0, false) }, { o := .mv (.v 2), g := some (1, false) }, { o := .bin .gtr (.l 1) (.l 0), g := some (2, false) }, { o := .pk (.l 3) (.b true) (.l 0) }, { o := .mv (.l 0) }, { o := .mv (.v 4), g := some (0, false) }, { o := .bin .gtr (.l 0) (.i 0), g := some (1, false) }, { o := .mv (.l 0), g := some (2, false) }, { o := .mv (.v 5), g := some (0, true) }, { o := .mv (.v 0), g := some (1, true) }, { o := .mv (.v 4), g := some (2, true) }, { o := .bin .sub (.l 0) (.i 1), g := some (3, true) }, { o := .ia (.l 2) (.l 0) 1, g := some (4, true) }, { o := .ld (.l 0) 1 false, g := some (5, true) }, { o := .bin .leq (.l 5) (.l 0), g := some (6, true) }, { o := .pk (.l 7) (.l 0) (.b false), g := some (10, false) }, { o := .pk (.l 11) (.b true) (.l 0) }] [] 0 (.seq (.reg [{ o := .mv (.b false), d := some 3 }] []) .ret) .skip))) (.reg [{ o := .bin .add (.v 8) (.i 1) }, { o := .mv (.l 0), d := some 8 }] [])))
def lists_Rising_l1 : C := .loop true [3, 4, 5] K.lists_Rising_l1b
/-- /lists.Rising -/
def lists_Rising : Fn := { nargs := 3, vars := [0, 1, 2, 6, 7, 8, 9, 10, 11], body := (.seq (.reg [{ o := .mv (.b false), d := some 3 }] []) (.seq (.seq (.reg [{ o := .mv (.v 0), d := some 6 }, { o := .ln (.l 0), d := some 7 }, { o := .mv (.i 0), d := some 8 }] []) (.blk 0 K.lists_Rising_l1)) (.seq (.reg [{ o := .mv (.b true), d := some 3 }] []) .ret))), res := [(3, none)] }
end Go.Ev.K
namespace Go.Ev
class Has4 [Lib] : Prop where
  t_lists_Rising : Lib.fs N.lists_Rising = some K.lists_Rising
namespace K
variable [Lib] [Has4]
theorem t_lists_Rising : Lib.fs N.lists_Rising = some K.lists_Rising := Has4.t_lists_Rising
end K
end Go.Ev

/- Shots: what the program and the reference say. -/
namespace Go.Ev
open Go
variable [Lib] [Has1] [Has2] [Has3] [Has4]

def risP (l : List Int) (lo hi : Int) (j : Nat) : Bool := !decide (lo ≤ nth l j ∧ nth l j ≤ hi ∧ (0 < j → nth l (j - 1) < nth l j))
def risB (l : List Int) (lo hi : Int) : Bool := !((List.range l.length).any (risP l lo hi))
theorem rising_ok (l : List Int) (lo hi : Int) (hl : l.length ≤ 4294967296) : CALL 0 N.lists_Rising [.t (tL l), I lo, I hi] [] = some (B (risB l lo hi), []) := by
  refine CALL_of K.t_lists_Rising rfl ?_
  have loop : ∀ a b c : D, exS CALL K.lists_Rising_l1 ⟨[.t (tL l), I lo, I hi, a, b, c, .t (tL l), I l.length, I 0], []⟩ =
      some (if (List.range l.length).any (risP l lo hi) = true
        then (.ret, ⟨[.t (tL l), I lo, I hi, B false, I (firstN l.length (risP l lo hi)), I (nth l (firstN l.length (risP l lo hi))), .t (tL l), I l.length, I (firstN l.length (risP l lo hi))], []⟩)
        else (.exit 0, ⟨[.t (tL l), I lo, I hi, .und, .und, .und, .t (tL l), I l.length, I l.length], []⟩)) := by
    intro a b c
    refine loop_srch (fun j => ⟨[.t (tL l), I lo, I hi, .und, .und, .und, .t (tL l), I l.length, I j], []⟩) l.length (risP l lo hi) (fun j => (.ret, ⟨[.t (tL l), I lo, I hi, B false, I j, I (nth l j), .t (tL l), I l.length, I j], []⟩)) _ rfl ?_ ?_ ?_ (by simp)
    · intro j hj hp
      simp only [risP, Bool.not_eq_false', decide_eq_true_eq] at hp
      obtain ⟨h1, h2, h3⟩ := hp
      cases j with
      | zero => simp (disch := omega) only [go_sem, K.lists_Rising_l1b, ↓reduceIte]
      | succ j =>
        have h3 := h3 (by omega)
        rw [Nat.add_sub_cancel] at h3
        simp (disch := omega) only [go_sem, K.lists_Rising_l1b, ↓reduceIte]
    · intro j hj hp
      simp only [risP, Bool.not_eq_true', decide_eq_false_iff_not] at hp
      refine ⟨?_, by simp⟩
      by_cases h1 : lo ≤ nth l j
      · by_cases h2 : nth l j ≤ hi
        · cases j with
          | zero => exact absurd ⟨h1, h2, fun h => absurd h (by omega)⟩ hp
          | succ j =>
            have h3 : ¬ nth l j < nth l (j + 1) := fun h => hp ⟨h1, h2, fun _ => by simpa using h⟩
            simp (disch := omega) only [go_sem, K.lists_Rising_l1b, ↓reduceIte]
        · simp (disch := omega) only [go_sem, K.lists_Rising_l1b, ↓reduceIte]
      · simp (disch := omega) only [go_sem, K.lists_Rising_l1b, ↓reduceIte]
    · simp (disch := omega) only [go_sem, K.lists_Rising_l1b, ↓reduceIte]
  unfold risB
  simp (disch := omega) only [go_sem, K.lists_Rising, ↓reduceIte, loop]
  cases hf : (List.range l.length).any (risP l lo hi) with
  | true => simp (disch := omega) only [go_sem, ↓reduceIte]
  | false => simp (disch := omega) only [go_sem, ↓reduceIte, Bool.false_eq_true]
theorem ris_set (l : List Int) (n : Int) : risB l 0 (n - 1) = setB l n := by
  unfold risB setB
  rw [all_rng]
  refine congrArg (!·) (congrArg _ (funext fun j => ?_))
  unfold risP
  refine congrArg (!·) (decide_eq_decide.2 ⟨fun h => ⟨h.1, by omega, h.2.2⟩, fun h => ⟨h.1, by omega, h.2.2⟩⟩)

structure Shot where
  st : Int
  fi : Int
  se : Int
  ti : Int
abbrev Shot.e (s : Shot) : T := .agg [tI s.st, tI s.fi, tI s.se, tI s.ti]
structure Blast where
  area : List Int
  hold : Int
  mis : Int
abbrev Blast.e (x : Blast) : T := .agg [tL x.area, tI x.hold, tI x.mis]
structure Keys where
  roads : List Int
  keys : List Int
  out : Bool
abbrev Keys.e (k : Keys) : T := .agg [tL k.roads, tL k.keys, .bool k.out]

/- keys -/
def boxedF (l : List Int) : Bool := !l.any fun x => !decide (x = 2)
def kroadsF (l : List Int) : Bool := decide (1 ≤ (l.length : Int) ∧ (l.length : Int) ≤ 12) && risB l 0 127
def keysF (k : Keys) : Bool := kroadsF k.roads && decide (k.keys.length = k.roads.length) && !(k.keys.any fun x => !decide (0 ≤ x ∧ x ≤ 2)) && (!k.out || boxedF k.keys)
/- shots -/
def stateF (s : Shot) : Bool := if s.st = 0 then decide (s.fi = 0 ∧ s.se = 0 ∧ s.ti = 0) else if s.st = 1 then decide (0 < s.fi ∧ s.se = 0)
  else if s.st = 2 ∨ s.st = 3 ∨ s.st = 4 then decide (0 < s.fi ∧ 0 < s.se ∧ s.fi ≠ s.se) else false
def shotF (x : Blast) (s : Shot) : Bool := !decide (x.area.length = 0) && risB x.area 0 63 && decide (1 ≤ x.hold ∧ x.hold ≤ 100000) && decide (1 ≤ x.mis ∧ x.mis ≤ 100000) && decide (0 ≤ s.ti ∧ s.ti ≤ 2147483648) && stateF s

end Go.Ev

/- Made inputs: mines. -/
namespace Go.Ev
open Go
variable [Lib] [Has1] [Has2]

@[go_sem] theorem appOK_place (l : List Place) : appOK 2 (l.map Place.e) = true := by cases l <;> rfl
@[go_sem] theorem appOK_road (l : List Road) : appOK 10 (l.map Road.e) = true := by cases l <;> rfl

@[go_sem] theorem ldBox_dice (H : Heap) (d : Dice) : ldBox H 0 1 false (some d.obj) = some (.t (tL d.L), H) := by simp only [Dice.obj, go_sem]

def Dice.placesN (d : Dice) : Nat → List Place × Dice
  | 0 => ([], d)
  | k + 1 => if k = 0 then ((d.placesN k).1 ++ [⟨-10 * ((d.placesN k).2.next 4).1, true⟩], ((d.placesN k).2.next 4).2)
    else ((d.placesN k).1 ++ [⟨-10 * ((d.placesN k).2.next 4).1, (((d.placesN k).2.next 4).2.one 6).1⟩], (((d.placesN k).2.next 4).2.one 6).2)

def Dice.road1 (d : Dice) (i : Int) : Road × Dice :=
  (⟨i - 1 - (d.next (min i 2)).1, i, 1 + ((d.next (min i 2)).2.of [11, 59, 119, 4]).1, 1 + (((d.next (min i 2)).2.of [11, 59, 119, 4]).2.of [9, 3, 19]).1, true, false, 1, 1, 0, 0⟩,
    (((d.next (min i 2)).2.of [11, 59, 119, 4]).2.of [9, 3, 19]).2)
def Dice.roadsN (d : Dice) : Nat → List Road × Dice
  | 0 => ([], d)
  | k + 1 => ((d.roadsN k).1 ++ [((d.roadsN k).2.road1 (k + 1)).1], ((d.roadsN k).2.road1 (k + 1)).2)

def Dice.road2 (d : Dice) (n : Int) : Road × Dice :=
  let a := d.next n
  let b := a.2.next n
  let l := b.2.of [11, 59, 199]
  let r := l.2.of [9, 3]
  let w := r.2.next 5
  let c := w.2.one 6
  (⟨a.1, b.1, 1 + l.1, 1 + r.1, decide (0 < w.1), c.1, 1, 1, 0, 0⟩, c.2)
def Dice.more (n : Int) (l : List Road) (d : Dice) : Nat → List Road × Dice
  | 0 => (l, d)
  | k + 1 => if l.length < 10 then Dice.more n (if (d.road2 n).1.frm = (d.road2 n).1.to then l else l ++ [(d.road2 n).1]) (d.road2 n).2 k else (l, d)

def Dice.mineN (d : Dice) : Nat := if d.L.length = 0 then 4 else (2 + (d.next 6).1).toNat
def Dice.mineP (d : Dice) : List Place × Dice := (d.next 6).2.placesN d.mineN
def Dice.mineR (d : Dice) : List Road × Dice := d.mineP.2.roadsN (d.mineN - 1)
def Dice.mineX (d : Dice) : List Road × Dice := Dice.more d.mineN d.mineR.1 (d.mineR.2.next 4).2 (d.mineR.2.next 4).1.toNat
def Dice.mine (d : Dice) : Mine × Dice := (⟨d.mineP.1, d.mineX.1⟩, d.mineX.2)

theorem Dice.placesN_light {d : Dice} (h : d.light) : ∀ n, (d.placesN n).2.light
  | 0 => h
  | n + 1 => by
    unfold Dice.placesN
    split
    · exact Dice.next_light (Dice.placesN_light h n) 4
    · exact Dice.one_light (Dice.next_light (Dice.placesN_light h n) 4) 6
theorem Dice.placesN_len (d : Dice) : ∀ n, (d.placesN n).1.length = n
  | 0 => rfl
  | n + 1 => by
    unfold Dice.placesN
    split <;> simp [d.placesN_len n]
theorem Dice.road1_light {d : Dice} (h : d.light) (i : Int) : (d.road1 i).2.light := Dice.of_light (Dice.of_light (Dice.next_light h _) _) _
theorem Dice.roadsN_light {d : Dice} (h : d.light) : ∀ n, (d.roadsN n).2.light
  | 0 => h
  | n + 1 => Dice.road1_light (Dice.roadsN_light h n) _
theorem Dice.roadsN_len (d : Dice) : ∀ n, (d.roadsN n).1.length = n
  | 0 => rfl
  | n + 1 => by simp [Dice.roadsN, d.roadsN_len n]
theorem Dice.road2_light {d : Dice} (h : d.light) (n : Int) : (d.road2 n).2.light := by
  unfold Dice.road2; simp only
  exact Dice.one_light (Dice.next_light (Dice.of_light (Dice.of_light (Dice.next_light (Dice.next_light h _) _) _) _) _) _
theorem Dice.more_light (n : Int) : ∀ (k : Nat) (l : List Road) {d : Dice}, d.light → (Dice.more n l d k).2.light
  | 0, l, d, h => h
  | k + 1, l, d, h => by
    unfold Dice.more
    split
    · exact Dice.more_light n k _ (Dice.road2_light h n)
    · exact h
theorem Dice.mine_light {d : Dice} (h : d.light) : d.mine.2.light :=
  Dice.more_light _ _ _ (Dice.next_light (Dice.roadsN_light (Dice.placesN_light (Dice.next_light h _) _) _) _)

abbrev roadBox : List D := [I 0, I 0, I 12, I 10, B true, B false, I 1, I 1, I 0, I 0]

theorem mine_loop1 (d : Dice) (hd : d.light) (n : Nat) (hn : n ≤ 8) (a b c e f : D) :
    exS CALL K.made_Dice_Mine_l1 ⟨[.bp 0 0, .bp 1 0, .bp 2 0, I n, I 0, a, b, c, e, f], [d.obj, .box [.nil, .nil], .box [.ref 3 0 0, .ref 4 0 0], .arr 2 false 0 [], .arr 10 false 0 []]⟩ =
    some (.exit 0, ⟨[.bp 0 0, .bp 1 0, .bp 2 0, I n, I n, .und, .und, .und, .und, .und], [(d.placesN n).2.obj, .box [.nil, .nil], .box [.ref 3 0 (d.placesN n).1.length, .ref 4 0 0], .arr 2 false 0 (((d.placesN n).1.map Place.e).map .t), .arr 10 false 0 []]⟩) := by
  refine loop_up (fun j => ⟨[.bp 0 0, .bp 1 0, .bp 2 0, I n, I j, .und, .und, .und, .und, .und], [(d.placesN j).2.obj, .box [.nil, .nil], .box [.ref 3 0 (d.placesN j).1.length, .ref 4 0 0], .arr 2 false 0 (((d.placesN j).1.map Place.e).map .t), .arr 10 false 0 []]⟩) n rfl ?_ ?_ (by simp)
  · intro j hj
    have ln := d.placesN_len j
    have lt := Dice.placesN_light hd j
    simp only [Dice.placesN]
    generalize d.placesN j = s at *
    obtain ⟨l, d1⟩ := s
    simp only at ln lt ⊢
    have h1 := next_ok d1 4 (by omega) lt
    have b1 := d1.next_lo 4
    have b2 := d1.next_hi (n := 4) (by omega)
    have l1 := Dice.next_light lt 4
    generalize d1.next 4 = a1 at *
    obtain ⟨x, d2⟩ := a1
    simp only at h1 b1 b2 l1 ⊢
    by_cases j0 : j = 0
    · subst j0
      simp (disch := omega) only [go_sem, K.made_Dice_Mine_l1b, h1, ↓reduceIte, Nat.reduceAdd, Nat.reduceSub]
    · have h2 := one_ok d2 6 (by omega) (by omega) l1
      simp (disch := omega) only [go_sem, K.made_Dice_Mine_l1b, h1, h2, j0, ↓reduceIte, Nat.reduceAdd, Nat.reduceSub]
  · simp (disch := omega) only [go_sem, K.made_Dice_Mine_l1b, ↓reduceIte]

theorem mine_loop2 (d : Dice) (hd : d.light) (n : Nat) (hn : n ≤ 8) (h1 : 1 ≤ n) (ps : List Place) (a b c e : D) :
    exS CALL K.made_Dice_Mine_l2 ⟨[.bp 0 0, .bp 1 0, .bp 2 0, I n, a, .bp 5 0, I 1, b, c, e], [d.obj, .box [.nil, .nil], .box [.ref 3 0 ps.length, .ref 4 0 0], .arr 2 false 0 ((ps.map Place.e).map .t), .arr 10 false 0 [], .box roadBox]⟩ =
    some (.exit 2, ⟨[.bp 0 0, .bp 1 0, .bp 2 0, I n, .und, .bp 5 0, I n, .und, .und, .und], [(d.roadsN (n - 1)).2.obj, .box [.nil, .nil], .box [.ref 3 0 ps.length, .ref 4 0 (d.roadsN (n - 1)).1.length], .arr 2 false 0 ((ps.map Place.e).map .t), .arr 10 false 0 (((d.roadsN (n - 1)).1.map Road.e).map .t), .box roadBox]⟩) := by
  refine loop_up (fun j => ⟨[.bp 0 0, .bp 1 0, .bp 2 0, I n, .und, .bp 5 0, I (j + 1), .und, .und, .und], [(d.roadsN j).2.obj, .box [.nil, .nil], .box [.ref 3 0 ps.length, .ref 4 0 (d.roadsN j).1.length], .arr 2 false 0 ((ps.map Place.e).map .t), .arr 10 false 0 (((d.roadsN j).1.map Road.e).map .t), .box roadBox]⟩) (n - 1) rfl ?_ ?_ (by simp)
  · intro j hj
    have ln := d.roadsN_len j
    have lt := Dice.roadsN_light hd j
    simp only [Dice.roadsN]
    generalize d.roadsN j = s at *
    obtain ⟨l, d1⟩ := s
    simp only [Dice.road1] at ln lt ⊢
    have h1 := next_ok d1 (min ((j : Int) + 1) 2) (by omega) lt
    have b1 := d1.next_lo (min ((j : Int) + 1) 2)
    have b2 := d1.next_hi (n := min ((j : Int) + 1) 2) (by omega)
    have l1 := Dice.next_light lt (min ((j : Int) + 1) 2)
    generalize d1.next (min ((j : Int) + 1) 2) = a1 at *
    obtain ⟨x, d2⟩ := a1
    simp only at h1 b1 b2 l1 ⊢
    have h2 := of_ok d2 [11, 59, 119, 4] (by simp) (by simp) l1
    have m2 := d2.of_mem (l := [11, 59, 119, 4]) (by simp)
    have l2 := Dice.of_light l1 [11, 59, 119, 4]
    generalize d2.of [11, 59, 119, 4] = a2 at *
    obtain ⟨y, d3⟩ := a2
    simp only [tL, List.map_cons, List.map_nil] at h2 m2 l2 ⊢
    have h3 := of_ok d3 [9, 3, 19] (by simp) (by simp) l2
    have m3 := d3.of_mem (l := [9, 3, 19]) (by simp)
    generalize d3.of [9, 3, 19] = a3 at *
    obtain ⟨z, d4⟩ := a3
    simp only [tL, List.map_cons, List.map_nil, List.mem_cons, List.not_mem_nil, or_false] at h3 m2 m3 ⊢
    simp (disch := omega) only [go_sem, K.made_Dice_Mine_l2b, h1, h2, h3, ↓reduceIte, Nat.reduceAdd, Nat.reduceSub]
  · simp (disch := omega) only [go_sem, K.made_Dice_Mine_l2b, ↓reduceIte]
    rw [show ((n - 1 : Nat) : Int) + 1 = n by omega]

abbrev mineH (d : Dice) (ps : List Place) (l : List Road) : Heap := [d.obj, .box [.nil, .nil], .box [.ref 3 0 ps.length, .ref 4 0 l.length], .arr 2 false 0 ((ps.map Place.e).map .t), .arr 10 false 0 ((l.map Road.e).map .t), .box roadBox]

theorem mine_round (d : Dice) (hd : d.light) (n : Int) (hn : 1 ≤ n) (hn2 : n ≤ 8) (ps : List Place) (l : List Road) (hl : l.length < 10) (k : Nat) (hk : k ≤ 10) :
    roundC true [4, 6, 7, 9] 6 (exS CALL K.made_Dice_Mine_l3b ⟨[.bp 0 0, .bp 1 0, .bp 2 0, I n, .und, .bp 5 0, .und, .und, I (k + 1), .und], mineH d ps l⟩) =
    some ⟨[.bp 0 0, .bp 1 0, .bp 2 0, I n, .und, .bp 5 0, .und, .und, I k, .und], mineH (d.road2 n).2 ps (if (d.road2 n).1.frm = (d.road2 n).1.to then l else l ++ [(d.road2 n).1])⟩ := by
  unfold Dice.road2 mineH
  simp only
  have h1 := next_ok d n (by omega) hd
  have l1 := Dice.next_light hd n
  generalize d.next n = a1 at *
  obtain ⟨x1, d1⟩ := a1
  simp only at h1 l1 ⊢
  have h2 := next_ok d1 n (by omega) l1
  have l2 := Dice.next_light l1 n
  generalize d1.next n = a2 at *
  obtain ⟨x2, d2⟩ := a2
  simp only at h2 l2 ⊢
  have h3 := of_ok d2 [11, 59, 199] (by simp) (by simp) l2
  have m3 := d2.of_mem (l := [11, 59, 199]) (by simp)
  have l3 := Dice.of_light l2 [11, 59, 199]
  generalize d2.of [11, 59, 199] = a3 at *
  obtain ⟨x3, d3⟩ := a3
  simp only [tL, List.map_cons, List.map_nil] at h3 m3 l3 ⊢
  have h4 := of_ok d3 [9, 3] (by simp) (by simp) l3
  have m4 := d3.of_mem (l := [9, 3]) (by simp)
  have l4 := Dice.of_light l3 [9, 3]
  generalize d3.of [9, 3] = a4 at *
  obtain ⟨x4, d4⟩ := a4
  simp only [tL, List.map_cons, List.map_nil] at h4 m4 l4 ⊢
  have h5 := next_ok d4 5 (by omega) l4
  have l5 := Dice.next_light l4 5
  generalize d4.next 5 = a5 at *
  obtain ⟨x5, d5⟩ := a5
  simp only at h5 l5 ⊢
  have h6 := one_ok d5 6 (by omega) (by omega) l5
  generalize d5.one 6 = a6 at *
  obtain ⟨x6, d6⟩ := a6
  simp only [List.mem_cons, List.not_mem_nil, or_false] at h6 m3 m4 ⊢
  by_cases e : x1 = x2
  · simp (disch := omega) only [go_sem, K.made_Dice_Mine_l3b, h1, h2, h3, h4, h5, h6, e, ↓reduceIte, Nat.reduceAdd, Nat.reduceSub]
  · simp (disch := omega) only [go_sem, K.made_Dice_Mine_l3b, h1, h2, h3, h4, h5, h6, e, ↓reduceIte, Nat.reduceAdd, Nat.reduceSub]

theorem mine_loop3 (n : Int) (hn : 1 ≤ n) (hn2 : n ≤ 8) (ps : List Place) : ∀ (k : Nat) (d : Dice) (l : List Road), d.light → l.length ≤ 10 → k ≤ 10 →
    ∃ z : Int, loopC true [4, 6, 7, 9] (exS CALL K.made_Dice_Mine_l3b) ⟨[.bp 0 0, .bp 1 0, .bp 2 0, I n, .und, .bp 5 0, .und, .und, I k, .und], mineH d ps l⟩ =
    some (.exit 4, ⟨[.bp 0 0, .bp 1 0, .bp 2 0, I n, .und, .bp 5 0, .und, .und, I z, .und], mineH (Dice.more n l d k).2 ps (Dice.more n l d k).1⟩)
  | 0, d, l, hd, hl, hk => by
    refine ⟨0, loopC_exit ?_ (by simp)⟩
    simp (disch := omega) only [go_sem, K.made_Dice_Mine_l3b, Dice.more, ↓reduceIte, Nat.reduceAdd, Nat.reduceSub]
  | k + 1, d, l, hd, hl, hk => by
    by_cases h : l.length < 10
    · have hr := mine_round d hd n hn hn2 ps l h k (by omega)
      obtain ⟨z, hz⟩ := mine_loop3 n hn hn2 ps k (d.road2 n).2 (if (d.road2 n).1.frm = (d.road2 n).1.to then l else l ++ [(d.road2 n).1]) (Dice.road2_light hd n) (by split <;> (try rw [List.length_append, List.length_singleton]) <;> omega) (by omega)
      refine ⟨z, loopC_step hr ?_⟩
      rw [hz]
      simp only [Dice.more, if_pos h]
    · refine ⟨(k : Int) + 1, loopC_exit ?_ (by simp)⟩
      simp (disch := omega) only [go_sem, K.made_Dice_Mine_l3b, Dice.more, ↓reduceIte, Nat.reduceAdd, Nat.reduceSub]

theorem Dice.more_len (n : Int) : ∀ (k : Nat) (l : List Road) (d : Dice), l.length ≤ 10 → (Dice.more n l d k).1.length ≤ 10
  | 0, l, d, h => h
  | k + 1, l, d, h => by
    unfold Dice.more
    split
    · exact Dice.more_len n k _ _ (by split <;> (try rw [List.length_append, List.length_singleton]) <;> omega)
    · exact h

theorem Dice.mineN_bd (d : Dice) : 2 ≤ d.mineN ∧ d.mineN ≤ 7 := by
  unfold Dice.mineN
  have := d.next_lo 6
  have := d.next_hi (n := 6) (by omega)
  split <;> omega

theorem mine_ok (d : Dice) (hd : d.light) : CALL 0 N.made_Dice_Mine [.bp 0 0] [d.obj] = some (.t d.mine.1.e, [d.mine.2.obj]) := by
  refine CALL_of K.t_made_Dice_Mine rfl ?_
  have nb := d.mineN_bd
  unfold Dice.mine
  have h0 := next_ok d 6 (by omega) hd
  have l0 := Dice.next_light hd 6
  have b1 := d.next_lo 6
  have b2 := d.next_hi (n := 6) (by omega)
  have hL := d.next_L 6
  have hN : (d.mineN : Int) = if d.L.length = 0 then 4 else 2 + (d.next 6).1 := by unfold Dice.mineN; split <;> omega
  have e1 : d.mineX = Dice.more d.mineN d.mineR.1 (d.mineR.2.next 4).2 (d.mineR.2.next 4).1.toNat := rfl
  have e2 : d.mineR = d.mineP.2.roadsN (d.mineN - 1) := rfl
  have e3 : d.mineP = (d.next 6).2.placesN d.mineN := rfl
  generalize d.mineX = X at *
  generalize d.mineR = R at *
  generalize d.mineP = P at *
  generalize d.mineN = n at *
  generalize d.next 6 = a at *
  obtain ⟨x, d1⟩ := a
  simp only at h0 l0 b1 b2 hL hN e3 ⊢
  have q1 := mine_loop1 d1 l0 n (by omega)
  have lP := Dice.placesN_light l0 n
  have nP := d1.placesN_len n
  rw [← e3] at q1 lP nP
  obtain ⟨ps, d2⟩ := P
  simp only at q1 lP nP e2 ⊢
  have q2 := mine_loop2 d2 lP n (by omega) (by omega) ps
  have lR := Dice.roadsN_light lP (n - 1)
  have nR := d2.roadsN_len (n - 1)
  rw [← e2] at q2 lR nR
  obtain ⟨rs, d3⟩ := R
  simp only at q2 lR nR e1 ⊢
  have h4 := next_ok d3 4 (by omega) lR
  have l4 := Dice.next_light lR 4
  have b3 := d3.next_lo 4
  have b4 := d3.next_hi (n := 4) (by omega)
  generalize d3.next 4 = c at *
  obtain ⟨y, d4⟩ := c
  simp only at h4 l4 b3 b4 e1 ⊢
  obtain ⟨z, q3⟩ := mine_loop3 n (by omega) (by omega) ps y.toNat d4 rs l4 (by omega) (by omega)
  rw [← e1] at q3
  have q3 := loop_is (vs := [.bp 0 0, .bp 1 0, .bp 2 0, I n, .und, .bp 5 0, I n, .und, I y.toNat, .und]) q3
  have ey : (y.toNat : Int) = y := by omega
  rw [ey] at q3
  obtain ⟨xs, d5⟩ := X
  have fin : ∀ k : Int, (exS CALL K.made_Dice_Mine_l3 ⟨[.bp 0 0, .bp 1 0, .bp 2 0, I n, .und, .bp 5 0, I n, .und, I y, .und], mineH d4 ps rs⟩) =
      some (.exit 4, ⟨[.bp 0 0, .bp 1 0, .bp 2 0, I n, .und, .bp 5 0, .und, .und, I z, .und], mineH d5 ps xs⟩) := fun _ => q3
  clear q3
  have q3 := fin 0
  clear fin
  simp only [mineH] at q3
  by_cases c0 : d.L.length = 0
  · rw [if_pos c0] at hN
    obtain rfl : n = 4 := by omega
    have e4 : ((4 : Nat) : Int) = 4 := rfl
    simp only [e4] at q1 q2 q3
    simp (disch := omega) only [go_sem, K.made_Dice_Mine, ↓reduceIte, h0, c0, q1, q2, q3, h4, hL, Nat.reduceAdd, Nat.reduceSub]
  · rw [if_neg c0] at hN
    simp (disch := omega) only [go_sem, K.made_Dice_Mine, ↓reduceIte, h0, c0, q1, q2, q3, h4, hL, hN.symm, Nat.reduceAdd, Nat.reduceSub]

theorem Dice.road1_ok (d : Dice) {n : Nat} {i : Int} (h1 : 1 ≤ i) (h2 : i < n) : (d.road1 i).1.ok n := by
  have b1 := d.next_lo (min i 2)
  have b2 := d.next_hi (n := min i 2) (by omega)
  have m2 := (d.next (min i 2)).2.of_mem (l := [11, 59, 119, 4]) (by simp)
  have m3 := ((d.next (min i 2)).2.of [11, 59, 119, 4]).2.of_mem (l := [9, 3, 19]) (by simp)
  simp only [List.mem_cons, List.not_mem_nil, or_false] at m2 m3
  unfold Dice.road1
  constructor <;> (simp only; omega)

theorem Dice.roadsN_ok (d : Dice) {n : Nat} : ∀ k, k + 1 ≤ n → ∀ r ∈ (d.roadsN k).1, r.ok n
  | 0, _, r, hr => by simp [Dice.roadsN] at hr
  | k + 1, h, r, hr => by
    simp only [Dice.roadsN, List.mem_append, List.mem_singleton] at hr
    rcases hr with hr | rfl
    · exact d.roadsN_ok k (by omega) r hr
    · exact Dice.road1_ok _ (by omega) (by omega)

theorem Dice.road2_ok (d : Dice) {n : Nat} (hn : 1 ≤ n) (hne : (d.road2 n).1.frm ≠ (d.road2 n).1.to) : (d.road2 n).1.ok n := by
  unfold Dice.road2 at hne ⊢
  simp only at hne ⊢
  have b1 := d.next_lo n
  have b2 := d.next_hi (n := (n : Int)) (by omega)
  generalize d.next n = a1 at *
  obtain ⟨x1, d1⟩ := a1
  simp only at *
  have c1 := d1.next_lo n
  have c2 := d1.next_hi (n := (n : Int)) (by omega)
  generalize d1.next n = a2 at *
  obtain ⟨x2, d2⟩ := a2
  simp only at *
  have m3 := d2.of_mem (l := [11, 59, 199]) (by simp)
  generalize d2.of [11, 59, 199] = a3 at *
  obtain ⟨x3, d3⟩ := a3
  simp only at *
  have m4 := d3.of_mem (l := [9, 3]) (by simp)
  generalize d3.of [9, 3] = a4 at *
  obtain ⟨x4, d4⟩ := a4
  simp only [List.mem_cons, List.not_mem_nil, or_false] at m3 m4 ⊢
  constructor <;> (simp only; omega)

theorem Dice.more_ok {n : Nat} (hn : 1 ≤ n) : ∀ (k : Nat) (l : List Road) (d : Dice), (∀ r ∈ l, r.ok n) → ∀ r ∈ (Dice.more n l d k).1, r.ok n
  | 0, l, d, h => h
  | k + 1, l, d, h => by
    unfold Dice.more
    split
    · refine Dice.more_ok hn k _ _ ?_
      split
      · exact h
      · rename_i hne
        intro r hr
        rcases List.mem_append.1 hr with hr | hr
        · exact h r hr
        · rw [List.mem_singleton.1 hr]; exact d.road2_ok hn hne
    · exact h

theorem Dice.more_len2 (n : Int) : ∀ (k : Nat) (l : List Road) (d : Dice), l.length ≤ (Dice.more n l d k).1.length
  | 0, l, d => Nat.le_refl _
  | k + 1, l, d => by
    unfold Dice.more
    split
    · refine Nat.le_trans ?_ (Dice.more_len2 n k _ _)
      split <;> (try rw [List.length_append]) <;> omega
    · exact Nat.le_refl _

theorem Dice.placesN_h (d : Dice) : ∀ k, ∀ p ∈ (d.placesN k).1, -30 ≤ p.h ∧ p.h ≤ 0
  | 0, p, hp => by simp [Dice.placesN] at hp
  | k + 1, p, hp => by
    have b1 := (d.placesN k).2.next_lo 4
    have b2 := (d.placesN k).2.next_hi (n := 4) (by omega)
    unfold Dice.placesN at hp
    split at hp
    all_goals
      simp only [List.mem_append, List.mem_singleton] at hp
      rcases hp with hp | rfl
      · exact d.placesN_h k p hp
      · simp only; omega

theorem Dice.mine_places (d : Dice) : d.mine.1.places.length = d.mineN := Dice.placesN_len _ _
theorem Dice.mine_roads (d : Dice) : d.mineN - 1 ≤ d.mine.1.roads.length ∧ d.mine.1.roads.length ≤ 10 := by
  have nb := d.mineN_bd
  have e : d.mineR.1.length = d.mineN - 1 := Dice.roadsN_len _ _
  constructor
  · rw [← e]; exact Dice.more_len2 _ _ _ _
  · exact Dice.more_len _ _ _ _ (by omega)
theorem Dice.mine_good (d : Dice) : d.mine.1.ok := by
  have nb := d.mineN_bd
  have h1 := d.mine_places
  have h2 := d.mine_roads
  refine ⟨by omega, by omega, fun p hp => ?_, ?_⟩
  · have := Dice.placesN_h _ _ p hp; omega
  · rw [h1]
    exact Dice.more_ok (by omega) _ _ _ (Dice.roadsN_ok _ _ (by omega))

end Go.Ev

/- Made inputs: flows of the air. -/
namespace Go.Ev
open Go
variable [Lib] [Has1] [Has2]

@[go_sem] theorem appOK_spn (l : List Spn) : appOK 2 (l.map Spn.e) = true := by cases l <;> rfl
@[go_sem] theorem set_spn (l : List Spn) (k : Nat) (a b : Int) : (List.map D.t (List.map Spn.e l)).set k (D.t (T.agg [tI a, tI b])) = List.map D.t (List.map Spn.e (l.set k ⟨a, b⟩)) := by
  rw [List.map_set, List.map_set]

@[go_sem] theorem opBs_6 (H : Heap) (sz : Nat) (a b c d e f : T) : opBs H sz [.t a, .t b, .t c, .t d, .t e, .t f] = if cellsAre sz [a, b, c, d, e, f] = true then some (.t (.sl [a, b, c, d, e, f]), H) else none := opBs_if H sz [a, b, c, d, e, f]
@[go_sem] theorem opBs_7 (H : Heap) (sz : Nat) (a b c d e f g : T) : opBs H sz [.t a, .t b, .t c, .t d, .t e, .t f, .t g] = if cellsAre sz [a, b, c, d, e, f, g] = true then some (.t (.sl [a, b, c, d, e, f, g]), H) else none := opBs_if H sz [a, b, c, d, e, f, g]
@[go_sem] theorem opBs_8 (H : Heap) (sz : Nat) (a b c d e f g h : T) : opBs H sz [.t a, .t b, .t c, .t d, .t e, .t f, .t g, .t h] = if cellsAre sz [a, b, c, d, e, f, g, h] = true then some (.t (.sl [a, b, c, d, e, f, g, h]), H) else none := opBs_if H sz [a, b, c, d, e, f, g, h]

@[go_sem] theorem app2_last {α β γ : Type} {l : List α} {g : α → β} {f : β → γ} {x : γ} {j : Nat} (h : j = l.length) : (List.map f (List.map g l) ++ [x])[j]? = some x := by
  rw [List.getElem?_append_right (by simp; omega)]; simp [h]
@[go_sem] theorem app2_set {α β γ : Type} {l : List α} {g : α → β} {f : β → γ} {x y : γ} {j : Nat} (h : j = l.length) : (List.map f (List.map g l) ++ [x]).set j y = List.map f (List.map g l) ++ [y] := by
  rw [List.set_append_right _ _ (by simp; omega)]; simp [h]

def Dice.flow1 (d : Dice) : Spn × Dice :=
  let a := d.of [0, 1000, 5000, 20000, -5000, -20000, 4999, 100]
  let b := a.2.of [0, 1, 1000, 6000]
  let c := b.2.of [0, 1, 500]
  let w := c.2.one 9
  (if w.1 = true then ⟨-1125899906842624, 1125899906842624⟩ else ⟨a.1 - b.1, a.1 + c.1⟩, w.2)
def Dice.flowsN (d : Dice) : Nat → List Spn × Dice
  | 0 => ([], d)
  | k + 1 => ((d.flowsN k).1 ++ [((d.flowsN k).2.flow1).1], ((d.flowsN k).2.flow1).2)
def Dice.flows (d : Dice) (m : Mine) : List Spn × Dice := d.flowsN m.roads.length

theorem Dice.flow1_light {d : Dice} (h : d.light) : d.flow1.2.light := by
  unfold Dice.flow1; simp only
  exact Dice.one_light (Dice.of_light (Dice.of_light (Dice.of_light h [0, 1000, 5000, 20000, -5000, -20000, 4999, 100]) [0, 1, 1000, 6000]) [0, 1, 500]) 9
theorem Dice.flowsN_light {d : Dice} (h : d.light) : ∀ n, (d.flowsN n).2.light
  | 0 => h
  | n + 1 => by simp only [Dice.flowsN]; exact Dice.flow1_light (Dice.flowsN_light h n)
theorem Dice.flowsN_len (d : Dice) : ∀ n, (d.flowsN n).1.length = n
  | 0 => rfl
  | n + 1 => by simp [Dice.flowsN, d.flowsN_len n]

theorem flow1_good (d : Dice) : d.flow1.1.ok := by
  unfold Dice.flow1; simp only
  have m1 := d.of_mem (l := [0, 1000, 5000, 20000, -5000, -20000, 4999, 100]) (by simp)
  generalize d.of [0, 1000, 5000, 20000, -5000, -20000, 4999, 100] = a at *
  obtain ⟨x, d1⟩ := a
  have m2 := d1.of_mem (l := [0, 1, 1000, 6000]) (by simp)
  simp only
  generalize d1.of [0, 1, 1000, 6000] = b at *
  obtain ⟨y, d2⟩ := b
  have m3 := d2.of_mem (l := [0, 1, 500]) (by simp)
  simp only
  generalize d2.of [0, 1, 500] = c at *
  obtain ⟨z, d3⟩ := c
  simp only [List.mem_cons, List.not_mem_nil, or_false] at m1 m2 m3 ⊢
  unfold Spn.ok
  split <;> (simp only; omega)

theorem Dice.flowsN_good (d : Dice) : ∀ n, ∀ x ∈ (d.flowsN n).1, x.ok
  | 0, x, hx => by simp [Dice.flowsN] at hx
  | n + 1, x, hx => by
    simp only [Dice.flowsN, List.mem_append, List.mem_singleton] at hx
    rcases hx with hx | rfl
    · exact d.flowsN_good n x hx
    · exact flow1_good _

theorem flows_round (d : Dice) (hd : d.light) (m : Mine) (hm : m.roads.length ≤ 1000) (j : Nat) (hj : j < m.roads.length) (l : List Spn) (hl : l.length = j) :
    roundC true [1, 3, 6] 3 (exS CALL K.made_Dice_Flows_l1b ⟨[.bp 0 0, .und, .bp 1 0, .und, .ref 2 0 l.length, I j, .und], [d.obj, .box [.t (.sl (m.places.map Place.e)), .t (.sl (m.roads.map Road.e))], .arr 2 false 0 ((l.map Spn.e).map .t)]⟩) =
    some ⟨[.bp 0 0, .und, .bp 1 0, .und, .ref 2 0 (l ++ [d.flow1.1]).length, I (j + 1), .und], [d.flow1.2.obj, .box [.t (.sl (m.places.map Place.e)), .t (.sl (m.roads.map Road.e))], .arr 2 false 0 (((l ++ [d.flow1.1]).map Spn.e).map .t)]⟩ := by
  unfold Dice.flow1; simp only
  have h1 := of_ok d [0, 1000, 5000, 20000, -5000, -20000, 4999, 100] (by simp) (by simp) hd
  have l1 := Dice.of_light hd [0, 1000, 5000, 20000, -5000, -20000, 4999, 100]
  have m1 := d.of_mem (l := [0, 1000, 5000, 20000, -5000, -20000, 4999, 100]) (by simp)
  generalize d.of [0, 1000, 5000, 20000, -5000, -20000, 4999, 100] = a at *
  obtain ⟨x, d1⟩ := a
  simp only [tL, List.map_cons, List.map_nil] at h1 l1 ⊢
  have h2 := of_ok d1 [0, 1, 1000, 6000] (by simp) (by simp) l1
  have l2 := Dice.of_light l1 [0, 1, 1000, 6000]
  have m2 := d1.of_mem (l := [0, 1, 1000, 6000]) (by simp)
  generalize d1.of [0, 1, 1000, 6000] = b at *
  obtain ⟨y, d2⟩ := b
  simp only [tL, List.map_cons, List.map_nil] at h2 l2 ⊢
  have h3 := of_ok d2 [0, 1, 500] (by simp) (by simp) l2
  have l3 := Dice.of_light l2 [0, 1, 500]
  have m3 := d2.of_mem (l := [0, 1, 500]) (by simp)
  generalize d2.of [0, 1, 500] = c at *
  obtain ⟨z, d3⟩ := c
  simp only [tL, List.map_cons, List.map_nil] at h3 l3 ⊢
  have h4 := one_ok d3 9 (by omega) (by omega) l3
  generalize d3.one 9 = e at *
  obtain ⟨w, d4⟩ := e
  simp only [List.mem_cons, List.not_mem_nil, or_false] at m1 m2 m3 h4 ⊢
  have st : (l ++ [(⟨x - y, x + z⟩ : Spn)]).set j ⟨-1125899906842624, 1125899906842624⟩ = l ++ [⟨-1125899906842624, 1125899906842624⟩] := by
    rw [List.set_append_right _ _ (by omega), hl, Nat.sub_self]; rfl
  cases w with
  | true =>
    simp (disch := omega) only [go_sem, K.made_Dice_Flows_l1b, ↓reduceIte, h1, h2, h3, h4, Nat.reduceAdd, Nat.reduceSub]
  | false =>
    simp (disch := omega) only [go_sem, K.made_Dice_Flows_l1b, ↓reduceIte, h1, h2, h3, h4, Nat.reduceAdd, Nat.reduceSub]

theorem flowsD_ok (d : Dice) (hd : d.light) (m : Mine) (hm : m.roads.length ≤ 1000) : CALL 0 N.made_Dice_Flows [.bp 0 0, .t m.e] [d.obj] = some (.t (tS (d.flows m).1), [(d.flows m).2.obj]) := by
  refine CALL_of K.t_made_Dice_Flows rfl ?_
  unfold Dice.flows
  have ln := d.flowsN_len
  have loop : ∀ a b c : D, exS CALL K.made_Dice_Flows_l1 ⟨[.bp 0 0, a, .bp 1 0, b, .ref 2 0 0, I 0, c], [d.obj, .box [.t (.sl (m.places.map Place.e)), .t (.sl (m.roads.map Road.e))], .arr 2 false 0 []]⟩ =
      some (.exit 0, ⟨[.bp 0 0, .und, .bp 1 0, .und, .ref 2 0 (d.flowsN m.roads.length).1.length, I m.roads.length, .und], [(d.flowsN m.roads.length).2.obj, .box [.t (.sl (m.places.map Place.e)), .t (.sl (m.roads.map Road.e))], .arr 2 false 0 (((d.flowsN m.roads.length).1.map Spn.e).map .t)]⟩) := by
    intro a b c
    refine loop_up (fun j => ⟨[.bp 0 0, .und, .bp 1 0, .und, .ref 2 0 (d.flowsN j).1.length, I j, .und], [(d.flowsN j).2.obj, .box [.t (.sl (m.places.map Place.e)), .t (.sl (m.roads.map Road.e))], .arr 2 false 0 (((d.flowsN j).1.map Spn.e).map .t)]⟩) m.roads.length rfl ?_ ?_ (by simp)
    · intro j hj
      exact flows_round (d.flowsN j).2 (Dice.flowsN_light hd j) m hm j hj (d.flowsN j).1 (ln j)
    · simp (disch := omega) only [go_sem, K.made_Dice_Flows_l1b, ↓reduceIte]
  have ln := ln m.roads.length
  generalize d.flowsN m.roads.length = r at *
  obtain ⟨l, d1⟩ := r
  simp only at ln loop ⊢
  simp (disch := omega) only [go_sem, K.made_Dice_Flows, ↓reduceIte, loop]

end Go.Ev

/- Made inputs, briefly: there are such data, and what holds of them. -/
namespace Go.Ev
open Go
variable [Lib] [Has1] [Has2]

theorem roll_x (l : List Int) : CALL 0 N.made_Roll [.t (tL l)] [] = some (.bp 0 0, [Dice.obj ⟨l, 0⟩]) := by
  refine CALL_of K.t_made_Roll rfl ?_
  simp (disch := omega) only [go_sem, K.made_Roll, ↓reduceIte, Dice.obj, Nat.reduceAdd, Nat.reduceSub]
theorem of_x {d : Dice} (hd : d.light) (l : List Int) (hl : l ≠ []) (hn : l.length ≤ 4294967296) :
    ∃ (v : Int) (e : Dice), CALL 0 N.made_Dice_Of [.bp 0 0, .t (tL l)] [d.obj] = some (I v, [e.obj]) ∧ e.light ∧ v ∈ l :=
  ⟨_, _, of_ok d l hl hn hd, Dice.of_light hd l, d.of_mem hl⟩
theorem mine_x {d : Dice} (hd : d.light) :
    ∃ (m : Mine) (e : Dice), CALL 0 N.made_Dice_Mine [.bp 0 0] [d.obj] = some (.t m.e, [e.obj]) ∧ e.light ∧ m.ok ∧ 2 ≤ m.places.length ∧ m.places.length ≤ 7 ∧ 1 ≤ m.roads.length ∧ m.roads.length ≤ 10 := by
  have b := d.mineN_bd
  have p := d.mine_places
  have r := d.mine_roads
  exact ⟨_, _, mine_ok d hd, Dice.mine_light hd, d.mine_good, by omega, by omega, by omega, by omega⟩
theorem flows_x {d : Dice} (hd : d.light) {m : Mine} (hm : m.ok) :
    ∃ (l : List Spn) (e : Dice), CALL 0 N.made_Dice_Flows [.bp 0 0, .t m.e] [d.obj] = some (.t (tS l), [e.obj]) ∧ e.light ∧ l.length = m.roads.length ∧ (∀ x ∈ l, x.ok) := by
  have nr := hm.nr
  exact ⟨_, _, flowsD_ok d hd m (by omega), Dice.flowsN_light hd _, d.flowsN_len _, d.flowsN_good _⟩
end Go.Ev

/- Shots: clear areas, and the steps. -/
namespace Go.Ev
open Go
variable [Lib] [Has1] [Has2] [Has3] [Has4]

abbrev never : Int := 1099511627776
abbrev Wh.box (w : Wh) : Obj := .box [I w.time, .t (tL w.frm)]
def clrP (w : Wh) (p : Int) : Bool := decide (0 ≤ p ∧ p ≤ (w.frm.length : Int) - 1) && !decide (nth w.frm p.toNat = never)
def clrW (area : List Int) (ws : List Wh) (k : Nat) : Bool := area.any (clrP (nth ws k))
def clrB (area : List Int) (xs : List World) (i : Nat) : Bool := (List.range (nth xs i).whr.length).any (clrW area (nth xs i).whr)
def clearF (b : Bel) (area : List Int) : Bool := !(List.range b.worlds.length).any (clrB area b.worlds)

abbrev tW (ws : List Wh) : T := .sl (ws.map Wh.e)
abbrev tX (xs : List World) : T := .sl (xs.map World.e)
end Go.Ev

/- Shots: the steps. -/
namespace Go.Ev
open Go
variable [Lib] [Has1] [Has2] [Has3] [Has4]

def safeF (x : Blast) (k : Keys) (b : Bel) : Bool := shotF x ⟨0, 0, 0, 0⟩ && keysF k && k.out && decide (0 < b.worlds.length) && clearF b x.area
structure Req where
  x : Blast
  s : Shot
  k : Keys
  b : Bel
  t : Int
  from_ : Int
abbrev Req.e (r : Req) : T := .agg [tL r.x.area, tI r.x.hold, tI r.x.mis, tI r.s.st, tI r.s.fi, tI r.s.se, tI r.s.ti, tL r.k.roads, tL r.k.keys, .bool r.k.out, .sl (r.b.worlds.map World.e), tI r.t, tI r.from_]
def checkF (r : Req) (odd : Bool) : Int :=
  if shotF r.x r.s = false then 6 else if r.s.st ≠ r.from_ then 10 else if r.t < 0 ∨ ¬ (r.s.ti ≤ r.t ∧ r.t ≤ 2147483648) then 8 else if odd = true then 19 else
  if r.from_ ≠ 0 ∧ r.x.hold < r.t - r.s.ti then 10 else if keysF r.k = false ∨ r.k.out = false then 48 else if safeF r.x r.k r.b = false then 49 else 0
structure Req.sz (r : Req) : Prop where
  hx : r.x.area.length ≤ 1000000
  hk : r.k.roads.length ≤ 1000000
  hk2 : r.k.keys.length ≤ 1000000
  hb : r.b.sz
def armF (x : Blast) (s : Shot) (k : Keys) (b : Bel) (role t : Int) : Shot × Int :=
  if checkF ⟨x, s, k, b, t, 0⟩ (decide (role ≤ 0)) ≠ 0 then (s, checkF ⟨x, s, k, b, t, 0⟩ (decide (role ≤ 0))) else (⟨1, role, 0, t⟩, 0)
def agreeF (x : Blast) (s : Shot) (k : Keys) (b : Bel) (role t : Int) : Shot × Int :=
  if checkF ⟨x, s, k, b, t, 1⟩ (decide (role ≤ 0) || decide (role = s.fi)) ≠ 0 then (s, checkF ⟨x, s, k, b, t, 1⟩ (decide (role ≤ 0) || decide (role = s.fi))) else (⟨2, s.fi, role, t⟩, 0)
def fireF (x : Blast) (s : Shot) (k : Keys) (b : Bel) (t : Int) (fails : Bool) : Shot × Int :=
  if checkF ⟨x, s, k, b, t, 2⟩ false ≠ 0 then (s, checkF ⟨x, s, k, b, t, 2⟩ false) else (⟨if fails = true then 4 else 3, s.fi, s.se, t⟩, 0)
def abortF (x : Blast) (s : Shot) (t : Int) : Shot × Int :=
  if shotF x s = false then (s, 6) else if s.st = 0 then (s, 10) else if ¬ (s.ti ≤ t ∧ t ≤ 2147483648) then (s, 8) else if s.st = 4 ∧ t - s.ti < x.mis then (s, 10) else (⟨0, 0, 0, 0⟩, 0)
def dueF (x : Blast) (s : Shot) (t : Int) : Int :=
  if shotF x s = false ∨ t < s.ti then 0 else if s.st = 1 ∨ s.st = 2 then max 0 (x.hold - (t - s.ti)) else if s.st = 4 then max 0 (x.mis - (t - s.ti)) else 0

section
variable (x : Blast) (s : Shot) (k : Keys) (b : Bel) (hx : x.area.length ≤ 1000000) (hk : k.roads.length ≤ 1000000) (hk2 : k.keys.length ≤ 1000000) (hb : b.sz)
include hx hk hk2 hb
end
end Go.Ev

/- Shots: the reference, and both agree. -/
namespace Go.Ev
open Go
variable [Lib] [Has1] [Has2] [Has3] [Has4]

def blastF (x : Blast) : Bool := decide (0 < x.area.length) && setB x.area 64 && decide (1 ≤ x.hold ∧ x.hold ≤ 100000) && decide (1 ≤ x.mis ∧ x.mis ≤ 100000)
/- keys -/
def rkP (k : Keys) (j : Nat) : Bool := decide (nth k.keys j < 0) || decide (2 < nth k.keys j) || (k.out && !decide (nth k.keys j = 2))
/- clear areas -/
def rcP (area : List Int) (w : Wh) (p : Nat) : Bool := decide ((p : Int) ∈ area) && !decide (nth w.frm p = never)
section
variable (area : List Int) (ha : area.length ≤ 1000000) (xs : List World) (hx : xs.length ≤ 1000000)
include ha hx
end
end Go.Ev

/- More laws of the laid-out evaluator: slices of live arrays; appending live elements; heaps that are not known cell by cell. -/
namespace Go.Ev
open Go

section
variable (H : Heap) (sz id ep n lo hi : Nat) (i j : Int) (fz : Bool)

def scO (r : D) : Option Obj → Option (D × Heap)
  | some (.arr sz' _ ep' es) => if ep = ep' ∧ n = es.length then (if sz' = sz then some (r, H) else none) else none
  | _ => none
@[go_sem] theorem scO_arr (r : D) (sz' : Nat) (pin : Bool) (es : List D) : scO H sz ep n r (some (.arr sz' pin ep es)) = if n = es.length then (if sz' = sz then some (r, H) else none) else none := by simp [scO]
theorem scR {l h : Nat} : ((arrAt H id ep n).bind fun a => if l ≤ h ∧ h ≤ n ∧ a.1 = sz then some (D.sub id ep n l h) else none).map (fun d => (d, H)) = if l ≤ h then (if h ≤ n then scO H sz ep n (.sub id ep n l h) H[id]? else none) else none := by
  simp only [arrAt]
  generalize H[id]? = o
  by_cases h1 : l ≤ h
  · by_cases h2 : h ≤ n
    · rw [if_pos h1, if_pos h2]
      rcases o with _ | (_ | ⟨sz', pin, ep', es⟩)
      · rfl
      · rfl
      · simp only [scO]
        by_cases h3 : ep = ep' ∧ n = es.length
        · rw [if_pos h3, if_pos h3, Option.bind_some]
          by_cases h4 : sz' = sz
          · rw [if_pos h4, if_pos ⟨h1, h2, h4⟩]; rfl
          · rw [if_neg h4, if_neg fun h => h4 h.2.2]; rfl
        · rw [if_neg h3, if_neg h3]; rfl
    · rw [if_pos h1, if_neg h2]
      rcases o with _ | (_ | ⟨sz', pin, ep', es⟩)
      · rfl
      · rfl
      · by_cases h3 : ep = ep' ∧ n = es.length
        · simp only [if_pos h3, Option.bind_some]; rw [if_neg fun h => h2 h.2.1]; rfl
        · simp only [if_neg h3]; rfl
  · rw [if_neg h1]
    rcases o with _ | (_ | ⟨sz', pin, ep', es⟩)
    · rfl
    · rfl
    · by_cases h3 : ep = ep' ∧ n = es.length
      · simp only [if_pos h3, Option.bind_some]; rw [if_neg fun h => h1 h.1]; rfl
      · simp only [if_neg h3]; rfl
@[go_sem] theorem opSc_ref_hi : opSc H sz (some (.ref id ep n)) (some none) (some (some i)) = if 0 ≤ i then (if i ≤ n then scO H sz ep n (.sub id ep n 0 i.toNat) H[id]? else none) else none := by
  simp only [opSc, Option.bind_some, sliceD, bound, idx]
  by_cases h1 : 0 ≤ i
  · rw [if_pos h1, if_pos h1, Option.bind_some, scR, if_pos (Nat.zero_le _)]
    by_cases h2 : i ≤ n
    · rw [if_pos h2, if_pos (by omega)]
    · rw [if_neg h2, if_neg (by omega)]
  · rw [if_neg h1, if_neg h1]; rfl
@[go_sem] theorem opSc_ref_lo : opSc H sz (some (.ref id ep n)) (some (some i)) (some none) = if 0 ≤ i then (if i ≤ n then scO H sz ep n (.sub id ep n i.toNat n) H[id]? else none) else none := by
  simp only [opSc, Option.bind_some, sliceD, bound, idx]
  by_cases h1 : 0 ≤ i
  · rw [if_pos h1, if_pos h1, Option.bind_some, scR]
    by_cases h2 : i ≤ n
    · rw [if_pos h2, if_pos (by omega), if_pos (by omega)]
    · rw [if_neg h2, if_neg (by omega)]
  · rw [if_neg h1, if_neg h1]; rfl
@[go_sem] theorem opSc_ref_lohi : opSc H sz (some (.ref id ep n)) (some (some i)) (some (some j)) = if 0 ≤ i then (if i ≤ j then (if j ≤ n then scO H sz ep n (.sub id ep n i.toNat j.toNat) H[id]? else none) else none) else none := by
  simp only [opSc, Option.bind_some, sliceD, bound, idx]
  by_cases h1 : 0 ≤ i
  · rw [if_pos h1, if_pos h1, Option.bind_some]
    by_cases h0 : i ≤ j
    · rw [if_pos h0, if_pos (by omega), Option.bind_some, scR, if_pos (by omega)]
      by_cases h2 : j ≤ n
      · rw [if_pos h2, if_pos (by omega)]
      · rw [if_neg h2, if_neg (by omega)]
    · rw [if_neg h0]
      by_cases h2 : 0 ≤ j
      · rw [if_pos h2, Option.bind_some, scR, if_neg (by omega)]
      · rw [if_neg h2]; rfl
  · rw [if_neg h1, if_neg h1]; rfl
@[go_sem] theorem opSc_nil_hi : opSc H sz (some .nil) (some none) (some (some i)) = if i = 0 then some (.nil, H) else none := by
  simp only [opSc, Option.bind_some, sliceD, bound, idx]
  by_cases h1 : 0 ≤ i
  · rw [if_pos h1, Option.bind_some]
    by_cases h2 : i = 0
    · rw [if_pos h2, if_pos (by omega)]; rfl
    · rw [if_neg h2, if_neg (by omega)]; rfl
  · rw [if_neg h1, if_neg (by omega)]; rfl
@[go_sem] theorem opSc_nil_lo : opSc H sz (some .nil) (some (some i)) (some none) = if i = 0 then some (.nil, H) else none := by
  simp only [opSc, Option.bind_some, sliceD, bound, idx]
  by_cases h1 : 0 ≤ i
  · rw [if_pos h1, Option.bind_some]
    by_cases h2 : i = 0
    · rw [if_pos h2, if_pos (by omega)]; rfl
    · rw [if_neg h2, if_neg (by omega)]; rfl
  · rw [if_neg h1, if_neg (by omega)]; rfl

/- appending elements that stay live -/
def appD (x : D) (ys : List D) : Option (D × Heap) := if headSize sz ys = true then (match x with
    | .nil => if ys.length ≤ 4294967296 then some (.ref H.length 0 ys.length, H ++ [.arr sz false 0 ys]) else none
    | .ref id ep n => appRef H sz id ep n ys H[id]?
    | _ => none) else none
@[go_sem] theorem appD_nil (ys : List D) : appD H sz .nil ys = if headSize sz ys = true then (if ys.length ≤ 4294967296 then some (.ref H.length 0 ys.length, H ++ [.arr sz false 0 ys]) else none) else none := (rfl)
@[go_sem] theorem appD_ref (ys : List D) : appD H sz (.ref id ep n) ys = if headSize sz ys = true then appRef H sz id ep n ys H[id]? else none := (rfl)
@[go_sem] theorem headSize_nil : headSize sz [] = true := (rfl)
@[go_sem] theorem headSize_cons (d : D) (r : List D) : headSize sz (d :: r) = lenIs sz d.cells := by
  rw [Bool.eq_iff_iff, lenIs_iff]; simp [headSize]

def elsO (x : D) : Option Obj → Option (D × Heap)
  | some (.arr _ _ ep' es) => if ep = ep' ∧ n = es.length then appD H sz x ((es.drop lo).take (hi - lo)) else none
  | _ => none
def elsR (x : D) : Option Obj → Option (D × Heap)
  | some (.arr _ _ ep' es) => if ep = ep' ∧ n = es.length then appD H sz x es else none
  | _ => none
@[go_sem] theorem elsO_arr (x : D) (sz' : Nat) (pin : Bool) (es : List D) : elsO H sz ep n lo hi x (some (.arr sz' pin ep es)) = if n = es.length then appD H sz x ((es.drop lo).take (hi - lo)) else none := by simp [elsO]
@[go_sem] theorem elsR_arr (x : D) (sz' : Nat) (pin : Bool) (es : List D) : elsR H sz ep n x (some (.arr sz' pin ep es)) = if n = es.length then appD H sz x es else none := by simp [elsR]

theorem appD_is (x : D) (ys : List D) : (if headSize sz ys = true then (match x with
    | .nil => if ys.length ≤ lim then some (D.ref H.length 0 ys.length, H ++ [.arr sz false 0 ys]) else none
    | .ref id ep n => (arrAt H id ep n).bind fun a => if a.1 = sz ∧ n + ys.length ≤ lim then some (.ref id ep (n + ys.length), H.set id (.arr sz a.2.1 ep (a.2.2 ++ ys))) else none
    | _ => none) else none) = appD H sz x ys := by
  unfold appD
  split
  · cases x with
    | ref id ep n =>
      simp only [arrAt]
      generalize H[id]? = o
      rcases o with _ | (_ | ⟨sz', pin, ep', es⟩)
      · rfl
      · rfl
      · simp only [appRef]
        by_cases h1 : ep = ep' ∧ n = es.length
        · rw [if_pos h1, Option.bind_some]
          by_cases h2 : sz' = sz ∧ n + ys.length ≤ lim
          · rw [if_pos h2, if_pos ⟨h1.1, h1.2, h2⟩]
          · rw [if_neg h2, if_neg fun h => h2 h.2.2]
        · rw [if_neg h1, if_neg fun h => h1 ⟨h.1, h.2.1⟩]; rfl
    | _ => rfl
  · rfl

theorem opApp_live (x y : D) (ys : List D) (h : elems H y = some ys) : opApp H sz false (some x) (some y) = appD H sz x ys := by
  simp only [opApp, Option.bind_some, appendD, h, Bool.false_eq_true, if_false]
  exact appD_is H sz x ys
@[go_sem] theorem opApp_live_nil (x : D) : opApp H sz false (some x) (some .nil) = appD H sz x [] := opApp_live H sz x .nil [] rfl
@[go_sem] theorem opApp_live_ref (x : D) : opApp H sz false (some x) (some (.ref id ep n)) = elsR H sz ep n x H[id]? := by
  cases he : elems H (.ref id ep n) with
  | some ys =>
    rw [opApp_live H sz x _ ys he]
    simp only [elems, arrAt] at he
    generalize H[id]? = o at he
    rcases o with _ | (_ | ⟨sz', pin, ep', es⟩)
    · cases he
    · cases he
    · simp only [elsR]
      by_cases h1 : ep = ep' ∧ n = es.length
      · simp only [if_pos h1] at he ⊢; cases he; rfl
      · simp only [if_neg h1] at he; cases he
  | none =>
    have : opApp H sz false (some x) (some (.ref id ep n)) = none := by simp only [opApp, Option.bind_some, appendD, he]; rfl
    rw [this]
    simp only [elems, arrAt] at he
    generalize H[id]? = o at he
    rcases o with _ | (_ | ⟨sz', pin, ep', es⟩)
    · rfl
    · rfl
    · simp only [elsR]
      by_cases h1 : ep = ep' ∧ n = es.length
      · simp only [if_pos h1] at he; cases he
      · simp only [if_neg h1]
@[go_sem] theorem opApp_live_sub (x : D) : opApp H sz false (some x) (some (.sub id ep n lo hi)) = elsO H sz ep n lo hi x H[id]? := by
  cases he : elems H (.sub id ep n lo hi) with
  | some ys =>
    rw [opApp_live H sz x _ ys he]
    simp only [elems, arrAt] at he
    generalize H[id]? = o at he
    rcases o with _ | (_ | ⟨sz', pin, ep', es⟩)
    · cases he
    · cases he
    · simp only [elsO]
      by_cases h1 : ep = ep' ∧ n = es.length
      · simp only [if_pos h1] at he ⊢; cases he; rfl
      · simp only [if_neg h1] at he; cases he
  | none =>
    have : opApp H sz false (some x) (some (.sub id ep n lo hi)) = none := by simp only [opApp, Option.bind_some, appendD, he]; rfl
    rw [this]
    simp only [elems, arrAt] at he
    generalize H[id]? = o at he
    rcases o with _ | (_ | ⟨sz', pin, ep', es⟩)
    · rfl
    · rfl
    · simp only [elsO]
      by_cases h1 : ep = ep' ∧ n = es.length
      · simp only [if_pos h1] at he; cases he
      · simp only [if_neg h1]

/- appended and frozen: a part of a live array whose elements are frozen -/
def subE (ep n lo hi : Nat) : Option Obj → Option (List D)
  | some (.arr _ _ ep' es) => if ep = ep' ∧ n = es.length then some ((es.drop lo).take (hi - lo)) else none
  | _ => none
def appF (x : D) : Option (List D) → Option (D × Heap)
  | some ys0 => (mapO (fun d => (frz H depth d).map .t) ys0).bind fun ys => if headSize sz ys then appD (pins H (ys0.flatMap (arrs H depth))) sz x ys else none
  | none => none
@[go_sem] theorem appF_t (x : D) (ts : List T) : appF H sz x (some (ts.map .t)) = appD H sz x (ts.map .t) := by
  simp only [appF, mapO_frz, Option.bind_some, arrs_t, pins]
  by_cases h : headSize sz (ts.map D.t) = true
  · rw [if_pos h]
  · rw [if_neg h]; unfold appD; rw [if_neg h]
@[go_sem] theorem opApp_frz_sub (x : D) : opApp H sz true (some x) (some (.sub id ep n lo hi)) = appF H sz x (subE ep n lo hi H[id]?) := by
  have e : elems H (.sub id ep n lo hi) = subE ep n lo hi H[id]? := by
    simp only [elems, arrAt]
    generalize H[id]? = o
    rcases o with _ | (_ | ⟨sz', pin, ep', es⟩)
    · rfl
    · rfl
    · simp only [subE]
      by_cases h1 : ep = ep' ∧ n = es.length
      · simp only [if_pos h1]; rfl
      · simp only [if_neg h1]; rfl
  simp only [opApp, Option.bind_some, appendD, e]
  cases subE ep n lo hi H[id]? with
  | none => rfl
  | some ys0 =>
    simp only [Option.bind_some, appF, if_true]
    cases hm : mapO (fun d => (frz H depth d).map D.t) ys0 with
    | none => rfl
    | some ys =>
      simp only [Option.bind_some]
      refine (appD_is _ _ _ _).trans ?_
      by_cases h : headSize sz ys = true
      · rw [if_pos h]
      · rw [if_neg h]; unfold appD; rw [if_neg h]
@[go_sem] theorem subE_map (ep n lo hi sz : Nat) (pin : Bool) (ts : List T) : subE ep n lo hi (some (.arr sz pin ep (ts.map .t))) = if n = ts.length then some (((ts.drop lo).take (hi - lo)).map .t) else none := by
  simp only [subE, true_and, List.length_map, List.map_take, List.map_drop]
def opBsr (ds : List D) : Option (D × Heap) := if ds.all (fun d => d.cells.length == sz && d.solid) then some (.ref H.length 0 ds.length, H ++ [.arr sz false 0 ds]) else none
@[go_sem] theorem ev_bsr (call : Oracle) (get : X → Option D) (xs : List X) : evO call get H (.bsr xs sz) = (mapO get xs).bind (opBsr H sz) := (rfl)
@[go_sem] theorem opBsr_nil : opBsr H sz [] = some (.ref H.length 0 0, H ++ [.arr sz false 0 []]) := (rfl)
@[go_sem] theorem opBsr_int (k : IntKind) (n : Int) : opBsr H 1 [.t (.int k n)] = some (.ref H.length 0 1, H ++ [.arr 1 false 0 [.t (.int k n)]]) := (rfl)
@[go_sem] theorem opBsr_agg (cs : List D) : opBsr H sz [.agg cs] = if lenIs sz cs = true then some (.ref H.length 0 1, H ++ [.arr sz false 0 [.agg cs]]) else none := by
  simp only [opBsr, List.all_cons, List.all_nil, Bool.and_true, D.cells, D.solid]
  by_cases h : lenIs sz cs = true
  · rw [if_pos h, if_pos (by simpa using lenIs_iff.1 h)]; rfl
  · rw [if_neg h, if_neg (by intro e; exact h (lenIs_iff.2 (by simpa using e)))]
end

@[go_sem] theorem q_toNat_one' : (1 : Int).toNat = 1 := (rfl)
@[go_sem] theorem q_toNat_two : (2 : Int).toNat = 2 := (rfl)
@[go_sem] theorem q_toNat_three : (3 : Int).toNat = 3 := (rfl)

/- heaps that are not known cell by cell -/
section
variable {H t : Heap} {i j k : Nat} {o o' : Obj}
theorem hp_get (h : i < H.length) : (H ++ t)[i]? = H[i]? := List.getElem?_append_left h
theorem hp_get_len : (H ++ t)[H.length]? = t[0]? := by rw [List.getElem?_append_right (Nat.le_refl _), Nat.sub_self]
theorem hp_get_add : (H ++ t)[H.length + k]? = t[k]? := by rw [List.getElem?_append_right (Nat.le_add_right _ _), Nat.add_sub_cancel_left]
theorem hp_set_len : (H ++ t).set H.length o = H ++ t.set 0 o := by rw [List.set_append_right _ _ (Nat.le_refl _), Nat.sub_self]
theorem hp_set_get (h : i < H.length) : (H.set i o)[i]? = some o := by simp [h]
theorem hp_set_ne (h : i ≠ j) : (H.set i o)[j]? = H[j]? := List.getElem?_set_ne h
theorem hp_set_set : (H.set i o).set i o' = H.set i o' := List.set_set ..
theorem hp_assoc (a b : Heap) : (H ++ a) ++ b = H ++ (a ++ b) := List.append_assoc ..
theorem hp_lt (h : H[i]? = some o) : i < H.length := (List.getElem?_eq_some_iff.1 h).1
end

/-- The end of a function whose result is a live array of elements that are frozen then. -/
theorem finish_live (H : Heap) (id sz n : Nat) (es : List D) (ts : List T) (hid : H[id]? = some (.arr sz false 0 es)) (hn : n = es.length) (hf : mapO (frz H 8) es = some ts) (ha : ∀ i ∈ es.flatMap (arrs H 8), i ≠ id) :
    finish 0 1 H [.ref id 0 n] = some (.ref 0 0 n, [.arr sz false 0 (ts.map .t)]) := by
  have hold : ([D.ref id 0 n].all (old 0 depth) && (H.take 0).all (fun o => o.ds.all (old 0 depth))) = false := by
    simp [old, depth]
  have hmap : ∀ {es : List D} {ts : List T}, mapO (frz H 8) es = some ts → mapO (fun d => (frz H 8 d).map D.t) es = some (ts.map .t) := by
    intro es
    induction es with
    | nil => intro ts h; simp [mapO] at h; subst h; rfl
    | cons e es ih =>
      intro ts h
      simp only [mapO, Option.bind_eq_some_iff, Option.map_eq_some_iff] at h
      obtain ⟨y, hy, r, hr, rfl⟩ := h
      simp only [mapO, hy, Option.map_some, Option.bind_some, ih hr, List.map_cons]
  have hnew : (addNew [] [id]).drop 0 = [id] := by simp [addNew]
  have hall : (es.flatMap (arrs H 8)).all (fun i => !([] ++ [id]).contains i) = true := by
    rw [List.all_eq_true]; intro i hi; simpa using ha i hi
  unfold finish
  rw [if_neg (by omega), Option.bind_some, hold, if_neg (by simp)]
  have hk : keepLv H (max 1 1) (List.range 0) ([D.ref id 0 n].flatMap (ids depth) ++ idsOf H (List.range 0)) = some ([id], [.arr sz false 0 (ts.map .t)]) := by
    have e1 : [D.ref id 0 n].flatMap (ids depth) ++ idsOf H (List.range 0) = [id] := by simp [ids, depth, idsOf]
    rw [e1]
    simp only [Nat.max_self, List.range_zero]
    unfold keepLv
    simp only [List.length_nil, hnew, pick, hid, Option.bind_some, Option.map_some, if_true, List.flatMap_cons, List.flatMap_nil, List.append_nil, Obj.ds, depth, hall, mapO, freezeArr, hmap hf]
    simp only [keepLv, Option.map_some, List.append_nil, Option.bind_some]
  rw [hk]
  simp only [Option.bind_some, List.range_zero, List.nil_append, List.take_zero, resArrs, Nat.succ_ne_zero, if_false, Nat.one_ne_zero, List.all_nil, if_true, mapO, ren, idxOf, Option.map_some, renObj, tupOf, depth]
  have := ren_map (fun i => if id = i then some 0 else Option.map (fun x => x + 1) none) ts
  simp only [depth] at this
  rw [this]; rfl

end Go.Ev

/- MADE BY PROGRAM (lib.py): the numbers of functions. -/
namespace Go.Ev.N
def law27_HeadsMore : Nat := 123
def law27_HeadsSplit : Nat := 124
def law27_HeadsAll : Nat := 125
def law27_HeadsTrue : Nat := 126
def law27_awake : Nat := 127
def heads_Count : Nat := 128
def ref27_Count : Nat := 129
def heads_Sure : Nat := 130
def ref27_Sure : Nat := 131
def heads_Maybe : Nat := 132
def ref27_Maybe : Nat := 133
def heads_Missing : Nat := 134
def ref27_Missing : Nat := 135
def heads_look : Nat := 136
def ref27_state : Nat := 137
def heads_persons : Nat := 138
def heads_Sure_1 : Nat := 139
def heads_Sure_1_1 : Nat := 140
def ref27_people : Nat := 141
def heads_Maybe_1 : Nat := 142
def heads_Maybe_1_1 : Nat := 143
def heads_Missing_1 : Nat := 144
def places_Possible : Nat := 145
def heads_look_1 : Nat := 146
def heads_look_2 : Nat := 147
def places_Possible_1 : Nat := 148
end Go.Ev.N

/- MADE BY PROGRAM (lib.py): the numbers of functions. -/
namespace Go.Ev.N
def law28_SmokeSources : Nat := 149
def law28_SmokeRuns : Nat := 150
def law28_SmokeMade : Nat := 151
def law28_SmokeGrows : Nat := 152
def law28_awake : Nat := 153
def smoke_Start : Nat := 154
def smoke_Travel : Nat := 155
def smoke_Change : Nat := 156
def law28_agree : Nat := 157
def smoke_Free : Nat := 158
def smoke_given : Nat := 159
def slices_Repeat_int_int : Nat := 160
def smoke_times_spread : Nat := 161
def smoke_Valid : Nat := 162
def ref28_Same : Nat := 163
def ref28_Filled : Nat := 164
def ref28_Free : Nat := 165
def smoke_Free_1 : Nat := 166
def plan_Valid : Nat := 167
def slices_ContainsFunc_api_Span_api_Span : Nat := 168
def smoke_given_1 : Nat := 169
def math_bits_Mul : Nat := 170
def smoke_times_reach : Nat := 171
def smoke_Valid_1 : Nat := 172
def plan_Check : Nat := 173
def slices_IndexFunc_api_Span_api_Span : Nat := 174
def math_bits_Mul32 : Nat := 175
def math_bits_Mul64 : Nat := 176
def plan_spanIn : Nat := 177
end Go.Ev.N

/- MADE BY PROGRAM (lib.py): the compact code of functions. -/
namespace Go.Ev.K
open Go.Ev
/-- /smoke.Valid -/
def smoke_Valid : Fn := { nargs := 2, vars := [0, 1, 2, 3, 4], body := (.seq (.reg [{ o := .bx (.v 0) 2, d := some 2 }, { o := .bx (.v 1) 2, d := some 3 }, { o := .mv (.b false), d := some 4 }] []) (.seq (.reg [{ o := .ld (.v 2) 2 true }, { o := .ca N.plan_Valid 0 [] [.l 0] }, { o := .mv (.l 0) }, { o := .fa (.v 3) 1, g := some (0, true) }, { o := .ld (.l 0) 1 false, g := some (1, true) }, { o := .ln (.l 0), g := some (2, true) }, { o := .fa (.v 2) 0, g := some (3, true) }, { o := .ld (.l 0) 1 false, g := some (4, true) }, { o := .ln (.l 0), g := some (5, true) }, { o := .bin .eql (.l 3) (.l 0), g := some (6, true) }, { o := .pk (.l 7) (.l 0) (.b false) }, { o := .mv (.l 0) }, { o := .fa (.v 3) 0, g := some (0, true) }, { o := .ld (.l 0) 1 false, g := some (1, true) }, { o := .ca N.lists_In 0 [] [.l 0, .i 0, .i 2147483648], g := some (2, true) }, { o := .pk (.l 3) (.l 0) (.b false) }, { o := .mv (.l 0) }, { o := .fa (.v 3) 1, g := some (0, true) }, { o := .ld (.l 0) 1 false, g := some (1, true) }, { o := .mf N.smoke_Valid_1 [.v 3], g := some (2, true) }, { o := .ca N.slices_ContainsFunc_int_int 0 [] [.l 1, .l 0], g := some (3, true) }, { o := .un .not (.l 0), g := some (4, true) }, { o := .pk (.l 5) (.l 0) (.b false) }, { o := .mv (.l 0), d := some 4 }] []) .ret)), res := [(4, none)] }
def ref28_Filled_l1b : C := (.seq (.ite [{ o := .mv (.v 5) }, { o := .fa (.v 2) 1 }, { o := .ld (.l 0) 1 false }, { o := .ln (.l 0) }, { o := .bin .lss (.l 3) (.l 0) }] [] 0 .skip (.exit 0)) (.seq (.blk 1 (.ite [{ o := .fa (.v 2) 1 }, { o := .ld (.l 0) 1 false }, { o := .mv (.v 5) }, { o := .ia (.l 1) (.l 0) 1 }, { o := .ld (.l 0) 1 false }, { o := .mv (.v 1) }, { o := .bin .leq (.l 1) (.l 0) }] [] 0 (.reg [{ o := .mv (.v 4) }, { o := .mv (.v 5) }, { o := .bs [.l 0] 1 }, { o := .app (.l 2) (.l 0) true 1 }, { o := .mv (.l 0), d := some 4 }] []) .skip)) (.reg [{ o := .mv (.v 5) }, { o := .bin .add (.l 0) (.i 1) }, { o := .mv (.l 0), d := some 5 }] [])))
def ref28_Filled_l1 : C := .loop true [0, 3] K.ref28_Filled_l1b
/-- /ref28.Filled -/
def ref28_Filled : Fn := { nargs := 2, vars := [0, 1, 2, 4, 5, 6], body := (.seq (.reg [{ o := .bx (.v 0) 2, d := some 2 }, { o := .mv (.c (.nil)), d := some 3 }] []) (.seq (.reg [{ o := .nw 1, d := some 4 }] []) (.seq (.seq (.reg [{ o := .mv (.i 0), d := some 5 }] []) (.blk 0 K.ref28_Filled_l1)) (.seq (.reg [{ o := .mv (.v 4) }, { o := .mv (.l 0), d := some 3 }] []) .ret)))), res := [(3, none)] }
/-- /plan.Valid -/
def plan_Valid : Fn := { nargs := 1, vars := [0, 1, 2], body := (.seq (.reg [{ o := .bx (.v 0) 2, d := some 1 }, { o := .mv (.b false), d := some 2 }] []) (.seq (.reg [{ o := .ld (.v 1) 2 true }, { o := .ca N.plan_Check 0 [] [.l 0] }, { o := .bin .eql (.l 0) (.i 0) }, { o := .mv (.l 0), d := some 2 }] []) .ret)), res := [(2, none)] }
end Go.Ev.K
namespace Go.Ev
class Has6 [Lib] : Prop where
  t_smoke_Valid : Lib.fs N.smoke_Valid = some K.smoke_Valid
  t_ref28_Filled : Lib.fs N.ref28_Filled = some K.ref28_Filled
  t_plan_Valid : Lib.fs N.plan_Valid = some K.plan_Valid
namespace K
variable [Lib] [Has6]
theorem t_smoke_Valid : Lib.fs N.smoke_Valid = some K.smoke_Valid := Has6.t_smoke_Valid
theorem t_ref28_Filled : Lib.fs N.ref28_Filled = some K.ref28_Filled := Has6.t_ref28_Filled
theorem t_plan_Valid : Lib.fs N.plan_Valid = some K.plan_Valid := Has6.t_plan_Valid
end K
end Go.Ev

/- MADE BY PROGRAM (lib.py): the compact code of functions. -/
namespace Go.Ev.K
open Go.Ev
/-- /smoke.Valid.1 -/
def smoke_Valid_1 : Fn := { nargs := 2, vars := [0, 1, 3], body := (.seq (.reg [{ o := .mv (.b false), d := some 2 }] []) (.seq (.reg [{ o := .mv (.v 0) }, { o := .bin .neq (.l 0) (.i 1099511627776) }, { o := .mv (.l 0) }, { o := .mv (.v 0), g := some (0, true) }, { o := .fa (.v 1) 0, g := some (1, true) }, { o := .ld (.l 0) 1 false, g := some (2, true) }, { o := .ca N.lists_In 0 [] [.l 2, .l 0, .i 2147483648], g := some (3, true) }, { o := .un .not (.l 0), g := some (4, true) }, { o := .pk (.l 5) (.l 0) (.b false) }, { o := .mv (.l 0), d := some 2 }] []) .ret)), res := [(2, none)] }
def plan_Check_l1b : C := (.its  [{ o := .bin .lss (.v 8) (.v 7) }] [] 0 .skip (.exit 0) (.seq (.blk 1 (.seq (.reg [{ o := .ia (.v 6) (.v 8) 2 }, { o := .ld (.l 0) 2 true }, { o := .al [.t (.int .i64 (0)), .t (.bool false)] [], d := some 3 }, { o := .st (.l 0) (.l 1) 2 [] }] []) (.ite [{ o := .fa (.v 3) 0 }, { o := .ld (.l 0) 1 false }, { o := .bin .lss (.l 0) (.i (-10000)) }, { o := .mv (.l 0) }, { o := .fa (.v 3) 0, g := some (0, false) }, { o := .ld (.l 0) 1 false, g := some (1, false) }, { o := .bin .gtr (.l 0) (.i 10000), g := some (2, false) }, { o := .pk (.l 3) (.b true) (.l 0) }] [] 0 (.seq (.reg [{ o := .mv (.i 1), d := some 2 }] []) .ret) .skip))) (.reg [{ o := .bin .add (.v 8) (.i 1) }, { o := .mv (.l 0), d := some 8 }] [])))
def plan_Check_l1 : C := .loop true [0, 2, 3, 4, 5, 9, 10, 11] K.plan_Check_l1b
def plan_Check_l2b : C := (.its  [{ o := .bin .lss (.v 11) (.v 10) }] [] 0 .skip (.exit 2) (.seq (.blk 3 (.seq (.reg [{ o := .ia (.v 9) (.v 11) 10 }, { o := .ld (.l 0) 10 true }, { o := .al [.t (.int .i64 (0)), .t (.int .i64 (0)), .t (.int .i64 (0)), .t (.int .i64 (0)), .t (.bool false), .t (.bool false), .t (.int .i64 (0)), .t (.int .i64 (0)), .t (.int .i64 (0)), .t (.int .i64 (0))] [], d := some 5 }, { o := .st (.l 0) (.l 1) 10 [] }] []) (.seq (.ite [{ o := .fa (.v 5) 0 }, { o := .ld (.l 0) 1 false }, { o := .bin .lss (.l 0) (.i 0) }, { o := .mv (.l 0) }, { o := .fa (.v 5) 0, g := some (0, false) }, { o := .ld (.l 0) 1 false, g := some (1, false) }, { o := .mv (.v 4), g := some (2, false) }, { o := .bin .geq (.l 1) (.l 0), g := some (3, false) }, { o := .pk (.l 4) (.b true) (.l 0) }, { o := .mv (.l 0) }, { o := .fa (.v 5) 1, g := some (0, false) }, { o := .ld (.l 0) 1 false, g := some (1, false) }, { o := .bin .lss (.l 0) (.i 0), g := some (2, false) }, { o := .pk (.l 3) (.b true) (.l 0) }, { o := .mv (.l 0) }, { o := .fa (.v 5) 1, g := some (0, false) }, { o := .ld (.l 0) 1 false, g := some (1, false) }, { o := .mv (.v 4), g := some (2, false) }, { o := .bin .geq (.l 1) (.l 0), g := some (3, false) }, { o := .pk (.l 4) (.b true) (.l 0) }, { o := .mv (.l 0) }, { o := .fa (.v 5) 0, g := some (0, false) }, { o := .ld (.l 0) 1 false, g := some (1, false) }, { o := .fa (.v 5) 1, g := some (2, false) }, { o := .ld (.l 0) 1 false, g := some (3, false) }, { o := .bin .eql (.l 2) (.l 0), g := some (4, false) }, { o := .pk (.l 5) (.b true) (.l 0) }] [] 0 (.seq (.reg [{ o := .mv (.i 4), d := some 2 }] []) .ret) .skip) (.seq (.ite [{ o := .fa (.v 5) 2 }, { o := .ld (.l 0) 1 false }, { o := .bin .lss (.l 0) (.i 1) }, { o := .mv (.l 0) }, { o := .fa (.v 5) 2, g := some (0, false) }, { o := .ld (.l 0) 1 false, g := some (1, false) }, { o := .bin .gtr (.l 0) (.i 100000), g := some (2, false) }, { o := .pk (.l 3) (.b true) (.l 0) }, { o := .mv (.l 0) }, { o := .fa (.v 5) 3, g := some (0, false) }, { o := .ld (.l 0) 1 false, g := some (1, false) }, { o := .bin .lss (.l 0) (.i 1), g := some (2, false) }, { o := .pk (.l 3) (.b true) (.l 0) }, { o := .mv (.l 0) }, { o := .fa (.v 5) 3, g := some (0, false) }, { o := .ld (.l 0) 1 false, g := some (1, false) }, { o := .bin .gtr (.l 0) (.i 1000), g := some (2, false) }, { o := .pk (.l 3) (.b true) (.l 0) }] [] 0 (.seq (.reg [{ o := .mv (.i 1), d := some 2 }] []) .ret) .skip) (.ite [{ o := .fa (.v 5) 6 }, { o := .ld (.l 0) 2 true }, { o := .ca N.plan_spanIn 0 [] [.l 0, .i 1, .i 262144] }, { o := .un .not (.l 0) }, { o := .mv (.l 0) }, { o := .fa (.v 5) 8, g := some (0, false) }, { o := .ld (.l 0) 2 true, g := some (1, false) }, { o := .ca N.plan_spanIn 0 [] [.l 0, .i (-2199023255552), .i 2199023255552], g := some (2, false) }, { o := .un .not (.l 0), g := some (3, false) }, { o := .pk (.l 4) (.b true) (.l 0) }] [] 0 (.seq (.reg [{ o := .mv (.i 1), d := some 2 }] []) .ret) .skip))))) (.reg [{ o := .bin .add (.v 11) (.i 1) }, { o := .mv (.l 0), d := some 11 }] [])))
def plan_Check_l2 : C := .loop true [0, 1, 2, 3, 5, 6, 7, 8] K.plan_Check_l2b
/-- /plan.Check -/
def plan_Check : Fn := { nargs := 1, vars := [0, 1, 2, 4, 5, 7, 19, 20, 21, 38, 39, 40], body := (.seq (.reg [{ o := .bx (.v 0) 2, d := some 1 }, { o := .mv (.i 0), d := some 2 }] []) (.seq (.ite [{ o := .fa (.v 1) 0 }, { o := .ld (.l 0) 1 false }, { o := .ln (.l 0) }, { o := .bin .gtr (.l 0) (.i 64) }, { o := .mv (.l 0) }, { o := .fa (.v 1) 1, g := some (0, false) }, { o := .ld (.l 0) 1 false, g := some (1, false) }, { o := .ln (.l 0), g := some (2, false) }, { o := .bin .gtr (.l 0) (.i 128), g := some (3, false) }, { o := .pk (.l 4) (.b true) (.l 0) }] [] 0 (.seq (.reg [{ o := .mv (.i 2), d := some 2 }] []) .ret) .skip) (.seq (.seq (.reg [{ o := .fa (.v 1) 0 }, { o := .ld (.l 0) 1 false, d := some 6 }, { o := .ln (.l 0), d := some 7 }, { o := .mv (.i 0), d := some 8 }] []) (.blk 0 K.plan_Check_l1)) (.seq (.reg [{ o := .fa (.v 1) 0 }, { o := .ld (.l 0) 1 false }, { o := .ln (.l 0) }, { o := .mv (.l 0), d := some 4 }] []) (.seq (.seq (.reg [{ o := .fa (.v 1) 1 }, { o := .ld (.l 0) 1 false, d := some 9 }, { o := .ln (.l 0), d := some 10 }, { o := .mv (.i 0), d := some 11 }] []) (.blk 2 K.plan_Check_l2)) (.seq (.reg [{ o := .mv (.i 0), d := some 2 }] []) .ret)))))), res := [(2, none)] }
/-- /plan.spanIn -/
def plan_spanIn : Fn := { nargs := 3, vars := [0, 1, 2, 3, 6], body := (.seq (.reg [{ o := .bx (.v 0) 2, d := some 3 }, { o := .mv (.b false), d := some 4 }] []) (.seq (.reg [{ o := .mv (.v 1) }, { o := .fa (.v 3) 0 }, { o := .ld (.l 0) 1 false }, { o := .bin .leq (.l 2) (.l 0) }, { o := .mv (.l 0) }, { o := .fa (.v 3) 0, g := some (0, true) }, { o := .ld (.l 0) 1 false, g := some (1, true) }, { o := .fa (.v 3) 1, g := some (2, true) }, { o := .ld (.l 0) 1 false, g := some (3, true) }, { o := .bin .leq (.l 2) (.l 0), g := some (4, true) }, { o := .pk (.l 5) (.l 0) (.b false) }, { o := .mv (.l 0) }, { o := .fa (.v 3) 1, g := some (0, true) }, { o := .ld (.l 0) 1 false, g := some (1, true) }, { o := .mv (.v 2), g := some (2, true) }, { o := .bin .leq (.l 1) (.l 0), g := some (3, true) }, { o := .pk (.l 4) (.l 0) (.b false) }, { o := .mv (.l 0), d := some 4 }] []) .ret)), res := [(4, none)] }
end Go.Ev.K
namespace Go.Ev
class Has7 [Lib] : Prop where
  t_smoke_Valid_1 : Lib.fs N.smoke_Valid_1 = some K.smoke_Valid_1
  t_plan_Check : Lib.fs N.plan_Check = some K.plan_Check
  t_plan_spanIn : Lib.fs N.plan_spanIn = some K.plan_spanIn
namespace K
variable [Lib] [Has7]
theorem t_smoke_Valid_1 : Lib.fs N.smoke_Valid_1 = some K.smoke_Valid_1 := Has7.t_smoke_Valid_1
theorem t_plan_Check : Lib.fs N.plan_Check = some K.plan_Check := Has7.t_plan_Check
theorem t_plan_spanIn : Lib.fs N.plan_spanIn = some K.plan_spanIn := Has7.t_plan_spanIn
end K
end Go.Ev

/- slices.Repeat of one number. -/
namespace Go.Ev
open Go
variable [Lib] [Has1] [Has2] [Has6] [Has7]

/- the operation copy -/
section
variable (H : Heap) (sz : Nat)
def putO (id ep n lo hi : Nat) (ys : List D) : Option Obj → Option (D × Heap)
  | some (.arr sz' pin ep' es) => if ep = ep' ∧ n = es.length then putD H id ep (sz', pin, es) lo hi ys sz else none
  | _ => none
def cpD (x : D) (ys : List D) : Option (D × Heap) := if headSize sz ys = true then (match x with
  | .ref id ep n => putO H sz id ep n 0 n ys H[id]?
  | .sub id ep n lo hi => putO H sz id ep n lo hi ys H[id]?
  | _ => none) else none
def opCp (x y : Option D) : Option (D × Heap) := x.bind fun a => y.bind fun b => copyD H a b sz
@[go_sem] theorem ev_cp (call : Oracle) (get : X → Option D) (x y : X) : evO call get H (.cp x y sz) = opCp H sz (get x) (get y) := (rfl)
theorem copyD_is (x y : D) (ys : List D) (h : elems H y = some ys) : copyD H x y sz = cpD H sz x ys := by
  unfold copyD cpD
  rw [h, Option.bind_some]
  split
  · rename_i hh
    cases x with
    | ref id ep n =>
      simp only [arrAt, putO]
      cases H[id]? with
      | none => rfl
      | some o =>
        cases o with
        | box cs => rfl
        | arr sz' pin ep' es =>
          simp only
          by_cases c : ep = ep' ∧ n = es.length
          · rw [if_pos c, if_pos c]; rfl
          · rw [if_neg c, if_neg c]; rfl
    | sub id ep n lo hi =>
      simp only [arrAt, putO]
      cases H[id]? with
      | none => rfl
      | some o =>
        cases o with
        | box cs => rfl
        | arr sz' pin ep' es =>
          simp only
          by_cases c : ep = ep' ∧ n = es.length
          · rw [if_pos c, if_pos c]; rfl
          · rw [if_neg c, if_neg c]; rfl
    | _ => rfl
  · rfl
@[go_sem] theorem opCp_t (x : D) (ts : List T) : opCp H sz (some x) (some (.t (.sl ts))) = cpD H sz x (ts.map .t) := copyD_is H sz x (.t (.sl ts)) (ts.map .t) rfl
def cpE (x : D) (ep n lo hi : Nat) : Option Obj → Option (D × Heap)
  | some (.arr _ _ ep' es) => if ep = ep' ∧ n = es.length then cpD H sz x ((es.drop lo).take (hi - lo)) else none
  | _ => none
@[go_sem] theorem cpE_arr (x : D) (n lo hi sz' : Nat) (pin : Bool) (ep : Nat) (es : List D) : cpE H sz x ep n lo hi (some (.arr sz' pin ep es)) = if n = es.length then cpD H sz x ((es.drop lo).take (hi - lo)) else none := by simp [cpE]
@[go_sem] theorem opCp_sub (x : D) (id ep n lo hi : Nat) : opCp H sz (some x) (some (.sub id ep n lo hi)) = cpE H sz x ep n lo hi H[id]? := by
  unfold opCp
  simp only [Option.bind_some]
  cases h : H[id]? with
  | none => simp [copyD, elems, arrAt, h, cpE]
  | some o =>
    cases o with
    | box cs => simp [copyD, elems, arrAt, h, cpE]
    | arr sz' pin ep' es =>
      by_cases c : ep = ep' ∧ n = es.length
      · rw [copyD_is H sz x _ ((es.drop lo).take (hi - lo)) (by simp [elems, arrAt, h, c])]
        simp only [cpE, if_pos c]
      · simp [copyD, elems, arrAt, h, cpE, c]
@[go_sem] theorem cpD_ref (id ep n : Nat) (ys : List D) : cpD H sz (.ref id ep n) ys = if headSize sz ys = true then putO H sz id ep n 0 n ys H[id]? else none := (rfl)
@[go_sem] theorem cpD_sub (id ep n lo hi : Nat) (ys : List D) : cpD H sz (.sub id ep n lo hi) ys = if headSize sz ys = true then putO H sz id ep n lo hi ys H[id]? else none := (rfl)
@[go_sem] theorem putO_arr (id n lo hi : Nat) (ys : List D) (ep : Nat) (es : List D) : putO H sz id ep n lo hi ys (some (.arr sz false ep es)) =
    if n = es.length then (if min ys.length (hi - lo) = 0 then some (.t (.int .i64 0), H) else some (.t (.int .i64 ((min ys.length (hi - lo) : Nat) : Int)), H.set id (.arr sz false ep (es.take lo ++ ys.take (min ys.length (hi - lo)) ++ es.drop (lo + min ys.length (hi - lo)))))) else none := by
  simp [putO, putD]
end

/- numbers -/
/- an array that is filled from the left -/
def repD (v : Int) (n cur : Nat) : List D := List.replicate cur (I v) ++ List.replicate (n - cur) (I 0)
end Go.Ev

/- The program: smoke. -/
namespace Go.Ev
open Go
variable [Lib] [Has1] [Has2] [Has6] [Has7]

/- the program's look at a mine: only at good ones -/
theorem spanIn_ok (a b lo hi : Int) (h1 : lo ≤ a) (h2 : a ≤ b) (h3 : b ≤ hi) : CALL 0 N.plan_spanIn [.t (.agg [tI a, tI b]), I lo, I hi] [] = some (B true, []) := by
  refine CALL_of K.t_plan_spanIn rfl ?_
  simp (disch := omega) only [go_sem, K.plan_spanIn, ↓reduceIte, Nat.reduceAdd, Nat.reduceSub]
theorem planCheck_ok {m : Mine} (h : m.ok) : CALL 0 N.plan_Check [.t m.e] [] = some (I 0, []) := by
  refine CALL_of K.t_plan_Check rfl ?_
  have np := h.np
  have nr := h.nr
  have hs := h.hs
  have rs := h.rs
  obtain ⟨places, roads⟩ := m
  simp only at np nr hs rs
  have l1 : ∀ z0 z2 z3 z4 z5 z9 z10 z11 : D, exS CALL K.plan_Check_l1 ⟨[z0, .bp 0 0, z2, z3, z4, z5, .t (.sl (places.map Place.e)), I places.length, I 0, z9, z10, z11], [.box (mineCells ⟨places, roads⟩)]⟩ =
      some (.exit 0, ⟨[.und, .bp 0 0, .und, .und, .und, .und, .t (.sl (places.map Place.e)), I places.length, I places.length, .und, .und, .und], [.box (mineCells ⟨places, roads⟩)]⟩) := by
    intro z0 z2 z3 z4 z5 z9 z10 z11
    refine loop_up (fun j => ⟨[.und, .bp 0 0, .und, .und, .und, .und, .t (.sl (places.map Place.e)), I places.length, I j, .und, .und, .und], [.box (mineCells ⟨places, roads⟩)]⟩) places.length rfl ?_ ?_ (by simp)
    · intro j hj
      have g : (places.map Place.e)[j]? = some (nth places j).e := map_nth _ hj
      have q := hs _ (nth_mem hj)
      generalize nth places j = x at *
      obtain ⟨hh, sf⟩ := x
      simp only [mineCells] at *
      simp (disch := omega) only [go_sem, K.plan_Check_l1b, ↓reduceIte, g, Nat.reduceAdd, Nat.reduceSub]
    · simp (disch := omega) only [go_sem, K.plan_Check_l1b, ↓reduceIte, mineCells, Nat.reduceAdd, Nat.reduceSub]
  have l2 : ∀ z0 z1 z2 z3 z5 z6 z7 z8 : D, exS CALL K.plan_Check_l2 ⟨[z0, z1, z2, z3, I places.length, z5, z6, z7, z8, .t (.sl (roads.map Road.e)), I roads.length, I 0], [.box (mineCells ⟨places, roads⟩)]⟩ =
      some (.exit 2, ⟨[.und, .und, .und, .und, I places.length, .und, .und, .und, .und, .t (.sl (roads.map Road.e)), I roads.length, I roads.length], [.box (mineCells ⟨places, roads⟩)]⟩) := by
    intro z0 z1 z2 z3 z5 z6 z7 z8
    refine loop_up (fun j => ⟨[.und, .und, .und, .und, I places.length, .und, .und, .und, .und, .t (.sl (roads.map Road.e)), I roads.length, I j], [.box (mineCells ⟨places, roads⟩)]⟩) roads.length rfl ?_ ?_ (by simp)
    · intro j hj
      have g : (roads.map Road.e)[j]? = some (nth roads j).e := map_nth _ hj
      have q := rs _ (nth_mem hj)
      generalize nth roads j = x at *
      have f0 := q.f0; have f1 := q.f1; have t0 := q.t0; have t1 := q.t1; have ne := q.ne; have l0 := q.l0; have l1 := q.l1; have a0 := q.a0; have a1 := q.a1
      have r0 := q.r0; have r1 := q.r1; have r2 := q.r2; have i0 := q.i0; have i1 := q.i1; have i2 := q.i2
      clear q
      obtain ⟨frm, to, len, area, walk, closed, rl, rh, ll, lh⟩ := x
      simp only [mineCells] at *
      have s1 := spanIn_ok rl rh 1 262144 r0 r1 r2
      have s2 := spanIn_ok ll lh (-2199023255552) 2199023255552 i0 i1 i2
      simp (disch := omega) only [go_sem, K.plan_Check_l2b, ↓reduceIte, g, s1, s2, Nat.reduceAdd, Nat.reduceSub]
    · simp (disch := omega) only [go_sem, K.plan_Check_l2b, ↓reduceIte, mineCells, Nat.reduceAdd, Nat.reduceSub]
  simp only [mineCells] at l1 l2
  simp (disch := omega) only [go_sem, K.plan_Check, ↓reduceIte, l1, l2, Nat.reduceAdd, Nat.reduceSub]
theorem planValid_ok {m : Mine} (h : m.ok) : CALL 0 N.plan_Valid [.t m.e] [] = some (B true, []) := by
  refine CALL_of K.t_plan_Valid rfl ?_
  have c := planCheck_ok h
  obtain ⟨places, roads⟩ := m
  simp (disch := omega) only [go_sem, K.plan_Valid, ↓reduceIte, c, Nat.reduceAdd, Nat.reduceSub]
end Go.Ev

/- MADE BY PROGRAM (lib.py): the numbers of functions. -/
namespace Go.Ev.N
def law25_PlacesLeast : Nat := 178
def law25_PlacesJoins : Nat := 179
def law25_PlacesTrue : Nat := 180
def law25_PlacesShift : Nat := 181
def law25_PlacesLess : Nat := 182
def law25_PlacesRaw : Nat := 183
def law25_PlacesMade : Nat := 184
def law25_awake : Nat := 185
def places_Start : Nat := 186
def ref03_Least : Nat := 187
def made_Dice_Where : Nat := 188
def places_Join : Nat := 189
def places_Valid : Nat := 190
def law25_walker : Nat := 191
def places_See : Nat := 192
def places_Absent : Nat := 193
def places_Renew : Nat := 194
def law25_agree : Nat := 195
def ref25_Same : Nat := 196
def law25_row : Nat := 197
def places_nowhere : Nat := 198
def places_lowered : Nat := 199
def places_all : Nat := 200
def places_shaped : Nat := 201
def slices_Equal_int_int : Nat := 202
def places_given : Nat := 203
def slices_Clone_int_int : Nat := 204
def places_Absent_1 : Nat := 205
def ref25_Renew : Nat := 206
def places_Raise : Nat := 207
def places_arrivals : Nat := 208
def places_lowered_1 : Nat := 209
def places_shaped_1 : Nat := 210
def walk_Time : Nat := 211
def walk_step : Nat := 212
def walk_with : Nat := 213
def walk_quick : Nat := 214
end Go.Ev.N

/- MADE BY PROGRAM (lib.py): the compact code of functions. -/
namespace Go.Ev.K
open Go.Ev
/-- /places.Valid -/
def places_Valid : Fn := { nargs := 2, vars := [0, 1, 2, 3, 4], body := (.seq (.reg [{ o := .bx (.v 0) 2, d := some 2 }, { o := .bx (.v 1) 2, d := some 3 }, { o := .mv (.b false), d := some 4 }] []) (.seq (.reg [{ o := .ld (.v 2) 2 true }, { o := .ca N.plan_Valid 0 [] [.l 0] }, { o := .mv (.l 0) }, { o := .ld (.v 2) 2 true, g := some (0, true) }, { o := .ld (.v 3) 2 true, g := some (1, true) }, { o := .ca N.places_shaped 0 [] [.l 1, .l 0], g := some (2, true) }, { o := .pk (.l 3) (.l 0) (.b false) }, { o := .mv (.l 0) }, { o := .ld (.v 2) 2 true, g := some (0, true) }, { o := .fa (.v 3) 1, g := some (1, true) }, { o := .ld (.l 0) 1 false, g := some (2, true) }, { o := .fa (.v 3) 0, g := some (3, true) }, { o := .ld (.l 0) 1 false, g := some (4, true) }, { o := .ca N.places_lowered 0 [] [.l 4, .l 2, .l 0, .c (.fn N.places_all [])], g := some (5, true) }, { o := .fa (.v 3) 1, g := some (6, true) }, { o := .ld (.l 0) 1 false, g := some (7, true) }, { o := .ca N.slices_Equal_int_int 0 [] [.l 2, .l 0], g := some (8, true) }, { o := .pk (.l 9) (.l 0) (.b false) }, { o := .mv (.l 0), d := some 4 }] [(15, 6)]) .ret)), res := [(4, none)] }
end Go.Ev.K
namespace Go.Ev
class Has8 [Lib] : Prop where
  t_places_Valid : Lib.fs N.places_Valid = some K.places_Valid
namespace K
variable [Lib] [Has8]
theorem t_places_Valid : Lib.fs N.places_Valid = some K.places_Valid := Has8.t_places_Valid
end K
end Go.Ev

/- MADE BY PROGRAM (lib.py): the compact code of functions. -/
namespace Go.Ev.K
open Go.Ev
def places_lowered_l1b : C := (.seq (.ite [{ o := .ld (.v 9) 1 false }] [] 0 .skip (.exit 0)) (.seq (.blk 1 (.seq (.reg [{ o := .st (.v 9) (.b false) 1 [] }] []) (.reg [{ o := .ld (.v 4) 2 true }, { o := .ld (.v 8) 1 false }, { o := .mf N.places_lowered_1 [.v 5, .v 8, .v 6, .v 9] }, { o := .ca N.places_arrivals 0 [1] [.l 2, .l 1, .l 0] }] []))) (.seq (.reg [{ o := .ld (.v 9) 1 false, d := some 10 }] []) (.reg [{ o := .al [.t (.bool false)] [], d := some 9 }, { o := .st (.l 0) (.v 10) 1 [] }] []))))
def places_lowered_l1 : C := .loop false [0, 1, 2, 3, 7, 10] K.places_lowered_l1b
/-- /places.lowered -/
def places_lowered : Fn := { nargs := 4, vars := [0, 1, 2, 3, 4, 6, 7, 8, 9, 10, 18], body := (.seq (.reg [{ o := .bx (.v 0) 2, d := some 4 }, { o := .bx (.v 2) 1, d := some 5 }, { o := .bx (.v 3) 1, d := some 6 }, { o := .mv (.c (.nil)), d := some 7 }] []) (.seq (.reg [{ o := .mv (.v 1) }, { o := .ca N.slices_Clone_int_int 1 [] [.l 0] }, { o := .al [.nil] [], d := some 8 }, { o := .st (.l 0) (.l 1) 1 [] }] []) (.seq (.seq (.reg [{ o := .al [.t (.bool false)] [], d := some 9 }, { o := .st (.l 0) (.b true) 1 [] }] []) (.blk 0 K.places_lowered_l1)) (.seq (.reg [{ o := .ld (.v 8) 1 false }, { o := .mv (.l 0), d := some 7 }] []) .ret)))), res := [(7, none)] }
/-- /places.all -/
def places_all : Fn := { nargs := 1, vars := [2], body := (.seq (.reg [{ o := .mv (.b false), d := some 0 }] []) (.seq (.reg [{ o := .mv (.b true), d := some 0 }] []) .ret)), res := [(0, none)] }
/-- /places.shaped -/
def places_shaped : Fn := { nargs := 2, vars := [0, 1, 2, 3, 4], body := (.seq (.reg [{ o := .bx (.v 0) 2, d := some 2 }, { o := .bx (.v 1) 2, d := some 3 }, { o := .mv (.b false), d := some 4 }] []) (.seq (.reg [{ o := .fa (.v 3) 1 }, { o := .ld (.l 0) 1 false }, { o := .ln (.l 0) }, { o := .fa (.v 2) 0 }, { o := .ld (.l 0) 1 false }, { o := .ln (.l 0) }, { o := .bin .eql (.l 3) (.l 0) }, { o := .mv (.l 0) }, { o := .fa (.v 3) 0, g := some (0, true) }, { o := .ld (.l 0) 1 false, g := some (1, true) }, { o := .ca N.lists_In 0 [] [.l 0, .i 0, .i 2147483648], g := some (2, true) }, { o := .pk (.l 3) (.l 0) (.b false) }, { o := .mv (.l 0) }, { o := .fa (.v 3) 1, g := some (0, true) }, { o := .ld (.l 0) 1 false, g := some (1, true) }, { o := .ca N.slices_ContainsFunc_int_int 0 [] [.l 0, .c (.fn N.places_shaped_1 [])], g := some (2, true) }, { o := .un .not (.l 0), g := some (3, true) }, { o := .pk (.l 4) (.l 0) (.b false) }, { o := .mv (.l 0), d := some 4 }] []) .ret)), res := [(4, none)] }
def slices_Equal_int_int_l1b : C := (.its  [{ o := .bin .lss (.v 5) (.v 4) }] [] 0 .skip (.exit 0) (.seq (.blk 1 (.seq (.reg [{ o := .mv (.v 5) }, { o := .mv (.l 0), d := some 3 }] []) (.ite [{ o := .mv (.v 0) }, { o := .mv (.v 3) }, { o := .ia (.l 1) (.l 0) 1 }, { o := .ld (.l 0) 1 false }, { o := .mv (.v 1) }, { o := .mv (.v 3) }, { o := .ia (.l 1) (.l 0) 1 }, { o := .ld (.l 0) 1 false }, { o := .bin .neq (.l 4) (.l 0) }] [] 0 (.seq (.reg [{ o := .mv (.b false), d := some 2 }] []) .ret) .skip))) (.reg [{ o := .bin .add (.v 5) (.i 1) }, { o := .mv (.l 0), d := some 5 }] [])))
def slices_Equal_int_int_l1 : C := .loop true [2, 3] K.slices_Equal_int_int_l1b
/-- slices.Equal[[]int,int] -/
def slices_Equal_int_int : Fn := { nargs := 2, vars := [0, 1, 4, 5, 12, 13], body := (.seq (.reg [{ o := .mv (.b false), d := some 2 }] []) (.seq (.ite [{ o := .mv (.v 0) }, { o := .ln (.l 0) }, { o := .mv (.v 1) }, { o := .ln (.l 0) }, { o := .bin .neq (.l 2) (.l 0) }] [] 0 (.seq (.reg [{ o := .mv (.b false), d := some 2 }] []) .ret) .skip) (.seq (.seq (.reg [{ o := .mv (.v 0) }, { o := .ln (.l 0), d := some 4 }, { o := .mv (.i 0), d := some 5 }] []) (.blk 0 K.slices_Equal_int_int_l1)) (.seq (.reg [{ o := .mv (.b true), d := some 2 }] []) .ret)))), res := [(2, none)] }
/-- slices.Clone[[]int,int] -/
def slices_Clone_int_int : Fn := { nargs := 1, vars := [0, 2], body := (.seq (.reg [{ o := .mv (.c (.nil)), d := some 1 }] []) (.itk  [{ o := .mv (.v 0) }, { o := .eqk (.sl) false (.l 0) (.c (.nil)) }] [] 0 (.seq (.reg [{ o := .nw 1, d := some 1 }] []) .ret) .skip (.seq (.reg [{ o := .bsr [] 1 }, { o := .mv (.v 0) }, { o := .app (.l 1) (.l 0) false 1 }, { o := .mv (.l 0), d := some 1 }] []) .ret))), res := [(1, none)] }
/-- /places.Absent.1 -/
def places_Absent_1 : Fn := { nargs := 2, vars := [0, 1, 3], body := (.seq (.reg [{ o := .mv (.b false), d := some 2 }] []) (.seq (.reg [{ o := .ld (.v 1) 1 false }, { o := .mv (.v 0) }, { o := .ca N.slices_Contains_int_int 0 [] [.l 1, .l 0] }, { o := .mv (.l 0), d := some 2 }] []) .ret)), res := [(2, none)] }
def places_arrivals_l2b : C := (.its  [{ o := .bin .lss (.v 14) (.i 2) }] [] 0 .skip (.exit 2) (.seq (.blk 3 (.seq (.reg [{ o := .ix (.v 13) (.v 14) 2 1 false }, { o := .mv (.l 0), d := some 6 }] []) (.seq (.reg [{ o := .fa (.v 5) 0 }, { o := .ld (.l 0) 1 false }, { o := .fa (.v 5) 1 }, { o := .ld (.l 0) 1 false }, { o := .mv (.l 2), d := some 7 }, { o := .mv (.l 1), d := some 8 }] []) (.seq (.ite [{ o := .mv (.v 6) }] [] 0 (.reg [{ o := .mv (.v 8) }, { o := .mv (.v 7) }, { o := .mv (.l 1), d := some 7 }, { o := .mv (.l 1), d := some 8 }] []) .skip) (.seq (.reg [{ o := .ld (.v 3) 2 true }, { o := .mv (.v 4) }, { o := .mv (.v 6) }, { o := .ca N.walk_Time 0 [] [.l 2, .l 1, .l 0] }, { o := .mv (.l 0), d := some 9 }] []) (.ite [{ o := .mv (.v 9) }, { o := .bin .geq (.l 0) (.i 0) }, { o := .mv (.l 0) }, { o := .mv (.v 1), g := some (0, true) }, { o := .mv (.v 7), g := some (1, true) }, { o := .ia (.l 1) (.l 0) 1, g := some (2, true) }, { o := .ld (.l 0) 1 false, g := some (3, true) }, { o := .bin .lss (.l 0) (.i 1099511627776), g := some (4, true) }, { o := .pk (.l 5) (.l 0) (.b false) }] [] 0 (.reg [{ o := .mv (.v 2) }, { o := .mv (.v 7) }, { o := .mv (.v 8) }, { o := .mv (.v 1) }, { o := .mv (.v 7) }, { o := .ia (.l 1) (.l 0) 1 }, { o := .ld (.l 0) 1 false }, { o := .mv (.v 9) }, { o := .bin .add (.l 1) (.l 0) }, { o := .cw (.l 8) 0 [] [.l 7, .l 6, .l 0] }] []) .skip)))))) (.reg [{ o := .bin .add (.v 14) (.i 1) }, { o := .mv (.l 0), d := some 14 }] [])))
def places_arrivals_l2 : C := .loop true [0, 6, 7, 8, 9] K.places_arrivals_l2b
def places_arrivals_l1b : C := (.its  [{ o := .bin .lss (.v 12) (.v 11) }] [] 0 .skip (.exit 0) (.seq (.blk 1 (.seq (.reg [{ o := .mv (.v 12) }, { o := .ia (.v 10) (.v 12) 10 }, { o := .ld (.l 0) 10 true }, { o := .al [.t (.int .i64 (0)), .t (.int .i64 (0)), .t (.int .i64 (0)), .t (.int .i64 (0)), .t (.bool false), .t (.bool false), .t (.int .i64 (0)), .t (.int .i64 (0)), .t (.int .i64 (0)), .t (.int .i64 (0))] [], d := some 5 }, { o := .mv (.l 3), d := some 4 }, { o := .st (.l 1) (.l 2) 10 [] }] []) (.seq (.reg [{ o := .bd [.t (.bool false), .t (.bool false)] [(0, 1, .b false), (1, 1, .b true)], d := some 13 }, { o := .mv (.i 0), d := some 14 }] []) (.blk 2 K.places_arrivals_l2)))) (.reg [{ o := .bin .add (.v 12) (.i 1) }, { o := .mv (.l 0), d := some 12 }] [])))
def places_arrivals_l1 : C := .loop true [0, 4, 5, 6, 7, 8, 9, 13, 14] K.places_arrivals_l1b
/-- /places.arrivals -/
def places_arrivals : Fn := { nargs := 3, vars := [0, 1, 2, 3, 6, 7, 9, 10, 11, 12, 14, 15, 16, 21, 22], body := (.seq (.reg [{ o := .bx (.v 0) 2, d := some 3 }] []) (.seq (.reg [{ o := .fa (.v 3) 1 }, { o := .ld (.l 0) 1 false, d := some 10 }, { o := .ln (.l 0), d := some 11 }, { o := .mv (.i 0), d := some 12 }] []) (.blk 0 K.places_arrivals_l1))), res := [] }
/-- /places.lowered.1 -/
def places_lowered_1 : Fn := { nargs := 7, vars := [1, 2, 3, 4, 5, 6], body := (.seq (.reg [{ o := .mv (.v 1) }, { o := .ld (.v 2) 1 false }, { o := .mx [.l 1, .l 0] }, { o := .mv (.l 0), d := some 1 }] []) (.ite [{ o := .mv (.v 1) }, { o := .bin .leq (.l 0) (.i 2147483648) }, { o := .mv (.l 0) }, { o := .mv (.v 1), g := some (0, true) }, { o := .ld (.v 3) 1 false, g := some (1, true) }, { o := .mv (.v 0), g := some (2, true) }, { o := .ia (.l 1) (.l 0) 1, g := some (3, true) }, { o := .ld (.l 0) 1 false, g := some (4, true) }, { o := .bin .lss (.l 4) (.l 0), g := some (5, true) }, { o := .pk (.l 6) (.l 0) (.b false) }, { o := .mv (.l 0) }, { o := .ld (.v 4) 1 false, g := some (0, true) }, { o := .mv (.v 0), g := some (1, true) }, { o := .cw (.l 1) 0 [] [.l 0], g := some (2, true) }, { o := .pk (.l 3) (.l 0) (.b false) }] [] 0 (.reg [{ o := .ld (.v 3) 1 false }, { o := .mv (.v 0) }, { o := .mv (.v 1) }, { o := .ia (.l 2) (.l 1) 1 }, { o := .st (.l 0) (.l 1) 1 [] }, { o := .st (.v 5) (.b true) 1 [] }] []) .skip)), res := [] }
/-- /places.shaped.1 -/
def places_shaped_1 : Fn := { nargs := 1, vars := [0, 2], body := (.seq (.reg [{ o := .mv (.b false), d := some 1 }] []) (.seq (.reg [{ o := .mv (.v 0) }, { o := .bin .neq (.l 0) (.i 1099511627776) }, { o := .mv (.l 0) }, { o := .mv (.v 0), g := some (0, true) }, { o := .ca N.lists_In 0 [] [.l 0, .i 0, .i 2147483648], g := some (1, true) }, { o := .un .not (.l 0), g := some (2, true) }, { o := .pk (.l 3) (.l 0) (.b false) }, { o := .mv (.l 0), d := some 1 }] []) .ret)), res := [(1, none)] }
/-- /walk.Time -/
def walk_Time : Fn := { nargs := 3, vars := [0, 1, 2, 3, 6], body := (.seq (.reg [{ o := .bx (.v 0) 2, d := some 3 }, { o := .mv (.i 0), d := some 4 }] []) (.seq (.ite [{ o := .ld (.v 3) 2 true }, { o := .ca N.plan_Valid 0 [] [.l 0] }, { o := .un .not (.l 0) }, { o := .mv (.l 0) }, { o := .mv (.v 1), g := some (0, false) }, { o := .bin .lss (.l 0) (.i 0), g := some (1, false) }, { o := .pk (.l 2) (.b true) (.l 0) }, { o := .mv (.l 0) }, { o := .mv (.v 1), g := some (0, false) }, { o := .fa (.v 3) 1, g := some (1, false) }, { o := .ld (.l 0) 1 false, g := some (2, false) }, { o := .ln (.l 0), g := some (3, false) }, { o := .bin .geq (.l 3) (.l 0), g := some (4, false) }, { o := .pk (.l 5) (.b true) (.l 0) }] [] 0 (.seq (.reg [{ o := .mv (.i (-1)), d := some 4 }] []) .ret) .skip) (.seq (.reg [{ o := .ld (.v 3) 2 true }, { o := .mv (.v 1) }, { o := .mv (.v 2) }, { o := .ca N.walk_step 0 [] [.l 2, .l 1, .l 0] }, { o := .mv (.l 0), d := some 4 }] []) .ret))), res := [(4, none)] }
/-- /walk.step -/
def walk_step : Fn := { nargs := 3, vars := [0, 1, 2, 3, 6], body := (.seq (.reg [{ o := .bx (.v 0) 2, d := some 3 }, { o := .mv (.i 0), d := some 4 }] []) (.seq (.reg [{ o := .ld (.v 3) 2 true }, { o := .mv (.v 1) }, { o := .mv (.v 2) }, { o := .ca N.walk_quick 0 [] [] }, { o := .ca N.walk_with 0 [] [.l 3, .l 2, .l 1, .l 0] }, { o := .mv (.l 0), d := some 4 }] [(0, 4)]) .ret)), res := [(4, none)] }
/-- /walk.with -/
def walk_with : Fn := { nargs := 4, vars := [0, 1, 2, 3, 4, 7, 8, 9, 10, 11], body := (.seq (.reg [{ o := .bx (.v 0) 2, d := some 4 }, { o := .bx (.v 3) 3, d := some 5 }, { o := .mv (.i 0), d := some 6 }] []) (.seq (.reg [{ o := .fa (.v 4) 1 }, { o := .ld (.l 0) 1 false }, { o := .mv (.v 1) }, { o := .ia (.l 1) (.l 0) 10 }, { o := .ld (.l 0) 10 true }, { o := .al [.t (.int .i64 (0)), .t (.int .i64 (0)), .t (.int .i64 (0)), .t (.int .i64 (0)), .t (.bool false), .t (.bool false), .t (.int .i64 (0)), .t (.int .i64 (0)), .t (.int .i64 (0)), .t (.int .i64 (0))] [], d := some 7 }, { o := .st (.l 0) (.l 1) 10 [] }] []) (.seq (.ite [{ o := .fa (.v 7) 5 }, { o := .ld (.l 0) 1 false }, { o := .mv (.l 0) }, { o := .fa (.v 7) 4, g := some (0, false) }, { o := .ld (.l 0) 1 false, g := some (1, false) }, { o := .un .not (.l 0), g := some (2, false) }, { o := .pk (.l 3) (.b true) (.l 0) }] [] 0 (.seq (.reg [{ o := .mv (.i (-1)), d := some 6 }] []) .ret) .skip) (.seq (.reg [{ o := .fa (.v 4) 0 }, { o := .ld (.l 0) 1 false }, { o := .fa (.v 7) 1 }, { o := .ld (.l 0) 1 false }, { o := .ia (.l 2) (.l 0) 2 }, { o := .fa (.l 0) 0 }, { o := .ld (.l 0) 1 false }, { o := .fa (.v 4) 0 }, { o := .ld (.l 0) 1 false }, { o := .fa (.v 7) 0 }, { o := .ld (.l 0) 1 false }, { o := .ia (.l 2) (.l 0) 2 }, { o := .fa (.l 0) 0 }, { o := .ld (.l 0) 1 false }, { o := .bin .sub (.l 7) (.l 0) }, { o := .mv (.l 0), d := some 8 }] []) (.seq (.ite [{ o := .mv (.v 2) }] [] 0 (.reg [{ o := .mv (.v 8) }, { o := .un .neg (.l 0) }, { o := .mv (.l 0), d := some 8 }] []) .skip) (.seq (.reg [{ o := .fa (.v 5) 2 }, { o := .ld (.l 0) 1 false }, { o := .mv (.l 0), d := some 9 }] []) (.seq (.blk 0 (.ite [{ o := .mv (.v 8) }, { o := .bin .mul (.i 10) (.l 0) }, { o := .fa (.v 7) 2 }, { o := .ld (.l 0) 1 false }, { o := .bin .gtr (.l 2) (.l 0) }, { o := .mv (.l 0) }] [] 0 (.reg [{ o := .fa (.v 5) 0 }, { o := .ld (.l 0) 1 false }, { o := .mv (.l 0), d := some 9 }] []) (.ite [{ o := .mv (.v 8) }, { o := .bin .mul (.i (-10)) (.l 0) }, { o := .fa (.v 7) 2 }, { o := .ld (.l 0) 1 false }, { o := .bin .gtr (.l 2) (.l 0) }, { o := .mv (.l 0) }] [] 0 (.reg [{ o := .fa (.v 5) 1 }, { o := .ld (.l 0) 1 false }, { o := .mv (.l 0), d := some 9 }] []) .skip))) (.seq (.reg [{ o := .fa (.v 7) 2 }, { o := .ld (.l 0) 1 false }, { o := .bin .mul (.i 10) (.l 0) }, { o := .mv (.v 9) }, { o := .bin .add (.l 1) (.l 0) }, { o := .bin .sub (.l 0) (.i 1) }, { o := .mv (.v 9) }, { o := .bin .quo (.l 1) (.l 0) }, { o := .mv (.l 0), d := some 6 }] []) .ret)))))))), res := [(6, none)] }
/-- /walk.quick -/
def walk_quick : Fn := { nargs := 0, vars := [0], body := (.seq (.reg [{ o := .al [.t (.int .i64 (0)), .t (.int .i64 (0)), .t (.int .i64 (0))] [], d := some 0 }] []) (.seq (.reg [{ o := .bd [.t (.int .i64 (0)), .t (.int .i64 (0)), .t (.int .i64 (0))] [(0, 1, .i 6), (1, 1, .i 9), (2, 1, .i 12)] }, { o := .st (.v 0) (.l 0) 3 [] }] []) .ret)), res := [(0, some (3, true))] }
end Go.Ev.K
namespace Go.Ev
class Has9 [Lib] : Prop where
  t_places_lowered : Lib.fs N.places_lowered = some K.places_lowered
  t_places_all : Lib.fs N.places_all = some K.places_all
  t_places_shaped : Lib.fs N.places_shaped = some K.places_shaped
  t_slices_Equal_int_int : Lib.fs N.slices_Equal_int_int = some K.slices_Equal_int_int
  t_slices_Clone_int_int : Lib.fs N.slices_Clone_int_int = some K.slices_Clone_int_int
  t_places_Absent_1 : Lib.fs N.places_Absent_1 = some K.places_Absent_1
  t_places_arrivals : Lib.fs N.places_arrivals = some K.places_arrivals
  t_places_lowered_1 : Lib.fs N.places_lowered_1 = some K.places_lowered_1
  t_places_shaped_1 : Lib.fs N.places_shaped_1 = some K.places_shaped_1
  t_walk_Time : Lib.fs N.walk_Time = some K.walk_Time
  t_walk_step : Lib.fs N.walk_step = some K.walk_step
  t_walk_with : Lib.fs N.walk_with = some K.walk_with
  t_walk_quick : Lib.fs N.walk_quick = some K.walk_quick
namespace K
variable [Lib] [Has9]
theorem t_places_lowered : Lib.fs N.places_lowered = some K.places_lowered := Has9.t_places_lowered
theorem t_places_all : Lib.fs N.places_all = some K.places_all := Has9.t_places_all
theorem t_places_shaped : Lib.fs N.places_shaped = some K.places_shaped := Has9.t_places_shaped
theorem t_slices_Equal_int_int : Lib.fs N.slices_Equal_int_int = some K.slices_Equal_int_int := Has9.t_slices_Equal_int_int
theorem t_slices_Clone_int_int : Lib.fs N.slices_Clone_int_int = some K.slices_Clone_int_int := Has9.t_slices_Clone_int_int
theorem t_places_Absent_1 : Lib.fs N.places_Absent_1 = some K.places_Absent_1 := Has9.t_places_Absent_1
theorem t_places_arrivals : Lib.fs N.places_arrivals = some K.places_arrivals := Has9.t_places_arrivals
theorem t_places_lowered_1 : Lib.fs N.places_lowered_1 = some K.places_lowered_1 := Has9.t_places_lowered_1
theorem t_places_shaped_1 : Lib.fs N.places_shaped_1 = some K.places_shaped_1 := Has9.t_places_shaped_1
theorem t_walk_Time : Lib.fs N.walk_Time = some K.walk_Time := Has9.t_walk_Time
theorem t_walk_step : Lib.fs N.walk_step = some K.walk_step := Has9.t_walk_step
theorem t_walk_with : Lib.fs N.walk_with = some K.walk_with := Has9.t_walk_with
theorem t_walk_quick : Lib.fs N.walk_quick = some K.walk_quick := Has9.t_walk_quick
end K
end Go.Ev

/- The program: walking times; slices.Clone and slices.Equal; small functions of places. -/
namespace Go.Ev
open Go
variable [Lib] [Has1] [Has2] [Has6] [Has7] [Has8] [Has9]

abbrev arr1 (l : List Int) : Obj := .arr 1 false 0 ((l.map (T.int .i64)).map .t)
theorem clone1_ok (l : List Int) (hl : l.length ≤ 1000000) : CALL 1 N.slices_Clone_int_int [.t (tL l)] [] = some (.ref 0 0 l.length, [arr1 l]) := by
  refine CALL_of K.t_slices_Clone_int_int rfl ?_
  by_cases h0 : l = []
  · subst h0
    simp only [tL, List.map_nil]
    simp (disch := omega) only [go_sem, K.slices_Clone_int_int, ↓reduceIte, List.map_nil, List.length_nil, Nat.reduceAdd, Nat.reduceSub]
    rfl
  · have e := fun H => opEqk_sl H (l.map (T.int .i64)) (by simpa using h0)
    simp (disch := omega) only [go_sem, K.slices_Clone_int_int, ↓reduceIte, e, Nat.reduceAdd, Nat.reduceSub]
theorem equal_ok (a b : List Int) (hl : a.length ≤ 4294967296) (hl2 : b.length ≤ 4294967296) : CALL 0 N.slices_Equal_int_int [.t (tL a), .t (tL b)] [] = some (B (decide (a = b)), []) := by
  refine CALL_of K.t_slices_Equal_int_int rfl ?_
  by_cases hlen : a.length = b.length
  · have loop : ∀ z2 z3 : D, exS CALL K.slices_Equal_int_int_l1 ⟨[.t (tL a), .t (tL b), z2, z3, I a.length, I 0], []⟩ =
        some (match (List.range a.length).find? (fun j => decide (nth a j ≠ nth b j)) with
          | some j => (.ret, ⟨[.t (tL a), .t (tL b), B false, I j, I a.length, I j], []⟩)
          | none => (.exit 0, ⟨[.t (tL a), .t (tL b), .und, .und, I a.length, I a.length], []⟩)) := by
      intro z2 z3
      refine loop_first (fun j => ⟨[.t (tL a), .t (tL b), .und, .und, I a.length, I j], []⟩) a.length (fun j => decide (nth a j ≠ nth b j)) _ _ rfl ?_ ?_ ?_ (by simp)
      · intro j hj hp
        have hp : nth a j = nth b j := by simpa using hp
        simp (disch := omega) only [go_sem, K.slices_Equal_int_int_l1b, ↓reduceIte, Nat.reduceAdd, Nat.reduceSub]
      · intro j hj hp
        have hp : nth a j ≠ nth b j := by simpa using hp
        simp (disch := omega) only [go_sem, K.slices_Equal_int_int_l1b, ↓reduceIte, Nat.reduceAdd, Nat.reduceSub]
        simp
      · simp (disch := omega) only [go_sem, K.slices_Equal_int_int_l1b, ↓reduceIte, Nat.reduceAdd, Nat.reduceSub]
    have e : (a = b) ↔ (List.range a.length).find? (fun j => decide (nth a j ≠ nth b j)) = none := by
      rw [List.find?_eq_none]
      constructor
      · intro h j _; simp [h]
      · intro h
        apply List.ext_getElem?
        intro j
        by_cases hj : j < a.length
        · rw [nth_some hj, nth_some (by omega)]
          have := h j (List.mem_range.2 hj)
          simpa using this
        · rw [List.getElem?_eq_none (by omega), List.getElem?_eq_none (by omega)]
    cases hf : (List.range a.length).find? (fun j => decide (nth a j ≠ nth b j)) with
    | some j =>
      rw [hf] at e loop
      have e : ¬ a = b := fun h => by have := e.1 h; cases this
      simp (disch := omega) only [go_sem, K.slices_Equal_int_int, ↓reduceIte, loop, e, decide_false, Nat.reduceAdd, Nat.reduceSub]
    | none =>
      rw [hf] at e loop
      have e : a = b := e.2 rfl
      simp (disch := omega) only [go_sem, K.slices_Equal_int_int, ↓reduceIte, loop, decide_eq_true e, Nat.reduceAdd, Nat.reduceSub]
  · have hne : a ≠ b := fun h => hlen (by rw [h])
    simp (disch := omega) only [go_sem, K.slices_Equal_int_int, ↓reduceIte, hne, decide_false, Nat.reduceAdd, Nat.reduceSub]

/- walking times -/
theorem quick_ok : CALL 0 N.walk_quick [] [] = some (.t (.agg [tI 6, tI 9, tI 12]), []) := by
  refine CALL_of K.t_walk_quick rfl ?_
  simp (disch := omega) only [go_sem, K.walk_quick, ↓reduceIte, Nat.reduceAdd, Nat.reduceSub]
theorem with_ok {m : Mine} (h : m.ok) (k : Nat) (hk : k < m.roads.length) (back : Bool) (up down level : Int) (hu : 1 ≤ up) (hu2 : up ≤ 100) (hd : 1 ≤ down) (hd2 : down ≤ 100) (hl : 1 ≤ level) (hl2 : level ≤ 100) :
    CALL 0 N.walk_with [.t m.e, I k, B back, .t (.agg [tI up, tI down, tI level])] [] = some (I (walkT m k back up down level), []) := by
  refine CALL_of K.t_walk_with rfl ?_
  have nr := h.nr
  have np := h.np
  obtain ⟨f0, f1, t0, t1, -, l0, l1, -, -, -, -, -, -, -, -⟩ := h.rs _ (nth_mem hk)
  have b1 := h.hs _ (nth_mem (l := m.places) (j := (nth m.roads k).frm.toNat) (by omega))
  have b2 := h.hs _ (nth_mem (l := m.places) (j := (nth m.roads k).to.toNat) (by omega))
  have g : (m.roads.map Road.e)[k]? = some (nth m.roads k).e := map_nth _ hk
  have p1 : (m.places.map Place.e)[(nth m.roads k).frm.toNat]? = some (nth m.places (nth m.roads k).frm.toNat).e := map_nth _ (by omega)
  have p2 : (m.places.map Place.e)[(nth m.roads k).to.toNat]? = some (nth m.places (nth m.roads k).to.toNat).e := map_nth _ (by omega)
  have key : ∀ h1 h2 : Int, -10000 ≤ h1 → h1 ≤ 10000 → -10000 ≤ h2 → h2 ≤ 10000 → IntKind.i64.wrap (h1 - h2) = h1 - h2 ∧ IntKind.i64.wrap (-(h1 - h2)) = h2 - h1 := fun h1 h2 _ _ _ _ => ⟨wrap_id (by omega) (by omega), by rw [wrap_id (by omega) (by omega)]; omega⟩
  unfold walkT
  generalize nth m.roads k = x at *
  obtain ⟨frm, to, len, area, walk, closed, rl, rh, ll, lh⟩ := x
  simp only at f0 f1 t0 t1 l0 l1 b1 b2 p1 p2 ⊢
  cases closed with
  | true =>
    obtain ⟨places, roads⟩ := m
    simp (disch := omega) only [go_sem, K.walk_with, ↓reduceIte, g, Nat.reduceAdd, Nat.reduceSub]
  | false =>
    cases walk with
    | false =>
      obtain ⟨places, roads⟩ := m
      simp (disch := omega) only [go_sem, K.walk_with, ↓reduceIte, g, Nat.reduceAdd, Nat.reduceSub]
    | true =>
      have g1 := tdiv_bd (a := 10 * len + up - 1) (b := up) (by omega) hu
      have g2 := tdiv_bd (a := 10 * len + down - 1) (b := down) (by omega) hd
      have g3 := tdiv_bd (a := 10 * len + level - 1) (b := level) (by omega) hl
      cases back with
      | true =>
        simp only [↓reduceIte]
        generalize nth m.places frm.toNat = q1 at *
        generalize nth m.places to.toNat = q2 at *
        obtain ⟨h1, s1⟩ := q1
        obtain ⟨h2, s2⟩ := q2
        obtain ⟨places, roads⟩ := m
        simp only at *
        obtain ⟨w2, w3⟩ := key h2 h1 (by omega) (by omega) (by omega) (by omega)
        by_cases c2 : len < -10 * (h1 - h2)
        · simp (disch := omega) only [go_sem, K.walk_with, ↓reduceIte, g, p1, p2, w2, w3, gt_iff_lt, Int.zero_sub, Nat.reduceAdd, Nat.reduceSub]
        · by_cases c1 : len < 10 * (h1 - h2)
          · simp (disch := omega) only [go_sem, K.walk_with, ↓reduceIte, g, p1, p2, w2, w3, gt_iff_lt, Int.zero_sub, Nat.reduceAdd, Nat.reduceSub]
          · simp (disch := omega) only [go_sem, K.walk_with, ↓reduceIte, g, p1, p2, w2, w3, gt_iff_lt, Int.zero_sub, Nat.reduceAdd, Nat.reduceSub]
      | false =>
        simp only [Bool.false_eq_true, ↓reduceIte]
        generalize nth m.places frm.toNat = q1 at *
        generalize nth m.places to.toNat = q2 at *
        obtain ⟨h1, s1⟩ := q1
        obtain ⟨h2, s2⟩ := q2
        obtain ⟨places, roads⟩ := m
        simp only at *
        obtain ⟨w2, w3⟩ := key h2 h1 (by omega) (by omega) (by omega) (by omega)
        by_cases c2 : len < -10 * (h2 - h1)
        · simp (disch := omega) only [go_sem, K.walk_with, ↓reduceIte, g, p1, p2, w2, gt_iff_lt, Nat.reduceAdd, Nat.reduceSub]
        · by_cases c1 : len < 10 * (h2 - h1)
          · simp (disch := omega) only [go_sem, K.walk_with, ↓reduceIte, g, p1, p2, w2, gt_iff_lt, Nat.reduceAdd, Nat.reduceSub]
          · simp (disch := omega) only [go_sem, K.walk_with, ↓reduceIte, g, p1, p2, w2, gt_iff_lt, Nat.reduceAdd, Nat.reduceSub]
theorem wtime_ok {m : Mine} (h : m.ok) (k : Nat) (hk : k < m.roads.length) (back : Bool) : CALL 0 N.walk_Time [.t m.e, I k, B back] [] = some (I (walkT m k back 6 9 12), []) := by
  have q := quick_ok
  have w := with_ok h k hk back 6 9 12 (by omega) (by omega) (by omega) (by omega) (by omega) (by omega)
  have v := planValid_ok h
  have nr := h.nr
  have s : CALL 0 N.walk_step [.t m.e, I k, B back] [] = some (I (walkT m k back 6 9 12), []) := by
    refine CALL_of K.t_walk_step rfl ?_
    generalize walkT m k back 6 9 12 = r at *
    obtain ⟨places, roads⟩ := m
    simp (disch := omega) only [go_sem, K.walk_step, ↓reduceIte, q, w, Nat.reduceAdd, Nat.reduceSub]
  refine CALL_of K.t_walk_Time rfl ?_
  generalize walkT m k back 6 9 12 = r at *
  obtain ⟨places, roads⟩ := m
  simp only at *
  simp (disch := omega) only [go_sem, K.walk_Time, ↓reduceIte, v, s, Nat.reduceAdd, Nat.reduceSub]

/- places -/
theorem pall_ok (q : Int) : CALL 0 N.places_all [I q] [] = some (B true, []) := by
  refine CALL_of K.t_places_all rfl ?_
  simp (disch := omega) only [go_sem, K.places_all, ↓reduceIte, Nat.reduceAdd, Nat.reduceSub]
theorem pabs1_ok (q : Int) (l : List Int) (hl : l.length ≤ 4294967296) : CALL 0 N.places_Absent_1 [I q, .bp 0 0] [.box [.t (tL l)]] = some (B (decide (q ∈ l)), [.box [.t (tL l)]]) := by
  refine CALL_of K.t_places_Absent_1 rfl ?_
  have c := contains_ok l q hl
  simp (disch := omega) only [go_sem, K.places_Absent_1, ↓reduceIte, c, Nat.reduceAdd, Nat.reduceSub]
end Go.Ev

/- MADE BY PROGRAM (lib.py): the compact code of functions. -/
namespace Go.Ev.K
open Go.Ev
end Go.Ev.K
namespace Go.Ev
class Has5 [Lib] : Prop where
namespace K
variable [Lib] [Has5]
end K
end Go.Ev

/- MADE BY PROGRAM (lib.py): the numbers of functions. -/
namespace Go.Ev.N
def law33_KeysMade : Nat := 215
def law33_KeysSafe : Nat := 216
def law33_KeysBack : Nat := 217
def law33_awake : Nat := 218
def ref33_Start : Nat := 219
def law33_agree : Nat := 220
def law33_step : Nat := 221
def ref33_Copy : Nat := 222
def keys_Start : Nat := 223
def keys_Lock : Nat := 224
def keys_Insert : Nat := 225
def keys_Remove : Nat := 226
def keys_Unlock : Nat := 227
def keys_Draw : Nat := 228
def keys_Return : Nat := 229
def keys_Locked : Nat := 230
def ref33_Same : Nat := 231
def ref33_Locked : Nat := 232
def ref33_Lock : Nat := 233
def ref33_Insert : Nat := 234
def ref33_Remove : Nat := 235
def ref33_Unlock : Nat := 236
def ref33_Draw : Nat := 237
def ref33_Return : Nat := 238
def keys_move : Nat := 239
def keys_turn : Nat := 240
def slices_Sort_int_int : Nat := 241
def ref33_move : Nat := 242
def keys_copied : Nat := 243
def keys_copied_v1 : Nat := 244
end Go.Ev.N

/- MADE BY PROGRAM (lib.py): the compact code of functions. -/
namespace Go.Ev.K
open Go.Ev
end Go.Ev.K
namespace Go.Ev
class Has10 [Lib] : Prop where
namespace K
variable [Lib] [Has10]
end K
end Go.Ev

/- Keys of barriers: moves, by the program and by the reference. -/
namespace Go.Ev
open Go
variable [Lib] [Has1] [Has2] [Has3] [Has4] [Has5] [Has6] [Has7] [Has8] [Has9] [Has10]

def moveF (k : Keys) (i frm to : Int) (free : Bool) : Keys × Int :=
  if keysF k = false then (k, 6) else if i < 0 ∨ (k.keys.length : Int) ≤ i then (k, 47) else if nth k.keys i.toNat ≠ frm ∨ free = false then (k, 48) else (⟨k.roads, k.keys.set i.toNat to, k.out⟩, 0)
def turnF (k : Keys) (out : Bool) : Keys × Int :=
  if keysF k = false then (k, 6) else if k.out = out ∨ (out = true ∧ boxedF k.keys = false) then (k, 48) else (⟨k.roads, k.keys, out⟩, 0)

end Go.Ev

/- Sorting integers. -/
namespace Go.Ev
open Go
theorem intOfD_some {d : D} {n : Int} (h : intOfD d = some n) : d = .t (.int .i64 n) := by
  unfold intOfD at h
  split at h
  · cases h; rfl
  · cases h
theorem intsOfD : ∀ {es : List D} {l : List Int}, mapO intOfD es = some l → es = l.map fun x => .t (.int .i64 x)
  | [], l, h => by simp [mapO] at h; subst h; rfl
  | e :: r, l, h => by
    simp only [mapO, Option.bind_eq_some_iff, Option.map_eq_some_iff] at h
    obtain ⟨x, hx, y, hy, rfl⟩ := h
    rw [intOfD_some hx, intsOfD hy]; rfl
theorem insI_perm (x : Int) : ∀ l, (insI x l).Perm (x :: l)
  | [] => .refl _
  | y :: r => by
    unfold insI
    split
    · exact .refl _
    · exact ((insI_perm x r).cons y).trans (.swap x y r)
theorem sortI_perm : ∀ l, (sortI l).Perm l
  | [] => .refl _
  | x :: r => (insI_perm x _).trans ((sortI_perm r).cons x)
theorem insI_up {x : Int} : ∀ {l : List Int}, l.Pairwise (· ≤ ·) → (insI x l).Pairwise (· ≤ ·)
  | [], _ => by simp [insI]
  | y :: r, h => by
    unfold insI
    split
    · rename_i hx
      refine List.pairwise_cons.2 ⟨fun z hz => ?_, h⟩
      rcases List.mem_cons.1 hz with rfl | hz
      · exact hx
      · have := (List.pairwise_cons.1 h).1 z hz; omega
    · rename_i hx
      have h' := List.pairwise_cons.1 h
      refine List.pairwise_cons.2 ⟨fun z hz => ?_, insI_up h'.2⟩
      have hz := (insI_perm x r).mem_iff.1 hz
      rcases List.mem_cons.1 hz with rfl | hz
      · omega
      · exact h'.1 z hz
theorem sortI_up : ∀ l, (sortI l).Pairwise (· ≤ ·)
  | [] => .nil
  | x :: r => insI_up (sortI_up r)
theorem sortI_len (l : List Int) : (sortI l).length = l.length := (sortI_perm l).length_eq
theorem sortI_is (l : List Int) : (l.mergeSort fun x y => decide (x ≤ y)) = sortI l := by
  refine List.Perm.eq_of_pairwise (le := (· ≤ ·)) (fun a b _ _ h1 h2 => by omega) ?_ (sortI_up l) ((List.mergeSort_perm _ _).trans (sortI_perm l).symm)
  have := List.pairwise_mergeSort (le := fun x y : Int => decide (x ≤ y)) (fun a b c => by simp; omega) (fun a b => by simp; omega) l
  exact this.imp (by simp)

end Go.Ev

/- Keys of barriers: steps; what is locked. -/
namespace Go.Ev
open Go
variable [Lib] [Has1] [Has2] [Has3] [Has4] [Has5] [Has6] [Has7] [Has8] [Has9] [Has10]

section
variable (k : Keys) (hl : k.keys.length ≤ 1000000) (hr : k.roads.length ≤ 1000000)
include hl hr
end
/-- A step: which is taken by its number. -/
def stepK (k : Keys) (what i : Int) : Keys × Int :=
  if what = 0 then moveF k i 0 1 (!k.out) else if what = 1 then moveF k i 1 2 (!k.out) else if what = 2 then moveF k i 2 1 (!k.out) else if what = 3 then moveF k i 1 0 (!k.out) else if what = 4 then turnF k true else turnF k false
end Go.Ev

/- Keys of barriers: what is locked. -/
namespace Go.Ev
open Go
variable [Lib] [Has1] [Has2] [Has3] [Has4] [Has5] [Has6] [Has7] [Has8] [Has9] [Has10]

/-- The locked barriers' roads, in the order of the barriers. -/
def lkN (r k : List Int) : Nat → List Int
  | 0 => []
  | j + 1 => if j < k.length ∧ nth k j ≠ 0 then lkN r k j ++ [nth r j] else lkN r k j
end Go.Ev

/- Keys of barriers: what is locked, by the reference. -/
namespace Go.Ev
open Go
variable [Lib] [Has1] [Has2] [Has3] [Has4] [Has5] [Has6] [Has7] [Has8] [Has9] [Has10]

/-- How many of a list's first n are not greater, from the back. -/
def cutN (x : List Int) (r : Int) : Nat → Nat
  | 0 => 0
  | n + 1 => if nth x n > r then cutN x r n else n + 1
def putS (x : List Int) (r : Int) : List Int := x.take (cutN x r x.length) ++ [r] ++ x.drop (cutN x r x.length)
/-- What is locked, one barrier after the other. -/
def lkS (r k : List Int) : Nat → List Int
  | 0 => []
  | j + 1 => if j < k.length ∧ nth k j ≠ 0 then putS (lkS r k j) (nth r j) else lkS r k j
end Go.Ev

/- Keys of barriers: what is locked, by the reference: the whole. -/
namespace Go.Ev
open Go
variable [Lib] [Has1] [Has2] [Has3] [Has4] [Has5] [Has6] [Has7] [Has8] [Has9] [Has10]

theorem up_eq {a b : List Int} (ha : a.Pairwise (· ≤ ·)) (hb : b.Pairwise (· ≤ ·)) (p : a.Perm b) : a = b :=
  List.Perm.eq_of_pairwise (le := (· ≤ ·)) (fun a b _ _ h1 h2 => by omega) ha hb p
section
variable (b u v y : Obj) (ds : Heap)
end
abbrev rlA (roads keys : List Int) (out : Bool) (j : Int) : St := ⟨[.und, .bp 0 0, .und, .nil, I j, .und], [.box [.t (tL roads), .t (tL keys), B out]]⟩
abbrev rlB (roads keys : List Int) (out : Bool) (ds : Heap) (x : List Int) (j : Int) : St := ⟨[.und, .bp 0 0, .und, .ref (ds.length + 1) 0 x.length, I j, .und], .box [.t (tL roads), .t (tL keys), B out] :: (ds ++ [arr1 x])⟩
end Go.Ev

/- MADE BY PROGRAM (lib.py): the numbers of functions. -/
namespace Go.Ev.N
def law40_FireRulesRaw : Nat := 245
def law40_FireRulesMade : Nat := 246
def law40_FireRulesMore : Nat := 247
def law40_agree : Nat := 248
def ref40_Command : Nat := 249
def ref40_Drawn : Nat := 250
def firerules_Commands : Nat := 251
def ref40_Commands : Nat := 252
def firerules_Valid : Nat := 253
def ref40_Valid : Nat := 254
def ref40_filled : Nat := 255
def ref40_near : Nat := 256
def swaps_Valid : Nat := 257
def firerules_Valid_1 : Nat := 258
def slices_ContainsFunc_api_Machine_api_Machine : Nat := 259
def slices_Sorted_int : Nat := 260
def slices_Values_int_int : Nat := 261
def swaps_tagged : Nat := 262
def slices_Compare_int_int : Nat := 263
def slices_ContainsFunc_api_Whereabouts_api_Whereabouts : Nat := 264
def swaps_Valid_1 : Nat := 265
def slices_IndexFunc_api_Machine_api_Machine : Nat := 266
def slices_Values_int_int_1 : Nat := 267
def cmp_Compare_int : Nat := 268
def slices_IndexFunc_api_Whereabouts_api_Whereabouts : Nat := 269
def cmp_isNaN_int : Nat := 270
end Go.Ev.N

/- MADE BY PROGRAM (lib.py): the compact code of functions. -/
namespace Go.Ev.K
open Go.Ev
def law40_FireRulesRaw_l1b : C := (.seq (.ite [{ o := .mv (.v 5) }, { o := .mv (.v 1) }, { o := .ln (.l 0) }, { o := .bin .lss (.l 2) (.l 0) }] [] 0 .skip (.exit 0)) (.seq (.blk 1 (.ite [{ o := .mv (.v 1) }, { o := .mv (.v 5) }, { o := .ia (.l 1) (.l 0) 3 }, { o := .fa (.l 0) 2 }, { o := .ld (.l 0) 1 false }, { o := .ln (.l 0) }, { o := .bin .gtr (.l 0) (.i 70) }] [] 0 (.seq (.reg [{ o := .ca N.law40_awake 0 [] [] }, { o := .mv (.l 0), d := some 4 }] []) .ret) .skip)) (.reg [{ o := .mv (.v 5) }, { o := .bin .add (.l 0) (.i 1) }, { o := .mv (.l 0), d := some 5 }] [])))
def law40_FireRulesRaw_l1 : C := .loop true [2, 4, 6, 7, 8, 9, 10] K.law40_FireRulesRaw_l1b
/-- /law40.FireRulesRaw -/
def law40_FireRulesRaw : Fn := { nargs := 3, vars := [0, 1, 2, 5, 6, 7, 8, 9, 10, 11, 12], body := (.seq (.reg [{ o := .bx (.v 2) 2, d := some 3 }, { o := .mv (.b false), d := some 4 }] []) (.seq (.ite [{ o := .mv (.v 0) }, { o := .ca N.made_Light 0 [] [.l 0] }, { o := .un .not (.l 0) }, { o := .mv (.l 0) }, { o := .mv (.v 1), g := some (0, false) }, { o := .ln (.l 0), g := some (1, false) }, { o := .bin .gtr (.l 0) (.i 60), g := some (2, false) }, { o := .pk (.l 3) (.b true) (.l 0) }, { o := .mv (.l 0) }, { o := .fa (.v 3) 1, g := some (0, false) }, { o := .ld (.l 0) 1 false, g := some (1, false) }, { o := .ln (.l 0), g := some (2, false) }, { o := .bin .gtr (.l 0) (.i 100), g := some (3, false) }, { o := .pk (.l 4) (.b true) (.l 0) }] [] 0 (.seq (.reg [{ o := .ca N.law40_awake 0 [] [] }, { o := .mv (.l 0), d := some 4 }] []) .ret) .skip) (.seq (.seq (.reg [{ o := .mv (.i 0), d := some 5 }] []) (.blk 0 K.law40_FireRulesRaw_l1)) (.seq (.reg [{ o := .mv (.v 0) }, { o := .ca N.made_Roll 0 [] [.l 0] }, { o := .mv (.l 0), d := some 6 }] []) (.seq (.reg [{ o := .mv (.v 6) }, { o := .ca N.made_Dice_Mine 0 [] [.l 0] }, { o := .al [.nil, .nil] [], d := some 7 }, { o := .st (.l 0) (.l 1) 2 [] }] []) (.seq (.reg [{ o := .al [.t (.int .i64 (0)), .nil] [], d := some 8 }, { o := .mv (.v 6) }, { o := .ld (.v 7) 2 true }, { o := .mv (.v 6) }, { o := .ld (.v 7) 2 true }, { o := .ca N.made_Dice_Flows 0 [] [.l 1, .l 0] }, { o := .ca N.made_Dice_Spread 0 [] [.l 4, .l 3, .l 0] }, { o := .st (.l 6) (.l 0) 2 [] }] [(0, 6), (0, 7), (2, 6)]) (.seq (.reg [{ o := .mv (.v 6) }, { o := .ld (.v 7) 2 true }, { o := .ca N.made_Dice_Belief 0 [] [.l 1, .l 0] }, { o := .al [.nil] [], d := some 9 }, { o := .st (.l 0) (.l 1) 1 [] }] []) (.seq (.reg [{ o := .mv (.v 6) }, { o := .bs [.i 100, .i 0, .i (-1), .i 2147483648, .i 2147483649] 1 }, { o := .ca N.made_Dice_Of 0 [] [.l 1, .l 0] }, { o := .mv (.v 6) }, { o := .bs [.i 60, .i 0, .i (-1), .i 2147483648, .i 2147483649] 1 }, { o := .ca N.made_Dice_Of 0 [] [.l 1, .l 0] }, { o := .bd [.t (.int .i64 (0)), .t (.int .i64 (0))] [(0, 1, .l 3), (1, 1, .l 0)] }, { o := .al [.t (.int .i64 (0)), .t (.int .i64 (0))] [], d := some 10 }, { o := .st (.l 0) (.l 1) 2 [] }] []) (.seq (.reg [{ o := .ca N.law40_awake 0 [] [] }, { o := .mv (.l 0) }, { o := .ld (.v 7) 2 true, g := some (0, true) }, { o := .mv (.v 1), g := some (1, true) }, { o := .ld (.v 8) 2 true, g := some (2, true) }, { o := .ld (.v 9) 1 true, g := some (3, true) }, { o := .iaa (.v 10) (.i 0) 2 1, g := some (4, true) }, { o := .ld (.l 0) 1 false, g := some (5, true) }, { o := .iaa (.v 10) (.i 1) 2 1, g := some (6, true) }, { o := .ld (.l 0) 1 false, g := some (7, true) }, { o := .ca N.law40_agree 0 [] [.l 7, .l 6, .l 5, .l 4, .l 2, .l 0], g := some (8, true) }, { o := .pk (.l 9) (.l 0) (.b false) }, { o := .mv (.l 0) }, { o := .ld (.v 7) 2 true, g := some (0, true) }, { o := .mv (.v 6), g := some (1, true) }, { o := .ld (.v 7) 2 true, g := some (2, true) }, { o := .ca N.law40_some 0 [] [.l 1, .l 0], g := some (3, true) }, { o := .ld (.v 3) 2 true, g := some (4, true) }, { o := .ld (.v 9) 1 true, g := some (5, true) }, { o := .iaa (.v 10) (.i 0) 2 1, g := some (6, true) }, { o := .ld (.l 0) 1 false, g := some (7, true) }, { o := .iaa (.v 10) (.i 1) 2 1, g := some (8, true) }, { o := .ld (.l 0) 1 false, g := some (9, true) }, { o := .ca N.law40_agree 0 [] [.l 9, .l 6, .l 5, .l 4, .l 2, .l 0], g := some (10, true) }, { o := .pk (.l 11) (.l 0) (.b false) }, { o := .mv (.l 0) }, { o := .ld (.v 7) 2 true, g := some (0, true) }, { o := .mv (.v 1), g := some (1, true) }, { o := .ld (.v 8) 2 true, g := some (2, true) }, { o := .bd [.nil] [], g := some (3, true) }, { o := .ca N.law40_agree 0 [] [.l 3, .l 2, .l 1, .l 0, .i 5, .i 5], g := some (4, true) }, { o := .pk (.l 5) (.l 0) (.b false) }, { o := .mv (.l 0), d := some 4 }] [(13, 17), (17, 11), (18, 11), (20, 11), (22, 11)]) .ret))))))))), res := [(4, none)] }
/-- /law40.agree -/
def law40_agree : Fn := { nargs := 6, vars := [0, 1, 2, 3, 4, 5, 6, 8, 9, 12, 13, 14, 15, 16], body := (.seq (.reg [{ o := .bx (.v 0) 2, d := some 6 }, { o := .bx (.v 2) 2, d := some 7 }, { o := .bx (.v 3) 1, d := some 8 }, { o := .mv (.b false), d := some 9 }] []) (.seq (.reg [{ o := .ld (.v 6) 2 true }, { o := .mv (.v 1) }, { o := .ld (.v 7) 2 true }, { o := .ld (.v 8) 1 true }, { o := .mv (.v 4) }, { o := .mv (.v 5) }, { o := .ca N.firerules_Commands 0 [] [.l 5, .l 4, .l 3, .l 2, .l 1, .l 0] }, { o := .mv (.l 0) }, { o := .ex (.l 0) 0 }, { o := .ex (.l 1) 1 }, { o := .mv (.l 1), d := some 10 }, { o := .mv (.l 1), d := some 11 }] []) (.seq (.reg [{ o := .ld (.v 6) 2 true }, { o := .mv (.v 1) }, { o := .ld (.v 7) 2 true }, { o := .ld (.v 8) 1 true }, { o := .mv (.v 4) }, { o := .mv (.v 5) }, { o := .ca N.ref40_Commands 0 [] [.l 5, .l 4, .l 3, .l 2, .l 1, .l 0] }, { o := .mv (.l 0) }, { o := .ex (.l 0) 0 }, { o := .ex (.l 1) 1 }, { o := .mv (.l 1), d := some 12 }, { o := .mv (.l 1), d := some 13 }] []) (.seq (.reg [{ o := .mv (.v 11) }, { o := .mv (.v 13) }, { o := .bin .eql (.l 1) (.l 0) }, { o := .mv (.l 0) }, { o := .mv (.v 10), g := some (0, true) }, { o := .mv (.v 12), g := some (1, true) }, { o := .ca N.ref23_SameInts 0 [] [.l 1, .l 0], g := some (2, true) }, { o := .pk (.l 3) (.l 0) (.b false) }, { o := .mv (.l 0) }, { o := .ld (.v 6) 2 true, g := some (0, true) }, { o := .mv (.v 1), g := some (1, true) }, { o := .ca N.firerules_Valid 0 [] [.l 1, .l 0], g := some (2, true) }, { o := .ld (.v 6) 2 true, g := some (3, true) }, { o := .mv (.v 1), g := some (4, true) }, { o := .ca N.ref40_Valid 0 [] [.l 1, .l 0], g := some (5, true) }, { o := .eqk (.bool) false (.l 3) (.l 0), g := some (6, true) }, { o := .pk (.l 7) (.l 0) (.b false) }, { o := .mv (.l 0), d := some 9 }] [(12, 7)]) .ret)))), res := [(9, none)] }
/-- /ref40.Command -/
def ref40_Command : Fn := { nargs := 6, vars := [0, 1, 2, 3, 4, 5, 7, 8, 9, 12], body := (.seq (.reg [{ o := .bx (.v 0) 2 }, { o := .bx (.v 1) 3, d := some 6 }, { o := .bx (.v 2) 2, d := some 7 }, { o := .bx (.v 3) 1, d := some 8 }, { o := .mv (.i 0), d := some 9 }] []) (.seq (.blk 0 (.ite [{ o := .ld (.v 7) 2 true }, { o := .fa (.v 6) 2 }, { o := .ld (.l 0) 1 false }, { o := .mv (.v 4) }, { o := .ca N.ref40_filled 0 [] [.l 3, .l 1, .l 0] }, { o := .mv (.l 0) }] [] 0 (.seq (.reg [{ o := .mv (.i 2), d := some 9 }] []) .ret) (.ite [{ o := .ld (.v 7) 2 true }, { o := .fa (.v 6) 2 }, { o := .ld (.l 0) 1 false }, { o := .mv (.v 4) }, { o := .mv (.v 5) }, { o := .bin .add (.l 1) (.l 0) }, { o := .ca N.ref40_filled 0 [] [.l 5, .l 3, .l 0] }, { o := .mv (.l 0) }] [] 0 (.seq (.reg [{ o := .mv (.i 1), d := some 9 }] []) .ret) (.ite [{ o := .fa (.v 6) 0 }, { o := .ld (.l 0) 1 false }, { o := .bin .eql (.l 0) (.i 2) }, { o := .mv (.l 0) }, { o := .ld (.v 8) 1 true, g := some (0, true) }, { o := .fa (.v 6) 2, g := some (1, true) }, { o := .ld (.l 0) 1 false, g := some (2, true) }, { o := .mv (.v 4), g := some (3, true) }, { o := .mv (.v 5), g := some (4, true) }, { o := .bin .add (.l 1) (.l 0), g := some (5, true) }, { o := .ca N.ref40_near 0 [] [.l 5, .l 3, .l 0], g := some (6, true) }, { o := .ln (.l 0), g := some (7, true) }, { o := .bin .gtr (.l 0) (.i 0), g := some (8, true) }, { o := .pk (.l 9) (.l 0) (.b false) }, { o := .mv (.l 0) }, { o := .ld (.v 7) 2 true, g := some (0, true) }, { o := .mv (.v 4), g := some (1, true) }, { o := .mv (.v 5), g := some (2, true) }, { o := .bin .add (.l 1) (.l 0), g := some (3, true) }, { o := .ca N.ref28_Filled 0 [] [.l 3, .l 0], g := some (4, true) }, { o := .ln (.l 0), g := some (5, true) }, { o := .bin .gtr (.l 0) (.i 0), g := some (6, true) }, { o := .pk (.l 7) (.l 0) (.b false) }, { o := .mv (.l 0) }] [] 0 (.seq (.reg [{ o := .mv (.i 3), d := some 9 }] []) .ret) .skip)))) (.seq (.reg [{ o := .mv (.i 0), d := some 9 }] []) .ret))), res := [(9, none)] }
def firerules_Commands_l1b : C := (.its  [{ o := .bin .lss (.v 15) (.v 14) }] [] 0 .skip (.exit 1) (.seq (.blk 2 (.seq (.reg [{ o := .ia (.v 13) (.v 15) 3 }, { o := .ld (.l 0) 3 true }, { o := .al [.t (.int .i64 (0)), .t (.int .i64 (0)), .nil] [], d := some 12 }, { o := .st (.l 0) (.l 1) 3 [] }] []) (.reg [{ o := .mv (.v 11) }, { o := .ld (.v 6) 2 true }, { o := .ld (.v 12) 3 true }, { o := .ld (.v 7) 2 true }, { o := .ld (.v 8) 1 true }, { o := .mv (.v 4) }, { o := .mv (.v 5) }, { o := .ca N.firerules_Command 0 [] [.l 5, .l 4, .l 3, .l 2, .l 1, .l 0] }, { o := .bs [.l 0] 1 }, { o := .app (.l 8) (.l 0) true 1 }, { o := .mv (.l 0), d := some 11 }] []))) (.reg [{ o := .bin .add (.v 15) (.i 1) }, { o := .mv (.l 0), d := some 15 }] [])))
def firerules_Commands_l1 : C := .loop true [0, 1, 2, 3, 9, 10, 12] K.firerules_Commands_l1b
/-- /firerules.Commands -/
def firerules_Commands : Fn := { nargs := 6, vars := [0, 1, 2, 3, 4, 5, 6, 8, 9, 12, 13, 14, 16, 43, 44, 45], body := (.seq (.reg [{ o := .bx (.v 0) 2, d := some 6 }, { o := .bx (.v 2) 2, d := some 7 }, { o := .bx (.v 3) 1, d := some 8 }, { o := .mv (.c (.nil)), d := some 9 }, { o := .mv (.i 0), d := some 10 }] []) (.seq (.blk 0 (.ite [{ o := .ld (.v 6) 2 true }, { o := .mv (.v 1) }, { o := .ca N.firerules_Valid 0 [] [.l 1, .l 0] }, { o := .un .not (.l 0) }, { o := .mv (.l 0) }, { o := .ld (.v 6) 2 true, g := some (0, false) }, { o := .ld (.v 7) 2 true, g := some (1, false) }, { o := .ca N.smoke_Valid 0 [] [.l 1, .l 0], g := some (2, false) }, { o := .un .not (.l 0), g := some (3, false) }, { o := .pk (.l 4) (.b true) (.l 0) }, { o := .mv (.l 0) }, { o := .ld (.v 6) 2 true, g := some (0, false) }, { o := .ld (.v 8) 1 true, g := some (1, false) }, { o := .ca N.swaps_Valid 0 [] [.l 1, .l 0], g := some (2, false) }, { o := .un .not (.l 0), g := some (3, false) }, { o := .pk (.l 4) (.b true) (.l 0) }, { o := .mv (.l 0) }] [] 0 (.seq (.reg [{ o := .mv (.c (.nil)), d := some 9 }, { o := .mv (.i 6), d := some 10 }] []) .ret) (.ite [{ o := .mv (.v 4) }, { o := .ca N.lists_In 0 [] [.l 0, .i 0, .i 2147483648] }, { o := .un .not (.l 0) }, { o := .mv (.l 0) }, { o := .mv (.v 5), g := some (0, false) }, { o := .ca N.lists_In 0 [] [.l 0, .i 0, .i 2147483648], g := some (1, false) }, { o := .un .not (.l 0), g := some (2, false) }, { o := .pk (.l 3) (.b true) (.l 0) }, { o := .mv (.l 0) }] [] 0 (.seq (.reg [{ o := .mv (.c (.nil)), d := some 9 }, { o := .mv (.i 8), d := some 10 }] []) .ret) .skip))) (.seq (.reg [{ o := .nw 1, d := some 11 }] []) (.seq (.seq (.reg [{ o := .mv (.v 1), d := some 13 }, { o := .ln (.l 0), d := some 14 }, { o := .mv (.i 0), d := some 15 }] []) (.blk 1 K.firerules_Commands_l1)) (.seq (.reg [{ o := .mv (.v 11) }, { o := .mv (.l 0), d := some 9 }, { o := .mv (.i 0), d := some 10 }] []) .ret))))), res := [(9, none), (10, none)] }
def ref40_Commands_l1b : C := (.seq (.ite [{ o := .mv (.v 12) }, { o := .mv (.v 1) }, { o := .ln (.l 0) }, { o := .bin .lss (.l 2) (.l 0) }] [] 0 .skip (.exit 0)) (.seq (.blk 1 (.reg [{ o := .mv (.v 11) }, { o := .ld (.v 6) 2 true }, { o := .mv (.v 1) }, { o := .mv (.v 12) }, { o := .ia (.l 1) (.l 0) 3 }, { o := .ld (.l 0) 3 true }, { o := .ld (.v 7) 2 true }, { o := .ld (.v 8) 1 true }, { o := .mv (.v 4) }, { o := .mv (.v 5) }, { o := .ca N.ref40_Command 0 [] [.l 8, .l 4, .l 3, .l 2, .l 1, .l 0] }, { o := .bs [.l 0] 1 }, { o := .app (.l 11) (.l 0) true 1 }, { o := .mv (.l 0), d := some 11 }] [])) (.reg [{ o := .mv (.v 12) }, { o := .bin .add (.l 0) (.i 1) }, { o := .mv (.l 0), d := some 12 }] [])))
def ref40_Commands_l1 : C := .loop true [0, 2, 3, 9, 10] K.ref40_Commands_l1b
/-- /ref40.Commands -/
def ref40_Commands : Fn := { nargs := 6, vars := [0, 1, 2, 3, 4, 5, 6, 8, 9, 12, 13, 14, 15], body := (.seq (.reg [{ o := .bx (.v 0) 2, d := some 6 }, { o := .bx (.v 2) 2, d := some 7 }, { o := .bx (.v 3) 1, d := some 8 }, { o := .mv (.c (.nil)), d := some 9 }, { o := .mv (.i 0), d := some 10 }] []) (.seq (.ite [{ o := .ld (.v 6) 2 true }, { o := .mv (.v 1) }, { o := .ca N.ref40_Valid 0 [] [.l 1, .l 0] }, { o := .un .not (.l 0) }, { o := .mv (.l 0) }, { o := .ld (.v 6) 2 true, g := some (0, false) }, { o := .ld (.v 7) 2 true, g := some (1, false) }, { o := .ca N.ref28_Valid 0 [] [.l 1, .l 0], g := some (2, false) }, { o := .un .not (.l 0), g := some (3, false) }, { o := .pk (.l 4) (.b true) (.l 0) }, { o := .mv (.l 0) }, { o := .ld (.v 6) 2 true, g := some (0, false) }, { o := .ld (.v 8) 1 true, g := some (1, false) }, { o := .ca N.ref26_Valid 0 [] [.l 1, .l 0], g := some (2, false) }, { o := .un .not (.l 0), g := some (3, false) }, { o := .pk (.l 4) (.b true) (.l 0) }] [] 0 (.seq (.reg [{ o := .mv (.c (.nil)), d := some 9 }, { o := .mv (.i 6), d := some 10 }] []) .ret) .skip) (.seq (.ite [{ o := .mv (.v 4) }, { o := .bin .lss (.l 0) (.i 0) }, { o := .mv (.l 0) }, { o := .mv (.v 4), g := some (0, false) }, { o := .bin .gtr (.l 0) (.i 2147483648), g := some (1, false) }, { o := .pk (.l 2) (.b true) (.l 0) }, { o := .mv (.l 0) }, { o := .mv (.v 5), g := some (0, false) }, { o := .bin .lss (.l 0) (.i 0), g := some (1, false) }, { o := .pk (.l 2) (.b true) (.l 0) }, { o := .mv (.l 0) }, { o := .mv (.v 5), g := some (0, false) }, { o := .bin .gtr (.l 0) (.i 2147483648), g := some (1, false) }, { o := .pk (.l 2) (.b true) (.l 0) }] [] 0 (.seq (.reg [{ o := .mv (.c (.nil)), d := some 9 }, { o := .mv (.i 8), d := some 10 }] []) .ret) .skip) (.seq (.reg [{ o := .nw 1, d := some 11 }] []) (.seq (.seq (.reg [{ o := .mv (.i 0), d := some 12 }] []) (.blk 0 K.ref40_Commands_l1)) (.seq (.reg [{ o := .mv (.v 11) }, { o := .mv (.l 0), d := some 9 }, { o := .mv (.i 0), d := some 10 }] []) .ret)))))), res := [(9, none), (10, none)] }
/-- /firerules.Valid -/
def firerules_Valid : Fn := { nargs := 2, vars := [0, 1, 2, 4, 5], body := (.seq (.reg [{ o := .bx (.v 0) 2, d := some 2 }, { o := .mv (.b false), d := some 3 }] []) (.seq (.reg [{ o := .mf N.firerules_Valid_1 [.v 2] }, { o := .mv (.l 0), d := some 4 }] []) (.seq (.reg [{ o := .ld (.v 2) 2 true }, { o := .ca N.plan_Valid 0 [] [.l 0] }, { o := .mv (.l 0) }, { o := .mv (.v 1), g := some (0, true) }, { o := .ln (.l 0), g := some (1, true) }, { o := .bin .leq (.l 0) (.i 48), g := some (2, true) }, { o := .pk (.l 3) (.l 0) (.b false) }, { o := .mv (.l 0) }, { o := .mv (.v 1), g := some (0, true) }, { o := .mv (.v 4), g := some (1, true) }, { o := .ca N.slices_ContainsFunc_api_Machine_api_Machine 0 [] [.l 1, .l 0], g := some (2, true) }, { o := .un .not (.l 0), g := some (3, true) }, { o := .pk (.l 4) (.l 0) (.b false) }, { o := .mv (.l 0), d := some 3 }] []) .ret))), res := [(3, none)] }
def ref40_Valid_l1b : C := (.seq (.ite [{ o := .mv (.v 4) }, { o := .mv (.v 1) }, { o := .ln (.l 0) }, { o := .bin .lss (.l 2) (.l 0) }] [] 0 .skip (.exit 0)) (.seq (.blk 1 (.ite [{ o := .mv (.v 1) }, { o := .mv (.v 4) }, { o := .ia (.l 1) (.l 0) 3 }, { o := .fa (.l 0) 0 }, { o := .ld (.l 0) 1 false }, { o := .bin .neq (.l 0) (.i 1) }, { o := .mv (.l 0) }, { o := .mv (.v 1), g := some (0, true) }, { o := .mv (.v 4), g := some (1, true) }, { o := .ia (.l 1) (.l 0) 3, g := some (2, true) }, { o := .fa (.l 0) 0, g := some (3, true) }, { o := .ld (.l 0) 1 false, g := some (4, true) }, { o := .bin .neq (.l 0) (.i 2), g := some (5, true) }, { o := .pk (.l 6) (.l 0) (.b false) }, { o := .mv (.l 0) }, { o := .mv (.v 1), g := some (0, false) }, { o := .mv (.v 4), g := some (1, false) }, { o := .ia (.l 1) (.l 0) 3, g := some (2, false) }, { o := .fa (.l 0) 1, g := some (3, false) }, { o := .ld (.l 0) 1 false, g := some (4, false) }, { o := .bin .lss (.l 0) (.i 0), g := some (5, false) }, { o := .pk (.l 6) (.b true) (.l 0) }, { o := .mv (.l 0) }, { o := .mv (.v 1), g := some (0, false) }, { o := .mv (.v 4), g := some (1, false) }, { o := .ia (.l 1) (.l 0) 3, g := some (2, false) }, { o := .fa (.l 0) 1, g := some (3, false) }, { o := .ld (.l 0) 1 false, g := some (4, false) }, { o := .bin .geq (.l 0) (.i 24), g := some (5, false) }, { o := .pk (.l 6) (.b true) (.l 0) }, { o := .mv (.l 0) }, { o := .mv (.v 1), g := some (0, false) }, { o := .mv (.v 4), g := some (1, false) }, { o := .ia (.l 1) (.l 0) 3, g := some (2, false) }, { o := .fa (.l 0) 2, g := some (3, false) }, { o := .ld (.l 0) 1 false, g := some (4, false) }, { o := .ln (.l 0), g := some (5, false) }, { o := .bin .eql (.l 0) (.i 0), g := some (6, false) }, { o := .pk (.l 7) (.b true) (.l 0) }, { o := .mv (.l 0) }, { o := .mv (.v 1), g := some (0, false) }, { o := .mv (.v 4), g := some (1, false) }, { o := .ia (.l 1) (.l 0) 3, g := some (2, false) }, { o := .fa (.l 0) 2, g := some (3, false) }, { o := .ld (.l 0) 1 false, g := some (4, false) }, { o := .fa (.v 2) 0, g := some (5, false) }, { o := .ld (.l 0) 1 false, g := some (6, false) }, { o := .ln (.l 0), g := some (7, false) }, { o := .ca N.ref23_Set 0 [] [.l 3, .l 0], g := some (8, false) }, { o := .un .not (.l 0), g := some (9, false) }, { o := .pk (.l 10) (.b true) (.l 0) }] [] 0 (.seq (.reg [{ o := .mv (.b false), d := some 3 }] []) .ret) .skip)) (.reg [{ o := .mv (.v 4) }, { o := .bin .add (.l 0) (.i 1) }, { o := .mv (.l 0), d := some 4 }] [])))
def ref40_Valid_l1 : C := .loop true [0, 3] K.ref40_Valid_l1b
/-- /ref40.Valid -/
def ref40_Valid : Fn := { nargs := 2, vars := [0, 1, 2, 4, 5], body := (.seq (.reg [{ o := .bx (.v 0) 2, d := some 2 }, { o := .mv (.b false), d := some 3 }] []) (.seq (.seq (.reg [{ o := .mv (.i 0), d := some 4 }] []) (.blk 0 K.ref40_Valid_l1)) (.seq (.reg [{ o := .ld (.v 2) 2 true }, { o := .ca N.ref01_Check 0 [] [.l 0] }, { o := .bin .eql (.l 0) (.i 0) }, { o := .mv (.l 0) }, { o := .mv (.v 1), g := some (0, true) }, { o := .ln (.l 0), g := some (1, true) }, { o := .bin .leq (.l 0) (.i 48), g := some (2, true) }, { o := .pk (.l 3) (.l 0) (.b false) }, { o := .mv (.l 0), d := some 3 }] []) .ret))), res := [(3, none)] }
def ref40_filled_l1b : C := (.seq (.ite [{ o := .mv (.v 6) }, { o := .mv (.v 1) }, { o := .ln (.l 0) }, { o := .bin .lss (.l 2) (.l 0) }] [] 0 .skip (.exit 0)) (.seq (.blk 1 (.ite [{ o := .mv (.v 5) }, { o := .mv (.v 1) }, { o := .mv (.v 6) }, { o := .ia (.l 1) (.l 0) 1 }, { o := .ld (.l 0) 1 false }, { o := .ca N.ref23_Has 0 [] [.l 4, .l 0] }] [] 0 (.seq (.reg [{ o := .mv (.b true), d := some 4 }] []) .ret) .skip)) (.reg [{ o := .mv (.v 6) }, { o := .bin .add (.l 0) (.i 1) }, { o := .mv (.l 0), d := some 6 }] [])))
def ref40_filled_l1 : C := .loop true [0, 2, 3, 4] K.ref40_filled_l1b
/-- /ref40.filled -/
def ref40_filled : Fn := { nargs := 3, vars := [0, 1, 2, 3, 6, 7, 8], body := (.seq (.reg [{ o := .bx (.v 0) 2, d := some 3 }, { o := .mv (.b false), d := some 4 }] []) (.seq (.reg [{ o := .ld (.v 3) 2 true }, { o := .mv (.v 2) }, { o := .ca N.ref28_Filled 0 [] [.l 1, .l 0] }, { o := .mv (.l 0), d := some 5 }] []) (.seq (.seq (.reg [{ o := .mv (.i 0), d := some 6 }] []) (.blk 0 K.ref40_filled_l1)) (.seq (.reg [{ o := .mv (.b false), d := some 4 }] []) .ret)))), res := [(4, none)] }
def ref40_near_l2b : C := (.seq (.ite [{ o := .mv (.v 8) }, { o := .mv (.v 7) }, { o := .ln (.l 0) }, { o := .bin .lss (.l 2) (.l 0) }] [] 0 .skip (.exit 2)) (.seq (.blk 3 (.ite [{ o := .mv (.v 1) }, { o := .mv (.v 7) }, { o := .mv (.v 8) }, { o := .ia (.l 1) (.l 0) 1 }, { o := .ld (.l 0) 1 false }, { o := .ca N.ref23_Has 0 [] [.l 4, .l 0] }] [] 0 (.seq (.reg [{ o := .mv (.v 5) }, { o := .mv (.v 6) }, { o := .bs [.l 0] 1 }, { o := .app (.l 2) (.l 0) true 1 }, { o := .mv (.l 0), d := some 5 }] []) (.exit 2)) .skip)) (.reg [{ o := .mv (.v 8) }, { o := .bin .add (.l 0) (.i 1) }, { o := .mv (.l 0), d := some 8 }] [])))
def ref40_near_l2 : C := .loop true [0, 4] K.ref40_near_l2b
def ref40_near_l1b : C := (.seq (.ite [{ o := .mv (.v 6) }, { o := .fa (.v 3) 0 }, { o := .ld (.l 0) 1 false }, { o := .ia (.l 0) (.i 0) 2 }, { o := .fa (.l 0) 1 }, { o := .ld (.l 0) 1 false }, { o := .ln (.l 0) }, { o := .bin .lss (.l 6) (.l 0) }] [] 0 .skip (.exit 0)) (.seq (.blk 1 (.seq (.reg [{ o := .ld (.v 3) 1 true }, { o := .mv (.v 6) }, { o := .mv (.v 2) }, { o := .ca N.ref26_Possible 0 [] [.l 2, .l 1, .l 0] }, { o := .mv (.l 0), d := some 7 }] []) (.seq (.reg [{ o := .mv (.i 0), d := some 8 }] []) (.blk 2 K.ref40_near_l2)))) (.reg [{ o := .mv (.v 6) }, { o := .bin .add (.l 0) (.i 1) }, { o := .mv (.l 0), d := some 6 }] [])))
def ref40_near_l1 : C := .loop true [0, 4, 7, 8] K.ref40_near_l1b
/-- /ref40.near -/
def ref40_near : Fn := { nargs := 3, vars := [0, 1, 2, 3, 6, 7, 8, 9, 10], body := (.seq (.reg [{ o := .bx (.v 0) 1, d := some 3 }, { o := .mv (.c (.nil)), d := some 4 }] []) (.seq (.reg [{ o := .nw 1, d := some 5 }] []) (.seq (.ite [{ o := .fa (.v 3) 0 }, { o := .ld (.l 0) 1 false }, { o := .ln (.l 0) }, { o := .bin .eql (.l 0) (.i 0) }] [] 0 (.seq (.reg [{ o := .mv (.c (.nil)), d := some 4 }] []) .ret) .skip) (.seq (.seq (.reg [{ o := .mv (.i 0), d := some 6 }] []) (.blk 0 K.ref40_near_l1)) (.seq (.reg [{ o := .mv (.v 5) }, { o := .mv (.l 0), d := some 4 }] []) .ret))))), res := [(4, none)] }
def swaps_Valid_l1b : C := (.its  [{ o := .bin .lss (.v 10) (.v 9) }] [] 0 .skip (.exit 0) (.seq (.blk 1 (.seq (.reg [{ o := .mv (.v 10) }, { o := .ia (.v 8) (.v 10) 2 }, { o := .ld (.l 0) 2 true }, { o := .al [.nil, .nil] [], d := some 7 }, { o := .mv (.l 3), d := some 6 }, { o := .st (.l 1) (.l 2) 2 [] }] []) (.blk 2 (.ite [{ o := .fa (.v 7) 0 }, { o := .ld (.l 0) 1 false }, { o := .ln (.l 0) }, { o := .ca N.lists_In 0 [] [.l 0, .i 1, .i 12] }, { o := .un .not (.l 0) }, { o := .mv (.l 0) }, { o := .fa (.v 7) 1, g := some (0, false) }, { o := .ld (.l 0) 1 false, g := some (1, false) }, { o := .ln (.l 0), g := some (2, false) }, { o := .fa (.v 7) 0, g := some (3, false) }, { o := .ld (.l 0) 1 false, g := some (4, false) }, { o := .ln (.l 0), g := some (5, false) }, { o := .bin .neq (.l 3) (.l 0), g := some (6, false) }, { o := .pk (.l 7) (.b true) (.l 0) }, { o := .mv (.l 0) }, { o := .fa (.v 7) 0, g := some (0, false) }, { o := .ld (.l 0) 1 false, g := some (1, false) }, { o := .ca N.swaps_tagged 0 [] [.l 0], g := some (2, false) }, { o := .un .not (.l 0), g := some (3, false) }, { o := .pk (.l 4) (.b true) (.l 0) }, { o := .mv (.l 0) }] [] 0 (.seq (.reg [{ o := .mv (.b false), d := some 4 }] []) .ret) (.ite [{ o := .fa (.v 7) 0 }, { o := .ld (.l 0) 1 false }, { o := .ca N.slices_Values_int_int 0 [] [.l 0] }, { o := .ca N.slices_Sorted_int 0 [] [.l 0] }, { o := .mv (.v 5) }, { o := .ca N.slices_Equal_int_int 0 [] [.l 1, .l 0] }, { o := .un .not (.l 0) }, { o := .mv (.l 0) }] [] 0 (.seq (.reg [{ o := .mv (.b false), d := some 4 }] []) .ret) (.ite [{ o := .mv (.v 6) }, { o := .bin .gtr (.l 0) (.i 0) }, { o := .mv (.l 0) }, { o := .fa (.v 3) 0, g := some (0, true) }, { o := .ld (.l 0) 1 false, g := some (1, true) }, { o := .mv (.v 6), g := some (2, true) }, { o := .bin .sub (.l 0) (.i 1), g := some (3, true) }, { o := .ia (.l 2) (.l 0) 2, g := some (4, true) }, { o := .fa (.l 0) 0, g := some (5, true) }, { o := .ld (.l 0) 1 false, g := some (6, true) }, { o := .fa (.v 7) 0, g := some (7, true) }, { o := .ld (.l 0) 1 false, g := some (8, true) }, { o := .ca N.slices_Compare_int_int 0 [] [.l 2, .l 0], g := some (9, true) }, { o := .bin .geq (.l 0) (.i 0), g := some (10, true) }, { o := .pk (.l 11) (.l 0) (.b false) }, { o := .mv (.l 0) }] [] 0 (.seq (.reg [{ o := .mv (.b false), d := some 4 }] []) .ret) (.ite [{ o := .fa (.v 7) 1 }, { o := .ld (.l 0) 1 false }, { o := .mf N.swaps_Valid_1 [.v 2] }, { o := .ca N.slices_ContainsFunc_api_Whereabouts_api_Whereabouts 0 [] [.l 1, .l 0] }, { o := .mv (.l 0) }] [] 0 (.seq (.reg [{ o := .mv (.b false), d := some 4 }] []) .ret) .skip))))))) (.reg [{ o := .bin .add (.v 10) (.i 1) }, { o := .mv (.l 0), d := some 10 }] [])))
def swaps_Valid_l1 : C := .loop true [0, 1, 4, 6, 7] K.swaps_Valid_l1b
/-- /swaps.Valid -/
def swaps_Valid : Fn := { nargs := 2, vars := [0, 1, 2, 3, 4, 5, 6, 7, 26, 27, 28], body := (.seq (.reg [{ o := .bx (.v 0) 2, d := some 2 }, { o := .bx (.v 1) 1, d := some 3 }, { o := .mv (.b false), d := some 4 }] []) (.seq (.ite [{ o := .ld (.v 2) 2 true }, { o := .ca N.plan_Valid 0 [] [.l 0] }, { o := .un .not (.l 0) }, { o := .mv (.l 0) }, { o := .fa (.v 3) 0, g := some (0, false) }, { o := .ld (.l 0) 1 false, g := some (1, false) }, { o := .ln (.l 0), g := some (2, false) }, { o := .ca N.lists_In 0 [] [.l 0, .i 1, .i 24], g := some (3, false) }, { o := .un .not (.l 0), g := some (4, false) }, { o := .pk (.l 5) (.b true) (.l 0) }] [] 0 (.seq (.reg [{ o := .mv (.b false), d := some 4 }] []) .ret) .skip) (.seq (.reg [{ o := .fa (.v 3) 0 }, { o := .ld (.l 0) 1 false }, { o := .ia (.l 0) (.i 0) 2 }, { o := .fa (.l 0) 0 }, { o := .ld (.l 0) 1 false }, { o := .ca N.slices_Values_int_int 0 [] [.l 0] }, { o := .ca N.slices_Sorted_int 0 [] [.l 0] }, { o := .mv (.l 0), d := some 5 }] []) (.seq (.seq (.reg [{ o := .fa (.v 3) 0 }, { o := .ld (.l 0) 1 false, d := some 8 }, { o := .ln (.l 0), d := some 9 }, { o := .mv (.i 0), d := some 10 }] []) (.blk 0 K.swaps_Valid_l1)) (.seq (.reg [{ o := .mv (.b true), d := some 4 }] []) .ret))))), res := [(4, none)] }
/-- /firerules.Valid.1 -/
def firerules_Valid_1 : Fn := { nargs := 2, vars := [0, 1, 2, 3], body := (.seq (.reg [{ o := .bx (.v 0) 3, d := some 2 }, { o := .mv (.b false), d := some 3 }] []) (.seq (.reg [{ o := .fa (.v 2) 0 }, { o := .ld (.l 0) 1 false }, { o := .bin .neq (.l 0) (.i 1) }, { o := .mv (.l 0) }, { o := .fa (.v 2) 0, g := some (0, true) }, { o := .ld (.l 0) 1 false, g := some (1, true) }, { o := .bin .neq (.l 0) (.i 2), g := some (2, true) }, { o := .pk (.l 3) (.l 0) (.b false) }, { o := .mv (.l 0) }, { o := .fa (.v 2) 1, g := some (0, false) }, { o := .ld (.l 0) 1 false, g := some (1, false) }, { o := .ca N.lists_In 0 [] [.l 0, .i 0, .i 23], g := some (2, false) }, { o := .un .not (.l 0), g := some (3, false) }, { o := .pk (.l 4) (.b true) (.l 0) }, { o := .mv (.l 0) }, { o := .fa (.v 2) 2, g := some (0, false) }, { o := .ld (.l 0) 1 false, g := some (1, false) }, { o := .ln (.l 0), g := some (2, false) }, { o := .bin .eql (.l 0) (.i 0), g := some (3, false) }, { o := .pk (.l 4) (.b true) (.l 0) }, { o := .mv (.l 0) }, { o := .fa (.v 2) 2, g := some (0, false) }, { o := .ld (.l 0) 1 false, g := some (1, false) }, { o := .fa (.v 1) 0, g := some (2, false) }, { o := .ld (.l 0) 1 false, g := some (3, false) }, { o := .ln (.l 0), g := some (4, false) }, { o := .bin .sub (.l 0) (.i 1), g := some (5, false) }, { o := .ca N.lists_Rising 0 [] [.l 4, .i 0, .l 0], g := some (6, false) }, { o := .un .not (.l 0), g := some (7, false) }, { o := .pk (.l 8) (.b true) (.l 0) }, { o := .mv (.l 0), d := some 3 }] []) .ret)), res := [(3, none)] }
/-- slices.ContainsFunc[[]/api.Machine,/api.Machine] -/
def slices_ContainsFunc_api_Machine_api_Machine : Fn := { nargs := 2, vars := [0, 1, 4], body := (.seq (.reg [{ o := .mv (.b false), d := some 2 }] []) (.seq (.reg [{ o := .mv (.v 0) }, { o := .mv (.v 1) }, { o := .ca N.slices_IndexFunc_api_Machine_api_Machine 0 [] [.l 1, .l 0] }, { o := .bin .geq (.l 0) (.i 0) }, { o := .mv (.l 0), d := some 2 }] []) .ret)), res := [(2, none)] }
/-- slices.Sorted[int] -/
def slices_Sorted_int : Fn := { nargs := 1, vars := [2], body := .fail, res := [(0, none)], prim := [2, N.slices_Values_int_int_1] }
/-- slices.Values[[]int,int] -/
def slices_Values_int_int : Fn := { nargs := 1, vars := [0, 1, 2], body := (.seq (.reg [{ o := .bx (.v 0) 1, d := some 1 }, { o := .mv (.c (.und)), d := some 2 }] []) (.seq (.reg [{ o := .mf N.slices_Values_int_int_1 [.v 1] }, { o := .mv (.l 0), d := some 2 }] []) .ret)), res := [(2, none)] }
/-- /swaps.tagged -/
def swaps_tagged : Fn := { nargs := 1, vars := [0, 2, 3], body := (.seq (.reg [{ o := .mv (.b false), d := some 1 }] []) (.seq (.reg [{ o := .mv (.v 0) }, { o := .ca N.slices_Values_int_int 0 [] [.l 0] }, { o := .ca N.slices_Sorted_int 0 [] [.l 0] }, { o := .mv (.l 0), d := some 2 }] []) (.seq (.reg [{ o := .mv (.v 2) }, { o := .ca N.lists_Rising 0 [] [.l 0, .i 1, .i 65535] }, { o := .mv (.l 0), d := some 1 }] []) .ret))), res := [(1, none)] }
def slices_Compare_int_int_l1b : C := (.its  [{ o := .bin .lss (.v 9) (.v 8) }] [] 0 .skip (.exit 0) (.seq (.blk 1 (.seq (.reg [{ o := .mv (.v 9) }, { o := .ia (.v 7) (.v 9) 1 }, { o := .ld (.l 0) 1 false }, { o := .mv (.l 2), d := some 3 }, { o := .mv (.l 1), d := some 4 }] []) (.seq (.ite [{ o := .mv (.v 3) }, { o := .mv (.v 1) }, { o := .ln (.l 0) }, { o := .bin .geq (.l 2) (.l 0) }] [] 0 (.seq (.reg [{ o := .mv (.i 1), d := some 2 }] []) .ret) .skip) (.seq (.reg [{ o := .mv (.v 1) }, { o := .mv (.v 3) }, { o := .ia (.l 1) (.l 0) 1 }, { o := .ld (.l 0) 1 false }, { o := .mv (.l 0), d := some 5 }] []) (.seq (.reg [{ o := .mv (.v 4) }, { o := .mv (.v 5) }, { o := .ca N.cmp_Compare_int 0 [] [.l 1, .l 0] }, { o := .mv (.l 0), d := some 6 }] []) (.ite [{ o := .mv (.v 6) }, { o := .bin .neq (.l 0) (.i 0) }] [] 0 (.seq (.reg [{ o := .mv (.v 6) }, { o := .mv (.l 0), d := some 2 }] []) .ret) .skip)))))) (.reg [{ o := .bin .add (.v 9) (.i 1) }, { o := .mv (.l 0), d := some 9 }] [])))
def slices_Compare_int_int_l1 : C := .loop true [2, 3, 4, 5, 6] K.slices_Compare_int_int_l1b
/-- slices.Compare[[]int,int] -/
def slices_Compare_int_int : Fn := { nargs := 2, vars := [0, 1, 4, 5, 6, 7, 8, 9, 10, 11], body := (.seq (.reg [{ o := .mv (.i 0), d := some 2 }] []) (.seq (.seq (.reg [{ o := .mv (.v 0), d := some 7 }, { o := .ln (.l 0), d := some 8 }, { o := .mv (.i 0), d := some 9 }] []) (.blk 0 K.slices_Compare_int_int_l1)) (.seq (.ite [{ o := .mv (.v 0) }, { o := .ln (.l 0) }, { o := .mv (.v 1) }, { o := .ln (.l 0) }, { o := .bin .lss (.l 2) (.l 0) }] [] 0 (.seq (.reg [{ o := .mv (.i (-1)), d := some 2 }] []) .ret) .skip) (.seq (.reg [{ o := .mv (.i 0), d := some 2 }] []) .ret)))), res := [(2, none)] }
/-- slices.ContainsFunc[[]/api.Whereabouts,/api.Whereabouts] -/
def slices_ContainsFunc_api_Whereabouts_api_Whereabouts : Fn := { nargs := 2, vars := [0, 1, 4], body := (.seq (.reg [{ o := .mv (.b false), d := some 2 }] []) (.seq (.reg [{ o := .mv (.v 0) }, { o := .mv (.v 1) }, { o := .ca N.slices_IndexFunc_api_Whereabouts_api_Whereabouts 0 [] [.l 1, .l 0] }, { o := .bin .geq (.l 0) (.i 0) }, { o := .mv (.l 0), d := some 2 }] []) .ret)), res := [(2, none)] }
/-- /swaps.Valid.1 -/
def swaps_Valid_1 : Fn := { nargs := 2, vars := [0, 1, 2, 3], body := (.seq (.reg [{ o := .bx (.v 0) 2, d := some 2 }, { o := .mv (.b false), d := some 3 }] []) (.seq (.reg [{ o := .ld (.v 1) 2 true }, { o := .ld (.v 2) 2 true }, { o := .ca N.places_Valid 0 [] [.l 1, .l 0] }, { o := .un .not (.l 0) }, { o := .mv (.l 0), d := some 3 }] []) .ret)), res := [(3, none)] }
def slices_IndexFunc_api_Machine_api_Machine_l1b : C := (.its  [{ o := .bin .lss (.v 5) (.v 4) }] [] 0 .skip (.exit 0) (.seq (.blk 1 (.seq (.reg [{ o := .mv (.v 5) }, { o := .mv (.l 0), d := some 3 }] []) (.ite [{ o := .mv (.v 1) }, { o := .mv (.v 0) }, { o := .mv (.v 3) }, { o := .ia (.l 1) (.l 0) 3 }, { o := .ld (.l 0) 3 true }, { o := .cw (.l 4) 0 [] [.l 0] }] [] 0 (.seq (.reg [{ o := .mv (.v 3) }, { o := .mv (.l 0), d := some 2 }] []) .ret) .skip))) (.reg [{ o := .bin .add (.v 5) (.i 1) }, { o := .mv (.l 0), d := some 5 }] [])))
def slices_IndexFunc_api_Machine_api_Machine_l1 : C := .loop true [2, 3] K.slices_IndexFunc_api_Machine_api_Machine_l1b
/-- slices.IndexFunc[[]/api.Machine,/api.Machine] -/
def slices_IndexFunc_api_Machine_api_Machine : Fn := { nargs := 2, vars := [0, 1, 4, 5, 7, 8], body := (.seq (.reg [{ o := .mv (.i 0), d := some 2 }] []) (.seq (.seq (.reg [{ o := .mv (.v 0) }, { o := .ln (.l 0), d := some 4 }, { o := .mv (.i 0), d := some 5 }] []) (.blk 0 K.slices_IndexFunc_api_Machine_api_Machine_l1)) (.seq (.reg [{ o := .mv (.i (-1)), d := some 2 }] []) .ret))), res := [(2, none)] }
def slices_Values_int_int_1_l1b : C := (.its  [{ o := .bin .lss (.v 5) (.v 4) }] [] 0 .skip (.exit 0) (.seq (.blk 1 (.seq (.reg [{ o := .ia (.v 3) (.v 5) 1 }, { o := .ld (.l 0) 1 false }, { o := .mv (.l 0), d := some 2 }] []) (.ite [{ o := .mv (.v 0) }, { o := .mv (.v 2) }, { o := .cw (.l 1) 0 [] [.l 0] }, { o := .un .not (.l 0) }] [] 0 .ret .skip))) (.reg [{ o := .bin .add (.v 5) (.i 1) }, { o := .mv (.l 0), d := some 5 }] [])))
def slices_Values_int_int_1_l1 : C := .loop true [1, 2] K.slices_Values_int_int_1_l1b
/-- slices.Values[[]int,int].1 -/
def slices_Values_int_int_1 : Fn := { nargs := 2, vars := [0, 1, 4, 5, 6, 7], body := (.seq (.reg [{ o := .ld (.v 1) 1 false, d := some 3 }, { o := .ln (.l 0), d := some 4 }, { o := .mv (.i 0), d := some 5 }] []) (.blk 0 K.slices_Values_int_int_1_l1)), res := [] }
/-- cmp.Compare[int] -/
def cmp_Compare_int : Fn := { nargs := 2, vars := [0, 1, 4, 5, 6], body := (.seq (.reg [{ o := .mv (.i 0), d := some 2 }] []) (.seq (.reg [{ o := .mv (.v 0) }, { o := .ca N.cmp_isNaN_int 0 [] [.l 0] }, { o := .mv (.l 0), d := some 3 }] []) (.seq (.reg [{ o := .mv (.v 1) }, { o := .ca N.cmp_isNaN_int 0 [] [.l 0] }, { o := .mv (.l 0), d := some 4 }] []) (.seq (.ite [{ o := .mv (.v 3) }] [] 0 (.seq (.ite [{ o := .mv (.v 4) }] [] 0 (.seq (.reg [{ o := .mv (.i 0), d := some 2 }] []) .ret) .skip) (.seq (.reg [{ o := .mv (.i (-1)), d := some 2 }] []) .ret)) .skip) (.seq (.ite [{ o := .mv (.v 4) }] [] 0 (.seq (.reg [{ o := .mv (.i 1), d := some 2 }] []) .ret) .skip) (.seq (.ite [{ o := .mv (.v 0) }, { o := .mv (.v 1) }, { o := .bin .lss (.l 1) (.l 0) }] [] 0 (.seq (.reg [{ o := .mv (.i (-1)), d := some 2 }] []) .ret) .skip) (.seq (.ite [{ o := .mv (.v 0) }, { o := .mv (.v 1) }, { o := .bin .gtr (.l 1) (.l 0) }] [] 0 (.seq (.reg [{ o := .mv (.i 1), d := some 2 }] []) .ret) .skip) (.seq (.reg [{ o := .mv (.i 0), d := some 2 }] []) .ret)))))))), res := [(2, none)] }
def slices_IndexFunc_api_Whereabouts_api_Whereabouts_l1b : C := (.its  [{ o := .bin .lss (.v 5) (.v 4) }] [] 0 .skip (.exit 0) (.seq (.blk 1 (.seq (.reg [{ o := .mv (.v 5) }, { o := .mv (.l 0), d := some 3 }] []) (.ite [{ o := .mv (.v 1) }, { o := .mv (.v 0) }, { o := .mv (.v 3) }, { o := .ia (.l 1) (.l 0) 2 }, { o := .ld (.l 0) 2 true }, { o := .cw (.l 4) 0 [] [.l 0] }] [] 0 (.seq (.reg [{ o := .mv (.v 3) }, { o := .mv (.l 0), d := some 2 }] []) .ret) .skip))) (.reg [{ o := .bin .add (.v 5) (.i 1) }, { o := .mv (.l 0), d := some 5 }] [])))
def slices_IndexFunc_api_Whereabouts_api_Whereabouts_l1 : C := .loop true [2, 3] K.slices_IndexFunc_api_Whereabouts_api_Whereabouts_l1b
/-- slices.IndexFunc[[]/api.Whereabouts,/api.Whereabouts] -/
def slices_IndexFunc_api_Whereabouts_api_Whereabouts : Fn := { nargs := 2, vars := [0, 1, 4, 5, 7, 8], body := (.seq (.reg [{ o := .mv (.i 0), d := some 2 }] []) (.seq (.seq (.reg [{ o := .mv (.v 0) }, { o := .ln (.l 0), d := some 4 }, { o := .mv (.i 0), d := some 5 }] []) (.blk 0 K.slices_IndexFunc_api_Whereabouts_api_Whereabouts_l1)) (.seq (.reg [{ o := .mv (.i (-1)), d := some 2 }] []) .ret))), res := [(2, none)] }
/-- cmp.isNaN[int] -/
def cmp_isNaN_int : Fn := { nargs := 1, vars := [0, 2], body := (.seq (.reg [{ o := .mv (.b false), d := some 1 }] []) (.seq (.reg [{ o := .mv (.v 0) }, { o := .mv (.v 0) }, { o := .bin .neq (.l 1) (.l 0) }, { o := .mv (.l 0), d := some 1 }] []) .ret)), res := [(1, none)] }
end Go.Ev.K
namespace Go.Ev
class Has11 [Lib] : Prop where
  t_law40_FireRulesRaw : Lib.fs N.law40_FireRulesRaw = some K.law40_FireRulesRaw
  t_law40_agree : Lib.fs N.law40_agree = some K.law40_agree
  t_ref40_Command : Lib.fs N.ref40_Command = some K.ref40_Command
  t_firerules_Commands : Lib.fs N.firerules_Commands = some K.firerules_Commands
  t_ref40_Commands : Lib.fs N.ref40_Commands = some K.ref40_Commands
  t_firerules_Valid : Lib.fs N.firerules_Valid = some K.firerules_Valid
  t_ref40_Valid : Lib.fs N.ref40_Valid = some K.ref40_Valid
  t_ref40_filled : Lib.fs N.ref40_filled = some K.ref40_filled
  t_ref40_near : Lib.fs N.ref40_near = some K.ref40_near
  t_swaps_Valid : Lib.fs N.swaps_Valid = some K.swaps_Valid
  t_firerules_Valid_1 : Lib.fs N.firerules_Valid_1 = some K.firerules_Valid_1
  t_slices_ContainsFunc_api_Machine_api_Machine : Lib.fs N.slices_ContainsFunc_api_Machine_api_Machine = some K.slices_ContainsFunc_api_Machine_api_Machine
  t_slices_Sorted_int : Lib.fs N.slices_Sorted_int = some K.slices_Sorted_int
  t_slices_Values_int_int : Lib.fs N.slices_Values_int_int = some K.slices_Values_int_int
  t_swaps_tagged : Lib.fs N.swaps_tagged = some K.swaps_tagged
  t_slices_Compare_int_int : Lib.fs N.slices_Compare_int_int = some K.slices_Compare_int_int
  t_slices_ContainsFunc_api_Whereabouts_api_Whereabouts : Lib.fs N.slices_ContainsFunc_api_Whereabouts_api_Whereabouts = some K.slices_ContainsFunc_api_Whereabouts_api_Whereabouts
  t_swaps_Valid_1 : Lib.fs N.swaps_Valid_1 = some K.swaps_Valid_1
  t_slices_IndexFunc_api_Machine_api_Machine : Lib.fs N.slices_IndexFunc_api_Machine_api_Machine = some K.slices_IndexFunc_api_Machine_api_Machine
  t_slices_Values_int_int_1 : Lib.fs N.slices_Values_int_int_1 = some K.slices_Values_int_int_1
  t_cmp_Compare_int : Lib.fs N.cmp_Compare_int = some K.cmp_Compare_int
  t_slices_IndexFunc_api_Whereabouts_api_Whereabouts : Lib.fs N.slices_IndexFunc_api_Whereabouts_api_Whereabouts = some K.slices_IndexFunc_api_Whereabouts_api_Whereabouts
  t_cmp_isNaN_int : Lib.fs N.cmp_isNaN_int = some K.cmp_isNaN_int
namespace K
variable [Lib] [Has11]
theorem t_law40_FireRulesRaw : Lib.fs N.law40_FireRulesRaw = some K.law40_FireRulesRaw := Has11.t_law40_FireRulesRaw
theorem t_law40_agree : Lib.fs N.law40_agree = some K.law40_agree := Has11.t_law40_agree
theorem t_ref40_Command : Lib.fs N.ref40_Command = some K.ref40_Command := Has11.t_ref40_Command
theorem t_firerules_Commands : Lib.fs N.firerules_Commands = some K.firerules_Commands := Has11.t_firerules_Commands
theorem t_ref40_Commands : Lib.fs N.ref40_Commands = some K.ref40_Commands := Has11.t_ref40_Commands
theorem t_firerules_Valid : Lib.fs N.firerules_Valid = some K.firerules_Valid := Has11.t_firerules_Valid
theorem t_ref40_Valid : Lib.fs N.ref40_Valid = some K.ref40_Valid := Has11.t_ref40_Valid
theorem t_ref40_filled : Lib.fs N.ref40_filled = some K.ref40_filled := Has11.t_ref40_filled
theorem t_ref40_near : Lib.fs N.ref40_near = some K.ref40_near := Has11.t_ref40_near
theorem t_swaps_Valid : Lib.fs N.swaps_Valid = some K.swaps_Valid := Has11.t_swaps_Valid
theorem t_firerules_Valid_1 : Lib.fs N.firerules_Valid_1 = some K.firerules_Valid_1 := Has11.t_firerules_Valid_1
theorem t_slices_ContainsFunc_api_Machine_api_Machine : Lib.fs N.slices_ContainsFunc_api_Machine_api_Machine = some K.slices_ContainsFunc_api_Machine_api_Machine := Has11.t_slices_ContainsFunc_api_Machine_api_Machine
theorem t_slices_Sorted_int : Lib.fs N.slices_Sorted_int = some K.slices_Sorted_int := Has11.t_slices_Sorted_int
theorem t_slices_Values_int_int : Lib.fs N.slices_Values_int_int = some K.slices_Values_int_int := Has11.t_slices_Values_int_int
theorem t_swaps_tagged : Lib.fs N.swaps_tagged = some K.swaps_tagged := Has11.t_swaps_tagged
theorem t_slices_Compare_int_int : Lib.fs N.slices_Compare_int_int = some K.slices_Compare_int_int := Has11.t_slices_Compare_int_int
theorem t_slices_ContainsFunc_api_Whereabouts_api_Whereabouts : Lib.fs N.slices_ContainsFunc_api_Whereabouts_api_Whereabouts = some K.slices_ContainsFunc_api_Whereabouts_api_Whereabouts := Has11.t_slices_ContainsFunc_api_Whereabouts_api_Whereabouts
theorem t_swaps_Valid_1 : Lib.fs N.swaps_Valid_1 = some K.swaps_Valid_1 := Has11.t_swaps_Valid_1
theorem t_slices_IndexFunc_api_Machine_api_Machine : Lib.fs N.slices_IndexFunc_api_Machine_api_Machine = some K.slices_IndexFunc_api_Machine_api_Machine := Has11.t_slices_IndexFunc_api_Machine_api_Machine
theorem t_slices_Values_int_int_1 : Lib.fs N.slices_Values_int_int_1 = some K.slices_Values_int_int_1 := Has11.t_slices_Values_int_int_1
theorem t_cmp_Compare_int : Lib.fs N.cmp_Compare_int = some K.cmp_Compare_int := Has11.t_cmp_Compare_int
theorem t_slices_IndexFunc_api_Whereabouts_api_Whereabouts : Lib.fs N.slices_IndexFunc_api_Whereabouts_api_Whereabouts = some K.slices_IndexFunc_api_Whereabouts_api_Whereabouts := Has11.t_slices_IndexFunc_api_Whereabouts_api_Whereabouts
theorem t_cmp_isNaN_int : Lib.fs N.cmp_isNaN_int = some K.cmp_isNaN_int := Has11.t_cmp_isNaN_int
end K
end Go.Ev

/- Sorted lists of tags; comparison of lists. -/
namespace Go.Ev
open Go
variable [Lib] [Has1] [Has2] [Has3] [Has4] [Has5] [Has6] [Has7] [Has8] [Has9] [Has10] [Has11]

theorem values_ok (l : List Int) : CALL 0 N.slices_Values_int_int [.t (tL l)] [] = some (.fn N.slices_Values_int_int_1 [.bp 0 0], [.box [.t (tL l)]]) := by
  refine CALL_of K.t_slices_Values_int_int rfl ?_
  simp (disch := omega) only [go_sem, K.slices_Values_int_int, ↓reduceIte, Nat.reduceAdd, Nat.reduceSub]
theorem intsOf_map (l : List Int) : intsOfT (tL l) = some l := by
  unfold intsOfT
  simp only
  induction l with
  | nil => rfl
  | cons x l ih =>
    simp only [List.map_cons, mapO] at ih ⊢
    rw [ih]; rfl
theorem sorted_ok (l : List Int) (hl : l.length ≤ 1000000) : CALL 0 N.slices_Sorted_int [.fn N.slices_Values_int_int_1 [.bp 0 0]] [.box [.t (tL l)]] = some (.t (tL (sortI l)), [.box [.t (tL l)]]) := by
  refine CALL_prim K.t_slices_Sorted_int (by decide) ?_
  show primF [2, N.slices_Values_int_int_1] _ _ = _
  simp only [primF, if_true, List.getElem?_cons_zero, argD, Option.bind_some, intsOf_map]
  rw [if_pos (by unfold lim; omega)]
theorem isNaN_ok (a : Int) : CALL 0 N.cmp_isNaN_int [I a] [] = some (B false, []) := by
  refine CALL_of K.t_cmp_isNaN_int rfl ?_
  simp (disch := omega) only [go_sem, K.cmp_isNaN_int, ↓reduceIte, decide_true, Bool.not_true, Nat.reduceAdd, Nat.reduceSub]
def cmpI (a b : Int) : Int := if a < b then -1 else if b < a then 1 else 0
theorem cmp_ok (a b : Int) : CALL 0 N.cmp_Compare_int [I a, I b] [] = some (I (cmpI a b), []) := by
  refine CALL_of K.t_cmp_Compare_int rfl ?_
  have h1 := isNaN_ok a
  have h2 := isNaN_ok b
  unfold cmpI
  by_cases c1 : a < b
  · simp (disch := omega) only [go_sem, K.cmp_Compare_int, ↓reduceIte, h1, h2, c1, Bool.false_eq_true, Nat.reduceAdd, Nat.reduceSub]
  · by_cases c2 : b < a
    · simp (disch := omega) only [go_sem, K.cmp_Compare_int, ↓reduceIte, h1, h2, c1, c2, Bool.false_eq_true, Nat.reduceAdd, Nat.reduceSub]
    · simp (disch := omega) only [go_sem, K.cmp_Compare_int, ↓reduceIte, h1, h2, c1, c2, Bool.false_eq_true, Nat.reduceAdd, Nat.reduceSub]
/-- The comparison of two lists. -/
def cmpP (a b : List Int) (j : Nat) : Bool := decide (b.length ≤ j) || decide (nth a j ≠ nth b j)
def cmpL (a b : List Int) : Int := match (List.range a.length).find? (cmpP a b) with
  | some j => if b.length ≤ j then 1 else cmpI (nth a j) (nth b j)
  | none => if a.length < b.length then -1 else 0
theorem compare_ok (a b : List Int) (ha : a.length ≤ 1000000) (hb : b.length ≤ 1000000) : CALL 0 N.slices_Compare_int_int [.t (tL a), .t (tL b)] [] = some (I (cmpL a b), []) := by
  refine CALL_of K.t_slices_Compare_int_int rfl ?_
  have loop : ∀ z2 z3 z4 z5 z6 : D, exS CALL K.slices_Compare_int_int_l1 ⟨[.t (tL a), .t (tL b), z2, z3, z4, z5, z6, .t (tL a), I a.length, I 0], []⟩ =
      some (match (List.range a.length).find? (cmpP a b) with
        | some j => (.ret, ⟨[.t (tL a), .t (tL b), I (if b.length ≤ j then 1 else cmpI (nth a j) (nth b j)), I j, I (nth a j), if b.length ≤ j then .und else I (nth b j), if b.length ≤ j then .und else I (cmpI (nth a j) (nth b j)), .t (tL a), I a.length, I j], []⟩)
        | none => (.exit 0, ⟨[.t (tL a), .t (tL b), .und, .und, .und, .und, .und, .t (tL a), I a.length, I a.length], []⟩)) := by
    intro z2 z3 z4 z5 z6
    refine loop_first (fun j => ⟨[.t (tL a), .t (tL b), .und, .und, .und, .und, .und, .t (tL a), I a.length, I j], []⟩) a.length (cmpP a b) _ _ rfl ?_ ?_ ?_ (by simp)
    · intro j hj hp
      simp only [cmpP, Bool.or_eq_false_iff, decide_eq_false_iff_not, Decidable.not_not] at hp
      obtain ⟨h1, h2⟩ := hp
      have c := cmp_ok (nth a j) (nth b j)
      rw [h2] at c
      have e : cmpI (nth b j) (nth b j) = 0 := by unfold cmpI; rw [if_neg (by omega), if_neg (by omega)]
      rw [e] at c
      simp (disch := omega) only [go_sem, K.slices_Compare_int_int_l1b, ↓reduceIte, h2, c, Nat.reduceAdd, Nat.reduceSub]
    · intro j hj hp
      refine ⟨?_, by simp⟩
      by_cases h1 : b.length ≤ j
      · rw [if_pos h1, if_pos h1, if_pos h1]
        simp (disch := omega) only [go_sem, K.slices_Compare_int_int_l1b, ↓reduceIte, Nat.reduceAdd, Nat.reduceSub]
      · rw [if_neg h1, if_neg h1, if_neg h1]
        have h2 : nth a j ≠ nth b j := by simpa [cmpP, h1] using hp
        have c := cmp_ok (nth a j) (nth b j)
        have e : cmpI (nth a j) (nth b j) ≠ 0 := by
          unfold cmpI; split
          · omega
          · split <;> omega
        generalize cmpI (nth a j) (nth b j) = v at *
        simp (disch := omega) only [go_sem, K.slices_Compare_int_int_l1b, ↓reduceIte, c, e, Nat.reduceAdd, Nat.reduceSub]
    · simp (disch := omega) only [go_sem, K.slices_Compare_int_int_l1b, ↓reduceIte, Nat.reduceAdd, Nat.reduceSub]
  unfold cmpL
  cases hf : (List.range a.length).find? (cmpP a b) with
  | some j =>
    simp only [hf] at loop
    simp (disch := omega) only [go_sem, K.slices_Compare_int_int, ↓reduceIte, loop, Nat.reduceAdd, Nat.reduceSub]
  | none =>
    simp only [hf] at loop
    by_cases h : a.length < b.length
    · simp (disch := omega) only [go_sem, K.slices_Compare_int_int, ↓reduceIte, loop, h, Nat.reduceAdd, Nat.reduceSub]
    · simp (disch := omega) only [go_sem, K.slices_Compare_int_int, ↓reduceIte, loop, h, Nat.reduceAdd, Nat.reduceSub]
end Go.Ev

/- Chapter 26 of the references: who bears a tag; possible places; meetings. -/
namespace Go.Ev
open Go
variable [Lib] [Has1] [Has2]

theorem nodup_sub_len : ∀ {l l' : List Int}, l.Nodup → (∀ x ∈ l, x ∈ l') → l.length ≤ l'.length
  | [], _, _, _ => by simp
  | a :: l, l', hn, hs => by
    obtain ⟨h1, h2⟩ := List.nodup_cons.1 hn
    have ha : a ∈ l' := hs a List.mem_cons_self
    have := nodup_sub_len (l := l) (l' := l'.erase a) h2 fun x hx => by
      have hne : x ≠ a := fun e => h1 (e ▸ hx)
      exact (List.mem_erase_of_ne hne).2 (hs x (List.mem_cons_of_mem _ hx))
    have h3 := List.length_erase_of_mem ha
    have h4 : 0 < l'.length := List.length_pos_of_mem ha
    simp only [List.length_cons]
    omega

theorem bearerF_mem {l : List Int} {x : Int} : 0 ≤ bearerF l x ↔ x ∈ l := by
  unfold bearerF
  cases hf : (List.range l.length).find? (fun j => decide (nth l j = x)) with
  | some j =>
    obtain ⟨h1, h2⟩ := find_lt hf
    have := nth_mem h1
    rw [of_decide_eq_true h2] at this
    simp [this]
  | none =>
    have := List.find?_eq_none.1 hf
    simp only [Int.reduceNeg]
    constructor
    · intro h; simp at h
    · intro h
      obtain ⟨j, hj⟩ := List.mem_iff_getElem?.1 h
      have hl := (List.getElem?_eq_some_iff.1 hj).1
      have := this j (List.mem_range.2 hl)
      rw [nth_eq hj] at this
      simp at this

theorem properB_nodup {l : List Int} (h : properB l = true) : l.Nodup := by
  simp only [properB, List.all_eq_true, List.mem_range, properN, decide_eq_true_eq] at h
  refine List.pairwise_iff_getElem.2 fun i j hi hj hij e => ?_
  obtain ⟨-, -, h3⟩ := h j hj
  have h4 : ¬ nth l j ∈ l.take j := fun hm => by have := bearerF_mem.2 hm; omega
  apply h4
  apply List.mem_iff_getElem?.2
  refine ⟨i, ?_⟩
  rw [List.getElem?_take_of_lt hij, List.getElem?_eq_getElem hi, e, ← List.getElem?_eq_getElem hj, nth_some hj]

theorem belB_spec {m : Mine} {b : Bel} (h : belB m b = true) : 1 ≤ b.worlds.length ∧ b.worlds.length ≤ 24 ∧ 1 ≤ (nth b.worlds 0).tags.length ∧ (nth b.worlds 0).tags.length ≤ 12 ∧
    ∀ i, i < b.worlds.length → worldB m b.worlds (nth b.worlds 0).tags i = true := by
  simp only [belB, Bool.and_eq_true, decide_eq_true_eq, List.all_eq_true, List.mem_range] at h
  exact ⟨h.1.1.1, h.1.1.2, h.1.2.1, h.1.2.2, h.2⟩

theorem worldB_spec {m : Mine} {ws : List World} {first : List Int} {i : Nat} (h : worldB m ws first i = true) : (nth ws i).tags.length = first.length ∧ (nth ws i).whr.length = first.length ∧ properB (nth ws i).tags = true ∧
    ∀ k, k < (nth ws i).tags.length → nth (nth ws i).tags k ∈ first ∧ validB m (nth (nth ws i).whr k) = true := by
  simp only [worldB, Bool.and_eq_true, decide_eq_true_eq, List.all_eq_true, List.mem_range, whoB] at h
  exact ⟨h.1.1.1.1, h.1.1.1.2, h.1.1.2, fun k hk => ⟨bearerF_mem.1 (h.2 k hk).1, (h.2 k hk).2⟩⟩

/-- In a valid belief each world has the same tags. -/
theorem belB_bearer {m : Mine} {b : Bel} (h : belB m b = true) {tag : Int} (ht : 0 ≤ bearerF (nth b.worlds 0).tags tag) {i : Nat} (hi : i < b.worlds.length) :
    0 ≤ bearerF (nth b.worlds i).tags tag := by
  obtain ⟨h1, h2, h3, h4, h5⟩ := belB_spec h
  obtain ⟨w1, w2, w3, w4⟩ := worldB_spec (h5 i hi)
  apply bearerF_mem.2
  apply Classical.byContradiction
  intro hn
  have := nodup_sub_len (l := tag :: (nth b.worlds i).tags) (l' := (nth b.worlds 0).tags) (List.nodup_cons.2 ⟨hn, properB_nodup w3⟩) (by
    intro x hx
    rcases List.mem_cons.1 hx with e | hx
    · rw [e]; exact bearerF_mem.1 ht
    · obtain ⟨j, hj⟩ := List.mem_iff_getElem?.1 hx
      have := (w4 j (List.getElem?_eq_some_iff.1 hj).1).1
      rwa [nth_eq hj] at this)
  simp only [List.length_cons] at this
  omega

def borneF (m : Mine) (b : Bel) (tag : Int) : Int := if belB m b = false then 6 else if bearerF (nth b.worlds 0).tags tag < 0 then 41 else 0

theorem borne_ok {m : Mine} (h : m.ok) (b : Bel) (hs : b.sz) (tag : Int) : CALL 0 N.ref26_borne [.t m.e, .t b.e, I tag] [] = some (I (borneF m b tag), []) := by
  refine CALL_of K.t_ref26_borne rfl ?_
  have v := belB_ok h b hs
  unfold borneF
  cases hv : belB m b with
  | false =>
    rw [hv] at v
    obtain ⟨ws⟩ := b
    simp (disch := omega) only [go_sem, K.ref26_borne, ↓reduceIte, v]
  | true =>
    rw [hv] at v
    obtain ⟨h1, h2, h3, h4, h5⟩ := belB_spec hv
    have br := bearer_ok (nth b.worlds 0).tags tag (by omega)
    obtain ⟨ws⟩ := b
    simp only at h1 br ⊢
    by_cases c : bearerF (nth ws 0).tags tag < 0
    · simp (disch := omega) only [go_sem, K.ref26_borne, ↓reduceIte, v, br, c, Bool.true_eq_false]
    · simp (disch := omega) only [go_sem, K.ref26_borne, ↓reduceIte, v, br, c, Bool.true_eq_false]

def meetB (a b : Wh) (t : Int) : Bool := (List.range (min a.frm.length b.frm.length)).any fun p => decide (nth a.frm p ≤ t ∧ nth b.frm p ≤ t)

theorem meet_ok (a b : Wh) (t : Int) (ha : a.frm.length ≤ 1000000) : CALL 0 N.ref26_meet [.t a.e, .t b.e, I t] [] = some (B (meetB a b t), []) := by
  refine CALL_of K.t_ref26_meet rfl ?_
  obtain ⟨t1, l1⟩ := a
  obtain ⟨t2, l2⟩ := b
  unfold meetB
  simp only at ha ⊢
  have loop : ∀ x y z : D, exS CALL K.ref26_meet_l1 ⟨[x, y, I t, .bp 0 0, .bp 1 0, z, I 0], [.box [I t1, .t (tL l1)], .box [I t2, .t (tL l2)]]⟩ =
      some (match (List.range (min l1.length l2.length)).find? (fun p => decide (nth l1 p ≤ t ∧ nth l2 p ≤ t)) with
        | some j => (.ret, ⟨[.und, .und, I t, .bp 0 0, .bp 1 0, B true, I j], [.box [I t1, .t (tL l1)], .box [I t2, .t (tL l2)]]⟩)
        | none => (.exit 0, ⟨[.und, .und, I t, .bp 0 0, .bp 1 0, .und, I (min l1.length l2.length : Nat)], [.box [I t1, .t (tL l1)], .box [I t2, .t (tL l2)]]⟩)) := by
    intro x y z
    refine loop_first (fun j => ⟨[.und, .und, I t, .bp 0 0, .bp 1 0, .und, I j], [.box [I t1, .t (tL l1)], .box [I t2, .t (tL l2)]]⟩) (min l1.length l2.length) (fun p => decide (nth l1 p ≤ t ∧ nth l2 p ≤ t)) _ _ rfl ?_ ?_ ?_ (by simp)
    · intro j hj hp
      have hp : ¬ (nth l1 j ≤ t ∧ nth l2 j ≤ t) := of_decide_eq_false hp
      by_cases c : nth l1 j ≤ t
      · simp (disch := omega) only [go_sem, K.ref26_meet_l1b, ↓reduceIte, c]
      · simp (disch := omega) only [go_sem, K.ref26_meet_l1b, ↓reduceIte, c]
    · intro j hj hp
      have hp : nth l1 j ≤ t ∧ nth l2 j ≤ t := of_decide_eq_true hp
      refine ⟨?_, by simp⟩
      simp (disch := omega) only [go_sem, K.ref26_meet_l1b, ↓reduceIte]
    · by_cases h1 : l1.length ≤ l2.length
      · have e : min l1.length l2.length = l1.length := by omega
        rw [e]
        simp (disch := omega) only [go_sem, K.ref26_meet_l1b, ↓reduceIte]
      · have e : min l1.length l2.length = l2.length := by omega
        rw [e]
        simp (disch := omega) only [go_sem, K.ref26_meet_l1b, ↓reduceIte]
  rw [← find_any]
  simp (disch := omega) only [go_sem, K.ref26_meet, ↓reduceIte, loop]
  cases hf : (List.range (min l1.length l2.length)).find? (fun p => decide (nth l1 p ≤ t ∧ nth l2 p ≤ t)) with
  | some j => simp (disch := omega) only [go_sem, ↓reduceIte, Option.isSome]
  | none => simp (disch := omega) only [go_sem, ↓reduceIte, Option.isSome]

def mayB (b : Bel) (person t : Int) (p : Nat) : Bool := (List.range b.worlds.length).any fun i => decide (0 ≤ person ∧ person < (nth b.worlds i).whr.length) && decide ((p : Int) ∈ possF (nth (nth b.worlds i).whr person.toNat) t)
def possB (b : Bel) (person t : Int) : List Int := whereF 64 (mayB b person t)

theorem possible26_ok (b : Bel) (hs : b.sz) (person t : Int) : CALL 0 N.ref26_Possible [.t b.e, I person, I t] [] = some (.t (tL (possB b person t)), []) := by
  refine CALL_of K.t_ref26_Possible rfl ?_
  obtain ⟨h1, h2⟩ := hs
  obtain ⟨ws⟩ := b
  simp only at h1 h2
  have hlen := fun k => whereF_len k (mayB ⟨ws⟩ person t)
  have inner : ∀ (j : Nat), j < 64 → ∀ a c : D, exS CALL K.ref26_Possible_l2 ⟨[a, I person, I t, .bp 0 0, c, .ref 1 0 (whereF j (mayB ⟨ws⟩ person t)).length, I j, I 0], [.box [.t (.sl (ws.map World.e))], .arr 1 false 0 (((whereF j (mayB ⟨ws⟩ person t)).map (T.int .i64)).map .t)]⟩ =
      some (match (List.range ws.length).find? (fun i => decide (0 ≤ person ∧ person < (nth ws i).whr.length) && decide ((j : Int) ∈ possF (nth (nth ws i).whr person.toNat) t)) with
        | some i => (.exit 2, ⟨[.und, I person, I t, .bp 0 0, .und, .ref 1 0 ((whereF j (mayB ⟨ws⟩ person t)).length + 1), I j, I i], [.box [.t (.sl (ws.map World.e))], .arr 1 false 0 (((whereF j (mayB ⟨ws⟩ person t) ++ [(j : Int)]).map (T.int .i64)).map .t)]⟩)
        | none => (.exit 2, ⟨[.und, I person, I t, .bp 0 0, .und, .ref 1 0 (whereF j (mayB ⟨ws⟩ person t)).length, I j, I ws.length], [.box [.t (.sl (ws.map World.e))], .arr 1 false 0 (((whereF j (mayB ⟨ws⟩ person t)).map (T.int .i64)).map .t)]⟩)) := by
    intro j hj a c
    have hlen := hlen j
    refine loop_first (fun i => ⟨[.und, I person, I t, .bp 0 0, .und, .ref 1 0 (whereF j (mayB ⟨ws⟩ person t)).length, I j, I i], [.box [.t (.sl (ws.map World.e))], .arr 1 false 0 (((whereF j (mayB ⟨ws⟩ person t)).map (T.int .i64)).map .t)]⟩) ws.length _ _ _ rfl ?_ ?_ ?_ (by simp)
    · intro i hi hp
      have sz := h2 _ (nth_mem hi)
      generalize hx : nth ws i = x at *
      obtain ⟨tags, whr⟩ := x
      obtain ⟨s1, s2, s3⟩ := sz
      simp only at s1 s2 s3 hp
      generalize whereF j (mayB ⟨ws⟩ person t) = L at *
      by_cases c1 : 0 ≤ person
      · by_cases c2 : person < whr.length
        · have ps := possible25_ok (nth whr person.toNat) t (s3 _ (nth_mem (by omega)))
          have hs := has_ok (possF (nth whr person.toNat) t) j (by
            have := whereF_len (nth whr person.toNat).frm.length (fun j => decide (nth (nth whr person.toNat).frm j ≤ t))
            have := s3 _ (nth_mem (l := whr) (j := person.toNat) (by omega))
            unfold possF; omega)
          simp only [c1, c2, and_self, decide_true, Bool.true_and, decide_eq_false_iff_not] at hp
          simp only [hp, decide_false] at hs
          generalize hy : nth whr person.toNat = y at *
          obtain ⟨time, frm⟩ := y
          simp (disch := omega) only [go_sem, K.ref26_Possible_l2b, ↓reduceIte, hx, hy, ps, hs]
        · simp (disch := omega) only [go_sem, K.ref26_Possible_l2b, ↓reduceIte, hx]
      · simp (disch := omega) only [go_sem, K.ref26_Possible_l2b, ↓reduceIte, hx]
    · intro i hi hp
      have sz := h2 _ (nth_mem hi)
      generalize hx : nth ws i = x at *
      obtain ⟨tags, whr⟩ := x
      obtain ⟨s1, s2, s3⟩ := sz
      simp only [Bool.and_eq_true, decide_eq_true_eq] at s1 s2 s3 hp
      obtain ⟨⟨c1, c2⟩, c3⟩ := hp
      generalize whereF j (mayB ⟨ws⟩ person t) = L at *
      have ps := possible25_ok (nth whr person.toNat) t (s3 _ (nth_mem (by omega)))
      have hs := has_ok (possF (nth whr person.toNat) t) j (by
        have := whereF_len (nth whr person.toNat).frm.length (fun j => decide (nth (nth whr person.toNat).frm j ≤ t))
        have := s3 _ (nth_mem (l := whr) (j := person.toNat) (by omega))
        unfold possF; omega)
      simp only [c3, decide_true] at hs
      generalize hy : nth whr person.toNat = y at *
      obtain ⟨time, frm⟩ := y
      refine ⟨?_, by simp⟩
      simp (disch := omega) only [go_sem, K.ref26_Possible_l2b, ↓reduceIte, hx, hy, ps, hs]
    · generalize whereF j (mayB ⟨ws⟩ person t) = L at *
      simp (disch := omega) only [go_sem, K.ref26_Possible_l2b, ↓reduceIte]
  have loop : ∀ a b c : D, exS CALL K.ref26_Possible_l1 ⟨[a, I person, I t, .bp 0 0, b, .ref 1 0 0, I 0, c], [.box [.t (.sl (ws.map World.e))], .arr 1 false 0 []]⟩ =
      some (.exit 0, ⟨[.und, I person, I t, .bp 0 0, .und, .ref 1 0 (whereF 64 (mayB ⟨ws⟩ person t)).length, I 64, .und], [.box [.t (.sl (ws.map World.e))], .arr 1 false 0 (((whereF 64 (mayB ⟨ws⟩ person t)).map (T.int .i64)).map .t)]⟩) := by
    intro a b c
    refine loop_up (fun j => ⟨[.und, I person, I t, .bp 0 0, .und, .ref 1 0 (whereF j (mayB ⟨ws⟩ person t)).length, I j, .und], [.box [.t (.sl (ws.map World.e))], .arr 1 false 0 (((whereF j (mayB ⟨ws⟩ person t)).map (T.int .i64)).map .t)]⟩) 64 rfl ?_ ?_ (by simp)
    · intro j hj
      have inner := inner j hj
      have hlen := hlen j
      rw [whereF_succ]
      have e : mayB ⟨ws⟩ person t j = ((List.range ws.length).find? (fun i => decide (0 ≤ person ∧ person < (nth ws i).whr.length) && decide ((j : Int) ∈ possF (nth (nth ws i).whr person.toNat) t))).isSome := by rw [find_any]; rfl
      cases hf : (List.range ws.length).find? (fun i => decide (0 ≤ person ∧ person < (nth ws i).whr.length) && decide ((j : Int) ∈ possF (nth (nth ws i).whr person.toNat) t)) with
      | some i =>
        rw [hf] at e inner
        simp only [Option.isSome] at e
        simp (disch := omega) only [go_sem, K.ref26_Possible_l1b, ↓reduceIte, inner, e]
      | none =>
        rw [hf] at e inner
        simp only [Option.isSome] at e
        simp (disch := omega) only [go_sem, K.ref26_Possible_l1b, ↓reduceIte, inner, e, Bool.false_eq_true]
    · simp (disch := omega) only [go_sem, K.ref26_Possible_l1b, ↓reduceIte]
      rfl
  have := hlen 64
  simp (disch := omega) only [go_sem, K.ref26_Possible, ↓reduceIte, loop, possB]

end Go.Ev

/- Chapter 26 of the references: starts. -/
namespace Go.Ev
open Go
variable [Lib] [Has1] [Has2]

def startWs (m : Mine) (starts : List Int) (t : Int) (j : Nat) : List Wh := (List.range j).map fun i => (startF m (nth starts i) t).1
theorem startWs_succ (m : Mine) (starts : List Int) (t : Int) (j : Nat) : startWs m starts t (j + 1) = startWs m starts t j ++ [(startF m (nth starts j) t).1] := by
  unfold startWs; rw [List.range_succ, List.map_append]; rfl
@[simp] theorem startWs_len (m : Mine) (starts : List Int) (t : Int) (j : Nat) : (startWs m starts t j).length = j := by simp [startWs]

def startBel (m : Mine) (tags starts : List Int) (t : Int) : Bel × Int :=
  if tags.length = starts.length ∧ 1 ≤ tags.length ∧ tags.length ≤ 12 then
    if properB tags = true then match (List.range tags.length).find? (fun i => !decide ((startF m (nth starts i) t).2 = 0)) with
      | some i => (⟨[]⟩, (startF m (nth starts i) t).2)
      | none => (⟨[⟨tags, startWs m starts t tags.length⟩]⟩, 0)
    else (⟨[]⟩, 41)
  else (⟨[]⟩, 6)

abbrev stH (m : Mine) (tags : List Int) (r : D) (ws : List Wh) : Heap := [.box (mineCells m), .box [r], .arr 1 false 0 ((tags.map (T.int .i64)).map .t), .box [.ref 2 0 tags.length, .ref 5 0 ws.length], .arr 2 false 0 [], .arr 2 false 0 ((ws.map Wh.e).map .t)]

theorem startBel_ok {m : Mine} (h : m.ok) (tags starts : List Int) (hl : tags.length ≤ 1000000) (t : Int) :
    CALL 0 N.ref26_Start [.t m.e, .t (tL tags), .t (tL starts), I t] [] = some (.tup [.t (startBel m tags starts t).1.e, I (startBel m tags starts t).2], []) := by
  refine CALL_of K.t_ref26_Start rfl ?_
  have ck := check_ok h
  have pr := proper_ok tags hl
  unfold startBel
  by_cases c1 : tags.length = starts.length
  · by_cases c2 : tags.length < 1
    · simp (disch := omega) only [go_sem, K.ref26_Start, ↓reduceIte, ck, show ¬ (tags.length = starts.length ∧ 1 ≤ tags.length ∧ tags.length ≤ 12) by omega]
      rfl
    · by_cases c3 : 12 < tags.length
      · simp (disch := omega) only [go_sem, K.ref26_Start, ↓reduceIte, ck, show ¬ (tags.length = starts.length ∧ 1 ≤ tags.length ∧ tags.length ≤ 12) by omega]
        rfl
      · have c : tags.length = starts.length ∧ 1 ≤ tags.length ∧ tags.length ≤ 12 := by omega
        rw [if_pos c]
        clear c
        cases hp : properB tags with
        | false =>
          rw [hp] at pr
          simp (disch := omega) only [go_sem, K.ref26_Start, ↓reduceIte, ck, pr, Bool.false_eq_true]
          rfl
        | true =>
          rw [hp] at pr
          have loop : ∀ a b c d : D, exS CALL K.ref26_Start_l1 ⟨[a, .t (tL tags), .t (tL starts), I t, .bp 0 0, .bp 1 0, b, .bp 3 0, I 0, c, d], stH m tags .nil []⟩ =
              some (match (List.range tags.length).find? (fun i => !decide ((startF m (nth starts i) t).2 = 0)) with
                | some i => (.ret, ⟨[.und, .t (tL tags), .t (tL starts), I t, .bp 0 0, .bp 1 0, I (startF m (nth starts i) t).2, .bp 3 0, I i, .bp 6 0, I (startF m (nth starts i) t).2], stH m tags .nil (startWs m starts t i) ++ [.box [I (startF m (nth starts i) t).1.time, .t (tL (startF m (nth starts i) t).1.frm)]]⟩)
                | none => (.exit 0, ⟨[.und, .t (tL tags), .t (tL starts), I t, .bp 0 0, .bp 1 0, .und, .bp 3 0, I tags.length, .und, .und], stH m tags .nil (startWs m starts t tags.length)⟩)) := by
            intro a b c d
            refine loop_first (fun j => ⟨[.und, .t (tL tags), .t (tL starts), I t, .bp 0 0, .bp 1 0, .und, .bp 3 0, I j, .und, .und], stH m tags .nil (startWs m starts t j)⟩) tags.length _ _ _ rfl ?_ ?_ ?_ (by simp)
            · intro j hj hp
              have st := start_ok h (nth starts j) t
              have ln := startWs_len m starts t j
              have hp : (startF m (nth starts j) t).2 = 0 := by simpa using hp
              rw [startWs_succ]
              generalize startWs m starts t j = L at *
              generalize startF m (nth starts j) t = r at *
              obtain ⟨⟨time, frm⟩, e⟩ := r
              simp only at st hp ⊢
              subst hp
              simp (disch := omega) only [go_sem, K.ref26_Start_l1b, ↓reduceIte, stH, st, Nat.reduceAdd, Nat.reduceSub]
              done
            · intro j hj hp
              have st := start_ok h (nth starts j) t
              have ln := startWs_len m starts t j
              have hp : (startF m (nth starts j) t).2 ≠ 0 := by simpa using hp
              generalize startWs m starts t j = L at *
              generalize startF m (nth starts j) t = r at *
              obtain ⟨⟨time, frm⟩, e⟩ := r
              simp only at st hp ⊢
              refine ⟨?_, by simp⟩
              simp (disch := omega) only [go_sem, K.ref26_Start_l1b, ↓reduceIte, stH, st, Nat.reduceAdd, Nat.reduceSub]
              done
            · have ln := startWs_len m starts t tags.length
              generalize startWs m starts t tags.length = L at *
              simp (disch := omega) only [go_sem, K.ref26_Start_l1b, ↓reduceIte]
          simp only [stH, List.map_nil, List.length_nil] at loop
          simp (disch := omega) only [go_sem, K.ref26_Start, ↓reduceIte, ck, pr, loop]
          cases hf : (List.range tags.length).find? (fun i => !decide ((startF m (nth starts i) t).2 = 0)) with
          | some i => 
            simp (disch := omega) only [go_sem, ↓reduceIte]
            rfl
          | none =>
            have ln := startWs_len m starts t tags.length
            generalize startWs m starts t tags.length = L at *
            simp (disch := omega) only [go_sem, ↓reduceIte]
            rfl
  · simp (disch := omega) only [go_sem, K.ref26_Start, ↓reduceIte, ck, show ¬ (tags.length = starts.length ∧ 1 ≤ tags.length ∧ tags.length ≤ 12) by omega]
    rfl

end Go.Ev

