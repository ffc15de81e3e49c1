/- Parts of the proof: see the text that holds the theorem. -/
import Derived.Test.YthecjbcacbllaaaZ4
set_option linter.all false
set_option maxRecDepth 100000
/- Chapter 28 of the references: a change. -/
namespace Go.Ev
open Go
variable [Lib] [Has1] [Has2]

def chHalf (m : Mine) (fl : List Spn) (frm : List Int) (t : Int) (k : Nat) (back : Bool) (l : List Int) : List Int :=
  if nth frm ((nth m.roads k).src back).toNat ≤ t ∧ 0 ≤ travelF (nth m.roads k) (nth fl k) back then l.set ((nth m.roads k).dst back).toNat (min (nth l ((nth m.roads k).dst back).toNat) t) else l
def chStep (m : Mine) (fl : List Spn) (frm : List Int) (t : Int) (k : Nat) (l : List Int) : List Int := chHalf m fl frm t k true (chHalf m fl frm t k false l)
def chN (m : Mine) (fl : List Spn) (frm : List Int) (t : Int) : Nat → List Int
  | 0 => frm
  | k + 1 => chStep m fl frm t k (chN m fl frm t k)
def maxN (t : Int) (l : List Int) : Nat → List Int
  | 0 => l
  | k + 1 => (maxN t l k).set k (max (nth (maxN t l k) k) t)

theorem chHalf_len (m : Mine) (fl : List Spn) (frm : List Int) (t : Int) (k : Nat) (back : Bool) (l : List Int) : (chHalf m fl frm t k back l).length = l.length := by
  unfold chHalf; split <;> simp
theorem chN_len (m : Mine) (fl : List Spn) (frm : List Int) (t : Int) : ∀ k, (chN m fl frm t k).length = frm.length
  | 0 => rfl
  | k + 1 => by simp only [chN, chStep, chHalf_len, chN_len m fl frm t k]
theorem maxN_len (t : Int) (l : List Int) : ∀ k, (maxN t l k).length = l.length
  | 0 => rfl
  | k + 1 => by simp only [maxN, List.length_set, maxN_len t l k]
theorem chHalf_bnd {m : Mine} (h : m.ok) (fl : List Spn) (frm : List Int) {t : Int} (ht : inT t) {k : Nat} (hk : k < m.roads.length) (back : Bool) {l : List Int} (hl : l.length = m.places.length) (hb : bnd l) : bnd (chHalf m fl frm t k back l) := by
  have r2 := Road.dst_ok (h.rs _ (nth_mem hk)) back
  unfold chHalf
  split
  · have := hb _ (nth_mem (l := l) (j := ((nth m.roads k).dst back).toNat) (by omega))
    unfold inT at ht
    exact bnd_set hb (by omega) (by omega)
  · exact hb
theorem chN_bnd {m : Mine} (h : m.ok) (fl : List Spn) {frm : List Int} (hl : frm.length = m.places.length) (hb : bnd frm) {t : Int} (ht : inT t) : ∀ k, k ≤ m.roads.length → bnd (chN m fl frm t k)
  | 0, _ => hb
  | k + 1, hk => chHalf_bnd h fl frm ht (by omega) _ (by rw [chHalf_len, chN_len, hl]) (chHalf_bnd h fl frm ht (by omega) _ (by rw [chN_len, hl]) (chN_bnd h fl hl hb ht k (by omega)))
theorem maxN_bnd {t : Int} (ht : inT t) {l : List Int} (hb : bnd l) : ∀ k, k ≤ l.length → bnd (maxN t l k)
  | 0, _ => hb
  | k + 1, hk => by
    have ih := maxN_bnd ht hb k (by omega)
    have := ih _ (nth_mem (l := maxN t l k) (j := k) (by rw [maxN_len]; omega))
    unfold inT at ht
    exact bnd_set ih (by omega) (by omega)

def changeS (m : Mine) (old : List Spn) (next : Mine) (fl : List Spn) (s : Wh) (t : Int) : Wh × Int :=
  if validS m s = false ∨ flowsB m old = false ∨ flowsB next fl = false ∨ next.places.length ≠ m.places.length then (s, 6) else
  if t < s.time ∨ 2147483648 < t then (s, 8) else (⟨t, closeS next fl (maxN t (chN m old s.frm t m.roads.length) m.places.length)⟩, 0)

theorem validS_spec {m : Mine} {s : Wh} (h : validS m s = true) : s.frm.length = m.places.length ∧ inT s.time ∧ ∀ x ∈ s.frm, plS s.time x := by
  simp only [validS, Bool.and_eq_true, decide_eq_true_eq, List.all_eq_true, List.mem_range] at h
  refine ⟨h.2.1, h.2.2, fun x hx => ?_⟩
  obtain ⟨j, hj⟩ := List.mem_iff_getElem?.1 hx
  have := h.1 j (List.getElem?_eq_some_iff.1 hj).1
  rwa [nth_eq hj] at this

/-- One road of a change. -/
theorem ch_step {m : Mine} (h : m.ok) (old : List Spn) (fl1 : old.length = m.roads.length) (fl2 : ∀ j, j < old.length → (nth old j).ok) (time t : Int) (ht : inT t) (frm l : List Int) (hl0 : frm.length = m.places.length) (hl : l.length = m.places.length)
    (k : Nat) (hk : k < m.roads.length) (H3 : List D) (r : D) (hr : Go.Ev.old 5 8 r = true) (h3 : allOld 5 8 H3 = true) :
    roundC true [0, 2, 4, 10, 13, 14] 5 (exS CALL K.ref28_Change_l1b ⟨[.und, .t (tS old), .und, r, .und, I t, .bp 0 0, .bp 1 0, .bp 2 0, .bp 3 0, .und, .ref 4 0 l.length, I k, .und, .und], [.box (mineCells m), .box H3, .box [I time, .t (tL frm)], .box [I 0, .nil], .arr 1 false 0 ((l.map (T.int .i64)).map .t)]⟩) =
      some ⟨[.und, .t (tS old), .und, r, .und, I t, .bp 0 0, .bp 1 0, .bp 2 0, .bp 3 0, .und, .ref 4 0 l.length, I (k + 1), .und, .und], [.box (mineCells m), .box H3, .box [I time, .t (tL frm)], .box [I 0, .nil], .arr 1 false 0 (((chStep m old frm t k l).map (T.int .i64)).map .t)]⟩ := by
  have np := h.np
  have nr := h.nr
  have t1 := travel_ok h k hk (nth old k) (fl2 k (by omega)) false
  have t2 := travel_ok h k hk (nth old k) (fl2 k (by omega)) true
  have r1 := Road.src_ok (h.rs _ (nth_mem hk)) false
  have r2 := Road.dst_ok (h.rs _ (nth_mem hk)) false
  simp only [Road.src, Road.dst, Bool.false_eq_true, ↓reduceIte] at r1 r2
  obtain ⟨f0, f1⟩ := r1
  obtain ⟨t0, t1'⟩ := r2
  unfold inT at ht
  simp only [chStep, chHalf, Road.src, Road.dst, Bool.false_eq_true, ↓reduceIte]
  generalize hw1 : travelF (nth m.roads k) (nth old k) false = v1 at *
  generalize hw2 : travelF (nth m.roads k) (nth old k) true = v2 at *
  generalize hx : nth m.roads k = x at *
  obtain ⟨a, b, len, area, walk, closed, rl, rh, ll, lh⟩ := x
  simp only at f0 f1 t0 t1' ⊢
  clear hw1 hw2 fl2
  have ln : (l.set b.toNat (min (nth l b.toNat) t)).length = l.length := List.length_set ..
  by_cases c1 : nth frm a.toNat ≤ t
  · by_cases c2 : 0 ≤ v1
    · by_cases c3 : nth frm b.toNat ≤ t
      · by_cases c4 : 0 ≤ v2
        · simp (disch := omega) only [go_sem, K.ref28_Change_l1b, ↓reduceIte, hx, t1, t2, c1, c2, c3, c4, and_self, hr, h3]
        · simp (disch := omega) only [go_sem, K.ref28_Change_l1b, ↓reduceIte, hx, t1, t2, c1, c2, c3, c4, and_self, and_false, hr, h3]
      · simp (disch := omega) only [go_sem, K.ref28_Change_l1b, ↓reduceIte, hx, t1, t2, c1, c2, c3, and_self, false_and, hr, h3]
    · by_cases c3 : nth frm b.toNat ≤ t
      · by_cases c4 : 0 ≤ v2
        · simp (disch := omega) only [go_sem, K.ref28_Change_l1b, ↓reduceIte, hx, t1, t2, c1, c2, c3, c4, and_self, and_false, hr, h3]
        · simp (disch := omega) only [go_sem, K.ref28_Change_l1b, ↓reduceIte, hx, t1, t2, c1, c2, c3, c4, and_self, and_false, hr, h3]
      · simp (disch := omega) only [go_sem, K.ref28_Change_l1b, ↓reduceIte, hx, t1, t2, c1, c2, c3, and_self, false_and, and_false, hr, h3]
  · by_cases c3 : nth frm b.toNat ≤ t
    · by_cases c4 : 0 ≤ v2
      · simp (disch := omega) only [go_sem, K.ref28_Change_l1b, ↓reduceIte, hx, t1, t2, c1, c3, c4, and_self, and_false, false_and, hr, h3]
      · simp (disch := omega) only [go_sem, K.ref28_Change_l1b, ↓reduceIte, hx, t1, t2, c1, c3, c4, and_self, and_false, false_and, hr, h3]
    · simp (disch := omega) only [go_sem, K.ref28_Change_l1b, ↓reduceIte, hx, t1, t2, c1, c3, and_self, false_and, hr, h3]

theorem changeS_ok {m : Mine} (h : m.ok) (old : List Spn) (ho : old.length ≤ 1000000) {next : Mine} (hn : next.ok) (fl : List Spn) (hfl : fl.length ≤ 1000000) (s : Wh) (hs : s.frm.length ≤ 1000000) (t : Int) :
    CALL 0 N.ref28_Change [.t m.e, .t (tS old), .t next.e, .t (tS fl), .t s.e, I t] [] = some (.tup [.t (changeS m old next fl s t).1.e, I (changeS m old next fl s t).2], []) := by
  refine CALL_of K.t_ref28_Change rfl ?_
  have c := copyS_ok s (by omega)
  have v := validS_ok h s hs
  have nr := h.nr
  have nr2 := hn.nr
  have np := h.np
  have np2 := hn.np
  have f1 := flows_ok m (by omega) old ho
  have f2 := flows_ok next (by omega) fl hfl
  have ck := check_ok hn
  unfold changeS
  cases hv : validS m s with
  | false =>
    rw [hv] at v
    obtain ⟨time, frm⟩ := s
    simp only at *
    simp (disch := omega) only [go_sem, K.ref28_Change, ↓reduceIte, c, v, true_or]
  | true =>
    rw [hv] at v
    obtain ⟨s1, s2, s3⟩ := validS_spec hv
    cases ho : flowsB m old with
    | false =>
      rw [ho] at f1
      obtain ⟨time, frm⟩ := s
      simp only at *
      simp (disch := omega) only [go_sem, K.ref28_Change, ↓reduceIte, c, v, f1, true_or, or_true]
    | true =>
      rw [ho] at f1
      obtain ⟨o1, o2⟩ := flowsB_spec ho
      cases hf : flowsB next fl with
      | false =>
        rw [hf] at f2
        obtain ⟨time, frm⟩ := s
        simp only at *
        simp (disch := omega) only [go_sem, K.ref28_Change, ↓reduceIte, c, v, f1, f2, ck, true_or, or_true]
      | true =>
        rw [hf] at f2
        by_cases hp : next.places.length = m.places.length
        · by_cases h1 : t < s.time
          · obtain ⟨time, frm⟩ := s
            simp only at *
            simp (disch := omega) only [go_sem, K.ref28_Change, ↓reduceIte, c, v, f1, f2, ck, hp, h1, true_or, ne_eq, not_true_eq_false, or_self, Bool.true_eq_false]
          · by_cases h2 : 2147483648 < t
            · obtain ⟨time, frm⟩ := s
              simp only at *
              simp (disch := omega) only [go_sem, K.ref28_Change, ↓reduceIte, c, v, f1, f2, ck, hp, h1, h2, or_true, ne_eq, not_true_eq_false, or_self, Bool.true_eq_false]
            · have ht : inT t := by unfold inT at s2 ⊢; omega
              obtain ⟨time, frm⟩ := s
              simp only at s1 s2 s3 c v h1 hs ⊢
              have hb : bnd frm := fun x hx => by
                have := s3 x hx
                unfold plS at this; unfold inT at s2; omega
              have l1 : ∀ a b c d e f : D, exS CALL K.ref28_Change_l1 ⟨[a, .t (tS old), b, .t (tS fl), c, I t, .bp 0 0, .bp 1 0, .bp 2 0, .bp 3 0, d, .ref 4 0 frm.length, I 0, e, f], [.box (mineCells m), .box (mineCells next), .box [I time, .t (tL frm)], .box [I 0, .nil], .arr 1 false 0 ((frm.map (T.int .i64)).map .t)]⟩ =
                  some (.exit 0, ⟨[.und, .t (tS old), .und, .t (tS fl), .und, I t, .bp 0 0, .bp 1 0, .bp 2 0, .bp 3 0, .und, .ref 4 0 frm.length, I m.roads.length, .und, .und], [.box (mineCells m), .box (mineCells next), .box [I time, .t (tL frm)], .box [I 0, .nil], .arr 1 false 0 (((chN m old frm t m.roads.length).map (T.int .i64)).map .t)]⟩) := by
                intro a b c d e f
                refine loop_up (fun j => ⟨[.und, .t (tS old), .und, .t (tS fl), .und, I t, .bp 0 0, .bp 1 0, .bp 2 0, .bp 3 0, .und, .ref 4 0 frm.length, I j, .und, .und], [.box (mineCells m), .box (mineCells next), .box [I time, .t (tL frm)], .box [I 0, .nil], .arr 1 false 0 (((chN m old frm t j).map (T.int .i64)).map .t)]⟩) m.roads.length rfl ?_ ?_ (by simp)
                · intro j hj
                  have st := ch_step h old o1 o2 time t ht frm (chN m old frm t j) s1 (by rw [chN_len, s1]) j hj (mineCells next) (.t (tS fl)) rfl rfl
                  rw [chN_len] at st
                  exact st
                · simp (disch := omega) only [go_sem, K.ref28_Change_l1b, ↓reduceIte]
              have lc := chN_len m old frm t m.roads.length
              have bc := chN_bnd h old s1 hb ht m.roads.length (Nat.le_refl _)
              generalize hL : chN m old frm t m.roads.length = L at *
              have lm := maxN_len t L
              have l2 : ∀ a b c d e f g h' i : D, exS CALL K.ref28_Change_l2 ⟨[a, b, c, .t (tS fl), d, I t, e, .bp 1 0, f, .bp 3 0, g, .ref 4 0 L.length, h', i, I 0], [.box (mineCells m), .box (mineCells next), .box [I time, .t (tL frm)], .box [I 0, .nil], .arr 1 false 0 ((L.map (T.int .i64)).map .t)]⟩ =
                  some (.exit 2, ⟨[.und, .und, .und, .t (tS fl), .und, I t, .und, .bp 1 0, .und, .bp 3 0, .und, .ref 4 0 L.length, .und, .und, I L.length], [.box (mineCells m), .box (mineCells next), .box [I time, .t (tL frm)], .box [I 0, .nil], .arr 1 false 0 (((maxN t L L.length).map (T.int .i64)).map .t)]⟩) := by
                intro a b c d e f g h' i
                refine loop_up (fun j => ⟨[.und, .und, .und, .t (tS fl), .und, I t, .und, .bp 1 0, .und, .bp 3 0, .und, .ref 4 0 L.length, .und, .und, I j], [.box (mineCells m), .box (mineCells next), .box [I time, .t (tL frm)], .box [I 0, .nil], .arr 1 false 0 (((maxN t L j).map (T.int .i64)).map .t)]⟩) L.length rfl ?_ ?_ (by simp)
                · intro j hj
                  have lj := lm j
                  simp (disch := omega) only [go_sem, K.ref28_Change_l2b, ↓reduceIte, maxN]
                · simp (disch := omega) only [go_sem, K.ref28_Change_l2b, ↓reduceIte]
              have lm := lm L.length
              have bm := maxN_bnd ht bc L.length (Nat.le_refl _)
              have cl := (closeS_ok hn fl hf (maxN t L L.length) (by omega) bm).1
              have e : m.places.length = frm.length := by omega
              rw [lc] at l2 cl lm
              simp (disch := omega) only [go_sem, K.ref28_Change, ↓reduceIte, c, v, f1, f2, ck, hp, h1, h2, e, or_false, ne_eq, not_true_eq_false, or_self, Bool.true_eq_false, l1, l2, cl]
              done
        · obtain ⟨time, frm⟩ := s
          simp only at *
          simp (disch := omega) only [go_sem, K.ref28_Change, ↓reduceIte, c, v, f1, f2, ck, hp, not_false_eq_true, ne_eq, or_true]

end Go.Ev

/- The program: smoke. -/
namespace Go.Ev
open Go
variable [Lib] [Has1] [Has2] [Has6] [Has7]

theorem sTravel_ok {m : Mine} (h : m.ok) (k : Nat) (hk : k < m.roads.length) (f : Spn) (hf : f.ok) (back : Bool) :
    CALL 0 N.smoke_Travel [.t m.e, I k, .t f.e, B back] [] = some (I (travelF (nth m.roads k) f back), []) := by
  refine CALL_of K.t_smoke_Travel rfl ?_
  have nr := h.nr
  have ok := h.rs _ (nth_mem hk)
  obtain ⟨lo, hi⟩ := f
  unfold Spn.ok at hf
  unfold travelF
  have g0 : (m.roads.map Road.e)[k]? = some (nth m.roads k).e := map_nth _ hk
  generalize nth m.roads k = x at *
  have l0 := ok.l0; have l1 := ok.l1; have a0 := ok.a0; have a1 := ok.a1
  obtain ⟨frm, to, len, area, walk, closed, rl, rh, ll, lh⟩ := x
  simp only at l0 l1 a0 a1 hf g0 ⊢
  clear ok
  have hm : 0 ≤ len * area := Int.mul_nonneg (by omega) (by omega)
  have hm2 : len * area ≤ 100000 * 1000 := Int.mul_le_mul l1 a1 (by omega) (by omega)
  have w1 : IntKind.i64.wrap (-lo) = -lo := wrap_id (by omega) (by omega)
  have w2 : IntKind.i64.wrap (-hi) = -hi := wrap_id (by omega) (by omega)
  obtain ⟨places, roads⟩ := m
  simp only at hk nr g0
  cases closed with
  | true => simp (disch := omega) only [go_sem, K.smoke_Travel, ↓reduceIte, g0, Nat.reduceAdd, Nat.reduceSub]
  | false =>
    cases back with
    | false =>
      by_cases c1 : 0 < hi
      · have g1 := tdiv_bd (a := len * area * 1000) (b := hi) (by omega) (by omega)
        by_cases c2 : len < (len * area * 1000).tdiv hi
        · simp (disch := omega) only [go_sem, K.smoke_Travel, ↓reduceIte, g0, w1, w2, c1, c2, and_self, or_true, and_true, Bool.false_eq_true, Nat.reduceAdd, Nat.reduceSub]
        · by_cases c3 : (len * area * 1000).tdiv hi < len
          · simp (disch := omega) only [go_sem, K.smoke_Travel, ↓reduceIte, g0, w1, w2, c1, c2, c3, and_self, or_false, and_true, and_false, Bool.false_eq_true, Nat.reduceAdd, Nat.reduceSub]
          · have e : (len * area * 1000).tdiv hi = len := by omega
            simp (disch := omega) only [go_sem, K.smoke_Travel, ↓reduceIte, g0, w1, w2, c1, e, and_self, or_false, and_true, and_false, Bool.false_eq_true, Nat.reduceAdd, Nat.reduceSub]
      · by_cases c2 : -500 * area < hi
        · simp (disch := omega) only [go_sem, K.smoke_Travel, ↓reduceIte, g0, w1, w2, c1, c2, and_self, true_or, and_true, Bool.false_eq_true, Nat.reduceAdd, Nat.reduceSub]
        · simp (disch := omega) only [go_sem, K.smoke_Travel, ↓reduceIte, g0, w1, w2, c1, c2, false_and, Bool.false_eq_true, Nat.reduceAdd, Nat.reduceSub]
    | true =>
      by_cases c1 : 0 < -lo
      · have g1 := tdiv_bd (a := len * area * 1000) (b := -lo) (by omega) (by omega)
        by_cases c2 : len < (len * area * 1000).tdiv (-lo)
        · simp (disch := omega) only [go_sem, K.smoke_Travel, ↓reduceIte, g0, w1, w2, c1, c2, Int.zero_sub, and_self, or_true, and_true, Bool.false_eq_true, Nat.reduceAdd, Nat.reduceSub]
        · by_cases c3 : (len * area * 1000).tdiv (-lo) < len
          · simp (disch := omega) only [go_sem, K.smoke_Travel, ↓reduceIte, g0, w1, w2, c1, c2, c3, Int.zero_sub, and_self, or_false, and_true, and_false, Bool.false_eq_true, Nat.reduceAdd, Nat.reduceSub]
          · have e : (len * area * 1000).tdiv (-lo) = len := by omega
            simp (disch := omega) only [go_sem, K.smoke_Travel, ↓reduceIte, g0, w1, w2, c1, e, Int.zero_sub, and_self, or_false, and_true, and_false, Bool.false_eq_true, Nat.reduceAdd, Nat.reduceSub]
      · by_cases c2 : lo < 500 * area
        · simp (disch := omega) only [go_sem, K.smoke_Travel, ↓reduceIte, g0, w1, w2, c1, c2, Int.zero_sub, and_self, true_or, and_true, Bool.false_eq_true, Nat.reduceAdd, Nat.reduceSub]
        · simp (disch := omega) only [go_sem, K.smoke_Travel, ↓reduceIte, g0, w1, w2, c1, c2, Int.zero_sub, false_and, Bool.false_eq_true, Nat.reduceAdd, Nat.reduceSub]

/- the program's look at a mine: only at good ones -/
theorem spanIn_ok (a b lo hi : Int) (h1 : lo ≤ a) (h2 : a ≤ b) (h3 : b ≤ hi) : CALL 0 N.plan_spanIn [.t (.agg [tI a, tI b]), I lo, I hi] [] = some (B true, []) := by
  refine CALL_of K.t_plan_spanIn rfl ?_
  simp (disch := omega) only [go_sem, K.plan_spanIn, ↓reduceIte, Nat.reduceAdd, Nat.reduceSub]
theorem planCheck_ok {m : Mine} (h : m.ok) : CALL 0 N.plan_Check [.t m.e] [] = some (I 0, []) := by
  refine CALL_of K.t_plan_Check rfl ?_
  have np := h.np
  have nr := h.nr
  have hs := h.hs
  have rs := h.rs
  obtain ⟨places, roads⟩ := m
  simp only at np nr hs rs
  have l1 : ∀ z0 z2 z3 z4 z5 z9 z10 z11 : D, exS CALL K.plan_Check_l1 ⟨[z0, .bp 0 0, z2, z3, z4, z5, .t (.sl (places.map Place.e)), I places.length, I 0, z9, z10, z11], [.box (mineCells ⟨places, roads⟩)]⟩ =
      some (.exit 0, ⟨[.und, .bp 0 0, .und, .und, .und, .und, .t (.sl (places.map Place.e)), I places.length, I places.length, .und, .und, .und], [.box (mineCells ⟨places, roads⟩)]⟩) := by
    intro z0 z2 z3 z4 z5 z9 z10 z11
    refine loop_up (fun j => ⟨[.und, .bp 0 0, .und, .und, .und, .und, .t (.sl (places.map Place.e)), I places.length, I j, .und, .und, .und], [.box (mineCells ⟨places, roads⟩)]⟩) places.length rfl ?_ ?_ (by simp)
    · intro j hj
      have g : (places.map Place.e)[j]? = some (nth places j).e := map_nth _ hj
      have q := hs _ (nth_mem hj)
      generalize nth places j = x at *
      obtain ⟨hh, sf⟩ := x
      simp only [mineCells] at *
      simp (disch := omega) only [go_sem, K.plan_Check_l1b, ↓reduceIte, g, Nat.reduceAdd, Nat.reduceSub]
    · simp (disch := omega) only [go_sem, K.plan_Check_l1b, ↓reduceIte, mineCells, Nat.reduceAdd, Nat.reduceSub]
  have l2 : ∀ z0 z1 z2 z3 z5 z6 z7 z8 : D, exS CALL K.plan_Check_l2 ⟨[z0, z1, z2, z3, I places.length, z5, z6, z7, z8, .t (.sl (roads.map Road.e)), I roads.length, I 0], [.box (mineCells ⟨places, roads⟩)]⟩ =
      some (.exit 2, ⟨[.und, .und, .und, .und, I places.length, .und, .und, .und, .und, .t (.sl (roads.map Road.e)), I roads.length, I roads.length], [.box (mineCells ⟨places, roads⟩)]⟩) := by
    intro z0 z1 z2 z3 z5 z6 z7 z8
    refine loop_up (fun j => ⟨[.und, .und, .und, .und, I places.length, .und, .und, .und, .und, .t (.sl (roads.map Road.e)), I roads.length, I j], [.box (mineCells ⟨places, roads⟩)]⟩) roads.length rfl ?_ ?_ (by simp)
    · intro j hj
      have g : (roads.map Road.e)[j]? = some (nth roads j).e := map_nth _ hj
      have q := rs _ (nth_mem hj)
      generalize nth roads j = x at *
      have f0 := q.f0; have f1 := q.f1; have t0 := q.t0; have t1 := q.t1; have ne := q.ne; have l0 := q.l0; have l1 := q.l1; have a0 := q.a0; have a1 := q.a1
      have r0 := q.r0; have r1 := q.r1; have r2 := q.r2; have i0 := q.i0; have i1 := q.i1; have i2 := q.i2
      clear q
      obtain ⟨frm, to, len, area, walk, closed, rl, rh, ll, lh⟩ := x
      simp only [mineCells] at *
      have s1 := spanIn_ok rl rh 1 262144 r0 r1 r2
      have s2 := spanIn_ok ll lh (-2199023255552) 2199023255552 i0 i1 i2
      simp (disch := omega) only [go_sem, K.plan_Check_l2b, ↓reduceIte, g, s1, s2, Nat.reduceAdd, Nat.reduceSub]
    · simp (disch := omega) only [go_sem, K.plan_Check_l2b, ↓reduceIte, mineCells, Nat.reduceAdd, Nat.reduceSub]
  simp only [mineCells] at l1 l2
  simp (disch := omega) only [go_sem, K.plan_Check, ↓reduceIte, l1, l2, Nat.reduceAdd, Nat.reduceSub]
theorem planValid_ok {m : Mine} (h : m.ok) : CALL 0 N.plan_Valid [.t m.e] [] = some (B true, []) := by
  refine CALL_of K.t_plan_Valid rfl ?_
  have c := planCheck_ok h
  obtain ⟨places, roads⟩ := m
  simp (disch := omega) only [go_sem, K.plan_Valid, ↓reduceIte, c, Nat.reduceAdd, Nat.reduceSub]
end Go.Ev

/- The program: smoke, what is given. -/
namespace Go.Ev
open Go
variable [Lib] [Has1] [Has2] [Has6] [Has7]

theorem indexFuncS_ok (l : List Spn) (hl : l.length ≤ 4294967296) (f : Nat) (bs : List (List T)) (p : Spn → Bool) (h : ∀ x, x ∈ l → CALL 0 f (.t x.e :: capsN bs.length) (boxesT bs) = some (B (p x), boxesT bs)) :
    CALL 0 N.slices_IndexFunc_api_Span_api_Span [.t (.sl (l.map Spn.e)), .fn f (capsN bs.length)] (boxesT bs) =
    some (I (match (List.range l.length).find? (fun j => p (nth l j)) with | some j => (j : Int) | none => -1), boxesT bs) := by
  refine CALL_of K.t_slices_IndexFunc_api_Span_api_Span rfl ?_
  have loop : ∀ a b : D, exS CALL K.slices_IndexFunc_api_Span_api_Span_l1 ⟨[.t (.sl (l.map Spn.e)), .fn f (capsN bs.length), a, b, I l.length, I 0], boxesT bs⟩ =
      some (match (List.range l.length).find? (fun j => p (nth l j)) with
        | some j => (.ret, ⟨[.t (.sl (l.map Spn.e)), .fn f (capsN bs.length), I j, I j, I l.length, I j], boxesT bs⟩)
        | none => (.exit 0, ⟨[.t (.sl (l.map Spn.e)), .fn f (capsN bs.length), .und, .und, I l.length, I l.length], boxesT bs⟩)) := by
    intro a b
    refine loop_first (fun j => ⟨[.t (.sl (l.map Spn.e)), .fn f (capsN bs.length), .und, .und, I l.length, I j], boxesT bs⟩) l.length (fun j => p (nth l j)) _ _ rfl ?_ ?_ ?_ (by simp)
    · intro j hj hp
      have hc := clos_call0 (h _ (nth_mem hj)) rfl
      simp (disch := omega) only [go_sem, K.slices_IndexFunc_api_Span_api_Span_l1b, ↓reduceIte, hc, hp]
    · intro j hj hp
      have hc := clos_call0 (h _ (nth_mem hj)) rfl
      simp (disch := omega) only [go_sem, K.slices_IndexFunc_api_Span_api_Span_l1b, ↓reduceIte, hp, hc]
      simp
    · simp (disch := omega) only [go_sem, K.slices_IndexFunc_api_Span_api_Span_l1b, ↓reduceIte]
  simp (disch := omega) only [go_sem, K.slices_IndexFunc_api_Span_api_Span, ↓reduceIte, loop]
  cases hf : (List.range l.length).find? (fun j => p (nth l j)) with
  | some j => simp (disch := omega) only [go_sem, ↓reduceIte]
  | none => simp (disch := omega) only [go_sem, ↓reduceIte]

theorem any_nthS {α : Type} [Dat α] {l : List α} {p : α → Bool} : ((List.range l.length).find? fun j => p (nth l j)).isSome = l.any p := by
  rw [List.isSome_find?, Bool.eq_iff_iff, List.any_eq_true, List.any_eq_true]
  constructor
  · rintro ⟨j, hj, h⟩
    exact ⟨_, nth_mem (List.mem_range.1 hj), h⟩
  · rintro ⟨x, hx, h⟩
    obtain ⟨j, hj⟩ := List.mem_iff_getElem?.1 hx
    exact ⟨j, List.mem_range.2 (List.getElem?_eq_some_iff.1 hj).1, by rw [nth_eq hj]; exact h⟩
theorem containsFuncS_ok (l : List Spn) (hl : l.length ≤ 4294967296) (f : Nat) (bs : List (List T)) (p : Spn → Bool) (h : ∀ x, x ∈ l → CALL 0 f (.t x.e :: capsN bs.length) (boxesT bs) = some (B (p x), boxesT bs)) :
    CALL 0 N.slices_ContainsFunc_api_Span_api_Span [.t (.sl (l.map Spn.e)), .fn f (capsN bs.length)] (boxesT bs) = some (B (l.any p), boxesT bs) := by
  refine CALL_of K.t_slices_ContainsFunc_api_Span_api_Span rfl ?_
  have h := indexFuncS_ok l hl f bs p h
  have hc := opCa_clos2 CALL bs f _ 0 (.sl (l.map Spn.e)) h rfl
  have e := any_nthS (l := l) (p := p)
  cases hf : (List.range l.length).find? (fun j => p (nth l j)) with
  | some j => rw [hf] at e hc; simp (disch := omega) only [go_sem, K.slices_ContainsFunc_api_Span_api_Span, ↓reduceIte, ← e, hc]
  | none => rw [hf] at e hc; simp (disch := omega) only [go_sem, K.slices_ContainsFunc_api_Span_api_Span, ↓reduceIte, ← e, hc, Option.isSome_none]


theorem given1_ok (f : Spn) : CALL 0 N.smoke_given_1 [.t f.e] [] = some (B (!decide f.ok), []) := by
  refine CALL_of K.t_smoke_given_1 rfl ?_
  obtain ⟨lo, hi⟩ := f
  unfold Spn.ok
  by_cases h1 : -1125899906842624 ≤ lo
  · by_cases h2 : hi ≤ 1125899906842624
    · by_cases h3 : lo ≤ hi <;> simp (disch := omega) only [go_sem, K.smoke_given_1, ↓reduceIte, h1, h2, h3, Nat.reduceAdd, Nat.reduceSub]
    · simp (disch := omega) only [go_sem, K.smoke_given_1, ↓reduceIte, h1, h2, false_and, and_false, decide_false, Nat.reduceAdd, Nat.reduceSub]
  · simp (disch := omega) only [go_sem, K.smoke_given_1, ↓reduceIte, h1, false_and, decide_false, Nat.reduceAdd, Nat.reduceSub]
theorem given_ok {m : Mine} (h : m.ok) (fl : List Spn) (hl : fl.length ≤ 1000000) : CALL 0 N.smoke_given [.t m.e, .t (tS fl)] [] = some (B (flowsB m fl), []) := by
  refine CALL_of K.t_smoke_given rfl ?_
  have v := planValid_ok h
  have nr := h.nr
  have c : CALL 0 N.slices_ContainsFunc_api_Span_api_Span [.t (tS fl), .fn N.smoke_given_1 []] [] = some (B (fl.any fun f => !decide f.ok), []) := containsFuncS_ok fl (by omega) N.smoke_given_1 [] (fun f => !decide f.ok) (fun f _ => given1_ok f)
  have e : flowsB m fl = (decide (fl.length = m.roads.length) && !(fl.any fun f => !decide f.ok)) := by
    unfold flowsB
    rw [Bool.and_comm, all_rng]
    have : ((List.range fl.length).any fun j => !decide (nth fl j).ok) = fl.any fun f => !decide f.ok := any_rng fl (fun f => !decide f.ok)
    rw [this]
  rw [e]
  generalize (fl.any fun f => !decide f.ok) = r at *
  obtain ⟨places, roads⟩ := m
  simp only at nr
  by_cases cl : fl.length = roads.length
  · cases r <;> simp (disch := omega) only [go_sem, K.smoke_given, ↓reduceIte, v, c, cl, Nat.reduceAdd, Nat.reduceSub]
  · cases r <;> simp (disch := omega) only [go_sem, K.smoke_given, ↓reduceIte, v, c, cl, Nat.reduceAdd, Nat.reduceSub]
end Go.Ev

/- The program: smoke spreads. -/
namespace Go.Ev
open Go
variable [Lib] [Has1] [Has2] [Has6] [Has7]

abbrev smMax : Int := 2147483648
def reachF (l : List Int) (n : Int) (p q : Nat) : List Int × Bool := if n < 0 ∨ smMax < nth l p ∨ smMax < nth l p + n ∨ nth l q ≤ nth l p + n then (l, false) else (l.set q (nth l p + n), true)
abbrev smArg (m : Mine) (fl : List Spn) (n : Nat) : D := .agg [.t (.sl (m.places.map Place.e)), .t (.sl (m.roads.map Road.e)), .t (tS fl), .ref 0 0 n]
theorem reach_ok {m : Mine} (h : m.ok) (fl : List Spn) (hfl : flowsB m fl = true) (l : List Int) (hl : l.length ≤ 1000000) (hb : ∀ x ∈ l, 0 ≤ x ∧ x ≤ 1099511627776) (r p q : Nat) (hr : r < m.roads.length) (hp : p < l.length) (hq : q < l.length) (back : Bool) :
    CALL 0 N.smoke_times_reach [smArg m fl l.length, I r, I p, I q, B back] [.arr 1 false 0 ((l.map (T.int .i64)).map .t)] =
      some (B (reachF l (travelF (nth m.roads r) (nth fl r) back) p q).2, [.arr 1 false 0 (((reachF l (travelF (nth m.roads r) (nth fl r) back) p q).1.map (T.int .i64)).map .t)]) := by
  refine CALL_of K.t_smoke_times_reach rfl ?_
  obtain ⟨f1, f2⟩ := flowsB_spec hfl
  have tr := sTravel_ok h r hr (nth fl r) (f2 r (by omega)) back
  have tb := travelF_bd (h.rs _ (nth_mem hr)) (f := nth fl r) back
  have gf : (fl.map Spn.e)[r]? = some (nth fl r).e := map_nth _ (by omega)
  have gp : ((l.map (T.int .i64)).map D.t)[p]? = some (.t (tI (nth l p))) := map2_nth _ _ hp
  have gq : ((l.map (T.int .i64)).map D.t)[q]? = some (.t (tI (nth l q))) := map2_nth _ _ hq
  have bp := hb _ (nth_mem hp)
  have nr := h.nr
  have np := h.np
  unfold reachF
  generalize travelF (nth m.roads r) (nth fl r) back = n at *
  generalize nth fl r = f at *
  generalize nth l p = x at *
  generalize nth l q = y at *
  obtain ⟨flo, fhi⟩ := f
  obtain ⟨places, roads⟩ := m
  simp only [smArg, smMax] at *
  by_cases c1 : n < 0
  · simp (disch := omega) only [go_sem, K.smoke_times_reach, ↓reduceIte, gf, gp, gq, tr, c1, true_or, Nat.reduceAdd, Nat.reduceSub]
  by_cases c2 : smMax < x
  · have hs := c2
    simp (disch := omega) only [go_sem, K.smoke_times_reach, ↓reduceIte, gf, gp, gq, tr, c1, c2, true_or, or_true, false_or, or_false, or_self, hs, Nat.reduceAdd, Nat.reduceSub, Bool.false_eq_true]
  by_cases c3 : smMax < x + n
  · have hs := c3
    simp (disch := omega) only [go_sem, K.smoke_times_reach, ↓reduceIte, gf, gp, gq, tr, c1, c2, c3, true_or, or_true, false_or, or_false, or_self, hs, Nat.reduceAdd, Nat.reduceSub, Bool.false_eq_true]
  by_cases c4 : y ≤ x + n
  · have hs := c4
    simp (disch := omega) only [go_sem, K.smoke_times_reach, ↓reduceIte, gf, gp, gq, tr, c1, c2, c3, c4, true_or, or_true, false_or, or_false, or_self, hs, Nat.reduceAdd, Nat.reduceSub, Bool.false_eq_true]
  · have hs : ((l.map (T.int .i64)).map D.t).set q (.t (.int .i64 (x + n))) = ((l.set q (x + n)).map (T.int .i64)).map D.t := by simp
    simp (disch := omega) only [go_sem, K.smoke_times_reach, ↓reduceIte, gf, gp, gq, tr, c1, c2, c3, c4, true_or, or_true, false_or, or_false, or_self, hs, Nat.reduceAdd, Nat.reduceSub, Bool.false_eq_true]
end Go.Ev

/- The program: smoke spreads until nothing changes. -/
namespace Go.Ev
open Go
variable [Lib] [Has1] [Has2] [Has6] [Has7]

def spHalf (m : Mine) (fl : List Spn) (k : Nat) (back : Bool) (l : List Int) : List Int × Bool :=
  reachF l (travelF (nth m.roads k) (nth fl k) back) ((nth m.roads k).src back).toNat ((nth m.roads k).dst back).toNat
def spStep (m : Mine) (fl : List Spn) (k : Nat) (s : List Int × Bool) : List Int × Bool :=
  ((spHalf m fl k true (spHalf m fl k false s.1).1).1, s.2 || (spHalf m fl k false s.1).2 || (spHalf m fl k true (spHalf m fl k false s.1).1).2)
def spSteps (m : Mine) (fl : List Spn) (l : List Int) : Nat → List Int × Bool
  | 0 => (l, false)
  | k + 1 => spStep m fl k (spSteps m fl l k)

theorem reachF_len (l : List Int) (n : Int) (p q : Nat) : (reachF l n p q).1.length = l.length := by unfold reachF; split <;> simp
theorem reachF_bnd {l : List Int} (hb : bnd l) {n : Int} {p q : Nat} (hp : p < l.length) : bnd (reachF l n p q).1 := by
  unfold reachF
  split
  · exact hb
  · rename_i c
    intro x hx
    have := hb _ (nth_mem hp)
    rcases List.mem_or_eq_of_mem_set hx with h | h
    · exact hb x h
    · simp only [smMax] at c; subst h; omega

abbrev spBox (m : Mine) (fl : List Spn) (n : Nat) : Obj := .box [.t (.sl (m.places.map Place.e)), .t (.sl (m.roads.map Road.e)), .t (tS fl), .ref 0 0 n]
theorem sp_step {m : Mine} (h : m.ok) (fl : List Spn) (hfl : flowsB m fl = true) (l : List Int) (hl : l.length = m.places.length) (hb : bnd l) (k : Nat) (hk : k < m.roads.length) (ch : Bool) :
    roundC true [0, 3, 4, 5, 6] 2 (exS CALL K.smoke_times_spread_l2b ⟨[.und, .bp 1 0, B ch, .und, .und, .und, .und, .t (.sl (m.roads.map Road.e)), I m.roads.length, I k], [.arr 1 false 0 ((l.map (T.int .i64)).map .t), spBox m fl l.length]⟩) =
      some ⟨[.und, .bp 1 0, B (spStep m fl k (l, ch)).2, .und, .und, .und, .und, .t (.sl (m.roads.map Road.e)), I m.roads.length, I (k + 1)], [.arr 1 false 0 (((spStep m fl k (l, ch)).1.map (T.int .i64)).map .t), spBox m fl l.length]⟩ := by
  have np := h.np
  have nr := h.nr
  have ok := h.rs _ (nth_mem hk)
  have f0 := ok.f0; have f1 := ok.f1; have t0 := ok.t0; have t1 := ok.t1
  have g : (m.roads.map Road.e)[k]? = some (nth m.roads k).e := map_nth _ hk
  have r1 := reach_ok h fl hfl l (by omega) hb k (nth m.roads k).frm.toNat (nth m.roads k).to.toNat hk (by omega) (by omega) false
  have hb2 := reachF_bnd hb (n := travelF (nth m.roads k) (nth fl k) false) (p := (nth m.roads k).frm.toNat) (q := (nth m.roads k).to.toNat) (by omega)
  have ln := reachF_len l (travelF (nth m.roads k) (nth fl k) false) (nth m.roads k).frm.toNat (nth m.roads k).to.toNat
  have r2 := reach_ok h fl hfl (reachF l (travelF (nth m.roads k) (nth fl k) false) (nth m.roads k).frm.toNat (nth m.roads k).to.toNat).1 (by omega) hb2 k (nth m.roads k).to.toNat (nth m.roads k).frm.toNat hk (by omega) (by omega) true
  have e1 : ((nth m.roads k).frm.toNat : Int) = (nth m.roads k).frm := by omega
  have e2 : ((nth m.roads k).to.toNat : Int) = (nth m.roads k).to := by omega
  rw [e1, e2] at r1 r2
  rw [ln] at r2
  simp only [spStep, spHalf, Road.src, Road.dst, Bool.false_eq_true, ↓reduceIte]
  generalize reachF l (travelF (nth m.roads k) (nth fl k) false) (nth m.roads k).frm.toNat (nth m.roads k).to.toNat = a at *
  obtain ⟨la, ca⟩ := a
  simp only at *
  generalize reachF la (travelF (nth m.roads k) (nth fl k) true) (nth m.roads k).to.toNat (nth m.roads k).frm.toNat = b at *
  obtain ⟨lb, cb⟩ := b
  generalize nth m.roads k = x at *
  obtain ⟨frm, to, len, area, walk, closed, rl, rh, ll, lh⟩ := x
  obtain ⟨places, roads⟩ := m
  simp only [smArg, spBox] at *
  cases ch <;> cases ca <;> cases cb <;> simp (disch := omega) only [go_sem, K.smoke_times_spread_l2b, ↓reduceIte, g, r1, r2, Bool.or_true, Bool.or_false, Bool.true_or, Nat.reduceAdd, Nat.reduceSub]

theorem reachF_sum {l : List Int} (hb : bnd l) {n : Int} {p q : Nat} (hp : p < l.length) (hq : q < l.length) :
    ((reachF l n p q).2 = true → sumN (reachF l n p q).1 < sumN l) ∧ ((reachF l n p q).2 = false → (reachF l n p q).1 = l) := by
  unfold reachF
  split
  · exact ⟨fun h => by simp at h, fun _ => rfl⟩
  · rename_i c
    refine ⟨fun _ => ?_, fun h => by simp at h⟩
    have := hb _ (nth_mem hp)
    exact sumN_set hq (by omega) (by omega)
theorem spHalf_len (m : Mine) (fl : List Spn) (k : Nat) (back : Bool) (l : List Int) : (spHalf m fl k back l).1.length = l.length := reachF_len _ _ _ _
theorem spSteps_len (m : Mine) (fl : List Spn) (l : List Int) : ∀ k, (spSteps m fl l k).1.length = l.length
  | 0 => rfl
  | k + 1 => by simp only [spSteps, spStep, spHalf_len, spSteps_len m fl l k]
section
variable {m : Mine} (h : m.ok) {fl : List Spn}
include h
theorem spHalf_bnd {l : List Int} (hl : l.length = m.places.length) (hb : bnd l) {k : Nat} (hk : k < m.roads.length) (back : Bool) : bnd (spHalf m fl k back l).1 := by
  have r1 := Road.src_ok (h.rs _ (nth_mem hk)) back
  exact reachF_bnd hb (by omega)
theorem spHalf_sum {l : List Int} (hl : l.length = m.places.length) (hb : bnd l) {k : Nat} (hk : k < m.roads.length) (back : Bool) :
    ((spHalf m fl k back l).2 = true → sumN (spHalf m fl k back l).1 < sumN l) ∧ ((spHalf m fl k back l).2 = false → (spHalf m fl k back l).1 = l) := by
  have r1 := Road.src_ok (h.rs _ (nth_mem hk)) back
  have r2 := Road.dst_ok (h.rs _ (nth_mem hk)) back
  exact reachF_sum hb (by omega) (by omega)
theorem spSteps_bnd {l : List Int} (hl : l.length = m.places.length) (hb : bnd l) : ∀ k, k ≤ m.roads.length → bnd (spSteps m fl l k).1
  | 0, _ => hb
  | k + 1, hk => by
    have ih := spSteps_bnd hl hb k (by omega)
    simp only [spSteps, spStep]
    exact spHalf_bnd h (by rw [spHalf_len, spSteps_len, hl]) (spHalf_bnd h (by rw [spSteps_len, hl]) ih (by omega) _) (by omega) _
theorem spSteps_sum {l : List Int} (hl : l.length = m.places.length) (hb : bnd l) : ∀ k, k ≤ m.roads.length →
    ((spSteps m fl l k).2 = true → sumN (spSteps m fl l k).1 < sumN l) ∧ ((spSteps m fl l k).2 = false → (spSteps m fl l k).1 = l)
  | 0, _ => ⟨fun h => by simp [spSteps] at h, fun _ => rfl⟩
  | k + 1, hk => by
    obtain ⟨i1, i2⟩ := spSteps_sum hl hb k (by omega)
    have hb1 := spSteps_bnd h (fl := fl) hl hb k (by omega)
    have hl1 : (spSteps m fl l k).1.length = m.places.length := by rw [spSteps_len, hl]
    obtain ⟨a1, a2⟩ := spHalf_sum h (fl := fl) hl1 hb1 (k := k) (by omega) false
    have hb2 := spHalf_bnd h (fl := fl) hl1 hb1 (k := k) (by omega) false
    obtain ⟨c1, c2⟩ := spHalf_sum h (fl := fl) (by rw [spHalf_len, hl1]) hb2 (k := k) (by omega) true
    simp only [spSteps, spStep]
    generalize spSteps m fl l k = s at *
    obtain ⟨sl, sb⟩ := s
    simp only at *
    generalize spHalf m fl k false sl = a at *
    obtain ⟨al, ab⟩ := a
    simp only at *
    generalize spHalf m fl k true al = b at *
    obtain ⟨bl, bb⟩ := b
    simp only at *
    cases sb <;> cases ab <;> cases bb <;> simp_all <;> omega
end
def spRound (m : Mine) (fl : List Spn) (l : List Int) : List Int × Bool := spSteps m fl l m.roads.length
def spF (m : Mine) (fl : List Spn) (l : List Int) : List Int := closeN (spRound m fl) (sumN l + 1) l

theorem sSpread_ok {m : Mine} (h : m.ok) (fl : List Spn) (hfl : flowsB m fl = true) (l : List Int) (hl : l.length = m.places.length) (hb : bnd l) :
    CALL 0 N.smoke_times_spread [smArg m fl l.length] [.arr 1 false 0 ((l.map (T.int .i64)).map .t)] = some (.tup [], [.arr 1 false 0 (((spF m fl l).map (T.int .i64)).map .t)]) ∧ (spF m fl l).length = m.places.length ∧ bnd (spF m fl l) := by
  have nr := h.nr
  have np := h.np
  have inner : ∀ (l : List Int), l.length = m.places.length → bnd l → ∀ (z0 z3 z4 z5 z6 : D), exS CALL K.smoke_times_spread_l2 ⟨[z0, .bp 1 0, B false, z3, z4, z5, z6, .t (.sl (m.roads.map Road.e)), I m.roads.length, I 0], [.arr 1 false 0 ((l.map (T.int .i64)).map .t), spBox m fl l.length]⟩ =
      some (.exit 2, ⟨[.und, .bp 1 0, B (spRound m fl l).2, .und, .und, .und, .und, .t (.sl (m.roads.map Road.e)), I m.roads.length, I m.roads.length], [.arr 1 false 0 (((spRound m fl l).1.map (T.int .i64)).map .t), spBox m fl l.length]⟩) := by
    intro l hl hb z0 z3 z4 z5 z6
    refine loop_up (fun j => ⟨[.und, .bp 1 0, B (spSteps m fl l j).2, .und, .und, .und, .und, .t (.sl (m.roads.map Road.e)), I m.roads.length, I j], [.arr 1 false 0 (((spSteps m fl l j).1.map (T.int .i64)).map .t), spBox m fl l.length]⟩) m.roads.length rfl ?_ ?_ (by simp)
    · intro j hj
      have := sp_step h fl hfl (spSteps m fl l j).1 (by rw [spSteps_len, hl]) (spSteps_bnd h hl hb j (by omega)) j hj (spSteps m fl l j).2
      rw [spSteps_len] at this
      exact this
    · simp (disch := omega) only [go_sem, K.smoke_times_spread_l2b, ↓reduceIte, spRound, spBox, Nat.reduceAdd, Nat.reduceSub]
  have outer := fun (z0 z3 z4 z5 z6 z7 z8 z9 : D) => loop_again (gc := true) (dead := [0, 3, 4, 5, 6, 7, 8, 9]) (c := K.smoke_times_spread_l1b) (vs := [z0, .bp 1 0, B true, z3, z4, z5, z6, z7, z8, z9]) (H := [.arr 1 false 0 ((l.map (T.int .i64)).map .t), spBox m fl l.length])
    (fun l' ag => ⟨[.und, .bp 1 0, B ag, .und, .und, .und, .und, .und, .und, .und], [.arr 1 false 0 ((l'.map (T.int .i64)).map .t), spBox m fl l'.length]⟩)
    (fun l' => (.exit 0, ⟨[.und, .bp 1 0, B false, .und, .und, .und, .und, .und, .und, .und], [.arr 1 false 0 ((l'.map (T.int .i64)).map .t), spBox m fl l'.length]⟩))
    (spRound m fl) (fun l => l.length = m.places.length ∧ bnd l) sumN
    (fun l ⟨hl, hb⟩ => ⟨⟨by rw [spRound, spSteps_len, hl], spSteps_bnd h hl hb _ (Nat.le_refl _)⟩, (spSteps_sum h hl hb _ (Nat.le_refl _)).1⟩)
    (by
      rintro l ⟨hl, hb⟩
      have hi := inner l hl hb
      have e : (spRound m fl l).1.length = l.length := by rw [spRound, spSteps_len]
      clear inner
      obtain ⟨places, roads⟩ := m
      simp only [spBox] at *
      simp (disch := omega) only [go_sem, K.smoke_times_spread_l1b, ↓reduceIte, hi, e, Nat.reduceAdd, Nat.reduceSub])
    (by
      rintro l ⟨hl, hb⟩
      simp (disch := omega) only [go_sem, K.smoke_times_spread_l1b, ↓reduceIte, spBox, reduceCtorEq, ne_eq, not_false_eq_true, and_self, Nat.reduceAdd, Nat.reduceSub])
    l ⟨hl, hb⟩ rfl
  obtain ⟨-, o2⟩ := outer .und .und .und .und .und .und .und .und
  refine ⟨?_, o2⟩
  refine CALL_of K.t_smoke_times_spread rfl ?_
  have o1 : ∀ z0 z3 z4 z5 z6 z7 z8 z9 : D, exS CALL K.smoke_times_spread_l1 ⟨[z0, .bp 1 0, B true, z3, z4, z5, z6, z7, z8, z9], [.arr 1 false 0 ((l.map (T.int .i64)).map .t), spBox m fl l.length]⟩ = _ := fun z0 z3 z4 z5 z6 z7 z8 z9 => (outer z0 z3 z4 z5 z6 z7 z8 z9).1
  clear outer inner
  have o2 := o2.1
  unfold spF
  generalize closeN (spRound m fl) (sumN l + 1) l = l2 at *
  obtain ⟨places, roads⟩ := m
  simp only [spBox, smArg] at *
  simp (disch := omega) only [go_sem, K.smoke_times_spread, ↓reduceIte, o1, Nat.reduceAdd, Nat.reduceSub]
end Go.Ev

/- The program's closing and the reference's are one. -/
namespace Go.Ev
open Go

theorem set_nth2 {α : Type} [Dat α] (l : List α) (k : Nat) (hk : k < l.length) (x : α) (j : Nat) : nth (l.set k x) j = if j = k then x else nth l j := by
  unfold nth
  by_cases h : j = k
  · subst h; rw [if_pos rfl]; simp [hk]
  · rw [if_neg h]
    have : ¬ k = j := fun e => h e.symm
    simp [List.getElem?_set, this]

/-- Nowhere above. -/
def leL (a b : List Int) : Prop := ∀ j, j < a.length → nth a j ≤ nth b j

/-- What the rounds leave: the invariant of any closing by steps that lower. -/
theorem closeN_inv {α : Type} {f : α → α × Bool} (P : α → Prop) (hP : ∀ l, P l → P (f l).1) : ∀ n l, P l → P (closeN f n l)
  | 0, l, h => h
  | n + 1, l, h => by
    unfold closeN
    split
    · exact closeN_inv P hP n _ (hP l h)
    · exact hP l h

/-- The rounds end with one that changes nothing. -/
theorem closeN_fix {α : Type} {f : α → α × Bool} (P : α → Prop) (mes : α → Nat) (hP : ∀ l, P l → P (f l).1 ∧ ((f l).2 = true → mes (f l).1 < mes l) ∧ ((f l).2 = false → (f l).1 = l)) : ∀ n l, P l → mes l < n → (f (closeN f n l)).2 = false ∧ P (closeN f n l)
  | 0, l, _, h => by omega
  | n + 1, l, hp, h => by
    obtain ⟨h1, h2, h3⟩ := hP l hp
    unfold closeN
    cases hf : (f l).2 with
    | true =>
      rw [if_pos rfl]
      have := h2 hf
      exact closeN_fix P mes hP n _ h1 (by omega)
    | false =>
      rw [if_neg (by simp), h3 hf]
      exact ⟨hf, hp⟩

/-- No road brings smoke earlier, as the program sees it. -/
def clP (m : Mine) (fl : List Spn) (y : List Int) : Prop := ∀ k, k < m.roads.length → ∀ back, 0 ≤ travelF (nth m.roads k) (nth fl k) back →
  nth y ((nth m.roads k).src back).toNat + travelF (nth m.roads k) (nth fl k) back ≤ smMax →
  nth y ((nth m.roads k).dst back).toNat ≤ nth y ((nth m.roads k).src back).toNat + travelF (nth m.roads k) (nth fl k) back
/-- .. and as the reference does. -/
def clS (m : Mine) (fl : List Spn) (y : List Int) : Prop := ∀ k, k < m.roads.length → ∀ back, 0 ≤ travelF (nth m.roads k) (nth fl k) back →
  nth y ((nth m.roads k).dst back).toNat ≤ nth y ((nth m.roads k).src back).toNat + travelF (nth m.roads k) (nth fl k) back

variable [Lib] [Has1] [Has2] [Has6] [Has7]
theorem spHalf_ge {m : Mine} (h : m.ok) {fl : List Spn} {y l : List Int} (hy : clP m fl y) (hl : l.length = m.places.length) {k : Nat} (hk : k < m.roads.length) (back : Bool) (hle : ∀ j, nth y j ≤ nth l j) : ∀ j, nth y j ≤ nth (spHalf m fl k back l).1 j := by
  have r2 := Road.dst_ok (h.rs _ (nth_mem hk)) back
  intro j
  unfold spHalf reachF
  split
  · exact hle j
  · rename_i c
    have c := c
    simp only [not_or, Int.not_lt, Int.not_le] at c
    obtain ⟨c1, c2, c3, c4⟩ := c
    rw [set_nth2 _ _ (by omega)]
    split
    · rename_i e
      have := hy k hk back (by omega) (by have := hle ((nth m.roads k).src back).toNat; omega)
      have := hle ((nth m.roads k).src back).toNat
      rw [e]; omega
    · exact hle j
theorem spSteps_ge {m : Mine} (h : m.ok) {fl : List Spn} {y l : List Int} (hy : clP m fl y) (hl : l.length = m.places.length) (hle : ∀ j, nth y j ≤ nth l j) : ∀ k, k ≤ m.roads.length → ∀ j, nth y j ≤ nth (spSteps m fl l k).1 j
  | 0, _ => hle
  | k + 1, hk => by
    have ih := spSteps_ge h hy hl hle k (by omega)
    simp only [spSteps, spStep]
    exact spHalf_ge h hy (by rw [spHalf_len, spSteps_len, hl]) (by omega) true (spHalf_ge h hy (by rw [spSteps_len, hl]) (by omega) false ih)
/-- The program's times are the greatest that no road betters. -/
theorem spF_ge {m : Mine} (h : m.ok) {fl : List Spn} {y l : List Int} (hy : clP m fl y) (hl : l.length = m.places.length) (hle : ∀ j, nth y j ≤ nth l j) : ∀ j, nth y j ≤ nth (spF m fl l) j :=
  (closeN_inv (f := spRound m fl) (fun l => l.length = m.places.length ∧ ∀ j, nth y j ≤ nth l j) (fun l hp => ⟨by rw [spRound, spSteps_len]; exact hp.1, spSteps_ge h hy hp.1 hp.2 _ (Nat.le_refl _)⟩) _ l ⟨hl, hle⟩).2
theorem spHalf_le {m : Mine} {fl : List Spn} {l : List Int} {k : Nat} (back : Bool) (hb : ((nth m.roads k).dst back).toNat < l.length) : ∀ j, nth (spHalf m fl k back l).1 j ≤ nth l j := by
  intro j
  unfold spHalf reachF
  split
  · exact Int.le_refl _
  · rename_i c
    simp only [not_or, Int.not_lt, Int.not_le] at c
    rw [set_nth2 _ _ hb]
    split
    · rename_i e; rw [e]; omega
    · exact Int.le_refl _
theorem spSteps_no {m : Mine} (h : m.ok) {fl : List Spn} {l : List Int} (hl : l.length = m.places.length) (hb : bnd l) : ∀ k, k ≤ m.roads.length → (spSteps m fl l k).2 = false → ∀ i, i < k → ∀ back, (spHalf m fl i back l).2 = false
  | 0, _, _, i, hi, _ => by omega
  | k + 1, hk, hf, i, hi, back => by
    have e := (spSteps_sum h (fl := fl) hl hb k (by omega)).2
    have ih := spSteps_no h (fl := fl) hl hb k (by omega)
    simp only [spSteps, spStep, Bool.or_eq_false_iff] at hf
    obtain ⟨⟨f1, f2⟩, f3⟩ := hf
    have e := e f1
    rw [e] at f2 f3
    have e2 := (spHalf_sum h (fl := fl) hl hb (k := k) (by omega) false).2 f2
    rw [e2] at f3
    by_cases c : i < k
    · exact ih f1 i c back
    · have : i = k := by omega
      subst this
      cases back
      · exact f2
      · exact f3
theorem spF_clP {m : Mine} (h : m.ok) {fl : List Spn} {l : List Int} (hl : l.length = m.places.length) (hb : bnd l) : clP m fl (spF m fl l) ∧ (spF m fl l).length = m.places.length ∧ bnd (spF m fl l) := by
  obtain ⟨h1, h2, h3⟩ := closeN_fix (f := spRound m fl) (fun l => l.length = m.places.length ∧ bnd l) sumN (fun l ⟨hl, hb⟩ => ⟨⟨by rw [spRound, spSteps_len]; exact hl, spSteps_bnd h hl hb _ (Nat.le_refl _)⟩, spSteps_sum h hl hb _ (Nat.le_refl _)⟩) (sumN l + 1) l ⟨hl, hb⟩ (Nat.lt_succ_self _)
  refine ⟨fun k hk back hn hm => ?_, h2, h3⟩
  have no := spSteps_no h h2 h3 m.roads.length (Nat.le_refl _) h1 k hk back
  change (spHalf m fl k back (spF m fl l)).2 = false at no
  unfold spHalf reachF at no
  split at no
  · rename_i c
    have r1 := Road.src_ok (h.rs _ (nth_mem hk)) back
    have hs := h3 _ (nth_mem (l := closeN (spRound m fl) (sumN l + 1) l) (j := ((nth m.roads k).src back).toNat) (by omega))
    change 0 ≤ nth (spF m fl l) _ ∧ nth (spF m fl l) _ ≤ _ at hs
    omega
  · cases no
end Go.Ev

/- The program's closing is the reference's, cut. -/
namespace Go.Ev
open Go
variable [Lib] [Has1] [Has2] [Has6] [Has7]

/-- What the program has found stays below what the reference finds, up to the end of time. -/
def belowC (a l : List Int) : Prop := ∀ j, nth l j ≤ smMax → nth a j ≤ nth l j
theorem smHalf_below {m : Mine} (h : m.ok) {fl : List Spn} {a l : List Int} (ha : clP m fl a) (hl : l.length = m.places.length) (hb : bnd l) {k : Nat} (hk : k < m.roads.length) (back : Bool) (hle : belowC a l) : belowC a (smHalf m fl k back l).1 := by
  have r2 := Road.dst_ok (h.rs _ (nth_mem hk)) back
  have r1 := Road.src_ok (h.rs _ (nth_mem hk)) back
  intro j hj
  simp only [smHalf, downF] at hj ⊢
  split at hj
  · rename_i c
    rw [if_pos c]
    simp only [downC, decide_eq_true_eq] at c
    rw [set_nth2 _ _ (by omega)] at hj ⊢
    split at hj
    · rename_i e
      rw [if_pos e, e]
      have := hle ((nth m.roads k).src back).toNat (by omega)
      have := ha k hk back c.1 (by omega)
      omega
    · rename_i e
      rw [if_neg e]
      exact hle j hj
  · rename_i c
    rw [if_neg c]
    exact hle j hj
theorem smSteps_below {m : Mine} (h : m.ok) {fl : List Spn} {a l : List Int} (ha : clP m fl a) (hl : l.length = m.places.length) (hb : bnd l) (hle : belowC a l) : ∀ k, k ≤ m.roads.length → belowC a (smSteps m fl l k).1
  | 0, _ => hle
  | k + 1, hk => by
    have ih := smSteps_below h ha hl hb hle k (by omega)
    have hb1 := smSteps_bnd h (fl := fl) hl hb k (by omega)
    have hl1 : (smSteps m fl l k).1.length = m.places.length := by rw [smSteps_len, hl]
    simp only [smSteps, smStep]
    exact smHalf_below h ha (by rw [smHalf_len, hl1]) (smHalf_bnd h (fl := fl) hl1 hb1 (k := k) (by omega) false) (by omega) true (smHalf_below h ha hl1 hb1 (by omega) false ih)
theorem smSteps_no {m : Mine} (h : m.ok) {fl : List Spn} {l : List Int} (hl : l.length = m.places.length) (hb : bnd l) : ∀ k, k ≤ m.roads.length → (smSteps m fl l k).2 = false → ∀ i, i < k → ∀ back, (smHalf m fl i back l).2 = false
  | 0, _, _, i, hi, _ => by omega
  | k + 1, hk, hf, i, hi, back => by
    have e := (smSteps_sum h (fl := fl) hl hb k (by omega)).2
    have ih := smSteps_no h (fl := fl) hl hb k (by omega)
    simp only [smSteps, smStep, Bool.or_eq_false_iff] at hf
    obtain ⟨⟨f1, f2⟩, f3⟩ := hf
    have e := e f1
    rw [e] at f2 f3
    have e2 := (smHalf_sum h (fl := fl) hl hb (k := k) (by omega) false).2 f2
    rw [e2] at f3
    by_cases c : i < k
    · exact ih f1 i c back
    · have : i = k := by omega
      subst this
      cases back
      · exact f2
      · exact f3
theorem smD_facts {m : Mine} (h : m.ok) {fl : List Spn} {a l : List Int} (ha : clP m fl a) (hl : l.length = m.places.length) (hb : bnd l) (hle : belowC a l) :
    clS m fl (closeN (smRound m fl) (sumN l + 1) l) ∧ belowC a (closeN (smRound m fl) (sumN l + 1) l) ∧ (closeN (smRound m fl) (sumN l + 1) l).length = m.places.length ∧ bnd (closeN (smRound m fl) (sumN l + 1) l) := by
  obtain ⟨h1, ⟨h2, h3⟩, h4⟩ := closeN_fix (f := smRound m fl) (fun l => (l.length = m.places.length ∧ bnd l) ∧ belowC a l) sumN (fun l ⟨⟨hl, hb⟩, hle⟩ => ⟨⟨⟨by rw [smRound, smSteps_len]; exact hl, smSteps_bnd h hl hb _ (Nat.le_refl _)⟩, smSteps_below h ha hl hb hle _ (Nat.le_refl _)⟩, smSteps_sum h hl hb _ (Nat.le_refl _)⟩) (sumN l + 1) l ⟨⟨hl, hb⟩, hle⟩ (Nat.lt_succ_self _)
  refine ⟨fun k hk back hn => ?_, h4, h2, h3⟩
  have no := smSteps_no h h2 h3 m.roads.length (Nat.le_refl _) h1 k hk back
  simp only [smHalf, downC, decide_eq_false_iff_not] at no
  omega
end Go.Ev

/- Both closings are one. -/
namespace Go.Ev
open Go
variable [Lib] [Has1] [Has2] [Has6] [Has7]

theorem capN_nth2 (l : List Int) : ∀ k j, k ≤ l.length → nth (capN l k) j = if j < k ∧ smMax < nth l j then 1099511627776 else nth l j
  | 0, j, _ => by simp [capN]
  | k + 1, j, hk => by
    have ih := capN_nth2 l k
    have e := ih k (by omega)
    rw [if_neg (by omega)] at e
    have ij := ih j (by omega)
    simp only [capN]
    rw [e]
    by_cases c : 2147483648 < nth l k
    · rw [if_pos c, set_nth2 _ _ (by rw [capN_len]; omega), ij]
      by_cases hj : j = k
      · subst hj; rw [if_pos rfl, if_pos ⟨by omega, c⟩]
      · rw [if_neg hj]
        by_cases c2 : j < k ∧ smMax < nth l j
        · rw [if_pos c2, if_pos ⟨by omega, c2.2⟩]
        · rw [if_neg c2, if_neg (fun h => c2 ⟨by omega, h.2⟩)]
    · rw [if_neg c, ij]
      by_cases c2 : j < k ∧ smMax < nth l j
      · rw [if_pos c2, if_pos ⟨by omega, c2.2⟩]
      · rw [if_neg c2, if_neg (fun h => c2 ⟨by
          have : j ≠ k := fun e => by subst e; exact c h.2
          omega, h.2⟩)]
theorem spF_le {m : Mine} (h : m.ok) {fl : List Spn} {l : List Int} (hl : l.length = m.places.length) : ∀ j, nth (spF m fl l) j ≤ nth l j := by
  have steps : ∀ (l : List Int), l.length = m.places.length → ∀ k, k ≤ m.roads.length → ∀ j, nth (spSteps m fl l k).1 j ≤ nth l j := by
    intro l hl k
    induction k with
    | zero => intro _ j; exact Int.le_refl _
    | succ k ih =>
      intro hk j
      have r1 := Road.dst_ok (h.rs _ (nth_mem (l := m.roads) (j := k) (by omega))) false
      have r2 := Road.dst_ok (h.rs _ (nth_mem (l := m.roads) (j := k) (by omega))) true
      simp only [spSteps, spStep]
      have a := spHalf_le (m := m) (fl := fl) (l := (spHalf m fl k false (spSteps m fl l k).1).1) (k := k) true (by rw [spHalf_len, spSteps_len]; omega) j
      have b := spHalf_le (m := m) (fl := fl) (l := (spSteps m fl l k).1) (k := k) false (by rw [spSteps_len]; omega) j
      have c := ih (by omega) j
      omega
  exact (closeN_inv (f := spRound m fl) (fun l' => l'.length = m.places.length ∧ ∀ j, nth l' j ≤ nth l j) (fun l' hp => ⟨by rw [spRound, spSteps_len]; exact hp.1, fun j => Int.le_trans (steps l' hp.1 _ (Nat.le_refl _) j) (hp.2 j)⟩) _ l ⟨hl, fun j => Int.le_refl _⟩).2
end Go.Ev

/- Both closings are one: the equality. -/
namespace Go.Ev
open Go
variable [Lib] [Has1] [Has2] [Has6] [Has7]

theorem ext_nth2 {α : Type} [Dat α] {a b : List α} (h : a.length = b.length) (e : ∀ j, j < a.length → nth a j = nth b j) : a = b := by
  apply List.ext_getElem h
  intro j h1 h2
  have := e j h1
  rwa [nth_eq (List.getElem?_eq_getElem h1), nth_eq (List.getElem?_eq_getElem h2)] at this

/-- Only lower. -/
theorem smHalf_le {m : Mine} {fl : List Spn} {l : List Int} {k : Nat} (back : Bool) (hb : ((nth m.roads k).dst back).toNat < l.length) : ∀ j, nth (smHalf m fl k back l).1 j ≤ nth l j := by
  intro j
  simp only [smHalf, downF]
  split
  · rename_i c
    simp only [downC, decide_eq_true_eq] at c
    rw [set_nth2 _ _ hb]
    split
    · rename_i e; rw [e]; omega
    · exact Int.le_refl _
  · exact Int.le_refl _
theorem smSteps_le {m : Mine} (h : m.ok) {fl : List Spn} {l : List Int} (hl : l.length = m.places.length) : ∀ k, k ≤ m.roads.length → ∀ j, nth (smSteps m fl l k).1 j ≤ nth l j
  | 0, _, j => Int.le_refl _
  | k + 1, hk, j => by
    have r1 := Road.dst_ok (h.rs _ (nth_mem (l := m.roads) (j := k) (by omega))) false
    have r2 := Road.dst_ok (h.rs _ (nth_mem (l := m.roads) (j := k) (by omega))) true
    simp only [smSteps, smStep]
    have a := smHalf_le (m := m) (fl := fl) (l := (smHalf m fl k false (smSteps m fl l k).1).1) (k := k) true (by rw [smHalf_len, smSteps_len]; omega) j
    have b := smHalf_le (m := m) (fl := fl) (l := (smSteps m fl l k).1) (k := k) false (by rw [smSteps_len]; omega) j
    have c := smSteps_le h (fl := fl) hl k (by omega) j
    omega
theorem smD_le {m : Mine} (h : m.ok) {fl : List Spn} {l : List Int} (hl : l.length = m.places.length) : ∀ j, nth (closeN (smRound m fl) (sumN l + 1) l) j ≤ nth l j :=
  (closeN_inv (f := smRound m fl) (fun l' => l'.length = m.places.length ∧ ∀ j, nth l' j ≤ nth l j) (fun l' hp => ⟨by rw [smRound, smSteps_len]; exact hp.1, fun j => Int.le_trans (smSteps_le h hp.1 _ (Nat.le_refl _) j) (hp.2 j)⟩) _ l ⟨hl, fun j => Int.le_refl _⟩).2

/-- Times that can be. -/
def tmOk (l : List Int) : Prop := ∀ x ∈ l, 0 ≤ x ∧ (x ≤ smMax ∨ x = 1099511627776)
theorem tmOk.bnd {l : List Int} (h : tmOk l) : bnd l := fun x hx => by have := h x hx; simp only [smMax] at this; omega
theorem closeS_nth {m : Mine} {fl : List Spn} {l : List Int} (hl : (closeN (smRound m fl) (sumN l + 1) l).length = m.places.length) {j : Nat} (hj : j < m.places.length) :
    nth (closeS m fl l) j = if smMax < nth (closeN (smRound m fl) (sumN l + 1) l) j then 1099511627776 else nth (closeN (smRound m fl) (sumN l + 1) l) j := by
  unfold closeS
  rw [capN_nth2 _ _ _ (by omega)]
  by_cases c : smMax < nth (closeN (smRound m fl) (sumN l + 1) l) j
  · rw [if_pos ⟨hj, c⟩, if_pos c]
  · rw [if_neg (fun x => c x.2), if_neg c]
theorem closeS_len2 {m : Mine} (h : m.ok) {fl : List Spn} {l : List Int} (hl : l.length = m.places.length) (hb : bnd l) : (closeS m fl l).length = m.places.length := by
  unfold closeS; rw [capN_len]
  exact (closeN_fix (f := smRound m fl) (fun l => l.length = m.places.length ∧ Go.Ev.bnd l) sumN (fun l ⟨hl, hb⟩ => ⟨⟨by rw [smRound, smSteps_len]; exact hl, smSteps_bnd h hl hb _ (Nat.le_refl _)⟩, smSteps_sum h hl hb _ (Nat.le_refl _)⟩) (sumN l + 1) l ⟨hl, hb⟩ (Nat.lt_succ_self _)).2.1
/-- The program's closing and the reference's are one. -/
theorem spF_closeS {m : Mine} (h : m.ok) {fl : List Spn} {l : List Int} (hl : l.length = m.places.length) (ht : tmOk l) : spF m fl l = closeS m fl l := by
  have hb := ht.bnd
  obtain ⟨a1, a2, a3⟩ := spF_clP h (fl := fl) hl hb
  have a4 := spF_le h (fl := fl) hl
  obtain ⟨d1, d2, d3, d4⟩ := smD_facts h (fl := fl) a1 hl hb (fun j _ => a4 j)
  have d5 := smD_le h (fl := fl) hl
  have cn := fun {j : Nat} (hj : j < m.places.length) => closeS_nth (m := m) (fl := fl) (l := l) d3 hj
  have cl := closeS_len2 h (fl := fl) hl hb
  generalize closeN (smRound m fl) (sumN l + 1) l = D at *
  apply ext_nth2 (by omega)
  intro j hj
  have hj : j < m.places.length := by omega
  apply Int.le_antisymm
  · rw [cn hj]
    split
    · have := a3 _ (nth_mem (l := spF m fl l) (j := j) (by omega)); omega
    · exact d2 j (by omega)
  · refine spF_ge h (y := closeS m fl l) ?_ hl ?_ j
    · intro k hk back hn hm
      have r1 := Road.src_ok (h.rs _ (nth_mem hk)) back
      have r2 := Road.dst_ok (h.rs _ (nth_mem hk)) back
      have x := d1 k hk back hn
      rw [cn (by omega)] at hm ⊢
      rw [cn (by omega)]
      simp only [smMax] at *
      split at hm
      · omega
      · rename_i c
        rw [if_neg c, if_neg (by omega)]
        omega
    · intro i
      by_cases hi : i < m.places.length
      · rw [cn hi]
        have := ht _ (nth_mem (l := l) (j := i) (by omega))
        have := d5 i
        split <;> omega
      · have e1 : nth (closeS m fl l) i = 0 := by unfold nth; rw [List.getD_eq_getElem?_getD, List.getElem?_eq_none (by omega)]; rfl
        have e2 : nth l i = 0 := by unfold nth; rw [List.getD_eq_getElem?_getD, List.getElem?_eq_none (by omega)]; rfl
        rw [e1, e2]; exact Int.le_refl _
end Go.Ev

/- Chapter 26 of the references: tags. -/
namespace Go.Ev
open Go
variable [Lib] [Has1] [Has2]

def lessB (a b : List Int) : Bool := match (List.range (min a.length b.length)).find? (fun j => decide (nth a j ≠ nth b j)) with
  | some j => decide (nth a j < nth b j)
  | none => decide (a.length < b.length)

def bearerF (l : List Int) (x : Int) : Int := match (List.range l.length).find? (fun j => decide (nth l j = x)) with
  | some j => j
  | none => -1

def properN (l : List Int) (j : Nat) : Bool := decide (1 ≤ nth l j ∧ nth l j ≤ 65535 ∧ bearerF (l.take j) (nth l j) < 0)
def properB (l : List Int) : Bool := (List.range l.length).all (properN l)

end Go.Ev

/- Chapter 26 of the references: worlds, copies, validity. -/
namespace Go.Ev
open Go
variable [Lib] [Has1] [Has2]

structure World where
  tags : List Int
  whr : List Wh
instance : Dat World := ⟨⟨[], []⟩⟩
abbrev World.e (x : World) : T := .agg [tL x.tags, .sl (x.whr.map Wh.e)]
structure Bel where
  worlds : List World
instance : Dat Bel := ⟨⟨[]⟩⟩
abbrev Bel.e (b : Bel) : T := .agg [.sl (b.worlds.map World.e)]

/-- Small enough. -/
def World.sz (x : World) : Prop := x.tags.length ≤ 1000000 ∧ x.whr.length ≤ 1000000 ∧ ∀ w ∈ x.whr, w.frm.length ≤ 1000000
def Bel.sz (b : Bel) : Prop := b.worlds.length ≤ 1000000 ∧ ∀ x ∈ b.worlds, x.sz

@[go_sem] theorem cellsAre_wh (l : List Wh) : cellsAre 2 (l.map Wh.e) = true := cellsAre_map 2 _ (fun _ => rfl) l
@[go_sem] theorem cellsAre_world (l : List World) : cellsAre 2 (l.map World.e) = true := cellsAre_map 2 _ (fun _ => rfl) l
@[go_sem] theorem appOK_wh (l : List Wh) : appOK 2 (l.map Wh.e) = true := by cases l <;> rfl
@[go_sem] theorem appOK_world (l : List World) : appOK 2 (l.map World.e) = true := by cases l <;> rfl

/- validity -/
def whoB (m : Mine) (first : List Int) (x : World) (k : Nat) : Bool := decide (0 ≤ bearerF first (nth x.tags k)) && validB m (nth x.whr k)
def worldB (m : Mine) (ws : List World) (first : List Int) (i : Nat) : Bool :=
  decide ((nth ws i).tags.length = first.length ∧ (nth ws i).whr.length = first.length) && properB (nth ws i).tags && (decide (i = 0) || lessB (nth ws (i - 1)).tags (nth ws i).tags) && (List.range (nth ws i).tags.length).all (whoB m first (nth ws i))
def belB (m : Mine) (b : Bel) : Bool :=
  decide (1 ≤ b.worlds.length ∧ b.worlds.length ≤ 24) && decide (1 ≤ (nth b.worlds 0).tags.length ∧ (nth b.worlds 0).tags.length ≤ 12) && (List.range b.worlds.length).all (worldB m b.worlds (nth b.worlds 0).tags)

end Go.Ev

/- MADE BY PROGRAM (lib.py): the compact code of functions. -/
namespace Go.Ev.K
open Go.Ev
/-- /law34.FiringRaw -/
def law34_FiringRaw : Fn := { nargs := 3, vars := [0, 1, 2, 4, 5, 6, 7, 8, 9, 10, 11, 12, 13], body := (.seq (.reg [{ o := .bx (.v 1) 3, d := some 3 }, { o := .bx (.v 2) 4, d := some 4 }, { o := .mv (.b false), d := some 5 }] []) (.seq (.ite [{ o := .mv (.v 0) }, { o := .ca N.made_Light 0 [] [.l 0] }, { o := .un .not (.l 0) }, { o := .mv (.l 0) }, { o := .fa (.v 3) 0, g := some (0, false) }, { o := .ld (.l 0) 1 false, g := some (1, false) }, { o := .ln (.l 0), g := some (2, false) }, { o := .bin .gtr (.l 0) (.i 80), g := some (3, false) }, { o := .pk (.l 4) (.b true) (.l 0) }] [] 0 (.seq (.reg [{ o := .ca N.law34_awake 0 [] [] }, { o := .mv (.l 0), d := some 5 }] []) .ret) .skip) (.seq (.reg [{ o := .mv (.v 0) }, { o := .ca N.made_Roll 0 [] [.l 0] }, { o := .mv (.l 0), d := some 6 }] []) (.seq (.reg [{ o := .mv (.v 6) }, { o := .bs [.i 1, .i 2, .i 3, .i 0, .i (-1)] 1 }, { o := .ca N.made_Dice_Of 0 [] [.l 1, .l 0] }, { o := .mv (.v 6) }, { o := .fa (.v 4) 3 }, { o := .ld (.l 0) 1 false }, { o := .fa (.v 4) 3 }, { o := .ld (.l 0) 1 false }, { o := .bin .quo (.l 0) (.i 2) }, { o := .bs [.l 3, .i 50, .l 0, .i (-1), .i 2147483648, .i 2147483649] 1 }, { o := .ca N.made_Dice_Of 0 [] [.l 6, .l 0] }, { o := .mv (.l 8), d := some 7 }, { o := .mv (.l 1), d := some 8 }] [(1, 1), (5, 0), (7, 0), (9, 0)]) (.seq (.reg [{ o := .mv (.v 6) }, { o := .ca N.made_Dice_Some 0 [] [.l 0, .i 4] }, { o := .mv (.v 6) }, { o := .ca N.made_Dice_Ints 0 [] [.l 0] }, { o := .mv (.v 6) }, { o := .ca N.made_Dice_One 0 [] [.l 0, .i 2] }, { o := .bd [.nil, .nil, .t (.bool false)] [(0, 1, .l 4), (1, 1, .l 2), (2, 1, .l 0)] }, { o := .al [.nil, .nil, .t (.bool false)] [], d := some 9 }, { o := .st (.l 0) (.l 1) 3 [] }] []) (.seq (.reg [{ o := .mv (.v 6) }, { o := .ca N.law34_scene 0 [] [.l 0] }, { o := .mv (.l 0) }, { o := .ex (.l 0) 0 }, { o := .ex (.l 1) 1 }, { o := .ex (.l 2) 2 }, { o := .al [.nil, .t (.int .i64 (0)), .t (.int .i64 (0))] [], d := some 10 }, { o := .al [.nil, .nil, .t (.bool false)] [], d := some 11 }, { o := .al [.nil] [], d := some 12 }, { o := .st (.l 2) (.l 5) 3 [] }, { o := .st (.l 2) (.l 5) 3 [] }, { o := .st (.l 2) (.l 5) 1 [] }] []) (.seq (.reg [{ o := .ca N.law34_awake 0 [] [] }, { o := .mv (.l 0) }, { o := .ld (.v 3) 3 true, g := some (0, true) }, { o := .ld (.v 4) 4 true, g := some (1, true) }, { o := .ld (.v 9) 3 true, g := some (2, true) }, { o := .ld (.v 12) 1 true, g := some (3, true) }, { o := .mv (.v 7), g := some (4, true) }, { o := .mv (.v 8), g := some (5, true) }, { o := .mv (.v 6), g := some (6, true) }, { o := .ca N.made_Dice_One 0 [] [.l 0, .i 2], g := some (7, true) }, { o := .ca N.law34_agree 0 [] [.l 7, .l 6, .l 5, .l 4, .l 3, .l 2, .l 0], g := some (8, true) }, { o := .pk (.l 9) (.l 0) (.b false) }, { o := .mv (.l 0) }, { o := .ld (.v 10) 3 true, g := some (0, true) }, { o := .ld (.v 4) 4 true, g := some (1, true) }, { o := .ld (.v 11) 3 true, g := some (2, true) }, { o := .ld (.v 12) 1 true, g := some (3, true) }, { o := .mv (.v 7), g := some (4, true) }, { o := .mv (.v 8), g := some (5, true) }, { o := .ca N.law34_agree 0 [] [.l 5, .l 4, .l 3, .l 2, .l 1, .l 0, .b false], g := some (6, true) }, { o := .pk (.l 7) (.l 0) (.b false) }, { o := .mv (.l 0) }, { o := .ld (.v 3) 3 true, g := some (0, true) }, { o := .bd [.t (.int .i64 (0)), .t (.int .i64 (0)), .t (.int .i64 (0)), .t (.int .i64 (0))] [], g := some (1, true) }, { o := .ld (.v 11) 3 true, g := some (2, true) }, { o := .ld (.v 12) 1 true, g := some (3, true) }, { o := .mv (.v 7), g := some (4, true) }, { o := .mv (.v 8), g := some (5, true) }, { o := .ca N.law34_agree 0 [] [.l 5, .l 4, .l 3, .l 2, .l 1, .l 0, .b true], g := some (6, true) }, { o := .pk (.l 7) (.l 0) (.b false) }, { o := .mv (.l 0) }, { o := .ld (.v 10) 3 true, g := some (0, true) }, { o := .ld (.v 4) 4 true, g := some (1, true) }, { o := .ld (.v 9) 3 true, g := some (2, true) }, { o := .bd [.nil] [], g := some (3, true) }, { o := .mv (.v 7), g := some (4, true) }, { o := .mv (.v 8), g := some (5, true) }, { o := .ca N.law34_agree 0 [] [.l 5, .l 4, .l 3, .l 2, .l 1, .l 0, .b true], g := some (6, true) }, { o := .pk (.l 7) (.l 0) (.b false) }, { o := .mv (.l 0), d := some 5 }] [(2, 10), (3, 10), (4, 10), (5, 10)]) .ret))))))), res := [(5, none)] }
def law34_FiringMade_l1b : C := (.seq (.ite [{ o := .mv (.v 7) }, { o := .bin .lss (.l 0) (.i 6) }] [] 0 .skip (.exit 0)) (.seq (.blk 1 (.seq (.reg [{ o := .fa (.v 6) 3 }, { o := .ld (.l 0) 1 false }, { o := .mv (.v 2) }, { o := .fa (.v 3) 1 }, { o := .ld (.l 0) 1 false }, { o := .fa (.v 3) 1 }, { o := .ld (.l 0) 1 false }, { o := .bin .add (.l 0) (.i 1) }, { o := .fa (.v 3) 2 }, { o := .ld (.l 0) 1 false }, { o := .fa (.v 3) 2 }, { o := .ld (.l 0) 1 false }, { o := .bin .sub (.l 0) (.i 1) }, { o := .bs [.i 0, .l 8, .l 5, .l 3, .l 0, .i (-1), .i 5] 1 }, { o := .ca N.made_Dice_Of 0 [] [.l 11, .l 0] }, { o := .bin .add (.l 13) (.l 0) }, { o := .mv (.l 0), d := some 8 }] [(1, 14), (1, 15)]) (.ite [{ o := .ld (.v 3) 3 true }, { o := .ld (.v 6) 4 true }, { o := .ld (.v 4) 3 true }, { o := .ld (.v 5) 1 true }, { o := .mv (.v 2) }, { o := .bs [.i 1, .i 2, .i 3, .i 0] 1 }, { o := .ca N.made_Dice_Of 0 [] [.l 1, .l 0] }, { o := .mv (.v 8) }, { o := .mv (.v 2) }, { o := .ca N.made_Dice_One 0 [] [.l 0, .i 2] }, { o := .ca N.law34_agree 0 [] [.l 9, .l 8, .l 7, .l 6, .l 3, .l 2, .l 0] }, { o := .un .not (.l 0) }] [(0, 6), (0, 7), (0, 10), (1, 6), (1, 7), (1, 10), (2, 6), (2, 7), (2, 10), (3, 6), (3, 7), (3, 10)] 0 (.seq (.reg [{ o := .mv (.b false), d := some 1 }] []) .ret) .skip))) (.reg [{ o := .mv (.v 7) }, { o := .bin .add (.l 0) (.i 1) }, { o := .mv (.l 0), d := some 7 }] [])))
def law34_FiringMade_l1 : C := .loop true [0, 1, 8] K.law34_FiringMade_l1b
/-- /law34.FiringMade -/
def law34_FiringMade : Fn := { nargs := 1, vars := [0, 2, 3, 4, 5, 6, 7, 8, 9], body := (.seq (.reg [{ o := .mv (.b false), d := some 1 }] []) (.seq (.ite [{ o := .mv (.v 0) }, { o := .ca N.made_Light 0 [] [.l 0] }, { o := .un .not (.l 0) }] [] 0 (.seq (.reg [{ o := .ca N.law34_awake 0 [] [] }, { o := .mv (.l 0), d := some 1 }] []) .ret) .skip) (.seq (.reg [{ o := .mv (.v 0) }, { o := .ca N.made_Roll 0 [] [.l 0] }, { o := .mv (.l 0), d := some 2 }] []) (.seq (.reg [{ o := .mv (.v 2) }, { o := .ca N.law34_scene 0 [] [.l 0] }, { o := .mv (.l 0) }, { o := .ex (.l 0) 0 }, { o := .ex (.l 1) 1 }, { o := .ex (.l 2) 2 }, { o := .al [.nil, .t (.int .i64 (0)), .t (.int .i64 (0))] [], d := some 3 }, { o := .al [.nil, .nil, .t (.bool false)] [], d := some 4 }, { o := .al [.nil] [], d := some 5 }, { o := .st (.l 2) (.l 5) 3 [] }, { o := .st (.l 2) (.l 5) 3 [] }, { o := .st (.l 2) (.l 5) 1 [] }] []) (.seq (.ite [{ o := .mv (.v 2) }, { o := .ca N.made_Dice_One 0 [] [.l 0, .i 2] }] [] 0 (.reg [{ o := .ca N.law34_ready 0 [] [] }, { o := .mv (.l 0) }, { o := .ex (.l 0) 0 }, { o := .ex (.l 1) 1 }, { o := .ex (.l 2) 2 }, { o := .st (.v 3) (.l 2) 3 [] }, { o := .st (.v 4) (.l 2) 3 [] }, { o := .st (.v 5) (.l 2) 1 [] }] []) .skip) (.seq (.reg [{ o := .mv (.v 2) }, { o := .ca N.made_Dice_Next 0 [] [.l 0, .i 5] }, { o := .bd [.t (.int .i64 (0)), .t (.int .i64 (0)), .t (.int .i64 (0)), .t (.int .i64 (0))] [(0, 1, .l 0)] }, { o := .al [.t (.int .i64 (0)), .t (.int .i64 (0)), .t (.int .i64 (0)), .t (.int .i64 (0))] [], d := some 6 }, { o := .st (.l 0) (.l 1) 4 [] }] []) (.seq (.ite [{ o := .fa (.v 6) 0 }, { o := .ld (.l 0) 1 false }, { o := .bin .gtr (.l 0) (.i 0) }] [] 0 (.reg [{ o := .mv (.v 2) }, { o := .ca N.made_Dice_Next 0 [] [.l 0, .i 2] }, { o := .bin .add (.i 1) (.l 0) }, { o := .mv (.v 2) }, { o := .bs [.i 500, .i 0, .i 77] 1 }, { o := .ca N.made_Dice_Of 0 [] [.l 1, .l 0] }, { o := .fa (.v 6) 1 }, { o := .st (.l 0) (.l 4) 1 [] }, { o := .fa (.v 6) 3 }, { o := .st (.l 0) (.l 3) 1 [] }] []) .skip) (.seq (.ite [{ o := .fa (.v 6) 0 }, { o := .ld (.l 0) 1 false }, { o := .bin .gtr (.l 0) (.i 1) }] [] 0 (.reg [{ o := .fa (.v 6) 1 }, { o := .ld (.l 0) 1 false }, { o := .bin .sub (.i 3) (.l 0) }, { o := .fa (.v 6) 2 }, { o := .st (.l 0) (.l 1) 1 [] }] []) .skip) (.seq (.seq (.reg [{ o := .mv (.i 0), d := some 7 }] []) (.blk 0 K.law34_FiringMade_l1)) (.seq (.reg [{ o := .ca N.law34_awake 0 [] [] }, { o := .mv (.l 0), d := some 1 }] []) .ret)))))))))), res := [(1, none)] }
def law34_FiringNeeds_l1b : C := (.seq (.ite [{ o := .mv (.v 13) }, { o := .bin .gtr (.l 0) (.i 0) }] [] 0 .skip (.exit 0)) (.seq (.blk 1 (.seq (.reg [{ o := .mv (.v 8) }, { o := .mv (.v 2) }, { o := .bs [.i 0, .i 10, .i 200, .i 301] 1 }, { o := .ca N.made_Dice_Of 0 [] [.l 1, .l 0] }, { o := .bin .add (.l 3) (.l 0) }, { o := .mv (.l 0), d := some 8 }] []) (.seq (.reg [{ o := .al [.nil, .nil, .t (.bool false)] [], d := some 14 }, { o := .al [.nil] [], d := some 15 }, { o := .ld (.v 4) 3 true }, { o := .ld (.v 5) 1 true }, { o := .st (.l 3) (.l 1) 3 [] }, { o := .st (.l 3) (.l 1) 1 [] }] [(3, 5)]) (.seq (.reg [{ o := .mv (.v 2) }, { o := .ca N.made_Dice_Next 0 [] [.l 0, .i 6] }, { o := .bin .gtr (.l 0) (.i 0) }, { o := .fa (.v 14) 2 }, { o := .st (.l 0) (.l 1) 1 [] }] []) (.seq (.ite [{ o := .mv (.v 2) }, { o := .ca N.made_Dice_One 0 [] [.l 0, .i 6] }] [] 0 (.reg [{ o := .ld (.v 6) 1 true }, { o := .st (.v 15) (.l 0) 1 [] }] []) .skip) (.seq (.reg [{ o := .fa (.v 14) 2 }, { o := .ld (.l 0) 1 false }, { o := .mv (.l 0) }, { o := .fa (.v 15) 0, g := some (0, true) }, { o := .ld (.l 0) 1 false, g := some (1, true) }, { o := .ia (.l 0) (.i 0) 2, g := some (2, true) }, { o := .fa (.l 0) 1, g := some (3, true) }, { o := .ld (.l 0) 1 false, g := some (4, true) }, { o := .ia (.l 0) (.i 0) 2, g := some (5, true) }, { o := .fa (.l 0) 1, g := some (6, true) }, { o := .ld (.l 0) 1 false, g := some (7, true) }, { o := .ia (.l 0) (.i 1) 1, g := some (8, true) }, { o := .ld (.l 0) 1 false, g := some (9, true) }, { o := .bin .eql (.l 0) (.i 1099511627776), g := some (10, true) }, { o := .pk (.l 11) (.l 0) (.b false) }, { o := .mv (.l 0), d := some 16 }] []) (.seq (.reg [{ o := .mv (.v 2) }, { o := .ca N.made_Dice_Next 0 [] [.l 0, .i 3] }, { o := .bin .add (.i 1) (.l 0) }, { o := .mv (.l 0), d := some 17 }] []) (.seq (.seq (.reg [{ o := .mv (.v 2) }, { o := .ca N.made_Dice_Next 0 [] [.l 0, .i 4], d := some 26 }] []) (.blk 2 (.ite [{ o := .bin .eql (.v 26) (.i 0) }, { o := .mv (.l 0) }] [] 0 (.seq (.reg [{ o := .ld (.v 3) 3 true }, { o := .ld (.v 7) 4 true }, { o := .ld (.v 14) 3 true }, { o := .ld (.v 15) 1 true }, { o := .mv (.v 17) }, { o := .mv (.v 8) }, { o := .ca N.firing_Arm 0 [] [.l 5, .l 4, .l 3, .l 2, .l 1, .l 0] }, { o := .mv (.l 0) }, { o := .ex (.l 0) 0 }, { o := .ex (.l 1) 1 }, { o := .al [.t (.int .i64 (0)), .t (.int .i64 (0)), .t (.int .i64 (0)), .t (.int .i64 (0))] [], d := some 18 }, { o := .st (.l 0) (.l 2) 4 [] }, { o := .mv (.l 2), d := some 19 }] []) (.seq (.ite [{ o := .mv (.v 19) }, { o := .bin .eql (.l 0) (.i 0) }] [] 0 (.seq (.ite [{ o := .mv (.v 16) }, { o := .un .not (.l 0) }, { o := .mv (.l 0) }, { o := .fa (.v 7) 0, g := some (0, false) }, { o := .ld (.l 0) 1 false, g := some (1, false) }, { o := .bin .neq (.l 0) (.i 0), g := some (2, false) }, { o := .pk (.l 3) (.b true) (.l 0) }] [] 0 (.seq (.reg [{ o := .mv (.b false), d := some 1 }] []) .ret) .skip) (.reg [{ o := .mv (.v 8) }, { o := .mv (.v 17) }, { o := .mv (.l 1), d := some 9 }, { o := .mv (.l 1), d := some 11 }] [])) .skip) (.reg [{ o := .ld (.v 18) 4 true }, { o := .st (.v 7) (.l 0) 4 [] }] []))) (.ite [{ o := .bin .eql (.v 26) (.i 1) }, { o := .mv (.l 0) }] [] 0 (.seq (.reg [{ o := .ld (.v 3) 3 true }, { o := .ld (.v 7) 4 true }, { o := .ld (.v 14) 3 true }, { o := .ld (.v 15) 1 true }, { o := .mv (.v 17) }, { o := .mv (.v 8) }, { o := .ca N.firing_Agree 0 [] [.l 5, .l 4, .l 3, .l 2, .l 1, .l 0] }, { o := .mv (.l 0) }, { o := .ex (.l 0) 0 }, { o := .ex (.l 1) 1 }, { o := .al [.t (.int .i64 (0)), .t (.int .i64 (0)), .t (.int .i64 (0)), .t (.int .i64 (0))] [], d := some 20 }, { o := .st (.l 0) (.l 2) 4 [] }, { o := .mv (.l 2), d := some 21 }] []) (.seq (.ite [{ o := .mv (.v 21) }, { o := .bin .eql (.l 0) (.i 0) }] [] 0 (.seq (.ite [{ o := .mv (.v 16) }, { o := .un .not (.l 0) }, { o := .mv (.l 0) }, { o := .mv (.v 9), g := some (0, false) }, { o := .bin .lss (.l 0) (.i 0), g := some (1, false) }, { o := .pk (.l 2) (.b true) (.l 0) }, { o := .mv (.l 0) }, { o := .mv (.v 8), g := some (0, false) }, { o := .mv (.v 9), g := some (1, false) }, { o := .bin .sub (.l 1) (.l 0), g := some (2, false) }, { o := .fa (.v 3) 1, g := some (3, false) }, { o := .ld (.l 0) 1 false, g := some (4, false) }, { o := .bin .gtr (.l 2) (.l 0), g := some (5, false) }, { o := .pk (.l 6) (.b true) (.l 0) }, { o := .mv (.l 0) }, { o := .mv (.v 17), g := some (0, false) }, { o := .mv (.v 11), g := some (1, false) }, { o := .bin .eql (.l 1) (.l 0), g := some (2, false) }, { o := .pk (.l 3) (.b true) (.l 0) }] [] 0 (.seq (.reg [{ o := .mv (.b false), d := some 1 }] []) .ret) .skip) (.reg [{ o := .mv (.v 8) }, { o := .mv (.v 17) }, { o := .mv (.l 1), d := some 10 }, { o := .mv (.l 1), d := some 12 }] [])) .skip) (.reg [{ o := .ld (.v 20) 4 true }, { o := .st (.v 7) (.l 0) 4 [] }] []))) (.ite [{ o := .bin .eql (.v 26) (.i 2) }, { o := .mv (.l 0) }] [] 0 (.seq (.reg [{ o := .al [.t (.int .i64 (0)), .t (.int .i64 (0)), .t (.int .i64 (0)), .t (.int .i64 (0))] [], d := some 22 }, { o := .ld (.v 3) 3 true }, { o := .ld (.v 7) 4 true }, { o := .ld (.v 14) 3 true }, { o := .ld (.v 15) 1 true }, { o := .mv (.v 8) }, { o := .mv (.v 2) }, { o := .ca N.made_Dice_One 0 [] [.l 0, .i 3] }, { o := .ca N.firing_Fire 0 [] [.l 6, .l 5, .l 4, .l 3, .l 2, .l 0] }, { o := .mv (.l 0) }, { o := .ex (.l 0) 0 }, { o := .ex (.l 1) 1 }, { o := .st (.l 11) (.l 1) 4 [] }, { o := .mv (.l 1), d := some 23 }] [(0, 8), (0, 9), (1, 8), (2, 8), (3, 8), (4, 8)]) (.seq (.ite [{ o := .mv (.v 23) }, { o := .bin .eql (.l 0) (.i 0) }, { o := .mv (.l 0) }, { o := .mv (.v 16), g := some (0, true) }, { o := .un .not (.l 0), g := some (1, true) }, { o := .mv (.l 0), g := some (2, true) }, { o := .mv (.v 10), g := some (0, false) }, { o := .bin .lss (.l 0) (.i 0), g := some (1, false) }, { o := .pk (.l 2) (.b true) (.l 0), g := some (5, true) }, { o := .mv (.l 0), g := some (6, true) }, { o := .mv (.v 8), g := some (0, false) }, { o := .mv (.v 10), g := some (1, false) }, { o := .bin .sub (.l 1) (.l 0), g := some (2, false) }, { o := .fa (.v 3) 1, g := some (3, false) }, { o := .ld (.l 0) 1 false, g := some (4, false) }, { o := .bin .gtr (.l 2) (.l 0), g := some (5, false) }, { o := .pk (.l 6) (.b true) (.l 0), g := some (13, true) }, { o := .mv (.l 0), g := some (14, true) }, { o := .mv (.v 11), g := some (0, false) }, { o := .mv (.v 12), g := some (1, false) }, { o := .bin .eql (.l 1) (.l 0), g := some (2, false) }, { o := .pk (.l 3) (.b true) (.l 0), g := some (18, true) }, { o := .pk (.l 19) (.l 0) (.b false) }] [] 0 (.seq (.reg [{ o := .mv (.b false), d := some 1 }] []) .ret) .skip) (.reg [{ o := .ld (.v 22) 4 true }, { o := .st (.v 7) (.l 0) 4 [] }] []))) (.seq (.reg [{ o := .ld (.v 3) 3 true }, { o := .ld (.v 7) 4 true }, { o := .mv (.v 8) }, { o := .ca N.firing_Abort 0 [] [.l 2, .l 1, .l 0] }, { o := .mv (.l 0) }, { o := .ex (.l 0) 0 }, { o := .ex (.l 1) 1 }, { o := .al [.t (.int .i64 (0)), .t (.int .i64 (0)), .t (.int .i64 (0)), .t (.int .i64 (0))] [], d := some 24 }, { o := .st (.l 0) (.l 2) 4 [] }, { o := .mv (.l 2), d := some 25 }] []) (.seq (.ite [{ o := .mv (.v 25) }, { o := .bin .eql (.l 0) (.i 0) }] [] 0 (.reg [{ o := .mv (.i (-1)), d := some 9 }, { o := .mv (.i (-1)), d := some 10 }, { o := .mv (.i 0), d := some 11 }, { o := .mv (.i 0), d := some 12 }] []) .skip) (.reg [{ o := .ld (.v 24) 4 true }, { o := .st (.v 7) (.l 0) 4 [] }] [])))))))) (.ite [{ o := .ld (.v 3) 3 true }, { o := .ld (.v 7) 4 true }, { o := .ca N.firing_Valid 0 [] [.l 1, .l 0] }, { o := .un .not (.l 0) }] [] 0 (.seq (.reg [{ o := .mv (.b false), d := some 1 }] []) .ret) .skip))))))))) (.reg [{ o := .mv (.v 13) }, { o := .bin .sub (.l 0) (.i 1) }, { o := .mv (.l 0), d := some 13 }] [])))
def law34_FiringNeeds_l1 : C := .loop true [0, 1, 14, 15, 16, 17, 18, 19, 20, 21, 22, 23, 24, 25, 26] K.law34_FiringNeeds_l1b
/-- /law34.FiringNeeds -/
def law34_FiringNeeds : Fn := { nargs := 1, vars := [0, 2, 3, 4, 5, 6, 7, 8, 9, 10, 11, 12, 13, 14, 15, 16, 17, 18, 19, 20, 21, 22, 23, 24, 25, 26, 88], body := (.seq (.reg [{ o := .mv (.b false), d := some 1 }] []) (.seq (.ite [{ o := .mv (.v 0) }, { o := .ca N.made_Light 0 [] [.l 0] }, { o := .un .not (.l 0) }] [] 0 (.seq (.reg [{ o := .ca N.law34_awake 0 [] [] }, { o := .mv (.l 0), d := some 1 }] []) .ret) .skip) (.seq (.reg [{ o := .mv (.v 0) }, { o := .ca N.made_Roll 0 [] [.l 0] }, { o := .mv (.l 0), d := some 2 }] []) (.seq (.reg [{ o := .ca N.law34_ready 0 [] [] }, { o := .mv (.l 0) }, { o := .ex (.l 0) 0 }, { o := .ex (.l 1) 1 }, { o := .ex (.l 2) 2 }, { o := .al [.nil, .t (.int .i64 (0)), .t (.int .i64 (0))] [], d := some 3 }, { o := .al [.nil, .nil, .t (.bool false)] [], d := some 4 }, { o := .al [.nil] [], d := some 5 }, { o := .st (.l 2) (.l 5) 3 [] }, { o := .st (.l 2) (.l 5) 3 [] }, { o := .st (.l 2) (.l 5) 1 [] }] []) (.seq (.reg [{ o := .ld (.v 5) 1 true }, { o := .ca N.ref26_Copy_v2 3 [] [.l 0] }, { o := .al [.nil] [], d := some 6 }, { o := .st (.l 0) (.l 1) 1 [] }] []) (.seq (.reg [{ o := .fa (.v 6) 0 }, { o := .ld (.l 0) 1 false }, { o := .ia (.l 0) (.i 0) 2 }, { o := .fa (.l 0) 1 }, { o := .ld (.l 0) 1 false }, { o := .ia (.l 0) (.i 0) 2 }, { o := .fa (.l 0) 1 }, { o := .ld (.l 0) 1 false }, { o := .ia (.l 0) (.i 1) 1 }, { o := .st (.l 0) (.i 5000) 1 [] }] []) (.seq (.reg [{ o := .al [.t (.int .i64 (0)), .t (.int .i64 (0)), .t (.int .i64 (0)), .t (.int .i64 (0))] [], d := some 7 }] []) (.seq (.reg [{ o := .mv (.i 0), d := some 8 }, { o := .mv (.i (-1)), d := some 9 }, { o := .mv (.i (-1)), d := some 10 }, { o := .mv (.i 0), d := some 11 }, { o := .mv (.i 0), d := some 12 }] []) (.seq (.seq (.reg [{ o := .mv (.v 2) }, { o := .ca N.made_Dice_Next 0 [] [.l 0, .i 30] }, { o := .mv (.l 0), d := some 13 }] []) (.blk 0 K.law34_FiringNeeds_l1)) (.seq (.reg [{ o := .ca N.law34_awake 0 [] [] }, { o := .mv (.l 0), d := some 1 }] []) .ret)))))))))), res := [(1, none)] }
/-- /law34.awake -/
def law34_awake : Fn := { nargs := 0, vars := [0, 1, 2, 3, 4, 5, 6, 7, 8, 9, 11], body := (.seq (.reg [{ o := .mv (.b false), d := some 0 }] []) (.seq (.reg [{ o := .ca N.law34_ready 0 [] [] }, { o := .mv (.l 0) }, { o := .ex (.l 0) 0 }, { o := .ex (.l 1) 1 }, { o := .ex (.l 2) 2 }, { o := .al [.nil, .t (.int .i64 (0)), .t (.int .i64 (0))] [], d := some 1 }, { o := .al [.nil, .nil, .t (.bool false)] [], d := some 2 }, { o := .al [.nil] [], d := some 3 }, { o := .st (.l 2) (.l 5) 3 [] }, { o := .st (.l 2) (.l 5) 3 [] }, { o := .st (.l 2) (.l 5) 1 [] }] []) (.seq (.reg [{ o := .ld (.v 1) 3 true }, { o := .bd [.t (.int .i64 (0)), .t (.int .i64 (0)), .t (.int .i64 (0)), .t (.int .i64 (0))] [] }, { o := .ld (.v 2) 3 true }, { o := .ld (.v 3) 1 true }, { o := .ca N.firing_Arm 0 [] [.l 3, .l 2, .l 1, .l 0, .i 1, .i 100] }, { o := .mv (.l 0) }, { o := .ex (.l 0) 0 }, { o := .ex (.l 1) 1 }, { o := .al [.t (.int .i64 (0)), .t (.int .i64 (0)), .t (.int .i64 (0)), .t (.int .i64 (0))] [], d := some 4 }, { o := .st (.l 0) (.l 2) 4 [] }, { o := .mv (.l 2), d := some 5 }] []) (.seq (.reg [{ o := .ld (.v 1) 3 true }, { o := .ld (.v 4) 4 true }, { o := .ld (.v 2) 3 true }, { o := .ld (.v 3) 1 true }, { o := .ca N.firing_Agree 0 [] [.l 3, .l 2, .l 1, .l 0, .i 2, .i 200] }, { o := .mv (.l 0) }, { o := .ex (.l 0) 0 }, { o := .ex (.l 1) 1 }, { o := .al [.t (.int .i64 (0)), .t (.int .i64 (0)), .t (.int .i64 (0)), .t (.int .i64 (0))] [], d := some 6 }, { o := .st (.l 0) (.l 2) 4 [] }, { o := .mv (.l 2), d := some 7 }] []) (.seq (.reg [{ o := .ld (.v 1) 3 true }, { o := .ld (.v 6) 4 true }, { o := .ld (.v 2) 3 true }, { o := .ld (.v 3) 1 true }, { o := .ca N.firing_Fire 0 [] [.l 3, .l 2, .l 1, .l 0, .i 300, .b false] }, { o := .mv (.l 0) }, { o := .ex (.l 0) 0 }, { o := .ex (.l 1) 1 }, { o := .al [.t (.int .i64 (0)), .t (.int .i64 (0)), .t (.int .i64 (0)), .t (.int .i64 (0))] [], d := some 8 }, { o := .st (.l 0) (.l 2) 4 [] }, { o := .mv (.l 2), d := some 9 }] []) (.seq (.reg [{ o := .ld (.v 1) 3 true }, { o := .ld (.v 4) 4 true }, { o := .ld (.v 2) 3 true }, { o := .ld (.v 3) 1 true }, { o := .ca N.firing_Agree 0 [] [.l 3, .l 2, .l 1, .l 0, .i 1, .i 200] }, { o := .mv (.l 0) }, { o := .ex (.l 0) 0 }, { o := .ex (.l 1) 1 }, { o := .al [.t (.int .i64 (0)), .t (.int .i64 (0)), .t (.int .i64 (0)), .t (.int .i64 (0))] [] }, { o := .st (.l 0) (.l 2) 4 [] }, { o := .mv (.l 2), d := some 10 }] []) (.seq (.reg [{ o := .mv (.v 5) }, { o := .bin .eql (.l 0) (.i 0) }, { o := .mv (.l 0) }, { o := .mv (.v 7), g := some (0, true) }, { o := .bin .eql (.l 0) (.i 0), g := some (1, true) }, { o := .pk (.l 2) (.l 0) (.b false) }, { o := .mv (.l 0) }, { o := .mv (.v 9), g := some (0, true) }, { o := .bin .eql (.l 0) (.i 0), g := some (1, true) }, { o := .pk (.l 2) (.l 0) (.b false) }, { o := .mv (.l 0) }, { o := .mv (.v 10), g := some (0, true) }, { o := .bin .eql (.l 0) (.i 19), g := some (1, true) }, { o := .pk (.l 2) (.l 0) (.b false) }, { o := .mv (.l 0) }, { o := .fa (.v 4) 0, g := some (0, true) }, { o := .ld (.l 0) 1 false, g := some (1, true) }, { o := .bin .eql (.l 0) (.i 1), g := some (2, true) }, { o := .pk (.l 3) (.l 0) (.b false) }, { o := .mv (.l 0) }, { o := .fa (.v 8) 0, g := some (0, true) }, { o := .ld (.l 0) 1 false, g := some (1, true) }, { o := .bin .eql (.l 0) (.i 3), g := some (2, true) }, { o := .pk (.l 3) (.l 0) (.b false) }, { o := .mv (.l 0) }, { o := .fa (.v 8) 3, g := some (0, true) }, { o := .ld (.l 0) 1 false, g := some (1, true) }, { o := .bin .eql (.l 0) (.i 300), g := some (2, true) }, { o := .pk (.l 3) (.l 0) (.b false) }, { o := .mv (.l 0) }, { o := .ld (.v 1) 3 true, g := some (0, true) }, { o := .ld (.v 4) 4 true, g := some (1, true) }, { o := .ca N.firing_Due 0 [] [.l 1, .l 0, .i 150], g := some (2, true) }, { o := .bin .eql (.l 0) (.i 250), g := some (3, true) }, { o := .pk (.l 4) (.l 0) (.b false) }, { o := .mv (.l 0), d := some 0 }] []) .ret))))))), res := [(0, none)] }
def made_Dice_Ints_l1b : C := (.seq (.ite [{ o := .mv (.v 3) }, { o := .bin .gtr (.l 0) (.i 0) }] [] 0 .skip (.exit 0)) (.seq (.blk 1 (.reg [{ o := .mv (.v 2) }, { o := .mv (.v 0) }, { o := .ca N.made_Dice_Next 0 [] [.l 0, .i 9] }, { o := .bin .sub (.l 0) (.i 1) }, { o := .bs [.l 0] 1 }, { o := .app (.l 4) (.l 0) true 1 }, { o := .mv (.l 0), d := some 2 }] [])) (.reg [{ o := .mv (.v 3) }, { o := .bin .sub (.l 0) (.i 1) }, { o := .mv (.l 0), d := some 3 }] [])))
def made_Dice_Ints_l1 : C := .loop true [1] K.made_Dice_Ints_l1b
/-- (*/made.Dice).Ints -/
def made_Dice_Ints : Fn := { nargs := 1, vars := [0, 2, 3, 4], body := (.seq (.reg [{ o := .mv (.c (.nil)), d := some 1 }] []) (.seq (.reg [{ o := .nw 1, d := some 2 }] []) (.seq (.seq (.reg [{ o := .mv (.v 0) }, { o := .ca N.made_Dice_Next 0 [] [.l 0, .i 5] }, { o := .mv (.l 0), d := some 3 }] []) (.blk 0 K.made_Dice_Ints_l1)) (.seq (.reg [{ o := .mv (.v 2) }, { o := .mv (.l 0), d := some 1 }] []) .ret)))), res := [(1, none)] }
/-- /law34.scene -/
def law34_scene : Fn := { nargs := 1, vars := [0, 2, 3, 4, 5, 6, 7, 8, 9, 10, 11], body := (.seq (.reg [{ o := .al [.nil, .t (.int .i64 (0)), .t (.int .i64 (0))] [], d := some 1 }, { o := .al [.nil, .nil, .t (.bool false)] [], d := some 2 }, { o := .al [.nil] [], d := some 3 }] []) (.seq (.reg [{ o := .mv (.v 0) }, { o := .ca N.made_Dice_Mine 0 [] [.l 0] }, { o := .al [.nil, .nil] [], d := some 4 }, { o := .st (.l 0) (.l 1) 2 [] }] []) (.seq (.reg [{ o := .al [.nil, .t (.int .i64 (0)), .t (.int .i64 (0))] [], d := some 5 }, { o := .fa (.v 4) 0 }, { o := .ld (.l 0) 1 false }, { o := .ln (.l 0) }, { o := .bin .sub (.l 0) (.i 1) }, { o := .bs [.l 0] 1 }, { o := .mv (.v 0) }, { o := .bs [.i 299, .i 9] 1 }, { o := .ca N.made_Dice_Of 0 [] [.l 1, .l 0] }, { o := .bin .add (.i 1) (.l 0) }, { o := .mv (.v 0) }, { o := .bs [.i 1799, .i 9] 1 }, { o := .ca N.made_Dice_Of 0 [] [.l 1, .l 0] }, { o := .bin .add (.i 1) (.l 0) }, { o := .bd [.nil, .t (.int .i64 (0)), .t (.int .i64 (0))] [(0, 1, .l 8), (1, 1, .l 4), (2, 1, .l 0)] }, { o := .st (.l 14) (.l 0) 3 [] }] [(0, 9), (0, 13), (2, 9), (2, 13), (5, 9), (5, 13), (7, 7), (11, 1)]) (.seq (.reg [{ o := .mv (.v 0) }, { o := .ld (.v 4) 2 true }, { o := .ca N.made_Dice_Belief 0 [] [.l 1, .l 0] }, { o := .al [.nil] [], d := some 6 }, { o := .st (.l 0) (.l 1) 1 [] }] []) (.seq (.reg [{ o := .ld (.v 4) 2 true }, { o := .fa (.v 5) 0 }, { o := .ld (.l 0) 1 false }, { o := .ca N.ref32_Border 0 [] [.l 2, .l 0] }, { o := .mv (.l 0), d := some 7 }] []) (.seq (.reg [{ o := .al [.nil] [], d := some 8 }, { o := .ld (.v 4) 2 true }, { o := .ld (.v 6) 1 true }, { o := .mv (.v 7) }, { o := .ld (.v 6) 1 true }, { o := .ca N.made_Last 0 [] [.l 0] }, { o := .mv (.v 0) }, { o := .ca N.made_Dice_Next 0 [] [.l 0, .i 50] }, { o := .bin .add (.l 2) (.l 0) }, { o := .ca N.ref32_Seal 0 [] [.l 7, .l 6, .l 5, .l 0] }, { o := .mv (.l 0) }, { o := .ex (.l 0) 0 }, { o := .ex (.l 1) 1 }, { o := .st (.l 12) (.l 1) 1 [] }, { o := .mv (.l 1), d := some 9 }] [(0, 6), (0, 8), (0, 10), (1, 6), (1, 8), (2, 6), (2, 8)]) (.seq (.ite [{ o := .mv (.v 9) }, { o := .bin .neq (.l 0) (.i 0) }] [] 0 (.reg [{ o := .ld (.v 6) 1 true }, { o := .st (.v 8) (.l 0) 1 [] }] []) .skip) (.seq (.reg [{ o := .bs [.i 1] 1 }, { o := .bs [.i 2] 1 }, { o := .mv (.v 0) }, { o := .ca N.made_Dice_Next 0 [] [.l 0, .i 6] }, { o := .bin .gtr (.l 0) (.i 0) }, { o := .bd [.nil, .nil, .t (.bool false)] [(0, 1, .l 4), (1, 1, .l 3), (2, 1, .l 0)] }, { o := .al [.nil, .nil, .t (.bool false)] [], d := some 10 }, { o := .st (.l 0) (.l 1) 3 [] }] []) (.seq (.reg [{ o := .ld (.v 5) 3 true }, { o := .ld (.v 10) 3 true }, { o := .ld (.v 8) 1 true }, { o := .st (.v 1) (.l 2) 3 [] }, { o := .st (.v 2) (.l 2) 3 [] }, { o := .st (.v 3) (.l 2) 1 [] }] [(1, 4), (2, 4), (2, 5)]) .ret))))))))), res := [(1, some (3, true)), (2, some (3, true)), (3, some (1, true))] }
/-- /law34.agree -/
def law34_agree : Fn := { nargs := 7, vars := [0, 1, 2, 3, 4, 5, 6, 7, 8, 9, 10, 14, 15, 16, 17, 18, 19, 20, 21, 22, 23, 24, 25, 26, 27, 28, 29, 30], body := (.seq (.reg [{ o := .bx (.v 0) 3, d := some 7 }, { o := .bx (.v 1) 4, d := some 8 }, { o := .bx (.v 2) 3, d := some 9 }, { o := .bx (.v 3) 1, d := some 10 }, { o := .mv (.b false), d := some 11 }] []) (.seq (.reg [{ o := .ld (.v 7) 3 true }, { o := .ld (.v 8) 4 true }, { o := .ld (.v 9) 3 true }, { o := .ld (.v 10) 1 true }, { o := .mv (.v 4) }, { o := .mv (.v 5) }, { o := .ca N.firing_Arm 0 [] [.l 5, .l 4, .l 3, .l 2, .l 1, .l 0] }, { o := .mv (.l 0) }, { o := .ex (.l 0) 0 }, { o := .ex (.l 1) 1 }, { o := .al [.t (.int .i64 (0)), .t (.int .i64 (0)), .t (.int .i64 (0)), .t (.int .i64 (0))] [], d := some 12 }, { o := .st (.l 0) (.l 2) 4 [] }, { o := .mv (.l 2), d := some 13 }] []) (.seq (.reg [{ o := .ld (.v 7) 3 true }, { o := .ld (.v 8) 4 true }, { o := .ld (.v 9) 3 true }, { o := .ld (.v 10) 1 true }, { o := .mv (.v 4) }, { o := .mv (.v 5) }, { o := .ca N.ref34_Arm 0 [] [.l 5, .l 4, .l 3, .l 2, .l 1, .l 0] }, { o := .mv (.l 0) }, { o := .ex (.l 0) 0 }, { o := .ex (.l 1) 1 }, { o := .al [.t (.int .i64 (0)), .t (.int .i64 (0)), .t (.int .i64 (0)), .t (.int .i64 (0))] [], d := some 14 }, { o := .st (.l 0) (.l 2) 4 [] }, { o := .mv (.l 2), d := some 15 }] []) (.seq (.reg [{ o := .ld (.v 7) 3 true }, { o := .ld (.v 8) 4 true }, { o := .ld (.v 9) 3 true }, { o := .ld (.v 10) 1 true }, { o := .mv (.v 4) }, { o := .mv (.v 5) }, { o := .ca N.firing_Agree 0 [] [.l 5, .l 4, .l 3, .l 2, .l 1, .l 0] }, { o := .mv (.l 0) }, { o := .ex (.l 0) 0 }, { o := .ex (.l 1) 1 }, { o := .al [.t (.int .i64 (0)), .t (.int .i64 (0)), .t (.int .i64 (0)), .t (.int .i64 (0))] [], d := some 16 }, { o := .st (.l 0) (.l 2) 4 [] }, { o := .mv (.l 2), d := some 17 }] []) (.seq (.reg [{ o := .ld (.v 7) 3 true }, { o := .ld (.v 8) 4 true }, { o := .ld (.v 9) 3 true }, { o := .ld (.v 10) 1 true }, { o := .mv (.v 4) }, { o := .mv (.v 5) }, { o := .ca N.ref34_Agree 0 [] [.l 5, .l 4, .l 3, .l 2, .l 1, .l 0] }, { o := .mv (.l 0) }, { o := .ex (.l 0) 0 }, { o := .ex (.l 1) 1 }, { o := .al [.t (.int .i64 (0)), .t (.int .i64 (0)), .t (.int .i64 (0)), .t (.int .i64 (0))] [], d := some 18 }, { o := .st (.l 0) (.l 2) 4 [] }, { o := .mv (.l 2), d := some 19 }] []) (.seq (.reg [{ o := .ld (.v 7) 3 true }, { o := .ld (.v 8) 4 true }, { o := .ld (.v 9) 3 true }, { o := .ld (.v 10) 1 true }, { o := .mv (.v 5) }, { o := .mv (.v 6) }, { o := .ca N.firing_Fire 0 [] [.l 5, .l 4, .l 3, .l 2, .l 1, .l 0] }, { o := .mv (.l 0) }, { o := .ex (.l 0) 0 }, { o := .ex (.l 1) 1 }, { o := .al [.t (.int .i64 (0)), .t (.int .i64 (0)), .t (.int .i64 (0)), .t (.int .i64 (0))] [], d := some 20 }, { o := .st (.l 0) (.l 2) 4 [] }, { o := .mv (.l 2), d := some 21 }] []) (.seq (.reg [{ o := .ld (.v 7) 3 true }, { o := .ld (.v 8) 4 true }, { o := .ld (.v 9) 3 true }, { o := .ld (.v 10) 1 true }, { o := .mv (.v 5) }, { o := .mv (.v 6) }, { o := .ca N.ref34_Fire 0 [] [.l 5, .l 4, .l 3, .l 2, .l 1, .l 0] }, { o := .mv (.l 0) }, { o := .ex (.l 0) 0 }, { o := .ex (.l 1) 1 }, { o := .al [.t (.int .i64 (0)), .t (.int .i64 (0)), .t (.int .i64 (0)), .t (.int .i64 (0))] [], d := some 22 }, { o := .st (.l 0) (.l 2) 4 [] }, { o := .mv (.l 2), d := some 23 }] []) (.seq (.reg [{ o := .ld (.v 7) 3 true }, { o := .ld (.v 8) 4 true }, { o := .mv (.v 5) }, { o := .ca N.firing_Abort 0 [] [.l 2, .l 1, .l 0] }, { o := .mv (.l 0) }, { o := .ex (.l 0) 0 }, { o := .ex (.l 1) 1 }, { o := .al [.t (.int .i64 (0)), .t (.int .i64 (0)), .t (.int .i64 (0)), .t (.int .i64 (0))] [], d := some 24 }, { o := .st (.l 0) (.l 2) 4 [] }, { o := .mv (.l 2), d := some 25 }] []) (.seq (.reg [{ o := .ld (.v 7) 3 true }, { o := .ld (.v 8) 4 true }, { o := .mv (.v 5) }, { o := .ca N.ref34_Abort 0 [] [.l 2, .l 1, .l 0] }, { o := .mv (.l 0) }, { o := .ex (.l 0) 0 }, { o := .ex (.l 1) 1 }, { o := .al [.t (.int .i64 (0)), .t (.int .i64 (0)), .t (.int .i64 (0)), .t (.int .i64 (0))] [], d := some 26 }, { o := .st (.l 0) (.l 2) 4 [] }, { o := .mv (.l 2), d := some 27 }] []) (.seq (.reg [{ o := .ld (.v 12) 4 true }, { o := .ld (.v 14) 4 true }, { o := .eqk (.ints 4) false (.l 1) (.l 0) }, { o := .mv (.l 0) }, { o := .mv (.v 13), g := some (0, true) }, { o := .mv (.v 15), g := some (1, true) }, { o := .bin .eql (.l 1) (.l 0), g := some (2, true) }, { o := .pk (.l 3) (.l 0) (.b false) }, { o := .mv (.l 0) }, { o := .ld (.v 16) 4 true, g := some (0, true) }, { o := .ld (.v 18) 4 true, g := some (1, true) }, { o := .eqk (.ints 4) false (.l 1) (.l 0), g := some (2, true) }, { o := .pk (.l 3) (.l 0) (.b false) }, { o := .mv (.l 0) }, { o := .mv (.v 17), g := some (0, true) }, { o := .mv (.v 19), g := some (1, true) }, { o := .bin .eql (.l 1) (.l 0), g := some (2, true) }, { o := .pk (.l 3) (.l 0) (.b false) }, { o := .mv (.l 0) }, { o := .ld (.v 20) 4 true, g := some (0, true) }, { o := .ld (.v 22) 4 true, g := some (1, true) }, { o := .eqk (.ints 4) false (.l 1) (.l 0), g := some (2, true) }, { o := .pk (.l 3) (.l 0) (.b false) }, { o := .mv (.l 0) }, { o := .mv (.v 21), g := some (0, true) }, { o := .mv (.v 23), g := some (1, true) }, { o := .bin .eql (.l 1) (.l 0), g := some (2, true) }, { o := .pk (.l 3) (.l 0) (.b false) }, { o := .mv (.l 0) }, { o := .ld (.v 24) 4 true, g := some (0, true) }, { o := .ld (.v 26) 4 true, g := some (1, true) }, { o := .eqk (.ints 4) false (.l 1) (.l 0), g := some (2, true) }, { o := .pk (.l 3) (.l 0) (.b false) }, { o := .mv (.l 0) }, { o := .mv (.v 25), g := some (0, true) }, { o := .mv (.v 27), g := some (1, true) }, { o := .bin .eql (.l 1) (.l 0), g := some (2, true) }, { o := .pk (.l 3) (.l 0) (.b false) }, { o := .mv (.l 0) }, { o := .ld (.v 7) 3 true, g := some (0, true) }, { o := .ld (.v 8) 4 true, g := some (1, true) }, { o := .ca N.firing_Valid 0 [] [.l 1, .l 0], g := some (2, true) }, { o := .ld (.v 7) 3 true, g := some (3, true) }, { o := .ld (.v 8) 4 true, g := some (4, true) }, { o := .ca N.ref34_Valid 0 [] [.l 1, .l 0], g := some (5, true) }, { o := .eqk (.bool) false (.l 3) (.l 0), g := some (6, true) }, { o := .pk (.l 7) (.l 0) (.b false) }, { o := .mv (.l 0) }, { o := .ld (.v 7) 3 true, g := some (0, true) }, { o := .ld (.v 9) 3 true, g := some (1, true) }, { o := .ld (.v 10) 1 true, g := some (2, true) }, { o := .ca N.firing_Safe 0 [] [.l 2, .l 1, .l 0], g := some (3, true) }, { o := .ld (.v 7) 3 true, g := some (4, true) }, { o := .ld (.v 9) 3 true, g := some (5, true) }, { o := .ld (.v 10) 1 true, g := some (6, true) }, { o := .ca N.ref34_Safe 0 [] [.l 2, .l 1, .l 0], g := some (7, true) }, { o := .eqk (.bool) false (.l 4) (.l 0), g := some (8, true) }, { o := .pk (.l 9) (.l 0) (.b false) }, { o := .mv (.l 0) }, { o := .ld (.v 7) 3 true, g := some (0, true) }, { o := .ld (.v 8) 4 true, g := some (1, true) }, { o := .mv (.v 5), g := some (2, true) }, { o := .ca N.firing_Due 0 [] [.l 2, .l 1, .l 0], g := some (3, true) }, { o := .ld (.v 7) 3 true, g := some (4, true) }, { o := .ld (.v 8) 4 true, g := some (5, true) }, { o := .mv (.v 5), g := some (6, true) }, { o := .ca N.ref34_Due 0 [] [.l 2, .l 1, .l 0], g := some (7, true) }, { o := .bin .eql (.l 4) (.l 0), g := some (8, true) }, { o := .pk (.l 9) (.l 0) (.b false) }, { o := .mv (.l 0), d := some 11 }] [(42, 0), (43, 0), (52, 45), (53, 45), (54, 45), (63, 56), (64, 56)]) .ret)))))))))), res := [(11, none)] }
/-- /law34.ready -/
def law34_ready : Fn := { nargs := 0, vars := [0, 1, 2, 3], body := (.seq (.reg [{ o := .al [.nil, .t (.int .i64 (0)), .t (.int .i64 (0))] [], d := some 0 }, { o := .al [.nil, .nil, .t (.bool false)] [], d := some 1 }, { o := .al [.nil] [], d := some 2 }] []) (.seq (.reg [{ o := .bs [.i 0, .i 1099511627776] 1 }, { o := .bd [.t (.int .i64 (0)), .nil] [(1, 1, .l 0)] }, { o := .al [.t (.int .i64 (0)), .nil] [], d := some 3 }, { o := .st (.l 0) (.l 1) 2 [] }] []) (.seq (.reg [{ o := .bs [.i 1] 1 }, { o := .bd [.nil, .t (.int .i64 (0)), .t (.int .i64 (0))] [(0, 1, .l 0), (1, 1, .i 300), (2, 1, .i 1800)] }, { o := .bs [.i 0] 1 }, { o := .bs [.i 2] 1 }, { o := .bd [.nil, .nil, .t (.bool false)] [(0, 1, .l 1), (1, 1, .l 0), (2, 1, .b true)] }, { o := .bs [.i 1] 1 }, { o := .ld (.v 3) 2 true }, { o := .bs [.l 0] 2 }, { o := .bd [.nil, .nil] [(0, 1, .l 2), (1, 1, .l 0)] }, { o := .bs [.l 0] 2 }, { o := .bd [.nil] [(0, 1, .l 0)] }, { o := .st (.v 0) (.l 9) 3 [] }, { o := .st (.v 1) (.l 7) 3 [] }, { o := .st (.v 2) (.l 2) 1 [] }] [(0, 0), (2, 12), (3, 12), (5, 12), (5, 13), (6, 12), (6, 13), (7, 12), (7, 13), (9, 12), (9, 13)]) .ret))), res := [(0, some (3, true)), (1, some (3, true)), (2, some (1, true))] }
/-- /firing.Arm -/
def firing_Arm : Fn := { nargs := 6, vars := [0, 1, 2, 3, 4, 5, 6, 7, 8, 9, 12, 13, 14], body := (.seq (.reg [{ o := .bx (.v 0) 3, d := some 6 }, { o := .bx (.v 1) 4, d := some 7 }, { o := .bx (.v 2) 3, d := some 8 }, { o := .bx (.v 3) 1, d := some 9 }, { o := .al [.t (.int .i64 (0)), .t (.int .i64 (0)), .t (.int .i64 (0)), .t (.int .i64 (0))] [], d := some 10 }, { o := .mv (.i 0), d := some 11 }] []) (.seq (.seq (.reg [{ o := .ld (.v 6) 3 true }, { o := .ld (.v 7) 4 true }, { o := .ld (.v 8) 3 true }, { o := .ld (.v 9) 1 true }, { o := .mv (.v 5) }, { o := .bd [.nil, .t (.int .i64 (0)), .t (.int .i64 (0)), .t (.int .i64 (0)), .t (.int .i64 (0)), .t (.int .i64 (0)), .t (.int .i64 (0)), .nil, .nil, .t (.bool false), .nil, .t (.int .i64 (0)), .t (.int .i64 (0))] [(0, 3, .l 4), (3, 4, .l 3), (7, 3, .l 2), (10, 1, .l 1), (11, 1, .l 0), (12, 1, .i 0)] }, { o := .mv (.v 4) }, { o := .bin .leq (.l 0) (.i 0) }, { o := .ca N.firing_request_check 0 [] [.l 2, .l 0] }, { o := .mv (.l 0), d := some 12 }] []) (.ite [{ o := .mv (.v 12) }, { o := .bin .neq (.l 0) (.i 0) }] [] 0 (.seq (.reg [{ o := .ld (.v 7) 4 true }, { o := .mv (.v 12) }, { o := .st (.v 10) (.l 1) 4 [] }, { o := .mv (.l 1), d := some 11 }] []) .ret) .skip)) (.seq (.reg [{ o := .mv (.v 4) }, { o := .mv (.v 5) }, { o := .bd [.t (.int .i64 (0)), .t (.int .i64 (0)), .t (.int .i64 (0)), .t (.int .i64 (0))] [(0, 1, .i 1), (1, 1, .l 1), (3, 1, .l 0)] }, { o := .st (.v 10) (.l 0) 4 [] }, { o := .mv (.i 0), d := some 11 }] []) .ret))), res := [(10, some (4, true)), (11, none)] }
/-- /firing.Agree -/
def firing_Agree : Fn := { nargs := 6, vars := [0, 1, 2, 3, 4, 5, 6, 7, 8, 9, 12, 13, 14], body := (.seq (.reg [{ o := .bx (.v 0) 3, d := some 6 }, { o := .bx (.v 1) 4, d := some 7 }, { o := .bx (.v 2) 3, d := some 8 }, { o := .bx (.v 3) 1, d := some 9 }, { o := .al [.t (.int .i64 (0)), .t (.int .i64 (0)), .t (.int .i64 (0)), .t (.int .i64 (0))] [], d := some 10 }, { o := .mv (.i 0), d := some 11 }] []) (.seq (.seq (.reg [{ o := .ld (.v 6) 3 true }, { o := .ld (.v 7) 4 true }, { o := .ld (.v 8) 3 true }, { o := .ld (.v 9) 1 true }, { o := .mv (.v 5) }, { o := .bd [.nil, .t (.int .i64 (0)), .t (.int .i64 (0)), .t (.int .i64 (0)), .t (.int .i64 (0)), .t (.int .i64 (0)), .t (.int .i64 (0)), .nil, .nil, .t (.bool false), .nil, .t (.int .i64 (0)), .t (.int .i64 (0))] [(0, 3, .l 4), (3, 4, .l 3), (7, 3, .l 2), (10, 1, .l 1), (11, 1, .l 0), (12, 1, .i 1)] }, { o := .mv (.v 4) }, { o := .bin .leq (.l 0) (.i 0) }, { o := .mv (.l 0) }, { o := .mv (.v 4), g := some (0, false) }, { o := .fa (.v 7) 1, g := some (1, false) }, { o := .ld (.l 0) 1 false, g := some (2, false) }, { o := .bin .eql (.l 2) (.l 0), g := some (3, false) }, { o := .pk (.l 4) (.b true) (.l 0) }, { o := .ca N.firing_request_check 0 [] [.l 8, .l 0] }, { o := .mv (.l 0), d := some 12 }] []) (.ite [{ o := .mv (.v 12) }, { o := .bin .neq (.l 0) (.i 0) }] [] 0 (.seq (.reg [{ o := .ld (.v 7) 4 true }, { o := .mv (.v 12) }, { o := .st (.v 10) (.l 1) 4 [] }, { o := .mv (.l 1), d := some 11 }] []) .ret) .skip)) (.seq (.reg [{ o := .mv (.v 4) }, { o := .mv (.v 5) }, { o := .fa (.v 7) 0 }, { o := .st (.l 0) (.i 2) 1 [] }, { o := .fa (.v 7) 2 }, { o := .st (.l 0) (.l 4) 1 [] }, { o := .fa (.v 7) 3 }, { o := .st (.l 0) (.l 5) 1 [] }] []) (.seq (.reg [{ o := .ld (.v 7) 4 true }, { o := .st (.v 10) (.l 0) 4 [] }, { o := .mv (.i 0), d := some 11 }] []) .ret)))), res := [(10, some (4, true)), (11, none)] }
/-- /firing.Fire -/
def firing_Fire : Fn := { nargs := 6, vars := [0, 1, 2, 3, 4, 5, 6, 7, 8, 9, 12, 13, 14], body := (.seq (.reg [{ o := .bx (.v 0) 3, d := some 6 }, { o := .bx (.v 1) 4, d := some 7 }, { o := .bx (.v 2) 3, d := some 8 }, { o := .bx (.v 3) 1, d := some 9 }, { o := .al [.t (.int .i64 (0)), .t (.int .i64 (0)), .t (.int .i64 (0)), .t (.int .i64 (0))] [], d := some 10 }, { o := .mv (.i 0), d := some 11 }] []) (.seq (.seq (.reg [{ o := .ld (.v 6) 3 true }, { o := .ld (.v 7) 4 true }, { o := .ld (.v 8) 3 true }, { o := .ld (.v 9) 1 true }, { o := .mv (.v 4) }, { o := .bd [.nil, .t (.int .i64 (0)), .t (.int .i64 (0)), .t (.int .i64 (0)), .t (.int .i64 (0)), .t (.int .i64 (0)), .t (.int .i64 (0)), .nil, .nil, .t (.bool false), .nil, .t (.int .i64 (0)), .t (.int .i64 (0))] [(0, 3, .l 4), (3, 4, .l 3), (7, 3, .l 2), (10, 1, .l 1), (11, 1, .l 0), (12, 1, .i 2)] }, { o := .ca N.firing_request_check 0 [] [.l 0, .b false] }, { o := .mv (.l 0), d := some 12 }] []) (.ite [{ o := .mv (.v 12) }, { o := .bin .neq (.l 0) (.i 0) }] [] 0 (.seq (.reg [{ o := .ld (.v 7) 4 true }, { o := .mv (.v 12) }, { o := .st (.v 10) (.l 1) 4 [] }, { o := .mv (.l 1), d := some 11 }] []) .ret) .skip)) (.seq (.reg [{ o := .mv (.v 4) }, { o := .fa (.v 7) 0 }, { o := .st (.l 0) (.i 3) 1 [] }, { o := .fa (.v 7) 3 }, { o := .st (.l 0) (.l 3) 1 [] }] []) (.seq (.ite [{ o := .mv (.v 5) }] [] 0 (.reg [{ o := .fa (.v 7) 0 }, { o := .st (.l 0) (.i 4) 1 [] }] []) .skip) (.seq (.reg [{ o := .ld (.v 7) 4 true }, { o := .st (.v 10) (.l 0) 4 [] }, { o := .mv (.i 0), d := some 11 }] []) .ret))))), res := [(10, some (4, true)), (11, none)] }
/-- /firing.Abort -/
def firing_Abort : Fn := { nargs := 3, vars := [0, 1, 2, 3, 4, 6, 7], body := (.seq (.reg [{ o := .bx (.v 0) 3, d := some 3 }, { o := .bx (.v 1) 4, d := some 4 }, { o := .al [.t (.int .i64 (0)), .t (.int .i64 (0)), .t (.int .i64 (0)), .t (.int .i64 (0))] [], d := some 5 }, { o := .mv (.i 0), d := some 6 }] []) (.seq (.blk 0 (.ite [{ o := .ld (.v 3) 3 true }, { o := .ld (.v 4) 4 true }, { o := .ca N.firing_Valid 0 [] [.l 1, .l 0] }, { o := .un .not (.l 0) }, { o := .mv (.l 0) }] [] 0 (.seq (.reg [{ o := .ld (.v 4) 4 true }, { o := .st (.v 5) (.l 0) 4 [] }, { o := .mv (.i 6), d := some 6 }] []) .ret) (.ite [{ o := .fa (.v 4) 0 }, { o := .ld (.l 0) 1 false }, { o := .bin .eql (.l 0) (.i 0) }, { o := .mv (.l 0) }] [] 0 (.seq (.reg [{ o := .ld (.v 4) 4 true }, { o := .st (.v 5) (.l 0) 4 [] }, { o := .mv (.i 10), d := some 6 }] []) .ret) (.ite [{ o := .ld (.v 4) 4 true }, { o := .mv (.v 2) }, { o := .ca N.firing_timely 0 [] [.l 1, .l 0] }, { o := .un .not (.l 0) }, { o := .mv (.l 0) }] [] 0 (.seq (.reg [{ o := .ld (.v 4) 4 true }, { o := .st (.v 5) (.l 0) 4 [] }, { o := .mv (.i 8), d := some 6 }] []) .ret) (.ite [{ o := .fa (.v 4) 0 }, { o := .ld (.l 0) 1 false }, { o := .bin .eql (.l 0) (.i 4) }, { o := .mv (.l 0) }, { o := .mv (.v 2), g := some (0, true) }, { o := .fa (.v 4) 3, g := some (1, true) }, { o := .ld (.l 0) 1 false, g := some (2, true) }, { o := .bin .sub (.l 2) (.l 0), g := some (3, true) }, { o := .fa (.v 3) 2, g := some (4, true) }, { o := .ld (.l 0) 1 false, g := some (5, true) }, { o := .bin .lss (.l 2) (.l 0), g := some (6, true) }, { o := .pk (.l 7) (.l 0) (.b false) }, { o := .mv (.l 0) }] [] 0 (.seq (.reg [{ o := .ld (.v 4) 4 true }, { o := .st (.v 5) (.l 0) 4 [] }, { o := .mv (.i 10), d := some 6 }] []) .ret) .skip))))) (.seq (.reg [{ o := .bd [.t (.int .i64 (0)), .t (.int .i64 (0)), .t (.int .i64 (0)), .t (.int .i64 (0))] [] }, { o := .st (.v 5) (.l 0) 4 [] }, { o := .mv (.i 0), d := some 6 }] []) .ret))), res := [(5, some (4, true)), (6, none)] }
/-- /firing.Valid -/
def firing_Valid : Fn := { nargs := 2, vars := [0, 1, 2, 3, 4, 34, 50], body := (.seq (.reg [{ o := .bx (.v 0) 3, d := some 2 }, { o := .bx (.v 1) 4, d := some 3 }, { o := .mv (.b false), d := some 4 }] []) (.seq (.ite [{ o := .fa (.v 2) 0 }, { o := .ld (.l 0) 1 false }, { o := .ln (.l 0) }, { o := .bin .eql (.l 0) (.i 0) }, { o := .mv (.l 0) }, { o := .fa (.v 2) 0, g := some (0, false) }, { o := .ld (.l 0) 1 false, g := some (1, false) }, { o := .ca N.lists_Rising 0 [] [.l 0, .i 0, .i 63], g := some (2, false) }, { o := .un .not (.l 0), g := some (3, false) }, { o := .pk (.l 4) (.b true) (.l 0) }, { o := .mv (.l 0) }, { o := .fa (.v 2) 1, g := some (0, false) }, { o := .ld (.l 0) 1 false, g := some (1, false) }, { o := .ca N.lists_In 0 [] [.l 0, .i 1, .i 100000], g := some (2, false) }, { o := .un .not (.l 0), g := some (3, false) }, { o := .pk (.l 4) (.b true) (.l 0) }, { o := .mv (.l 0) }, { o := .fa (.v 2) 2, g := some (0, false) }, { o := .ld (.l 0) 1 false, g := some (1, false) }, { o := .ca N.lists_In 0 [] [.l 0, .i 1, .i 100000], g := some (2, false) }, { o := .un .not (.l 0), g := some (3, false) }, { o := .pk (.l 4) (.b true) (.l 0) }, { o := .mv (.l 0) }, { o := .fa (.v 3) 3, g := some (0, false) }, { o := .ld (.l 0) 1 false, g := some (1, false) }, { o := .ca N.lists_In 0 [] [.l 0, .i 0, .i 2147483648], g := some (2, false) }, { o := .un .not (.l 0), g := some (3, false) }, { o := .pk (.l 4) (.b true) (.l 0) }] [] 0 (.seq (.reg [{ o := .mv (.b false), d := some 4 }] []) .ret) .skip) (.seq (.seq (.reg [{ o := .fa (.v 3) 0 }, { o := .ld (.l 0) 1 false, d := some 5 }] []) (.blk 0 (.ite [{ o := .bin .eql (.v 5) (.i 0) }, { o := .mv (.l 0) }] [] 0 (.seq (.reg [{ o := .ld (.v 3) 4 true }, { o := .bd [.t (.int .i64 (0)), .t (.int .i64 (0)), .t (.int .i64 (0)), .t (.int .i64 (0))] [] }, { o := .eqk (.ints 4) false (.l 1) (.l 0) }, { o := .mv (.l 0), d := some 4 }] []) .ret) (.ite [{ o := .bin .eql (.v 5) (.i 1) }, { o := .mv (.l 0) }] [] 0 (.seq (.reg [{ o := .fa (.v 3) 1 }, { o := .ld (.l 0) 1 false }, { o := .bin .gtr (.l 0) (.i 0) }, { o := .mv (.l 0) }, { o := .fa (.v 3) 2, g := some (0, true) }, { o := .ld (.l 0) 1 false, g := some (1, true) }, { o := .bin .eql (.l 0) (.i 0), g := some (2, true) }, { o := .pk (.l 3) (.l 0) (.b false) }, { o := .mv (.l 0), d := some 4 }] []) .ret) (.seq (.seq (.reg [{ o := .bin .eql (.v 5) (.i 2) }, { o := .mv (.l 0), d := some 6 }] []) (.itv 6 .skip (.seq (.reg [{ o := .bin .eql (.v 5) (.i 3) }, { o := .mv (.l 0), d := some 6 }] []) (.itv 6 .skip (.reg [{ o := .bin .eql (.v 5) (.i 4) }, { o := .mv (.l 0), d := some 6 }] []))))) (.itv 6 (.seq (.reg [{ o := .fa (.v 3) 1 }, { o := .ld (.l 0) 1 false }, { o := .bin .gtr (.l 0) (.i 0) }, { o := .mv (.l 0) }, { o := .fa (.v 3) 2, g := some (0, true) }, { o := .ld (.l 0) 1 false, g := some (1, true) }, { o := .bin .gtr (.l 0) (.i 0), g := some (2, true) }, { o := .pk (.l 3) (.l 0) (.b false) }, { o := .mv (.l 0) }, { o := .fa (.v 3) 1, g := some (0, true) }, { o := .ld (.l 0) 1 false, g := some (1, true) }, { o := .fa (.v 3) 2, g := some (2, true) }, { o := .ld (.l 0) 1 false, g := some (3, true) }, { o := .bin .neq (.l 2) (.l 0), g := some (4, true) }, { o := .pk (.l 5) (.l 0) (.b false) }, { o := .mv (.l 0), d := some 4 }] []) .ret) .skip)))))) (.seq (.reg [{ o := .mv (.b false), d := some 4 }] []) .ret)))), res := [(4, none)] }
/-- /firing.Due -/
def firing_Due : Fn := { nargs := 3, vars := [0, 1, 2, 3, 4, 6, 18, 19], body := (.seq (.reg [{ o := .bx (.v 0) 3, d := some 3 }, { o := .bx (.v 1) 4, d := some 4 }, { o := .mv (.i 0), d := some 5 }] []) (.seq (.ite [{ o := .ld (.v 3) 3 true }, { o := .ld (.v 4) 4 true }, { o := .ca N.firing_Valid 0 [] [.l 1, .l 0] }, { o := .un .not (.l 0) }, { o := .mv (.l 0) }, { o := .mv (.v 2), g := some (0, false) }, { o := .fa (.v 4) 3, g := some (1, false) }, { o := .ld (.l 0) 1 false, g := some (2, false) }, { o := .bin .lss (.l 2) (.l 0), g := some (3, false) }, { o := .pk (.l 4) (.b true) (.l 0) }] [] 0 (.seq (.reg [{ o := .mv (.i 0), d := some 5 }] []) .ret) .skip) (.seq (.seq (.reg [{ o := .fa (.v 4) 0 }, { o := .ld (.l 0) 1 false, d := some 6 }] []) (.blk 0 (.seq (.seq (.reg [{ o := .bin .eql (.v 6) (.i 1) }, { o := .mv (.l 0), d := some 7 }] []) (.itv 7 .skip (.reg [{ o := .bin .eql (.v 6) (.i 2) }, { o := .mv (.l 0), d := some 7 }] []))) (.itv 7 (.seq (.reg [{ o := .fa (.v 3) 1 }, { o := .ld (.l 0) 1 false }, { o := .mv (.v 2) }, { o := .fa (.v 4) 3 }, { o := .ld (.l 0) 1 false }, { o := .bin .sub (.l 2) (.l 0) }, { o := .bin .sub (.l 4) (.l 0) }, { o := .mx [.i 0, .l 0] }, { o := .mv (.l 0), d := some 5 }] []) .ret) (.ite [{ o := .bin .eql (.v 6) (.i 4) }, { o := .mv (.l 0) }] [] 0 (.seq (.reg [{ o := .fa (.v 3) 2 }, { o := .ld (.l 0) 1 false }, { o := .mv (.v 2) }, { o := .fa (.v 4) 3 }, { o := .ld (.l 0) 1 false }, { o := .bin .sub (.l 2) (.l 0) }, { o := .bin .sub (.l 4) (.l 0) }, { o := .mx [.i 0, .l 0] }, { o := .mv (.l 0), d := some 5 }] []) .ret) .skip))))) (.seq (.reg [{ o := .mv (.i 0), d := some 5 }] []) .ret)))), res := [(5, none)] }
def ref32_Border_l1b : C := (.seq (.ite [{ o := .mv (.v 5) }, { o := .fa (.v 2) 1 }, { o := .ld (.l 0) 1 false }, { o := .ln (.l 0) }, { o := .bin .lss (.l 3) (.l 0) }] [] 0 .skip (.exit 0)) (.seq (.blk 1 (.seq (.reg [{ o := .fa (.v 2) 1 }, { o := .ld (.l 0) 1 false }, { o := .mv (.v 5) }, { o := .ia (.l 1) (.l 0) 10 }, { o := .ld (.l 0) 10 true }, { o := .al [.t (.int .i64 (0)), .t (.int .i64 (0)), .t (.int .i64 (0)), .t (.int .i64 (0)), .t (.bool false), .t (.bool false), .t (.int .i64 (0)), .t (.int .i64 (0)), .t (.int .i64 (0)), .t (.int .i64 (0))] [], d := some 6 }, { o := .st (.l 0) (.l 1) 10 [] }] []) (.seq (.reg [{ o := .ld (.v 2) 2 true }, { o := .mv (.v 5) }, { o := .ca N.ref03_Time 0 [] [.l 1, .l 0, .b false] }, { o := .bin .geq (.l 0) (.i 0) }, { o := .mv (.l 0) }, { o := .ld (.v 2) 2 true, g := some (0, false) }, { o := .mv (.v 5), g := some (1, false) }, { o := .ca N.ref03_Time 0 [] [.l 1, .l 0, .b true], g := some (2, false) }, { o := .bin .geq (.l 0) (.i 0), g := some (3, false) }, { o := .pk (.l 4) (.b true) (.l 0) }, { o := .mv (.l 0), d := some 7 }] []) (.ite [{ o := .fa (.v 6) 5 }, { o := .ld (.l 0) 1 false }, { o := .un .not (.l 0) }, { o := .mv (.l 0) }, { o := .mv (.v 7), g := some (0, true) }, { o := .pk (.l 1) (.l 0) (.b false) }, { o := .mv (.l 0) }, { o := .mv (.v 1), g := some (0, true) }, { o := .fa (.v 6) 0, g := some (1, true) }, { o := .ld (.l 0) 1 false, g := some (2, true) }, { o := .ca N.ref23_Has 0 [] [.l 2, .l 0], g := some (3, true) }, { o := .mv (.v 1), g := some (4, true) }, { o := .fa (.v 6) 1, g := some (5, true) }, { o := .ld (.l 0) 1 false, g := some (6, true) }, { o := .ca N.ref23_Has 0 [] [.l 2, .l 0], g := some (7, true) }, { o := .eqk (.bool) true (.l 4) (.l 0), g := some (8, true) }, { o := .pk (.l 9) (.l 0) (.b false) }] [(13, 0)] 0 (.reg [{ o := .mv (.v 4) }, { o := .mv (.v 5) }, { o := .bs [.l 0] 1 }, { o := .app (.l 2) (.l 0) true 1 }, { o := .mv (.l 0), d := some 4 }] []) .skip)))) (.reg [{ o := .mv (.v 5) }, { o := .bin .add (.l 0) (.i 1) }, { o := .mv (.l 0), d := some 5 }] [])))
def ref32_Border_l1 : C := .loop true [0, 3, 6, 7] K.ref32_Border_l1b
/-- /ref32.Border -/
def ref32_Border : Fn := { nargs := 2, vars := [0, 1, 2, 4, 5, 6, 7, 8], body := (.seq (.reg [{ o := .bx (.v 0) 2, d := some 2 }, { o := .mv (.c (.nil)), d := some 3 }] []) (.seq (.reg [{ o := .nw 1, d := some 4 }] []) (.seq (.seq (.reg [{ o := .mv (.i 0), d := some 5 }] []) (.blk 0 K.ref32_Border_l1)) (.seq (.reg [{ o := .mv (.v 4) }, { o := .mv (.l 0), d := some 3 }] []) .ret)))), res := [(3, none)] }
def ref32_Seal_l2b : C := (.seq (.ite [{ o := .mv (.v 12) }, { o := .fa (.v 10) 0 }, { o := .ld (.l 0) 1 false }, { o := .mv (.v 11) }, { o := .ia (.l 1) (.l 0) 2 }, { o := .fa (.l 0) 1 }, { o := .ld (.l 0) 1 false }, { o := .ln (.l 0) }, { o := .bin .lss (.l 7) (.l 0) }] [] 0 .skip (.exit 2)) (.seq (.blk 3 (.seq (.reg [{ o := .fa (.v 10) 0 }, { o := .ld (.l 0) 1 false }, { o := .mv (.v 11) }, { o := .ia (.l 1) (.l 0) 2 }, { o := .fa (.l 0) 1 }, { o := .ld (.l 0) 1 false }, { o := .mv (.v 12) }, { o := .ia (.l 1) (.l 0) 2 }, { o := .ld (.l 0) 2 true }, { o := .al [.t (.int .i64 (0)), .nil] [], d := some 13 }, { o := .st (.l 0) (.l 1) 2 [] }] []) (.seq (.ite [{ o := .mv (.v 3) }, { o := .fa (.v 13) 0 }, { o := .ld (.l 0) 1 false }, { o := .bin .lss (.l 2) (.l 0) }, { o := .mv (.l 0) }, { o := .mv (.v 3), g := some (0, false) }, { o := .bin .gtr (.l 0) (.i 2147483648), g := some (1, false) }, { o := .pk (.l 2) (.b true) (.l 0) }] [] 0 (.seq (.reg [{ o := .ld (.v 5) 1 true }, { o := .st (.v 6) (.l 0) 1 [] }, { o := .mv (.i 8), d := some 7 }] []) .ret) .skip) (.reg [{ o := .fa (.v 10) 0 }, { o := .ld (.l 0) 1 false }, { o := .mv (.v 11) }, { o := .ia (.l 1) (.l 0) 2 }, { o := .fa (.l 0) 1 }, { o := .ld (.l 0) 1 false }, { o := .mv (.v 12) }, { o := .ld (.v 8) 2 true }, { o := .ld (.v 13) 2 true }, { o := .mv (.v 3) }, { o := .ca N.ref32_seal 0 [] [.l 2, .l 1, .l 0] }, { o := .ia (.l 5) (.l 4) 2 }, { o := .st (.l 0) (.l 1) 2 [] }] [(1, 11), (3, 11), (5, 11)])))) (.reg [{ o := .mv (.v 12) }, { o := .bin .add (.l 0) (.i 1) }, { o := .mv (.l 0), d := some 12 }] [])))
def ref32_Seal_l2 : C := .loop false [0, 1, 2, 4, 7, 9, 13] K.ref32_Seal_l2b
def ref32_Seal_l1b : C := (.seq (.ite [{ o := .mv (.v 11) }, { o := .fa (.v 10) 0 }, { o := .ld (.l 0) 1 false }, { o := .ln (.l 0) }, { o := .bin .lss (.l 3) (.l 0) }] [] 0 .skip (.exit 0)) (.seq (.blk 1 (.seq (.reg [{ o := .mv (.i 0), d := some 12 }] []) (.blk 2 K.ref32_Seal_l2))) (.reg [{ o := .mv (.v 11) }, { o := .bin .add (.l 0) (.i 1) }, { o := .mv (.l 0), d := some 11 }] [])))
def ref32_Seal_l1 : C := .loop false [0, 1, 2, 4, 7, 9, 12, 13] K.ref32_Seal_l1b
/-- /ref32.Seal -/
def ref32_Seal : Fn := { nargs := 4, vars := [0, 1, 2, 3, 4, 5, 8, 9, 10, 11, 12, 13, 14, 15], body := (.seq (.reg [{ o := .bx (.v 0) 2, d := some 4 }, { o := .bx (.v 1) 1, d := some 5 }, { o := .al [.nil] [], d := some 6 }, { o := .mv (.i 0), d := some 7 }] []) (.seq (.reg [{ o := .ld (.v 5) 1 true }, { o := .ca N.ref26_Copy_v1 2 [] [.l 0] }, { o := .st (.v 5) (.l 0) 1 [] }] []) (.seq (.ite [{ o := .ld (.v 4) 2 true }, { o := .ld (.v 5) 1 true }, { o := .ca N.ref26_Valid 0 [] [.l 1, .l 0] }, { o := .un .not (.l 0) }] [] 0 (.seq (.reg [{ o := .ld (.v 5) 1 true }, { o := .st (.v 6) (.l 0) 1 [] }, { o := .mv (.i 6), d := some 7 }] []) .ret) .skip) (.seq (.reg [{ o := .ld (.v 4) 2 true }, { o := .mv (.v 2) }, { o := .ca N.ref32_Barred 0 [] [.l 1, .l 0] }, { o := .mv (.l 0) }, { o := .ex (.l 0) 0 }, { o := .ex (.l 1) 1 }, { o := .al [.nil, .nil] [], d := some 8 }, { o := .st (.l 0) (.l 2) 2 [] }, { o := .mv (.l 2), d := some 9 }] []) (.seq (.ite [{ o := .mv (.v 9) }, { o := .bin .neq (.l 0) (.i 0) }] [] 0 (.seq (.reg [{ o := .ld (.v 5) 1 true }, { o := .mv (.v 9) }, { o := .st (.v 6) (.l 1) 1 [] }, { o := .mv (.l 1), d := some 7 }] []) .ret) .skip) (.seq (.reg [{ o := .ld (.v 5) 1 true }, { o := .ca N.ref26_Copy_v1 2 [] [.l 0] }, { o := .al [.nil] [], d := some 10 }, { o := .st (.l 0) (.l 1) 1 [] }] []) (.seq (.seq (.reg [{ o := .mv (.i 0), d := some 11 }] []) (.blk 0 K.ref32_Seal_l1)) (.seq (.reg [{ o := .fa (.v 10) 0 }, { o := .ld (.l 0) 1 false }, { o := .ca N.ref26_Tidy 0 [] [.l 0] }, { o := .fa (.v 10) 0 }, { o := .st (.l 0) (.l 1) 1 [] }] []) (.seq (.reg [{ o := .ld (.v 10) 1 true }, { o := .st (.v 6) (.l 0) 1 [] }, { o := .mv (.i 0), d := some 7 }] []) .ret))))))))), res := [(6, some (1, true)), (7, none)] }
def made_Last_l2b : C := (.seq (.ite [{ o := .mv (.v 5) }, { o := .fa (.v 1) 0 }, { o := .ld (.l 0) 1 false }, { o := .mv (.v 4) }, { o := .ia (.l 1) (.l 0) 2 }, { o := .fa (.l 0) 1 }, { o := .ld (.l 0) 1 false }, { o := .ln (.l 0) }, { o := .bin .lss (.l 7) (.l 0) }] [] 0 .skip (.exit 2)) (.seq (.blk 3 (.reg [{ o := .mv (.v 3) }, { o := .fa (.v 1) 0 }, { o := .ld (.l 0) 1 false }, { o := .mv (.v 4) }, { o := .ia (.l 1) (.l 0) 2 }, { o := .fa (.l 0) 1 }, { o := .ld (.l 0) 1 false }, { o := .mv (.v 5) }, { o := .ia (.l 1) (.l 0) 2 }, { o := .fa (.l 0) 0 }, { o := .ld (.l 0) 1 false }, { o := .mx [.l 10, .l 0] }, { o := .mv (.l 0), d := some 3 }] [])) (.reg [{ o := .mv (.v 5) }, { o := .bin .add (.l 0) (.i 1) }, { o := .mv (.l 0), d := some 5 }] [])))
def made_Last_l2 : C := .loop true [0, 2] K.made_Last_l2b
def made_Last_l1b : C := (.seq (.ite [{ o := .mv (.v 4) }, { o := .fa (.v 1) 0 }, { o := .ld (.l 0) 1 false }, { o := .ln (.l 0) }, { o := .bin .lss (.l 3) (.l 0) }] [] 0 .skip (.exit 0)) (.seq (.blk 1 (.seq (.reg [{ o := .mv (.i 0), d := some 5 }] []) (.blk 2 K.made_Last_l2))) (.reg [{ o := .mv (.v 4) }, { o := .bin .add (.l 0) (.i 1) }, { o := .mv (.l 0), d := some 4 }] [])))
def made_Last_l1 : C := .loop true [0, 2, 5] K.made_Last_l1b
/-- /made.Last -/
def made_Last : Fn := { nargs := 1, vars := [0, 1, 2, 3, 4, 5], body := (.seq (.reg [{ o := .bx (.v 0) 1, d := some 1 }, { o := .mv (.i 0), d := some 2 }] []) (.seq (.reg [{ o := .mv (.i 0), d := some 3 }] []) (.seq (.seq (.reg [{ o := .mv (.i 0), d := some 4 }] []) (.blk 0 K.made_Last_l1)) (.seq (.reg [{ o := .mv (.v 3) }, { o := .mv (.l 0), d := some 2 }] []) .ret)))), res := [(2, none)] }
/-- /ref34.Arm -/
def ref34_Arm : Fn := { nargs := 6, vars := [0, 1, 2, 3, 4, 5, 6, 7, 8, 9, 12, 13, 14], body := (.seq (.reg [{ o := .bx (.v 0) 3, d := some 6 }, { o := .bx (.v 1) 4, d := some 7 }, { o := .bx (.v 2) 3, d := some 8 }, { o := .bx (.v 3) 1, d := some 9 }, { o := .al [.t (.int .i64 (0)), .t (.int .i64 (0)), .t (.int .i64 (0)), .t (.int .i64 (0))] [], d := some 10 }, { o := .mv (.i 0), d := some 11 }] []) (.seq (.seq (.reg [{ o := .ld (.v 6) 3 true }, { o := .ld (.v 7) 4 true }, { o := .ld (.v 8) 3 true }, { o := .ld (.v 9) 1 true }, { o := .mv (.v 4) }, { o := .mv (.v 5) }, { o := .ca N.ref34_step 0 [] [.l 5, .l 4, .l 3, .l 2, .i 0, .l 1, .l 0] }, { o := .mv (.l 0), d := some 12 }] []) (.ite [{ o := .mv (.v 12) }, { o := .bin .neq (.l 0) (.i 0) }] [] 0 (.seq (.reg [{ o := .ld (.v 7) 4 true }, { o := .mv (.v 12) }, { o := .st (.v 10) (.l 1) 4 [] }, { o := .mv (.l 1), d := some 11 }] []) .ret) .skip)) (.seq (.reg [{ o := .mv (.v 4) }, { o := .mv (.v 5) }, { o := .bd [.t (.int .i64 (0)), .t (.int .i64 (0)), .t (.int .i64 (0)), .t (.int .i64 (0))] [(0, 1, .i 1), (1, 1, .l 1), (3, 1, .l 0)] }, { o := .st (.v 10) (.l 0) 4 [] }, { o := .mv (.i 0), d := some 11 }] []) .ret))), res := [(10, some (4, true)), (11, none)] }
/-- /ref34.Agree -/
def ref34_Agree : Fn := { nargs := 6, vars := [0, 1, 2, 3, 4, 5, 6, 7, 8, 9, 12, 13, 14], body := (.seq (.reg [{ o := .bx (.v 0) 3, d := some 6 }, { o := .bx (.v 1) 4, d := some 7 }, { o := .bx (.v 2) 3, d := some 8 }, { o := .bx (.v 3) 1, d := some 9 }, { o := .al [.t (.int .i64 (0)), .t (.int .i64 (0)), .t (.int .i64 (0)), .t (.int .i64 (0))] [], d := some 10 }, { o := .mv (.i 0), d := some 11 }] []) (.seq (.seq (.reg [{ o := .ld (.v 6) 3 true }, { o := .ld (.v 7) 4 true }, { o := .ld (.v 8) 3 true }, { o := .ld (.v 9) 1 true }, { o := .mv (.v 4) }, { o := .mv (.v 5) }, { o := .ca N.ref34_step 0 [] [.l 5, .l 4, .l 3, .l 2, .i 1, .l 1, .l 0] }, { o := .mv (.l 0), d := some 12 }] []) (.ite [{ o := .mv (.v 12) }, { o := .bin .neq (.l 0) (.i 0) }] [] 0 (.seq (.reg [{ o := .ld (.v 7) 4 true }, { o := .mv (.v 12) }, { o := .st (.v 10) (.l 1) 4 [] }, { o := .mv (.l 1), d := some 11 }] []) .ret) .skip)) (.seq (.reg [{ o := .fa (.v 7) 1 }, { o := .ld (.l 0) 1 false }, { o := .mv (.v 4) }, { o := .mv (.v 5) }, { o := .bd [.t (.int .i64 (0)), .t (.int .i64 (0)), .t (.int .i64 (0)), .t (.int .i64 (0))] [(0, 1, .i 2), (1, 1, .l 2), (2, 1, .l 1), (3, 1, .l 0)] }, { o := .st (.v 10) (.l 0) 4 [] }, { o := .mv (.i 0), d := some 11 }] []) .ret))), res := [(10, some (4, true)), (11, none)] }
/-- /ref34.Fire -/
def ref34_Fire : Fn := { nargs := 6, vars := [0, 1, 2, 3, 4, 5, 6, 7, 8, 9, 12, 13, 14], body := (.seq (.reg [{ o := .bx (.v 0) 3, d := some 6 }, { o := .bx (.v 1) 4, d := some 7 }, { o := .bx (.v 2) 3, d := some 8 }, { o := .bx (.v 3) 1, d := some 9 }, { o := .al [.t (.int .i64 (0)), .t (.int .i64 (0)), .t (.int .i64 (0)), .t (.int .i64 (0))] [], d := some 10 }, { o := .mv (.i 0), d := some 11 }] []) (.seq (.seq (.reg [{ o := .ld (.v 6) 3 true }, { o := .ld (.v 7) 4 true }, { o := .ld (.v 8) 3 true }, { o := .ld (.v 9) 1 true }, { o := .mv (.v 4) }, { o := .ca N.ref34_step 0 [] [.l 4, .l 3, .l 2, .l 1, .i 2, .i 1, .l 0] }, { o := .mv (.l 0), d := some 12 }] []) (.ite [{ o := .mv (.v 12) }, { o := .bin .neq (.l 0) (.i 0) }] [] 0 (.seq (.reg [{ o := .ld (.v 7) 4 true }, { o := .mv (.v 12) }, { o := .st (.v 10) (.l 1) 4 [] }, { o := .mv (.l 1), d := some 11 }] []) .ret) .skip)) (.seq (.reg [{ o := .mv (.v 4) }, { o := .fa (.v 7) 0 }, { o := .st (.l 0) (.i 3) 1 [] }, { o := .fa (.v 7) 3 }, { o := .st (.l 0) (.l 3) 1 [] }] []) (.seq (.ite [{ o := .mv (.v 5) }] [] 0 (.reg [{ o := .fa (.v 7) 0 }, { o := .st (.l 0) (.i 4) 1 [] }] []) .skip) (.seq (.reg [{ o := .ld (.v 7) 4 true }, { o := .st (.v 10) (.l 0) 4 [] }, { o := .mv (.i 0), d := some 11 }] []) .ret))))), res := [(10, some (4, true)), (11, none)] }
/-- /ref34.Abort -/
def ref34_Abort : Fn := { nargs := 3, vars := [0, 1, 2, 3, 4, 6, 7], body := (.seq (.reg [{ o := .bx (.v 0) 3, d := some 3 }, { o := .bx (.v 1) 4, d := some 4 }, { o := .al [.t (.int .i64 (0)), .t (.int .i64 (0)), .t (.int .i64 (0)), .t (.int .i64 (0))] [], d := some 5 }, { o := .mv (.i 0), d := some 6 }] []) (.seq (.blk 0 (.ite [{ o := .ld (.v 3) 3 true }, { o := .ld (.v 4) 4 true }, { o := .ca N.ref34_Valid 0 [] [.l 1, .l 0] }, { o := .un .not (.l 0) }, { o := .mv (.l 0) }] [] 0 (.seq (.reg [{ o := .ld (.v 4) 4 true }, { o := .st (.v 5) (.l 0) 4 [] }, { o := .mv (.i 6), d := some 6 }] []) .ret) (.ite [{ o := .fa (.v 4) 0 }, { o := .ld (.l 0) 1 false }, { o := .bin .eql (.l 0) (.i 0) }, { o := .mv (.l 0) }] [] 0 (.seq (.reg [{ o := .ld (.v 4) 4 true }, { o := .st (.v 5) (.l 0) 4 [] }, { o := .mv (.i 10), d := some 6 }] []) .ret) (.ite [{ o := .mv (.v 2) }, { o := .bin .lss (.l 0) (.i 0) }, { o := .mv (.l 0) }, { o := .mv (.v 2), g := some (0, false) }, { o := .bin .gtr (.l 0) (.i 2147483648), g := some (1, false) }, { o := .pk (.l 2) (.b true) (.l 0) }, { o := .mv (.l 0) }, { o := .mv (.v 2), g := some (0, false) }, { o := .fa (.v 4) 3, g := some (1, false) }, { o := .ld (.l 0) 1 false, g := some (2, false) }, { o := .bin .lss (.l 2) (.l 0), g := some (3, false) }, { o := .pk (.l 4) (.b true) (.l 0) }, { o := .mv (.l 0) }] [] 0 (.seq (.reg [{ o := .ld (.v 4) 4 true }, { o := .st (.v 5) (.l 0) 4 [] }, { o := .mv (.i 8), d := some 6 }] []) .ret) (.ite [{ o := .fa (.v 4) 0 }, { o := .ld (.l 0) 1 false }, { o := .bin .eql (.l 0) (.i 4) }, { o := .mv (.l 0) }, { o := .mv (.v 2), g := some (0, true) }, { o := .fa (.v 4) 3, g := some (1, true) }, { o := .ld (.l 0) 1 false, g := some (2, true) }, { o := .bin .sub (.l 2) (.l 0), g := some (3, true) }, { o := .fa (.v 3) 2, g := some (4, true) }, { o := .ld (.l 0) 1 false, g := some (5, true) }, { o := .bin .lss (.l 2) (.l 0), g := some (6, true) }, { o := .pk (.l 7) (.l 0) (.b false) }, { o := .mv (.l 0) }] [] 0 (.seq (.reg [{ o := .ld (.v 4) 4 true }, { o := .st (.v 5) (.l 0) 4 [] }, { o := .mv (.i 10), d := some 6 }] []) .ret) .skip))))) (.seq (.reg [{ o := .bd [.t (.int .i64 (0)), .t (.int .i64 (0)), .t (.int .i64 (0)), .t (.int .i64 (0))] [] }, { o := .st (.v 5) (.l 0) 4 [] }, { o := .mv (.i 0), d := some 6 }] []) .ret))), res := [(5, some (4, true)), (6, none)] }
end Go.Ev.K
namespace Go.Ev
class Has3 [Lib] : Prop where
  t_law34_FiringRaw : Lib.fs N.law34_FiringRaw = some K.law34_FiringRaw
  t_law34_FiringMade : Lib.fs N.law34_FiringMade = some K.law34_FiringMade
  t_law34_FiringNeeds : Lib.fs N.law34_FiringNeeds = some K.law34_FiringNeeds
  t_law34_awake : Lib.fs N.law34_awake = some K.law34_awake
  t_made_Dice_Ints : Lib.fs N.made_Dice_Ints = some K.made_Dice_Ints
  t_law34_scene : Lib.fs N.law34_scene = some K.law34_scene
  t_law34_agree : Lib.fs N.law34_agree = some K.law34_agree
  t_law34_ready : Lib.fs N.law34_ready = some K.law34_ready
  t_firing_Arm : Lib.fs N.firing_Arm = some K.firing_Arm
  t_firing_Agree : Lib.fs N.firing_Agree = some K.firing_Agree
  t_firing_Fire : Lib.fs N.firing_Fire = some K.firing_Fire
  t_firing_Abort : Lib.fs N.firing_Abort = some K.firing_Abort
  t_firing_Valid : Lib.fs N.firing_Valid = some K.firing_Valid
  t_firing_Due : Lib.fs N.firing_Due = some K.firing_Due
  t_ref32_Border : Lib.fs N.ref32_Border = some K.ref32_Border
  t_ref32_Seal : Lib.fs N.ref32_Seal = some K.ref32_Seal
  t_made_Last : Lib.fs N.made_Last = some K.made_Last
  t_ref34_Arm : Lib.fs N.ref34_Arm = some K.ref34_Arm
  t_ref34_Agree : Lib.fs N.ref34_Agree = some K.ref34_Agree
  t_ref34_Fire : Lib.fs N.ref34_Fire = some K.ref34_Fire
  t_ref34_Abort : Lib.fs N.ref34_Abort = some K.ref34_Abort
namespace K
variable [Lib] [Has3]
theorem t_law34_FiringRaw : Lib.fs N.law34_FiringRaw = some K.law34_FiringRaw := Has3.t_law34_FiringRaw
theorem t_law34_FiringMade : Lib.fs N.law34_FiringMade = some K.law34_FiringMade := Has3.t_law34_FiringMade
theorem t_law34_FiringNeeds : Lib.fs N.law34_FiringNeeds = some K.law34_FiringNeeds := Has3.t_law34_FiringNeeds
theorem t_law34_awake : Lib.fs N.law34_awake = some K.law34_awake := Has3.t_law34_awake
theorem t_made_Dice_Ints : Lib.fs N.made_Dice_Ints = some K.made_Dice_Ints := Has3.t_made_Dice_Ints
theorem t_law34_scene : Lib.fs N.law34_scene = some K.law34_scene := Has3.t_law34_scene
theorem t_law34_agree : Lib.fs N.law34_agree = some K.law34_agree := Has3.t_law34_agree
theorem t_law34_ready : Lib.fs N.law34_ready = some K.law34_ready := Has3.t_law34_ready
theorem t_firing_Arm : Lib.fs N.firing_Arm = some K.firing_Arm := Has3.t_firing_Arm
theorem t_firing_Agree : Lib.fs N.firing_Agree = some K.firing_Agree := Has3.t_firing_Agree
theorem t_firing_Fire : Lib.fs N.firing_Fire = some K.firing_Fire := Has3.t_firing_Fire
theorem t_firing_Abort : Lib.fs N.firing_Abort = some K.firing_Abort := Has3.t_firing_Abort
theorem t_firing_Valid : Lib.fs N.firing_Valid = some K.firing_Valid := Has3.t_firing_Valid
theorem t_firing_Due : Lib.fs N.firing_Due = some K.firing_Due := Has3.t_firing_Due
theorem t_ref32_Border : Lib.fs N.ref32_Border = some K.ref32_Border := Has3.t_ref32_Border
theorem t_ref32_Seal : Lib.fs N.ref32_Seal = some K.ref32_Seal := Has3.t_ref32_Seal
theorem t_made_Last : Lib.fs N.made_Last = some K.made_Last := Has3.t_made_Last
theorem t_ref34_Arm : Lib.fs N.ref34_Arm = some K.ref34_Arm := Has3.t_ref34_Arm
theorem t_ref34_Agree : Lib.fs N.ref34_Agree = some K.ref34_Agree := Has3.t_ref34_Agree
theorem t_ref34_Fire : Lib.fs N.ref34_Fire = some K.ref34_Fire := Has3.t_ref34_Fire
theorem t_ref34_Abort : Lib.fs N.ref34_Abort = some K.ref34_Abort := Has3.t_ref34_Abort
end K
end Go.Ev

/- MADE BY PROGRAM (lib.py): the compact code of functions. -/
namespace Go.Ev.K
open Go.Ev
/-- /ref34.Valid -/
def ref34_Valid : Fn := { nargs := 2, vars := [0, 1, 2, 3, 4], body := (.seq (.reg [{ o := .bx (.v 0) 3, d := some 2 }, { o := .bx (.v 1) 4, d := some 3 }, { o := .mv (.b false), d := some 4 }] []) (.seq (.ite [{ o := .ld (.v 2) 3 true }, { o := .ca N.ref34_blast 0 [] [.l 0] }, { o := .un .not (.l 0) }, { o := .mv (.l 0) }, { o := .fa (.v 3) 0, g := some (0, false) }, { o := .ld (.l 0) 1 false, g := some (1, false) }, { o := .bin .lss (.l 0) (.i 0), g := some (2, false) }, { o := .pk (.l 3) (.b true) (.l 0) }, { o := .mv (.l 0) }, { o := .fa (.v 3) 0, g := some (0, false) }, { o := .ld (.l 0) 1 false, g := some (1, false) }, { o := .bin .gtr (.l 0) (.i 4), g := some (2, false) }, { o := .pk (.l 3) (.b true) (.l 0) }, { o := .mv (.l 0) }, { o := .fa (.v 3) 3, g := some (0, false) }, { o := .ld (.l 0) 1 false, g := some (1, false) }, { o := .bin .lss (.l 0) (.i 0), g := some (2, false) }, { o := .pk (.l 3) (.b true) (.l 0) }, { o := .mv (.l 0) }, { o := .fa (.v 3) 3, g := some (0, false) }, { o := .ld (.l 0) 1 false, g := some (1, false) }, { o := .bin .gtr (.l 0) (.i 2147483648), g := some (2, false) }, { o := .pk (.l 3) (.b true) (.l 0) }] [] 0 (.seq (.reg [{ o := .mv (.b false), d := some 4 }] []) .ret) .skip) (.seq (.ite [{ o := .fa (.v 3) 0 }, { o := .ld (.l 0) 1 false }, { o := .bin .eql (.l 0) (.i 0) }] [] 0 (.seq (.reg [{ o := .ld (.v 3) 4 true }, { o := .bd [.t (.int .i64 (0)), .t (.int .i64 (0)), .t (.int .i64 (0)), .t (.int .i64 (0))] [] }, { o := .eqk (.ints 4) false (.l 1) (.l 0) }, { o := .mv (.l 0), d := some 4 }] []) .ret) .skip) (.seq (.ite [{ o := .fa (.v 3) 0 }, { o := .ld (.l 0) 1 false }, { o := .bin .eql (.l 0) (.i 1) }] [] 0 (.seq (.reg [{ o := .fa (.v 3) 1 }, { o := .ld (.l 0) 1 false }, { o := .bin .gtr (.l 0) (.i 0) }, { o := .mv (.l 0) }, { o := .fa (.v 3) 2, g := some (0, true) }, { o := .ld (.l 0) 1 false, g := some (1, true) }, { o := .bin .eql (.l 0) (.i 0), g := some (2, true) }, { o := .pk (.l 3) (.l 0) (.b false) }, { o := .mv (.l 0), d := some 4 }] []) .ret) .skip) (.seq (.reg [{ o := .fa (.v 3) 1 }, { o := .ld (.l 0) 1 false }, { o := .bin .gtr (.l 0) (.i 0) }, { o := .mv (.l 0) }, { o := .fa (.v 3) 2, g := some (0, true) }, { o := .ld (.l 0) 1 false, g := some (1, true) }, { o := .bin .gtr (.l 0) (.i 0), g := some (2, true) }, { o := .pk (.l 3) (.l 0) (.b false) }, { o := .mv (.l 0) }, { o := .fa (.v 3) 1, g := some (0, true) }, { o := .ld (.l 0) 1 false, g := some (1, true) }, { o := .fa (.v 3) 2, g := some (2, true) }, { o := .ld (.l 0) 1 false, g := some (3, true) }, { o := .bin .neq (.l 2) (.l 0), g := some (4, true) }, { o := .pk (.l 5) (.l 0) (.b false) }, { o := .mv (.l 0), d := some 4 }] []) .ret))))), res := [(4, none)] }
/-- /firing.Safe -/
def firing_Safe : Fn := { nargs := 3, vars := [0, 1, 2, 3, 4, 5, 6], body := (.seq (.reg [{ o := .bx (.v 0) 3, d := some 3 }, { o := .bx (.v 1) 3, d := some 4 }, { o := .bx (.v 2) 1, d := some 5 }, { o := .mv (.b false), d := some 6 }] []) (.seq (.reg [{ o := .ld (.v 3) 3 true }, { o := .bd [.t (.int .i64 (0)), .t (.int .i64 (0)), .t (.int .i64 (0)), .t (.int .i64 (0))] [] }, { o := .ca N.firing_Valid 0 [] [.l 1, .l 0] }, { o := .mv (.l 0) }, { o := .ld (.v 4) 3 true, g := some (0, true) }, { o := .ca N.keys_Valid 0 [] [.l 0], g := some (1, true) }, { o := .pk (.l 2) (.l 0) (.b false) }, { o := .mv (.l 0) }, { o := .fa (.v 4) 2, g := some (0, true) }, { o := .ld (.l 0) 1 false, g := some (1, true) }, { o := .pk (.l 2) (.l 0) (.b false) }, { o := .mv (.l 0) }, { o := .fa (.v 5) 0, g := some (0, true) }, { o := .ld (.l 0) 1 false, g := some (1, true) }, { o := .ln (.l 0), g := some (2, true) }, { o := .bin .gtr (.l 0) (.i 0), g := some (3, true) }, { o := .pk (.l 4) (.l 0) (.b false) }, { o := .mv (.l 0) }, { o := .ld (.v 5) 1 true, g := some (0, true) }, { o := .fa (.v 3) 0, g := some (1, true) }, { o := .ld (.l 0) 1 false, g := some (2, true) }, { o := .ca N.area_Clear 0 [] [.l 2, .l 0], g := some (3, true) }, { o := .pk (.l 4) (.l 0) (.b false) }, { o := .mv (.l 0), d := some 6 }] []) .ret)), res := [(6, none)] }
/-- /ref34.Safe -/
def ref34_Safe : Fn := { nargs := 3, vars := [0, 1, 2, 3, 4, 5, 6], body := (.seq (.reg [{ o := .bx (.v 0) 3, d := some 3 }, { o := .bx (.v 1) 3, d := some 4 }, { o := .bx (.v 2) 1, d := some 5 }, { o := .mv (.b false), d := some 6 }] []) (.seq (.reg [{ o := .ld (.v 3) 3 true }, { o := .ca N.ref34_blast 0 [] [.l 0] }, { o := .mv (.l 0) }, { o := .ld (.v 4) 3 true, g := some (0, true) }, { o := .ca N.ref33_Valid 0 [] [.l 0], g := some (1, true) }, { o := .pk (.l 2) (.l 0) (.b false) }, { o := .mv (.l 0) }, { o := .fa (.v 4) 2, g := some (0, true) }, { o := .ld (.l 0) 1 false, g := some (1, true) }, { o := .pk (.l 2) (.l 0) (.b false) }, { o := .mv (.l 0) }, { o := .fa (.v 5) 0, g := some (0, true) }, { o := .ld (.l 0) 1 false, g := some (1, true) }, { o := .ln (.l 0), g := some (2, true) }, { o := .bin .gtr (.l 0) (.i 0), g := some (3, true) }, { o := .pk (.l 4) (.l 0) (.b false) }, { o := .mv (.l 0) }, { o := .ld (.v 5) 1 true, g := some (0, true) }, { o := .fa (.v 3) 0, g := some (1, true) }, { o := .ld (.l 0) 1 false, g := some (2, true) }, { o := .ca N.ref32_Clear 0 [] [.l 2, .l 0], g := some (3, true) }, { o := .pk (.l 4) (.l 0) (.b false) }, { o := .mv (.l 0), d := some 6 }] []) .ret)), res := [(6, none)] }
/-- /ref34.Due -/
def ref34_Due : Fn := { nargs := 3, vars := [0, 1, 2, 3, 4, 6, 18, 19], body := (.seq (.reg [{ o := .bx (.v 0) 3, d := some 3 }, { o := .bx (.v 1) 4, d := some 4 }, { o := .mv (.i 0), d := some 5 }] []) (.seq (.ite [{ o := .ld (.v 3) 3 true }, { o := .ld (.v 4) 4 true }, { o := .ca N.ref34_Valid 0 [] [.l 1, .l 0] }, { o := .un .not (.l 0) }, { o := .mv (.l 0) }, { o := .mv (.v 2), g := some (0, false) }, { o := .fa (.v 4) 3, g := some (1, false) }, { o := .ld (.l 0) 1 false, g := some (2, false) }, { o := .bin .lss (.l 2) (.l 0), g := some (3, false) }, { o := .pk (.l 4) (.b true) (.l 0) }] [] 0 (.seq (.reg [{ o := .mv (.i 0), d := some 5 }] []) .ret) .skip) (.seq (.seq (.reg [{ o := .fa (.v 4) 0 }, { o := .ld (.l 0) 1 false, d := some 6 }] []) (.blk 0 (.seq (.seq (.reg [{ o := .bin .eql (.v 6) (.i 1) }, { o := .mv (.l 0), d := some 7 }] []) (.itv 7 .skip (.reg [{ o := .bin .eql (.v 6) (.i 2) }, { o := .mv (.l 0), d := some 7 }] []))) (.itv 7 (.seq (.reg [{ o := .fa (.v 3) 1 }, { o := .ld (.l 0) 1 false }, { o := .mv (.v 2) }, { o := .fa (.v 4) 3 }, { o := .ld (.l 0) 1 false }, { o := .bin .sub (.l 2) (.l 0) }, { o := .bin .sub (.l 4) (.l 0) }, { o := .mx [.i 0, .l 0] }, { o := .mv (.l 0), d := some 5 }] []) .ret) (.ite [{ o := .bin .eql (.v 6) (.i 4) }, { o := .mv (.l 0) }] [] 0 (.seq (.reg [{ o := .fa (.v 3) 2 }, { o := .ld (.l 0) 1 false }, { o := .mv (.v 2) }, { o := .fa (.v 4) 3 }, { o := .ld (.l 0) 1 false }, { o := .bin .sub (.l 2) (.l 0) }, { o := .bin .sub (.l 4) (.l 0) }, { o := .mx [.i 0, .l 0] }, { o := .mv (.l 0), d := some 5 }] []) .ret) .skip))))) (.seq (.reg [{ o := .mv (.i 0), d := some 5 }] []) .ret)))), res := [(5, none)] }
/-- (/firing.request).check -/
def firing_request_check : Fn := { nargs := 2, vars := [0, 1, 2, 4], body := (.seq (.reg [{ o := .bx (.v 0) 13, d := some 2 }, { o := .mv (.i 0), d := some 3 }] []) (.seq (.blk 0 (.ite [{ o := .fa (.v 2) 0 }, { o := .ld (.l 0) 3 true }, { o := .fa (.v 2) 3 }, { o := .ld (.l 0) 4 true }, { o := .ca N.firing_Valid 0 [] [.l 2, .l 0] }, { o := .un .not (.l 0) }, { o := .mv (.l 0) }] [] 0 (.seq (.reg [{ o := .mv (.i 6), d := some 3 }] []) .ret) (.ite [{ o := .fa (.v 2) 3 }, { o := .fa (.l 0) 0 }, { o := .ld (.l 0) 1 false }, { o := .fa (.v 2) 12 }, { o := .ld (.l 0) 1 false }, { o := .bin .neq (.l 2) (.l 0) }, { o := .mv (.l 0) }] [] 0 (.seq (.reg [{ o := .mv (.i 10), d := some 3 }] []) .ret) (.ite [{ o := .fa (.v 2) 11 }, { o := .ld (.l 0) 1 false }, { o := .bin .lss (.l 0) (.i 0) }, { o := .mv (.l 0) }, { o := .fa (.v 2) 3, g := some (0, false) }, { o := .ld (.l 0) 4 true, g := some (1, false) }, { o := .fa (.v 2) 11, g := some (2, false) }, { o := .ld (.l 0) 1 false, g := some (3, false) }, { o := .ca N.firing_timely 0 [] [.l 2, .l 0], g := some (4, false) }, { o := .un .not (.l 0), g := some (5, false) }, { o := .pk (.l 6) (.b true) (.l 0) }, { o := .mv (.l 0) }] [] 0 (.seq (.reg [{ o := .mv (.i 8), d := some 3 }] []) .ret) (.ite [{ o := .mv (.v 1) }, { o := .mv (.l 0) }] [] 0 (.seq (.reg [{ o := .mv (.i 19), d := some 3 }] []) .ret) (.ite [{ o := .fa (.v 2) 12 }, { o := .ld (.l 0) 1 false }, { o := .bin .neq (.l 0) (.i 0) }, { o := .mv (.l 0) }, { o := .fa (.v 2) 11, g := some (0, true) }, { o := .ld (.l 0) 1 false, g := some (1, true) }, { o := .fa (.v 2) 3, g := some (2, true) }, { o := .fa (.l 0) 3, g := some (3, true) }, { o := .ld (.l 0) 1 false, g := some (4, true) }, { o := .bin .sub (.l 3) (.l 0), g := some (5, true) }, { o := .fa (.v 2) 0, g := some (6, true) }, { o := .fa (.l 0) 1, g := some (7, true) }, { o := .ld (.l 0) 1 false, g := some (8, true) }, { o := .bin .gtr (.l 3) (.l 0), g := some (9, true) }, { o := .pk (.l 10) (.l 0) (.b false) }, { o := .mv (.l 0) }] [] 0 (.seq (.reg [{ o := .mv (.i 10), d := some 3 }] []) .ret) (.ite [{ o := .fa (.v 2) 7 }, { o := .ld (.l 0) 3 true }, { o := .ca N.keys_Valid 0 [] [.l 0] }, { o := .un .not (.l 0) }, { o := .mv (.l 0) }, { o := .fa (.v 2) 7, g := some (0, false) }, { o := .fa (.l 0) 2, g := some (1, false) }, { o := .ld (.l 0) 1 false, g := some (2, false) }, { o := .un .not (.l 0), g := some (3, false) }, { o := .pk (.l 4) (.b true) (.l 0) }, { o := .mv (.l 0) }] [] 0 (.seq (.reg [{ o := .mv (.i 48), d := some 3 }] []) .ret) (.ite [{ o := .fa (.v 2) 0 }, { o := .ld (.l 0) 3 true }, { o := .fa (.v 2) 7 }, { o := .ld (.l 0) 3 true }, { o := .fa (.v 2) 10 }, { o := .ld (.l 0) 1 true }, { o := .ca N.firing_Safe 0 [] [.l 4, .l 2, .l 0] }, { o := .un .not (.l 0) }, { o := .mv (.l 0) }] [] 0 (.seq (.reg [{ o := .mv (.i 49), d := some 3 }] []) .ret) .skip)))))))) (.seq (.reg [{ o := .mv (.i 0), d := some 3 }] []) .ret))), res := [(3, none)] }
/-- /firing.timely -/
def firing_timely : Fn := { nargs := 2, vars := [0, 1, 2, 4], body := (.seq (.reg [{ o := .bx (.v 0) 4, d := some 2 }, { o := .mv (.b false), d := some 3 }] []) (.seq (.reg [{ o := .mv (.v 1) }, { o := .fa (.v 2) 3 }, { o := .ld (.l 0) 1 false }, { o := .bin .geq (.l 2) (.l 0) }, { o := .mv (.l 0) }, { o := .mv (.v 1), g := some (0, true) }, { o := .bin .leq (.l 0) (.i 2147483648), g := some (1, true) }, { o := .pk (.l 2) (.l 0) (.b false) }, { o := .mv (.l 0), d := some 3 }] []) .ret)), res := [(3, none)] }
def lists_Rising_l1b : C := (.its  [{ o := .bin .lss (.v 8) (.v 7) }] [] 0 .skip (.exit 0) (.seq (.blk 1 (.seq (.reg [{ o := .mv (.v 8) }, { o := .ia (.v 6) (.v 8) 1 }, { o := .ld (.l 0) 1 false }, { o := .mv (.l 2), d := some 4 }, { o := .mv (.l 1), d := some 5 }] []) (.ite [{ o := .mv (.v 5) }, { o := .mv (.v 1) }, { o := .bin .lss (.l 1) (.l 0) }, { o := .mv (.l 0) }, { o := .mv (.v 5), g := some (0, false) }, { o := .mv (.v 2), g := some (1, false) }, { o := .bin .gtr (.l 1) (.l 0), g := some (2, false) }, { o := .pk (.l 3) (.b true) (.l 0) }, { o := .mv (.l 0) }, { o := .mv (.v 4), g := some (0, false) }, { o := .bin .gtr (.l 0) (.i 0), g := some (1, false) }, { o := .mv (.l 0), g := some (2, false) }, { o := .mv (.v 5), g := some (0, true) }, { o := .mv (.v 0), g := some (1, true) }, { o := .mv (.v 4), g := some (2, true) }, { o := .bin .sub (.l 0) (.i 1), g := some (3, true) }, { o := .ia (.l 2) (.l 0) 1, g := some (4, true) }, { o := .ld (.l 0) 1 false, g := some (5, true) }, { o := .bin .leq (.l 5) (.l 0), g := some (6, true) }, { o := .pk (.l 7) (.l 0) (.b false), g := some (10, false) }, { o := .pk (.l 11) (.b true) (.l 0) }] [] 0 (.seq (.reg [{ o := .mv (.b false), d := some 3 }] []) .ret) .skip))) (.reg [{ o := .bin .add (.v 8) (.i 1) }, { o := .mv (.l 0), d := some 8 }] [])))
def lists_Rising_l1 : C := .loop true [3, 4, 5] K.lists_Rising_l1b
/-- /lists.Rising -/
def lists_Rising : Fn := { nargs := 3, vars := [0, 1, 2, 6, 7, 8, 9, 10, 11], body := (.seq (.reg [{ o := .mv (.b false), d := some 3 }] []) (.seq (.seq (.reg [{ o := .mv (.v 0), d := some 6 }, { o := .ln (.l 0), d := some 7 }, { o := .mv (.i 0), d := some 8 }] []) (.blk 0 K.lists_Rising_l1)) (.seq (.reg [{ o := .mv (.b true), d := some 3 }] []) .ret))), res := [(3, none)] }
def ref32_Barred_l1b : C := (.seq (.ite [{ o := .mv (.v 5) }, { o := .mv (.v 1) }, { o := .ln (.l 0) }, { o := .bin .lss (.l 2) (.l 0) }] [] 0 .skip (.exit 0)) (.seq (.blk 1 (.reg [{ o := .fa (.v 2) 1 }, { o := .ld (.l 0) 1 false }, { o := .mv (.v 1) }, { o := .mv (.v 5) }, { o := .ia (.l 1) (.l 0) 1 }, { o := .ld (.l 0) 1 false }, { o := .ia (.l 4) (.l 0) 10 }, { o := .fa (.l 0) 4 }, { o := .st (.l 0) (.b false) 1 [] }] [])) (.reg [{ o := .mv (.v 5) }, { o := .bin .add (.l 0) (.i 1) }, { o := .mv (.l 0), d := some 5 }] [])))
def ref32_Barred_l1 : C := .loop true [0, 4] K.ref32_Barred_l1b
/-- /ref32.Barred -/
def ref32_Barred : Fn := { nargs := 2, vars := [0, 1, 2, 4, 5, 6], body := (.seq (.reg [{ o := .bx (.v 0) 2, d := some 2 }, { o := .al [.nil, .nil] [], d := some 3 }, { o := .mv (.i 0), d := some 4 }] []) (.seq (.ite [{ o := .ld (.v 2) 2 true }, { o := .ca N.ref01_Check 0 [] [.l 0] }, { o := .bin .neq (.l 0) (.i 0) }] [] 0 (.seq (.reg [{ o := .bd [.nil, .nil] [] }, { o := .st (.v 3) (.l 0) 2 [] }, { o := .mv (.i 6), d := some 4 }] []) .ret) .skip) (.seq (.ite [{ o := .mv (.v 1) }, { o := .fa (.v 2) 1 }, { o := .ld (.l 0) 1 false }, { o := .ln (.l 0) }, { o := .ca N.ref23_Set 0 [] [.l 3, .l 0] }, { o := .un .not (.l 0) }] [] 0 (.seq (.reg [{ o := .bd [.nil, .nil] [] }, { o := .st (.v 3) (.l 0) 2 [] }, { o := .mv (.i 4), d := some 4 }] []) .ret) .skip) (.seq (.reg [{ o := .ld (.v 2) 2 true }, { o := .ca N.ref31_Copy 1 [] [.l 0] }, { o := .st (.v 2) (.l 0) 2 [] }] []) (.seq (.seq (.reg [{ o := .mv (.i 0), d := some 5 }] []) (.blk 0 K.ref32_Barred_l1)) (.seq (.reg [{ o := .ld (.v 2) 2 true }, { o := .st (.v 3) (.l 0) 2 [] }, { o := .mv (.i 0), d := some 4 }] []) .ret)))))), res := [(3, some (2, true)), (4, none)] }
def ref32_seal_l1b : C := (.seq (.ite [{ o := .mv (.v 7) }, { o := .mv (.v 6) }, { o := .ln (.l 0) }, { o := .bin .lss (.l 2) (.l 0) }] [] 0 .skip (.exit 0)) (.seq (.blk 1 (.ite [{ o := .mv (.v 6) }, { o := .mv (.v 7) }, { o := .ia (.l 1) (.l 0) 1 }, { o := .ld (.l 0) 1 false }, { o := .mv (.v 2) }, { o := .bin .gtr (.l 1) (.l 0) }] [] 0 (.reg [{ o := .mv (.v 6) }, { o := .mv (.v 7) }, { o := .ia (.l 1) (.l 0) 1 }, { o := .st (.l 0) (.i 1099511627776) 1 [] }] []) .skip)) (.reg [{ o := .mv (.v 7) }, { o := .bin .add (.l 0) (.i 1) }, { o := .mv (.l 0), d := some 7 }] [])))
def ref32_seal_l1 : C := .loop true [0, 1, 4] K.ref32_seal_l1b
/-- /ref32.seal -/
def ref32_seal : Fn := { nargs := 3, vars := [0, 1, 2, 3, 4, 6, 7, 8], body := (.seq (.reg [{ o := .bx (.v 0) 2, d := some 3 }, { o := .bx (.v 1) 2, d := some 4 }, { o := .al [.t (.int .i64 (0)), .nil] [], d := some 5 }] []) (.seq (.reg [{ o := .fa (.v 4) 1 }, { o := .ld (.l 0) 1 false }, { o := .app (.c (.nil)) (.l 0) true 1 }, { o := .mv (.l 0), d := some 6 }] []) (.seq (.seq (.reg [{ o := .mv (.i 0), d := some 7 }] []) (.blk 0 K.ref32_seal_l1)) (.seq (.reg [{ o := .mv (.v 2) }, { o := .ld (.v 3) 2 true }, { o := .mv (.v 6) }, { o := .mv (.v 2) }, { o := .ca N.ref25_Close 0 [] [.l 2, .l 1, .l 0] }, { o := .bd [.t (.int .i64 (0)), .nil] [(0, 1, .l 4), (1, 1, .l 0)] }, { o := .st (.v 5) (.l 0) 2 [] }] []) .ret)))), res := [(5, some (2, true))] }
/-- /ref34.step -/
def ref34_step : Fn := { nargs := 7, vars := [0, 1, 2, 3, 4, 5, 6, 7, 8, 9, 10, 14], body := (.seq (.reg [{ o := .bx (.v 0) 3, d := some 7 }, { o := .bx (.v 1) 4, d := some 8 }, { o := .bx (.v 2) 3, d := some 9 }, { o := .bx (.v 3) 1, d := some 10 }, { o := .mv (.i 0), d := some 11 }] []) (.seq (.blk 0 (.ite [{ o := .ld (.v 7) 3 true }, { o := .ld (.v 8) 4 true }, { o := .ca N.ref34_Valid 0 [] [.l 1, .l 0] }, { o := .un .not (.l 0) }, { o := .mv (.l 0) }] [] 0 (.seq (.reg [{ o := .mv (.i 6), d := some 11 }] []) .ret) (.ite [{ o := .fa (.v 8) 0 }, { o := .ld (.l 0) 1 false }, { o := .mv (.v 4) }, { o := .bin .neq (.l 1) (.l 0) }, { o := .mv (.l 0) }] [] 0 (.seq (.reg [{ o := .mv (.i 10), d := some 11 }] []) .ret) (.ite [{ o := .mv (.v 6) }, { o := .bin .lss (.l 0) (.i 0) }, { o := .mv (.l 0) }, { o := .mv (.v 6), g := some (0, false) }, { o := .bin .gtr (.l 0) (.i 2147483648), g := some (1, false) }, { o := .pk (.l 2) (.b true) (.l 0) }, { o := .mv (.l 0) }, { o := .mv (.v 6), g := some (0, false) }, { o := .fa (.v 8) 3, g := some (1, false) }, { o := .ld (.l 0) 1 false, g := some (2, false) }, { o := .bin .lss (.l 2) (.l 0), g := some (3, false) }, { o := .pk (.l 4) (.b true) (.l 0) }, { o := .mv (.l 0) }] [] 0 (.seq (.reg [{ o := .mv (.i 8), d := some 11 }] []) .ret) (.ite [{ o := .mv (.v 5) }, { o := .bin .leq (.l 0) (.i 0) }, { o := .mv (.l 0) }, { o := .mv (.v 4), g := some (0, false) }, { o := .bin .eql (.l 0) (.i 1), g := some (1, false) }, { o := .mv (.l 0), g := some (2, false) }, { o := .mv (.v 5), g := some (0, true) }, { o := .fa (.v 8) 1, g := some (1, true) }, { o := .ld (.l 0) 1 false, g := some (2, true) }, { o := .bin .eql (.l 2) (.l 0), g := some (3, true) }, { o := .pk (.l 4) (.l 0) (.b false), g := some (7, false) }, { o := .pk (.l 8) (.b true) (.l 0) }, { o := .mv (.l 0) }] [] 0 (.seq (.reg [{ o := .mv (.i 19), d := some 11 }] []) .ret) (.ite [{ o := .mv (.v 4) }, { o := .bin .neq (.l 0) (.i 0) }, { o := .mv (.l 0) }, { o := .mv (.v 6), g := some (0, true) }, { o := .fa (.v 8) 3, g := some (1, true) }, { o := .ld (.l 0) 1 false, g := some (2, true) }, { o := .bin .sub (.l 2) (.l 0), g := some (3, true) }, { o := .fa (.v 7) 1, g := some (4, true) }, { o := .ld (.l 0) 1 false, g := some (5, true) }, { o := .bin .gtr (.l 2) (.l 0), g := some (6, true) }, { o := .pk (.l 7) (.l 0) (.b false) }, { o := .mv (.l 0) }] [] 0 (.seq (.reg [{ o := .mv (.i 10), d := some 11 }] []) .ret) (.ite [{ o := .ld (.v 9) 3 true }, { o := .ca N.ref33_Valid 0 [] [.l 0] }, { o := .un .not (.l 0) }, { o := .mv (.l 0) }, { o := .fa (.v 9) 2, g := some (0, false) }, { o := .ld (.l 0) 1 false, g := some (1, false) }, { o := .un .not (.l 0), g := some (2, false) }, { o := .pk (.l 3) (.b true) (.l 0) }, { o := .mv (.l 0) }] [] 0 (.seq (.reg [{ o := .mv (.i 48), d := some 11 }] []) .ret) (.ite [{ o := .ld (.v 7) 3 true }, { o := .ld (.v 9) 3 true }, { o := .ld (.v 10) 1 true }, { o := .ca N.ref34_Safe 0 [] [.l 2, .l 1, .l 0] }, { o := .un .not (.l 0) }, { o := .mv (.l 0) }] [] 0 (.seq (.reg [{ o := .mv (.i 49), d := some 11 }] []) .ret) .skip)))))))) (.seq (.reg [{ o := .mv (.i 0), d := some 11 }] []) .ret))), res := [(11, none)] }
/-- /ref34.blast -/
def ref34_blast : Fn := { nargs := 1, vars := [0, 1, 2], body := (.seq (.reg [{ o := .bx (.v 0) 3, d := some 1 }, { o := .mv (.b false), d := some 2 }] []) (.seq (.reg [{ o := .fa (.v 1) 0 }, { o := .ld (.l 0) 1 false }, { o := .ln (.l 0) }, { o := .bin .gtr (.l 0) (.i 0) }, { o := .mv (.l 0) }, { o := .fa (.v 1) 0, g := some (0, true) }, { o := .ld (.l 0) 1 false, g := some (1, true) }, { o := .ca N.ref23_Set 0 [] [.l 0, .i 64], g := some (2, true) }, { o := .pk (.l 3) (.l 0) (.b false) }, { o := .mv (.l 0) }, { o := .fa (.v 1) 1, g := some (0, true) }, { o := .ld (.l 0) 1 false, g := some (1, true) }, { o := .bin .geq (.l 0) (.i 1), g := some (2, true) }, { o := .pk (.l 3) (.l 0) (.b false) }, { o := .mv (.l 0) }, { o := .fa (.v 1) 1, g := some (0, true) }, { o := .ld (.l 0) 1 false, g := some (1, true) }, { o := .bin .leq (.l 0) (.i 100000), g := some (2, true) }, { o := .pk (.l 3) (.l 0) (.b false) }, { o := .mv (.l 0) }, { o := .fa (.v 1) 2, g := some (0, true) }, { o := .ld (.l 0) 1 false, g := some (1, true) }, { o := .bin .geq (.l 0) (.i 1), g := some (2, true) }, { o := .pk (.l 3) (.l 0) (.b false) }, { o := .mv (.l 0) }, { o := .fa (.v 1) 2, g := some (0, true) }, { o := .ld (.l 0) 1 false, g := some (1, true) }, { o := .bin .leq (.l 0) (.i 100000), g := some (2, true) }, { o := .pk (.l 3) (.l 0) (.b false) }, { o := .mv (.l 0), d := some 2 }] []) .ret)), res := [(2, none)] }
/-- /keys.Valid -/
def keys_Valid : Fn := { nargs := 1, vars := [0, 1, 2, 3], body := (.seq (.reg [{ o := .bx (.v 0) 3, d := some 1 }, { o := .mv (.b false), d := some 2 }] []) (.seq (.reg [{ o := .mv (.c (.fn N.keys_Valid_1 [])), d := some 3 }] []) (.seq (.reg [{ o := .fa (.v 1) 0 }, { o := .ld (.l 0) 1 false }, { o := .ca N.keys_roads 0 [] [.l 0] }, { o := .mv (.l 0) }, { o := .fa (.v 1) 1, g := some (0, true) }, { o := .ld (.l 0) 1 false, g := some (1, true) }, { o := .ln (.l 0), g := some (2, true) }, { o := .fa (.v 1) 0, g := some (3, true) }, { o := .ld (.l 0) 1 false, g := some (4, true) }, { o := .ln (.l 0), g := some (5, true) }, { o := .bin .eql (.l 3) (.l 0), g := some (6, true) }, { o := .pk (.l 7) (.l 0) (.b false) }, { o := .mv (.l 0) }, { o := .fa (.v 1) 1, g := some (0, true) }, { o := .ld (.l 0) 1 false, g := some (1, true) }, { o := .mv (.v 3), g := some (2, true) }, { o := .ca N.slices_ContainsFunc_int_int 0 [] [.l 1, .l 0], g := some (3, true) }, { o := .un .not (.l 0), g := some (4, true) }, { o := .pk (.l 5) (.l 0) (.b false) }, { o := .mv (.l 0) }, { o := .fa (.v 1) 2, g := some (0, true) }, { o := .ld (.l 0) 1 false, g := some (1, true) }, { o := .un .not (.l 0), g := some (2, true) }, { o := .mv (.l 0), g := some (3, true) }, { o := .ld (.v 1) 3 true, g := some (0, false) }, { o := .ca N.keys_boxed 0 [] [.l 0], g := some (1, false) }, { o := .pk (.l 2) (.b true) (.l 0), g := some (6, true) }, { o := .pk (.l 7) (.l 0) (.b false) }, { o := .mv (.l 0), d := some 2 }] []) .ret))), res := [(2, none)] }
def area_Clear_l2b : C := (.its  [{ o := .bin .lss (.v 11) (.v 10) }] [] 0 .skip (.exit 2) (.seq (.blk 3 (.seq (.reg [{ o := .ia (.v 9) (.v 11) 2 }, { o := .ld (.l 0) 2 true }, { o := .al [.t (.int .i64 (0)), .nil] [], d := some 5 }, { o := .st (.l 0) (.l 1) 2 [] }] []) (.ite [{ o := .mv (.v 1) }, { o := .mf N.area_Clear_1 [.v 5] }, { o := .ca N.slices_ContainsFunc_int_int 0 [] [.l 1, .l 0] }] [] 0 (.seq (.reg [{ o := .mv (.b false), d := some 3 }] []) .ret) .skip))) (.reg [{ o := .bin .add (.v 11) (.i 1) }, { o := .mv (.l 0), d := some 11 }] [])))
def area_Clear_l2 : C := .loop true [0, 2, 3, 4, 5] K.area_Clear_l2b
def area_Clear_l1b : C := (.its  [{ o := .bin .lss (.v 8) (.v 7) }] [] 0 .skip (.exit 0) (.seq (.blk 1 (.seq (.reg [{ o := .ia (.v 6) (.v 8) 2 }, { o := .ld (.l 0) 2 true }, { o := .al [.nil, .nil] [], d := some 4 }, { o := .st (.l 0) (.l 1) 2 [] }] []) (.seq (.reg [{ o := .fa (.v 4) 1 }, { o := .ld (.l 0) 1 false, d := some 9 }, { o := .ln (.l 0), d := some 10 }, { o := .mv (.i 0), d := some 11 }] []) (.blk 2 K.area_Clear_l2)))) (.reg [{ o := .bin .add (.v 8) (.i 1) }, { o := .mv (.l 0), d := some 8 }] [])))
def area_Clear_l1 : C := .loop true [0, 2, 3, 4, 5, 9, 10, 11] K.area_Clear_l1b
/-- /area.Clear -/
def area_Clear : Fn := { nargs := 2, vars := [0, 1, 2, 4, 6, 8, 10, 11, 12, 17, 18, 19], body := (.seq (.reg [{ o := .bx (.v 0) 1, d := some 2 }, { o := .mv (.b false), d := some 3 }] []) (.seq (.seq (.reg [{ o := .fa (.v 2) 0 }, { o := .ld (.l 0) 1 false, d := some 6 }, { o := .ln (.l 0), d := some 7 }, { o := .mv (.i 0), d := some 8 }] []) (.blk 0 K.area_Clear_l1)) (.seq (.reg [{ o := .mv (.b true), d := some 3 }] []) .ret))), res := [(3, none)] }
def ref33_Valid_l1b : C := (.seq (.ite [{ o := .mv (.v 3) }, { o := .fa (.v 1) 1 }, { o := .ld (.l 0) 1 false }, { o := .ln (.l 0) }, { o := .bin .lss (.l 3) (.l 0) }] [] 0 .skip (.exit 0)) (.seq (.blk 1 (.ite [{ o := .fa (.v 1) 1 }, { o := .ld (.l 0) 1 false }, { o := .mv (.v 3) }, { o := .ia (.l 1) (.l 0) 1 }, { o := .ld (.l 0) 1 false }, { o := .bin .lss (.l 0) (.i 0) }, { o := .mv (.l 0) }, { o := .fa (.v 1) 1, g := some (0, false) }, { o := .ld (.l 0) 1 false, g := some (1, false) }, { o := .mv (.v 3), g := some (2, false) }, { o := .ia (.l 1) (.l 0) 1, g := some (3, false) }, { o := .ld (.l 0) 1 false, g := some (4, false) }, { o := .bin .gtr (.l 0) (.i 2), g := some (5, false) }, { o := .pk (.l 6) (.b true) (.l 0) }, { o := .mv (.l 0) }, { o := .fa (.v 1) 2, g := some (0, false) }, { o := .ld (.l 0) 1 false, g := some (1, false) }, { o := .mv (.l 0), g := some (2, false) }, { o := .fa (.v 1) 1, g := some (0, true) }, { o := .ld (.l 0) 1 false, g := some (1, true) }, { o := .mv (.v 3), g := some (2, true) }, { o := .ia (.l 1) (.l 0) 1, g := some (3, true) }, { o := .ld (.l 0) 1 false, g := some (4, true) }, { o := .bin .neq (.l 0) (.i 2), g := some (5, true) }, { o := .pk (.l 6) (.l 0) (.b false), g := some (9, false) }, { o := .pk (.l 10) (.b true) (.l 0) }] [] 0 (.seq (.reg [{ o := .mv (.b false), d := some 2 }] []) .ret) .skip)) (.reg [{ o := .mv (.v 3) }, { o := .bin .add (.l 0) (.i 1) }, { o := .mv (.l 0), d := some 3 }] [])))
def ref33_Valid_l1 : C := .loop true [0, 2] K.ref33_Valid_l1b
/-- /ref33.Valid -/
def ref33_Valid : Fn := { nargs := 1, vars := [0, 1, 2, 3], body := (.seq (.reg [{ o := .bx (.v 0) 3, d := some 1 }, { o := .mv (.b false), d := some 2 }] []) (.seq (.ite [{ o := .fa (.v 1) 0 }, { o := .ld (.l 0) 1 false }, { o := .ln (.l 0) }, { o := .bin .lss (.l 0) (.i 1) }, { o := .mv (.l 0) }, { o := .fa (.v 1) 0, g := some (0, false) }, { o := .ld (.l 0) 1 false, g := some (1, false) }, { o := .ln (.l 0), g := some (2, false) }, { o := .bin .gtr (.l 0) (.i 12), g := some (3, false) }, { o := .pk (.l 4) (.b true) (.l 0) }, { o := .mv (.l 0) }, { o := .fa (.v 1) 0, g := some (0, false) }, { o := .ld (.l 0) 1 false, g := some (1, false) }, { o := .ca N.ref23_Set 0 [] [.l 0, .i 128], g := some (2, false) }, { o := .un .not (.l 0), g := some (3, false) }, { o := .pk (.l 4) (.b true) (.l 0) }, { o := .mv (.l 0) }, { o := .fa (.v 1) 1, g := some (0, false) }, { o := .ld (.l 0) 1 false, g := some (1, false) }, { o := .ln (.l 0), g := some (2, false) }, { o := .fa (.v 1) 0, g := some (3, false) }, { o := .ld (.l 0) 1 false, g := some (4, false) }, { o := .ln (.l 0), g := some (5, false) }, { o := .bin .neq (.l 3) (.l 0), g := some (6, false) }, { o := .pk (.l 7) (.b true) (.l 0) }] [] 0 (.seq (.reg [{ o := .mv (.b false), d := some 2 }] []) .ret) .skip) (.seq (.seq (.reg [{ o := .mv (.i 0), d := some 3 }] []) (.blk 0 K.ref33_Valid_l1)) (.seq (.reg [{ o := .mv (.b true), d := some 2 }] []) .ret)))), res := [(2, none)] }
def ref32_Clear_l3b : C := (.seq (.ite [{ o := .mv (.v 7) }, { o := .mv (.v 6) }, { o := .ln (.l 0) }, { o := .bin .lss (.l 2) (.l 0) }] [] 0 .skip (.exit 4)) (.seq (.blk 5 (.ite [{ o := .mv (.v 1) }, { o := .mv (.v 7) }, { o := .ca N.ref23_Has 0 [] [.l 1, .l 0] }, { o := .mv (.l 0) }, { o := .mv (.v 6), g := some (0, true) }, { o := .mv (.v 7), g := some (1, true) }, { o := .ia (.l 1) (.l 0) 1, g := some (2, true) }, { o := .ld (.l 0) 1 false, g := some (3, true) }, { o := .bin .neq (.l 0) (.i 1099511627776), g := some (4, true) }, { o := .pk (.l 5) (.l 0) (.b false) }] [] 0 (.seq (.reg [{ o := .mv (.b false), d := some 3 }] []) .ret) .skip)) (.reg [{ o := .mv (.v 7) }, { o := .bin .add (.l 0) (.i 1) }, { o := .mv (.l 0), d := some 7 }] [])))
def ref32_Clear_l3 : C := .loop true [0, 3] K.ref32_Clear_l3b
def ref32_Clear_l2b : C := (.seq (.ite [{ o := .mv (.v 5) }, { o := .fa (.v 2) 0 }, { o := .ld (.l 0) 1 false }, { o := .mv (.v 4) }, { o := .ia (.l 1) (.l 0) 2 }, { o := .fa (.l 0) 1 }, { o := .ld (.l 0) 1 false }, { o := .ln (.l 0) }, { o := .bin .lss (.l 7) (.l 0) }] [] 0 .skip (.exit 2)) (.seq (.blk 3 (.seq (.reg [{ o := .fa (.v 2) 0 }, { o := .ld (.l 0) 1 false }, { o := .mv (.v 4) }, { o := .ia (.l 1) (.l 0) 2 }, { o := .fa (.l 0) 1 }, { o := .ld (.l 0) 1 false }, { o := .mv (.v 5) }, { o := .ia (.l 1) (.l 0) 2 }, { o := .fa (.l 0) 1 }, { o := .ld (.l 0) 1 false }, { o := .mv (.l 0), d := some 6 }] []) (.seq (.reg [{ o := .mv (.i 0), d := some 7 }] []) (.blk 4 K.ref32_Clear_l3)))) (.reg [{ o := .mv (.v 5) }, { o := .bin .add (.l 0) (.i 1) }, { o := .mv (.l 0), d := some 5 }] [])))
def ref32_Clear_l2 : C := .loop true [0, 3, 6, 7] K.ref32_Clear_l2b
def ref32_Clear_l1b : C := (.seq (.ite [{ o := .mv (.v 4) }, { o := .fa (.v 2) 0 }, { o := .ld (.l 0) 1 false }, { o := .ln (.l 0) }, { o := .bin .lss (.l 3) (.l 0) }] [] 0 .skip (.exit 0)) (.seq (.blk 1 (.seq (.reg [{ o := .mv (.i 0), d := some 5 }] []) (.blk 2 K.ref32_Clear_l2))) (.reg [{ o := .mv (.v 4) }, { o := .bin .add (.l 0) (.i 1) }, { o := .mv (.l 0), d := some 4 }] [])))
def ref32_Clear_l1 : C := .loop true [0, 3, 5, 6, 7] K.ref32_Clear_l1b
/-- /ref32.Clear -/
def ref32_Clear : Fn := { nargs := 2, vars := [0, 1, 2, 4, 5, 6, 7, 8], body := (.seq (.reg [{ o := .bx (.v 0) 1, d := some 2 }, { o := .mv (.b false), d := some 3 }] []) (.seq (.seq (.reg [{ o := .mv (.i 0), d := some 4 }] []) (.blk 0 K.ref32_Clear_l1)) (.seq (.reg [{ o := .mv (.b true), d := some 3 }] []) .ret))), res := [(3, none)] }
/-- /ref31.Copy -/
def ref31_Copy : Fn := { nargs := 1, vars := [0, 1, 2], body := (.seq (.reg [{ o := .bx (.v 0) 2, d := some 1 }, { o := .al [.nil, .nil] [], d := some 2 }] []) (.seq (.reg [{ o := .fa (.v 1) 0 }, { o := .ld (.l 0) 1 false }, { o := .app (.c (.nil)) (.l 0) true 2 }, { o := .fa (.v 1) 1 }, { o := .ld (.l 0) 1 false }, { o := .app (.c (.nil)) (.l 0) true 10 }, { o := .bd [.nil, .nil] [(0, 1, .l 3), (1, 1, .l 0)] }, { o := .st (.v 2) (.l 0) 2 [] }] [(4, 0)]) .ret)), res := [(2, some (2, true))] }
/-- /keys.Valid.1 -/
def keys_Valid_1 : Fn := { nargs := 1, vars := [0, 2], body := (.seq (.reg [{ o := .mv (.b false), d := some 1 }] []) (.seq (.reg [{ o := .mv (.v 0) }, { o := .ca N.lists_In 0 [] [.l 0, .i 0, .i 2] }, { o := .un .not (.l 0) }, { o := .mv (.l 0), d := some 1 }] []) .ret)), res := [(1, none)] }
/-- /keys.roads -/
def keys_roads : Fn := { nargs := 1, vars := [0, 2], body := (.seq (.reg [{ o := .mv (.b false), d := some 1 }] []) (.seq (.reg [{ o := .mv (.v 0) }, { o := .ln (.l 0) }, { o := .ca N.lists_In 0 [] [.l 0, .i 1, .i 12] }, { o := .mv (.l 0) }, { o := .mv (.v 0), g := some (0, true) }, { o := .ca N.lists_Rising 0 [] [.l 0, .i 0, .i 127], g := some (1, true) }, { o := .pk (.l 2) (.l 0) (.b false) }, { o := .mv (.l 0), d := some 1 }] []) .ret)), res := [(1, none)] }
/-- /keys.boxed -/
def keys_boxed : Fn := { nargs := 1, vars := [0, 1, 2], body := (.seq (.reg [{ o := .bx (.v 0) 3, d := some 1 }, { o := .mv (.b false), d := some 2 }] []) (.seq (.reg [{ o := .fa (.v 1) 1 }, { o := .ld (.l 0) 1 false }, { o := .ca N.slices_ContainsFunc_int_int 0 [] [.l 0, .c (.fn N.keys_boxed_1 [])] }, { o := .un .not (.l 0) }, { o := .mv (.l 0), d := some 2 }] []) .ret)), res := [(2, none)] }
/-- /area.Clear.1 -/
def area_Clear_1 : Fn := { nargs := 2, vars := [0, 1, 3], body := (.seq (.reg [{ o := .mv (.b false), d := some 2 }] []) (.seq (.reg [{ o := .mv (.v 0) }, { o := .fa (.v 1) 1 }, { o := .ld (.l 0) 1 false }, { o := .ln (.l 0) }, { o := .bin .sub (.l 0) (.i 1) }, { o := .ca N.lists_In 0 [] [.l 4, .i 0, .l 0] }, { o := .mv (.l 0) }, { o := .fa (.v 1) 1, g := some (0, true) }, { o := .ld (.l 0) 1 false, g := some (1, true) }, { o := .mv (.v 0), g := some (2, true) }, { o := .ia (.l 1) (.l 0) 1, g := some (3, true) }, { o := .ld (.l 0) 1 false, g := some (4, true) }, { o := .bin .neq (.l 0) (.i 1099511627776), g := some (5, true) }, { o := .pk (.l 6) (.l 0) (.b false) }, { o := .mv (.l 0), d := some 2 }] []) .ret)), res := [(2, none)] }
/-- /keys.boxed.1 -/
def keys_boxed_1 : Fn := { nargs := 1, vars := [0, 2], body := (.seq (.reg [{ o := .mv (.b false), d := some 1 }] []) (.seq (.reg [{ o := .mv (.v 0) }, { o := .bin .neq (.l 0) (.i 2) }, { o := .mv (.l 0), d := some 1 }] []) .ret)), res := [(1, none)] }
def ref26_Copy_v1_l1b : C := (.seq (.ite [{ o := .mv (.v 4) }, { o := .fa (.v 1) 0 }, { o := .ld (.l 0) 1 false }, { o := .ln (.l 0) }, { o := .bin .lss (.l 3) (.l 0) }] [] 0 .skip (.exit 0)) (.seq (.blk 1 (.reg [{ o := .fa (.v 3) 0 }, { o := .ld (.l 0) 1 false }, { o := .fa (.v 1) 0 }, { o := .ld (.l 0) 1 false }, { o := .mv (.v 4) }, { o := .ia (.l 1) (.l 0) 2 }, { o := .ld (.l 0) 2 true }, { o := .ca N.ref26_CopyWorld 1 [] [.l 0] }, { o := .bsr [.l 0] 2 }, { o := .app (.l 7) (.l 0) false 2 }, { o := .fa (.v 3) 0 }, { o := .st (.l 0) (.l 1) 1 [] }] [(1, 8), (1, 9)])) (.reg [{ o := .mv (.v 4) }, { o := .bin .add (.l 0) (.i 1) }, { o := .mv (.l 0), d := some 4 }] [])))
def ref26_Copy_v1_l1 : C := .loop false [0] K.ref26_Copy_v1_l1b
/-- /ref26.Copy -/
def ref26_Copy_v1 : Fn := { nargs := 1, vars := [0, 1, 2, 3, 4], body := (.seq (.reg [{ o := .bx (.v 0) 1, d := some 1 }, { o := .al [.nil] [], d := some 2 }] []) (.seq (.reg [{ o := .al [.nil] [(0, 2)], d := some 3 }] []) (.seq (.seq (.reg [{ o := .mv (.i 0), d := some 4 }] []) (.blk 0 K.ref26_Copy_v1_l1)) (.seq (.reg [{ o := .ld (.v 3) 1 true }, { o := .st (.v 2) (.l 0) 1 [] }] []) .ret)))), res := [(2, some (1, true))] }
def ref26_Copy_v2_l1b : C := (.seq (.ite [{ o := .mv (.v 4) }, { o := .fa (.v 1) 0 }, { o := .ld (.l 0) 1 false }, { o := .ln (.l 0) }, { o := .bin .lss (.l 3) (.l 0) }] [] 0 .skip (.exit 0)) (.seq (.blk 1 (.reg [{ o := .fa (.v 3) 0 }, { o := .ld (.l 0) 1 false }, { o := .fa (.v 1) 0 }, { o := .ld (.l 0) 1 false }, { o := .mv (.v 4) }, { o := .ia (.l 1) (.l 0) 2 }, { o := .ld (.l 0) 2 true }, { o := .ca N.ref26_CopyWorld_v2 2 [] [.l 0] }, { o := .bsr [.l 0] 2 }, { o := .app (.l 7) (.l 0) false 2 }, { o := .fa (.v 3) 0 }, { o := .st (.l 0) (.l 1) 1 [] }] [(1, 8), (1, 9)])) (.reg [{ o := .mv (.v 4) }, { o := .bin .add (.l 0) (.i 1) }, { o := .mv (.l 0), d := some 4 }] [])))
def ref26_Copy_v2_l1 : C := .loop false [0] K.ref26_Copy_v2_l1b
/-- /ref26.Copy -/
def ref26_Copy_v2 : Fn := { nargs := 1, vars := [0, 1, 2, 3, 4], body := (.seq (.reg [{ o := .bx (.v 0) 1, d := some 1 }, { o := .al [.nil] [], d := some 2 }] []) (.seq (.reg [{ o := .al [.nil] [(0, 2)], d := some 3 }] []) (.seq (.seq (.reg [{ o := .mv (.i 0), d := some 4 }] []) (.blk 0 K.ref26_Copy_v2_l1)) (.seq (.reg [{ o := .ld (.v 3) 1 true }, { o := .st (.v 2) (.l 0) 1 [] }] []) .ret)))), res := [(2, some (1, true))] }
def ref26_CopyWorld_v2_l1b : C := (.seq (.ite [{ o := .mv (.v 4) }, { o := .fa (.v 1) 1 }, { o := .ld (.l 0) 1 false }, { o := .ln (.l 0) }, { o := .bin .lss (.l 3) (.l 0) }] [] 0 .skip (.exit 0)) (.seq (.blk 1 (.reg [{ o := .fa (.v 3) 1 }, { o := .ld (.l 0) 1 false }, { o := .fa (.v 1) 1 }, { o := .ld (.l 0) 1 false }, { o := .mv (.v 4) }, { o := .ia (.l 1) (.l 0) 2 }, { o := .ld (.l 0) 2 true }, { o := .ca N.ref25_Copy 1 [] [.l 0] }, { o := .bsr [.l 0] 2 }, { o := .app (.l 7) (.l 0) false 2 }, { o := .fa (.v 3) 1 }, { o := .st (.l 0) (.l 1) 1 [] }] [(1, 8), (1, 9)])) (.reg [{ o := .mv (.v 4) }, { o := .bin .add (.l 0) (.i 1) }, { o := .mv (.l 0), d := some 4 }] [])))
def ref26_CopyWorld_v2_l1 : C := .loop false [0] K.ref26_CopyWorld_v2_l1b
/-- /ref26.CopyWorld -/
def ref26_CopyWorld_v2 : Fn := { nargs := 1, vars := [0, 1, 2, 3, 4], body := (.seq (.reg [{ o := .bx (.v 0) 2, d := some 1 }, { o := .al [.nil, .nil] [], d := some 2 }] []) (.seq (.reg [{ o := .fa (.v 1) 0 }, { o := .ld (.l 0) 1 false }, { o := .app (.c (.nil)) (.l 0) false 1 }, { o := .bd [.nil, .nil] [(0, 1, .l 0)] }, { o := .al [.nil, .nil] [(1, 2)], d := some 3 }, { o := .st (.l 0) (.l 1) 2 [(1, 2)] }] []) (.seq (.seq (.reg [{ o := .mv (.i 0), d := some 4 }] []) (.blk 0 K.ref26_CopyWorld_v2_l1)) (.seq (.reg [{ o := .ld (.v 3) 2 true }, { o := .st (.v 2) (.l 0) 2 [] }] []) .ret)))), res := [(2, some (2, true))] }
end Go.Ev.K
namespace Go.Ev
class Has4 [Lib] : Prop where
  t_ref34_Valid : Lib.fs N.ref34_Valid = some K.ref34_Valid
  t_firing_Safe : Lib.fs N.firing_Safe = some K.firing_Safe
  t_ref34_Safe : Lib.fs N.ref34_Safe = some K.ref34_Safe
  t_ref34_Due : Lib.fs N.ref34_Due = some K.ref34_Due
  t_firing_request_check : Lib.fs N.firing_request_check = some K.firing_request_check
  t_firing_timely : Lib.fs N.firing_timely = some K.firing_timely
  t_lists_Rising : Lib.fs N.lists_Rising = some K.lists_Rising
  t_ref32_Barred : Lib.fs N.ref32_Barred = some K.ref32_Barred
  t_ref32_seal : Lib.fs N.ref32_seal = some K.ref32_seal
  t_ref34_step : Lib.fs N.ref34_step = some K.ref34_step
  t_ref34_blast : Lib.fs N.ref34_blast = some K.ref34_blast
  t_keys_Valid : Lib.fs N.keys_Valid = some K.keys_Valid
  t_area_Clear : Lib.fs N.area_Clear = some K.area_Clear
  t_ref33_Valid : Lib.fs N.ref33_Valid = some K.ref33_Valid
  t_ref32_Clear : Lib.fs N.ref32_Clear = some K.ref32_Clear
  t_ref31_Copy : Lib.fs N.ref31_Copy = some K.ref31_Copy
  t_keys_Valid_1 : Lib.fs N.keys_Valid_1 = some K.keys_Valid_1
  t_keys_roads : Lib.fs N.keys_roads = some K.keys_roads
  t_keys_boxed : Lib.fs N.keys_boxed = some K.keys_boxed
  t_area_Clear_1 : Lib.fs N.area_Clear_1 = some K.area_Clear_1
  t_keys_boxed_1 : Lib.fs N.keys_boxed_1 = some K.keys_boxed_1
  t_ref26_Copy_v1 : Lib.fs N.ref26_Copy_v1 = some K.ref26_Copy_v1
  t_ref26_Copy_v2 : Lib.fs N.ref26_Copy_v2 = some K.ref26_Copy_v2
  t_ref26_CopyWorld_v2 : Lib.fs N.ref26_CopyWorld_v2 = some K.ref26_CopyWorld_v2
namespace K
variable [Lib] [Has4]
theorem t_ref34_Valid : Lib.fs N.ref34_Valid = some K.ref34_Valid := Has4.t_ref34_Valid
theorem t_firing_Safe : Lib.fs N.firing_Safe = some K.firing_Safe := Has4.t_firing_Safe
theorem t_ref34_Safe : Lib.fs N.ref34_Safe = some K.ref34_Safe := Has4.t_ref34_Safe
theorem t_ref34_Due : Lib.fs N.ref34_Due = some K.ref34_Due := Has4.t_ref34_Due
theorem t_firing_request_check : Lib.fs N.firing_request_check = some K.firing_request_check := Has4.t_firing_request_check
theorem t_firing_timely : Lib.fs N.firing_timely = some K.firing_timely := Has4.t_firing_timely
theorem t_lists_Rising : Lib.fs N.lists_Rising = some K.lists_Rising := Has4.t_lists_Rising
theorem t_ref32_Barred : Lib.fs N.ref32_Barred = some K.ref32_Barred := Has4.t_ref32_Barred
theorem t_ref32_seal : Lib.fs N.ref32_seal = some K.ref32_seal := Has4.t_ref32_seal
theorem t_ref34_step : Lib.fs N.ref34_step = some K.ref34_step := Has4.t_ref34_step
theorem t_ref34_blast : Lib.fs N.ref34_blast = some K.ref34_blast := Has4.t_ref34_blast
theorem t_keys_Valid : Lib.fs N.keys_Valid = some K.keys_Valid := Has4.t_keys_Valid
theorem t_area_Clear : Lib.fs N.area_Clear = some K.area_Clear := Has4.t_area_Clear
theorem t_ref33_Valid : Lib.fs N.ref33_Valid = some K.ref33_Valid := Has4.t_ref33_Valid
theorem t_ref32_Clear : Lib.fs N.ref32_Clear = some K.ref32_Clear := Has4.t_ref32_Clear
theorem t_ref31_Copy : Lib.fs N.ref31_Copy = some K.ref31_Copy := Has4.t_ref31_Copy
theorem t_keys_Valid_1 : Lib.fs N.keys_Valid_1 = some K.keys_Valid_1 := Has4.t_keys_Valid_1
theorem t_keys_roads : Lib.fs N.keys_roads = some K.keys_roads := Has4.t_keys_roads
theorem t_keys_boxed : Lib.fs N.keys_boxed = some K.keys_boxed := Has4.t_keys_boxed
theorem t_area_Clear_1 : Lib.fs N.area_Clear_1 = some K.area_Clear_1 := Has4.t_area_Clear_1
theorem t_keys_boxed_1 : Lib.fs N.keys_boxed_1 = some K.keys_boxed_1 := Has4.t_keys_boxed_1
theorem t_ref26_Copy_v1 : Lib.fs N.ref26_Copy_v1 = some K.ref26_Copy_v1 := Has4.t_ref26_Copy_v1
theorem t_ref26_Copy_v2 : Lib.fs N.ref26_Copy_v2 = some K.ref26_Copy_v2 := Has4.t_ref26_Copy_v2
theorem t_ref26_CopyWorld_v2 : Lib.fs N.ref26_CopyWorld_v2 = some K.ref26_CopyWorld_v2 := Has4.t_ref26_CopyWorld_v2
end K
end Go.Ev

/- Shots: what the program and the reference say. -/
namespace Go.Ev
open Go
variable [Lib] [Has1] [Has2] [Has3] [Has4]

def risP (l : List Int) (lo hi : Int) (j : Nat) : Bool := !decide (lo ≤ nth l j ∧ nth l j ≤ hi ∧ (0 < j → nth l (j - 1) < nth l j))
def risB (l : List Int) (lo hi : Int) : Bool := !((List.range l.length).any (risP l lo hi))
theorem rising_ok (l : List Int) (lo hi : Int) (hl : l.length ≤ 4294967296) : CALL 0 N.lists_Rising [.t (tL l), I lo, I hi] [] = some (B (risB l lo hi), []) := by
  refine CALL_of K.t_lists_Rising rfl ?_
  have loop : ∀ a b c : D, exS CALL K.lists_Rising_l1 ⟨[.t (tL l), I lo, I hi, a, b, c, .t (tL l), I l.length, I 0], []⟩ =
      some (if (List.range l.length).any (risP l lo hi) = true
        then (.ret, ⟨[.t (tL l), I lo, I hi, B false, I (firstN l.length (risP l lo hi)), I (nth l (firstN l.length (risP l lo hi))), .t (tL l), I l.length, I (firstN l.length (risP l lo hi))], []⟩)
        else (.exit 0, ⟨[.t (tL l), I lo, I hi, .und, .und, .und, .t (tL l), I l.length, I l.length], []⟩)) := by
    intro a b c
    refine loop_srch (fun j => ⟨[.t (tL l), I lo, I hi, .und, .und, .und, .t (tL l), I l.length, I j], []⟩) l.length (risP l lo hi) (fun j => (.ret, ⟨[.t (tL l), I lo, I hi, B false, I j, I (nth l j), .t (tL l), I l.length, I j], []⟩)) _ rfl ?_ ?_ ?_ (by simp)
    · intro j hj hp
      simp only [risP, Bool.not_eq_false', decide_eq_true_eq] at hp
      obtain ⟨h1, h2, h3⟩ := hp
      cases j with
      | zero => simp (disch := omega) only [go_sem, K.lists_Rising_l1b, ↓reduceIte]
      | succ j =>
        have h3 := h3 (by omega)
        rw [Nat.add_sub_cancel] at h3
        simp (disch := omega) only [go_sem, K.lists_Rising_l1b, ↓reduceIte]
    · intro j hj hp
      simp only [risP, Bool.not_eq_true', decide_eq_false_iff_not] at hp
      refine ⟨?_, by simp⟩
      by_cases h1 : lo ≤ nth l j
      · by_cases h2 : nth l j ≤ hi
        · cases j with
          | zero => exact absurd ⟨h1, h2, fun h => absurd h (by omega)⟩ hp
          | succ j =>
            have h3 : ¬ nth l j < nth l (j + 1) := fun h => hp ⟨h1, h2, fun _ => by simpa using h⟩
            simp (disch := omega) only [go_sem, K.lists_Rising_l1b, ↓reduceIte]
        · simp (disch := omega) only [go_sem, K.lists_Rising_l1b, ↓reduceIte]
      · simp (disch := omega) only [go_sem, K.lists_Rising_l1b, ↓reduceIte]
    · simp (disch := omega) only [go_sem, K.lists_Rising_l1b, ↓reduceIte]
  unfold risB
  simp (disch := omega) only [go_sem, K.lists_Rising, ↓reduceIte, loop]
  cases hf : (List.range l.length).any (risP l lo hi) with
  | true => simp (disch := omega) only [go_sem, ↓reduceIte]
  | false => simp (disch := omega) only [go_sem, ↓reduceIte, Bool.false_eq_true]
theorem ris_set (l : List Int) (n : Int) : risB l 0 (n - 1) = setB l n := by
  unfold risB setB
  rw [all_rng]
  refine congrArg (!·) (congrArg _ (funext fun j => ?_))
  unfold risP
  refine congrArg (!·) (decide_eq_decide.2 ⟨fun h => ⟨h.1, by omega, h.2.2⟩, fun h => ⟨h.1, by omega, h.2.2⟩⟩)

structure Shot where
  st : Int
  fi : Int
  se : Int
  ti : Int
abbrev Shot.e (s : Shot) : T := .agg [tI s.st, tI s.fi, tI s.se, tI s.ti]
structure Blast where
  area : List Int
  hold : Int
  mis : Int
abbrev Blast.e (x : Blast) : T := .agg [tL x.area, tI x.hold, tI x.mis]
structure Keys where
  roads : List Int
  keys : List Int
  out : Bool
abbrev Keys.e (k : Keys) : T := .agg [tL k.roads, tL k.keys, .bool k.out]

/- keys -/
def boxedF (l : List Int) : Bool := !l.any fun x => !decide (x = 2)
def kroadsF (l : List Int) : Bool := decide (1 ≤ (l.length : Int) ∧ (l.length : Int) ≤ 12) && risB l 0 127
def keysF (k : Keys) : Bool := kroadsF k.roads && decide (k.keys.length = k.roads.length) && !(k.keys.any fun x => !decide (0 ≤ x ∧ x ≤ 2)) && (!k.out || boxedF k.keys)
/- shots -/
def stateF (s : Shot) : Bool := if s.st = 0 then decide (s.fi = 0 ∧ s.se = 0 ∧ s.ti = 0) else if s.st = 1 then decide (0 < s.fi ∧ s.se = 0)
  else if s.st = 2 ∨ s.st = 3 ∨ s.st = 4 then decide (0 < s.fi ∧ 0 < s.se ∧ s.fi ≠ s.se) else false
def shotF (x : Blast) (s : Shot) : Bool := !decide (x.area.length = 0) && risB x.area 0 63 && decide (1 ≤ x.hold ∧ x.hold ≤ 100000) && decide (1 ≤ x.mis ∧ x.mis ≤ 100000) && decide (0 ≤ s.ti ∧ s.ti ≤ 2147483648) && stateF s

end Go.Ev

/- The program: starts and changes of smoke, and where it is. -/
namespace Go.Ev
open Go
variable [Lib] [Has1] [Has2] [Has3] [Has4] [Has6] [Has7]

def stN (l : List Int) (t : Int) (n : Nat) : Nat → List Int
  | 0 => List.replicate n 1099511627776
  | j + 1 => (stN l t n j).set (nth l j).toNat t
theorem stN_len (l : List Int) (t : Int) (n : Nat) : ∀ j, (stN l t n j).length = n
  | 0 => List.length_replicate
  | j + 1 => by simp only [stN, List.length_set, stN_len l t n j]
theorem repl_tt (n : Nat) (v : Int) : List.replicate n (I v) = ((List.replicate n v).map (T.int .i64)).map D.t := by simp
theorem stN_nth (l : List Int) (t : Int) (n : Nat) (hl : ∀ x ∈ l, 0 ≤ x ∧ x < n) : ∀ j, j ≤ l.length → ∀ i, i < n → nth (stN l t n j) i = if (i : Int) ∈ l.take j then t else 1099511627776
  | 0, _, i, hi => by
    rw [stN, List.take_zero, if_neg (by simp)]
    exact nth_eq (by simp [hi])
  | j + 1, hj, i, hi => by
    have ih := stN_nth l t n hl j (by omega) i hi
    have b := hl _ (nth_mem (l := l) (j := j) (by omega))
    rw [stN, set_nth2 _ _ (by rw [stN_len]; omega), ih, take_nth (by omega)]
    by_cases e : i = (nth l j).toNat
    · rw [if_pos e, if_pos (by simp; right; omega)]
    · rw [if_neg e]
      by_cases m : (i : Int) ∈ l.take j
      · rw [if_pos m, if_pos (by simp [m])]
      · rw [if_neg m, if_neg (by simp [m]; omega)]
theorem stN_init {l : List Int} (t : Int) {n : Nat} (hl : ∀ x ∈ l, 0 ≤ x ∧ x < n) : stN l t n l.length = initS l t n := by
  apply ext_nth2 (by rw [stN_len, initS_len])
  intro j hj
  rw [stN_len] at hj
  rw [stN_nth l t n hl _ (Nat.le_refl _) j hj, List.take_length]
  exact (nth_eq (by simp [initS, hj])).symm
theorem setB_mem {l : List Int} {n : Int} (h : setB l n = true) : ∀ x ∈ l, 0 ≤ x ∧ x < n := by
  intro x hx
  simp only [setB, List.all_eq_true, List.mem_range, decide_eq_true_eq] at h
  obtain ⟨j, hj⟩ := List.mem_iff_getElem?.1 hx
  have := h j (List.getElem?_eq_some_iff.1 hj).1
  rw [nth_eq hj] at this
  exact ⟨this.1, this.2.1⟩
theorem initS_tm (l : List Int) {t : Int} (ht : inT t) (n : Nat) : tmOk (initS l t n) := by
  intro x hx
  simp only [initS, List.mem_map] at hx
  obtain ⟨p, -, rfl⟩ := hx
  unfold inT at ht
  simp only [smMax]
  split <;> omega

theorem smokeStart_ok {m : Mine} (h : m.ok) (h1 : 1 ≤ m.places.length) (fl : List Spn) (hfl : fl.length ≤ 1000000) (l : List Int) (hl : l.length ≤ 1000000) (t : Int) :
    CALL 0 N.smoke_Start [.t m.e, .t (tS fl), .t (tL l), I t] [] = some (.tup [.t (startS m fl l t).1.e, I (startS m fl l t).2], []) := by
  refine CALL_of K.t_smoke_Start rfl ?_
  have np := h.np
  have nr := h.nr
  have f := given_ok h fl hfl
  have s := rising_ok l 0 (m.places.length - 1) (by omega)
  rw [ris_set] at s
  have ii := in_ok t 0 2147483648
  unfold startS
  cases hf : flowsB m fl with
  | false =>
    rw [hf] at f
    obtain ⟨places, roads⟩ := m
    simp only at *
    simp (disch := omega) only [go_sem, K.smoke_Start, ↓reduceIte, f, Nat.reduceAdd, Nat.reduceSub]
    rfl
  | true =>
    rw [hf] at f
    cases hs : setB l m.places.length with
    | false =>
      rw [hs] at s
      obtain ⟨places, roads⟩ := m
      simp only at *
      simp (disch := omega) only [go_sem, K.smoke_Start, ↓reduceIte, f, s, Bool.true_eq_false, Nat.reduceAdd, Nat.reduceSub]
      rfl
    | true =>
      rw [hs] at s
      by_cases ht : 0 ≤ t ∧ t ≤ 2147483648
      · have hin : inT t := ht
        simp only [ht, and_self, decide_true] at ii
        have mem := setB_mem hs
        have rp := repeat_ok 1099511627776 m.places.length h1 (by omega)
        simp only [tL, List.map_cons, List.map_nil] at rp
        have sl := stN_len l t m.places.length
        have se := stN_init t mem
        have l1 : ∀ z0 z2 z6 z8 : D, exS CALL K.smoke_Start_l1 ⟨[z0, .t (tS fl), z2, I t, .bp 0 0, .bp 1 0, z6, .ref 2 0 m.places.length, z8, .t (tL l), I l.length, I 0], [.box (mineCells m), .box [I 0, .nil], .arr 1 false 0 (((stN l t m.places.length 0).map (T.int .i64)).map .t)]⟩ =
            some (.exit 1, ⟨[.und, .t (tS fl), .und, I t, .bp 0 0, .bp 1 0, .und, .ref 2 0 m.places.length, .und, .t (tL l), I l.length, I l.length], [.box (mineCells m), .box [I 0, .nil], .arr 1 false 0 (((stN l t m.places.length l.length).map (T.int .i64)).map .t)]⟩) := by
          intro z0 z2 z6 z8
          refine loop_up (fun j => ⟨[.und, .t (tS fl), .und, I t, .bp 0 0, .bp 1 0, .und, .ref 2 0 m.places.length, .und, .t (tL l), I l.length, I j], [.box (mineCells m), .box [I 0, .nil], .arr 1 false 0 (((stN l t m.places.length j).map (T.int .i64)).map .t)]⟩) l.length rfl ?_ ?_ (by simp)
          · intro j hj
            have lj := sl j
            have b := mem _ (nth_mem hj)
            simp (disch := omega) only [go_sem, K.smoke_Start_l1b, ↓reduceIte, stN, Nat.reduceAdd, Nat.reduceSub]
          · simp (disch := omega) only [go_sem, K.smoke_Start_l1b, ↓reduceIte, Nat.reduceAdd, Nat.reduceSub]
        rw [se] at l1
        have sp := (sSpread_ok h fl hf (initS l t m.places.length) (initS_len ..) (initS_bnd l hin _)).1
        have eq := spF_closeS h (fl := fl) (initS_len l t m.places.length) (initS_tm l hin m.places.length)
        have ln := initS_len l t m.places.length
        have lc := closeS_len2 h (fl := fl) ln (initS_bnd l hin _)
        rw [eq, ln] at sp
        simp only [stN] at l1
        generalize closeS m fl (initS l t m.places.length) = cs at *
        generalize initS l t m.places.length = is at *
        clear sl se eq mem
        obtain ⟨places, roads⟩ := m
        simp only [mineCells, smArg] at *
        simp (disch := omega) only [go_sem, K.smoke_Start, ↓reduceIte, f, s, ii, rp, repl_tt, l1, sp, hin, lc, ln, Bool.true_eq_false, not_true_eq_false, Nat.reduceAdd, Nat.reduceSub]
      · have hin : ¬ inT t := ht
        simp only [ht, decide_false] at ii
        obtain ⟨places, roads⟩ := m
        simp only at *
        simp (disch := omega) only [go_sem, K.smoke_Start, ↓reduceIte, f, s, ii, hin, Bool.true_eq_false, not_false_eq_true, Nat.reduceAdd, Nat.reduceSub]
        rfl
end Go.Ev

/- The program: changes of smoke. -/
namespace Go.Ev
open Go
variable [Lib] [Has1] [Has2] [Has3] [Has4] [Has6] [Has7]

theorem sValid1_ok (x t : Int) (fr : T) : CALL 0 N.smoke_Valid_1 [I x, .bp 0 0] [.box [I t, .t fr]] = some (B (!decide (plS t x)), [.box [I t, .t fr]]) := by
  refine CALL_of K.t_smoke_Valid_1 rfl ?_
  have i := in_ok x t 2147483648
  unfold plS
  by_cases c : x = 1099511627776
  · subst c
    simp (disch := omega) only [go_sem, K.smoke_Valid_1, ↓reduceIte, Nat.reduceAdd, Nat.reduceSub]
  · by_cases c2 : t ≤ x ∧ x ≤ 2147483648
    · simp only [c2, and_self, decide_true] at i
      simp (disch := omega) only [go_sem, K.smoke_Valid_1, ↓reduceIte, i, c, c2, false_or, and_self, decide_true, Nat.reduceAdd, Nat.reduceSub]
    · simp only [c2, decide_false] at i
      simp (disch := omega) only [go_sem, K.smoke_Valid_1, ↓reduceIte, i, c, c2, false_or, decide_false, Nat.reduceAdd, Nat.reduceSub]
theorem sValid_ok {m : Mine} (h : m.ok) (s : Wh) (hl : s.frm.length ≤ 1000000) : CALL 0 N.smoke_Valid [.t m.e, .t s.e] [] = some (B (validS m s), []) := by
  refine CALL_of K.t_smoke_Valid rfl ?_
  have v := planValid_ok h
  have np := h.np
  have i := in_ok s.time 0 2147483648
  have cf := containsFunc_ok s.frm (by omega) N.smoke_Valid_1 [[tI s.time, tL s.frm]] (fun x => !decide (plS s.time x)) (fun x _ => sValid1_ok x s.time (tL s.frm))
  have e : validS m s = (!(s.frm.any fun x => !decide (plS s.time x)) && decide (s.frm.length = m.places.length ∧ inT s.time)) := by
    unfold validS
    rw [all_rng, any_rng s.frm (fun x => !decide (plS s.time x))]
  rw [e]
  generalize (s.frm.any fun x => !decide (plS s.time x)) = r at *
  obtain ⟨places, roads⟩ := m
  obtain ⟨time, frm⟩ := s
  simp only at *
  unfold inT
  clear e
  have cf : CALL 0 N.slices_ContainsFunc_int_int [.t (tL frm), .fn N.smoke_Valid_1 [.bp 0 0]] [.box [I time, .t (tL frm)]] = some (B r, [.box [I time, .t (tL frm)]]) := cf
  by_cases c1 : frm.length = places.length
  · by_cases c2 : 0 ≤ time ∧ time ≤ 2147483648
    · simp only [c2, and_self, decide_true] at i
      cases r <;> simp (disch := omega) only [go_sem, K.smoke_Valid, ↓reduceIte, v, i, cf, c1, c2, and_self, decide_true, Nat.reduceAdd, Nat.reduceSub]
    · simp only [c2, decide_false] at i
      cases r <;> simp (disch := omega) only [go_sem, K.smoke_Valid, ↓reduceIte, v, i, cf, c1, c2, and_false, decide_false, Nat.reduceAdd, Nat.reduceSub]
  · cases r <;> simp (disch := omega) only [go_sem, K.smoke_Valid, ↓reduceIte, v, c1, false_and, decide_false, Nat.reduceAdd, Nat.reduceSub]

def mxL (t : Int) (l : List Int) : List Int := l.map fun x => max x t
def mxJ (t : Int) (l : List Int) : Nat → List Int
  | 0 => List.replicate l.length 0
  | j + 1 => (mxJ t l j).set j (max (nth l j) t)
theorem mxJ_len (t : Int) (l : List Int) : ∀ j, (mxJ t l j).length = l.length
  | 0 => List.length_replicate
  | j + 1 => by simp only [mxJ, List.length_set, mxJ_len t l j]
theorem mxL_nth (t : Int) {l : List Int} {i : Nat} (hi : i < l.length) : nth (mxL t l) i = max (nth l i) t := nth_eq (by rw [mxL, map_nth _ hi])
theorem mxJ_nth (t : Int) (l : List Int) : ∀ j, j ≤ l.length → ∀ i, i < j → nth (mxJ t l j) i = max (nth l i) t
  | 0, _, i, hi => by omega
  | j + 1, hj, i, hi => by
    rw [mxJ, set_nth2 _ _ (by rw [mxJ_len]; omega)]
    by_cases e : i = j
    · rw [if_pos e, e]
    · rw [if_neg e, mxJ_nth t l j (by omega) i (by omega)]
theorem mxJ_all (t : Int) (l : List Int) : mxJ t l l.length = mxL t l := by
  apply ext_nth2 (by rw [mxJ_len]; simp [mxL])
  intro j hj
  rw [mxJ_len] at hj
  rw [mxJ_nth t l _ (Nat.le_refl _) j hj, mxL_nth t hj]
theorem maxN_nth (t : Int) (l : List Int) : ∀ j, j ≤ l.length → ∀ i, nth (maxN t l j) i = if i < j then max (nth l i) t else nth l i
  | 0, _, i => by rw [maxN, if_neg (by omega)]
  | j + 1, hj, i => by
    have ih := maxN_nth t l j (by omega)
    rw [maxN, set_nth2 _ _ (by rw [maxN_len]; omega), ih j, if_neg (by omega : ¬ j < j), ih i]
    by_cases e : i = j
    · rw [if_pos e, if_pos (by omega), e]
    · rw [if_neg e]
      by_cases c : i < j
      · rw [if_pos c, if_pos (by omega)]
      · rw [if_neg c, if_neg (by omega)]
theorem maxN_all (t : Int) (l : List Int) : maxN t l l.length = mxL t l := by
  apply ext_nth2 (by rw [maxN_len]; simp [mxL])
  intro j hj
  rw [maxN_len] at hj
  rw [maxN_nth t l _ (Nat.le_refl _), if_pos hj, mxL_nth t hj]

def cgHalf (m : Mine) (fl : List Spn) (frm : List Int) (t : Int) (k : Nat) (back : Bool) (l : List Int) : List Int :=
  if nth frm ((nth m.roads k).src back).toNat ≤ t ∧ 0 ≤ travelF (nth m.roads k) (nth fl k) back then l.set ((nth m.roads k).dst back).toNat t else l
def cgN (m : Mine) (fl : List Spn) (frm : List Int) (t : Int) : Nat → List Int
  | 0 => mxL t frm
  | k + 1 => cgHalf m fl frm t k true (cgHalf m fl frm t k false (cgN m fl frm t k))
theorem cgHalf_len (m : Mine) (fl : List Spn) (frm : List Int) (t : Int) (k : Nat) (back : Bool) (l : List Int) : (cgHalf m fl frm t k back l).length = l.length := by
  unfold cgHalf; split <;> simp
theorem cgN_len (m : Mine) (fl : List Spn) (frm : List Int) (t : Int) : ∀ k, (cgN m fl frm t k).length = frm.length
  | 0 => by simp [cgN, mxL]
  | k + 1 => by simp only [cgN, cgHalf_len, cgN_len m fl frm t k]
theorem cgHalf_mx (m : Mine) (fl : List Spn) (frm : List Int) (t : Int) (k : Nat) (back : Bool) (l : List Int) : cgHalf m fl frm t k back (mxL t l) = mxL t (chHalf m fl frm t k back l) := by
  unfold cgHalf chHalf
  split
  · unfold mxL; rw [List.map_set]; congr 1; omega
  · rfl
theorem cgN_chN (m : Mine) (fl : List Spn) (frm : List Int) (t : Int) : ∀ k, cgN m fl frm t k = mxL t (chN m fl frm t k)
  | 0 => rfl
  | k + 1 => by simp only [cgN, chN, chStep, cgN_chN m fl frm t k, cgHalf_mx]

/-- One road of a change. -/
theorem cg_step {m : Mine} (h : m.ok) (old : List Spn) (fl1 : old.length = m.roads.length) (fl2 : ∀ j, j < old.length → (nth old j).ok) (time t : Int) (ht : inT t) (frm l : List Int) (hl0 : frm.length = m.places.length) (hl : l.length = m.places.length)
    (k : Nat) (hk : k < m.roads.length) (H3 : List D) (r : D) (hr : Go.Ev.old 5 8 r = true) (h3 : allOld 5 8 H3 = true) :
    roundC true [0, 2, 4, 10, 12, 13, 14, 15, 16, 17, 18] 5 (exS CALL K.smoke_Change_l2b ⟨[.und, .t (tS old), .und, r, .und, I t, .bp 0 0, .bp 1 0, .bp 2 0, .bp 3 0, .und, .ref 4 0 l.length, .und, .und, .und, .und, .und, .und, .und, .t (.sl (m.roads.map Road.e)), I m.roads.length, I k], [.box (mineCells m), .box H3, .box [I time, .t (tL frm)], .box [I 0, .nil], .arr 1 false 0 ((l.map (T.int .i64)).map .t)]⟩) =
      some ⟨[.und, .t (tS old), .und, r, .und, I t, .bp 0 0, .bp 1 0, .bp 2 0, .bp 3 0, .und, .ref 4 0 l.length, .und, .und, .und, .und, .und, .und, .und, .t (.sl (m.roads.map Road.e)), I m.roads.length, I (k + 1)], [.box (mineCells m), .box H3, .box [I time, .t (tL frm)], .box [I 0, .nil], .arr 1 false 0 (((cgHalf m old frm t k true (cgHalf m old frm t k false l)).map (T.int .i64)).map .t)]⟩ := by
  have np := h.np
  have nr := h.nr
  have t1 := sTravel_ok h k hk (nth old k) (fl2 k (by omega)) false
  have t2 := sTravel_ok h k hk (nth old k) (fl2 k (by omega)) true
  have r1 := Road.src_ok (h.rs _ (nth_mem hk)) false
  have r2 := Road.dst_ok (h.rs _ (nth_mem hk)) false
  have g : (m.roads.map Road.e)[k]? = some (nth m.roads k).e := map_nth _ hk
  simp only [Road.src, Road.dst, Bool.false_eq_true, ↓reduceIte] at r1 r2
  obtain ⟨f0, f1⟩ := r1
  obtain ⟨t0, t1'⟩ := r2
  unfold inT at ht
  simp only [cgHalf, Road.src, Road.dst, Bool.false_eq_true, ↓reduceIte]
  generalize hw1 : travelF (nth m.roads k) (nth old k) false = v1 at *
  generalize hw2 : travelF (nth m.roads k) (nth old k) true = v2 at *
  generalize hx : nth m.roads k = x at *
  obtain ⟨a, b, len, area, walk, closed, rl, rh, ll, lh⟩ := x
  simp only at f0 f1 t0 t1' ⊢
  clear hw1 hw2 fl2 hx
  obtain ⟨places, roads⟩ := m
  simp only [mineCells] at *
  have ln : (l.set b.toNat t).length = l.length := List.length_set ..
  by_cases c1 : nth frm a.toNat ≤ t <;> by_cases c2 : 0 ≤ v1 <;> by_cases c3 : nth frm b.toNat ≤ t <;> by_cases c4 : 0 ≤ v2 <;>
    simp (disch := omega) only [go_sem, K.smoke_Change_l2b, ↓reduceIte, g, t1, t2, c1, c2, c3, c4, and_self, and_false, false_and, hr, h3, Nat.reduceAdd, Nat.reduceSub]
end Go.Ev

/- The program: changes of smoke, and where it is. -/
namespace Go.Ev
open Go
variable [Lib] [Has1] [Has2] [Has3] [Has4] [Has6] [Has7]

theorem mxL_tm {t : Int} (ht : inT t) {l : List Int} (h : bnd l) (h2 : ∀ x ∈ l, x ≤ smMax ∨ x = 1099511627776) : tmOk (mxL t l) := by
  intro x hx
  simp only [mxL, List.mem_map] at hx
  obtain ⟨y, hy, rfl⟩ := hx
  have := h y hy
  have := h2 y hy
  unfold inT at ht
  simp only [smMax] at *
  omega
theorem chHalf_mem {m : Mine} {fl : List Spn} {frm : List Int} {t : Int} {k : Nat} {back : Bool} {l : List Int} (hi : ((nth m.roads k).dst back).toNat < l.length) (P : Int → Prop) (hp : ∀ x ∈ l, P x) (ht : P t) : ∀ x ∈ chHalf m fl frm t k back l, P x := by
  unfold chHalf
  split
  · intro x hx
    rcases List.mem_or_eq_of_mem_set hx with h | h
    · exact hp x h
    · subst h
      have := hp _ (nth_mem hi)
      rcases Int.le_total (nth l ((nth m.roads k).dst back).toNat) t with c | c
      · rw [Int.min_eq_left c]; exact this
      · rw [Int.min_eq_right c]; exact ht
  · exact hp
theorem chN_mem {m : Mine} (h : m.ok) {fl : List Spn} {frm : List Int} {t : Int} (hl : frm.length = m.places.length) (P : Int → Prop) (hp : ∀ x ∈ frm, P x) (ht : P t) : ∀ k, k ≤ m.roads.length → ∀ x ∈ chN m fl frm t k, P x
  | 0, _ => hp
  | k + 1, hk => by
    have r1 := Road.dst_ok (h.rs _ (nth_mem (l := m.roads) (j := k) (by omega))) false
    have r2 := Road.dst_ok (h.rs _ (nth_mem (l := m.roads) (j := k) (by omega))) true
    have ih := chN_mem h (fl := fl) hl P hp ht k (by omega)
    simp only [chN, chStep]
    exact chHalf_mem (by rw [chHalf_len, chN_len]; omega) P (chHalf_mem (by rw [chN_len]; omega) P ih ht) ht

theorem smokeChange_ok {m : Mine} (h : m.ok) (old : List Spn) (ho : old.length ≤ 1000000) {next : Mine} (hn : next.ok) (fl : List Spn) (hfl : fl.length ≤ 1000000) (s : Wh) (hs : s.frm.length ≤ 1000000) (t : Int) :
    CALL 0 N.smoke_Change [.t m.e, .t (tS old), .t next.e, .t (tS fl), .t s.e, I t] [] = some (.tup [.t (changeS m old next fl s t).1.e, I (changeS m old next fl s t).2], []) := by
  refine CALL_of K.t_smoke_Change rfl ?_
  have v := sValid_ok h s hs
  have nr := h.nr
  have nr2 := hn.nr
  have np := h.np
  have np2 := hn.np
  have f1 := given_ok h old ho
  have f2 := given_ok hn fl hfl
  unfold changeS
  by_cases hc : validS m s = false ∨ flowsB m old = false ∨ flowsB next fl = false ∨ next.places.length ≠ m.places.length
  · rw [if_pos hc]
    obtain ⟨places, roads⟩ := m
    obtain ⟨places2, roads2⟩ := next
    obtain ⟨time, frm⟩ := s
    simp only at *
    cases hv : validS ⟨places, roads⟩ ⟨time, frm⟩ <;> rw [hv] at v hc <;>
    cases h1 : flowsB ⟨places, roads⟩ old <;> rw [h1] at f1 hc <;>
    cases h2 : flowsB ⟨places2, roads2⟩ fl <;> rw [h2] at f2 hc <;>
    by_cases h3 : places2.length = places.length <;> simp only [h3, Bool.true_eq_false, false_or, ne_eq, not_true_eq_false] at hc <;>
    simp (disch := omega) only [go_sem, K.smoke_Change, ↓reduceIte, v, f1, f2, h3, Nat.reduceAdd, Nat.reduceSub]
  · rw [if_neg hc]
    simp only [not_or, Bool.not_eq_false, ne_eq, Classical.not_not] at hc
    obtain ⟨hv, h1, h2, h3⟩ := hc
    rw [hv] at v
    rw [h1] at f1
    rw [h2] at f2
    obtain ⟨s1, s2, s3⟩ := validS_spec hv
    obtain ⟨o1, o2⟩ := flowsB_spec h1
    by_cases c1 : t < s.time
    · rw [if_pos (.inl c1)]
      obtain ⟨places, roads⟩ := m
      obtain ⟨places2, roads2⟩ := next
      obtain ⟨time, frm⟩ := s
      simp only at *
      simp (disch := omega) only [go_sem, K.smoke_Change, ↓reduceIte, v, f1, f2, h3, c1, Nat.reduceAdd, Nat.reduceSub]
    · by_cases c2 : 2147483648 < t
      · rw [if_pos (.inr c2)]
        obtain ⟨places, roads⟩ := m
        obtain ⟨places2, roads2⟩ := next
        obtain ⟨time, frm⟩ := s
        simp only at *
        simp (disch := omega) only [go_sem, K.smoke_Change, ↓reduceIte, v, f1, f2, h3, c1, c2, Nat.reduceAdd, Nat.reduceSub]
      · rw [if_neg (by omega)]
        have ht : inT t := by unfold inT at s2 ⊢; omega
        obtain ⟨time, frm⟩ := s
        simp only at s1 s2 s3 v c1 hs ⊢
        have hb : bnd frm := fun x hx => by
          have := s3 x hx
          unfold plS at this; unfold inT at s2; omega
        have jl := mxJ_len t frm
        have ja := mxJ_all t frm
        have l1 : ∀ z0 z2 z4 z10 z12 z13 z14 z15 z19 z20 z21 : D, exS CALL K.smoke_Change_l1 ⟨[z0, .t (tS old), z2, .t (tS fl), z4, I t, .bp 0 0, .bp 1 0, .bp 2 0, .bp 3 0, z10, .ref 4 0 frm.length, z12, z13, z14, z15, .t (tL frm), I frm.length, I 0, z19, z20, z21], [.box (mineCells m), .box (mineCells next), .box [I time, .t (tL frm)], .box [I 0, .nil], .arr 1 false 0 (((mxJ t frm 0).map (T.int .i64)).map .t)]⟩ =
            some (.exit 0, ⟨[.und, .t (tS old), .und, .t (tS fl), .und, I t, .bp 0 0, .bp 1 0, .bp 2 0, .bp 3 0, .und, .ref 4 0 frm.length, .und, .und, .und, .und, .t (tL frm), I frm.length, I frm.length, .und, .und, .und], [.box (mineCells m), .box (mineCells next), .box [I time, .t (tL frm)], .box [I 0, .nil], .arr 1 false 0 (((mxJ t frm frm.length).map (T.int .i64)).map .t)]⟩) := by
          intro z0 z2 z4 z10 z12 z13 z14 z15 z19 z20 z21
          refine loop_up (fun j => ⟨[.und, .t (tS old), .und, .t (tS fl), .und, I t, .bp 0 0, .bp 1 0, .bp 2 0, .bp 3 0, .und, .ref 4 0 frm.length, .und, .und, .und, .und, .t (tL frm), I frm.length, I j, .und, .und, .und], [.box (mineCells m), .box (mineCells next), .box [I time, .t (tL frm)], .box [I 0, .nil], .arr 1 false 0 (((mxJ t frm j).map (T.int .i64)).map .t)]⟩) frm.length rfl ?_ ?_ (by simp)
          · intro j hj
            have lj := jl j
            simp (disch := omega) only [go_sem, K.smoke_Change_l1b, ↓reduceIte, mxJ, Nat.reduceAdd, Nat.reduceSub]
          · simp (disch := omega) only [go_sem, K.smoke_Change_l1b, ↓reduceIte, Nat.reduceAdd, Nat.reduceSub]
        rw [ja] at l1
        simp only [mxJ] at l1
        have cl := cgN_len m old frm t
        have l2 : ∀ z0 z2 z4 z10 z12 z13 z14 z15 z16 z17 z18 : D, exS CALL K.smoke_Change_l2 ⟨[z0, .t (tS old), z2, .t (tS fl), z4, I t, .bp 0 0, .bp 1 0, .bp 2 0, .bp 3 0, z10, .ref 4 0 frm.length, z12, z13, z14, z15, z16, z17, z18, .t (.sl (m.roads.map Road.e)), I m.roads.length, I 0], [.box (mineCells m), .box (mineCells next), .box [I time, .t (tL frm)], .box [I 0, .nil], .arr 1 false 0 (((cgN m old frm t 0).map (T.int .i64)).map .t)]⟩ =
            some (.exit 2, ⟨[.und, .t (tS old), .und, .t (tS fl), .und, I t, .bp 0 0, .bp 1 0, .bp 2 0, .bp 3 0, .und, .ref 4 0 frm.length, .und, .und, .und, .und, .und, .und, .und, .t (.sl (m.roads.map Road.e)), I m.roads.length, I m.roads.length], [.box (mineCells m), .box (mineCells next), .box [I time, .t (tL frm)], .box [I 0, .nil], .arr 1 false 0 (((cgN m old frm t m.roads.length).map (T.int .i64)).map .t)]⟩) := by
          intro z0 z2 z4 z10 z12 z13 z14 z15 z16 z17 z18
          refine loop_up (fun j => ⟨[.und, .t (tS old), .und, .t (tS fl), .und, I t, .bp 0 0, .bp 1 0, .bp 2 0, .bp 3 0, .und, .ref 4 0 frm.length, .und, .und, .und, .und, .und, .und, .und, .t (.sl (m.roads.map Road.e)), I m.roads.length, I j], [.box (mineCells m), .box (mineCells next), .box [I time, .t (tL frm)], .box [I 0, .nil], .arr 1 false 0 (((cgN m old frm t j).map (T.int .i64)).map .t)]⟩) m.roads.length rfl ?_ ?_ (by simp)
          · intro j hj
            have st := cg_step h old o1 o2 time t ht frm (cgN m old frm t j) s1 (by rw [cgN_len, s1]) j hj (mineCells next) (.t (tS fl)) rfl rfl
            rw [cgN_len] at st
            exact st
          · simp (disch := omega) only [go_sem, K.smoke_Change_l2b, ↓reduceIte, Nat.reduceAdd, Nat.reduceSub]
        have cc := cgN_chN m old frm t m.roads.length
        have c3 := chN_len m old frm t m.roads.length
        have ca := maxN_all t (chN m old frm t m.roads.length)
        have cb := chN_bnd h old s1 hb ht m.roads.length (Nat.le_refl _)
        have tm := mxL_tm ht cb (chN_mem h s1 (fun x => x ≤ smMax ∨ x = 1099511627776) (fun x hx => by
          have := s3 x hx
          unfold plS at this; simp only [smMax]; omega) (by unfold inT at ht; simp only [smMax]; omega) _ (Nat.le_refl _))
        rw [c3, s1] at ca
        have lm : (mxL t (chN m old frm t m.roads.length)).length = next.places.length := by simp only [mxL, List.length_map]; omega
        rw [cc] at l2
        simp only [cgN] at l2
        rw [ca]
        generalize mxL t (chN m old frm t m.roads.length) = is at *
        have sp := (sSpread_ok hn fl h2 is lm tm.bnd).1
        have eq := spF_closeS hn (fl := fl) lm tm
        have lc := closeS_len2 hn (fl := fl) lm tm.bnd
        rw [eq] at sp
        have lf : is.length = frm.length := by omega
        have lf2 : (closeS next fl is).length = frm.length := by omega
        have mx0 : (mxL t frm).length = frm.length := by simp [mxL]
        generalize closeS next fl is = cs at *
        generalize hmx : mxL t frm = mx at *
        rw [lf] at sp
        clear cb tm ca c3 cc cl ja jl eq hb s3 o2 hmx lm lc
        have rp := repl_tt frm.length 0
        obtain ⟨places, roads⟩ := m
        obtain ⟨places2, roads2⟩ := next
        simp only [mineCells, smArg] at *
        simp (disch := omega) only [go_sem, K.smoke_Change, ↓reduceIte, v, f1, f2, h3, c1, c2, l1, l2, rp, sp, lf, lf2, Nat.reduceAdd, Nat.reduceSub]
end Go.Ev

/- Made inputs: mines. -/
namespace Go.Ev
open Go
variable [Lib] [Has1] [Has2]

@[go_sem] theorem appOK_place (l : List Place) : appOK 2 (l.map Place.e) = true := by cases l <;> rfl
@[go_sem] theorem appOK_road (l : List Road) : appOK 10 (l.map Road.e) = true := by cases l <;> rfl

@[go_sem] theorem ldBox_dice (H : Heap) (d : Dice) : ldBox H 0 1 false (some d.obj) = some (.t (tL d.L), H) := by simp only [Dice.obj, go_sem]

def Dice.placesN (d : Dice) : Nat → List Place × Dice
  | 0 => ([], d)
  | k + 1 => if k = 0 then ((d.placesN k).1 ++ [⟨-10 * ((d.placesN k).2.next 4).1, true⟩], ((d.placesN k).2.next 4).2)
    else ((d.placesN k).1 ++ [⟨-10 * ((d.placesN k).2.next 4).1, (((d.placesN k).2.next 4).2.one 6).1⟩], (((d.placesN k).2.next 4).2.one 6).2)

def Dice.road1 (d : Dice) (i : Int) : Road × Dice :=
  (⟨i - 1 - (d.next (min i 2)).1, i, 1 + ((d.next (min i 2)).2.of [11, 59, 119, 4]).1, 1 + (((d.next (min i 2)).2.of [11, 59, 119, 4]).2.of [9, 3, 19]).1, true, false, 1, 1, 0, 0⟩,
    (((d.next (min i 2)).2.of [11, 59, 119, 4]).2.of [9, 3, 19]).2)
def Dice.roadsN (d : Dice) : Nat → List Road × Dice
  | 0 => ([], d)
  | k + 1 => ((d.roadsN k).1 ++ [((d.roadsN k).2.road1 (k + 1)).1], ((d.roadsN k).2.road1 (k + 1)).2)

def Dice.road2 (d : Dice) (n : Int) : Road × Dice :=
  let a := d.next n
  let b := a.2.next n
  let l := b.2.of [11, 59, 199]
  let r := l.2.of [9, 3]
  let w := r.2.next 5
  let c := w.2.one 6
  (⟨a.1, b.1, 1 + l.1, 1 + r.1, decide (0 < w.1), c.1, 1, 1, 0, 0⟩, c.2)
def Dice.more (n : Int) (l : List Road) (d : Dice) : Nat → List Road × Dice
  | 0 => (l, d)
  | k + 1 => if l.length < 10 then Dice.more n (if (d.road2 n).1.frm = (d.road2 n).1.to then l else l ++ [(d.road2 n).1]) (d.road2 n).2 k else (l, d)

def Dice.mineN (d : Dice) : Nat := if d.L.length = 0 then 4 else (2 + (d.next 6).1).toNat
def Dice.mineP (d : Dice) : List Place × Dice := (d.next 6).2.placesN d.mineN
def Dice.mineR (d : Dice) : List Road × Dice := d.mineP.2.roadsN (d.mineN - 1)
def Dice.mineX (d : Dice) : List Road × Dice := Dice.more d.mineN d.mineR.1 (d.mineR.2.next 4).2 (d.mineR.2.next 4).1.toNat
def Dice.mine (d : Dice) : Mine × Dice := (⟨d.mineP.1, d.mineX.1⟩, d.mineX.2)

theorem Dice.placesN_light {d : Dice} (h : d.light) : ∀ n, (d.placesN n).2.light
  | 0 => h
  | n + 1 => by
    unfold Dice.placesN
    split
    · exact Dice.next_light (Dice.placesN_light h n) 4
    · exact Dice.one_light (Dice.next_light (Dice.placesN_light h n) 4) 6
theorem Dice.placesN_len (d : Dice) : ∀ n, (d.placesN n).1.length = n
  | 0 => rfl
  | n + 1 => by
    unfold Dice.placesN
    split <;> simp [d.placesN_len n]
theorem Dice.road1_light {d : Dice} (h : d.light) (i : Int) : (d.road1 i).2.light := Dice.of_light (Dice.of_light (Dice.next_light h _) _) _
theorem Dice.roadsN_light {d : Dice} (h : d.light) : ∀ n, (d.roadsN n).2.light
  | 0 => h
  | n + 1 => Dice.road1_light (Dice.roadsN_light h n) _
theorem Dice.roadsN_len (d : Dice) : ∀ n, (d.roadsN n).1.length = n
  | 0 => rfl
  | n + 1 => by simp [Dice.roadsN, d.roadsN_len n]
theorem Dice.road2_light {d : Dice} (h : d.light) (n : Int) : (d.road2 n).2.light := by
  unfold Dice.road2; simp only
  exact Dice.one_light (Dice.next_light (Dice.of_light (Dice.of_light (Dice.next_light (Dice.next_light h _) _) _) _) _) _
theorem Dice.more_light (n : Int) : ∀ (k : Nat) (l : List Road) {d : Dice}, d.light → (Dice.more n l d k).2.light
  | 0, l, d, h => h
  | k + 1, l, d, h => by
    unfold Dice.more
    split
    · exact Dice.more_light n k _ (Dice.road2_light h n)
    · exact h
theorem Dice.mine_light {d : Dice} (h : d.light) : d.mine.2.light :=
  Dice.more_light _ _ _ (Dice.next_light (Dice.roadsN_light (Dice.placesN_light (Dice.next_light h _) _) _) _)

abbrev roadBox : List D := [I 0, I 0, I 12, I 10, B true, B false, I 1, I 1, I 0, I 0]

theorem mine_loop1 (d : Dice) (hd : d.light) (n : Nat) (hn : n ≤ 8) (a b c e f : D) :
    exS CALL K.made_Dice_Mine_l1 ⟨[.bp 0 0, .bp 1 0, .bp 2 0, I n, I 0, a, b, c, e, f], [d.obj, .box [.nil, .nil], .box [.ref 3 0 0, .ref 4 0 0], .arr 2 false 0 [], .arr 10 false 0 []]⟩ =
    some (.exit 0, ⟨[.bp 0 0, .bp 1 0, .bp 2 0, I n, I n, .und, .und, .und, .und, .und], [(d.placesN n).2.obj, .box [.nil, .nil], .box [.ref 3 0 (d.placesN n).1.length, .ref 4 0 0], .arr 2 false 0 (((d.placesN n).1.map Place.e).map .t), .arr 10 false 0 []]⟩) := by
  refine loop_up (fun j => ⟨[.bp 0 0, .bp 1 0, .bp 2 0, I n, I j, .und, .und, .und, .und, .und], [(d.placesN j).2.obj, .box [.nil, .nil], .box [.ref 3 0 (d.placesN j).1.length, .ref 4 0 0], .arr 2 false 0 (((d.placesN j).1.map Place.e).map .t), .arr 10 false 0 []]⟩) n rfl ?_ ?_ (by simp)
  · intro j hj
    have ln := d.placesN_len j
    have lt := Dice.placesN_light hd j
    simp only [Dice.placesN]
    generalize d.placesN j = s at *
    obtain ⟨l, d1⟩ := s
    simp only at ln lt ⊢
    have h1 := next_ok d1 4 (by omega) lt
    have b1 := d1.next_lo 4
    have b2 := d1.next_hi (n := 4) (by omega)
    have l1 := Dice.next_light lt 4
    generalize d1.next 4 = a1 at *
    obtain ⟨x, d2⟩ := a1
    simp only at h1 b1 b2 l1 ⊢
    by_cases j0 : j = 0
    · subst j0
      simp (disch := omega) only [go_sem, K.made_Dice_Mine_l1b, h1, ↓reduceIte, Nat.reduceAdd, Nat.reduceSub]
    · have h2 := one_ok d2 6 (by omega) (by omega) l1
      simp (disch := omega) only [go_sem, K.made_Dice_Mine_l1b, h1, h2, j0, ↓reduceIte, Nat.reduceAdd, Nat.reduceSub]
  · simp (disch := omega) only [go_sem, K.made_Dice_Mine_l1b, ↓reduceIte]

theorem mine_loop2 (d : Dice) (hd : d.light) (n : Nat) (hn : n ≤ 8) (h1 : 1 ≤ n) (ps : List Place) (a b c e : D) :
    exS CALL K.made_Dice_Mine_l2 ⟨[.bp 0 0, .bp 1 0, .bp 2 0, I n, a, .bp 5 0, I 1, b, c, e], [d.obj, .box [.nil, .nil], .box [.ref 3 0 ps.length, .ref 4 0 0], .arr 2 false 0 ((ps.map Place.e).map .t), .arr 10 false 0 [], .box roadBox]⟩ =
    some (.exit 2, ⟨[.bp 0 0, .bp 1 0, .bp 2 0, I n, .und, .bp 5 0, I n, .und, .und, .und], [(d.roadsN (n - 1)).2.obj, .box [.nil, .nil], .box [.ref 3 0 ps.length, .ref 4 0 (d.roadsN (n - 1)).1.length], .arr 2 false 0 ((ps.map Place.e).map .t), .arr 10 false 0 (((d.roadsN (n - 1)).1.map Road.e).map .t), .box roadBox]⟩) := by
  refine loop_up (fun j => ⟨[.bp 0 0, .bp 1 0, .bp 2 0, I n, .und, .bp 5 0, I (j + 1), .und, .und, .und], [(d.roadsN j).2.obj, .box [.nil, .nil], .box [.ref 3 0 ps.length, .ref 4 0 (d.roadsN j).1.length], .arr 2 false 0 ((ps.map Place.e).map .t), .arr 10 false 0 (((d.roadsN j).1.map Road.e).map .t), .box roadBox]⟩) (n - 1) rfl ?_ ?_ (by simp)
  · intro j hj
    have ln := d.roadsN_len j
    have lt := Dice.roadsN_light hd j
    simp only [Dice.roadsN]
    generalize d.roadsN j = s at *
    obtain ⟨l, d1⟩ := s
    simp only [Dice.road1] at ln lt ⊢
    have h1 := next_ok d1 (min ((j : Int) + 1) 2) (by omega) lt
    have b1 := d1.next_lo (min ((j : Int) + 1) 2)
    have b2 := d1.next_hi (n := min ((j : Int) + 1) 2) (by omega)
    have l1 := Dice.next_light lt (min ((j : Int) + 1) 2)
    generalize d1.next (min ((j : Int) + 1) 2) = a1 at *
    obtain ⟨x, d2⟩ := a1
    simp only at h1 b1 b2 l1 ⊢
    have h2 := of_ok d2 [11, 59, 119, 4] (by simp) (by simp) l1
    have m2 := d2.of_mem (l := [11, 59, 119, 4]) (by simp)
    have l2 := Dice.of_light l1 [11, 59, 119, 4]
    generalize d2.of [11, 59, 119, 4] = a2 at *
    obtain ⟨y, d3⟩ := a2
    simp only [tL, List.map_cons, List.map_nil] at h2 m2 l2 ⊢
    have h3 := of_ok d3 [9, 3, 19] (by simp) (by simp) l2
    have m3 := d3.of_mem (l := [9, 3, 19]) (by simp)
    generalize d3.of [9, 3, 19] = a3 at *
    obtain ⟨z, d4⟩ := a3
    simp only [tL, List.map_cons, List.map_nil, List.mem_cons, List.not_mem_nil, or_false] at h3 m2 m3 ⊢
    simp (disch := omega) only [go_sem, K.made_Dice_Mine_l2b, h1, h2, h3, ↓reduceIte, Nat.reduceAdd, Nat.reduceSub]
  · simp (disch := omega) only [go_sem, K.made_Dice_Mine_l2b, ↓reduceIte]
    rw [show ((n - 1 : Nat) : Int) + 1 = n by omega]

abbrev mineH (d : Dice) (ps : List Place) (l : List Road) : Heap := [d.obj, .box [.nil, .nil], .box [.ref 3 0 ps.length, .ref 4 0 l.length], .arr 2 false 0 ((ps.map Place.e).map .t), .arr 10 false 0 ((l.map Road.e).map .t), .box roadBox]

theorem mine_round (d : Dice) (hd : d.light) (n : Int) (hn : 1 ≤ n) (hn2 : n ≤ 8) (ps : List Place) (l : List Road) (hl : l.length < 10) (k : Nat) (hk : k ≤ 10) :
    roundC true [4, 6, 7, 9] 6 (exS CALL K.made_Dice_Mine_l3b ⟨[.bp 0 0, .bp 1 0, .bp 2 0, I n, .und, .bp 5 0, .und, .und, I (k + 1), .und], mineH d ps l⟩) =
    some ⟨[.bp 0 0, .bp 1 0, .bp 2 0, I n, .und, .bp 5 0, .und, .und, I k, .und], mineH (d.road2 n).2 ps (if (d.road2 n).1.frm = (d.road2 n).1.to then l else l ++ [(d.road2 n).1])⟩ := by
  unfold Dice.road2 mineH
  simp only
  have h1 := next_ok d n (by omega) hd
  have l1 := Dice.next_light hd n
  generalize d.next n = a1 at *
  obtain ⟨x1, d1⟩ := a1
  simp only at h1 l1 ⊢
  have h2 := next_ok d1 n (by omega) l1
  have l2 := Dice.next_light l1 n
  generalize d1.next n = a2 at *
  obtain ⟨x2, d2⟩ := a2
  simp only at h2 l2 ⊢
  have h3 := of_ok d2 [11, 59, 199] (by simp) (by simp) l2
  have m3 := d2.of_mem (l := [11, 59, 199]) (by simp)
  have l3 := Dice.of_light l2 [11, 59, 199]
  generalize d2.of [11, 59, 199] = a3 at *
  obtain ⟨x3, d3⟩ := a3
  simp only [tL, List.map_cons, List.map_nil] at h3 m3 l3 ⊢
  have h4 := of_ok d3 [9, 3] (by simp) (by simp) l3
  have m4 := d3.of_mem (l := [9, 3]) (by simp)
  have l4 := Dice.of_light l3 [9, 3]
  generalize d3.of [9, 3] = a4 at *
  obtain ⟨x4, d4⟩ := a4
  simp only [tL, List.map_cons, List.map_nil] at h4 m4 l4 ⊢
  have h5 := next_ok d4 5 (by omega) l4
  have l5 := Dice.next_light l4 5
  generalize d4.next 5 = a5 at *
  obtain ⟨x5, d5⟩ := a5
  simp only at h5 l5 ⊢
  have h6 := one_ok d5 6 (by omega) (by omega) l5
  generalize d5.one 6 = a6 at *
  obtain ⟨x6, d6⟩ := a6
  simp only [List.mem_cons, List.not_mem_nil, or_false] at h6 m3 m4 ⊢
  by_cases e : x1 = x2
  · simp (disch := omega) only [go_sem, K.made_Dice_Mine_l3b, h1, h2, h3, h4, h5, h6, e, ↓reduceIte, Nat.reduceAdd, Nat.reduceSub]
  · simp (disch := omega) only [go_sem, K.made_Dice_Mine_l3b, h1, h2, h3, h4, h5, h6, e, ↓reduceIte, Nat.reduceAdd, Nat.reduceSub]

theorem mine_loop3 (n : Int) (hn : 1 ≤ n) (hn2 : n ≤ 8) (ps : List Place) : ∀ (k : Nat) (d : Dice) (l : List Road), d.light → l.length ≤ 10 → k ≤ 10 →
    ∃ z : Int, loopC true [4, 6, 7, 9] (exS CALL K.made_Dice_Mine_l3b) ⟨[.bp 0 0, .bp 1 0, .bp 2 0, I n, .und, .bp 5 0, .und, .und, I k, .und], mineH d ps l⟩ =
    some (.exit 4, ⟨[.bp 0 0, .bp 1 0, .bp 2 0, I n, .und, .bp 5 0, .und, .und, I z, .und], mineH (Dice.more n l d k).2 ps (Dice.more n l d k).1⟩)
  | 0, d, l, hd, hl, hk => by
    refine ⟨0, loopC_exit ?_ (by simp)⟩
    simp (disch := omega) only [go_sem, K.made_Dice_Mine_l3b, Dice.more, ↓reduceIte, Nat.reduceAdd, Nat.reduceSub]
  | k + 1, d, l, hd, hl, hk => by
    by_cases h : l.length < 10
    · have hr := mine_round d hd n hn hn2 ps l h k (by omega)
      obtain ⟨z, hz⟩ := mine_loop3 n hn hn2 ps k (d.road2 n).2 (if (d.road2 n).1.frm = (d.road2 n).1.to then l else l ++ [(d.road2 n).1]) (Dice.road2_light hd n) (by split <;> (try rw [List.length_append, List.length_singleton]) <;> omega) (by omega)
      refine ⟨z, loopC_step hr ?_⟩
      rw [hz]
      simp only [Dice.more, if_pos h]
    · refine ⟨(k : Int) + 1, loopC_exit ?_ (by simp)⟩
      simp (disch := omega) only [go_sem, K.made_Dice_Mine_l3b, Dice.more, ↓reduceIte, Nat.reduceAdd, Nat.reduceSub]

theorem Dice.more_len (n : Int) : ∀ (k : Nat) (l : List Road) (d : Dice), l.length ≤ 10 → (Dice.more n l d k).1.length ≤ 10
  | 0, l, d, h => h
  | k + 1, l, d, h => by
    unfold Dice.more
    split
    · exact Dice.more_len n k _ _ (by split <;> (try rw [List.length_append, List.length_singleton]) <;> omega)
    · exact h

theorem Dice.mineN_bd (d : Dice) : 2 ≤ d.mineN ∧ d.mineN ≤ 7 := by
  unfold Dice.mineN
  have := d.next_lo 6
  have := d.next_hi (n := 6) (by omega)
  split <;> omega

theorem mine_ok (d : Dice) (hd : d.light) : CALL 0 N.made_Dice_Mine [.bp 0 0] [d.obj] = some (.t d.mine.1.e, [d.mine.2.obj]) := by
  refine CALL_of K.t_made_Dice_Mine rfl ?_
  have nb := d.mineN_bd
  unfold Dice.mine
  have h0 := next_ok d 6 (by omega) hd
  have l0 := Dice.next_light hd 6
  have b1 := d.next_lo 6
  have b2 := d.next_hi (n := 6) (by omega)
  have hL := d.next_L 6
  have hN : (d.mineN : Int) = if d.L.length = 0 then 4 else 2 + (d.next 6).1 := by unfold Dice.mineN; split <;> omega
  have e1 : d.mineX = Dice.more d.mineN d.mineR.1 (d.mineR.2.next 4).2 (d.mineR.2.next 4).1.toNat := rfl
  have e2 : d.mineR = d.mineP.2.roadsN (d.mineN - 1) := rfl
  have e3 : d.mineP = (d.next 6).2.placesN d.mineN := rfl
  generalize d.mineX = X at *
  generalize d.mineR = R at *
  generalize d.mineP = P at *
  generalize d.mineN = n at *
  generalize d.next 6 = a at *
  obtain ⟨x, d1⟩ := a
  simp only at h0 l0 b1 b2 hL hN e3 ⊢
  have q1 := mine_loop1 d1 l0 n (by omega)
  have lP := Dice.placesN_light l0 n
  have nP := d1.placesN_len n
  rw [← e3] at q1 lP nP
  obtain ⟨ps, d2⟩ := P
  simp only at q1 lP nP e2 ⊢
  have q2 := mine_loop2 d2 lP n (by omega) (by omega) ps
  have lR := Dice.roadsN_light lP (n - 1)
  have nR := d2.roadsN_len (n - 1)
  rw [← e2] at q2 lR nR
  obtain ⟨rs, d3⟩ := R
  simp only at q2 lR nR e1 ⊢
  have h4 := next_ok d3 4 (by omega) lR
  have l4 := Dice.next_light lR 4
  have b3 := d3.next_lo 4
  have b4 := d3.next_hi (n := 4) (by omega)
  generalize d3.next 4 = c at *
  obtain ⟨y, d4⟩ := c
  simp only at h4 l4 b3 b4 e1 ⊢
  obtain ⟨z, q3⟩ := mine_loop3 n (by omega) (by omega) ps y.toNat d4 rs l4 (by omega) (by omega)
  rw [← e1] at q3
  have q3 := loop_is (vs := [.bp 0 0, .bp 1 0, .bp 2 0, I n, .und, .bp 5 0, I n, .und, I y.toNat, .und]) q3
  have ey : (y.toNat : Int) = y := by omega
  rw [ey] at q3
  obtain ⟨xs, d5⟩ := X
  have fin : ∀ k : Int, (exS CALL K.made_Dice_Mine_l3 ⟨[.bp 0 0, .bp 1 0, .bp 2 0, I n, .und, .bp 5 0, I n, .und, I y, .und], mineH d4 ps rs⟩) =
      some (.exit 4, ⟨[.bp 0 0, .bp 1 0, .bp 2 0, I n, .und, .bp 5 0, .und, .und, I z, .und], mineH d5 ps xs⟩) := fun _ => q3
  clear q3
  have q3 := fin 0
  clear fin
  simp only [mineH] at q3
  by_cases c0 : d.L.length = 0
  · rw [if_pos c0] at hN
    obtain rfl : n = 4 := by omega
    have e4 : ((4 : Nat) : Int) = 4 := rfl
    simp only [e4] at q1 q2 q3
    simp (disch := omega) only [go_sem, K.made_Dice_Mine, ↓reduceIte, h0, c0, q1, q2, q3, h4, hL, Nat.reduceAdd, Nat.reduceSub]
  · rw [if_neg c0] at hN
    simp (disch := omega) only [go_sem, K.made_Dice_Mine, ↓reduceIte, h0, c0, q1, q2, q3, h4, hL, hN.symm, Nat.reduceAdd, Nat.reduceSub]

theorem Dice.road1_ok (d : Dice) {n : Nat} {i : Int} (h1 : 1 ≤ i) (h2 : i < n) : (d.road1 i).1.ok n := by
  have b1 := d.next_lo (min i 2)
  have b2 := d.next_hi (n := min i 2) (by omega)
  have m2 := (d.next (min i 2)).2.of_mem (l := [11, 59, 119, 4]) (by simp)
  have m3 := ((d.next (min i 2)).2.of [11, 59, 119, 4]).2.of_mem (l := [9, 3, 19]) (by simp)
  simp only [List.mem_cons, List.not_mem_nil, or_false] at m2 m3
  unfold Dice.road1
  constructor <;> (simp only; omega)

theorem Dice.roadsN_ok (d : Dice) {n : Nat} : ∀ k, k + 1 ≤ n → ∀ r ∈ (d.roadsN k).1, r.ok n
  | 0, _, r, hr => by simp [Dice.roadsN] at hr
  | k + 1, h, r, hr => by
    simp only [Dice.roadsN, List.mem_append, List.mem_singleton] at hr
    rcases hr with hr | rfl
    · exact d.roadsN_ok k (by omega) r hr
    · exact Dice.road1_ok _ (by omega) (by omega)

theorem Dice.road2_ok (d : Dice) {n : Nat} (hn : 1 ≤ n) (hne : (d.road2 n).1.frm ≠ (d.road2 n).1.to) : (d.road2 n).1.ok n := by
  unfold Dice.road2 at hne ⊢
  simp only at hne ⊢
  have b1 := d.next_lo n
  have b2 := d.next_hi (n := (n : Int)) (by omega)
  generalize d.next n = a1 at *
  obtain ⟨x1, d1⟩ := a1
  simp only at *
  have c1 := d1.next_lo n
  have c2 := d1.next_hi (n := (n : Int)) (by omega)
  generalize d1.next n = a2 at *
  obtain ⟨x2, d2⟩ := a2
  simp only at *
  have m3 := d2.of_mem (l := [11, 59, 199]) (by simp)
  generalize d2.of [11, 59, 199] = a3 at *
  obtain ⟨x3, d3⟩ := a3
  simp only at *
  have m4 := d3.of_mem (l := [9, 3]) (by simp)
  generalize d3.of [9, 3] = a4 at *
  obtain ⟨x4, d4⟩ := a4
  simp only [List.mem_cons, List.not_mem_nil, or_false] at m3 m4 ⊢
  constructor <;> (simp only; omega)

theorem Dice.more_ok {n : Nat} (hn : 1 ≤ n) : ∀ (k : Nat) (l : List Road) (d : Dice), (∀ r ∈ l, r.ok n) → ∀ r ∈ (Dice.more n l d k).1, r.ok n
  | 0, l, d, h => h
  | k + 1, l, d, h => by
    unfold Dice.more
    split
    · refine Dice.more_ok hn k _ _ ?_
      split
      · exact h
      · rename_i hne
        intro r hr
        rcases List.mem_append.1 hr with hr | hr
        · exact h r hr
        · rw [List.mem_singleton.1 hr]; exact d.road2_ok hn hne
    · exact h

theorem Dice.more_len2 (n : Int) : ∀ (k : Nat) (l : List Road) (d : Dice), l.length ≤ (Dice.more n l d k).1.length
  | 0, l, d => Nat.le_refl _
  | k + 1, l, d => by
    unfold Dice.more
    split
    · refine Nat.le_trans ?_ (Dice.more_len2 n k _ _)
      split <;> (try rw [List.length_append]) <;> omega
    · exact Nat.le_refl _

theorem Dice.placesN_h (d : Dice) : ∀ k, ∀ p ∈ (d.placesN k).1, -30 ≤ p.h ∧ p.h ≤ 0
  | 0, p, hp => by simp [Dice.placesN] at hp
  | k + 1, p, hp => by
    have b1 := (d.placesN k).2.next_lo 4
    have b2 := (d.placesN k).2.next_hi (n := 4) (by omega)
    unfold Dice.placesN at hp
    split at hp
    all_goals
      simp only [List.mem_append, List.mem_singleton] at hp
      rcases hp with hp | rfl
      · exact d.placesN_h k p hp
      · simp only; omega

theorem Dice.mine_places (d : Dice) : d.mine.1.places.length = d.mineN := Dice.placesN_len _ _
theorem Dice.mine_roads (d : Dice) : d.mineN - 1 ≤ d.mine.1.roads.length ∧ d.mine.1.roads.length ≤ 10 := by
  have nb := d.mineN_bd
  have e : d.mineR.1.length = d.mineN - 1 := Dice.roadsN_len _ _
  constructor
  · rw [← e]; exact Dice.more_len2 _ _ _ _
  · exact Dice.more_len _ _ _ _ (by omega)
theorem Dice.mine_good (d : Dice) : d.mine.1.ok := by
  have nb := d.mineN_bd
  have h1 := d.mine_places
  have h2 := d.mine_roads
  refine ⟨by omega, by omega, fun p hp => ?_, ?_⟩
  · have := Dice.placesN_h _ _ p hp; omega
  · rw [h1]
    exact Dice.more_ok (by omega) _ _ _ (Dice.roadsN_ok _ _ (by omega))

end Go.Ev

/- Made inputs: flows of the air. -/
namespace Go.Ev
open Go
variable [Lib] [Has1] [Has2]

@[go_sem] theorem appOK_spn (l : List Spn) : appOK 2 (l.map Spn.e) = true := by cases l <;> rfl
@[go_sem] theorem set_spn (l : List Spn) (k : Nat) (a b : Int) : (List.map D.t (List.map Spn.e l)).set k (D.t (T.agg [tI a, tI b])) = List.map D.t (List.map Spn.e (l.set k ⟨a, b⟩)) := by
  rw [List.map_set, List.map_set]

@[go_sem] theorem opBs_6 (H : Heap) (sz : Nat) (a b c d e f : T) : opBs H sz [.t a, .t b, .t c, .t d, .t e, .t f] = if cellsAre sz [a, b, c, d, e, f] = true then some (.t (.sl [a, b, c, d, e, f]), H) else none := opBs_if H sz [a, b, c, d, e, f]
@[go_sem] theorem opBs_7 (H : Heap) (sz : Nat) (a b c d e f g : T) : opBs H sz [.t a, .t b, .t c, .t d, .t e, .t f, .t g] = if cellsAre sz [a, b, c, d, e, f, g] = true then some (.t (.sl [a, b, c, d, e, f, g]), H) else none := opBs_if H sz [a, b, c, d, e, f, g]
@[go_sem] theorem opBs_8 (H : Heap) (sz : Nat) (a b c d e f g h : T) : opBs H sz [.t a, .t b, .t c, .t d, .t e, .t f, .t g, .t h] = if cellsAre sz [a, b, c, d, e, f, g, h] = true then some (.t (.sl [a, b, c, d, e, f, g, h]), H) else none := opBs_if H sz [a, b, c, d, e, f, g, h]

@[go_sem] theorem app2_last {α β γ : Type} {l : List α} {g : α → β} {f : β → γ} {x : γ} {j : Nat} (h : j = l.length) : (List.map f (List.map g l) ++ [x])[j]? = some x := by
  rw [List.getElem?_append_right (by simp; omega)]; simp [h]
@[go_sem] theorem app2_set {α β γ : Type} {l : List α} {g : α → β} {f : β → γ} {x y : γ} {j : Nat} (h : j = l.length) : (List.map f (List.map g l) ++ [x]).set j y = List.map f (List.map g l) ++ [y] := by
  rw [List.set_append_right _ _ (by simp; omega)]; simp [h]

def Dice.flow1 (d : Dice) : Spn × Dice :=
  let a := d.of [0, 1000, 5000, 20000, -5000, -20000, 4999, 100]
  let b := a.2.of [0, 1, 1000, 6000]
  let c := b.2.of [0, 1, 500]
  let w := c.2.one 9
  (if w.1 = true then ⟨-1125899906842624, 1125899906842624⟩ else ⟨a.1 - b.1, a.1 + c.1⟩, w.2)
def Dice.flowsN (d : Dice) : Nat → List Spn × Dice
  | 0 => ([], d)
  | k + 1 => ((d.flowsN k).1 ++ [((d.flowsN k).2.flow1).1], ((d.flowsN k).2.flow1).2)
def Dice.flows (d : Dice) (m : Mine) : List Spn × Dice := d.flowsN m.roads.length

theorem Dice.flow1_light {d : Dice} (h : d.light) : d.flow1.2.light := by
  unfold Dice.flow1; simp only
  exact Dice.one_light (Dice.of_light (Dice.of_light (Dice.of_light h [0, 1000, 5000, 20000, -5000, -20000, 4999, 100]) [0, 1, 1000, 6000]) [0, 1, 500]) 9
theorem Dice.flowsN_light {d : Dice} (h : d.light) : ∀ n, (d.flowsN n).2.light
  | 0 => h
  | n + 1 => by simp only [Dice.flowsN]; exact Dice.flow1_light (Dice.flowsN_light h n)
theorem Dice.flowsN_len (d : Dice) : ∀ n, (d.flowsN n).1.length = n
  | 0 => rfl
  | n + 1 => by simp [Dice.flowsN, d.flowsN_len n]

theorem flow1_good (d : Dice) : d.flow1.1.ok := by
  unfold Dice.flow1; simp only
  have m1 := d.of_mem (l := [0, 1000, 5000, 20000, -5000, -20000, 4999, 100]) (by simp)
  generalize d.of [0, 1000, 5000, 20000, -5000, -20000, 4999, 100] = a at *
  obtain ⟨x, d1⟩ := a
  have m2 := d1.of_mem (l := [0, 1, 1000, 6000]) (by simp)
  simp only
  generalize d1.of [0, 1, 1000, 6000] = b at *
  obtain ⟨y, d2⟩ := b
  have m3 := d2.of_mem (l := [0, 1, 500]) (by simp)
  simp only
  generalize d2.of [0, 1, 500] = c at *
  obtain ⟨z, d3⟩ := c
  simp only [List.mem_cons, List.not_mem_nil, or_false] at m1 m2 m3 ⊢
  unfold Spn.ok
  split <;> (simp only; omega)

theorem Dice.flowsN_good (d : Dice) : ∀ n, ∀ x ∈ (d.flowsN n).1, x.ok
  | 0, x, hx => by simp [Dice.flowsN] at hx
  | n + 1, x, hx => by
    simp only [Dice.flowsN, List.mem_append, List.mem_singleton] at hx
    rcases hx with hx | rfl
    · exact d.flowsN_good n x hx
    · exact flow1_good _

theorem flows_round (d : Dice) (hd : d.light) (m : Mine) (hm : m.roads.length ≤ 1000) (j : Nat) (hj : j < m.roads.length) (l : List Spn) (hl : l.length = j) :
    roundC true [1, 3, 6] 3 (exS CALL K.made_Dice_Flows_l1b ⟨[.bp 0 0, .und, .bp 1 0, .und, .ref 2 0 l.length, I j, .und], [d.obj, .box [.t (.sl (m.places.map Place.e)), .t (.sl (m.roads.map Road.e))], .arr 2 false 0 ((l.map Spn.e).map .t)]⟩) =
    some ⟨[.bp 0 0, .und, .bp 1 0, .und, .ref 2 0 (l ++ [d.flow1.1]).length, I (j + 1), .und], [d.flow1.2.obj, .box [.t (.sl (m.places.map Place.e)), .t (.sl (m.roads.map Road.e))], .arr 2 false 0 (((l ++ [d.flow1.1]).map Spn.e).map .t)]⟩ := by
  unfold Dice.flow1; simp only
  have h1 := of_ok d [0, 1000, 5000, 20000, -5000, -20000, 4999, 100] (by simp) (by simp) hd
  have l1 := Dice.of_light hd [0, 1000, 5000, 20000, -5000, -20000, 4999, 100]
  have m1 := d.of_mem (l := [0, 1000, 5000, 20000, -5000, -20000, 4999, 100]) (by simp)
  generalize d.of [0, 1000, 5000, 20000, -5000, -20000, 4999, 100] = a at *
  obtain ⟨x, d1⟩ := a
  simp only [tL, List.map_cons, List.map_nil] at h1 l1 ⊢
  have h2 := of_ok d1 [0, 1, 1000, 6000] (by simp) (by simp) l1
  have l2 := Dice.of_light l1 [0, 1, 1000, 6000]
  have m2 := d1.of_mem (l := [0, 1, 1000, 6000]) (by simp)
  generalize d1.of [0, 1, 1000, 6000] = b at *
  obtain ⟨y, d2⟩ := b
  simp only [tL, List.map_cons, List.map_nil] at h2 l2 ⊢
  have h3 := of_ok d2 [0, 1, 500] (by simp) (by simp) l2
  have l3 := Dice.of_light l2 [0, 1, 500]
  have m3 := d2.of_mem (l := [0, 1, 500]) (by simp)
  generalize d2.of [0, 1, 500] = c at *
  obtain ⟨z, d3⟩ := c
  simp only [tL, List.map_cons, List.map_nil] at h3 l3 ⊢
  have h4 := one_ok d3 9 (by omega) (by omega) l3
  generalize d3.one 9 = e at *
  obtain ⟨w, d4⟩ := e
  simp only [List.mem_cons, List.not_mem_nil, or_false] at m1 m2 m3 h4 ⊢
  have st : (l ++ [(⟨x - y, x + z⟩ : Spn)]).set j ⟨-1125899906842624, 1125899906842624⟩ = l ++ [⟨-1125899906842624, 1125899906842624⟩] := by
    rw [List.set_append_right _ _ (by omega), hl, Nat.sub_self]; rfl
  cases w with
  | true =>
    simp (disch := omega) only [go_sem, K.made_Dice_Flows_l1b, ↓reduceIte, h1, h2, h3, h4, Nat.reduceAdd, Nat.reduceSub]
  | false =>
    simp (disch := omega) only [go_sem, K.made_Dice_Flows_l1b, ↓reduceIte, h1, h2, h3, h4, Nat.reduceAdd, Nat.reduceSub]

theorem flowsD_ok (d : Dice) (hd : d.light) (m : Mine) (hm : m.roads.length ≤ 1000) : CALL 0 N.made_Dice_Flows [.bp 0 0, .t m.e] [d.obj] = some (.t (tS (d.flows m).1), [(d.flows m).2.obj]) := by
  refine CALL_of K.t_made_Dice_Flows rfl ?_
  unfold Dice.flows
  have ln := d.flowsN_len
  have loop : ∀ a b c : D, exS CALL K.made_Dice_Flows_l1 ⟨[.bp 0 0, a, .bp 1 0, b, .ref 2 0 0, I 0, c], [d.obj, .box [.t (.sl (m.places.map Place.e)), .t (.sl (m.roads.map Road.e))], .arr 2 false 0 []]⟩ =
      some (.exit 0, ⟨[.bp 0 0, .und, .bp 1 0, .und, .ref 2 0 (d.flowsN m.roads.length).1.length, I m.roads.length, .und], [(d.flowsN m.roads.length).2.obj, .box [.t (.sl (m.places.map Place.e)), .t (.sl (m.roads.map Road.e))], .arr 2 false 0 (((d.flowsN m.roads.length).1.map Spn.e).map .t)]⟩) := by
    intro a b c
    refine loop_up (fun j => ⟨[.bp 0 0, .und, .bp 1 0, .und, .ref 2 0 (d.flowsN j).1.length, I j, .und], [(d.flowsN j).2.obj, .box [.t (.sl (m.places.map Place.e)), .t (.sl (m.roads.map Road.e))], .arr 2 false 0 (((d.flowsN j).1.map Spn.e).map .t)]⟩) m.roads.length rfl ?_ ?_ (by simp)
    · intro j hj
      exact flows_round (d.flowsN j).2 (Dice.flowsN_light hd j) m hm j hj (d.flowsN j).1 (ln j)
    · simp (disch := omega) only [go_sem, K.made_Dice_Flows_l1b, ↓reduceIte]
  have ln := ln m.roads.length
  generalize d.flowsN m.roads.length = r at *
  obtain ⟨l, d1⟩ := r
  simp only at ln loop ⊢
  simp (disch := omega) only [go_sem, K.made_Dice_Flows, ↓reduceIte, loop]

end Go.Ev

/- Made inputs, briefly: there are such data, and what holds of them. -/
namespace Go.Ev
open Go
variable [Lib] [Has1] [Has2]

theorem roll_x (l : List Int) : CALL 0 N.made_Roll [.t (tL l)] [] = some (.bp 0 0, [Dice.obj ⟨l, 0⟩]) := by
  refine CALL_of K.t_made_Roll rfl ?_
  simp (disch := omega) only [go_sem, K.made_Roll, ↓reduceIte, Dice.obj, Nat.reduceAdd, Nat.reduceSub]
theorem next_x {d : Dice} (hd : d.light) (n : Int) (h1 : 1 ≤ n) (hn : n ≤ 4611686018427387904) :
    ∃ (v : Int) (e : Dice), CALL 0 N.made_Dice_Next [.bp 0 0, I n] [d.obj] = some (I v, [e.obj]) ∧ e.light ∧ 0 ≤ v ∧ v < n :=
  ⟨_, _, next_ok d n hn hd, Dice.next_light hd n, d.next_lo n, d.next_hi h1⟩
theorem one_x {d : Dice} (hd : d.light) (n : Int) (h1 : 0 ≤ n) (hn : n ≤ 4611686018427387904) :
    ∃ (b : Bool) (e : Dice), CALL 0 N.made_Dice_One [.bp 0 0, I n] [d.obj] = some (B b, [e.obj]) ∧ e.light :=
  ⟨_, _, one_ok d n h1 hn hd, Dice.one_light hd n⟩
theorem of_x {d : Dice} (hd : d.light) (l : List Int) (hl : l ≠ []) (hn : l.length ≤ 4294967296) :
    ∃ (v : Int) (e : Dice), CALL 0 N.made_Dice_Of [.bp 0 0, .t (tL l)] [d.obj] = some (I v, [e.obj]) ∧ e.light ∧ v ∈ l :=
  ⟨_, _, of_ok d l hl hn hd, Dice.of_light hd l, d.of_mem hl⟩
theorem mine_x {d : Dice} (hd : d.light) :
    ∃ (m : Mine) (e : Dice), CALL 0 N.made_Dice_Mine [.bp 0 0] [d.obj] = some (.t m.e, [e.obj]) ∧ e.light ∧ m.ok ∧ 2 ≤ m.places.length ∧ m.places.length ≤ 7 ∧ 1 ≤ m.roads.length ∧ m.roads.length ≤ 10 := by
  have b := d.mineN_bd
  have p := d.mine_places
  have r := d.mine_roads
  exact ⟨_, _, mine_ok d hd, Dice.mine_light hd, d.mine_good, by omega, by omega, by omega, by omega⟩
theorem flows_x {d : Dice} (hd : d.light) {m : Mine} (hm : m.ok) :
    ∃ (l : List Spn) (e : Dice), CALL 0 N.made_Dice_Flows [.bp 0 0, .t m.e] [d.obj] = some (.t (tS l), [e.obj]) ∧ e.light ∧ l.length = m.roads.length ∧ (∀ x ∈ l, x.ok) := by
  have nr := hm.nr
  exact ⟨_, _, flowsD_ok d hd m (by omega), Dice.flowsN_light hd _, d.flowsN_len _, d.flowsN_good _⟩
end Go.Ev

/- SmokeSources. -/
namespace Go.Ev
open Go
variable [Lib] [Has1] [Has2] [Has3] [Has4] [Has6] [Has7]

theorem flB_of {m : Mine} {l : List Spn} (h1 : l.length = m.roads.length) (h2 : ∀ x ∈ l, x.ok) : flowsB m l = true := by
  simp only [flowsB, Bool.and_eq_true, decide_eq_true_eq, List.all_eq_true, List.mem_range]
  exact ⟨fun j hj => h2 _ (nth_mem hj), h1⟩
end Go.Ev

/- SmokeRuns: what is known of times of smoke. -/
namespace Go.Ev
open Go
variable [Lib] [Has1] [Has2] [Has3] [Has4] [Has6] [Has7]

/-- A spread that came about in a mine with flows. -/
structure SGood (m : Mine) (fl : List Spn) (s : Wh) : Prop where
  ln : s.frm.length = m.places.length
  ti : inT s.time
  tm : tmOk s.frm
  lo : ∀ x ∈ s.frm, s.time ≤ x
  cl : clP m fl s.frm
theorem SGood.valid {m : Mine} {fl : List Spn} {s : Wh} (h : SGood m fl s) : validS m s = true := by
  simp only [validS, Bool.and_eq_true, decide_eq_true_eq, List.all_eq_true, List.mem_range]
  refine ⟨fun j hj => ?_, h.ln, h.ti⟩
  have a := h.tm _ (nth_mem hj)
  have b := h.lo _ (nth_mem hj)
  unfold plS
  simp only [smMax] at a
  omega
/- what a change leaves -/
end Go.Ev

/- Chapter 26 of the references: who bears a tag; possible places; meetings. -/
namespace Go.Ev
open Go
variable [Lib] [Has1] [Has2]

def borneF (m : Mine) (b : Bel) (tag : Int) : Int := if belB m b = false then 6 else if bearerF (nth b.worlds 0).tags tag < 0 then 41 else 0

def meetB (a b : Wh) (t : Int) : Bool := (List.range (min a.frm.length b.frm.length)).any fun p => decide (nth a.frm p ≤ t ∧ nth b.frm p ≤ t)

def mayB (b : Bel) (person t : Int) (p : Nat) : Bool := (List.range b.worlds.length).any fun i => decide (0 ≤ person ∧ person < (nth b.worlds i).whr.length) && decide ((p : Int) ∈ possF (nth (nth b.worlds i).whr person.toNat) t)
def possB (b : Bel) (person t : Int) : List Int := whereF 64 (mayB b person t)

end Go.Ev

/- Chapter 26 of the references: starts. -/
namespace Go.Ev
open Go
variable [Lib] [Has1] [Has2]

def startWs (m : Mine) (starts : List Int) (t : Int) (j : Nat) : List Wh := (List.range j).map fun i => (startF m (nth starts i) t).1
@[simp] theorem startWs_len (m : Mine) (starts : List Int) (t : Int) (j : Nat) : (startWs m starts t j).length = j := by simp [startWs]

def startBel (m : Mine) (tags starts : List Int) (t : Int) : Bel × Int :=
  if tags.length = starts.length ∧ 1 ≤ tags.length ∧ tags.length ≤ 12 then
    if properB tags = true then match (List.range tags.length).find? (fun i => !decide ((startF m (nth starts i) t).2 = 0)) with
      | some i => (⟨[]⟩, (startF m (nth starts i) t).2)
      | none => (⟨[⟨tags, startWs m starts t tags.length⟩]⟩, 0)
    else (⟨[]⟩, 41)
  else (⟨[]⟩, 6)

abbrev stH (m : Mine) (tags : List Int) (r : D) (ws : List Wh) : Heap := [.box (mineCells m), .box [r], .arr 1 false 0 ((tags.map (T.int .i64)).map .t), .box [.ref 2 0 tags.length, .ref 5 0 ws.length], .arr 2 false 0 [], .arr 2 false 0 ((ws.map Wh.e).map .t)]

end Go.Ev

/- Chapter 26 of the references: sights. -/
namespace Go.Ev
open Go
variable [Lib] [Has1] [Has2]

@[go_sem] theorem allS_nil : ([] : List D).all scalarD = true := (rfl)
@[go_sem] theorem allS_cons (d : D) (r : List D) : (d :: r).all scalarD = (scalarD d && r.all scalarD) := (rfl)
@[go_sem] theorem scalarD_agg (cs : List T) : scalarD (.t (.agg cs)) = false := (rfl)
@[go_sem] theorem scalarD_sl (cs : List T) : scalarD (.t (.sl cs)) = false := (rfl)
@[go_sem] theorem scalarD_int (k : IntKind) (n : Int) : scalarD (.t (.int k n)) = true := (rfl)
@[go_sem] theorem scalarD_bool (b : Bool) : scalarD (.t (.bool b)) = true := (rfl)
@[go_sem] theorem set_wh (l : List Wh) (k : Nat) (a : Int) (b : List Int) : (List.map D.t (List.map Wh.e l)).set k (D.t (T.agg [tI a, tL b])) = List.map D.t (List.map Wh.e (l.set k ⟨a, b⟩)) := by
  rw [List.map_set, List.map_set]

/-- What a sight makes of one world: whether it is left out, and the new one. -/
def seeW (m : Mine) (tag : Int) (l : List Int) (a b : Int) (x : World) : Wh × Int := seeF m (nth x.whr (bearerF x.tags tag).toNat) l a b
def putW (tag : Int) (x : World) (w : Wh) : World := ⟨x.tags, x.whr.set (bearerF x.tags tag).toNat w⟩
def stepW (tag : Int) (r : Wh × Int) (x : World) (out : List World) : List World :=
  if r.2 = 43 then out else out ++ [if r.2 = 0 then putW tag x r.1 else x]
def seeNb (m : Mine) (tag : Int) (l : List Int) (a b : Int) (ws : List World) : Nat → List World
  | 0 => []
  | j + 1 => stepW tag (seeW m tag l a b (nth ws j)) (nth ws j) (seeNb m tag l a b ws j)

abbrev seeH (m : Mine) (ws out : List World) : Heap := [.box (mineCells m), .box [.t (.sl (ws.map World.e))], .box [.nil], .box [.ref 4 0 out.length], .arr 2 false 0 ((out.map World.e).map .t)]

def seeBad (m : Mine) (tag : Int) (l : List Int) (a b : Int) (ws : List World) (j : Nat) : Bool := decide ((seeW m tag l a b (nth ws j)).2 = 6 ∨ (seeW m tag l a b (nth ws j)).2 = 8)
def seeBel (m : Mine) (b : Bel) (tag : Int) (l : List Int) (a c : Int) : Bel × Int :=
  if borneF m b tag ≠ 0 then (b, borneF m b tag) else match (List.range b.worlds.length).find? (seeBad m tag l a c b.worlds) with
    | some i => (b, (seeW m tag l a c (nth b.worlds i)).2)
    | none => if (seeNb m tag l a c b.worlds b.worlds.length).length = 0 then (b, 43) else (⟨seeNb m tag l a c b.worlds b.worlds.length⟩, 0)

end Go.Ev

/- Chapter 26 of the references: absences. -/
namespace Go.Ev
open Go
variable [Lib] [Has1] [Has2]

def absW (m : Mine) (tag : Int) (l : List Int) (a b bl : Int) (x : World) : Wh × Int := absF m (nth x.whr (bearerF x.tags tag).toNat) l a b bl
def stepA (tag : Int) (r : Wh × Int) (x : World) (out : List World) : List World := out ++ [if r.2 = 0 then putW tag x r.1 else x]
def absNb (m : Mine) (tag : Int) (l : List Int) (a b bl : Int) (ws : List World) : Nat → List World
  | 0 => []
  | j + 1 => stepA tag (absW m tag l a b bl (nth ws j)) (nth ws j) (absNb m tag l a b bl ws j)
def absBad (m : Mine) (tag : Int) (l : List Int) (a b bl : Int) (ws : List World) (j : Nat) : Bool := decide ((absW m tag l a b bl (nth ws j)).2 = 6 ∨ (absW m tag l a b bl (nth ws j)).2 = 8)
def absBel (m : Mine) (b : Bel) (tag : Int) (l : List Int) (a c bl : Int) : Bel × Int :=
  if borneF m b tag ≠ 0 then (b, borneF m b tag) else match (List.range b.worlds.length).find? (absBad m tag l a c bl b.worlds) with
    | some i => (b, (absW m tag l a c bl (nth b.worlds i)).2)
    | none => (⟨absNb m tag l a c bl b.worlds b.worlds.length⟩, 0)

end Go.Ev

/- Chapter 26 of the references: worlds are tidied. -/
namespace Go.Ev
open Go
variable [Lib] [Has1] [Has2]

abbrev ints (l : List Int) : List D := (l.map (T.int .i64)).map .t
abbrev whs (l : List Wh) : List D := (l.map Wh.e).map .t

/-- Where a world belongs in an ordered list. -/
def tidyK (out : List World) (x : World) : Nat := match (List.range out.length).find? (fun k => !lessB (nth out k).tags x.tags) with
  | some k => k
  | none => out.length
def joinN (a b : List Wh) : Nat → List Wh
  | 0 => a
  | p + 1 => (joinN a b p).set p (joinF (nth a p) (nth b p)).1
def joinWs (a b : List Wh) : List Wh := joinN a b (min a.length b.length)
def tidy1 (out : List World) (x : World) : List World :=
  if tidyK out x < out.length ∧ (nth out (tidyK out x)).tags = x.tags then out.set (tidyK out x) ⟨x.tags, joinWs (nth out (tidyK out x)).whr x.whr⟩
  else out.take (tidyK out x) ++ [x] ++ out.drop (tidyK out x)
def tidyN (l : List World) : Nat → List World
  | 0 => []
  | j + 1 => tidy1 (tidyN l j) (nth l j)
def tidyF (l : List World) : List World := tidyN l l.length

/-- A list of worlds in a heap: an array of pairs of arrays. -/
structure Rp (H : Heap) (id : Nat) (es : List D) (fa fb : Nat → Nat) (out : List World) : Prop where
  arr : H[id]? = some (.arr 2 false 0 es)
  len : es.length = out.length
  el : ∀ j, j < out.length → es[j]? = some (.agg [.ref (fa j) 0 (nth out j).tags.length, .ref (fb j) 0 (nth out j).whr.length])
  ha : ∀ j, j < out.length → H[fa j]? = some (.arr 1 false 0 (ints (nth out j).tags))
  hb : ∀ j, j < out.length → H[fb j]? = some (.arr 2 false 0 (whs (nth out j).whr))
  na : ∀ j, j < out.length → fa j ≠ id
  nb : ∀ j, j < out.length → fb j ≠ id
  nab : ∀ i j, i < out.length → j < out.length → fa i ≠ fb j
  nbb : ∀ i j, i < out.length → j < out.length → i ≠ j → fb i ≠ fb j

def Rep (H : Heap) (v : D) (out : List World) : Prop := (v = .nil ∧ out = []) ∨ ∃ id es fa fb, v = .ref id 0 out.length ∧ 0 < out.length ∧ Rp H id es fa fb out

@[go_sem] theorem joinT_eq (a b : Wh) : (joinF a b).1.e = .agg [tI (joinF a b).1.time, tL (joinF a b).1.frm] := rfl

theorem Rp.size {H : Heap} {id : Nat} {es : List D} {fa fb : Nat → Nat} {out : List World} (hr : Rp H id es fa fb out) : ∀ e ∈ es, e.cells.length = 2 := by
  intro e he
  obtain ⟨j, hj⟩ := List.mem_iff_getElem?.1 he
  have hl := (List.getElem?_eq_some_iff.1 hj).1
  rw [hr.el j (by rw [← hr.len]; exact hl)] at hj
  cases hj; rfl

theorem set_nth {α : Type} [Dat α] (l : List α) (k : Nat) (hk : k < l.length) (x : α) (j : Nat) : nth (l.set k x) j = if j = k then x else nth l j := by
  unfold nth
  rw [List.getD_eq_getElem?_getD]
  by_cases h : j = k
  · rw [if_pos h, h, List.getElem?_set_self hk]; rfl
  · rw [if_neg h, List.getElem?_set_ne (fun e => h e.symm), List.getD_eq_getElem?_getD]

theorem Rp.merge {H : Heap} {id : Nat} {es : List D} {fa fb : Nat → Nat} {out : List World} (hr : Rp H id es fa fb out) {k : Nat} (hk : k < out.length) (x : World) (ht : (nth out k).tags = x.tags) (hw : x.whr.length = (nth out k).whr.length) :
    Rp (H.set (fb k) (.arr 2 false 0 (whs x.whr))) id es fa fb (out.set k x) := by
  have ol : (out.set k x).length = out.length := List.length_set
  have nk := hr.nb k hk
  have kl := hp_lt (hr.hb k hk)
  refine ⟨by rw [hp_set_ne nk]; exact hr.arr, by rw [ol]; exact hr.len, ?_, ?_, ?_, by rw [ol]; exact hr.na, by rw [ol]; exact hr.nb, by rw [ol]; exact hr.nab, by rw [ol]; exact hr.nbb⟩
  · intro j hj
    rw [ol] at hj
    rw [hr.el j hj, set_nth out k hk]
    by_cases h : j = k
    · rw [if_pos h, h, ht, hw]
    · rw [if_neg h]
  · intro j hj
    rw [ol] at hj
    rw [hp_set_ne (fun e => hr.nab j k hj hk e.symm), hr.ha j hj, set_nth out k hk]
    by_cases h : j = k
    · rw [if_pos h, h, ht]
    · rw [if_neg h]
  · intro j hj
    rw [ol] at hj
    rw [set_nth out k hk]
    by_cases h : j = k
    · rw [if_pos h, h, hp_set_get kl]
    · rw [if_neg h, hp_set_ne (fun e => hr.nbb j k hj hk h e.symm)]; exact hr.hb j hj

theorem Rp.frz {H : Heap} {id : Nat} {es : List D} {fa fb : Nat → Nat} {out : List World} (hr : Rp H id es fa fb out) :
    mapO (frz H 8) es = some (out.map World.e) ∧ ∀ i ∈ es.flatMap (arrs H 8), i ≠ id := by
  have hl := hr.len
  have key : ∀ (j : Nat) (hj : j < out.length), Go.Ev.frz H 8 (.agg [.ref (fa j) 0 (nth out j).tags.length, .ref (fb j) 0 (nth out j).whr.length]) = some (nth out j).e ∧
      arrs H 8 (.agg [.ref (fa j) 0 (nth out j).tags.length, .ref (fb j) 0 (nth out j).whr.length]) = [fa j, fb j] := by
    intro j hj
    have h1 := hr.ha j hj
    have h2 := hr.hb j hj
    simp (disch := omega) only [go_sem, h1, h2, ints, whs, ↓reduceIte]
  constructor
  · have : ∀ (es : List D) (ts : List T), es.length = ts.length → (∀ (j : Nat) e t, es[j]? = some e → ts[j]? = some t → Go.Ev.frz H 8 e = some t) → mapO (Go.Ev.frz H 8) es = some ts := by
      intro es
      induction es with
      | nil => intro ts h _; cases ts with
        | nil => rfl
        | cons => simp at h
      | cons e es ih =>
        intro ts h hh
        cases ts with
        | nil => simp at h
        | cons t ts =>
          have h1 := hh 0 e t rfl rfl
          have h2 := ih ts (by simpa using h) fun j e t he ht => hh (j + 1) e t (by simpa using he) (by simpa using ht)
          simp only [mapO, h1, Option.bind_some, h2, Option.map_some]
    refine this es _ (by rw [List.length_map, hl]) fun j e t he ht => ?_
    have hj : j < out.length := by rw [← hl]; exact (List.getElem?_eq_some_iff.1 he).1
    rw [hr.el j hj] at he
    rw [map_nth _ hj] at ht
    cases he; cases ht
    exact (key j hj).1
  · intro i hi
    obtain ⟨e, he, hi⟩ := List.mem_flatMap.1 hi
    obtain ⟨j, hj⟩ := List.mem_iff_getElem?.1 he
    have hjl : j < out.length := by rw [← hl]; exact (List.getElem?_eq_some_iff.1 hj).1
    rw [hr.el j hjl] at hj
    cases hj
    rw [(key j hjl).2] at hi
    simp only [List.mem_cons, List.not_mem_nil, or_false] at hi
    rcases hi with rfl | rfl
    · exact hr.na j hjl
    · exact hr.nb j hjl

end Go.Ev

/- Chapter 26 of the references: exchanges. -/
namespace Go.Ev
open Go
variable [Lib] [Has1] [Has2]

@[go_sem] theorem map2_nth_set {α β γ : Type} [Dat α] (f : β → γ) (g : α → β) {l : List α} {i j : Nat} {x : α} (h : j < l.length) : (((l.set i x).map g).map f)[j]? = some (f (g (nth (l.set i x) j))) := map2_nth f g (by rw [List.length_set]; exact h)

def swapL (l : List Int) (i j : Nat) : List Int := (l.set i (nth l j)).set j (nth l i)
def exchW (i j : Nat) (t : Int) (x : World) : World := ⟨swapL x.tags i j, (x.whr.set i (raiseF (nth x.whr i) t).1).set j (raiseF (nth x.whr j) t).1⟩
def exchS (i j : Nat) (t : Int) (x : World) (out : List World) : List World := if meetB (nth x.whr i) (nth x.whr j) t = true then out ++ [exchW i j t x] else out
def exchNb (i j : Nat) (t : Int) (ws : List World) : Nat → List World
  | 0 => ws
  | k + 1 => exchS i j t (nth ws k) (exchNb i j t ws k)
def exchBel (m : Mine) (b : Bel) (i j t : Int) : Bel × Int :=
  if belB m b = false then (b, 6) else if i < 0 ∨ ((nth b.worlds 0).tags.length : Int) ≤ i ∨ j < 0 ∨ ((nth b.worlds 0).tags.length : Int) ≤ j ∨ i = j then (b, 19)
  else if ¬ inT t then (b, 8) else if 24 < (tidyF (exchNb i.toNat j.toNat t b.worlds b.worlds.length)).length then (b, 44) else (⟨tidyF (exchNb i.toNat j.toNat t b.worlds b.worlds.length)⟩, 0)

abbrev exH (m : Mine) (ws out : List World) : Heap := [.box (mineCells m), .box [.t (.sl (ws.map World.e))], .box [.nil], .arr 2 false 0 ((out.map World.e).map .t)]

end Go.Ev

/- Made inputs: beliefs. -/
namespace Go.Ev
open Go
variable [Lib] [Has1] [Has2]

def tagsN : Nat → List Int
  | 0 => []
  | k + 1 => tagsN k ++ [3 + (k : Int) * 2]
def Dice.nextsN (d : Dice) (n : Int) : Nat → List Int × Dice
  | 0 => ([], d)
  | k + 1 => ((d.nextsN n k).1 ++ [((d.nextsN n k).2.next n).1], ((d.nextsN n k).2.next n).2)
structure BSt where
  b : Bel
  t : Int
  d : Dice

def Dice.belStep (m : Mine) (n : Int) (s : BSt) : BSt :=
  let a := s.d.next 60
  let c := a.2.next 3
  if c.1 = 0 then
    let i := c.2.next n
    let j := i.2.next n
    let r := exchBel m s.b i.1 j.1 (s.t + a.1)
    ⟨if r.2 = 0 then r.1 else s.b, s.t + a.1, j.2⟩
  else if c.1 = 1 then
    let g := c.2.next n
    let l := g.2.someN m.places.length
    let e := l.2.next 9
    let r := seeBel m s.b (3 + 2 * g.1) l.1 (s.t + a.1) (s.t + a.1 + e.1)
    ⟨if r.2 = 0 then r.1 else s.b, s.t + a.1, e.2⟩
  else
    let g := c.2.next n
    let l := g.2.someN m.places.length
    let e := l.2.next 40
    let r := absBel m s.b (3 + 2 * g.1) l.1 (s.t + a.1) (s.t + a.1 + 50) e.1
    ⟨if r.2 = 0 then r.1 else s.b, s.t + a.1, e.2⟩
def Dice.belN (m : Mine) (n : Int) (s : BSt) : Nat → BSt
  | 0 => s
  | k + 1 => Dice.belStep m n (Dice.belN m n s k)

def Dice.belP (d : Dice) : Nat := (1 + (d.next 3).1).toNat
def Dice.belS (d : Dice) (m : Mine) : List Int × Dice := (d.next 3).2.nextsN m.places.length d.belP
def Dice.bel0 (d : Dice) (m : Mine) : BSt := ⟨(startBel m (tagsN d.belP) (d.belS m).1 ((d.belS m).2.next 100).1).1, 100, (((d.belS m).2.next 100).2.next 5).2⟩
def Dice.belK (d : Dice) (m : Mine) : Nat := (((d.belS m).2.next 100).2.next 5).1.toNat
def Dice.belF (d : Dice) (m : Mine) : BSt := Dice.belN m d.belP (d.bel0 m) (d.belK m)
def Dice.belief (d : Dice) (m : Mine) : Bel × Dice := ((d.belF m).b, (d.belF m).d)

/-- What beliefs keep: sizes. -/
structure WOk (m : Mine) (N : Nat) (x : World) : Prop where
  tg : x.tags.length = N
  wh : x.whr.length = N
  fr : ∀ w ∈ x.whr, w.frm.length = m.places.length
  ti : ∀ w ∈ x.whr, inT w.time
structure BOk (m : Mine) (N : Nat) (b : Bel) : Prop where
  w1 : 1 ≤ b.worlds.length
  w2 : b.worlds.length ≤ 24
  n1 : 1 ≤ N
  n2 : N ≤ 12
  ws : ∀ x ∈ b.worlds, WOk m N x

theorem WOk.sz {m : Mine} {N : Nat} {x : World} (h : WOk m N x) (hm : m.ok) (hn : N ≤ 12) : x.sz := by
  have np := hm.np
  obtain ⟨t1, t2, t3, -⟩ := h
  exact ⟨by omega, by omega, fun w hw => by rw [t3 w hw]; omega⟩
theorem BOk.sz {m : Mine} {N : Nat} {b : Bel} (h : BOk m N b) (hm : m.ok) : b.sz :=
  ⟨by have := h.w2; omega, fun x hx => (h.ws x hx).sz hm h.n2⟩

abbrev blH (m : Mine) (p1 p2 : Bool) (tags starts : List Int) (s : BSt) : Heap := [s.d.obj, .box (mineCells m), .box [.nil], .arr 1 p1 0 (ints tags), .arr 1 p2 0 (ints starts), .box [.t (.sl (s.b.worlds.map World.e))]]

end Go.Ev

/- Made inputs: beliefs and smoke, by the code. -/
namespace Go.Ev
open Go
variable [Lib] [Has1] [Has2]

end Go.Ev

/- Made inputs: smoke that spreads; machines. -/
namespace Go.Ev
open Go
variable [Lib] [Has1] [Has2]

def Dice.spread (d : Dice) (m : Mine) (fl : List Spn) : Wh × Dice :=
  let p := d.next m.places.length
  let t := p.2.next 200
  let s := startS m fl [p.1] t.1
  let o := t.2.one 2
  if o.1 = true then
    let f := o.2.flows m
    let a := f.2.next 100
    let r := changeS m fl m f.1 s.1 (s.1.time + a.1)
    if r.2 = 0 then (r.1, a.2) else (s.1, a.2)
  else (s.1, o.2)

theorem Dice.spread_light {d : Dice} (h : d.light) (m : Mine) (fl : List Spn) : (d.spread m fl).2.light := by
  unfold Dice.spread
  simp only
  have l3 := Dice.one_light (Dice.next_light (Dice.next_light h m.places.length) 200) 2
  split
  · have := Dice.next_light (Dice.flowsN_light l3 m.roads.length) 100
    split <;> exact this
  · exact l3

theorem closeS_len {m : Mine} (hm : m.ok) {fl : List Spn} (hfl : flowsB m fl = true) {l : List Int} (hl : l.length = m.places.length) (hb : bnd l) : (closeS m fl l).length = m.places.length := by
  unfold closeS
  rw [capN_len]
  exact (closeS_ok hm fl hfl l hl hb).2.1

theorem startS_bd {m : Mine} (hm : m.ok) (fl : List Spn) (l : List Int) (t : Int) : ((startS m fl l t).1.time = 0 ∨ (startS m fl l t).1.time = t) ∧ (startS m fl l t).1.frm.length ≤ m.places.length := by
  unfold startS
  split
  · simp
  · split
    · simp
    · split
      · simp
      · rename_i h1 h2 h3
        have h3 : inT t := by simpa using h3
        exact ⟨.inr rfl, Nat.le_of_eq (closeS_len hm (by simpa using h1) (initS_len _ _ _) (initS_bnd _ h3 _))⟩

theorem setB_one {p : Int} {n : Nat} (h0 : 0 ≤ p) (h1 : p < n) : setB [p] n = true := by
  simp only [setB, List.all_eq_true, List.mem_range, decide_eq_true_eq]
  intro j hj
  obtain rfl : j = 0 := by simpa using hj
  exact ⟨h0, h1, fun h => absurd h (by omega)⟩
theorem startS_good {m : Mine} (hm : m.ok) {fl : List Spn} (hf : flowsB m fl = true) {l : List Int} (hl : setB l m.places.length = true) {t : Int} (ht : inT t) :
    (startS m fl l t).2 = 0 ∧ (startS m fl l t).1.time = t ∧ (startS m fl l t).1.frm.length = m.places.length := by
  unfold startS
  rw [if_neg (by simp [hf]), if_neg (by simp [hl]), if_neg (fun h => h ht)]
  exact ⟨rfl, rfl, closeS_len hm hf (initS_len _ _ _) (initS_bnd _ ht _)⟩
theorem changeS_good {m : Mine} {old : List Spn} {next : Mine} (hn : next.ok) {fl : List Spn} {s : Wh} {t : Int} (hm : m.ok) (h : (changeS m old next fl s t).2 = 0) :
    (changeS m old next fl s t).1.frm.length = next.places.length ∧ (changeS m old next fl s t).1.time = t ∧ inT t := by
  unfold changeS at h ⊢
  split at h
  · simp at h
  · rename_i h1
    rw [if_neg h1]
    split at h
    · simp at h
    · rename_i h2
      rw [if_neg h2]
      have v : validS m s = true := by cases hv : validS m s; exact absurd (.inl hv) h1; rfl
      have f : flowsB next fl = true := by cases hv : flowsB next fl; exact absurd (.inr (.inr (.inl hv))) h1; rfl
      have pl : next.places.length = m.places.length := Classical.byContradiction fun hv => h1 (.inr (.inr (.inr hv)))
      obtain ⟨v1, v2, v3⟩ := validS_spec v
      have it : inT t := by unfold inT at *; omega
      have hb : bnd s.frm := fun x hx => by
        have h3 := v3 x hx
        unfold plS at h3; unfold inT at v2; omega
      have cl := chN_len m old s.frm t m.roads.length
      have cb := chN_bnd hm old v1 hb it m.roads.length (Nat.le_refl _)
      have ml := maxN_len t (chN m old s.frm t m.roads.length) m.places.length
      have mb := maxN_bnd it cb m.places.length (by omega)
      exact ⟨closeS_len hn f (by omega) mb, rfl, it⟩

theorem Dice.spread_good {d : Dice} {m : Mine} (hm : m.ok) (h1 : 1 ≤ m.places.length) {fl : List Spn} (hf : flowsB m fl = true) :
    (d.spread m fl).1.frm.length = m.places.length ∧ 0 ≤ (d.spread m fl).1.time ∧ (d.spread m fl).1.time ≤ 300 := by
  unfold Dice.spread
  simp only
  have p0 := d.next_lo m.places.length
  have p9 := d.next_hi (n := m.places.length) (by omega)
  generalize d.next m.places.length = r1 at *
  obtain ⟨p, d1⟩ := r1
  simp only at p0 p9 ⊢
  have t0 := d1.next_lo 200
  have t9 := d1.next_hi (n := 200) (by omega)
  generalize d1.next 200 = r2 at *
  obtain ⟨t, d2⟩ := r2
  simp only at t0 t9 ⊢
  obtain ⟨g1, g2, g3⟩ := startS_good hm hf (setB_one p0 p9) (t := t) ⟨by omega, by omega⟩
  split
  · have u0 := ((d2.one 2).2.flows m).2.next_lo 100
    have u9 := ((d2.one 2).2.flows m).2.next_hi (n := 100) (by omega)
    split
    · rename_i h
      obtain ⟨c1, c2, c3⟩ := changeS_good hm hm h
      refine ⟨c1, ?_, ?_⟩ <;> (rw [c2, g2]; omega)
    · exact ⟨g3, by rw [g2]; omega, by rw [g2]; omega⟩
  · exact ⟨g3, by rw [g2]; omega, by rw [g2]; omega⟩

theorem spread_ok {m : Mine} (hm : m.ok) (h1 : 1 ≤ m.places.length) (fl : List Spn) (hf : fl.length ≤ 1000) (d : Dice) (hd : d.light) :
    CALL 0 N.made_Dice_Spread [.bp 0 0, .t m.e, .t (tS fl)] [d.obj] = some (.t (d.spread m fl).1.e, [(d.spread m fl).2.obj]) := by
  refine CALL_of K.t_made_Dice_Spread rfl ?_
  unfold Dice.spread
  simp only
  have np := hm.np
  have nr := hm.nr
  have a1 := next_ok d m.places.length (by omega) hd
  have l1 := Dice.next_light hd m.places.length
  generalize d.next m.places.length = r1 at *
  obtain ⟨p, d1⟩ := r1
  simp only at a1 l1 ⊢
  have a2 := next_ok d1 200 (by omega) l1
  have l2 := Dice.next_light l1 200
  have t0 := d1.next_lo 200
  have t9 := d1.next_hi (n := 200) (by omega)
  generalize d1.next 200 = r2 at *
  obtain ⟨t, d2⟩ := r2
  simp only at a2 l2 t0 t9 ⊢
  have st := startS_ok hm fl (by omega) [p] (by simp) t
  have a3 := one_ok d2 2 (by omega) (by omega) l2
  have l3 := Dice.one_light l2 2
  generalize d2.one 2 = r3 at *
  obtain ⟨o, d3⟩ := r3
  simp only at a3 l3 ⊢
  have sT : 0 ≤ (startS m fl [p] t).1.time ∧ (startS m fl [p] t).1.time ≤ 200 ∧ (startS m fl [p] t).1.frm.length ≤ 1000000 := by
    obtain ⟨b1, b2⟩ := startS_bd hm fl [p] t
    omega
  generalize startS m fl [p] t = s at *
  obtain ⟨⟨sti, sfr⟩, se⟩ := s
  simp only [tL, List.map_cons, List.map_nil] at st sT ⊢
  cases o with
  | false =>
    simp (disch := omega) only [go_sem, K.made_Dice_Spread, ↓reduceIte, a1, a2, a3, st, Nat.reduceAdd, Nat.reduceSub, Bool.false_eq_true]
  | true =>
    simp only [↓reduceIte]
    have a4 := flowsD_ok d3 l3 m (by omega)
    have l4 : (d3.flows m).2.light := Dice.flowsN_light l3 _
    have n4 : (d3.flows m).1.length = m.roads.length := Dice.flowsN_len _ _
    generalize d3.flows m = r4 at *
    obtain ⟨fl2, d4⟩ := r4
    simp only at a4 l4 n4 ⊢
    have a5 := next_ok d4 100 (by omega) l4
    have u0 := d4.next_lo 100
    have u9 := d4.next_hi (n := 100) (by omega)
    generalize d4.next 100 = r5 at *
    obtain ⟨u, d5⟩ := r5
    simp only at a5 u0 u9 ⊢
    have ch := changeS_ok hm fl (by omega) hm fl2 (by omega) ⟨sti, sfr⟩ (by simp only; omega) (sti + u)
    generalize changeS m fl m fl2 ⟨sti, sfr⟩ (sti + u) = c at *
    obtain ⟨⟨ct, cf⟩, ce⟩ := c
    simp only at ch ⊢
    by_cases e : ce = 0
    · simp (disch := omega) only [go_sem, K.made_Dice_Spread, ↓reduceIte, a1, a2, a3, a4, a5, st, ch, e, Nat.reduceAdd, Nat.reduceSub]
    · simp (disch := omega) only [go_sem, K.made_Dice_Spread, ↓reduceIte, a1, a2, a3, a4, a5, st, ch, e, Nat.reduceAdd, Nat.reduceSub]

/-- Machines. -/
structure Mch where
  kind : Int
  num : Int
  pl : List Int
instance : Dat Mch := ⟨⟨0, 0, []⟩⟩
abbrev Mch.e (x : Mch) : T := .agg [tI x.kind, tI x.num, tL x.pl]
@[go_sem] theorem appOK_mch (l : List Mch) : appOK 3 (l.map Mch.e) = true := by cases l <;> rfl

def Dice.mch (d : Dice) (n : Nat) : Mch × Dice :=
  let a := d.next 2
  let b := a.2.next 5
  let l := b.2.someN n
  if l.1.length = 0 then (⟨1 + a.1, b.1, [(l.2.next n).1]⟩, (l.2.next n).2) else (⟨1 + a.1, b.1, l.1⟩, l.2)
def Dice.mchN (d : Dice) (n : Nat) : Nat → List Mch × Dice
  | 0 => ([], d)
  | k + 1 => ((d.mchN n k).1 ++ [((d.mchN n k).2.mch n).1], ((d.mchN n k).2.mch n).2)
def Dice.mchs (d : Dice) (n : Nat) : List Mch × Dice := (d.next 4).2.mchN n (d.next 4).1.toNat

end Go.Ev

/- The program: possible places of persons; places with smoke; the fire rules. -/
namespace Go.Ev
open Go
variable [Lib] [Has1] [Has2]

theorem filled1_ok (s : Wh) (t : Int) (k : Nat) (hk : k < s.frm.length) : CALL 0 N.smoke_Filled_1 [I k, .bp 0 0, .bp 1 0] [.box [I s.time, .t (tL s.frm)], .box [I t]] = some (B (decide (nth s.frm k ≤ t)), [.box [I s.time, .t (tL s.frm)], .box [I t]]) := by
  refine CALL_of K.t_smoke_Filled_1 rfl ?_
  simp (disch := omega) only [go_sem, K.smoke_Filled_1, ↓reduceIte, Nat.reduceAdd, Nat.reduceSub]

theorem filled_ok (s : Wh) (t : Int) (hl : s.frm.length ≤ 1000000) : CALL 0 N.smoke_Filled [.t s.e, I t] [] = some (.t (tL (possF s t)), []) := by
  refine CALL_of K.t_smoke_Filled rfl ?_
  have wh := where_ok s.frm.length hl N.smoke_Filled_1 [[tI s.time, tL s.frm], [tI t]] (fun k => decide (nth s.frm k ≤ t)) (fun k hk => filled1_ok s t k hk)
  have wh : CALL 0 N.lists_Where [I s.frm.length, .fn N.smoke_Filled_1 [.bp 0 0, .bp 1 0]] [.box [I s.time, .t (tL s.frm)], .box [I t]] = some (.t (tL (possF s t)), [.box [I s.time, .t (tL s.frm)], .box [I t]]) := wh
  obtain ⟨time, frm⟩ := s
  simp only at hl wh
  generalize possF ⟨time, frm⟩ t = r at *
  simp (disch := omega) only [go_sem, K.smoke_Filled, ↓reduceIte, wh, Nat.reduceAdd, Nat.reduceSub]

def mayW (person t : Int) (p : Nat) (x : World) : Bool := decide (0 ≤ person ∧ person < x.whr.length) && (decide (p < (nth x.whr person.toNat).frm.length) && decide (nth (nth x.whr person.toNat).frm p ≤ t))

def meetsB (a b : List Int) : Bool := a.any fun p => decide (p ∈ b)
def nearF (x : Mch) (b : Bel) (t : Int) : List Int := if b.worlds.length = 0 then [] else whereF (nth b.worlds 0).whr.length fun i => meetsB (possB b i t) x.pl
def cmdF (x : Mch) (s : Wh) (b : Bel) (t ahead : Int) : Int :=
  if meetsB (possF s t) x.pl = true then 2 else if meetsB (possF s (t + ahead)) x.pl = true then 1
  else if x.kind = 2 ∧ (possF s (t + ahead)).length ≠ 0 ∧ (nearF x b (t + ahead)).length ≠ 0 then 3 else 0

def drawnF (x : Mch) (s : Wh) (b : Bel) (t ahead : Int) : List Int := if cmdF x s b t ahead = 2 ∨ cmdF x s b t ahead = 1 then nearF x b (t + ahead) else []
end Go.Ev

/- SmokeRuns. -/
namespace Go.Ev
open Go
variable [Lib] [Has1] [Has2] [Has3] [Has4] [Has6] [Has7]

abbrev srS (e : Dice) (m : Mine) (fl : List Spn) (s : Wh) (p now k : Int) : St :=
  ⟨[.und, .und, .bp 0 0, .bp 1 0, .t (tS fl), I p, .bp 2 0, I 0, I now, I k, .und, .und, .und, .und, .und, .und], [e.obj, .box (mineCells m), .box [I s.time, .t (tL s.frm)]]⟩
def srP (m : Mine) (n j : Nat) (st : St) : Prop := ∃ (e : Dice) (fl : List Spn) (s : Wh) (p now : Int), st = srS e m fl s p now ((n : Int) - j) ∧ e.light ∧ fl.length = m.roads.length ∧ (∀ x ∈ fl, x.ok) ∧
  SGood m fl s ∧ s.time ≤ now ∧ 0 ≤ p ∧ p < m.places.length ∧ nth s.frm p.toNat ≤ now ∧ 0 ≤ now ∧ now ≤ (j : Int) * 100050

end Go.Ev

/- Smoke: the program and the reference agree. -/
namespace Go.Ev
open Go
variable [Lib] [Has1] [Has2] [Has3] [Has4] [Has6] [Has7]

def freeF (s : Wh) (t : Int) : List Int := whereF s.frm.length fun k => decide (t < nth s.frm k)
theorem free1_ok (s : Wh) (t : Int) (k : Nat) (hk : k < s.frm.length) : CALL 0 N.smoke_Free_1 [I k, .bp 0 0, .bp 1 0] [.box [I s.time, .t (tL s.frm)], .box [I t]] = some (B (decide (t < nth s.frm k)), [.box [I s.time, .t (tL s.frm)], .box [I t]]) := by
  refine CALL_of K.t_smoke_Free_1 rfl ?_
  simp (disch := omega) only [go_sem, K.smoke_Free_1, ↓reduceIte, Nat.reduceAdd, Nat.reduceSub]
theorem free_ok (s : Wh) (t : Int) (hl : s.frm.length ≤ 1000000) : CALL 0 N.smoke_Free [.t s.e, I t] [] = some (.t (tL (freeF s t)), []) := by
  refine CALL_of K.t_smoke_Free rfl ?_
  have wh := where_ok s.frm.length hl N.smoke_Free_1 [[tI s.time, tL s.frm], [tI t]] (fun k => decide (t < nth s.frm k)) (fun k hk => free1_ok s t k hk)
  have wh : CALL 0 N.lists_Where [I s.frm.length, .fn N.smoke_Free_1 [.bp 0 0, .bp 1 0]] [.box [I s.time, .t (tL s.frm)], .box [I t]] = some (.t (tL (freeF s t)), [.box [I s.time, .t (tL s.frm)], .box [I t]]) := wh
  obtain ⟨time, frm⟩ := s
  simp only at hl wh
  generalize freeF ⟨time, frm⟩ t = r at *
  simp (disch := omega) only [go_sem, K.smoke_Free, ↓reduceIte, wh, Nat.reduceAdd, Nat.reduceSub]
theorem rFilled_ok (s : Wh) (t : Int) (hl : s.frm.length ≤ 1000000) : CALL 0 N.ref28_Filled [.t s.e, I t] [] = some (.t (tL (possF s t)), []) := by
  refine CALL_of K.t_ref28_Filled rfl ?_
  unfold possF
  obtain ⟨time, frm⟩ := s
  simp only at hl ⊢
  have wl := fun k => whereF_len k (fun k => decide (nth frm k ≤ t))
  have ws := fun k => whereF_succ k (fun k => decide (nth frm k ≤ t))
  have l1 : ∀ z0 z3 : D, exS CALL K.ref28_Filled_l1 ⟨[z0, I t, .bp 0 0, z3, .ref 1 0 0, I 0], [.box [I time, .t (tL frm)], .arr 1 false 0 []]⟩ =
      some (.exit 0, ⟨[.und, I t, .bp 0 0, .und, .ref 1 0 (whereF frm.length (fun k => decide (nth frm k ≤ t))).length, I frm.length], [.box [I time, .t (tL frm)], .arr 1 false 0 (((whereF frm.length (fun k => decide (nth frm k ≤ t))).map (T.int .i64)).map .t)]⟩) := by
    intro z0 z3
    refine loop_up (fun j => ⟨[.und, I t, .bp 0 0, .und, .ref 1 0 (whereF j (fun k => decide (nth frm k ≤ t))).length, I j], [.box [I time, .t (tL frm)], .arr 1 false 0 (((whereF j (fun k => decide (nth frm k ≤ t))).map (T.int .i64)).map .t)]⟩) frm.length rfl ?_ ?_ (by simp)
    · intro j hj
      have wj := wl j
      have sj := ws j
      by_cases c : nth frm j ≤ t
      · simp only [c, decide_true, ↓reduceIte] at sj
        simp only [sj]
        generalize whereF j (fun k => decide (nth frm k ≤ t)) = w at *
        simp (disch := omega) only [go_sem, K.ref28_Filled_l1b, ↓reduceIte, c, Nat.reduceAdd, Nat.reduceSub]
      · simp only [c, decide_false, Bool.false_eq_true, ↓reduceIte] at sj
        simp only [sj]
        generalize whereF j (fun k => decide (nth frm k ≤ t)) = w at *
        simp (disch := omega) only [go_sem, K.ref28_Filled_l1b, ↓reduceIte, c, Nat.reduceAdd, Nat.reduceSub]
    · simp (disch := omega) only [go_sem, K.ref28_Filled_l1b, ↓reduceIte, Nat.reduceAdd, Nat.reduceSub]
  simp (disch := omega) only [go_sem, K.ref28_Filled, ↓reduceIte, l1, Nat.reduceAdd, Nat.reduceSub]
theorem rFree_ok (s : Wh) (t : Int) (hl : s.frm.length ≤ 1000000) : CALL 0 N.ref28_Free [.t s.e, I t] [] = some (.t (tL (freeF s t)), []) := by
  refine CALL_of K.t_ref28_Free rfl ?_
  unfold freeF
  obtain ⟨time, frm⟩ := s
  simp only at hl ⊢
  have wl := fun k => whereF_len k (fun k => decide (t < nth frm k))
  have ws := fun k => whereF_succ k (fun k => decide (t < nth frm k))
  have l1 : ∀ z0 z3 : D, exS CALL K.ref28_Free_l1 ⟨[z0, I t, .bp 0 0, z3, .ref 1 0 0, I 0], [.box [I time, .t (tL frm)], .arr 1 false 0 []]⟩ =
      some (.exit 0, ⟨[.und, I t, .bp 0 0, .und, .ref 1 0 (whereF frm.length (fun k => decide (t < nth frm k))).length, I frm.length], [.box [I time, .t (tL frm)], .arr 1 false 0 (((whereF frm.length (fun k => decide (t < nth frm k))).map (T.int .i64)).map .t)]⟩) := by
    intro z0 z3
    refine loop_up (fun j => ⟨[.und, I t, .bp 0 0, .und, .ref 1 0 (whereF j (fun k => decide (t < nth frm k))).length, I j], [.box [I time, .t (tL frm)], .arr 1 false 0 (((whereF j (fun k => decide (t < nth frm k))).map (T.int .i64)).map .t)]⟩) frm.length rfl ?_ ?_ (by simp)
    · intro j hj
      have wj := wl j
      have sj := ws j
      by_cases c : t < nth frm j
      · simp only [c, decide_true, ↓reduceIte] at sj
        simp only [sj]
        generalize whereF j (fun k => decide (t < nth frm k)) = w at *
        simp (disch := omega) only [go_sem, K.ref28_Free_l1b, ↓reduceIte, c, Nat.reduceAdd, Nat.reduceSub]
      · simp only [c, decide_false, Bool.false_eq_true, ↓reduceIte] at sj
        simp only [sj]
        generalize whereF j (fun k => decide (t < nth frm k)) = w at *
        simp (disch := omega) only [go_sem, K.ref28_Free_l1b, ↓reduceIte, c, Nat.reduceAdd, Nat.reduceSub]
    · simp (disch := omega) only [go_sem, K.ref28_Free_l1b, ↓reduceIte, Nat.reduceAdd, Nat.reduceSub]
  simp (disch := omega) only [go_sem, K.ref28_Free, ↓reduceIte, l1, Nat.reduceAdd, Nat.reduceSub]
theorem rSame_ok (s : Wh) (hl : s.frm.length ≤ 1000000) : CALL 0 N.ref28_Same [.t s.e, .t s.e] [] = some (B true, []) := by
  refine CALL_of K.t_ref28_Same rfl ?_
  have e := same_ok s.frm s.frm (by omega)
  rw [decide_eq_true rfl] at e
  obtain ⟨time, frm⟩ := s
  simp only at e hl
  simp (disch := omega) only [go_sem, K.ref28_Same, ↓reduceIte, e, Nat.reduceAdd, Nat.reduceSub]
end Go.Ev

/- SmokeMade. -/
namespace Go.Ev
open Go
variable [Lib] [Has1] [Has2] [Has3] [Has4] [Has6] [Has7]

theorem changeS_l {m : Mine} (hm : m.ok) {old : List Spn} {next : Mine} (hn : next.ok) {fl : List Spn} {s : Wh} {t : Int} (hs : s.frm.length ≤ 1000000) : (changeS m old next fl s t).1.frm.length ≤ 1000000 := by
  by_cases h : (changeS m old next fl s t).2 = 0
  · have := (changeS_good hn hm h).1
    have := hn.np
    omega
  · have : (changeS m old next fl s t).1 = s := by
      unfold changeS at h ⊢
      split
      · rfl
      · split
        · rfl
        · rename_i h1 h2
          rw [if_neg h1, if_neg h2] at h
          exact absurd rfl h
    rw [this]; exact hs
theorem agree28_ok {m : Mine} (hm : m.ok) (h1 : 1 ≤ m.places.length) (old : List Spn) (ho : old.length ≤ 1000000) {next : Mine} (hn : next.ok) (fl : List Spn) (hf : fl.length ≤ 1000000) (s : Wh) (hs : s.frm.length ≤ 1000000) (l : List Int) (hl : l.length ≤ 1000000) (t : Int) :
    CALL 0 N.law28_agree [.t m.e, .t (tS old), .t next.e, .t (tS fl), .t s.e, .t (tL l), I t] [] = some (B true, []) := by
  refine CALL_of K.t_law28_agree rfl ?_
  have a := smokeStart_ok hm h1 old ho l hl t
  have b := startS_ok hm old ho l hl t
  have c := smokeChange_ok hm old ho hn fl hf s hs t
  have d := changeS_ok hm old ho hn fl hf s hs t
  have v1 := sValid_ok hm s hs
  have v2 := validS_ok hm s hs
  have np := hm.np
  have sa := rSame_ok (startS m old l t).1 (by have := (startS_bd hm old l t).2; omega)
  have sb := rSame_ok (changeS m old next fl s t).1 (changeS_l hm hn hs)
  have f1 := filled_ok s t hs
  have f2 := rFilled_ok s t hs
  have g1 := free_ok s t hs
  have g2 := rFree_ok s t hs
  have wl := fun p => whereF_len s.frm.length p
  have s1 := same_ok (possF s t) (possF s t) (by unfold possF; have := wl (fun k => decide (nth s.frm k ≤ t)); omega)
  have s2 := same_ok (freeF s t) (freeF s t) (by unfold freeF; have := wl (fun k => decide (t < nth s.frm k)); omega)
  rw [decide_eq_true rfl] at s1 s2
  generalize startS m old l t = q1 at *
  generalize changeS m old next fl s t = q2 at *
  generalize possF s t = q3 at *
  generalize freeF s t = q4 at *
  generalize validS m s = q5 at *
  obtain ⟨⟨t1, r1⟩, e1⟩ := q1
  obtain ⟨⟨t2, r2⟩, e2⟩ := q2
  obtain ⟨places, roads⟩ := m
  obtain ⟨places2, roads2⟩ := next
  obtain ⟨time, frm⟩ := s
  simp only at *
  simp (disch := omega) only [go_sem, K.law28_agree, ↓reduceIte, a, b, c, d, v1, v2, sa, sb, f1, f2, g1, g2, s1, s2, beq_self_eq_true, Nat.reduceAdd, Nat.reduceSub]

/-- Wherever a road is asked for. -/
theorem travels_ok {m : Mine} (h : m.ok) (r : Int) (f : Spn) (hf : f.ok) (back : Bool) :
    ∃ v, CALL 0 N.smoke_Travel [.t m.e, I r, .t f.e, B back] [] = some (I v, []) ∧ CALL 0 N.ref28_Travel [.t m.e, I r, .t f.e, B back] [] = some (I v, []) := by
  by_cases c : 0 ≤ r ∧ r < m.roads.length
  · have a := sTravel_ok h r.toNat (by omega) f hf back
    have b := travel_ok h r.toNat (by omega) f hf back
    rw [show ((r.toNat : Nat) : Int) = r by omega] at a b
    exact ⟨_, a, b⟩
  · have nr := h.nr
    refine ⟨-1, CALL_of K.t_smoke_Travel rfl ?_, CALL_of K.t_ref28_Travel rfl ?_⟩
    · obtain ⟨places, roads⟩ := m
      obtain ⟨lo, hi⟩ := f
      simp only at *
      by_cases c0 : 0 ≤ r
      · simp (disch := omega) only [go_sem, K.smoke_Travel, ↓reduceIte, Nat.reduceAdd, Nat.reduceSub]
      · simp (disch := omega) only [go_sem, K.smoke_Travel, ↓reduceIte, Nat.reduceAdd, Nat.reduceSub]
    · obtain ⟨places, roads⟩ := m
      obtain ⟨lo, hi⟩ := f
      simp only at *
      by_cases c0 : 0 ≤ r
      · simp (disch := omega) only [go_sem, K.ref28_Travel, ↓reduceIte, Nat.reduceAdd, Nat.reduceSub]
      · simp (disch := omega) only [go_sem, K.ref28_Travel, ↓reduceIte, Nat.reduceAdd, Nat.reduceSub]
end Go.Ev

