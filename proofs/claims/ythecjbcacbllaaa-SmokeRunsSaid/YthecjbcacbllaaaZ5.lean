/- Parts of the proof: see the text that holds the theorem. -/
import Derived.Test.YthecjbcacbllaaaZ4
set_option linter.all false
set_option maxRecDepth 100000
/- Chapter 25 of the references: starts, sights, absences. -/
namespace Go.Ev
open Go
variable [Lib] [Has1] [Has2]

def neverL (n : Nat) : List Int := List.replicate n 1099511627776
theorem neverL_succ (n : Nat) : neverL (n + 1) = neverL n ++ [1099511627776] := List.replicate_succ'
@[simp] theorem neverL_len (n : Nat) : (neverL n).length = n := List.length_replicate
theorem neverL_bnd (n : Nat) : bnd (neverL n) := fun x hx => by rw [List.eq_of_mem_replicate hx]; omega

theorem never_loop (n : Nat) (hn : n ≤ 1000000) (a : D) : exS CALL K.ref25_never_l1 ⟨[I n, a, .ref 0 0 0, I 0], [.arr 1 false 0 []]⟩ =
      some (.exit 0, ⟨[I n, .und, .ref 0 0 n, I n], [.arr 1 false 0 (((neverL n).map (T.int .i64)).map .t)]⟩) := by
  refine loop_up (fun j => ⟨[I n, .und, .ref 0 0 (neverL j).length, I j], [.arr 1 false 0 (((neverL j).map (T.int .i64)).map .t)]⟩) n rfl ?_ ?_ (by simp)
  · intro j hj
    have := neverL_len j
    simp (disch := omega) only [go_sem, K.ref25_never_l1b, neverL_succ, ↓reduceIte]
  · simp (disch := omega) only [go_sem, K.ref25_never_l1b, ↓reduceIte, neverL_len]

theorem never_ok1 (n : Nat) (hn : n ≤ 1000000) : CALL 1 N.ref25_never [I n] [] = some (.ref 0 0 n, [.arr 1 false 0 (((neverL n).map (T.int .i64)).map .t)]) := by
  refine CALL_of K.t_ref25_never rfl ?_
  have := never_loop n hn
  simp (disch := omega) only [go_sem, K.ref25_never, ↓reduceIte, this]

def startF (m : Mine) (p t : Int) : Wh × Int :=
  if p < 0 ∨ (m.places.length : Int) ≤ p then (⟨0, []⟩, 3) else if inT t then (⟨t, closeF m t none ((neverL m.places.length).set p.toNat t)⟩, 0) else (⟨0, []⟩, 8)

theorem start_ok {m : Mine} (h : m.ok) (p t : Int) : CALL 0 N.ref25_Start [.t m.e, I p, I t] [] = some (.tup [.t (startF m p t).1.e, I (startF m p t).2], []) := by
  refine CALL_of K.t_ref25_Start rfl ?_
  have c := check_ok h
  have np := h.np
  have it := inTime_ok t
  have nl := neverL_len m.places.length
  have nv := never_ok1 m.places.length (by omega)
  unfold startF
  by_cases h1 : p < 0
  · simp (disch := omega) only [go_sem, K.ref25_Start, ↓reduceIte, c, h1, true_or]
    rfl
  · by_cases h2 : (m.places.length : Int) ≤ p
    · simp (disch := omega) only [go_sem, K.ref25_Start, ↓reduceIte, c, h1, h2, or_true]
      rfl
    · by_cases h3 : inT t
      · have b : bnd ((neverL m.places.length).set p.toNat t) := bnd_set (neverL_bnd _) h3.1 (by have := h3.2; omega)
        have cl := Close_ok h t h3 ((neverL m.places.length).set p.toNat t) (by simp) b
        simp only [h3, decide_true] at it
        simp (disch := omega) only [go_sem, K.ref25_Start, ↓reduceIte, c, h1, h2, or_self, h3, it, nv, neverL_len, cl]
      · simp only [h3, decide_false] at it
        simp (disch := omega) only [go_sem, K.ref25_Start, ↓reduceIte, c, h1, h2, or_self, h3, it]
        rfl

def possF (w : Wh) (t : Int) : List Int := whereF w.frm.length fun j => decide (nth w.frm j ≤ t)

theorem possible25_ok (w : Wh) (t : Int) (hl : w.frm.length ≤ 1000000) : CALL 0 N.ref25_Possible [.t w.e, I t] [] = some (.t (tL (possF w t)), []) := by
  refine CALL_of K.t_ref25_Possible rfl ?_
  obtain ⟨time, frm⟩ := w
  simp only [possF] at *
  have hlen := fun k => whereF_len k (fun j => decide (nth frm j ≤ t))
  have loop : ∀ a b : D, exS CALL K.ref25_Possible_l1 ⟨[a, I t, .bp 0 0, b, .ref 1 0 0, I 0], [.box [I time, .t (tL frm)], .arr 1 false 0 []]⟩ =
      some (.exit 0, ⟨[.und, I t, .bp 0 0, .und, .ref 1 0 (whereF frm.length (fun j => decide (nth frm j ≤ t))).length, I frm.length], [.box [I time, .t (tL frm)], .arr 1 false 0 (((whereF frm.length (fun j => decide (nth frm j ≤ t))).map (T.int .i64)).map .t)]⟩) := by
    intro a b
    refine loop_up (fun j => ⟨[.und, I t, .bp 0 0, .und, .ref 1 0 (whereF j (fun j => decide (nth frm j ≤ t))).length, I j], [.box [I time, .t (tL frm)], .arr 1 false 0 (((whereF j (fun j => decide (nth frm j ≤ t))).map (T.int .i64)).map .t)]⟩) frm.length rfl ?_ ?_ (by simp)
    · intro j hj
      have := hlen j
      by_cases hp : nth frm j ≤ t
      · simp (disch := omega) only [go_sem, K.ref25_Possible_l1b, whereF_succ, hp, decide_true, ↓reduceIte]
      · simp (disch := omega) only [go_sem, K.ref25_Possible_l1b, whereF_succ, hp, decide_false, ↓reduceIte]
    · simp (disch := omega) only [go_sem, K.ref25_Possible_l1b, ↓reduceIte]
  have := hlen frm.length
  simp (disch := omega) only [go_sem, K.ref25_Possible, ↓reduceIte, loop]

def raiseF (w : Wh) (t : Int) : Wh × Int := if t < w.time ∨ 2147483648 < t then (w, 8) else (⟨t, w.frm⟩, 0)

theorem raise_ok (w : Wh) (t : Int) (hl : w.frm.length ≤ 1000000) : CALL 0 N.ref25_Raise [.t w.e, I t] [] = some (.tup [.t (raiseF w t).1.e, I (raiseF w t).2], []) := by
  refine CALL_of K.t_ref25_Raise rfl ?_
  have c := copy_ok w (by omega)
  obtain ⟨time, frm⟩ := w
  simp only [raiseF] at *
  by_cases h1 : t < time
  · simp (disch := omega) only [go_sem, K.ref25_Raise, ↓reduceIte, c, h1, true_or]
  · by_cases h2 : 2147483648 < t
    · simp (disch := omega) only [go_sem, K.ref25_Raise, ↓reduceIte, c, h1, h2, or_true]
    · simp (disch := omega) only [go_sem, K.ref25_Raise, ↓reduceIte, c, h1, h2, or_self]

def askedF (m : Mine) (w : Wh) (places : List Int) (a b : Int) : Int :=
  if validB m w = true ∧ places ≠ [] ∧ setB places m.places.length = true then (if inT a ∧ inT b ∧ a ≤ b then 0 else 8) else 6

theorem asked_ok {m : Mine} (h : m.ok) (w : Wh) (hl : w.frm.length ≤ 1000000) (places : List Int) (hp : places.length ≤ 1000000) (a b : Int) :
    CALL 0 N.ref25_asked [.t m.e, .t w.e, .t (tL places), I a, I b] [] = some (I (askedF m w places a b), []) := by
  refine CALL_of K.t_ref25_asked rfl ?_
  have v := valid_ok h w (by omega)
  have s := set_ok places m.places.length (by omega)
  have np := h.np
  have ia := inTime_ok a
  have ib := inTime_ok b
  obtain ⟨time, frm⟩ := w
  simp only at *
  unfold askedF
  cases hv : validB m ⟨time, frm⟩ with
  | false =>
    rw [hv] at v
    simp (disch := omega) only [go_sem, K.ref25_asked, ↓reduceIte, v, Bool.false_eq_true, false_and]
  | true =>
    rw [hv] at v
    cases places with
    | nil => simp (disch := omega) only [go_sem, K.ref25_asked, ↓reduceIte, v, ne_eq, not_true_eq_false, false_and, and_false, List.length_nil]
    | cons x xs =>
      have hne : 0 < (x :: xs).length := by simp
      generalize hx : x :: xs = l at *
      have hne2 : l ≠ [] := by intro e; rw [e] at hne; simp at hne
      cases hs : setB l m.places.length with
      | false =>
        rw [hs] at s
        simp (disch := omega) only [go_sem, K.ref25_asked, ↓reduceIte, v, s, hne2, ne_eq, not_false_eq_true, true_and, Bool.false_eq_true, and_false]
      | true =>
        rw [hs] at s
        by_cases h1 : inT a
        · by_cases h2 : inT b
          · simp only [h1, h2, decide_true] at ia ib
            by_cases h3 : a ≤ b
            · simp (disch := omega) only [go_sem, K.ref25_asked, ↓reduceIte, v, s, hne2, ia, ib, h1, h2, h3, ne_eq, not_false_eq_true, and_self]
            · simp (disch := omega) only [go_sem, K.ref25_asked, ↓reduceIte, v, s, hne2, ia, ib, h1, h2, h3, ne_eq, not_false_eq_true, and_self, and_false]
          · simp only [h1, h2, decide_true, decide_false] at ia ib
            simp (disch := omega) only [go_sem, K.ref25_asked, ↓reduceIte, v, s, hne2, ia, ib, h1, h2, ne_eq, not_false_eq_true, and_self, and_false, false_and]
        · simp only [h1, decide_false] at ia
          simp (disch := omega) only [go_sem, K.ref25_asked, ↓reduceIte, v, s, hne2, ia, h1, ne_eq, not_false_eq_true, and_self, and_false, false_and]

end Go.Ev

/- Chapter 25 of the references: See, Absent, Join. -/
namespace Go.Ev
open Go
variable [Lib] [Has1] [Has2]

theorem setB_nth {l : List Int} {n : Int} (h : setB l n = true) {j : Nat} (hj : j < l.length) : 0 ≤ nth l j ∧ nth l j < n ∧ (0 < j → nth l (j - 1) < nth l j) := by
  simp only [setB, List.all_eq_true, List.mem_range, decide_eq_true_eq] at h
  exact h j hj
theorem setB_up {l : List Int} {n : Int} (h : setB l n = true) : ∀ {j : Nat}, j < l.length → (j : Int) ≤ nth l j
  | 0, hj => by have := setB_nth h hj; omega
  | j + 1, hj => by
    have h1 := setB_up h (j := j) (by omega)
    have := (setB_nth h hj).2.2 (by omega)
    simp only [Nat.add_sub_cancel] at this
    omega
theorem setB_len {l : List Int} {n : Nat} (h : setB l n = true) : l.length ≤ n := by
  cases hl : l.length with
  | zero => omega
  | succ k =>
    have h1 := setB_up h (j := k) (by omega)
    have h2 := (setB_nth h (j := k) (by omega)).2.1
    omega

def seeStep (w : Wh) (t p : Int) (s : List Int × Bool) : List Int × Bool := if nth w.frm p.toNat ≤ t then (s.1.set p.toNat (nth w.frm p.toNat), true) else s
def seeN (w : Wh) (l : List Int) (t : Int) (n : Nat) : Nat → List Int × Bool
  | 0 => (neverL n, false)
  | j + 1 => seeStep w t (nth l j) (seeN w l t n j)
theorem seeN_len (w : Wh) (l : List Int) (t : Int) (n : Nat) : ∀ j, (seeN w l t n j).1.length = n
  | 0 => neverL_len n
  | j + 1 => by
    have := seeN_len w l t n j
    simp only [seeN, seeStep]
    split <;> simp [this]
theorem seeN_bnd {w : Wh} (hw : bnd w.frm) (l : List Int) (t : Int) {n : Nat} (hl : ∀ p ∈ l, 0 ≤ p ∧ p < w.frm.length) : ∀ j, j ≤ l.length → bnd (seeN w l t n j).1
  | 0, _ => neverL_bnd n
  | j + 1, hj => by
    have := seeN_bnd hw l t hl (n := n) j (by omega)
    simp only [seeN, seeStep]
    split
    · have hp := hl _ (nth_mem (l := l) (j := j) (by omega))
      have := hw _ (nth_mem (l := w.frm) (j := (nth l j).toNat) (by omega))
      exact bnd_set (by assumption) this.1 this.2
    · exact this

def seeF (m : Mine) (w : Wh) (l : List Int) (a b : Int) : Wh × Int :=
  if askedF m w l a b ≠ 0 then (w, askedF m w l a b) else if a < w.time then (w, 42) else
  if (seeN w l b m.places.length l.length).2 = true then (⟨b, closeF m a none (seeN w l b m.places.length l.length).1⟩, 0) else (w, 43)

theorem askedF_0 {m : Mine} {w : Wh} {l : List Int} {a b : Int} (h : askedF m w l a b = 0) : validB m w = true ∧ l ≠ [] ∧ setB l m.places.length = true ∧ inT a ∧ inT b ∧ a ≤ b := by
  unfold askedF at h
  split at h
  · rename_i h1
    split at h
    · rename_i h2; exact ⟨h1.1, h1.2.1, h1.2.2, h2⟩
    · omega
  · omega

theorem validB_spec {m : Mine} {w : Wh} (h : validB m w = true) : w.frm.length = m.places.length ∧ inT w.time ∧ (∀ x ∈ w.frm, plT x) ∧ closeF m w.time none w.frm = w.frm := by
  simp only [validB, Bool.and_eq_true, decide_eq_true_eq] at h
  obtain ⟨h1, h2, h3⟩ := plainB_spec h.1
  exact ⟨by omega, h2, h3, h.2⟩

theorem see_ok {m : Mine} (h : m.ok) (w : Wh) (hl : w.frm.length ≤ 1000000) (l : List Int) (hp : l.length ≤ 1000000) (a b : Int) :
    CALL 0 N.ref25_See [.t m.e, .t w.e, .t (tL l), I a, I b] [] = some (.tup [.t (seeF m w l a b).1.e, I (seeF m w l a b).2], []) := by
  refine CALL_of K.t_ref25_See rfl ?_
  have as := asked_ok h w hl l hp a b
  have cp := copy_ok w (by omega)
  have np := h.np
  have nv := never_ok1 m.places.length (by omega)
  have nl := neverL_len m.places.length
  unfold seeF
  by_cases h0 : askedF m w l a b = 0
  · obtain ⟨v1, v2, v3, v4, v5, v6⟩ := askedF_0 h0
    obtain ⟨w1, w2, w3, w4⟩ := validB_spec v1
    have hlen := setB_len v3
    rw [h0] at as ⊢
    obtain ⟨time, frm⟩ := w
    simp only at *
    by_cases h1 : a < time
    · simp (disch := omega) only [go_sem, K.ref25_See, ↓reduceIte, as, cp, h1, ne_eq, not_true_eq_false]
    · have hbw : bnd (Wh.frm ⟨time, frm⟩) := fun x hx => plT_bnd (w3 x hx)
      have hb := seeN_bnd hbw l b (n := m.places.length) (fun p hp => by
        obtain ⟨j, hj⟩ := List.mem_iff_getElem?.1 hp
        have := setB_nth v3 (List.getElem?_eq_some_iff.1 hj).1
        rw [nth_eq hj] at this
        simp only
        omega) l.length (Nat.le_refl _)
      have ln := seeN_len ⟨time, frm⟩ l b m.places.length
      have loop : ∀ x y z u v : D, exS CALL K.ref25_See_l1 ⟨[x, y, .t (tL l), I a, I b, .bp 0 0, .bp 1 0, .bp 2 0, z, u, .ref 3 0 m.places.length, B false, I 0, v], [.box (mineCells m), .box [I time, .t (tL frm)], .box [I 0, .nil], .arr 1 false 0 (((neverL m.places.length).map (T.int .i64)).map .t)]⟩ =
          some (.exit 0, ⟨[.und, .und, .t (tL l), I a, I b, .bp 0 0, .bp 1 0, .bp 2 0, .und, .und, .ref 3 0 m.places.length, B (seeN ⟨time, frm⟩ l b m.places.length l.length).2, I l.length, .und], [.box (mineCells m), .box [I time, .t (tL frm)], .box [I 0, .nil], .arr 1 false 0 ((((seeN ⟨time, frm⟩ l b m.places.length l.length).1).map (T.int .i64)).map .t)]⟩) := by
        intro x y z u v
        refine loop_up (fun j => ⟨[.und, .und, .t (tL l), I a, I b, .bp 0 0, .bp 1 0, .bp 2 0, .und, .und, .ref 3 0 m.places.length, B (seeN ⟨time, frm⟩ l b m.places.length j).2, I j, .und], [.box (mineCells m), .box [I time, .t (tL frm)], .box [I 0, .nil], .arr 1 false 0 ((((seeN ⟨time, frm⟩ l b m.places.length j).1).map (T.int .i64)).map .t)]⟩) l.length rfl ?_ ?_ (by simp)
        · intro j hj
          obtain ⟨p1, p2, -⟩ := setB_nth v3 hj
          have lj := ln j
          by_cases hc : nth frm (nth l j).toNat ≤ b
          · simp (disch := omega) only [go_sem, K.ref25_See_l1b, ↓reduceIte, seeN, seeStep, hc]
          · simp (disch := omega) only [go_sem, K.ref25_See_l1b, ↓reduceIte, seeN, seeStep, hc]
        · simp (disch := omega) only [go_sem, K.ref25_See_l1b, ↓reduceIte]
      have cl := Close_ok h a v4 _ (ln l.length) hb
      have ln := ln l.length
      simp (disch := omega) only [go_sem, K.ref25_See, ↓reduceIte, as, h1, nv, loop, ne_eq, not_true_eq_false]
      cases hs : (seeN ⟨time, frm⟩ l b m.places.length l.length).2 with
      | true => simp (disch := omega) only [go_sem, ↓reduceIte, ln, cl]
      | false => simp (disch := omega) only [go_sem, ↓reduceIte, cp, Bool.false_eq_true]
  · obtain ⟨time, frm⟩ := w
    simp only at *
    simp (disch := omega) only [go_sem, K.ref25_See, ↓reduceIte, as, cp, h0, ne_eq, not_false_eq_true]

end Go.Ev

/- Chapter 25 of the references: Absent, Join. -/
namespace Go.Ev
open Go
variable [Lib] [Has1] [Has2]

def absN (l0 l : List Int) : Nat → List Int
  | 0 => l0
  | j + 1 => (absN l0 l j).set (nth l j).toNat 1099511627776
theorem absN_len (l0 l : List Int) : ∀ j, (absN l0 l j).length = l0.length
  | 0 => rfl
  | j + 1 => by simp only [absN, List.length_set, absN_len l0 l j]
theorem absN_bnd {l0 : List Int} (h : bnd l0) (l : List Int) : ∀ j, bnd (absN l0 l j)
  | 0 => h
  | j + 1 => bnd_set (absN_bnd h l j) (by omega) (by omega)

def absF (m : Mine) (w : Wh) (l : List Int) (a b bl : Int) : Wh × Int :=
  if askedF m w l a b ≠ 0 then (w, askedF m w l a b) else if ¬ inT bl then (w, 8) else if b < w.time then (w, 42) else if b - max a w.time ≤ bl then (w, 0) else
  (⟨b, closeF m b none (closeF m (b - bl) (some l) (absN w.frm l l.length))⟩, 0)

theorem abs_ok {m : Mine} (h : m.ok) (w : Wh) (hl : w.frm.length ≤ 1000000) (l : List Int) (hp : l.length ≤ 1000000) (a b bl : Int) :
    CALL 0 N.ref25_Absent [.t m.e, .t w.e, .t (tL l), I a, I b, I bl] [] = some (.tup [.t (absF m w l a b bl).1.e, I (absF m w l a b bl).2], []) := by
  refine CALL_of K.t_ref25_Absent rfl ?_
  have as := asked_ok h w hl l hp a b
  have cp := copy_ok w (by omega)
  have ib := inTime_ok bl
  have np := h.np
  unfold absF
  by_cases h0 : askedF m w l a b = 0
  · obtain ⟨v1, v2, v3, v4, v5, v6⟩ := askedF_0 h0
    obtain ⟨w1, w2, w3, w4⟩ := validB_spec v1
    have hlen := setB_len v3
    rw [h0] at as ⊢
    obtain ⟨time, frm⟩ := w
    simp only at *
    by_cases h1 : inT bl
    · by_cases h2 : b < time
      · simp only [h1, decide_true] at ib
        simp (disch := omega) only [go_sem, K.ref25_Absent, ↓reduceIte, as, ib, cp, h1, h2, ne_eq, not_true_eq_false, not_false_eq_true]
      · simp only [h1, decide_true] at ib
        unfold inT at v4 v5 w2 h1
        by_cases h3 : b - max a time ≤ bl
        · simp (disch := omega) only [go_sem, K.ref25_Absent, ↓reduceIte, as, ib, cp, h1, h2, h3, ne_eq, not_true_eq_false, not_false_eq_true, inT, and_self]
        · have hb : bnd frm := fun x hx => plT_bnd (w3 x hx)
          have ln := absN_len frm l
          have lb := absN_bnd hb l
          have loop : ∀ x y z u v w : D, exS CALL K.ref25_Absent_l1 ⟨[x, y, .t (tL l), z, I b, I bl, .bp 0 0, u, .bp 2 0, v, w, .ref 3 0 frm.length, I 0], [.box (mineCells m), .box [I time, .t (tL frm)], .box [I 0, .nil], .arr 1 false 0 ((frm.map (T.int .i64)).map .t)]⟩ =
              some (.exit 0, ⟨[.und, .und, .t (tL l), .und, I b, I bl, .bp 0 0, .und, .bp 2 0, .und, .und, .ref 3 0 frm.length, I l.length], [.box (mineCells m), .box [I time, .t (tL frm)], .box [I 0, .nil], .arr 1 false 0 (((absN frm l l.length).map (T.int .i64)).map .t)]⟩) := by
            intro x y z u v w
            refine loop_up (fun j => ⟨[.und, .und, .t (tL l), .und, I b, I bl, .bp 0 0, .und, .bp 2 0, .und, .und, .ref 3 0 frm.length, I j], [.box (mineCells m), .box [I time, .t (tL frm)], .box [I 0, .nil], .arr 1 false 0 (((absN frm l j).map (T.int .i64)).map .t)]⟩) l.length rfl ?_ ?_ (by simp)
            · intro j hj
              obtain ⟨p1, p2, -⟩ := setB_nth v3 hj
              have lj := ln j
              simp (disch := omega) only [go_sem, K.ref25_Absent_l1b, ↓reduceIte, absN]
            · simp (disch := omega) only [go_sem, K.ref25_Absent_l1b, ↓reduceIte]
          have hi : ∀ s, some l = some s → s ≠ [] ∧ s.length ≤ 64 := by
            intro s hs; cases hs; exact ⟨v2, by omega⟩
          have ln := ln l.length
          have lb := lb l.length
          have t1 : inT (b - bl) := by unfold inT; omega
          have c1 := close_ok h (b - bl) (by omega) (by omega) (some l) hi _ (by omega) lb
          simp only [intoD] at c1
          have c2 := Close_ok h b v5 (closeF m (b - bl) (some l) (absN frm l l.length)) (closeF_len h _ t1 _ hi (by omega) lb) (closeF_bnd h _ t1 _ hi (by omega) lb)
          have c3 := c1.1
          unfold closeF at c2 ⊢
          clear c1
          simp (disch := omega) only [go_sem, K.ref25_Absent, ↓reduceIte, as, ib, loop, c2, c3, ln, h1, h2, h3, ne_eq, not_true_eq_false, not_false_eq_true, inT, and_self, Nat.reduceAdd, Nat.reduceSub]
    · simp only [h1, decide_false] at ib
      simp (disch := omega) only [go_sem, K.ref25_Absent, ↓reduceIte, as, ib, cp, h1, ne_eq, not_true_eq_false, not_false_eq_true]
  · obtain ⟨time, frm⟩ := w
    simp only at *
    simp (disch := omega) only [go_sem, K.ref25_Absent, ↓reduceIte, as, cp, h0, ne_eq, not_false_eq_true]

def minN (a b : List Int) : Nat → List Int
  | 0 => []
  | j + 1 => minN a b j ++ [min (nth a j) (nth b j)]
theorem minN_len (a b : List Int) : ∀ j, (minN a b j).length = j
  | 0 => rfl
  | j + 1 => by simp [minN, minN_len a b j]

def joinF (a b : Wh) : Wh × Int := if a.frm.length = b.frm.length then (⟨max a.time b.time, minN a.frm b.frm a.frm.length⟩, 0) else (⟨0, []⟩, 6)

theorem join_ok (a b : Wh) (ha : a.frm.length ≤ 1000000) : CALL 0 N.ref25_Join [.t a.e, .t b.e] [] = some (.tup [.t (joinF a b).1.e, I (joinF a b).2], []) := by
  refine CALL_of K.t_ref25_Join rfl ?_
  obtain ⟨t1, l1⟩ := a
  obtain ⟨t2, l2⟩ := b
  simp only [joinF] at *
  by_cases hl : l1.length = l2.length
  · have ln := minN_len l1 l2
    have loop : ∀ x y z : D, exS CALL K.ref25_Join_l1 ⟨[x, y, .bp 0 0, .bp 1 0, .bp 2 0, z, .bp 3 0, I 0], [.box [I t1, .t (tL l1)], .box [I t2, .t (tL l2)], .box [I 0, .nil], .box [I (max t1 t2), .ref 5 0 0], .arr 1 false 0 [], .arr 1 false 0 []]⟩ =
        some (.exit 0, ⟨[.und, .und, .bp 0 0, .bp 1 0, .bp 2 0, .und, .bp 3 0, I l1.length], [.box [I t1, .t (tL l1)], .box [I t2, .t (tL l2)], .box [I 0, .nil], .box [I (max t1 t2), .ref 5 0 l1.length], .arr 1 false 0 [], .arr 1 false 0 (((minN l1 l2 l1.length).map (T.int .i64)).map .t)]⟩) := by
      intro x y z
      refine loop_up (fun j => ⟨[.und, .und, .bp 0 0, .bp 1 0, .bp 2 0, .und, .bp 3 0, I j], [.box [I t1, .t (tL l1)], .box [I t2, .t (tL l2)], .box [I 0, .nil], .box [I (max t1 t2), .ref 5 0 j], .arr 1 false 0 [], .arr 1 false 0 (((minN l1 l2 j).map (T.int .i64)).map .t)]⟩) l1.length rfl ?_ ?_ (by simp)
      · intro j hj
        have lj := ln j
        simp (disch := omega) only [go_sem, K.ref25_Join_l1b, ↓reduceIte, minN, Nat.reduceAdd, Nat.reduceSub]
        done
      · simp (disch := omega) only [go_sem, K.ref25_Join_l1b, ↓reduceIte]
    have ln := ln l1.length
    simp (disch := omega) only [go_sem, K.ref25_Join, ↓reduceIte, loop]
  · simp (disch := omega) only [go_sem, K.ref25_Join, ↓reduceIte, hl]
    rfl

end Go.Ev

/- Chapter 28 of the references: smoke. -/
namespace Go.Ev
open Go
variable [Lib] [Has1] [Has2]

structure Spn where
  low : Int
  high : Int
instance : Dat Spn := ⟨⟨0, 0⟩⟩
abbrev Spn.e (f : Spn) : T := .agg [tI f.low, tI f.high]
abbrev tS (l : List Spn) : T := .sl (l.map Spn.e)

def Spn.ok (f : Spn) : Prop := -1125899906842624 ≤ f.low ∧ f.high ≤ 1125899906842624 ∧ f.low ≤ f.high
instance (f : Spn) : Decidable f.ok := by unfold Spn.ok; infer_instance

theorem span28_ok (f : Spn) : CALL 0 N.ref28_Span [.t f.e] [] = some (B (decide f.ok), []) := by
  refine CALL_of K.t_ref28_Span rfl ?_
  unfold Spn.ok
  by_cases h1 : -1125899906842624 ≤ f.low <;> by_cases h2 : f.high ≤ 1125899906842624 <;> by_cases h3 : f.low ≤ f.high <;> simp (disch := omega) only [go_sem, K.ref28_Span, ↓reduceIte, h1, h2, h3]

def flowsB (m : Mine) (l : List Spn) : Bool := (List.range l.length).all (fun j => decide (nth l j).ok) && decide (l.length = m.roads.length)

theorem flowsB_spec {m : Mine} {l : List Spn} (h : flowsB m l = true) : l.length = m.roads.length ∧ ∀ j, j < l.length → (nth l j).ok := by
  simp only [flowsB, Bool.and_eq_true, decide_eq_true_eq, List.all_eq_true, List.mem_range] at h
  exact ⟨h.2, h.1⟩

theorem flows_ok (m : Mine) (hm : m.roads.length ≤ 1000000) (l : List Spn) (hl : l.length ≤ 1000000) : CALL 0 N.ref28_Flows [.t m.e, .t (tS l)] [] = some (B (flowsB m l), []) := by
  refine CALL_of K.t_ref28_Flows rfl ?_
  have loop : ∀ a b : D, exS CALL K.ref28_Flows_l1 ⟨[a, .t (tS l), .bp 0 0, b, I 0], [.box (mineCells m)]⟩ =
      some (match (List.range l.length).find? (fun j => !decide (nth l j).ok) with
        | some j => (.ret, ⟨[.und, .t (tS l), .bp 0 0, B false, I j], [.box (mineCells m)]⟩)
        | none => (.exit 0, ⟨[.und, .t (tS l), .bp 0 0, .und, I l.length], [.box (mineCells m)]⟩)) := by
    intro a b
    refine loop_first (fun j => ⟨[.und, .t (tS l), .bp 0 0, .und, I j], [.box (mineCells m)]⟩) l.length (fun j => !decide (nth l j).ok) _ _ rfl ?_ ?_ ?_ (by simp)
    · intro j hj hp
      have s := span28_ok (nth l j)
      have hp : (nth l j).ok := by simpa using hp
      simp only [hp, decide_true] at s
      simp (disch := omega) only [go_sem, K.ref28_Flows_l1b, ↓reduceIte, s]
    · intro j hj hp
      have s := span28_ok (nth l j)
      have hp : ¬ (nth l j).ok := by simpa using hp
      simp only [hp, decide_false] at s
      simp (disch := omega) only [go_sem, K.ref28_Flows_l1b, ↓reduceIte, s]
      simp
    · simp (disch := omega) only [go_sem, K.ref28_Flows_l1b, ↓reduceIte]
  unfold flowsB
  rw [find_all]
  simp (disch := omega) only [go_sem, K.ref28_Flows, ↓reduceIte, loop]
  cases hf : (List.range l.length).find? (fun j => !decide (nth l j).ok) with
  | some j => simp (disch := omega) only [go_sem, ↓reduceIte, Option.isNone, Bool.false_and]
  | none =>
    by_cases he : l.length = m.roads.length
    · simp (disch := omega) only [go_sem, ↓reduceIte, Option.isNone, he, Bool.true_and, decide_true]
    · simp (disch := omega) only [go_sem, ↓reduceIte, Option.isNone, he, Bool.true_and, decide_false]

/-- How long smoke travels. -/
def travelF (x : Road) (f : Spn) (back : Bool) : Int :=
  if x.closed = true then -1 else
  let g := if back then -f.low else f.high
  let out := if 0 < g then (x.len * x.area * 1000).tdiv g else -1
  if (if back then f.low < 500 * x.area else -500 * x.area < f.high) ∧ (out < 0 ∨ x.len < out) then x.len else out

theorem travelF_bd {n : Nat} {x : Road} (h : x.ok n) {f : Spn} (back : Bool) : -1 ≤ travelF x f back ∧ travelF x f back ≤ 100000000000 := by
  have l0 := h.l0; have l1 := h.l1; have a0 := h.a0; have a1 := h.a1
  have hm : 0 ≤ x.len * x.area := Int.mul_nonneg (by omega) (by omega)
  have hm2 : x.len * x.area ≤ 100000 * 1000 := Int.mul_le_mul l1 a1 (by omega) (by omega)
  unfold travelF
  simp only
  split
  · omega
  · have key : ∀ g : Int, -1 ≤ (if 0 < g then (x.len * x.area * 1000).tdiv g else -1) ∧ (if 0 < g then (x.len * x.area * 1000).tdiv g else -1) ≤ 100000000000 := by
      intro g
      split
      · have := tdiv_bd (a := x.len * x.area * 1000) (b := g) (by omega) (by omega)
        omega
      · omega
    cases back with
    | false =>
      have k := key f.high
      simp only [Bool.false_eq_true, ↓reduceIte]
      generalize (if 0 < f.high then (x.len * x.area * 1000).tdiv f.high else -1) = o at *
      split <;> omega
    | true =>
      have k := key (-f.low)
      simp only [↓reduceIte]
      generalize (if 0 < -f.low then (x.len * x.area * 1000).tdiv (-f.low) else -1) = o at *
      split <;> omega

theorem travel_ok {m : Mine} (h : m.ok) (k : Nat) (hk : k < m.roads.length) (f : Spn) (hf : f.ok) (back : Bool) :
    CALL 0 N.ref28_Travel [.t m.e, I k, .t f.e, B back] [] = some (I (travelF (nth m.roads k) f back), []) := by
  refine CALL_of K.t_ref28_Travel rfl ?_
  have nr := h.nr
  have ok := h.rs _ (nth_mem hk)
  obtain ⟨lo, hi⟩ := f
  unfold Spn.ok at hf
  unfold travelF
  generalize hx : nth m.roads k = x at *
  have l0 := ok.l0; have l1 := ok.l1; have a0 := ok.a0; have a1 := ok.a1
  obtain ⟨frm, to, len, area, walk, closed, rl, rh, ll, lh⟩ := x
  simp only at l0 l1 a0 a1 hf ⊢
  clear ok
  have hm : 0 ≤ len * area := Int.mul_nonneg (by omega) (by omega)
  have hm2 : len * area ≤ 100000 * 1000 := Int.mul_le_mul l1 a1 (by omega) (by omega)
  cases closed with
  | true => simp (disch := omega) only [go_sem, K.ref28_Travel, ↓reduceIte, hx]
  | false =>
    cases back with
    | false =>
      by_cases c1 : 0 < hi
      · have g1 := tdiv_bd (a := len * area * 1000) (b := hi) (by omega) (by omega)
        by_cases c2 : len < (len * area * 1000).tdiv hi
        · simp (disch := omega) only [go_sem, K.ref28_Travel, ↓reduceIte, hx, c1, c2, and_self, or_true, and_true, Bool.false_eq_true]
        · simp (disch := omega) only [go_sem, K.ref28_Travel, ↓reduceIte, hx, c1, c2, and_self, or_false, and_true, and_false, Bool.false_eq_true]
      · by_cases c2 : -500 * area < hi
        · simp (disch := omega) only [go_sem, K.ref28_Travel, ↓reduceIte, hx, c1, c2, and_self, true_or, and_true, Bool.false_eq_true]
        · simp (disch := omega) only [go_sem, K.ref28_Travel, ↓reduceIte, hx, c1, c2, false_and, Bool.false_eq_true]
    | true =>
      have w : IntKind.i64.wrap (-lo) = -lo := wrap_id (by omega) (by omega)
      by_cases c1 : 0 < -lo
      · have g1 := tdiv_bd (a := len * area * 1000) (b := -lo) (by omega) (by omega)
        by_cases c2 : len < (len * area * 1000).tdiv (-lo)
        · simp (disch := omega) only [go_sem, K.ref28_Travel, ↓reduceIte, hx, c1, c2, w, Int.zero_sub, and_self, or_true, and_true, Bool.false_eq_true]
        · simp (disch := omega) only [go_sem, K.ref28_Travel, ↓reduceIte, hx, c1, c2, w, Int.zero_sub, and_self, or_false, and_true, and_false, Bool.false_eq_true]
      · by_cases c2 : lo < 500 * area
        · simp (disch := omega) only [go_sem, K.ref28_Travel, ↓reduceIte, hx, c1, c2, w, Int.zero_sub, and_self, true_or, and_true, Bool.false_eq_true]
        · simp (disch := omega) only [go_sem, K.ref28_Travel, ↓reduceIte, hx, c1, c2, w, Int.zero_sub, false_and, Bool.false_eq_true]

end Go.Ev

/- Chapter 28 of the references: closing times of smoke. -/
namespace Go.Ev
open Go
variable [Lib] [Has1] [Has2]

def downC (l : List Int) (p q : Nat) (t : Int) : Bool := decide (0 ≤ t ∧ nth l p + t < nth l q)
def downF (l : List Int) (p q : Nat) (t : Int) : List Int := if downC l p q t = true then l.set q (nth l p + t) else l
def smHalf (m : Mine) (fl : List Spn) (k : Nat) (back : Bool) (l : List Int) : List Int × Bool :=
  (downF l ((nth m.roads k).src back).toNat ((nth m.roads k).dst back).toNat (travelF (nth m.roads k) (nth fl k) back), downC l ((nth m.roads k).src back).toNat ((nth m.roads k).dst back).toNat (travelF (nth m.roads k) (nth fl k) back))
def smStep (m : Mine) (fl : List Spn) (k : Nat) (s : List Int × Bool) : List Int × Bool :=
  let a := smHalf m fl k false s.1
  let b := smHalf m fl k true a.1
  (b.1, s.2 || a.2 || b.2)
def smSteps (m : Mine) (fl : List Spn) (l : List Int) : Nat → List Int × Bool
  | 0 => (l, false)
  | k + 1 => smStep m fl k (smSteps m fl l k)
def smRound (m : Mine) (fl : List Spn) (l : List Int) : List Int × Bool := smSteps m fl l m.roads.length

theorem downF_len (l : List Int) (p q : Nat) (t : Int) : (downF l p q t).length = l.length := by unfold downF; split <;> simp
theorem smHalf_len (m : Mine) (fl : List Spn) (k : Nat) (back : Bool) (l : List Int) : (smHalf m fl k back l).1.length = l.length := downF_len ..
theorem smSteps_len (m : Mine) (fl : List Spn) (l : List Int) : ∀ k, (smSteps m fl l k).1.length = l.length
  | 0 => rfl
  | k + 1 => by simp only [smSteps, smStep, smHalf_len, smSteps_len m fl l k]

theorem downF_bnd {l : List Int} (h : bnd l) {p q : Nat} (hp : p < l.length) (hq : q < l.length) {t : Int} : bnd (downF l p q t) := by
  unfold downF
  split
  · rename_i hc
    simp only [downC, decide_eq_true_eq] at hc
    have h1 := h _ (nth_mem hp)
    have h2 := h _ (nth_mem hq)
    exact bnd_set h (by omega) (by omega)
  · exact h
theorem downF_sum {l : List Int} (hb : bnd l) {p q : Nat} (hp : p < l.length) (hq : q < l.length) {t : Int} :
    (downC l p q t = true → sumN (downF l p q t) < sumN l) ∧ (downC l p q t = false → downF l p q t = l) := by
  unfold downF
  constructor
  · intro hc
    rw [if_pos hc]
    simp only [downC, decide_eq_true_eq] at hc
    have := hb _ (nth_mem hp)
    exact sumN_set hq (by omega) hc.2
  · intro hc; rw [if_neg (by simp [hc])]

section
variable {m : Mine} (h : m.ok) {fl : List Spn}
include h
theorem smHalf_bnd {l : List Int} (hl : l.length = m.places.length) (hb : bnd l) {k : Nat} (hk : k < m.roads.length) (back : Bool) : bnd (smHalf m fl k back l).1 := by
  have r1 := Road.src_ok (h.rs _ (nth_mem hk)) back
  have r2 := Road.dst_ok (h.rs _ (nth_mem hk)) back
  exact downF_bnd hb (by omega) (by omega)
theorem smSteps_bnd {l : List Int} (hl : l.length = m.places.length) (hb : bnd l) : ∀ k, k ≤ m.roads.length → bnd (smSteps m fl l k).1
  | 0, _ => hb
  | k + 1, hk => by
    simp only [smSteps, smStep]
    exact smHalf_bnd h (by rw [smHalf_len, smSteps_len, hl]) (smHalf_bnd h (by rw [smSteps_len, hl]) (smSteps_bnd hl hb k (by omega)) (by omega) _) (by omega) _
theorem smHalf_sum {l : List Int} (hl : l.length = m.places.length) (hb : bnd l) {k : Nat} (hk : k < m.roads.length) (back : Bool) :
    ((smHalf m fl k back l).2 = true → sumN (smHalf m fl k back l).1 < sumN l) ∧ ((smHalf m fl k back l).2 = false → (smHalf m fl k back l).1 = l) := by
  have r1 := Road.src_ok (h.rs _ (nth_mem hk)) back
  have r2 := Road.dst_ok (h.rs _ (nth_mem hk)) back
  exact downF_sum hb (by omega) (by omega)
theorem smSteps_sum {l : List Int} (hl : l.length = m.places.length) (hb : bnd l) : ∀ k, k ≤ m.roads.length →
    ((smSteps m fl l k).2 = true → sumN (smSteps m fl l k).1 < sumN l) ∧ ((smSteps m fl l k).2 = false → (smSteps m fl l k).1 = l)
  | 0, _ => ⟨fun h => by simp [smSteps] at h, fun _ => rfl⟩
  | k + 1, hk => by
    obtain ⟨i1, i2⟩ := smSteps_sum hl hb k (by omega)
    have hb1 := smSteps_bnd h (fl := fl) hl hb k (by omega)
    have hl1 : (smSteps m fl l k).1.length = m.places.length := by rw [smSteps_len, hl]
    obtain ⟨a1, a2⟩ := smHalf_sum h (fl := fl) hl1 hb1 (k := k) (by omega) false
    have hb2 := smHalf_bnd h (fl := fl) hl1 hb1 (k := k) (by omega) false
    obtain ⟨c1, c2⟩ := smHalf_sum h (fl := fl) (by rw [smHalf_len, hl1]) hb2 (k := k) (by omega) true
    simp only [smSteps, smStep]
    generalize smSteps m fl l k = s at *
    obtain ⟨sl, sb⟩ := s
    simp only at *
    generalize smHalf m fl k false sl = a at *
    obtain ⟨al, ab⟩ := a
    simp only at *
    generalize smHalf m fl k true al = b at *
    obtain ⟨bl, bb⟩ := b
    simp only at *
    cases sb <;> cases ab <;> cases bb <;> simp_all <;> omega
end

/-- One road. -/
theorem sm_step {m : Mine} (h : m.ok) (fl : List Spn) (hfl : fl.length = m.roads.length) (hf : ∀ j, j < fl.length → (nth fl j).ok) (l : List Int) (hl : l.length = m.places.length) (hb : bnd l)
    (k : Nat) (hk : k < m.roads.length) (ag : Bool) :
    roundC true [0, 2, 4, 8, 9, 10, 11] 2 (exS CALL K.ref28_Close_l2b ⟨[.und, .t (tS fl), .und, .bp 0 0, .und, .ref 1 0 l.length, B ag, I k, .und, .und, .und, .und], [.box (mineCells m), .arr 1 false 0 ((l.map (T.int .i64)).map .t)]⟩) =
      some ⟨[.und, .t (tS fl), .und, .bp 0 0, .und, .ref 1 0 l.length, B (smStep m fl k (l, ag)).2, I (k + 1), .und, .und, .und, .und], [.box (mineCells m), .arr 1 false 0 (((smStep m fl k (l, ag)).1.map (T.int .i64)).map .t)]⟩ := by
  have np := h.np
  have nr := h.nr
  have t1 := travel_ok h k hk (nth fl k) (hf k (by omega)) false
  have t2 := travel_ok h k hk (nth fl k) (hf k (by omega)) true
  have w1 := travelF_bd (h.rs _ (nth_mem hk)) (f := nth fl k) false
  have w2 := travelF_bd (h.rs _ (nth_mem hk)) (f := nth fl k) true
  have r1 := Road.src_ok (h.rs _ (nth_mem hk)) false
  have r2 := Road.dst_ok (h.rs _ (nth_mem hk)) false
  simp only [Road.src, Road.dst, Bool.false_eq_true, ↓reduceIte] at r1 r2
  obtain ⟨f0, f1⟩ := r1
  obtain ⟨t0, t1'⟩ := r2
  have b1 := hb _ (nth_mem (l := l) (j := (nth m.roads k).frm.toNat) (by omega))
  have b2 := hb _ (nth_mem (l := l) (j := (nth m.roads k).to.toNat) (by omega))
  simp only [smStep, smHalf, Road.src, Road.dst, Bool.false_eq_true, ↓reduceIte]
  generalize hw1 : travelF (nth m.roads k) (nth fl k) false = v1 at *
  generalize hw2 : travelF (nth m.roads k) (nth fl k) true = v2 at *
  have hb3 := downF_bnd hb (p := (nth m.roads k).frm.toNat) (q := (nth m.roads k).to.toNat) (t := v1) (by omega) (by omega)
  have ln : (downF l (nth m.roads k).frm.toNat (nth m.roads k).to.toNat v1).length = l.length := downF_len ..
  have b3 := hb3 _ (nth_mem (j := (nth m.roads k).frm.toNat) (by omega))
  have b4 := hb3 _ (nth_mem (j := (nth m.roads k).to.toNat) (by omega))
  generalize hx : nth m.roads k = x at *
  obtain ⟨frm, to, len, area, walk, closed, rl, rh, ll, lh⟩ := x
  simp only at f0 f1 t0 t1' b1 b2 b3 b4 ln hb3 ⊢
  clear hb hb3 hf
  by_cases c1 : 0 ≤ v1 ∧ nth l frm.toNat + v1 < nth l to.toNat
  · have e1 : downC l frm.toNat to.toNat v1 = true := decide_eq_true c1
    have e2 : downF l frm.toNat to.toNat v1 = l.set to.toNat (nth l frm.toNat + v1) := by unfold downF; rw [if_pos e1]
    rw [e2] at ln b3 b4 ⊢
    obtain ⟨c1, c1'⟩ := c1
    by_cases c2 : 0 ≤ v2
    · by_cases c3 : nth (l.set to.toNat (nth l frm.toNat + v1)) to.toNat + v2 < nth (l.set to.toNat (nth l frm.toNat + v1)) frm.toNat
      · simp (disch := omega) only [go_sem, K.ref28_Close_l2b, ↓reduceIte, hx, t1, t2, e1, downF, downC, c1, c1', c2, c3, and_self, decide_true, Bool.or_true]
      · simp (disch := omega) only [go_sem, K.ref28_Close_l2b, ↓reduceIte, hx, t1, t2, e1, downF, downC, c1, c1', c2, c3, and_self, and_false, decide_true, decide_false, Bool.or_true, Bool.or_false, Bool.false_eq_true]
    · simp (disch := omega) only [go_sem, K.ref28_Close_l2b, ↓reduceIte, hx, t1, t2, e1, downF, downC, c1, c1', c2, and_self, false_and, decide_true, decide_false, Bool.or_true, Bool.or_false, Bool.false_eq_true]
  · have e1 : downC l frm.toNat to.toNat v1 = false := decide_eq_false c1
    have e2 : downF l frm.toNat to.toNat v1 = l := by unfold downF; rw [if_neg (by simp [e1])]
    rw [e2] at ln b3 b4 ⊢
    by_cases c4 : 0 ≤ v1
    · have c5 : ¬ nth l frm.toNat + v1 < nth l to.toNat := fun h => c1 ⟨c4, h⟩
      by_cases c2 : 0 ≤ v2
      · by_cases c3 : nth l to.toNat + v2 < nth l frm.toNat
        · simp (disch := omega) only [go_sem, K.ref28_Close_l2b, ↓reduceIte, hx, t1, t2, e1, downF, downC, c4, c5, c2, c3, and_self, decide_true, Bool.or_true]
        · simp (disch := omega) only [go_sem, K.ref28_Close_l2b, ↓reduceIte, hx, t1, t2, e1, downF, downC, c4, c5, c2, c3, and_self, and_false, decide_true, decide_false, Bool.or_true, Bool.or_false, Bool.false_eq_true]
      · simp (disch := omega) only [go_sem, K.ref28_Close_l2b, ↓reduceIte, hx, t1, t2, e1, downF, downC, c4, c5, c2, and_self, false_and, decide_true, decide_false, Bool.or_true, Bool.or_false, Bool.false_eq_true]
    · by_cases c2 : 0 ≤ v2
      · by_cases c3 : nth l to.toNat + v2 < nth l frm.toNat
        · simp (disch := omega) only [go_sem, K.ref28_Close_l2b, ↓reduceIte, hx, t1, t2, e1, downF, downC, c4, c2, c3, and_self, false_and, decide_false, decide_true, Bool.or_true]
        · simp (disch := omega) only [go_sem, K.ref28_Close_l2b, ↓reduceIte, hx, t1, t2, e1, downF, downC, c4, c2, c3, and_self, and_false, false_and, decide_true, decide_false, Bool.or_true, Bool.or_false, Bool.false_eq_true]
      · simp (disch := omega) only [go_sem, K.ref28_Close_l2b, ↓reduceIte, hx, t1, t2, e1, downF, downC, c4, c2, and_self, false_and, decide_true, decide_false, Bool.or_true, Bool.or_false, Bool.false_eq_true]

def capN (l : List Int) : Nat → List Int
  | 0 => l
  | j + 1 => if 2147483648 < nth (capN l j) j then (capN l j).set j 1099511627776 else capN l j
theorem capN_len (l : List Int) : ∀ j, (capN l j).length = l.length
  | 0 => rfl
  | j + 1 => by
    have := capN_len l j
    simp only [capN]; split <;> simp [this]
theorem nth_set {α : Type} [Dat α] {l : List α} {q j : Nat} {x : α} (hq : q < l.length) : nth (l.set q x) j = if q = j then x else nth l j := by
  unfold nth
  rw [List.getD_eq_getElem?_getD, List.getD_eq_getElem?_getD, List.getElem?_set]
  by_cases h : q = j
  · subst h; simp [hq]
  · simp [h]
theorem capN_nth (l : List Int) : ∀ j, j ≤ l.length → ∀ i, nth (capN l j) i = if i < j ∧ 2147483648 < nth l i then 1099511627776 else nth l i
  | 0, _, i => by simp [capN]
  | j + 1, hj, i => by
    have ih := capN_nth l j (by omega)
    have ln := capN_len l j
    have h1 := ih j
    rw [if_neg (by omega)] at h1
    simp only [capN, h1]
    split
    · rename_i hc
      rw [nth_set (by omega), ih]
      by_cases h : j = i
      · subst h; rw [if_pos rfl, if_pos ⟨by omega, hc⟩]
      · rw [if_neg h]
        by_cases h2 : i < j ∧ 2147483648 < nth l i
        · rw [if_pos h2, if_pos ⟨by omega, h2.2⟩]
        · rw [if_neg h2, if_neg (by omega)]
    · rename_i hc
      rw [ih]
      by_cases h : j = i
      · subst h; rw [if_neg (by omega), if_neg (by omega)]
      · by_cases h2 : i < j ∧ 2147483648 < nth l i
        · rw [if_pos h2, if_pos ⟨by omega, h2.2⟩]
        · rw [if_neg h2, if_neg (by omega)]

def closeS (m : Mine) (fl : List Spn) (l : List Int) : List Int := capN (closeN (smRound m fl) (sumN l + 1) l) m.places.length

theorem closeS_ok {m : Mine} (h : m.ok) (fl : List Spn) (hfl : flowsB m fl = true) (l : List Int) (hl : l.length = m.places.length) (hb : bnd l) :
    CALL 0 N.ref28_Close [.t m.e, .t (tS fl), .t (tL l)] [] = some (.t (tL (closeS m fl l)), []) ∧ (closeN (smRound m fl) (sumN l + 1) l).length = m.places.length ∧ bnd (closeN (smRound m fl) (sumN l + 1) l) := by
  have nr := h.nr
  have np := h.np
  obtain ⟨fl1, fl2⟩ := flowsB_spec hfl
  have inner : ∀ (l : List Int), l.length = m.places.length → bnd l → ∀ (a b c d e f g : D), exS CALL K.ref28_Close_l2 ⟨[a, .t (tS fl), b, .bp 0 0, c, .ref 1 0 l.length, B false, I 0, d, e, f, g], [.box (mineCells m), .arr 1 false 0 ((l.map (T.int .i64)).map .t)]⟩ =
      some (.exit 2, ⟨[.und, .t (tS fl), .und, .bp 0 0, .und, .ref 1 0 l.length, B (smRound m fl l).2, I m.roads.length, .und, .und, .und, .und], [.box (mineCells m), .arr 1 false 0 (((smRound m fl l).1.map (T.int .i64)).map .t)]⟩) := by
    intro l hl hb a b c d e f g
    refine loop_up (fun j => ⟨[.und, .t (tS fl), .und, .bp 0 0, .und, .ref 1 0 (smSteps m fl l j).1.length, B (smSteps m fl l j).2, I j, .und, .und, .und, .und], [.box (mineCells m), .arr 1 false 0 (((smSteps m fl l j).1.map (T.int .i64)).map .t)]⟩) m.roads.length rfl ?_ ?_ (by simp)
    · intro j hj
      have := sm_step h fl fl1 fl2 (smSteps m fl l j).1 (by rw [smSteps_len, hl]) (smSteps_bnd h hl hb j (by omega)) j hj (smSteps m fl l j).2
      have e : (smSteps m fl l (j + 1)).1.length = (smSteps m fl l j).1.length := by rw [smSteps_len, smSteps_len]
      rw [e]
      exact this
    · simp (disch := omega) only [go_sem, K.ref28_Close_l2b, ↓reduceIte, smRound, smSteps_len]
  have outer := fun (a b c d e f g h' : D) => loop_again (gc := true) (dead := [0, 2, 4, 7, 8, 9, 10, 11]) (c := K.ref28_Close_l1b) (vs := [a, .t (tS fl), b, .bp 0 0, c, .ref 1 0 l.length, B true, d, e, f, g, h']) (H := [.box (mineCells m), .arr 1 false 0 ((l.map (T.int .i64)).map .t)])
    (fun l ag => ⟨[.und, .t (tS fl), .und, .bp 0 0, .und, .ref 1 0 l.length, B ag, .und, .und, .und, .und, .und], [.box (mineCells m), .arr 1 false 0 ((l.map (T.int .i64)).map .t)]⟩)
    (fun l => (.exit 0, ⟨[.und, .t (tS fl), .und, .bp 0 0, .und, .ref 1 0 l.length, B false, .und, .und, .und, .und, .und], [.box (mineCells m), .arr 1 false 0 ((l.map (T.int .i64)).map .t)]⟩))
    (smRound m fl) (fun l => l.length = m.places.length ∧ bnd l) sumN
    (fun l ⟨hl, hb⟩ => ⟨⟨by rw [smRound, smSteps_len, hl], smSteps_bnd h hl hb _ (Nat.le_refl _)⟩, (smSteps_sum h hl hb _ (Nat.le_refl _)).1⟩)
    (by
      rintro l ⟨hl, hb⟩
      have := inner l hl hb
      have e : (smRound m fl l).1.length = l.length := by rw [smRound, smSteps_len]
      simp (disch := omega) only [go_sem, K.ref28_Close_l1b, ↓reduceIte, this, e])
    (by
      rintro l ⟨hl, hb⟩
      simp (disch := omega) only [go_sem, K.ref28_Close_l1b, ↓reduceIte, reduceCtorEq, ne_eq, not_false_eq_true, and_self])
    l ⟨hl, hb⟩ rfl
  obtain ⟨-, o2⟩ := outer .und .und .und .und .und .und .und .und
  refine ⟨?_, o2⟩
  refine CALL_of K.t_ref28_Close rfl ?_
  have o1 : ∀ a b c d e f g h' : D, exS CALL K.ref28_Close_l1 ⟨[a, .t (tS fl), b, .bp 0 0, c, .ref 1 0 l.length, B true, d, e, f, g, h'], [.box (mineCells m), .arr 1 false 0 ((l.map (T.int .i64)).map .t)]⟩ = _ := fun a b c d e f g h' => (outer a b c d e f g h').1
  clear outer inner
  have o2 := o2.1
  unfold closeS
  generalize closeN (smRound m fl) (sumN l + 1) l = l2 at *
  have ln := capN_len l2
  have o3 : ∀ a b c d e f g h' i j : D, exS CALL K.ref28_Close_l3 ⟨[a, b, c, d, e, .ref 1 0 l2.length, f, g, h', i, j, I 0], [.box (mineCells m), .arr 1 false 0 ((l2.map (T.int .i64)).map .t)]⟩ =
      some (.exit 4, ⟨[.und, .und, .und, .und, .und, .ref 1 0 l2.length, .und, .und, .und, .und, .und, I l2.length], [.box (mineCells m), .arr 1 false 0 (((capN l2 l2.length).map (T.int .i64)).map .t)]⟩) := by
    intro a b c d e f g h' i j
    refine loop_up (fun j => ⟨[.und, .und, .und, .und, .und, .ref 1 0 l2.length, .und, .und, .und, .und, .und, I j], [.box (mineCells m), .arr 1 false 0 (((capN l2 j).map (T.int .i64)).map .t)]⟩) l2.length rfl ?_ ?_ (by simp)
    · intro j hj
      have lj := ln j
      by_cases hc : 2147483648 < nth (capN l2 j) j
      · simp (disch := omega) only [go_sem, K.ref28_Close_l3b, ↓reduceIte, capN, hc]
      · simp (disch := omega) only [go_sem, K.ref28_Close_l3b, ↓reduceIte, capN, hc]
    · simp (disch := omega) only [go_sem, K.ref28_Close_l3b, ↓reduceIte]
  have ln := ln l2.length
  rw [← o2]
  simp (disch := omega) only [go_sem, K.ref28_Close, ↓reduceIte, o1, o3]

end Go.Ev

/- Chapter 28 of the references: starts and changes of smoke. -/
namespace Go.Ev
open Go
variable [Lib] [Has1] [Has2]

def plS (t x : Int) : Prop := x = 1099511627776 ∨ (t ≤ x ∧ x ≤ 2147483648)
instance (t x : Int) : Decidable (plS t x) := by unfold plS; infer_instance
def validS (m : Mine) (s : Wh) : Bool := (List.range s.frm.length).all (fun j => decide (plS s.time (nth s.frm j))) && decide (s.frm.length = m.places.length ∧ inT s.time)

theorem validS_ok {m : Mine} (h : m.ok) (s : Wh) (hl : s.frm.length ≤ 1000000) : CALL 0 N.ref28_Valid [.t m.e, .t s.e] [] = some (B (validS m s), []) := by
  refine CALL_of K.t_ref28_Valid rfl ?_
  have c := check_ok h
  have np := h.np
  obtain ⟨time, frm⟩ := s
  simp only at hl
  have loop : ∀ a b c : D, exS CALL K.ref28_Valid_l1 ⟨[a, b, .bp 0 0, .bp 1 0, c, I 0], [.box (mineCells m), .box [I time, .t (tL frm)]]⟩ =
      some (match (List.range frm.length).find? (fun j => !decide (plS time (nth frm j))) with
        | some j => (.ret, ⟨[.und, .und, .bp 0 0, .bp 1 0, B false, I j], [.box (mineCells m), .box [I time, .t (tL frm)]]⟩)
        | none => (.exit 0, ⟨[.und, .und, .bp 0 0, .bp 1 0, .und, I frm.length], [.box (mineCells m), .box [I time, .t (tL frm)]]⟩)) := by
    intro a b c
    refine loop_first (fun j => ⟨[.und, .und, .bp 0 0, .bp 1 0, .und, I j], [.box (mineCells m), .box [I time, .t (tL frm)]]⟩) frm.length (fun j => !decide (plS time (nth frm j))) _ _ rfl ?_ ?_ ?_ (by simp)
    · intro j hj hp
      have hp : plS time (nth frm j) := by simpa using hp
      unfold plS at hp
      by_cases h1 : nth frm j = 1099511627776
      · simp (disch := omega) only [go_sem, K.ref28_Valid_l1b, ↓reduceIte, h1]
      · simp (disch := omega) only [go_sem, K.ref28_Valid_l1b, ↓reduceIte]
    · intro j hj hp
      have hp : ¬ plS time (nth frm j) := by simpa using hp
      unfold plS at hp
      by_cases h2 : time ≤ nth frm j
      · simp (disch := omega) only [go_sem, K.ref28_Valid_l1b, ↓reduceIte]
        simp
      · simp (disch := omega) only [go_sem, K.ref28_Valid_l1b, ↓reduceIte]
        simp
    · simp (disch := omega) only [go_sem, K.ref28_Valid_l1b, ↓reduceIte]
  unfold validS
  rw [find_all]
  simp (disch := omega) only [go_sem, K.ref28_Valid, ↓reduceIte, loop]
  cases hf : (List.range frm.length).find? (fun j => !decide (plS time (nth frm j))) with
  | some j => simp (disch := omega) only [go_sem, ↓reduceIte, Option.isNone, Bool.false_and]
  | none =>
    by_cases h1 : frm.length = m.places.length
    · by_cases h2 : 0 ≤ time
      · by_cases h3 : time ≤ 2147483648
        · have h4 : inT time := ⟨h2, h3⟩
          simp (disch := omega) only [go_sem, ↓reduceIte, Option.isNone, c, h1, h4, and_self, decide_true, Bool.true_and]
        · have h4 : ¬ inT time := by unfold inT; omega
          simp (disch := omega) only [go_sem, ↓reduceIte, Option.isNone, c, h1, h4, and_false, decide_false, Bool.true_and]
      · have h4 : ¬ inT time := by unfold inT; omega
        simp (disch := omega) only [go_sem, ↓reduceIte, Option.isNone, c, h1, h4, and_false, decide_false, Bool.true_and]
    · simp (disch := omega) only [go_sem, ↓reduceIte, Option.isNone, c, h1, false_and, decide_false, Bool.true_and]

theorem copyS_ok (w : Wh) (hl : w.frm.length ≤ 4294967296) : CALL 0 N.ref28_Copy [.t w.e] [] = some (.t w.e, []) := by
  refine CALL_of K.t_ref28_Copy rfl ?_
  obtain ⟨time, frm⟩ := w
  simp only at *
  simp (disch := omega) only [go_sem, K.ref28_Copy, ↓reduceIte, Nat.reduceAdd, Nat.reduceSub]

def initS (l : List Int) (t : Int) (n : Nat) : List Int := (List.range n).map fun (p : Nat) => if (p : Int) ∈ l then t else 1099511627776
theorem initS_succ (l : List Int) (t : Int) (n : Nat) : initS l t (n + 1) = initS l t n ++ [if (n : Int) ∈ l then t else 1099511627776] := by
  unfold initS; rw [List.range_succ, List.map_append]; rfl
@[simp] theorem initS_len (l : List Int) (t : Int) (n : Nat) : (initS l t n).length = n := by simp [initS]
theorem initS_bnd (l : List Int) {t : Int} (ht : inT t) (n : Nat) : bnd (initS l t n) := by
  intro x hx
  simp only [initS, List.mem_map] at hx
  obtain ⟨p, -, rfl⟩ := hx
  unfold inT at ht
  split <;> omega

def startS (m : Mine) (fl : List Spn) (l : List Int) (t : Int) : Wh × Int :=
  if flowsB m fl = false then (⟨0, []⟩, 6) else if setB l m.places.length = false then (⟨0, []⟩, 3) else if ¬ inT t then (⟨0, []⟩, 8) else
  (⟨t, closeS m fl (initS l t m.places.length)⟩, 0)

theorem startS_ok {m : Mine} (h : m.ok) (fl : List Spn) (hfl : fl.length ≤ 1000000) (l : List Int) (hl : l.length ≤ 1000000) (t : Int) :
    CALL 0 N.ref28_Start [.t m.e, .t (tS fl), .t (tL l), I t] [] = some (.tup [.t (startS m fl l t).1.e, I (startS m fl l t).2], []) := by
  refine CALL_of K.t_ref28_Start rfl ?_
  have c := check_ok h
  have np := h.np
  have nr := h.nr
  have f := flows_ok m (by omega) fl (by omega)
  have s := set_ok l m.places.length (by omega)
  unfold startS
  cases hf : flowsB m fl with
  | false =>
    rw [hf] at f
    simp (disch := omega) only [go_sem, K.ref28_Start, ↓reduceIte, c, f]
    rfl
  | true =>
    rw [hf] at f
    cases hs : setB l m.places.length with
    | false =>
      rw [hs] at s
      simp (disch := omega) only [go_sem, K.ref28_Start, ↓reduceIte, c, f, s, Bool.true_eq_false]
      rfl
    | true =>
      rw [hs] at s
      by_cases h1 : 0 ≤ t
      · by_cases h2 : t ≤ 2147483648
        · have ht : inT t := ⟨h1, h2⟩
          have cl := (closeS_ok h fl hf (initS l t m.places.length) (initS_len ..) (initS_bnd l ht _)).1
          have ln := initS_len l t
          have loop : ∀ a b : D, exS CALL K.ref28_Start_l1 ⟨[a, .t (tS fl), .t (tL l), I t, .bp 0 0, .bp 1 0, b, .ref 2 0 0, I 0], [.box (mineCells m), .box [I 0, .nil], .arr 1 false 0 []]⟩ =
              some (.exit 1, ⟨[.und, .t (tS fl), .t (tL l), I t, .bp 0 0, .bp 1 0, .und, .ref 2 0 m.places.length, I m.places.length], [.box (mineCells m), .box [I 0, .nil], .arr 1 false 0 (((initS l t m.places.length).map (T.int .i64)).map .t)]⟩) := by
            intro a b
            refine loop_up (fun j => ⟨[.und, .t (tS fl), .t (tL l), I t, .bp 0 0, .bp 1 0, .und, .ref 2 0 j, I j], [.box (mineCells m), .box [I 0, .nil], .arr 1 false 0 (((initS l t j).map (T.int .i64)).map .t)]⟩) m.places.length rfl ?_ ?_ (by simp)
            · intro j hj
              have g := has_ok l j (by omega)
              have lj := ln j
              by_cases hm : (j : Int) ∈ l
              · simp only [hm, decide_true] at g
                simp (disch := omega) only [go_sem, K.ref28_Start_l1b, ↓reduceIte, g, hm, initS_succ]
              · simp only [hm, decide_false] at g
                simp (disch := omega) only [go_sem, K.ref28_Start_l1b, ↓reduceIte, g, hm, initS_succ]
            · simp (disch := omega) only [go_sem, K.ref28_Start_l1b, ↓reduceIte]
          have ln := ln m.places.length
          simp (disch := omega) only [go_sem, K.ref28_Start, ↓reduceIte, c, f, s, ht, loop, cl, Bool.true_eq_false, not_true_eq_false]
        · have ht : ¬ inT t := by unfold inT; omega
          simp (disch := omega) only [go_sem, K.ref28_Start, ↓reduceIte, c, f, s, ht, Bool.true_eq_false, not_false_eq_true]
          rfl
      · have ht : ¬ inT t := by unfold inT; omega
        simp (disch := omega) only [go_sem, K.ref28_Start, ↓reduceIte, c, f, s, ht, Bool.true_eq_false, not_false_eq_true]
        rfl

end Go.Ev

/- Chapter 28 of the references: a change. -/
namespace Go.Ev
open Go
variable [Lib] [Has1] [Has2]

def chHalf (m : Mine) (fl : List Spn) (frm : List Int) (t : Int) (k : Nat) (back : Bool) (l : List Int) : List Int :=
  if nth frm ((nth m.roads k).src back).toNat ≤ t ∧ 0 ≤ travelF (nth m.roads k) (nth fl k) back then l.set ((nth m.roads k).dst back).toNat (min (nth l ((nth m.roads k).dst back).toNat) t) else l
def chStep (m : Mine) (fl : List Spn) (frm : List Int) (t : Int) (k : Nat) (l : List Int) : List Int := chHalf m fl frm t k true (chHalf m fl frm t k false l)
def chN (m : Mine) (fl : List Spn) (frm : List Int) (t : Int) : Nat → List Int
  | 0 => frm
  | k + 1 => chStep m fl frm t k (chN m fl frm t k)
def maxN (t : Int) (l : List Int) : Nat → List Int
  | 0 => l
  | k + 1 => (maxN t l k).set k (max (nth (maxN t l k) k) t)

theorem chHalf_len (m : Mine) (fl : List Spn) (frm : List Int) (t : Int) (k : Nat) (back : Bool) (l : List Int) : (chHalf m fl frm t k back l).length = l.length := by
  unfold chHalf; split <;> simp
theorem chN_len (m : Mine) (fl : List Spn) (frm : List Int) (t : Int) : ∀ k, (chN m fl frm t k).length = frm.length
  | 0 => rfl
  | k + 1 => by simp only [chN, chStep, chHalf_len, chN_len m fl frm t k]
theorem maxN_len (t : Int) (l : List Int) : ∀ k, (maxN t l k).length = l.length
  | 0 => rfl
  | k + 1 => by simp only [maxN, List.length_set, maxN_len t l k]
theorem chHalf_bnd {m : Mine} (h : m.ok) (fl : List Spn) (frm : List Int) {t : Int} (ht : inT t) {k : Nat} (hk : k < m.roads.length) (back : Bool) {l : List Int} (hl : l.length = m.places.length) (hb : bnd l) : bnd (chHalf m fl frm t k back l) := by
  have r2 := Road.dst_ok (h.rs _ (nth_mem hk)) back
  unfold chHalf
  split
  · have := hb _ (nth_mem (l := l) (j := ((nth m.roads k).dst back).toNat) (by omega))
    unfold inT at ht
    exact bnd_set hb (by omega) (by omega)
  · exact hb
theorem chN_bnd {m : Mine} (h : m.ok) (fl : List Spn) {frm : List Int} (hl : frm.length = m.places.length) (hb : bnd frm) {t : Int} (ht : inT t) : ∀ k, k ≤ m.roads.length → bnd (chN m fl frm t k)
  | 0, _ => hb
  | k + 1, hk => chHalf_bnd h fl frm ht (by omega) _ (by rw [chHalf_len, chN_len, hl]) (chHalf_bnd h fl frm ht (by omega) _ (by rw [chN_len, hl]) (chN_bnd h fl hl hb ht k (by omega)))
theorem maxN_bnd {t : Int} (ht : inT t) {l : List Int} (hb : bnd l) : ∀ k, k ≤ l.length → bnd (maxN t l k)
  | 0, _ => hb
  | k + 1, hk => by
    have ih := maxN_bnd ht hb k (by omega)
    have := ih _ (nth_mem (l := maxN t l k) (j := k) (by rw [maxN_len]; omega))
    unfold inT at ht
    exact bnd_set ih (by omega) (by omega)

def changeS (m : Mine) (old : List Spn) (next : Mine) (fl : List Spn) (s : Wh) (t : Int) : Wh × Int :=
  if validS m s = false ∨ flowsB m old = false ∨ flowsB next fl = false ∨ next.places.length ≠ m.places.length then (s, 6) else
  if t < s.time ∨ 2147483648 < t then (s, 8) else (⟨t, closeS next fl (maxN t (chN m old s.frm t m.roads.length) m.places.length)⟩, 0)

theorem validS_spec {m : Mine} {s : Wh} (h : validS m s = true) : s.frm.length = m.places.length ∧ inT s.time ∧ ∀ x ∈ s.frm, plS s.time x := by
  simp only [validS, Bool.and_eq_true, decide_eq_true_eq, List.all_eq_true, List.mem_range] at h
  refine ⟨h.2.1, h.2.2, fun x hx => ?_⟩
  obtain ⟨j, hj⟩ := List.mem_iff_getElem?.1 hx
  have := h.1 j (List.getElem?_eq_some_iff.1 hj).1
  rwa [nth_eq hj] at this

/-- One road of a change. -/
theorem ch_step {m : Mine} (h : m.ok) (old : List Spn) (fl1 : old.length = m.roads.length) (fl2 : ∀ j, j < old.length → (nth old j).ok) (time t : Int) (ht : inT t) (frm l : List Int) (hl0 : frm.length = m.places.length) (hl : l.length = m.places.length)
    (k : Nat) (hk : k < m.roads.length) (H3 : List D) (r : D) (hr : Go.Ev.old 5 8 r = true) (h3 : allOld 5 8 H3 = true) :
    roundC true [0, 2, 4, 10, 13, 14] 5 (exS CALL K.ref28_Change_l1b ⟨[.und, .t (tS old), .und, r, .und, I t, .bp 0 0, .bp 1 0, .bp 2 0, .bp 3 0, .und, .ref 4 0 l.length, I k, .und, .und], [.box (mineCells m), .box H3, .box [I time, .t (tL frm)], .box [I 0, .nil], .arr 1 false 0 ((l.map (T.int .i64)).map .t)]⟩) =
      some ⟨[.und, .t (tS old), .und, r, .und, I t, .bp 0 0, .bp 1 0, .bp 2 0, .bp 3 0, .und, .ref 4 0 l.length, I (k + 1), .und, .und], [.box (mineCells m), .box H3, .box [I time, .t (tL frm)], .box [I 0, .nil], .arr 1 false 0 (((chStep m old frm t k l).map (T.int .i64)).map .t)]⟩ := by
  have np := h.np
  have nr := h.nr
  have t1 := travel_ok h k hk (nth old k) (fl2 k (by omega)) false
  have t2 := travel_ok h k hk (nth old k) (fl2 k (by omega)) true
  have r1 := Road.src_ok (h.rs _ (nth_mem hk)) false
  have r2 := Road.dst_ok (h.rs _ (nth_mem hk)) false
  simp only [Road.src, Road.dst, Bool.false_eq_true, ↓reduceIte] at r1 r2
  obtain ⟨f0, f1⟩ := r1
  obtain ⟨t0, t1'⟩ := r2
  unfold inT at ht
  simp only [chStep, chHalf, Road.src, Road.dst, Bool.false_eq_true, ↓reduceIte]
  generalize hw1 : travelF (nth m.roads k) (nth old k) false = v1 at *
  generalize hw2 : travelF (nth m.roads k) (nth old k) true = v2 at *
  generalize hx : nth m.roads k = x at *
  obtain ⟨a, b, len, area, walk, closed, rl, rh, ll, lh⟩ := x
  simp only at f0 f1 t0 t1' ⊢
  clear hw1 hw2 fl2
  have ln : (l.set b.toNat (min (nth l b.toNat) t)).length = l.length := List.length_set ..
  by_cases c1 : nth frm a.toNat ≤ t
  · by_cases c2 : 0 ≤ v1
    · by_cases c3 : nth frm b.toNat ≤ t
      · by_cases c4 : 0 ≤ v2
        · simp (disch := omega) only [go_sem, K.ref28_Change_l1b, ↓reduceIte, hx, t1, t2, c1, c2, c3, c4, and_self, hr, h3]
        · simp (disch := omega) only [go_sem, K.ref28_Change_l1b, ↓reduceIte, hx, t1, t2, c1, c2, c3, c4, and_self, and_false, hr, h3]
      · simp (disch := omega) only [go_sem, K.ref28_Change_l1b, ↓reduceIte, hx, t1, t2, c1, c2, c3, and_self, false_and, hr, h3]
    · by_cases c3 : nth frm b.toNat ≤ t
      · by_cases c4 : 0 ≤ v2
        · simp (disch := omega) only [go_sem, K.ref28_Change_l1b, ↓reduceIte, hx, t1, t2, c1, c2, c3, c4, and_self, and_false, hr, h3]
        · simp (disch := omega) only [go_sem, K.ref28_Change_l1b, ↓reduceIte, hx, t1, t2, c1, c2, c3, c4, and_self, and_false, hr, h3]
      · simp (disch := omega) only [go_sem, K.ref28_Change_l1b, ↓reduceIte, hx, t1, t2, c1, c2, c3, and_self, false_and, and_false, hr, h3]
  · by_cases c3 : nth frm b.toNat ≤ t
    · by_cases c4 : 0 ≤ v2
      · simp (disch := omega) only [go_sem, K.ref28_Change_l1b, ↓reduceIte, hx, t1, t2, c1, c3, c4, and_self, and_false, false_and, hr, h3]
      · simp (disch := omega) only [go_sem, K.ref28_Change_l1b, ↓reduceIte, hx, t1, t2, c1, c3, c4, and_self, and_false, false_and, hr, h3]
    · simp (disch := omega) only [go_sem, K.ref28_Change_l1b, ↓reduceIte, hx, t1, t2, c1, c3, and_self, false_and, hr, h3]

theorem changeS_ok {m : Mine} (h : m.ok) (old : List Spn) (ho : old.length ≤ 1000000) {next : Mine} (hn : next.ok) (fl : List Spn) (hfl : fl.length ≤ 1000000) (s : Wh) (hs : s.frm.length ≤ 1000000) (t : Int) :
    CALL 0 N.ref28_Change [.t m.e, .t (tS old), .t next.e, .t (tS fl), .t s.e, I t] [] = some (.tup [.t (changeS m old next fl s t).1.e, I (changeS m old next fl s t).2], []) := by
  refine CALL_of K.t_ref28_Change rfl ?_
  have c := copyS_ok s (by omega)
  have v := validS_ok h s hs
  have nr := h.nr
  have nr2 := hn.nr
  have np := h.np
  have np2 := hn.np
  have f1 := flows_ok m (by omega) old ho
  have f2 := flows_ok next (by omega) fl hfl
  have ck := check_ok hn
  unfold changeS
  cases hv : validS m s with
  | false =>
    rw [hv] at v
    obtain ⟨time, frm⟩ := s
    simp only at *
    simp (disch := omega) only [go_sem, K.ref28_Change, ↓reduceIte, c, v, true_or]
  | true =>
    rw [hv] at v
    obtain ⟨s1, s2, s3⟩ := validS_spec hv
    cases ho : flowsB m old with
    | false =>
      rw [ho] at f1
      obtain ⟨time, frm⟩ := s
      simp only at *
      simp (disch := omega) only [go_sem, K.ref28_Change, ↓reduceIte, c, v, f1, true_or, or_true]
    | true =>
      rw [ho] at f1
      obtain ⟨o1, o2⟩ := flowsB_spec ho
      cases hf : flowsB next fl with
      | false =>
        rw [hf] at f2
        obtain ⟨time, frm⟩ := s
        simp only at *
        simp (disch := omega) only [go_sem, K.ref28_Change, ↓reduceIte, c, v, f1, f2, ck, true_or, or_true]
      | true =>
        rw [hf] at f2
        by_cases hp : next.places.length = m.places.length
        · by_cases h1 : t < s.time
          · obtain ⟨time, frm⟩ := s
            simp only at *
            simp (disch := omega) only [go_sem, K.ref28_Change, ↓reduceIte, c, v, f1, f2, ck, hp, h1, true_or, ne_eq, not_true_eq_false, or_self, Bool.true_eq_false]
          · by_cases h2 : 2147483648 < t
            · obtain ⟨time, frm⟩ := s
              simp only at *
              simp (disch := omega) only [go_sem, K.ref28_Change, ↓reduceIte, c, v, f1, f2, ck, hp, h1, h2, or_true, ne_eq, not_true_eq_false, or_self, Bool.true_eq_false]
            · have ht : inT t := by unfold inT at s2 ⊢; omega
              obtain ⟨time, frm⟩ := s
              simp only at s1 s2 s3 c v h1 hs ⊢
              have hb : bnd frm := fun x hx => by
                have := s3 x hx
                unfold plS at this; unfold inT at s2; omega
              have l1 : ∀ a b c d e f : D, exS CALL K.ref28_Change_l1 ⟨[a, .t (tS old), b, .t (tS fl), c, I t, .bp 0 0, .bp 1 0, .bp 2 0, .bp 3 0, d, .ref 4 0 frm.length, I 0, e, f], [.box (mineCells m), .box (mineCells next), .box [I time, .t (tL frm)], .box [I 0, .nil], .arr 1 false 0 ((frm.map (T.int .i64)).map .t)]⟩ =
                  some (.exit 0, ⟨[.und, .t (tS old), .und, .t (tS fl), .und, I t, .bp 0 0, .bp 1 0, .bp 2 0, .bp 3 0, .und, .ref 4 0 frm.length, I m.roads.length, .und, .und], [.box (mineCells m), .box (mineCells next), .box [I time, .t (tL frm)], .box [I 0, .nil], .arr 1 false 0 (((chN m old frm t m.roads.length).map (T.int .i64)).map .t)]⟩) := by
                intro a b c d e f
                refine loop_up (fun j => ⟨[.und, .t (tS old), .und, .t (tS fl), .und, I t, .bp 0 0, .bp 1 0, .bp 2 0, .bp 3 0, .und, .ref 4 0 frm.length, I j, .und, .und], [.box (mineCells m), .box (mineCells next), .box [I time, .t (tL frm)], .box [I 0, .nil], .arr 1 false 0 (((chN m old frm t j).map (T.int .i64)).map .t)]⟩) m.roads.length rfl ?_ ?_ (by simp)
                · intro j hj
                  have st := ch_step h old o1 o2 time t ht frm (chN m old frm t j) s1 (by rw [chN_len, s1]) j hj (mineCells next) (.t (tS fl)) rfl rfl
                  rw [chN_len] at st
                  exact st
                · simp (disch := omega) only [go_sem, K.ref28_Change_l1b, ↓reduceIte]
              have lc := chN_len m old frm t m.roads.length
              have bc := chN_bnd h old s1 hb ht m.roads.length (Nat.le_refl _)
              generalize hL : chN m old frm t m.roads.length = L at *
              have lm := maxN_len t L
              have l2 : ∀ a b c d e f g h' i : D, exS CALL K.ref28_Change_l2 ⟨[a, b, c, .t (tS fl), d, I t, e, .bp 1 0, f, .bp 3 0, g, .ref 4 0 L.length, h', i, I 0], [.box (mineCells m), .box (mineCells next), .box [I time, .t (tL frm)], .box [I 0, .nil], .arr 1 false 0 ((L.map (T.int .i64)).map .t)]⟩ =
                  some (.exit 2, ⟨[.und, .und, .und, .t (tS fl), .und, I t, .und, .bp 1 0, .und, .bp 3 0, .und, .ref 4 0 L.length, .und, .und, I L.length], [.box (mineCells m), .box (mineCells next), .box [I time, .t (tL frm)], .box [I 0, .nil], .arr 1 false 0 (((maxN t L L.length).map (T.int .i64)).map .t)]⟩) := by
                intro a b c d e f g h' i
                refine loop_up (fun j => ⟨[.und, .und, .und, .t (tS fl), .und, I t, .und, .bp 1 0, .und, .bp 3 0, .und, .ref 4 0 L.length, .und, .und, I j], [.box (mineCells m), .box (mineCells next), .box [I time, .t (tL frm)], .box [I 0, .nil], .arr 1 false 0 (((maxN t L j).map (T.int .i64)).map .t)]⟩) L.length rfl ?_ ?_ (by simp)
                · intro j hj
                  have lj := lm j
                  simp (disch := omega) only [go_sem, K.ref28_Change_l2b, ↓reduceIte, maxN]
                · simp (disch := omega) only [go_sem, K.ref28_Change_l2b, ↓reduceIte]
              have lm := lm L.length
              have bm := maxN_bnd ht bc L.length (Nat.le_refl _)
              have cl := (closeS_ok hn fl hf (maxN t L L.length) (by omega) bm).1
              have e : m.places.length = frm.length := by omega
              rw [lc] at l2 cl lm
              simp (disch := omega) only [go_sem, K.ref28_Change, ↓reduceIte, c, v, f1, f2, ck, hp, h1, h2, e, or_false, ne_eq, not_true_eq_false, or_self, Bool.true_eq_false, l1, l2, cl]
              done
        · obtain ⟨time, frm⟩ := s
          simp only at *
          simp (disch := omega) only [go_sem, K.ref28_Change, ↓reduceIte, c, v, f1, f2, ck, hp, not_false_eq_true, ne_eq, or_true]

end Go.Ev

/- The program: smoke. -/
namespace Go.Ev
open Go
variable [Lib] [Has1] [Has2] [Has6] [Has7]

theorem sTravel_ok {m : Mine} (h : m.ok) (k : Nat) (hk : k < m.roads.length) (f : Spn) (hf : f.ok) (back : Bool) :
    CALL 0 N.smoke_Travel [.t m.e, I k, .t f.e, B back] [] = some (I (travelF (nth m.roads k) f back), []) := by
  refine CALL_of K.t_smoke_Travel rfl ?_
  have nr := h.nr
  have ok := h.rs _ (nth_mem hk)
  obtain ⟨lo, hi⟩ := f
  unfold Spn.ok at hf
  unfold travelF
  have g0 : (m.roads.map Road.e)[k]? = some (nth m.roads k).e := map_nth _ hk
  generalize nth m.roads k = x at *
  have l0 := ok.l0; have l1 := ok.l1; have a0 := ok.a0; have a1 := ok.a1
  obtain ⟨frm, to, len, area, walk, closed, rl, rh, ll, lh⟩ := x
  simp only at l0 l1 a0 a1 hf g0 ⊢
  clear ok
  have hm : 0 ≤ len * area := Int.mul_nonneg (by omega) (by omega)
  have hm2 : len * area ≤ 100000 * 1000 := Int.mul_le_mul l1 a1 (by omega) (by omega)
  have w1 : IntKind.i64.wrap (-lo) = -lo := wrap_id (by omega) (by omega)
  have w2 : IntKind.i64.wrap (-hi) = -hi := wrap_id (by omega) (by omega)
  obtain ⟨places, roads⟩ := m
  simp only at hk nr g0
  cases closed with
  | true => simp (disch := omega) only [go_sem, K.smoke_Travel, ↓reduceIte, g0, Nat.reduceAdd, Nat.reduceSub]
  | false =>
    cases back with
    | false =>
      by_cases c1 : 0 < hi
      · have g1 := tdiv_bd (a := len * area * 1000) (b := hi) (by omega) (by omega)
        by_cases c2 : len < (len * area * 1000).tdiv hi
        · simp (disch := omega) only [go_sem, K.smoke_Travel, ↓reduceIte, g0, w1, w2, c1, c2, and_self, or_true, and_true, Bool.false_eq_true, Nat.reduceAdd, Nat.reduceSub]
        · by_cases c3 : (len * area * 1000).tdiv hi < len
          · simp (disch := omega) only [go_sem, K.smoke_Travel, ↓reduceIte, g0, w1, w2, c1, c2, c3, and_self, or_false, and_true, and_false, Bool.false_eq_true, Nat.reduceAdd, Nat.reduceSub]
          · have e : (len * area * 1000).tdiv hi = len := by omega
            simp (disch := omega) only [go_sem, K.smoke_Travel, ↓reduceIte, g0, w1, w2, c1, e, and_self, or_false, and_true, and_false, Bool.false_eq_true, Nat.reduceAdd, Nat.reduceSub]
      · by_cases c2 : -500 * area < hi
        · simp (disch := omega) only [go_sem, K.smoke_Travel, ↓reduceIte, g0, w1, w2, c1, c2, and_self, true_or, and_true, Bool.false_eq_true, Nat.reduceAdd, Nat.reduceSub]
        · simp (disch := omega) only [go_sem, K.smoke_Travel, ↓reduceIte, g0, w1, w2, c1, c2, false_and, Bool.false_eq_true, Nat.reduceAdd, Nat.reduceSub]
    | true =>
      by_cases c1 : 0 < -lo
      · have g1 := tdiv_bd (a := len * area * 1000) (b := -lo) (by omega) (by omega)
        by_cases c2 : len < (len * area * 1000).tdiv (-lo)
        · simp (disch := omega) only [go_sem, K.smoke_Travel, ↓reduceIte, g0, w1, w2, c1, c2, Int.zero_sub, and_self, or_true, and_true, Bool.false_eq_true, Nat.reduceAdd, Nat.reduceSub]
        · by_cases c3 : (len * area * 1000).tdiv (-lo) < len
          · simp (disch := omega) only [go_sem, K.smoke_Travel, ↓reduceIte, g0, w1, w2, c1, c2, c3, Int.zero_sub, and_self, or_false, and_true, and_false, Bool.false_eq_true, Nat.reduceAdd, Nat.reduceSub]
          · have e : (len * area * 1000).tdiv (-lo) = len := by omega
            simp (disch := omega) only [go_sem, K.smoke_Travel, ↓reduceIte, g0, w1, w2, c1, e, Int.zero_sub, and_self, or_false, and_true, and_false, Bool.false_eq_true, Nat.reduceAdd, Nat.reduceSub]
      · by_cases c2 : lo < 500 * area
        · simp (disch := omega) only [go_sem, K.smoke_Travel, ↓reduceIte, g0, w1, w2, c1, c2, Int.zero_sub, and_self, true_or, and_true, Bool.false_eq_true, Nat.reduceAdd, Nat.reduceSub]
        · simp (disch := omega) only [go_sem, K.smoke_Travel, ↓reduceIte, g0, w1, w2, c1, c2, Int.zero_sub, false_and, Bool.false_eq_true, Nat.reduceAdd, Nat.reduceSub]

/- the program's look at a mine: only at good ones -/
theorem spanIn_ok (a b lo hi : Int) (h1 : lo ≤ a) (h2 : a ≤ b) (h3 : b ≤ hi) : CALL 0 N.plan_spanIn [.t (.agg [tI a, tI b]), I lo, I hi] [] = some (B true, []) := by
  refine CALL_of K.t_plan_spanIn rfl ?_
  simp (disch := omega) only [go_sem, K.plan_spanIn, ↓reduceIte, Nat.reduceAdd, Nat.reduceSub]
theorem planCheck_ok {m : Mine} (h : m.ok) : CALL 0 N.plan_Check [.t m.e] [] = some (I 0, []) := by
  refine CALL_of K.t_plan_Check rfl ?_
  have np := h.np
  have nr := h.nr
  have hs := h.hs
  have rs := h.rs
  obtain ⟨places, roads⟩ := m
  simp only at np nr hs rs
  have l1 : ∀ z0 z2 z3 z4 z5 z9 z10 z11 : D, exS CALL K.plan_Check_l1 ⟨[z0, .bp 0 0, z2, z3, z4, z5, .t (.sl (places.map Place.e)), I places.length, I 0, z9, z10, z11], [.box (mineCells ⟨places, roads⟩)]⟩ =
      some (.exit 0, ⟨[.und, .bp 0 0, .und, .und, .und, .und, .t (.sl (places.map Place.e)), I places.length, I places.length, .und, .und, .und], [.box (mineCells ⟨places, roads⟩)]⟩) := by
    intro z0 z2 z3 z4 z5 z9 z10 z11
    refine loop_up (fun j => ⟨[.und, .bp 0 0, .und, .und, .und, .und, .t (.sl (places.map Place.e)), I places.length, I j, .und, .und, .und], [.box (mineCells ⟨places, roads⟩)]⟩) places.length rfl ?_ ?_ (by simp)
    · intro j hj
      have g : (places.map Place.e)[j]? = some (nth places j).e := map_nth _ hj
      have q := hs _ (nth_mem hj)
      generalize nth places j = x at *
      obtain ⟨hh, sf⟩ := x
      simp only [mineCells] at *
      simp (disch := omega) only [go_sem, K.plan_Check_l1b, ↓reduceIte, g, Nat.reduceAdd, Nat.reduceSub]
    · simp (disch := omega) only [go_sem, K.plan_Check_l1b, ↓reduceIte, mineCells, Nat.reduceAdd, Nat.reduceSub]
  have l2 : ∀ z0 z1 z2 z3 z5 z6 z7 z8 : D, exS CALL K.plan_Check_l2 ⟨[z0, z1, z2, z3, I places.length, z5, z6, z7, z8, .t (.sl (roads.map Road.e)), I roads.length, I 0], [.box (mineCells ⟨places, roads⟩)]⟩ =
      some (.exit 2, ⟨[.und, .und, .und, .und, I places.length, .und, .und, .und, .und, .t (.sl (roads.map Road.e)), I roads.length, I roads.length], [.box (mineCells ⟨places, roads⟩)]⟩) := by
    intro z0 z1 z2 z3 z5 z6 z7 z8
    refine loop_up (fun j => ⟨[.und, .und, .und, .und, I places.length, .und, .und, .und, .und, .t (.sl (roads.map Road.e)), I roads.length, I j], [.box (mineCells ⟨places, roads⟩)]⟩) roads.length rfl ?_ ?_ (by simp)
    · intro j hj
      have g : (roads.map Road.e)[j]? = some (nth roads j).e := map_nth _ hj
      have q := rs _ (nth_mem hj)
      generalize nth roads j = x at *
      have f0 := q.f0; have f1 := q.f1; have t0 := q.t0; have t1 := q.t1; have ne := q.ne; have l0 := q.l0; have l1 := q.l1; have a0 := q.a0; have a1 := q.a1
      have r0 := q.r0; have r1 := q.r1; have r2 := q.r2; have i0 := q.i0; have i1 := q.i1; have i2 := q.i2
      clear q
      obtain ⟨frm, to, len, area, walk, closed, rl, rh, ll, lh⟩ := x
      simp only [mineCells] at *
      have s1 := spanIn_ok rl rh 1 262144 r0 r1 r2
      have s2 := spanIn_ok ll lh (-2199023255552) 2199023255552 i0 i1 i2
      simp (disch := omega) only [go_sem, K.plan_Check_l2b, ↓reduceIte, g, s1, s2, Nat.reduceAdd, Nat.reduceSub]
    · simp (disch := omega) only [go_sem, K.plan_Check_l2b, ↓reduceIte, mineCells, Nat.reduceAdd, Nat.reduceSub]
  simp only [mineCells] at l1 l2
  simp (disch := omega) only [go_sem, K.plan_Check, ↓reduceIte, l1, l2, Nat.reduceAdd, Nat.reduceSub]
theorem planValid_ok {m : Mine} (h : m.ok) : CALL 0 N.plan_Valid [.t m.e] [] = some (B true, []) := by
  refine CALL_of K.t_plan_Valid rfl ?_
  have c := planCheck_ok h
  obtain ⟨places, roads⟩ := m
  simp (disch := omega) only [go_sem, K.plan_Valid, ↓reduceIte, c, Nat.reduceAdd, Nat.reduceSub]
end Go.Ev

/- The program: smoke, what is given. -/
namespace Go.Ev
open Go
variable [Lib] [Has1] [Has2] [Has6] [Has7]

theorem indexFuncS_ok (l : List Spn) (hl : l.length ≤ 4294967296) (f : Nat) (bs : List (List T)) (p : Spn → Bool) (h : ∀ x, x ∈ l → CALL 0 f (.t x.e :: capsN bs.length) (boxesT bs) = some (B (p x), boxesT bs)) :
    CALL 0 N.slices_IndexFunc_api_Span_api_Span [.t (.sl (l.map Spn.e)), .fn f (capsN bs.length)] (boxesT bs) =
    some (I (match (List.range l.length).find? (fun j => p (nth l j)) with | some j => (j : Int) | none => -1), boxesT bs) := by
  refine CALL_of K.t_slices_IndexFunc_api_Span_api_Span rfl ?_
  have loop : ∀ a b : D, exS CALL K.slices_IndexFunc_api_Span_api_Span_l1 ⟨[.t (.sl (l.map Spn.e)), .fn f (capsN bs.length), a, b, I l.length, I 0], boxesT bs⟩ =
      some (match (List.range l.length).find? (fun j => p (nth l j)) with
        | some j => (.ret, ⟨[.t (.sl (l.map Spn.e)), .fn f (capsN bs.length), I j, I j, I l.length, I j], boxesT bs⟩)
        | none => (.exit 0, ⟨[.t (.sl (l.map Spn.e)), .fn f (capsN bs.length), .und, .und, I l.length, I l.length], boxesT bs⟩)) := by
    intro a b
    refine loop_first (fun j => ⟨[.t (.sl (l.map Spn.e)), .fn f (capsN bs.length), .und, .und, I l.length, I j], boxesT bs⟩) l.length (fun j => p (nth l j)) _ _ rfl ?_ ?_ ?_ (by simp)
    · intro j hj hp
      have hc := clos_call0 (h _ (nth_mem hj)) rfl
      simp (disch := omega) only [go_sem, K.slices_IndexFunc_api_Span_api_Span_l1b, ↓reduceIte, hc, hp]
    · intro j hj hp
      have hc := clos_call0 (h _ (nth_mem hj)) rfl
      simp (disch := omega) only [go_sem, K.slices_IndexFunc_api_Span_api_Span_l1b, ↓reduceIte, hp, hc]
      simp
    · simp (disch := omega) only [go_sem, K.slices_IndexFunc_api_Span_api_Span_l1b, ↓reduceIte]
  simp (disch := omega) only [go_sem, K.slices_IndexFunc_api_Span_api_Span, ↓reduceIte, loop]
  cases hf : (List.range l.length).find? (fun j => p (nth l j)) with
  | some j => simp (disch := omega) only [go_sem, ↓reduceIte]
  | none => simp (disch := omega) only [go_sem, ↓reduceIte]

theorem any_nthS {α : Type} [Dat α] {l : List α} {p : α → Bool} : ((List.range l.length).find? fun j => p (nth l j)).isSome = l.any p := by
  rw [List.isSome_find?, Bool.eq_iff_iff, List.any_eq_true, List.any_eq_true]
  constructor
  · rintro ⟨j, hj, h⟩
    exact ⟨_, nth_mem (List.mem_range.1 hj), h⟩
  · rintro ⟨x, hx, h⟩
    obtain ⟨j, hj⟩ := List.mem_iff_getElem?.1 hx
    exact ⟨j, List.mem_range.2 (List.getElem?_eq_some_iff.1 hj).1, by rw [nth_eq hj]; exact h⟩
theorem any_rangeS {α : Type} [Dat α] (l : List α) (p : α → Bool) : l.any p = (List.range l.length).any fun i => p (nth l i) := by
  rw [← any_nthS, List.isSome_find?]

theorem containsFuncS_ok (l : List Spn) (hl : l.length ≤ 4294967296) (f : Nat) (bs : List (List T)) (p : Spn → Bool) (h : ∀ x, x ∈ l → CALL 0 f (.t x.e :: capsN bs.length) (boxesT bs) = some (B (p x), boxesT bs)) :
    CALL 0 N.slices_ContainsFunc_api_Span_api_Span [.t (.sl (l.map Spn.e)), .fn f (capsN bs.length)] (boxesT bs) = some (B (l.any p), boxesT bs) := by
  refine CALL_of K.t_slices_ContainsFunc_api_Span_api_Span rfl ?_
  have h := indexFuncS_ok l hl f bs p h
  have hc := opCa_clos2 CALL bs f _ 0 (.sl (l.map Spn.e)) h rfl
  have e := any_nthS (l := l) (p := p)
  cases hf : (List.range l.length).find? (fun j => p (nth l j)) with
  | some j => rw [hf] at e hc; simp (disch := omega) only [go_sem, K.slices_ContainsFunc_api_Span_api_Span, ↓reduceIte, ← e, hc]
  | none => rw [hf] at e hc; simp (disch := omega) only [go_sem, K.slices_ContainsFunc_api_Span_api_Span, ↓reduceIte, ← e, hc, Option.isSome_none]


theorem given1_ok (f : Spn) : CALL 0 N.smoke_given_1 [.t f.e] [] = some (B (!decide f.ok), []) := by
  refine CALL_of K.t_smoke_given_1 rfl ?_
  obtain ⟨lo, hi⟩ := f
  unfold Spn.ok
  by_cases h1 : -1125899906842624 ≤ lo
  · by_cases h2 : hi ≤ 1125899906842624
    · by_cases h3 : lo ≤ hi <;> simp (disch := omega) only [go_sem, K.smoke_given_1, ↓reduceIte, h1, h2, h3, Nat.reduceAdd, Nat.reduceSub]
    · simp (disch := omega) only [go_sem, K.smoke_given_1, ↓reduceIte, h1, h2, false_and, and_false, decide_false, Nat.reduceAdd, Nat.reduceSub]
  · simp (disch := omega) only [go_sem, K.smoke_given_1, ↓reduceIte, h1, false_and, decide_false, Nat.reduceAdd, Nat.reduceSub]
theorem given_ok {m : Mine} (h : m.ok) (fl : List Spn) (hl : fl.length ≤ 1000000) : CALL 0 N.smoke_given [.t m.e, .t (tS fl)] [] = some (B (flowsB m fl), []) := by
  refine CALL_of K.t_smoke_given rfl ?_
  have v := planValid_ok h
  have nr := h.nr
  have c : CALL 0 N.slices_ContainsFunc_api_Span_api_Span [.t (tS fl), .fn N.smoke_given_1 []] [] = some (B (fl.any fun f => !decide f.ok), []) := containsFuncS_ok fl (by omega) N.smoke_given_1 [] (fun f => !decide f.ok) (fun f _ => given1_ok f)
  have e : flowsB m fl = (decide (fl.length = m.roads.length) && !(fl.any fun f => !decide f.ok)) := by
    unfold flowsB
    rw [Bool.and_comm, all_rng]
    have : ((List.range fl.length).any fun j => !decide (nth fl j).ok) = fl.any fun f => !decide f.ok := any_rng fl (fun f => !decide f.ok)
    rw [this]
  rw [e]
  generalize (fl.any fun f => !decide f.ok) = r at *
  obtain ⟨places, roads⟩ := m
  simp only at nr
  by_cases cl : fl.length = roads.length
  · cases r <;> simp (disch := omega) only [go_sem, K.smoke_given, ↓reduceIte, v, c, cl, Nat.reduceAdd, Nat.reduceSub]
  · cases r <;> simp (disch := omega) only [go_sem, K.smoke_given, ↓reduceIte, v, c, cl, Nat.reduceAdd, Nat.reduceSub]
end Go.Ev

/- The program: smoke spreads. -/
namespace Go.Ev
open Go
variable [Lib] [Has1] [Has2] [Has6] [Has7]

abbrev smMax : Int := 2147483648
def reachF (l : List Int) (n : Int) (p q : Nat) : List Int × Bool := if n < 0 ∨ smMax < nth l p ∨ smMax < nth l p + n ∨ nth l q ≤ nth l p + n then (l, false) else (l.set q (nth l p + n), true)
abbrev smArg (m : Mine) (fl : List Spn) (n : Nat) : D := .agg [.t (.sl (m.places.map Place.e)), .t (.sl (m.roads.map Road.e)), .t (tS fl), .ref 0 0 n]
theorem reach_ok {m : Mine} (h : m.ok) (fl : List Spn) (hfl : flowsB m fl = true) (l : List Int) (hl : l.length ≤ 1000000) (hb : ∀ x ∈ l, 0 ≤ x ∧ x ≤ 1099511627776) (r p q : Nat) (hr : r < m.roads.length) (hp : p < l.length) (hq : q < l.length) (back : Bool) :
    CALL 0 N.smoke_times_reach [smArg m fl l.length, I r, I p, I q, B back] [.arr 1 false 0 ((l.map (T.int .i64)).map .t)] =
      some (B (reachF l (travelF (nth m.roads r) (nth fl r) back) p q).2, [.arr 1 false 0 (((reachF l (travelF (nth m.roads r) (nth fl r) back) p q).1.map (T.int .i64)).map .t)]) := by
  refine CALL_of K.t_smoke_times_reach rfl ?_
  obtain ⟨f1, f2⟩ := flowsB_spec hfl
  have tr := sTravel_ok h r hr (nth fl r) (f2 r (by omega)) back
  have tb := travelF_bd (h.rs _ (nth_mem hr)) (f := nth fl r) back
  have gf : (fl.map Spn.e)[r]? = some (nth fl r).e := map_nth _ (by omega)
  have gp : ((l.map (T.int .i64)).map D.t)[p]? = some (.t (tI (nth l p))) := map2_nth _ _ hp
  have gq : ((l.map (T.int .i64)).map D.t)[q]? = some (.t (tI (nth l q))) := map2_nth _ _ hq
  have bp := hb _ (nth_mem hp)
  have nr := h.nr
  have np := h.np
  unfold reachF
  generalize travelF (nth m.roads r) (nth fl r) back = n at *
  generalize nth fl r = f at *
  generalize nth l p = x at *
  generalize nth l q = y at *
  obtain ⟨flo, fhi⟩ := f
  obtain ⟨places, roads⟩ := m
  simp only [smArg, smMax] at *
  by_cases c1 : n < 0
  · simp (disch := omega) only [go_sem, K.smoke_times_reach, ↓reduceIte, gf, gp, gq, tr, c1, true_or, Nat.reduceAdd, Nat.reduceSub]
  by_cases c2 : smMax < x
  · have hs := c2
    simp (disch := omega) only [go_sem, K.smoke_times_reach, ↓reduceIte, gf, gp, gq, tr, c1, c2, true_or, or_true, false_or, or_false, or_self, hs, Nat.reduceAdd, Nat.reduceSub, Bool.false_eq_true]
  by_cases c3 : smMax < x + n
  · have hs := c3
    simp (disch := omega) only [go_sem, K.smoke_times_reach, ↓reduceIte, gf, gp, gq, tr, c1, c2, c3, true_or, or_true, false_or, or_false, or_self, hs, Nat.reduceAdd, Nat.reduceSub, Bool.false_eq_true]
  by_cases c4 : y ≤ x + n
  · have hs := c4
    simp (disch := omega) only [go_sem, K.smoke_times_reach, ↓reduceIte, gf, gp, gq, tr, c1, c2, c3, c4, true_or, or_true, false_or, or_false, or_self, hs, Nat.reduceAdd, Nat.reduceSub, Bool.false_eq_true]
  · have hs : ((l.map (T.int .i64)).map D.t).set q (.t (.int .i64 (x + n))) = ((l.set q (x + n)).map (T.int .i64)).map D.t := by simp
    simp (disch := omega) only [go_sem, K.smoke_times_reach, ↓reduceIte, gf, gp, gq, tr, c1, c2, c3, c4, true_or, or_true, false_or, or_false, or_self, hs, Nat.reduceAdd, Nat.reduceSub, Bool.false_eq_true]
end Go.Ev

/- The program: smoke spreads until nothing changes. -/
namespace Go.Ev
open Go
variable [Lib] [Has1] [Has2] [Has6] [Has7]

def spHalf (m : Mine) (fl : List Spn) (k : Nat) (back : Bool) (l : List Int) : List Int × Bool :=
  reachF l (travelF (nth m.roads k) (nth fl k) back) ((nth m.roads k).src back).toNat ((nth m.roads k).dst back).toNat
def spStep (m : Mine) (fl : List Spn) (k : Nat) (s : List Int × Bool) : List Int × Bool :=
  ((spHalf m fl k true (spHalf m fl k false s.1).1).1, s.2 || (spHalf m fl k false s.1).2 || (spHalf m fl k true (spHalf m fl k false s.1).1).2)
def spSteps (m : Mine) (fl : List Spn) (l : List Int) : Nat → List Int × Bool
  | 0 => (l, false)
  | k + 1 => spStep m fl k (spSteps m fl l k)

theorem reachF_len (l : List Int) (n : Int) (p q : Nat) : (reachF l n p q).1.length = l.length := by unfold reachF; split <;> simp
theorem reachF_bnd {l : List Int} (hb : bnd l) {n : Int} {p q : Nat} (hp : p < l.length) : bnd (reachF l n p q).1 := by
  unfold reachF
  split
  · exact hb
  · rename_i c
    intro x hx
    have := hb _ (nth_mem hp)
    rcases List.mem_or_eq_of_mem_set hx with h | h
    · exact hb x h
    · simp only [smMax] at c; subst h; omega

abbrev spBox (m : Mine) (fl : List Spn) (n : Nat) : Obj := .box [.t (.sl (m.places.map Place.e)), .t (.sl (m.roads.map Road.e)), .t (tS fl), .ref 0 0 n]
theorem sp_step {m : Mine} (h : m.ok) (fl : List Spn) (hfl : flowsB m fl = true) (l : List Int) (hl : l.length = m.places.length) (hb : bnd l) (k : Nat) (hk : k < m.roads.length) (ch : Bool) :
    roundC true [0, 3, 4, 5, 6] 2 (exS CALL K.smoke_times_spread_l2b ⟨[.und, .bp 1 0, B ch, .und, .und, .und, .und, .t (.sl (m.roads.map Road.e)), I m.roads.length, I k], [.arr 1 false 0 ((l.map (T.int .i64)).map .t), spBox m fl l.length]⟩) =
      some ⟨[.und, .bp 1 0, B (spStep m fl k (l, ch)).2, .und, .und, .und, .und, .t (.sl (m.roads.map Road.e)), I m.roads.length, I (k + 1)], [.arr 1 false 0 (((spStep m fl k (l, ch)).1.map (T.int .i64)).map .t), spBox m fl l.length]⟩ := by
  have np := h.np
  have nr := h.nr
  have ok := h.rs _ (nth_mem hk)
  have f0 := ok.f0; have f1 := ok.f1; have t0 := ok.t0; have t1 := ok.t1
  have g : (m.roads.map Road.e)[k]? = some (nth m.roads k).e := map_nth _ hk
  have r1 := reach_ok h fl hfl l (by omega) hb k (nth m.roads k).frm.toNat (nth m.roads k).to.toNat hk (by omega) (by omega) false
  have hb2 := reachF_bnd hb (n := travelF (nth m.roads k) (nth fl k) false) (p := (nth m.roads k).frm.toNat) (q := (nth m.roads k).to.toNat) (by omega)
  have ln := reachF_len l (travelF (nth m.roads k) (nth fl k) false) (nth m.roads k).frm.toNat (nth m.roads k).to.toNat
  have r2 := reach_ok h fl hfl (reachF l (travelF (nth m.roads k) (nth fl k) false) (nth m.roads k).frm.toNat (nth m.roads k).to.toNat).1 (by omega) hb2 k (nth m.roads k).to.toNat (nth m.roads k).frm.toNat hk (by omega) (by omega) true
  have e1 : ((nth m.roads k).frm.toNat : Int) = (nth m.roads k).frm := by omega
  have e2 : ((nth m.roads k).to.toNat : Int) = (nth m.roads k).to := by omega
  rw [e1, e2] at r1 r2
  rw [ln] at r2
  simp only [spStep, spHalf, Road.src, Road.dst, Bool.false_eq_true, ↓reduceIte]
  generalize reachF l (travelF (nth m.roads k) (nth fl k) false) (nth m.roads k).frm.toNat (nth m.roads k).to.toNat = a at *
  obtain ⟨la, ca⟩ := a
  simp only at *
  generalize reachF la (travelF (nth m.roads k) (nth fl k) true) (nth m.roads k).to.toNat (nth m.roads k).frm.toNat = b at *
  obtain ⟨lb, cb⟩ := b
  generalize nth m.roads k = x at *
  obtain ⟨frm, to, len, area, walk, closed, rl, rh, ll, lh⟩ := x
  obtain ⟨places, roads⟩ := m
  simp only [smArg, spBox] at *
  cases ch <;> cases ca <;> cases cb <;> simp (disch := omega) only [go_sem, K.smoke_times_spread_l2b, ↓reduceIte, g, r1, r2, Bool.or_true, Bool.or_false, Bool.true_or, Nat.reduceAdd, Nat.reduceSub]

theorem reachF_sum {l : List Int} (hb : bnd l) {n : Int} {p q : Nat} (hp : p < l.length) (hq : q < l.length) :
    ((reachF l n p q).2 = true → sumN (reachF l n p q).1 < sumN l) ∧ ((reachF l n p q).2 = false → (reachF l n p q).1 = l) := by
  unfold reachF
  split
  · exact ⟨fun h => by simp at h, fun _ => rfl⟩
  · rename_i c
    refine ⟨fun _ => ?_, fun h => by simp at h⟩
    have := hb _ (nth_mem hp)
    exact sumN_set hq (by omega) (by omega)
theorem spHalf_len (m : Mine) (fl : List Spn) (k : Nat) (back : Bool) (l : List Int) : (spHalf m fl k back l).1.length = l.length := reachF_len _ _ _ _
theorem spSteps_len (m : Mine) (fl : List Spn) (l : List Int) : ∀ k, (spSteps m fl l k).1.length = l.length
  | 0 => rfl
  | k + 1 => by simp only [spSteps, spStep, spHalf_len, spSteps_len m fl l k]
section
variable {m : Mine} (h : m.ok) {fl : List Spn}
include h
theorem spHalf_bnd {l : List Int} (hl : l.length = m.places.length) (hb : bnd l) {k : Nat} (hk : k < m.roads.length) (back : Bool) : bnd (spHalf m fl k back l).1 := by
  have r1 := Road.src_ok (h.rs _ (nth_mem hk)) back
  exact reachF_bnd hb (by omega)
theorem spHalf_sum {l : List Int} (hl : l.length = m.places.length) (hb : bnd l) {k : Nat} (hk : k < m.roads.length) (back : Bool) :
    ((spHalf m fl k back l).2 = true → sumN (spHalf m fl k back l).1 < sumN l) ∧ ((spHalf m fl k back l).2 = false → (spHalf m fl k back l).1 = l) := by
  have r1 := Road.src_ok (h.rs _ (nth_mem hk)) back
  have r2 := Road.dst_ok (h.rs _ (nth_mem hk)) back
  exact reachF_sum hb (by omega) (by omega)
theorem spSteps_bnd {l : List Int} (hl : l.length = m.places.length) (hb : bnd l) : ∀ k, k ≤ m.roads.length → bnd (spSteps m fl l k).1
  | 0, _ => hb
  | k + 1, hk => by
    have ih := spSteps_bnd hl hb k (by omega)
    simp only [spSteps, spStep]
    exact spHalf_bnd h (by rw [spHalf_len, spSteps_len, hl]) (spHalf_bnd h (by rw [spSteps_len, hl]) ih (by omega) _) (by omega) _
theorem spSteps_sum {l : List Int} (hl : l.length = m.places.length) (hb : bnd l) : ∀ k, k ≤ m.roads.length →
    ((spSteps m fl l k).2 = true → sumN (spSteps m fl l k).1 < sumN l) ∧ ((spSteps m fl l k).2 = false → (spSteps m fl l k).1 = l)
  | 0, _ => ⟨fun h => by simp [spSteps] at h, fun _ => rfl⟩
  | k + 1, hk => by
    obtain ⟨i1, i2⟩ := spSteps_sum hl hb k (by omega)
    have hb1 := spSteps_bnd h (fl := fl) hl hb k (by omega)
    have hl1 : (spSteps m fl l k).1.length = m.places.length := by rw [spSteps_len, hl]
    obtain ⟨a1, a2⟩ := spHalf_sum h (fl := fl) hl1 hb1 (k := k) (by omega) false
    have hb2 := spHalf_bnd h (fl := fl) hl1 hb1 (k := k) (by omega) false
    obtain ⟨c1, c2⟩ := spHalf_sum h (fl := fl) (by rw [spHalf_len, hl1]) hb2 (k := k) (by omega) true
    simp only [spSteps, spStep]
    generalize spSteps m fl l k = s at *
    obtain ⟨sl, sb⟩ := s
    simp only at *
    generalize spHalf m fl k false sl = a at *
    obtain ⟨al, ab⟩ := a
    simp only at *
    generalize spHalf m fl k true al = b at *
    obtain ⟨bl, bb⟩ := b
    simp only at *
    cases sb <;> cases ab <;> cases bb <;> simp_all <;> omega
end
def spRound (m : Mine) (fl : List Spn) (l : List Int) : List Int × Bool := spSteps m fl l m.roads.length
def spF (m : Mine) (fl : List Spn) (l : List Int) : List Int := closeN (spRound m fl) (sumN l + 1) l

theorem sSpread_ok {m : Mine} (h : m.ok) (fl : List Spn) (hfl : flowsB m fl = true) (l : List Int) (hl : l.length = m.places.length) (hb : bnd l) :
    CALL 0 N.smoke_times_spread [smArg m fl l.length] [.arr 1 false 0 ((l.map (T.int .i64)).map .t)] = some (.tup [], [.arr 1 false 0 (((spF m fl l).map (T.int .i64)).map .t)]) ∧ (spF m fl l).length = m.places.length ∧ bnd (spF m fl l) := by
  have nr := h.nr
  have np := h.np
  have inner : ∀ (l : List Int), l.length = m.places.length → bnd l → ∀ (z0 z3 z4 z5 z6 : D), exS CALL K.smoke_times_spread_l2 ⟨[z0, .bp 1 0, B false, z3, z4, z5, z6, .t (.sl (m.roads.map Road.e)), I m.roads.length, I 0], [.arr 1 false 0 ((l.map (T.int .i64)).map .t), spBox m fl l.length]⟩ =
      some (.exit 2, ⟨[.und, .bp 1 0, B (spRound m fl l).2, .und, .und, .und, .und, .t (.sl (m.roads.map Road.e)), I m.roads.length, I m.roads.length], [.arr 1 false 0 (((spRound m fl l).1.map (T.int .i64)).map .t), spBox m fl l.length]⟩) := by
    intro l hl hb z0 z3 z4 z5 z6
    refine loop_up (fun j => ⟨[.und, .bp 1 0, B (spSteps m fl l j).2, .und, .und, .und, .und, .t (.sl (m.roads.map Road.e)), I m.roads.length, I j], [.arr 1 false 0 (((spSteps m fl l j).1.map (T.int .i64)).map .t), spBox m fl l.length]⟩) m.roads.length rfl ?_ ?_ (by simp)
    · intro j hj
      have := sp_step h fl hfl (spSteps m fl l j).1 (by rw [spSteps_len, hl]) (spSteps_bnd h hl hb j (by omega)) j hj (spSteps m fl l j).2
      rw [spSteps_len] at this
      exact this
    · simp (disch := omega) only [go_sem, K.smoke_times_spread_l2b, ↓reduceIte, spRound, spBox, Nat.reduceAdd, Nat.reduceSub]
  have outer := fun (z0 z3 z4 z5 z6 z7 z8 z9 : D) => loop_again (gc := true) (dead := [0, 3, 4, 5, 6, 7, 8, 9]) (c := K.smoke_times_spread_l1b) (vs := [z0, .bp 1 0, B true, z3, z4, z5, z6, z7, z8, z9]) (H := [.arr 1 false 0 ((l.map (T.int .i64)).map .t), spBox m fl l.length])
    (fun l' ag => ⟨[.und, .bp 1 0, B ag, .und, .und, .und, .und, .und, .und, .und], [.arr 1 false 0 ((l'.map (T.int .i64)).map .t), spBox m fl l'.length]⟩)
    (fun l' => (.exit 0, ⟨[.und, .bp 1 0, B false, .und, .und, .und, .und, .und, .und, .und], [.arr 1 false 0 ((l'.map (T.int .i64)).map .t), spBox m fl l'.length]⟩))
    (spRound m fl) (fun l => l.length = m.places.length ∧ bnd l) sumN
    (fun l ⟨hl, hb⟩ => ⟨⟨by rw [spRound, spSteps_len, hl], spSteps_bnd h hl hb _ (Nat.le_refl _)⟩, (spSteps_sum h hl hb _ (Nat.le_refl _)).1⟩)
    (by
      rintro l ⟨hl, hb⟩
      have hi := inner l hl hb
      have e : (spRound m fl l).1.length = l.length := by rw [spRound, spSteps_len]
      clear inner
      obtain ⟨places, roads⟩ := m
      simp only [spBox] at *
      simp (disch := omega) only [go_sem, K.smoke_times_spread_l1b, ↓reduceIte, hi, e, Nat.reduceAdd, Nat.reduceSub])
    (by
      rintro l ⟨hl, hb⟩
      simp (disch := omega) only [go_sem, K.smoke_times_spread_l1b, ↓reduceIte, spBox, reduceCtorEq, ne_eq, not_false_eq_true, and_self, Nat.reduceAdd, Nat.reduceSub])
    l ⟨hl, hb⟩ rfl
  obtain ⟨-, o2⟩ := outer .und .und .und .und .und .und .und .und
  refine ⟨?_, o2⟩
  refine CALL_of K.t_smoke_times_spread rfl ?_
  have o1 : ∀ z0 z3 z4 z5 z6 z7 z8 z9 : D, exS CALL K.smoke_times_spread_l1 ⟨[z0, .bp 1 0, B true, z3, z4, z5, z6, z7, z8, z9], [.arr 1 false 0 ((l.map (T.int .i64)).map .t), spBox m fl l.length]⟩ = _ := fun z0 z3 z4 z5 z6 z7 z8 z9 => (outer z0 z3 z4 z5 z6 z7 z8 z9).1
  clear outer inner
  have o2 := o2.1
  unfold spF
  generalize closeN (spRound m fl) (sumN l + 1) l = l2 at *
  obtain ⟨places, roads⟩ := m
  simp only [spBox, smArg] at *
  simp (disch := omega) only [go_sem, K.smoke_times_spread, ↓reduceIte, o1, Nat.reduceAdd, Nat.reduceSub]
end Go.Ev

/- The program's closing and the reference's are one. -/
namespace Go.Ev
open Go

theorem set_nth2 {α : Type} [Dat α] (l : List α) (k : Nat) (hk : k < l.length) (x : α) (j : Nat) : nth (l.set k x) j = if j = k then x else nth l j := by
  unfold nth
  by_cases h : j = k
  · subst h; rw [if_pos rfl]; simp [hk]
  · rw [if_neg h]
    have : ¬ k = j := fun e => h e.symm
    simp [List.getElem?_set, this]

/-- Nowhere above. -/
def leL (a b : List Int) : Prop := ∀ j, j < a.length → nth a j ≤ nth b j

/-- What the rounds leave: the invariant of any closing by steps that lower. -/
theorem closeN_inv {α : Type} {f : α → α × Bool} (P : α → Prop) (hP : ∀ l, P l → P (f l).1) : ∀ n l, P l → P (closeN f n l)
  | 0, l, h => h
  | n + 1, l, h => by
    unfold closeN
    split
    · exact closeN_inv P hP n _ (hP l h)
    · exact hP l h

/-- The rounds end with one that changes nothing. -/
theorem closeN_fix {α : Type} {f : α → α × Bool} (P : α → Prop) (mes : α → Nat) (hP : ∀ l, P l → P (f l).1 ∧ ((f l).2 = true → mes (f l).1 < mes l) ∧ ((f l).2 = false → (f l).1 = l)) : ∀ n l, P l → mes l < n → (f (closeN f n l)).2 = false ∧ P (closeN f n l)
  | 0, l, _, h => by omega
  | n + 1, l, hp, h => by
    obtain ⟨h1, h2, h3⟩ := hP l hp
    unfold closeN
    cases hf : (f l).2 with
    | true =>
      rw [if_pos rfl]
      have := h2 hf
      exact closeN_fix P mes hP n _ h1 (by omega)
    | false =>
      rw [if_neg (by simp), h3 hf]
      exact ⟨hf, hp⟩

/-- No road brings smoke earlier, as the program sees it. -/
def clP (m : Mine) (fl : List Spn) (y : List Int) : Prop := ∀ k, k < m.roads.length → ∀ back, 0 ≤ travelF (nth m.roads k) (nth fl k) back →
  nth y ((nth m.roads k).src back).toNat + travelF (nth m.roads k) (nth fl k) back ≤ smMax →
  nth y ((nth m.roads k).dst back).toNat ≤ nth y ((nth m.roads k).src back).toNat + travelF (nth m.roads k) (nth fl k) back
/-- .. and as the reference does. -/
def clS (m : Mine) (fl : List Spn) (y : List Int) : Prop := ∀ k, k < m.roads.length → ∀ back, 0 ≤ travelF (nth m.roads k) (nth fl k) back →
  nth y ((nth m.roads k).dst back).toNat ≤ nth y ((nth m.roads k).src back).toNat + travelF (nth m.roads k) (nth fl k) back

variable [Lib] [Has1] [Has2] [Has6] [Has7]
theorem spHalf_ge {m : Mine} (h : m.ok) {fl : List Spn} {y l : List Int} (hy : clP m fl y) (hl : l.length = m.places.length) {k : Nat} (hk : k < m.roads.length) (back : Bool) (hle : ∀ j, nth y j ≤ nth l j) : ∀ j, nth y j ≤ nth (spHalf m fl k back l).1 j := by
  have r2 := Road.dst_ok (h.rs _ (nth_mem hk)) back
  intro j
  unfold spHalf reachF
  split
  · exact hle j
  · rename_i c
    have c := c
    simp only [not_or, Int.not_lt, Int.not_le] at c
    obtain ⟨c1, c2, c3, c4⟩ := c
    rw [set_nth2 _ _ (by omega)]
    split
    · rename_i e
      have := hy k hk back (by omega) (by have := hle ((nth m.roads k).src back).toNat; omega)
      have := hle ((nth m.roads k).src back).toNat
      rw [e]; omega
    · exact hle j
theorem spSteps_ge {m : Mine} (h : m.ok) {fl : List Spn} {y l : List Int} (hy : clP m fl y) (hl : l.length = m.places.length) (hle : ∀ j, nth y j ≤ nth l j) : ∀ k, k ≤ m.roads.length → ∀ j, nth y j ≤ nth (spSteps m fl l k).1 j
  | 0, _ => hle
  | k + 1, hk => by
    have ih := spSteps_ge h hy hl hle k (by omega)
    simp only [spSteps, spStep]
    exact spHalf_ge h hy (by rw [spHalf_len, spSteps_len, hl]) (by omega) true (spHalf_ge h hy (by rw [spSteps_len, hl]) (by omega) false ih)
/-- The program's times are the greatest that no road betters. -/
theorem spF_ge {m : Mine} (h : m.ok) {fl : List Spn} {y l : List Int} (hy : clP m fl y) (hl : l.length = m.places.length) (hle : ∀ j, nth y j ≤ nth l j) : ∀ j, nth y j ≤ nth (spF m fl l) j :=
  (closeN_inv (f := spRound m fl) (fun l => l.length = m.places.length ∧ ∀ j, nth y j ≤ nth l j) (fun l hp => ⟨by rw [spRound, spSteps_len]; exact hp.1, spSteps_ge h hy hp.1 hp.2 _ (Nat.le_refl _)⟩) _ l ⟨hl, hle⟩).2
theorem spHalf_le {m : Mine} {fl : List Spn} {l : List Int} {k : Nat} (back : Bool) (hb : ((nth m.roads k).dst back).toNat < l.length) : ∀ j, nth (spHalf m fl k back l).1 j ≤ nth l j := by
  intro j
  unfold spHalf reachF
  split
  · exact Int.le_refl _
  · rename_i c
    simp only [not_or, Int.not_lt, Int.not_le] at c
    rw [set_nth2 _ _ hb]
    split
    · rename_i e; rw [e]; omega
    · exact Int.le_refl _
theorem spSteps_no {m : Mine} (h : m.ok) {fl : List Spn} {l : List Int} (hl : l.length = m.places.length) (hb : bnd l) : ∀ k, k ≤ m.roads.length → (spSteps m fl l k).2 = false → ∀ i, i < k → ∀ back, (spHalf m fl i back l).2 = false
  | 0, _, _, i, hi, _ => by omega
  | k + 1, hk, hf, i, hi, back => by
    have e := (spSteps_sum h (fl := fl) hl hb k (by omega)).2
    have ih := spSteps_no h (fl := fl) hl hb k (by omega)
    simp only [spSteps, spStep, Bool.or_eq_false_iff] at hf
    obtain ⟨⟨f1, f2⟩, f3⟩ := hf
    have e := e f1
    rw [e] at f2 f3
    have e2 := (spHalf_sum h (fl := fl) hl hb (k := k) (by omega) false).2 f2
    rw [e2] at f3
    by_cases c : i < k
    · exact ih f1 i c back
    · have : i = k := by omega
      subst this
      cases back
      · exact f2
      · exact f3
theorem spF_clP {m : Mine} (h : m.ok) {fl : List Spn} {l : List Int} (hl : l.length = m.places.length) (hb : bnd l) : clP m fl (spF m fl l) ∧ (spF m fl l).length = m.places.length ∧ bnd (spF m fl l) := by
  obtain ⟨h1, h2, h3⟩ := closeN_fix (f := spRound m fl) (fun l => l.length = m.places.length ∧ bnd l) sumN (fun l ⟨hl, hb⟩ => ⟨⟨by rw [spRound, spSteps_len]; exact hl, spSteps_bnd h hl hb _ (Nat.le_refl _)⟩, spSteps_sum h hl hb _ (Nat.le_refl _)⟩) (sumN l + 1) l ⟨hl, hb⟩ (Nat.lt_succ_self _)
  refine ⟨fun k hk back hn hm => ?_, h2, h3⟩
  have no := spSteps_no h h2 h3 m.roads.length (Nat.le_refl _) h1 k hk back
  change (spHalf m fl k back (spF m fl l)).2 = false at no
  unfold spHalf reachF at no
  split at no
  · rename_i c
    have r1 := Road.src_ok (h.rs _ (nth_mem hk)) back
    have hs := h3 _ (nth_mem (l := closeN (spRound m fl) (sumN l + 1) l) (j := ((nth m.roads k).src back).toNat) (by omega))
    change 0 ≤ nth (spF m fl l) _ ∧ nth (spF m fl l) _ ≤ _ at hs
    omega
  · cases no
end Go.Ev

/- The program's closing is the reference's, cut. -/
namespace Go.Ev
open Go
variable [Lib] [Has1] [Has2] [Has6] [Has7]

/-- What the program has found stays below what the reference finds, up to the end of time. -/
def belowC (a l : List Int) : Prop := ∀ j, nth l j ≤ smMax → nth a j ≤ nth l j
theorem smHalf_below {m : Mine} (h : m.ok) {fl : List Spn} {a l : List Int} (ha : clP m fl a) (hl : l.length = m.places.length) (hb : bnd l) {k : Nat} (hk : k < m.roads.length) (back : Bool) (hle : belowC a l) : belowC a (smHalf m fl k back l).1 := by
  have r2 := Road.dst_ok (h.rs _ (nth_mem hk)) back
  have r1 := Road.src_ok (h.rs _ (nth_mem hk)) back
  intro j hj
  simp only [smHalf, downF] at hj ⊢
  split at hj
  · rename_i c
    rw [if_pos c]
    simp only [downC, decide_eq_true_eq] at c
    rw [set_nth2 _ _ (by omega)] at hj ⊢
    split at hj
    · rename_i e
      rw [if_pos e, e]
      have := hle ((nth m.roads k).src back).toNat (by omega)
      have := ha k hk back c.1 (by omega)
      omega
    · rename_i e
      rw [if_neg e]
      exact hle j hj
  · rename_i c
    rw [if_neg c]
    exact hle j hj
theorem smSteps_below {m : Mine} (h : m.ok) {fl : List Spn} {a l : List Int} (ha : clP m fl a) (hl : l.length = m.places.length) (hb : bnd l) (hle : belowC a l) : ∀ k, k ≤ m.roads.length → belowC a (smSteps m fl l k).1
  | 0, _ => hle
  | k + 1, hk => by
    have ih := smSteps_below h ha hl hb hle k (by omega)
    have hb1 := smSteps_bnd h (fl := fl) hl hb k (by omega)
    have hl1 : (smSteps m fl l k).1.length = m.places.length := by rw [smSteps_len, hl]
    simp only [smSteps, smStep]
    exact smHalf_below h ha (by rw [smHalf_len, hl1]) (smHalf_bnd h (fl := fl) hl1 hb1 (k := k) (by omega) false) (by omega) true (smHalf_below h ha hl1 hb1 (by omega) false ih)
theorem smSteps_no {m : Mine} (h : m.ok) {fl : List Spn} {l : List Int} (hl : l.length = m.places.length) (hb : bnd l) : ∀ k, k ≤ m.roads.length → (smSteps m fl l k).2 = false → ∀ i, i < k → ∀ back, (smHalf m fl i back l).2 = false
  | 0, _, _, i, hi, _ => by omega
  | k + 1, hk, hf, i, hi, back => by
    have e := (smSteps_sum h (fl := fl) hl hb k (by omega)).2
    have ih := smSteps_no h (fl := fl) hl hb k (by omega)
    simp only [smSteps, smStep, Bool.or_eq_false_iff] at hf
    obtain ⟨⟨f1, f2⟩, f3⟩ := hf
    have e := e f1
    rw [e] at f2 f3
    have e2 := (smHalf_sum h (fl := fl) hl hb (k := k) (by omega) false).2 f2
    rw [e2] at f3
    by_cases c : i < k
    · exact ih f1 i c back
    · have : i = k := by omega
      subst this
      cases back
      · exact f2
      · exact f3
theorem smD_facts {m : Mine} (h : m.ok) {fl : List Spn} {a l : List Int} (ha : clP m fl a) (hl : l.length = m.places.length) (hb : bnd l) (hle : belowC a l) :
    clS m fl (closeN (smRound m fl) (sumN l + 1) l) ∧ belowC a (closeN (smRound m fl) (sumN l + 1) l) ∧ (closeN (smRound m fl) (sumN l + 1) l).length = m.places.length ∧ bnd (closeN (smRound m fl) (sumN l + 1) l) := by
  obtain ⟨h1, ⟨h2, h3⟩, h4⟩ := closeN_fix (f := smRound m fl) (fun l => (l.length = m.places.length ∧ bnd l) ∧ belowC a l) sumN (fun l ⟨⟨hl, hb⟩, hle⟩ => ⟨⟨⟨by rw [smRound, smSteps_len]; exact hl, smSteps_bnd h hl hb _ (Nat.le_refl _)⟩, smSteps_below h ha hl hb hle _ (Nat.le_refl _)⟩, smSteps_sum h hl hb _ (Nat.le_refl _)⟩) (sumN l + 1) l ⟨⟨hl, hb⟩, hle⟩ (Nat.lt_succ_self _)
  refine ⟨fun k hk back hn => ?_, h4, h2, h3⟩
  have no := smSteps_no h h2 h3 m.roads.length (Nat.le_refl _) h1 k hk back
  simp only [smHalf, downC, decide_eq_false_iff_not] at no
  omega
end Go.Ev

/- Both closings are one. -/
namespace Go.Ev
open Go
variable [Lib] [Has1] [Has2] [Has6] [Has7]

theorem capN_nth2 (l : List Int) : ∀ k j, k ≤ l.length → nth (capN l k) j = if j < k ∧ smMax < nth l j then 1099511627776 else nth l j
  | 0, j, _ => by simp [capN]
  | k + 1, j, hk => by
    have ih := capN_nth2 l k
    have e := ih k (by omega)
    rw [if_neg (by omega)] at e
    have ij := ih j (by omega)
    simp only [capN]
    rw [e]
    by_cases c : 2147483648 < nth l k
    · rw [if_pos c, set_nth2 _ _ (by rw [capN_len]; omega), ij]
      by_cases hj : j = k
      · subst hj; rw [if_pos rfl, if_pos ⟨by omega, c⟩]
      · rw [if_neg hj]
        by_cases c2 : j < k ∧ smMax < nth l j
        · rw [if_pos c2, if_pos ⟨by omega, c2.2⟩]
        · rw [if_neg c2, if_neg (fun h => c2 ⟨by omega, h.2⟩)]
    · rw [if_neg c, ij]
      by_cases c2 : j < k ∧ smMax < nth l j
      · rw [if_pos c2, if_pos ⟨by omega, c2.2⟩]
      · rw [if_neg c2, if_neg (fun h => c2 ⟨by
          have : j ≠ k := fun e => by subst e; exact c h.2
          omega, h.2⟩)]
theorem spF_le {m : Mine} (h : m.ok) {fl : List Spn} {l : List Int} (hl : l.length = m.places.length) : ∀ j, nth (spF m fl l) j ≤ nth l j := by
  have steps : ∀ (l : List Int), l.length = m.places.length → ∀ k, k ≤ m.roads.length → ∀ j, nth (spSteps m fl l k).1 j ≤ nth l j := by
    intro l hl k
    induction k with
    | zero => intro _ j; exact Int.le_refl _
    | succ k ih =>
      intro hk j
      have r1 := Road.dst_ok (h.rs _ (nth_mem (l := m.roads) (j := k) (by omega))) false
      have r2 := Road.dst_ok (h.rs _ (nth_mem (l := m.roads) (j := k) (by omega))) true
      simp only [spSteps, spStep]
      have a := spHalf_le (m := m) (fl := fl) (l := (spHalf m fl k false (spSteps m fl l k).1).1) (k := k) true (by rw [spHalf_len, spSteps_len]; omega) j
      have b := spHalf_le (m := m) (fl := fl) (l := (spSteps m fl l k).1) (k := k) false (by rw [spSteps_len]; omega) j
      have c := ih (by omega) j
      omega
  exact (closeN_inv (f := spRound m fl) (fun l' => l'.length = m.places.length ∧ ∀ j, nth l' j ≤ nth l j) (fun l' hp => ⟨by rw [spRound, spSteps_len]; exact hp.1, fun j => Int.le_trans (steps l' hp.1 _ (Nat.le_refl _) j) (hp.2 j)⟩) _ l ⟨hl, fun j => Int.le_refl _⟩).2
end Go.Ev

/- Both closings are one: the equality. -/
namespace Go.Ev
open Go
variable [Lib] [Has1] [Has2] [Has6] [Has7]

theorem ext_nth2 {α : Type} [Dat α] {a b : List α} (h : a.length = b.length) (e : ∀ j, j < a.length → nth a j = nth b j) : a = b := by
  apply List.ext_getElem h
  intro j h1 h2
  have := e j h1
  rwa [nth_eq (List.getElem?_eq_getElem h1), nth_eq (List.getElem?_eq_getElem h2)] at this

/-- Only lower. -/
theorem smHalf_le {m : Mine} {fl : List Spn} {l : List Int} {k : Nat} (back : Bool) (hb : ((nth m.roads k).dst back).toNat < l.length) : ∀ j, nth (smHalf m fl k back l).1 j ≤ nth l j := by
  intro j
  simp only [smHalf, downF]
  split
  · rename_i c
    simp only [downC, decide_eq_true_eq] at c
    rw [set_nth2 _ _ hb]
    split
    · rename_i e; rw [e]; omega
    · exact Int.le_refl _
  · exact Int.le_refl _
theorem smSteps_le {m : Mine} (h : m.ok) {fl : List Spn} {l : List Int} (hl : l.length = m.places.length) : ∀ k, k ≤ m.roads.length → ∀ j, nth (smSteps m fl l k).1 j ≤ nth l j
  | 0, _, j => Int.le_refl _
  | k + 1, hk, j => by
    have r1 := Road.dst_ok (h.rs _ (nth_mem (l := m.roads) (j := k) (by omega))) false
    have r2 := Road.dst_ok (h.rs _ (nth_mem (l := m.roads) (j := k) (by omega))) true
    simp only [smSteps, smStep]
    have a := smHalf_le (m := m) (fl := fl) (l := (smHalf m fl k false (smSteps m fl l k).1).1) (k := k) true (by rw [smHalf_len, smSteps_len]; omega) j
    have b := smHalf_le (m := m) (fl := fl) (l := (smSteps m fl l k).1) (k := k) false (by rw [smSteps_len]; omega) j
    have c := smSteps_le h (fl := fl) hl k (by omega) j
    omega
theorem smD_le {m : Mine} (h : m.ok) {fl : List Spn} {l : List Int} (hl : l.length = m.places.length) : ∀ j, nth (closeN (smRound m fl) (sumN l + 1) l) j ≤ nth l j :=
  (closeN_inv (f := smRound m fl) (fun l' => l'.length = m.places.length ∧ ∀ j, nth l' j ≤ nth l j) (fun l' hp => ⟨by rw [smRound, smSteps_len]; exact hp.1, fun j => Int.le_trans (smSteps_le h hp.1 _ (Nat.le_refl _) j) (hp.2 j)⟩) _ l ⟨hl, fun j => Int.le_refl _⟩).2

/-- Times that can be. -/
def tmOk (l : List Int) : Prop := ∀ x ∈ l, 0 ≤ x ∧ (x ≤ smMax ∨ x = 1099511627776)
theorem tmOk.bnd {l : List Int} (h : tmOk l) : bnd l := fun x hx => by have := h x hx; simp only [smMax] at this; omega
theorem closeS_nth {m : Mine} {fl : List Spn} {l : List Int} (hl : (closeN (smRound m fl) (sumN l + 1) l).length = m.places.length) {j : Nat} (hj : j < m.places.length) :
    nth (closeS m fl l) j = if smMax < nth (closeN (smRound m fl) (sumN l + 1) l) j then 1099511627776 else nth (closeN (smRound m fl) (sumN l + 1) l) j := by
  unfold closeS
  rw [capN_nth2 _ _ _ (by omega)]
  by_cases c : smMax < nth (closeN (smRound m fl) (sumN l + 1) l) j
  · rw [if_pos ⟨hj, c⟩, if_pos c]
  · rw [if_neg (fun x => c x.2), if_neg c]
theorem closeS_len2 {m : Mine} (h : m.ok) {fl : List Spn} {l : List Int} (hl : l.length = m.places.length) (hb : bnd l) : (closeS m fl l).length = m.places.length := by
  unfold closeS; rw [capN_len]
  exact (closeN_fix (f := smRound m fl) (fun l => l.length = m.places.length ∧ Go.Ev.bnd l) sumN (fun l ⟨hl, hb⟩ => ⟨⟨by rw [smRound, smSteps_len]; exact hl, smSteps_bnd h hl hb _ (Nat.le_refl _)⟩, smSteps_sum h hl hb _ (Nat.le_refl _)⟩) (sumN l + 1) l ⟨hl, hb⟩ (Nat.lt_succ_self _)).2.1
/-- The program's closing and the reference's are one. -/
theorem spF_closeS {m : Mine} (h : m.ok) {fl : List Spn} {l : List Int} (hl : l.length = m.places.length) (ht : tmOk l) : spF m fl l = closeS m fl l := by
  have hb := ht.bnd
  obtain ⟨a1, a2, a3⟩ := spF_clP h (fl := fl) hl hb
  have a4 := spF_le h (fl := fl) hl
  obtain ⟨d1, d2, d3, d4⟩ := smD_facts h (fl := fl) a1 hl hb (fun j _ => a4 j)
  have d5 := smD_le h (fl := fl) hl
  have cn := fun {j : Nat} (hj : j < m.places.length) => closeS_nth (m := m) (fl := fl) (l := l) d3 hj
  have cl := closeS_len2 h (fl := fl) hl hb
  generalize closeN (smRound m fl) (sumN l + 1) l = D at *
  apply ext_nth2 (by omega)
  intro j hj
  have hj : j < m.places.length := by omega
  apply Int.le_antisymm
  · rw [cn hj]
    split
    · have := a3 _ (nth_mem (l := spF m fl l) (j := j) (by omega)); omega
    · exact d2 j (by omega)
  · refine spF_ge h (y := closeS m fl l) ?_ hl ?_ j
    · intro k hk back hn hm
      have r1 := Road.src_ok (h.rs _ (nth_mem hk)) back
      have r2 := Road.dst_ok (h.rs _ (nth_mem hk)) back
      have x := d1 k hk back hn
      rw [cn (by omega)] at hm ⊢
      rw [cn (by omega)]
      simp only [smMax] at *
      split at hm
      · omega
      · rename_i c
        rw [if_neg c, if_neg (by omega)]
        omega
    · intro i
      by_cases hi : i < m.places.length
      · rw [cn hi]
        have := ht _ (nth_mem (l := l) (j := i) (by omega))
        have := d5 i
        split <;> omega
      · have e1 : nth (closeS m fl l) i = 0 := by unfold nth; rw [List.getD_eq_getElem?_getD, List.getElem?_eq_none (by omega)]; rfl
        have e2 : nth l i = 0 := by unfold nth; rw [List.getD_eq_getElem?_getD, List.getElem?_eq_none (by omega)]; rfl
        rw [e1, e2]; exact Int.le_refl _
end Go.Ev

/- Chapter 26 of the references: tags. -/
namespace Go.Ev
open Go
variable [Lib] [Has1] [Has2]

/-- A loop that ends at the first round of a kind; how it ends is not told in full. -/
theorem loop_find {gc : Bool} {dead : List Nat} {c : C} {vs : List D} {H : Heap} (s : Nat → St) (n : Nat) (p : Nat → Bool) (P : Nat → Ex × St → Prop) (eN : Ex × St)
    (h0 : (⟨dropV dead vs, H⟩ : St) = s 0) (hs : ∀ j, j < n → p j = false → roundC gc dead (s j).H.length (exS CALL c (s j)) = some (s (j + 1)))
    (he : ∀ j, j < n → p j = true → ∃ q, exS CALL c (s j) = some q ∧ q.1 ≠ .normal ∧ P j q) (hN : exS CALL c (s n) = some eN) (hn : eN.1 ≠ .normal) :
    ((List.range n).find? p = none ∧ exS CALL (.loop gc dead c) ⟨vs, H⟩ = some eN) ∨ ∃ j q, (List.range n).find? p = some j ∧ exS CALL (.loop gc dead c) ⟨vs, H⟩ = some q ∧ P j q := by
  classical
  let e : Nat → Ex × St := fun j => if h : j < n ∧ p j = true then Classical.choose (he j h.1 h.2) else eN
  have h2 : ∀ j, j < n → p j = true → exS CALL c (s j) = some (e j) ∧ (e j).1 ≠ .normal ∧ P j (e j) := by
    intro j hj hp
    have e1 : e j = Classical.choose (he j hj hp) := dif_pos ⟨hj, hp⟩
    rw [e1]
    exact Classical.choose_spec (he j hj hp)
  have := loop_first s n p e eN h0 hs (fun j hj hp => ⟨(h2 j hj hp).1, (h2 j hj hp).2.1⟩) hN hn
  cases hf : (List.range n).find? p with
  | none => rw [hf] at this; exact .inl ⟨rfl, this⟩
  | some j =>
    rw [hf] at this
    obtain ⟨h3, h4⟩ := find_lt hf
    exact .inr ⟨j, e j, rfl, this, (h2 j h3 h4).2.2⟩

/-- A function without objects, at whose end one variable holds its result. -/
theorem endR_t {q : Ex × St} {j : Nat} {x : T} (h1 : q.1 = .ret) (h2 : q.2.vs[j]? = some (.t x)) : endR [(j, none)] 0 0 q = some (.t x, []) := by
  obtain ⟨e, vs, H⟩ := q
  simp only at h1 h2
  subst h1
  simp only [go_sem, getRes, h2, List.take_zero]

def lessB (a b : List Int) : Bool := match (List.range (min a.length b.length)).find? (fun j => decide (nth a j ≠ nth b j)) with
  | some j => decide (nth a j < nth b j)
  | none => decide (a.length < b.length)

theorem less_ok (a b : List Int) (ha : a.length ≤ 1000000) (hb : b.length ≤ 1000000) : CALL 0 N.ref26_Less [.t (tL a), .t (tL b)] [] = some (B (lessB a b), []) := by
  refine CALL_of K.t_ref26_Less rfl ?_
  have loop : ∀ c : D, exS CALL K.ref26_Less_l1 ⟨[.t (tL a), .t (tL b), c, I 0], []⟩ =
      some (match (List.range (min a.length b.length)).find? (fun j => decide (nth a j ≠ nth b j)) with
        | some j => (.ret, ⟨[.t (tL a), .t (tL b), B (decide (nth a j < nth b j)), I j], []⟩)
        | none => (.exit 0, ⟨[.t (tL a), .t (tL b), .und, I (min a.length b.length : Nat)], []⟩)) := by
    intro c
    refine loop_first (fun j => ⟨[.t (tL a), .t (tL b), .und, I j], []⟩) (min a.length b.length) (fun j => decide (nth a j ≠ nth b j)) _ _ rfl ?_ ?_ ?_ (by simp)
    · intro j hj hp
      have hp : nth a j = nth b j := by simpa using hp
      simp (disch := omega) only [go_sem, K.ref26_Less_l1b, ↓reduceIte]
    · intro j hj hp
      have hp : nth a j ≠ nth b j := by simpa using hp
      refine ⟨?_, by simp⟩
      by_cases h1 : nth a j < nth b j
      · simp (disch := omega) only [go_sem, K.ref26_Less_l1b, ↓reduceIte, h1, decide_true]
      · simp (disch := omega) only [go_sem, K.ref26_Less_l1b, ↓reduceIte, h1, decide_false]
    · by_cases h1 : a.length ≤ b.length
      · have e : min a.length b.length = a.length := by omega
        rw [e]
        simp (disch := omega) only [go_sem, K.ref26_Less_l1b, ↓reduceIte]
      · have e : min a.length b.length = b.length := by omega
        rw [e]
        simp (disch := omega) only [go_sem, K.ref26_Less_l1b, ↓reduceIte]
  unfold lessB
  simp (disch := omega) only [go_sem, K.ref26_Less, ↓reduceIte, loop]
  cases hf : (List.range (min a.length b.length)).find? (fun j => decide (nth a j ≠ nth b j)) with
  | some j => simp (disch := omega) only [go_sem, ↓reduceIte]
  | none =>
    by_cases h1 : a.length < b.length
    · simp (disch := omega) only [go_sem, ↓reduceIte, h1, decide_true]
    · simp (disch := omega) only [go_sem, ↓reduceIte, h1, decide_false]

def bearerF (l : List Int) (x : Int) : Int := match (List.range l.length).find? (fun j => decide (nth l j = x)) with
  | some j => j
  | none => -1

theorem bearer_ok (l : List Int) (x : Int) (hl : l.length ≤ 1000000) : CALL 0 N.ref26_bearer [.t (tL l), I x] [] = some (I (bearerF l x), []) := by
  refine CALL_of K.t_ref26_bearer rfl ?_
  have loop : ∀ c : D, exS CALL K.ref26_bearer_l1 ⟨[.t (tL l), I x, c, I 0], []⟩ =
      some (match (List.range l.length).find? (fun j => decide (nth l j = x)) with
        | some j => (.ret, ⟨[.t (tL l), I x, I j, I j], []⟩)
        | none => (.exit 0, ⟨[.t (tL l), I x, .und, I l.length], []⟩)) := by
    intro c
    refine loop_first (fun j => ⟨[.t (tL l), I x, .und, I j], []⟩) l.length (fun j => decide (nth l j = x)) _ _ rfl ?_ ?_ ?_ (by simp)
    · intro j hj hp
      have hp : ¬ nth l j = x := by simpa using hp
      simp (disch := omega) only [go_sem, K.ref26_bearer_l1b, ↓reduceIte]
    · intro j hj hp
      have hp : nth l j = x := by simpa using hp
      refine ⟨?_, by simp⟩
      simp (disch := omega) only [go_sem, K.ref26_bearer_l1b, ↓reduceIte, hp]
    · simp (disch := omega) only [go_sem, K.ref26_bearer_l1b, ↓reduceIte]
  unfold bearerF
  simp (disch := omega) only [go_sem, K.ref26_bearer, ↓reduceIte, loop]
  cases hf : (List.range l.length).find? (fun j => decide (nth l j = x)) with
  | some j => simp (disch := omega) only [go_sem, ↓reduceIte]
  | none => simp (disch := omega) only [go_sem, ↓reduceIte]

theorem bearerF_lt {l : List Int} {x : Int} (h : 0 ≤ bearerF l x) : bearerF l x < l.length ∧ nth l (bearerF l x).toNat = x := by
  unfold bearerF at h ⊢
  cases hf : (List.range l.length).find? (fun j => decide (nth l j = x)) with
  | some j =>
    obtain ⟨h1, h2⟩ := find_lt hf
    simp only [Int.toNat_natCast]
    exact ⟨by omega, of_decide_eq_true h2⟩
  | none => rw [hf] at h; simp at h

def properN (l : List Int) (j : Nat) : Bool := decide (1 ≤ nth l j ∧ nth l j ≤ 65535 ∧ bearerF (l.take j) (nth l j) < 0)
def properB (l : List Int) : Bool := (List.range l.length).all (properN l)

theorem proper_ok (l : List Int) (hl : l.length ≤ 1000000) : CALL 0 N.ref26_proper [.t (tL l)] [] = some (B (properB l), []) := by
  refine CALL_of K.t_ref26_proper rfl ?_
  have loop : ∀ c : D, exS CALL K.ref26_proper_l1 ⟨[.t (tL l), c, I 0], []⟩ =
      some (match (List.range l.length).find? (fun j => !properN l j) with
        | some j => (.ret, ⟨[.t (tL l), B false, I j], []⟩)
        | none => (.exit 0, ⟨[.t (tL l), .und, I l.length], []⟩)) := by
    intro c
    refine loop_first (fun j => ⟨[.t (tL l), .und, I j], []⟩) l.length (fun j => !properN l j) _ _ rfl ?_ ?_ ?_ (by simp)
    · intro j hj hp
      have hp : properN l j = true := by simpa using hp
      have b := bearer_ok (l.take j) (nth l j) (by rw [List.length_take]; omega)
      simp only [properN, decide_eq_true_eq] at hp
      simp only [tL, List.map_take] at b
      simp (disch := omega) only [go_sem, K.ref26_proper_l1b, ↓reduceIte, b]
    · intro j hj hp
      have hp : properN l j = false := by simpa using hp
      have b := bearer_ok (l.take j) (nth l j) (by rw [List.length_take]; omega)
      simp only [properN, decide_eq_false_iff_not] at hp
      simp only [tL, List.map_take] at b
      refine ⟨?_, by simp⟩
      by_cases h1 : nth l j < 1
      · simp (disch := omega) only [go_sem, K.ref26_proper_l1b, ↓reduceIte, b]
      · by_cases h2 : 65535 < nth l j
        · simp (disch := omega) only [go_sem, K.ref26_proper_l1b, ↓reduceIte, b]
        · simp (disch := omega) only [go_sem, K.ref26_proper_l1b, ↓reduceIte, b]
    · simp (disch := omega) only [go_sem, K.ref26_proper_l1b, ↓reduceIte]
  unfold properB
  rw [find_all]
  simp (disch := omega) only [go_sem, K.ref26_proper, ↓reduceIte, loop]
  cases hf : (List.range l.length).find? (fun j => !properN l j) with
  | some j => simp (disch := omega) only [go_sem, ↓reduceIte, Option.isNone]
  | none => simp (disch := omega) only [go_sem, ↓reduceIte, Option.isNone]

end Go.Ev

/- Chapter 26 of the references: worlds, copies, validity. -/
namespace Go.Ev
open Go
variable [Lib] [Has1] [Has2]

structure World where
  tags : List Int
  whr : List Wh
instance : Dat World := ⟨⟨[], []⟩⟩
abbrev World.e (x : World) : T := .agg [tL x.tags, .sl (x.whr.map Wh.e)]
structure Bel where
  worlds : List World
instance : Dat Bel := ⟨⟨[]⟩⟩
abbrev Bel.e (b : Bel) : T := .agg [.sl (b.worlds.map World.e)]

/-- Small enough. -/
def World.sz (x : World) : Prop := x.tags.length ≤ 1000000 ∧ x.whr.length ≤ 1000000 ∧ ∀ w ∈ x.whr, w.frm.length ≤ 1000000
def Bel.sz (b : Bel) : Prop := b.worlds.length ≤ 1000000 ∧ ∀ x ∈ b.worlds, x.sz

@[go_sem] theorem cellsAre_wh (l : List Wh) : cellsAre 2 (l.map Wh.e) = true := cellsAre_map 2 _ (fun _ => rfl) l
@[go_sem] theorem cellsAre_world (l : List World) : cellsAre 2 (l.map World.e) = true := cellsAre_map 2 _ (fun _ => rfl) l
@[go_sem] theorem appOK_wh (l : List Wh) : appOK 2 (l.map Wh.e) = true := by cases l <;> rfl
@[go_sem] theorem appOK_world (l : List World) : appOK 2 (l.map World.e) = true := by cases l <;> rfl

theorem copyWorld_loop (x : World) (h : x.sz) (a : D) : exS CALL K.ref26_CopyWorld_l1 ⟨[a, .bp 0 0, .bp 1 0, .bp 3 0, I 0], [.box [.t (tL x.tags), .t (.sl (x.whr.map Wh.e))], .box [.nil, .nil], .arr 1 false 0 ((x.tags.map (T.int .i64)).map .t), .box [.ref 2 0 x.tags.length, .ref 5 0 0], .arr 2 false 0 [], .arr 2 false 0 []]⟩ =
    some (.exit 0, ⟨[.und, .bp 0 0, .bp 1 0, .bp 3 0, I x.whr.length], [.box [.t (tL x.tags), .t (.sl (x.whr.map Wh.e))], .box [.nil, .nil], .arr 1 false 0 ((x.tags.map (T.int .i64)).map .t), .box [.ref 2 0 x.tags.length, .ref 5 0 x.whr.length], .arr 2 false 0 [], .arr 2 false 0 ((x.whr.map Wh.e).map .t)]⟩) := by
  obtain ⟨tags, whr⟩ := x
  obtain ⟨h1, h2, h3⟩ := h
  simp only at h1 h2 h3 ⊢
  have tk : whr.take whr.length = whr := by simp
  refine loop_up (fun j => ⟨[.und, .bp 0 0, .bp 1 0, .bp 3 0, I j], [.box [.t (tL tags), .t (.sl (whr.map Wh.e))], .box [.nil, .nil], .arr 1 false 0 ((tags.map (T.int .i64)).map .t), .box [.ref 2 0 tags.length, .ref 5 0 (whr.take j).length], .arr 2 false 0 [], .arr 2 false 0 (((whr.take j).map Wh.e).map .t)]⟩) whr.length rfl ?_ ?_ (by simp)
  · intro j hj
    have c := copy_ok (nth whr j) (by have := h3 _ (nth_mem hj); omega)
    have lt : (whr.take j).length = j := by rw [List.length_take]; omega
    generalize hx : nth whr j = w at *
    obtain ⟨time, frm⟩ := w
    have tk : whr.take (j + 1) = whr.take j ++ [⟨time, frm⟩] := by rw [take_nth hj, hx]
    generalize whr.take j = pre at *
    simp (disch := omega) only [go_sem, K.ref26_CopyWorld_l1b, ↓reduceIte, hx, c, lt, tk, Nat.reduceAdd, Nat.reduceSub]
  · simp (disch := omega) only [go_sem, K.ref26_CopyWorld_l1b, ↓reduceIte, tk]

theorem copyWorld_ok (x : World) (h : x.sz) : CALL 0 N.ref26_CopyWorld [.t x.e] [] = some (.t x.e, []) := by
  refine CALL_of K.t_ref26_CopyWorld rfl ?_
  have loop := copyWorld_loop x h
  obtain ⟨tags, whr⟩ := x
  obtain ⟨h1, h2, h3⟩ := h
  simp only at h1 h2 h3 loop ⊢
  simp (disch := omega) only [go_sem, K.ref26_CopyWorld, ↓reduceIte, loop]

/-- A world, of which the lists may be written. -/
theorem copyWorld_ok1 (x : World) (h : x.sz) : CALL 1 N.ref26_CopyWorld [.t x.e] [] = some (.agg [.ref 0 0 x.tags.length, .ref 1 0 x.whr.length], [.arr 1 false 0 ((x.tags.map (T.int .i64)).map .t), .arr 2 false 0 ((x.whr.map Wh.e).map .t)]) := by
  refine CALL_of K.t_ref26_CopyWorld rfl ?_
  have loop := copyWorld_loop x h
  obtain ⟨tags, whr⟩ := x
  obtain ⟨h1, h2, h3⟩ := h
  simp only at h1 h2 h3 loop ⊢
  simp (disch := omega) only [go_sem, K.ref26_CopyWorld, ↓reduceIte, loop]

theorem copyBel_loop (l : List World) (h1 : l.length ≤ 1000000) (h2 : ∀ x ∈ l, x.sz) (a : D) : exS CALL K.ref26_Copy_l1 ⟨[a, .bp 0 0, .bp 1 0, .bp 2 0, I 0], [.box [.t (.sl (l.map World.e))], .box [.nil], .box [.ref 3 0 0], .arr 2 false 0 []]⟩ =
    some (.exit 0, ⟨[.und, .bp 0 0, .bp 1 0, .bp 2 0, I l.length], [.box [.t (.sl (l.map World.e))], .box [.nil], .box [.ref 3 0 l.length], .arr 2 false 0 ((l.map World.e).map .t)]⟩) := by
  have tk : l.take l.length = l := by simp
  refine loop_up (fun j => ⟨[.und, .bp 0 0, .bp 1 0, .bp 2 0, I j], [.box [.t (.sl (l.map World.e))], .box [.nil], .box [.ref 3 0 (l.take j).length], .arr 2 false 0 (((l.take j).map World.e).map .t)]⟩) l.length rfl ?_ ?_ (by simp)
  · intro j hj
    have c := copyWorld_ok (nth l j) (h2 _ (nth_mem hj))
    have lt : (l.take j).length = j := by rw [List.length_take]; omega
    generalize hx : nth l j = w at *
    obtain ⟨tags, whr⟩ := w
    have tk : l.take (j + 1) = l.take j ++ [⟨tags, whr⟩] := by rw [take_nth hj, hx]
    generalize l.take j = pre at *
    simp (disch := omega) only [go_sem, K.ref26_Copy_l1b, ↓reduceIte, hx, c, lt, tk, Nat.reduceAdd, Nat.reduceSub]
  · simp (disch := omega) only [go_sem, K.ref26_Copy_l1b, ↓reduceIte, tk]

theorem copyBel_ok (b : Bel) (h : b.sz) : CALL 0 N.ref26_Copy [.t b.e] [] = some (.t b.e, []) := by
  refine CALL_of K.t_ref26_Copy rfl ?_
  obtain ⟨h1, h2⟩ := h
  have loop := copyBel_loop b.worlds h1 h2
  obtain ⟨l⟩ := b
  simp only at h1 h2 loop ⊢
  simp (disch := omega) only [go_sem, K.ref26_Copy, ↓reduceIte, loop]

theorem copyBel_ok1 (b : Bel) (h : b.sz) : CALL 1 N.ref26_Copy [.t b.e] [] = some (.agg [.ref 0 0 b.worlds.length], [.arr 2 false 0 ((b.worlds.map World.e).map .t)]) := by
  refine CALL_of K.t_ref26_Copy rfl ?_
  obtain ⟨h1, h2⟩ := h
  have loop := copyBel_loop b.worlds h1 h2
  obtain ⟨l⟩ := b
  simp only at h1 h2 loop ⊢
  simp (disch := omega) only [go_sem, K.ref26_Copy, ↓reduceIte, loop]

/- validity -/
def whoB (m : Mine) (first : List Int) (x : World) (k : Nat) : Bool := decide (0 ≤ bearerF first (nth x.tags k)) && validB m (nth x.whr k)
def worldB (m : Mine) (ws : List World) (first : List Int) (i : Nat) : Bool :=
  decide ((nth ws i).tags.length = first.length ∧ (nth ws i).whr.length = first.length) && properB (nth ws i).tags && (decide (i = 0) || lessB (nth ws (i - 1)).tags (nth ws i).tags) && (List.range (nth ws i).tags.length).all (whoB m first (nth ws i))
def belB (m : Mine) (b : Bel) : Bool :=
  decide (1 ≤ b.worlds.length ∧ b.worlds.length ≤ 24) && decide (1 ≤ (nth b.worlds 0).tags.length ∧ (nth b.worlds 0).tags.length ≤ 12) && (List.range b.worlds.length).all (worldB m b.worlds (nth b.worlds 0).tags)

theorem worldB_step {m : Mine} (h : m.ok) (ws : List World) (first : List Int) (hf : first.length ≤ 1000000) (hs : ∀ x ∈ ws, x.sz) (i : Nat) (hi : i < ws.length) (hl : ws.length ≤ 1000000) :
    (worldB m ws first i = true → roundC true [0, 1, 4, 7, 8] 2 (exS CALL K.ref26_Valid_l1b ⟨[.und, .und, .bp 0 0, .bp 1 0, .und, .t (tL first), I i, .und, .und], [.box (mineCells m), .box [.t (.sl (ws.map World.e))]]⟩) = some ⟨[.und, .und, .bp 0 0, .bp 1 0, .und, .t (tL first), I (i + 1), .und, .und], [.box (mineCells m), .box [.t (.sl (ws.map World.e))]]⟩) ∧
    (worldB m ws first i = false → ∃ q, exS CALL K.ref26_Valid_l1b ⟨[.und, .und, .bp 0 0, .bp 1 0, .und, .t (tL first), I i, .und, .und], [.box (mineCells m), .box [.t (.sl (ws.map World.e))]]⟩ = some q ∧ q.1 = .ret ∧ q.2.vs[4]? = some (B false)) := by
  have np := h.np
  have sz := hs _ (nth_mem hi)
  have sz0 : 0 < i → (nth ws (i - 1)).sz := fun h0 => hs _ (nth_mem (by omega))
  unfold worldB
  generalize hy : nth ws (i - 1) = y at *
  generalize hx : nth ws i = x at *
  obtain ⟨tags, whr⟩ := x
  obtain ⟨ptags, pwhr⟩ := y
  obtain ⟨s1, s2, s3⟩ := sz
  simp only at s1 s2 s3 sz0 ⊢
  have p := proper_ok tags s1
  have inner : tags.length = first.length → whr.length = first.length → ∀ a b c : D,
      ((List.range tags.length).all (whoB m first ⟨tags, whr⟩) = true ∧ exS CALL K.ref26_Valid_l2 ⟨[a, b, .bp 0 0, .bp 1 0, c, .t (tL first), I i, .bp 2 0, I 0], [.box (mineCells m), .box [.t (.sl (ws.map World.e))], .box [.t (tL tags), .t (.sl (whr.map Wh.e))]]⟩ =
        some (.exit 2, ⟨[.und, .und, .bp 0 0, .bp 1 0, .und, .t (tL first), I i, .bp 2 0, I tags.length], [.box (mineCells m), .box [.t (.sl (ws.map World.e))], .box [.t (tL tags), .t (.sl (whr.map Wh.e))]]⟩)) ∨
      ((List.range tags.length).all (whoB m first ⟨tags, whr⟩) = false ∧ ∃ j, exS CALL K.ref26_Valid_l2 ⟨[a, b, .bp 0 0, .bp 1 0, c, .t (tL first), I i, .bp 2 0, I 0], [.box (mineCells m), .box [.t (.sl (ws.map World.e))], .box [.t (tL tags), .t (.sl (whr.map Wh.e))]]⟩ =
        some (.ret, ⟨[.und, .und, .bp 0 0, .bp 1 0, B false, .t (tL first), I i, .bp 2 0, j], [.box (mineCells m), .box [.t (.sl (ws.map World.e))], .box [.t (tL tags), .t (.sl (whr.map Wh.e))]]⟩)) := by
    intro l1 l2 a b c
    have := loop_first (gc := true) (dead := [0, 1, 4]) (c := K.ref26_Valid_l2b) (vs := [a, b, .bp 0 0, .bp 1 0, c, .t (tL first), I i, .bp 2 0, I 0]) (H := [.box (mineCells m), .box [.t (.sl (ws.map World.e))], .box [.t (tL tags), .t (.sl (whr.map Wh.e))]])
      (fun j => ⟨[.und, .und, .bp 0 0, .bp 1 0, .und, .t (tL first), I i, .bp 2 0, I j], [.box (mineCells m), .box [.t (.sl (ws.map World.e))], .box [.t (tL tags), .t (.sl (whr.map Wh.e))]]⟩) tags.length (fun j => !whoB m first ⟨tags, whr⟩ j)
      (fun j => (.ret, ⟨[.und, .und, .bp 0 0, .bp 1 0, B false, .t (tL first), I i, .bp 2 0, I j], [.box (mineCells m), .box [.t (.sl (ws.map World.e))], .box [.t (tL tags), .t (.sl (whr.map Wh.e))]]⟩))
      (.exit 2, ⟨[.und, .und, .bp 0 0, .bp 1 0, .und, .t (tL first), I i, .bp 2 0, I tags.length], [.box (mineCells m), .box [.t (.sl (ws.map World.e))], .box [.t (tL tags), .t (.sl (whr.map Wh.e))]]⟩) rfl
      (by
        intro j hj hp
        have hp : whoB m first ⟨tags, whr⟩ j = true := by simpa using hp
        have b := bearer_ok first (nth tags j) hf
        have v := valid_ok h (nth whr j) (by have := s3 _ (nth_mem (l := whr) (j := j) (by omega)); omega)
        simp only [whoB, Bool.and_eq_true, decide_eq_true_eq] at hp
        rw [hp.2] at v
        have hp := hp.1
        simp (disch := omega) only [go_sem, K.ref26_Valid_l2b, ↓reduceIte, b, v])
      (by
        intro j hj hp
        have hp : whoB m first ⟨tags, whr⟩ j = false := by simpa using hp
        have b := bearer_ok first (nth tags j) hf
        have v := valid_ok h (nth whr j) (by have := s3 _ (nth_mem (l := whr) (j := j) (by omega)); omega)
        refine ⟨?_, by simp⟩
        by_cases c1 : bearerF first (nth tags j) < 0
        · simp (disch := omega) only [go_sem, K.ref26_Valid_l2b, ↓reduceIte, b, v]
        · have : validB m (nth whr j) = false := by
            simp only [whoB, Bool.and_eq_false_iff, decide_eq_false_iff_not] at hp
            rcases hp with hp | hp
            · exact absurd (by omega) hp
            · exact hp
          rw [this] at v
          simp (disch := omega) only [go_sem, K.ref26_Valid_l2b, ↓reduceIte, b, v])
      (by simp (disch := omega) only [go_sem, K.ref26_Valid_l2b, ↓reduceIte]) (by simp)
    cases hf : (List.range tags.length).find? (fun j => !whoB m first ⟨tags, whr⟩ j) with
    | none => rw [hf] at this; exact .inl ⟨by rw [find_all, hf]; rfl, this⟩
    | some j => rw [hf] at this; exact .inr ⟨by rw [find_all, hf]; rfl, ⟨_, this⟩⟩
  by_cases l1 : tags.length = first.length
  · by_cases l2 : whr.length = first.length
    · cases hp : properB tags with
      | false =>
        rw [hp] at p
        refine ⟨fun h => by simp [hp] at h, fun _ => ?_⟩
        simp (disch := omega) only [go_sem, K.ref26_Valid_l1b, ↓reduceIte, hx, p]
        refine ⟨_, rfl, ?_, ?_⟩ <;> rfl
      | true =>
        rw [hp] at p
        have inner := inner l1 l2
        cases i with
        | zero =>
          simp only [q_cast_zero] at inner
          simp only [l1, l2, and_self, decide_true, Bool.true_and, Bool.true_or] at inner ⊢
          rcases inner .und .und .und with ⟨e, -⟩ | ⟨e, -⟩
          · refine ⟨fun _ => ?_, fun h => by rw [e] at h; exact absurd h (by simp)⟩
            have inner := fun a b c => ((inner a b c).resolve_right fun h => by rw [e] at h; exact absurd h.1 (by simp)).2
            simp (disch := omega) only [go_sem, K.ref26_Valid_l1b, ↓reduceIte, hx, p, inner]
          · refine ⟨fun h => by rw [e] at h; exact absurd h (by simp), fun _ => ?_⟩
            have inner : ∀ a b c, _ := fun a b c => ((inner a b c).resolve_left fun h => by rw [e] at h; exact absurd h.1 (by simp)).2
            obtain ⟨j, inner⟩ := inner .und .und .und
            simp (disch := omega) only [go_sem, K.ref26_Valid_l1b, ↓reduceIte, hx, p, inner]
            refine ⟨_, rfl, ?_, ?_⟩ <;> rfl
        | succ i =>
          simp only [q_cast_add, q_cast_one] at inner
          rw [Nat.add_sub_cancel] at hy
          have ls := less_ok ptags tags (sz0 (by omega)).1 s1
          cases hl : lessB ptags tags with
          | false =>
            rw [hl] at ls
            refine ⟨fun h => by simp at h, fun _ => ?_⟩
            simp (disch := omega) only [go_sem, K.ref26_Valid_l1b, ↓reduceIte, hx, p, hy, ls]
            refine ⟨_, rfl, ?_, ?_⟩ <;> rfl
          | true =>
            rw [hl] at ls
            simp only [l1, l2, and_self, decide_true, Bool.true_and, Bool.or_true] at inner ⊢
            rcases inner .und .und .und with ⟨e, -⟩ | ⟨e, -⟩
            · refine ⟨fun _ => ?_, fun h => by rw [e] at h; exact absurd h (by simp)⟩
              have inner := fun a b c => ((inner a b c).resolve_right fun h => by rw [e] at h; exact absurd h.1 (by simp)).2
              simp (disch := omega) only [go_sem, K.ref26_Valid_l1b, ↓reduceIte, hx, hy, ls, p, inner]
            · refine ⟨fun h => by rw [e] at h; exact absurd h (by simp), fun _ => ?_⟩
              have inner : ∀ a b c, _ := fun a b c => ((inner a b c).resolve_left fun h => by rw [e] at h; exact absurd h.1 (by simp)).2
              obtain ⟨j, inner⟩ := inner .und .und .und
              simp (disch := omega) only [go_sem, K.ref26_Valid_l1b, ↓reduceIte, hx, hy, ls, p, inner]
              refine ⟨_, rfl, ?_, ?_⟩ <;> rfl
    · refine ⟨fun h => by simp [l2] at h, fun _ => ?_⟩
      simp (disch := omega) only [go_sem, K.ref26_Valid_l1b, ↓reduceIte, hx, p]
      refine ⟨_, rfl, ?_, ?_⟩ <;> rfl
  · refine ⟨fun h => by simp [l1] at h, fun _ => ?_⟩
    simp (disch := omega) only [go_sem, K.ref26_Valid_l1b, ↓reduceIte, hx, p]
    refine ⟨_, rfl, ?_, ?_⟩ <;> rfl

theorem belB_ok {m : Mine} (h : m.ok) (b : Bel) (hs : b.sz) : CALL 0 N.ref26_Valid [.t m.e, .t b.e] [] = some (B (belB m b), []) := by
  refine CALL_of K.t_ref26_Valid rfl ?_
  obtain ⟨h1, h2⟩ := hs
  have ck := check_ok h
  obtain ⟨ws⟩ := b
  unfold belB
  simp only at h1 h2 ⊢
  by_cases c1 : ws.length < 1
  · simp (disch := omega) only [go_sem, K.ref26_Valid, ↓reduceIte, show ¬ (1 ≤ ws.length ∧ ws.length ≤ 24) by omega, decide_false, Bool.false_and]
  · by_cases c2 : 24 < ws.length
    · simp (disch := omega) only [go_sem, K.ref26_Valid, ↓reduceIte, show ¬ (1 ≤ ws.length ∧ ws.length ≤ 24) by omega, decide_false, Bool.false_and]
    · have c3 : 1 ≤ ws.length ∧ ws.length ≤ 24 := by omega
      have sz := h2 _ (nth_mem (l := ws) (j := 0) (by omega))
      have i0 : (ws.map World.e)[0]? = some (nth ws 0).e := map_nth _ (by omega)
      generalize hx : nth ws 0 = x at *
      obtain ⟨first, whr⟩ := x
      have hf := sz.1
      simp only at hf ⊢
      by_cases c4 : first.length < 1
      · simp (disch := omega) only [go_sem, K.ref26_Valid, ↓reduceIte, ck, hx, c3, and_self, show ¬ (1 ≤ first.length ∧ first.length ≤ 12) by omega, decide_true, decide_false, Bool.true_and, Bool.false_and]
      · by_cases c5 : 12 < first.length
        · simp (disch := omega) only [go_sem, K.ref26_Valid, ↓reduceIte, ck, hx, c3, and_self, show ¬ (1 ≤ first.length ∧ first.length ≤ 12) by omega, decide_true, decide_false, Bool.true_and, Bool.false_and]
        · have loop := fun a b c d e => loop_find (gc := true) (dead := [0, 1, 4, 7, 8]) (c := K.ref26_Valid_l1b) (vs := [a, b, .bp 0 0, .bp 1 0, c, .t (tL first), I 0, d, e]) (H := [.box (mineCells m), .box [.t (.sl (ws.map World.e))]])
            (fun j => ⟨[.und, .und, .bp 0 0, .bp 1 0, .und, .t (tL first), I j, .und, .und], [.box (mineCells m), .box [.t (.sl (ws.map World.e))]]⟩) ws.length (fun j => !worldB m ws first j) (fun _ q => q.1 = .ret ∧ q.2.vs[4]? = some (B false))
            (.exit 0, ⟨[.und, .und, .bp 0 0, .bp 1 0, .und, .t (tL first), I ws.length, .und, .und], [.box (mineCells m), .box [.t (.sl (ws.map World.e))]]⟩) rfl
            (fun j hj hp => (worldB_step h ws first hf h2 j hj h1).1 (by simpa using hp))
            (fun j hj hp => by
              obtain ⟨q, q1, q2, q3⟩ := (worldB_step h ws first hf h2 j hj h1).2 (by simpa using hp)
              exact ⟨q, q1, by rw [q2]; simp, q2, q3⟩)
            (by simp (disch := omega) only [go_sem, K.ref26_Valid_l1b, ↓reduceIte]) (by simp)
          rw [find_all]
          rcases loop (.t m.e) (.t (Bel.e ⟨ws⟩)) (B false) .und .und with ⟨e1, e2⟩ | ⟨j, ⟨x, vs, H⟩, e1, e2, e3, e4⟩
          · have e2 : exS CALL K.ref26_Valid_l1 ⟨[.t m.e, .t (Bel.e ⟨ws⟩), .bp 0 0, .bp 1 0, B false, .t (tL first), I 0, .und, .und], [.box (mineCells m), .box [.t (.sl (ws.map World.e))]]⟩ = _ := e2
            simp (disch := omega) only [go_sem, K.ref26_Valid, ↓reduceIte, ck, hx, c3, and_self, show (1 ≤ first.length ∧ first.length ≤ 12) by omega, decide_true, decide_false, Bool.true_and, e1, e2, Option.isNone]
          · have e2 : exS CALL K.ref26_Valid_l1 ⟨[.t m.e, .t (Bel.e ⟨ws⟩), .bp 0 0, .bp 1 0, B false, .t (tL first), I 0, .und, .und], [.box (mineCells m), .box [.t (.sl (ws.map World.e))]]⟩ = _ := e2
            simp only at e3 e4
            subst e3
            simp (disch := omega) only [go_sem, K.ref26_Valid, ↓reduceIte, ck, hx, c3, and_self, show (1 ≤ first.length ∧ first.length ≤ 12) by omega, decide_true, decide_false, Bool.true_and, e1, e2, Option.isNone]
            simp (disch := omega) only [go_sem, getRes, e4, List.take_zero]

end Go.Ev

/- MADE BY PROGRAM (lib.py): the compact code of functions. -/
namespace Go.Ev.K
open Go.Ev
/-- /law34.FiringRaw -/
def law34_FiringRaw : Fn := { nargs := 3, vars := [0, 1, 2, 4, 5, 6, 7, 8, 9, 10, 11, 12, 13], body := (.seq (.reg [{ o := .bx (.v 1) 3, d := some 3 }, { o := .bx (.v 2) 4, d := some 4 }, { o := .mv (.b false), d := some 5 }] []) (.seq (.ite [{ o := .mv (.v 0) }, { o := .ca N.made_Light 0 [] [.l 0] }, { o := .un .not (.l 0) }, { o := .mv (.l 0) }, { o := .fa (.v 3) 0, g := some (0, false) }, { o := .ld (.l 0) 1 false, g := some (1, false) }, { o := .ln (.l 0), g := some (2, false) }, { o := .bin .gtr (.l 0) (.i 80), g := some (3, false) }, { o := .pk (.l 4) (.b true) (.l 0) }] [] 0 (.seq (.reg [{ o := .ca N.law34_awake 0 [] [] }, { o := .mv (.l 0), d := some 5 }] []) .ret) .skip) (.seq (.reg [{ o := .mv (.v 0) }, { o := .ca N.made_Roll 0 [] [.l 0] }, { o := .mv (.l 0), d := some 6 }] []) (.seq (.reg [{ o := .mv (.v 6) }, { o := .bs [.i 1, .i 2, .i 3, .i 0, .i (-1)] 1 }, { o := .ca N.made_Dice_Of 0 [] [.l 1, .l 0] }, { o := .mv (.v 6) }, { o := .fa (.v 4) 3 }, { o := .ld (.l 0) 1 false }, { o := .fa (.v 4) 3 }, { o := .ld (.l 0) 1 false }, { o := .bin .quo (.l 0) (.i 2) }, { o := .bs [.l 3, .i 50, .l 0, .i (-1), .i 2147483648, .i 2147483649] 1 }, { o := .ca N.made_Dice_Of 0 [] [.l 6, .l 0] }, { o := .mv (.l 8), d := some 7 }, { o := .mv (.l 1), d := some 8 }] [(1, 1), (5, 0), (7, 0), (9, 0)]) (.seq (.reg [{ o := .mv (.v 6) }, { o := .ca N.made_Dice_Some 0 [] [.l 0, .i 4] }, { o := .mv (.v 6) }, { o := .ca N.made_Dice_Ints 0 [] [.l 0] }, { o := .mv (.v 6) }, { o := .ca N.made_Dice_One 0 [] [.l 0, .i 2] }, { o := .bd [.nil, .nil, .t (.bool false)] [(0, 1, .l 4), (1, 1, .l 2), (2, 1, .l 0)] }, { o := .al [.nil, .nil, .t (.bool false)] [], d := some 9 }, { o := .st (.l 0) (.l 1) 3 [] }] []) (.seq (.reg [{ o := .mv (.v 6) }, { o := .ca N.law34_scene 0 [] [.l 0] }, { o := .mv (.l 0) }, { o := .ex (.l 0) 0 }, { o := .ex (.l 1) 1 }, { o := .ex (.l 2) 2 }, { o := .al [.nil, .t (.int .i64 (0)), .t (.int .i64 (0))] [], d := some 10 }, { o := .al [.nil, .nil, .t (.bool false)] [], d := some 11 }, { o := .al [.nil] [], d := some 12 }, { o := .st (.l 2) (.l 5) 3 [] }, { o := .st (.l 2) (.l 5) 3 [] }, { o := .st (.l 2) (.l 5) 1 [] }] []) (.seq (.reg [{ o := .ca N.law34_awake 0 [] [] }, { o := .mv (.l 0) }, { o := .ld (.v 3) 3 true, g := some (0, true) }, { o := .ld (.v 4) 4 true, g := some (1, true) }, { o := .ld (.v 9) 3 true, g := some (2, true) }, { o := .ld (.v 12) 1 true, g := some (3, true) }, { o := .mv (.v 7), g := some (4, true) }, { o := .mv (.v 8), g := some (5, true) }, { o := .mv (.v 6), g := some (6, true) }, { o := .ca N.made_Dice_One 0 [] [.l 0, .i 2], g := some (7, true) }, { o := .ca N.law34_agree 0 [] [.l 7, .l 6, .l 5, .l 4, .l 3, .l 2, .l 0], g := some (8, true) }, { o := .pk (.l 9) (.l 0) (.b false) }, { o := .mv (.l 0) }, { o := .ld (.v 10) 3 true, g := some (0, true) }, { o := .ld (.v 4) 4 true, g := some (1, true) }, { o := .ld (.v 11) 3 true, g := some (2, true) }, { o := .ld (.v 12) 1 true, g := some (3, true) }, { o := .mv (.v 7), g := some (4, true) }, { o := .mv (.v 8), g := some (5, true) }, { o := .ca N.law34_agree 0 [] [.l 5, .l 4, .l 3, .l 2, .l 1, .l 0, .b false], g := some (6, true) }, { o := .pk (.l 7) (.l 0) (.b false) }, { o := .mv (.l 0) }, { o := .ld (.v 3) 3 true, g := some (0, true) }, { o := .bd [.t (.int .i64 (0)), .t (.int .i64 (0)), .t (.int .i64 (0)), .t (.int .i64 (0))] [], g := some (1, true) }, { o := .ld (.v 11) 3 true, g := some (2, true) }, { o := .ld (.v 12) 1 true, g := some (3, true) }, { o := .mv (.v 7), g := some (4, true) }, { o := .mv (.v 8), g := some (5, true) }, { o := .ca N.law34_agree 0 [] [.l 5, .l 4, .l 3, .l 2, .l 1, .l 0, .b true], g := some (6, true) }, { o := .pk (.l 7) (.l 0) (.b false) }, { o := .mv (.l 0) }, { o := .ld (.v 10) 3 true, g := some (0, true) }, { o := .ld (.v 4) 4 true, g := some (1, true) }, { o := .ld (.v 9) 3 true, g := some (2, true) }, { o := .bd [.nil] [], g := some (3, true) }, { o := .mv (.v 7), g := some (4, true) }, { o := .mv (.v 8), g := some (5, true) }, { o := .ca N.law34_agree 0 [] [.l 5, .l 4, .l 3, .l 2, .l 1, .l 0, .b true], g := some (6, true) }, { o := .pk (.l 7) (.l 0) (.b false) }, { o := .mv (.l 0), d := some 5 }] [(2, 10), (3, 10), (4, 10), (5, 10)]) .ret))))))), res := [(5, none)] }
def law34_FiringMade_l1b : C := (.seq (.ite [{ o := .mv (.v 7) }, { o := .bin .lss (.l 0) (.i 6) }] [] 0 .skip (.exit 0)) (.seq (.blk 1 (.seq (.reg [{ o := .fa (.v 6) 3 }, { o := .ld (.l 0) 1 false }, { o := .mv (.v 2) }, { o := .fa (.v 3) 1 }, { o := .ld (.l 0) 1 false }, { o := .fa (.v 3) 1 }, { o := .ld (.l 0) 1 false }, { o := .bin .add (.l 0) (.i 1) }, { o := .fa (.v 3) 2 }, { o := .ld (.l 0) 1 false }, { o := .fa (.v 3) 2 }, { o := .ld (.l 0) 1 false }, { o := .bin .sub (.l 0) (.i 1) }, { o := .bs [.i 0, .l 8, .l 5, .l 3, .l 0, .i (-1), .i 5] 1 }, { o := .ca N.made_Dice_Of 0 [] [.l 11, .l 0] }, { o := .bin .add (.l 13) (.l 0) }, { o := .mv (.l 0), d := some 8 }] [(1, 14), (1, 15)]) (.ite [{ o := .ld (.v 3) 3 true }, { o := .ld (.v 6) 4 true }, { o := .ld (.v 4) 3 true }, { o := .ld (.v 5) 1 true }, { o := .mv (.v 2) }, { o := .bs [.i 1, .i 2, .i 3, .i 0] 1 }, { o := .ca N.made_Dice_Of 0 [] [.l 1, .l 0] }, { o := .mv (.v 8) }, { o := .mv (.v 2) }, { o := .ca N.made_Dice_One 0 [] [.l 0, .i 2] }, { o := .ca N.law34_agree 0 [] [.l 9, .l 8, .l 7, .l 6, .l 3, .l 2, .l 0] }, { o := .un .not (.l 0) }] [(0, 6), (0, 7), (0, 10), (1, 6), (1, 7), (1, 10), (2, 6), (2, 7), (2, 10), (3, 6), (3, 7), (3, 10)] 0 (.seq (.reg [{ o := .mv (.b false), d := some 1 }] []) .ret) .skip))) (.reg [{ o := .mv (.v 7) }, { o := .bin .add (.l 0) (.i 1) }, { o := .mv (.l 0), d := some 7 }] [])))
def law34_FiringMade_l1 : C := .loop true [0, 1, 8] K.law34_FiringMade_l1b
/-- /law34.FiringMade -/
def law34_FiringMade : Fn := { nargs := 1, vars := [0, 2, 3, 4, 5, 6, 7, 8, 9], body := (.seq (.reg [{ o := .mv (.b false), d := some 1 }] []) (.seq (.ite [{ o := .mv (.v 0) }, { o := .ca N.made_Light 0 [] [.l 0] }, { o := .un .not (.l 0) }] [] 0 (.seq (.reg [{ o := .ca N.law34_awake 0 [] [] }, { o := .mv (.l 0), d := some 1 }] []) .ret) .skip) (.seq (.reg [{ o := .mv (.v 0) }, { o := .ca N.made_Roll 0 [] [.l 0] }, { o := .mv (.l 0), d := some 2 }] []) (.seq (.reg [{ o := .mv (.v 2) }, { o := .ca N.law34_scene 0 [] [.l 0] }, { o := .mv (.l 0) }, { o := .ex (.l 0) 0 }, { o := .ex (.l 1) 1 }, { o := .ex (.l 2) 2 }, { o := .al [.nil, .t (.int .i64 (0)), .t (.int .i64 (0))] [], d := some 3 }, { o := .al [.nil, .nil, .t (.bool false)] [], d := some 4 }, { o := .al [.nil] [], d := some 5 }, { o := .st (.l 2) (.l 5) 3 [] }, { o := .st (.l 2) (.l 5) 3 [] }, { o := .st (.l 2) (.l 5) 1 [] }] []) (.seq (.ite [{ o := .mv (.v 2) }, { o := .ca N.made_Dice_One 0 [] [.l 0, .i 2] }] [] 0 (.reg [{ o := .ca N.law34_ready 0 [] [] }, { o := .mv (.l 0) }, { o := .ex (.l 0) 0 }, { o := .ex (.l 1) 1 }, { o := .ex (.l 2) 2 }, { o := .st (.v 3) (.l 2) 3 [] }, { o := .st (.v 4) (.l 2) 3 [] }, { o := .st (.v 5) (.l 2) 1 [] }] []) .skip) (.seq (.reg [{ o := .mv (.v 2) }, { o := .ca N.made_Dice_Next 0 [] [.l 0, .i 5] }, { o := .bd [.t (.int .i64 (0)), .t (.int .i64 (0)), .t (.int .i64 (0)), .t (.int .i64 (0))] [(0, 1, .l 0)] }, { o := .al [.t (.int .i64 (0)), .t (.int .i64 (0)), .t (.int .i64 (0)), .t (.int .i64 (0))] [], d := some 6 }, { o := .st (.l 0) (.l 1) 4 [] }] []) (.seq (.ite [{ o := .fa (.v 6) 0 }, { o := .ld (.l 0) 1 false }, { o := .bin .gtr (.l 0) (.i 0) }] [] 0 (.reg [{ o := .mv (.v 2) }, { o := .ca N.made_Dice_Next 0 [] [.l 0, .i 2] }, { o := .bin .add (.i 1) (.l 0) }, { o := .mv (.v 2) }, { o := .bs [.i 500, .i 0, .i 77] 1 }, { o := .ca N.made_Dice_Of 0 [] [.l 1, .l 0] }, { o := .fa (.v 6) 1 }, { o := .st (.l 0) (.l 4) 1 [] }, { o := .fa (.v 6) 3 }, { o := .st (.l 0) (.l 3) 1 [] }] []) .skip) (.seq (.ite [{ o := .fa (.v 6) 0 }, { o := .ld (.l 0) 1 false }, { o := .bin .gtr (.l 0) (.i 1) }] [] 0 (.reg [{ o := .fa (.v 6) 1 }, { o := .ld (.l 0) 1 false }, { o := .bin .sub (.i 3) (.l 0) }, { o := .fa (.v 6) 2 }, { o := .st (.l 0) (.l 1) 1 [] }] []) .skip) (.seq (.seq (.reg [{ o := .mv (.i 0), d := some 7 }] []) (.blk 0 K.law34_FiringMade_l1)) (.seq (.reg [{ o := .ca N.law34_awake 0 [] [] }, { o := .mv (.l 0), d := some 1 }] []) .ret)))))))))), res := [(1, none)] }
def law34_FiringNeeds_l1b : C := (.seq (.ite [{ o := .mv (.v 13) }, { o := .bin .gtr (.l 0) (.i 0) }] [] 0 .skip (.exit 0)) (.seq (.blk 1 (.seq (.reg [{ o := .mv (.v 8) }, { o := .mv (.v 2) }, { o := .bs [.i 0, .i 10, .i 200, .i 301] 1 }, { o := .ca N.made_Dice_Of 0 [] [.l 1, .l 0] }, { o := .bin .add (.l 3) (.l 0) }, { o := .mv (.l 0), d := some 8 }] []) (.seq (.reg [{ o := .al [.nil, .nil, .t (.bool false)] [], d := some 14 }, { o := .al [.nil] [], d := some 15 }, { o := .ld (.v 4) 3 true }, { o := .ld (.v 5) 1 true }, { o := .st (.l 3) (.l 1) 3 [] }, { o := .st (.l 3) (.l 1) 1 [] }] [(3, 5)]) (.seq (.reg [{ o := .mv (.v 2) }, { o := .ca N.made_Dice_Next 0 [] [.l 0, .i 6] }, { o := .bin .gtr (.l 0) (.i 0) }, { o := .fa (.v 14) 2 }, { o := .st (.l 0) (.l 1) 1 [] }] []) (.seq (.ite [{ o := .mv (.v 2) }, { o := .ca N.made_Dice_One 0 [] [.l 0, .i 6] }] [] 0 (.reg [{ o := .ld (.v 6) 1 true }, { o := .st (.v 15) (.l 0) 1 [] }] []) .skip) (.seq (.reg [{ o := .fa (.v 14) 2 }, { o := .ld (.l 0) 1 false }, { o := .mv (.l 0) }, { o := .fa (.v 15) 0, g := some (0, true) }, { o := .ld (.l 0) 1 false, g := some (1, true) }, { o := .ia (.l 0) (.i 0) 2, g := some (2, true) }, { o := .fa (.l 0) 1, g := some (3, true) }, { o := .ld (.l 0) 1 false, g := some (4, true) }, { o := .ia (.l 0) (.i 0) 2, g := some (5, true) }, { o := .fa (.l 0) 1, g := some (6, true) }, { o := .ld (.l 0) 1 false, g := some (7, true) }, { o := .ia (.l 0) (.i 1) 1, g := some (8, true) }, { o := .ld (.l 0) 1 false, g := some (9, true) }, { o := .bin .eql (.l 0) (.i 1099511627776), g := some (10, true) }, { o := .pk (.l 11) (.l 0) (.b false) }, { o := .mv (.l 0), d := some 16 }] []) (.seq (.reg [{ o := .mv (.v 2) }, { o := .ca N.made_Dice_Next 0 [] [.l 0, .i 3] }, { o := .bin .add (.i 1) (.l 0) }, { o := .mv (.l 0), d := some 17 }] []) (.seq (.seq (.reg [{ o := .mv (.v 2) }, { o := .ca N.made_Dice_Next 0 [] [.l 0, .i 4], d := some 26 }] []) (.blk 2 (.ite [{ o := .bin .eql (.v 26) (.i 0) }, { o := .mv (.l 0) }] [] 0 (.seq (.reg [{ o := .ld (.v 3) 3 true }, { o := .ld (.v 7) 4 true }, { o := .ld (.v 14) 3 true }, { o := .ld (.v 15) 1 true }, { o := .mv (.v 17) }, { o := .mv (.v 8) }, { o := .ca N.firing_Arm 0 [] [.l 5, .l 4, .l 3, .l 2, .l 1, .l 0] }, { o := .mv (.l 0) }, { o := .ex (.l 0) 0 }, { o := .ex (.l 1) 1 }, { o := .al [.t (.int .i64 (0)), .t (.int .i64 (0)), .t (.int .i64 (0)), .t (.int .i64 (0))] [], d := some 18 }, { o := .st (.l 0) (.l 2) 4 [] }, { o := .mv (.l 2), d := some 19 }] []) (.seq (.ite [{ o := .mv (.v 19) }, { o := .bin .eql (.l 0) (.i 0) }] [] 0 (.seq (.ite [{ o := .mv (.v 16) }, { o := .un .not (.l 0) }, { o := .mv (.l 0) }, { o := .fa (.v 7) 0, g := some (0, false) }, { o := .ld (.l 0) 1 false, g := some (1, false) }, { o := .bin .neq (.l 0) (.i 0), g := some (2, false) }, { o := .pk (.l 3) (.b true) (.l 0) }] [] 0 (.seq (.reg [{ o := .mv (.b false), d := some 1 }] []) .ret) .skip) (.reg [{ o := .mv (.v 8) }, { o := .mv (.v 17) }, { o := .mv (.l 1), d := some 9 }, { o := .mv (.l 1), d := some 11 }] [])) .skip) (.reg [{ o := .ld (.v 18) 4 true }, { o := .st (.v 7) (.l 0) 4 [] }] []))) (.ite [{ o := .bin .eql (.v 26) (.i 1) }, { o := .mv (.l 0) }] [] 0 (.seq (.reg [{ o := .ld (.v 3) 3 true }, { o := .ld (.v 7) 4 true }, { o := .ld (.v 14) 3 true }, { o := .ld (.v 15) 1 true }, { o := .mv (.v 17) }, { o := .mv (.v 8) }, { o := .ca N.firing_Agree 0 [] [.l 5, .l 4, .l 3, .l 2, .l 1, .l 0] }, { o := .mv (.l 0) }, { o := .ex (.l 0) 0 }, { o := .ex (.l 1) 1 }, { o := .al [.t (.int .i64 (0)), .t (.int .i64 (0)), .t (.int .i64 (0)), .t (.int .i64 (0))] [], d := some 20 }, { o := .st (.l 0) (.l 2) 4 [] }, { o := .mv (.l 2), d := some 21 }] []) (.seq (.ite [{ o := .mv (.v 21) }, { o := .bin .eql (.l 0) (.i 0) }] [] 0 (.seq (.ite [{ o := .mv (.v 16) }, { o := .un .not (.l 0) }, { o := .mv (.l 0) }, { o := .mv (.v 9), g := some (0, false) }, { o := .bin .lss (.l 0) (.i 0), g := some (1, false) }, { o := .pk (.l 2) (.b true) (.l 0) }, { o := .mv (.l 0) }, { o := .mv (.v 8), g := some (0, false) }, { o := .mv (.v 9), g := some (1, false) }, { o := .bin .sub (.l 1) (.l 0), g := some (2, false) }, { o := .fa (.v 3) 1, g := some (3, false) }, { o := .ld (.l 0) 1 false, g := some (4, false) }, { o := .bin .gtr (.l 2) (.l 0), g := some (5, false) }, { o := .pk (.l 6) (.b true) (.l 0) }, { o := .mv (.l 0) }, { o := .mv (.v 17), g := some (0, false) }, { o := .mv (.v 11), g := some (1, false) }, { o := .bin .eql (.l 1) (.l 0), g := some (2, false) }, { o := .pk (.l 3) (.b true) (.l 0) }] [] 0 (.seq (.reg [{ o := .mv (.b false), d := some 1 }] []) .ret) .skip) (.reg [{ o := .mv (.v 8) }, { o := .mv (.v 17) }, { o := .mv (.l 1), d := some 10 }, { o := .mv (.l 1), d := some 12 }] [])) .skip) (.reg [{ o := .ld (.v 20) 4 true }, { o := .st (.v 7) (.l 0) 4 [] }] []))) (.ite [{ o := .bin .eql (.v 26) (.i 2) }, { o := .mv (.l 0) }] [] 0 (.seq (.reg [{ o := .al [.t (.int .i64 (0)), .t (.int .i64 (0)), .t (.int .i64 (0)), .t (.int .i64 (0))] [], d := some 22 }, { o := .ld (.v 3) 3 true }, { o := .ld (.v 7) 4 true }, { o := .ld (.v 14) 3 true }, { o := .ld (.v 15) 1 true }, { o := .mv (.v 8) }, { o := .mv (.v 2) }, { o := .ca N.made_Dice_One 0 [] [.l 0, .i 3] }, { o := .ca N.firing_Fire 0 [] [.l 6, .l 5, .l 4, .l 3, .l 2, .l 0] }, { o := .mv (.l 0) }, { o := .ex (.l 0) 0 }, { o := .ex (.l 1) 1 }, { o := .st (.l 11) (.l 1) 4 [] }, { o := .mv (.l 1), d := some 23 }] [(0, 8), (0, 9), (1, 8), (2, 8), (3, 8), (4, 8)]) (.seq (.ite [{ o := .mv (.v 23) }, { o := .bin .eql (.l 0) (.i 0) }, { o := .mv (.l 0) }, { o := .mv (.v 16), g := some (0, true) }, { o := .un .not (.l 0), g := some (1, true) }, { o := .mv (.l 0), g := some (2, true) }, { o := .mv (.v 10), g := some (0, false) }, { o := .bin .lss (.l 0) (.i 0), g := some (1, false) }, { o := .pk (.l 2) (.b true) (.l 0), g := some (5, true) }, { o := .mv (.l 0), g := some (6, true) }, { o := .mv (.v 8), g := some (0, false) }, { o := .mv (.v 10), g := some (1, false) }, { o := .bin .sub (.l 1) (.l 0), g := some (2, false) }, { o := .fa (.v 3) 1, g := some (3, false) }, { o := .ld (.l 0) 1 false, g := some (4, false) }, { o := .bin .gtr (.l 2) (.l 0), g := some (5, false) }, { o := .pk (.l 6) (.b true) (.l 0), g := some (13, true) }, { o := .mv (.l 0), g := some (14, true) }, { o := .mv (.v 11), g := some (0, false) }, { o := .mv (.v 12), g := some (1, false) }, { o := .bin .eql (.l 1) (.l 0), g := some (2, false) }, { o := .pk (.l 3) (.b true) (.l 0), g := some (18, true) }, { o := .pk (.l 19) (.l 0) (.b false) }] [] 0 (.seq (.reg [{ o := .mv (.b false), d := some 1 }] []) .ret) .skip) (.reg [{ o := .ld (.v 22) 4 true }, { o := .st (.v 7) (.l 0) 4 [] }] []))) (.seq (.reg [{ o := .ld (.v 3) 3 true }, { o := .ld (.v 7) 4 true }, { o := .mv (.v 8) }, { o := .ca N.firing_Abort 0 [] [.l 2, .l 1, .l 0] }, { o := .mv (.l 0) }, { o := .ex (.l 0) 0 }, { o := .ex (.l 1) 1 }, { o := .al [.t (.int .i64 (0)), .t (.int .i64 (0)), .t (.int .i64 (0)), .t (.int .i64 (0))] [], d := some 24 }, { o := .st (.l 0) (.l 2) 4 [] }, { o := .mv (.l 2), d := some 25 }] []) (.seq (.ite [{ o := .mv (.v 25) }, { o := .bin .eql (.l 0) (.i 0) }] [] 0 (.reg [{ o := .mv (.i (-1)), d := some 9 }, { o := .mv (.i (-1)), d := some 10 }, { o := .mv (.i 0), d := some 11 }, { o := .mv (.i 0), d := some 12 }] []) .skip) (.reg [{ o := .ld (.v 24) 4 true }, { o := .st (.v 7) (.l 0) 4 [] }] [])))))))) (.ite [{ o := .ld (.v 3) 3 true }, { o := .ld (.v 7) 4 true }, { o := .ca N.firing_Valid 0 [] [.l 1, .l 0] }, { o := .un .not (.l 0) }] [] 0 (.seq (.reg [{ o := .mv (.b false), d := some 1 }] []) .ret) .skip))))))))) (.reg [{ o := .mv (.v 13) }, { o := .bin .sub (.l 0) (.i 1) }, { o := .mv (.l 0), d := some 13 }] [])))
def law34_FiringNeeds_l1 : C := .loop true [0, 1, 14, 15, 16, 17, 18, 19, 20, 21, 22, 23, 24, 25, 26] K.law34_FiringNeeds_l1b
/-- /law34.FiringNeeds -/
def law34_FiringNeeds : Fn := { nargs := 1, vars := [0, 2, 3, 4, 5, 6, 7, 8, 9, 10, 11, 12, 13, 14, 15, 16, 17, 18, 19, 20, 21, 22, 23, 24, 25, 26, 88], body := (.seq (.reg [{ o := .mv (.b false), d := some 1 }] []) (.seq (.ite [{ o := .mv (.v 0) }, { o := .ca N.made_Light 0 [] [.l 0] }, { o := .un .not (.l 0) }] [] 0 (.seq (.reg [{ o := .ca N.law34_awake 0 [] [] }, { o := .mv (.l 0), d := some 1 }] []) .ret) .skip) (.seq (.reg [{ o := .mv (.v 0) }, { o := .ca N.made_Roll 0 [] [.l 0] }, { o := .mv (.l 0), d := some 2 }] []) (.seq (.reg [{ o := .ca N.law34_ready 0 [] [] }, { o := .mv (.l 0) }, { o := .ex (.l 0) 0 }, { o := .ex (.l 1) 1 }, { o := .ex (.l 2) 2 }, { o := .al [.nil, .t (.int .i64 (0)), .t (.int .i64 (0))] [], d := some 3 }, { o := .al [.nil, .nil, .t (.bool false)] [], d := some 4 }, { o := .al [.nil] [], d := some 5 }, { o := .st (.l 2) (.l 5) 3 [] }, { o := .st (.l 2) (.l 5) 3 [] }, { o := .st (.l 2) (.l 5) 1 [] }] []) (.seq (.reg [{ o := .ld (.v 5) 1 true }, { o := .ca N.ref26_Copy_v2 3 [] [.l 0] }, { o := .al [.nil] [], d := some 6 }, { o := .st (.l 0) (.l 1) 1 [] }] []) (.seq (.reg [{ o := .fa (.v 6) 0 }, { o := .ld (.l 0) 1 false }, { o := .ia (.l 0) (.i 0) 2 }, { o := .fa (.l 0) 1 }, { o := .ld (.l 0) 1 false }, { o := .ia (.l 0) (.i 0) 2 }, { o := .fa (.l 0) 1 }, { o := .ld (.l 0) 1 false }, { o := .ia (.l 0) (.i 1) 1 }, { o := .st (.l 0) (.i 5000) 1 [] }] []) (.seq (.reg [{ o := .al [.t (.int .i64 (0)), .t (.int .i64 (0)), .t (.int .i64 (0)), .t (.int .i64 (0))] [], d := some 7 }] []) (.seq (.reg [{ o := .mv (.i 0), d := some 8 }, { o := .mv (.i (-1)), d := some 9 }, { o := .mv (.i (-1)), d := some 10 }, { o := .mv (.i 0), d := some 11 }, { o := .mv (.i 0), d := some 12 }] []) (.seq (.seq (.reg [{ o := .mv (.v 2) }, { o := .ca N.made_Dice_Next 0 [] [.l 0, .i 30] }, { o := .mv (.l 0), d := some 13 }] []) (.blk 0 K.law34_FiringNeeds_l1)) (.seq (.reg [{ o := .ca N.law34_awake 0 [] [] }, { o := .mv (.l 0), d := some 1 }] []) .ret)))))))))), res := [(1, none)] }
/-- /law34.awake -/
def law34_awake : Fn := { nargs := 0, vars := [0, 1, 2, 3, 4, 5, 6, 7, 8, 9, 11], body := (.seq (.reg [{ o := .mv (.b false), d := some 0 }] []) (.seq (.reg [{ o := .ca N.law34_ready 0 [] [] }, { o := .mv (.l 0) }, { o := .ex (.l 0) 0 }, { o := .ex (.l 1) 1 }, { o := .ex (.l 2) 2 }, { o := .al [.nil, .t (.int .i64 (0)), .t (.int .i64 (0))] [], d := some 1 }, { o := .al [.nil, .nil, .t (.bool false)] [], d := some 2 }, { o := .al [.nil] [], d := some 3 }, { o := .st (.l 2) (.l 5) 3 [] }, { o := .st (.l 2) (.l 5) 3 [] }, { o := .st (.l 2) (.l 5) 1 [] }] []) (.seq (.reg [{ o := .ld (.v 1) 3 true }, { o := .bd [.t (.int .i64 (0)), .t (.int .i64 (0)), .t (.int .i64 (0)), .t (.int .i64 (0))] [] }, { o := .ld (.v 2) 3 true }, { o := .ld (.v 3) 1 true }, { o := .ca N.firing_Arm 0 [] [.l 3, .l 2, .l 1, .l 0, .i 1, .i 100] }, { o := .mv (.l 0) }, { o := .ex (.l 0) 0 }, { o := .ex (.l 1) 1 }, { o := .al [.t (.int .i64 (0)), .t (.int .i64 (0)), .t (.int .i64 (0)), .t (.int .i64 (0))] [], d := some 4 }, { o := .st (.l 0) (.l 2) 4 [] }, { o := .mv (.l 2), d := some 5 }] []) (.seq (.reg [{ o := .ld (.v 1) 3 true }, { o := .ld (.v 4) 4 true }, { o := .ld (.v 2) 3 true }, { o := .ld (.v 3) 1 true }, { o := .ca N.firing_Agree 0 [] [.l 3, .l 2, .l 1, .l 0, .i 2, .i 200] }, { o := .mv (.l 0) }, { o := .ex (.l 0) 0 }, { o := .ex (.l 1) 1 }, { o := .al [.t (.int .i64 (0)), .t (.int .i64 (0)), .t (.int .i64 (0)), .t (.int .i64 (0))] [], d := some 6 }, { o := .st (.l 0) (.l 2) 4 [] }, { o := .mv (.l 2), d := some 7 }] []) (.seq (.reg [{ o := .ld (.v 1) 3 true }, { o := .ld (.v 6) 4 true }, { o := .ld (.v 2) 3 true }, { o := .ld (.v 3) 1 true }, { o := .ca N.firing_Fire 0 [] [.l 3, .l 2, .l 1, .l 0, .i 300, .b false] }, { o := .mv (.l 0) }, { o := .ex (.l 0) 0 }, { o := .ex (.l 1) 1 }, { o := .al [.t (.int .i64 (0)), .t (.int .i64 (0)), .t (.int .i64 (0)), .t (.int .i64 (0))] [], d := some 8 }, { o := .st (.l 0) (.l 2) 4 [] }, { o := .mv (.l 2), d := some 9 }] []) (.seq (.reg [{ o := .ld (.v 1) 3 true }, { o := .ld (.v 4) 4 true }, { o := .ld (.v 2) 3 true }, { o := .ld (.v 3) 1 true }, { o := .ca N.firing_Agree 0 [] [.l 3, .l 2, .l 1, .l 0, .i 1, .i 200] }, { o := .mv (.l 0) }, { o := .ex (.l 0) 0 }, { o := .ex (.l 1) 1 }, { o := .al [.t (.int .i64 (0)), .t (.int .i64 (0)), .t (.int .i64 (0)), .t (.int .i64 (0))] [] }, { o := .st (.l 0) (.l 2) 4 [] }, { o := .mv (.l 2), d := some 10 }] []) (.seq (.reg [{ o := .mv (.v 5) }, { o := .bin .eql (.l 0) (.i 0) }, { o := .mv (.l 0) }, { o := .mv (.v 7), g := some (0, true) }, { o := .bin .eql (.l 0) (.i 0), g := some (1, true) }, { o := .pk (.l 2) (.l 0) (.b false) }, { o := .mv (.l 0) }, { o := .mv (.v 9), g := some (0, true) }, { o := .bin .eql (.l 0) (.i 0), g := some (1, true) }, { o := .pk (.l 2) (.l 0) (.b false) }, { o := .mv (.l 0) }, { o := .mv (.v 10), g := some (0, true) }, { o := .bin .eql (.l 0) (.i 19), g := some (1, true) }, { o := .pk (.l 2) (.l 0) (.b false) }, { o := .mv (.l 0) }, { o := .fa (.v 4) 0, g := some (0, true) }, { o := .ld (.l 0) 1 false, g := some (1, true) }, { o := .bin .eql (.l 0) (.i 1), g := some (2, true) }, { o := .pk (.l 3) (.l 0) (.b false) }, { o := .mv (.l 0) }, { o := .fa (.v 8) 0, g := some (0, true) }, { o := .ld (.l 0) 1 false, g := some (1, true) }, { o := .bin .eql (.l 0) (.i 3), g := some (2, true) }, { o := .pk (.l 3) (.l 0) (.b false) }, { o := .mv (.l 0) }, { o := .fa (.v 8) 3, g := some (0, true) }, { o := .ld (.l 0) 1 false, g := some (1, true) }, { o := .bin .eql (.l 0) (.i 300), g := some (2, true) }, { o := .pk (.l 3) (.l 0) (.b false) }, { o := .mv (.l 0) }, { o := .ld (.v 1) 3 true, g := some (0, true) }, { o := .ld (.v 4) 4 true, g := some (1, true) }, { o := .ca N.firing_Due 0 [] [.l 1, .l 0, .i 150], g := some (2, true) }, { o := .bin .eql (.l 0) (.i 250), g := some (3, true) }, { o := .pk (.l 4) (.l 0) (.b false) }, { o := .mv (.l 0), d := some 0 }] []) .ret))))))), res := [(0, none)] }
def made_Dice_Ints_l1b : C := (.seq (.ite [{ o := .mv (.v 3) }, { o := .bin .gtr (.l 0) (.i 0) }] [] 0 .skip (.exit 0)) (.seq (.blk 1 (.reg [{ o := .mv (.v 2) }, { o := .mv (.v 0) }, { o := .ca N.made_Dice_Next 0 [] [.l 0, .i 9] }, { o := .bin .sub (.l 0) (.i 1) }, { o := .bs [.l 0] 1 }, { o := .app (.l 4) (.l 0) true 1 }, { o := .mv (.l 0), d := some 2 }] [])) (.reg [{ o := .mv (.v 3) }, { o := .bin .sub (.l 0) (.i 1) }, { o := .mv (.l 0), d := some 3 }] [])))
def made_Dice_Ints_l1 : C := .loop true [1] K.made_Dice_Ints_l1b
/-- (*/made.Dice).Ints -/
def made_Dice_Ints : Fn := { nargs := 1, vars := [0, 2, 3, 4], body := (.seq (.reg [{ o := .mv (.c (.nil)), d := some 1 }] []) (.seq (.reg [{ o := .nw 1, d := some 2 }] []) (.seq (.seq (.reg [{ o := .mv (.v 0) }, { o := .ca N.made_Dice_Next 0 [] [.l 0, .i 5] }, { o := .mv (.l 0), d := some 3 }] []) (.blk 0 K.made_Dice_Ints_l1)) (.seq (.reg [{ o := .mv (.v 2) }, { o := .mv (.l 0), d := some 1 }] []) .ret)))), res := [(1, none)] }
/-- /law34.scene -/
def law34_scene : Fn := { nargs := 1, vars := [0, 2, 3, 4, 5, 6, 7, 8, 9, 10, 11], body := (.seq (.reg [{ o := .al [.nil, .t (.int .i64 (0)), .t (.int .i64 (0))] [], d := some 1 }, { o := .al [.nil, .nil, .t (.bool false)] [], d := some 2 }, { o := .al [.nil] [], d := some 3 }] []) (.seq (.reg [{ o := .mv (.v 0) }, { o := .ca N.made_Dice_Mine 0 [] [.l 0] }, { o := .al [.nil, .nil] [], d := some 4 }, { o := .st (.l 0) (.l 1) 2 [] }] []) (.seq (.reg [{ o := .al [.nil, .t (.int .i64 (0)), .t (.int .i64 (0))] [], d := some 5 }, { o := .fa (.v 4) 0 }, { o := .ld (.l 0) 1 false }, { o := .ln (.l 0) }, { o := .bin .sub (.l 0) (.i 1) }, { o := .bs [.l 0] 1 }, { o := .mv (.v 0) }, { o := .bs [.i 299, .i 9] 1 }, { o := .ca N.made_Dice_Of 0 [] [.l 1, .l 0] }, { o := .bin .add (.i 1) (.l 0) }, { o := .mv (.v 0) }, { o := .bs [.i 1799, .i 9] 1 }, { o := .ca N.made_Dice_Of 0 [] [.l 1, .l 0] }, { o := .bin .add (.i 1) (.l 0) }, { o := .bd [.nil, .t (.int .i64 (0)), .t (.int .i64 (0))] [(0, 1, .l 8), (1, 1, .l 4), (2, 1, .l 0)] }, { o := .st (.l 14) (.l 0) 3 [] }] [(0, 9), (0, 13), (2, 9), (2, 13), (5, 9), (5, 13), (7, 7), (11, 1)]) (.seq (.reg [{ o := .mv (.v 0) }, { o := .ld (.v 4) 2 true }, { o := .ca N.made_Dice_Belief 0 [] [.l 1, .l 0] }, { o := .al [.nil] [], d := some 6 }, { o := .st (.l 0) (.l 1) 1 [] }] []) (.seq (.reg [{ o := .ld (.v 4) 2 true }, { o := .fa (.v 5) 0 }, { o := .ld (.l 0) 1 false }, { o := .ca N.ref32_Border 0 [] [.l 2, .l 0] }, { o := .mv (.l 0), d := some 7 }] []) (.seq (.reg [{ o := .al [.nil] [], d := some 8 }, { o := .ld (.v 4) 2 true }, { o := .ld (.v 6) 1 true }, { o := .mv (.v 7) }, { o := .ld (.v 6) 1 true }, { o := .ca N.made_Last 0 [] [.l 0] }, { o := .mv (.v 0) }, { o := .ca N.made_Dice_Next 0 [] [.l 0, .i 50] }, { o := .bin .add (.l 2) (.l 0) }, { o := .ca N.ref32_Seal 0 [] [.l 7, .l 6, .l 5, .l 0] }, { o := .mv (.l 0) }, { o := .ex (.l 0) 0 }, { o := .ex (.l 1) 1 }, { o := .st (.l 12) (.l 1) 1 [] }, { o := .mv (.l 1), d := some 9 }] [(0, 6), (0, 8), (0, 10), (1, 6), (1, 8), (2, 6), (2, 8)]) (.seq (.ite [{ o := .mv (.v 9) }, { o := .bin .neq (.l 0) (.i 0) }] [] 0 (.reg [{ o := .ld (.v 6) 1 true }, { o := .st (.v 8) (.l 0) 1 [] }] []) .skip) (.seq (.reg [{ o := .bs [.i 1] 1 }, { o := .bs [.i 2] 1 }, { o := .mv (.v 0) }, { o := .ca N.made_Dice_Next 0 [] [.l 0, .i 6] }, { o := .bin .gtr (.l 0) (.i 0) }, { o := .bd [.nil, .nil, .t (.bool false)] [(0, 1, .l 4), (1, 1, .l 3), (2, 1, .l 0)] }, { o := .al [.nil, .nil, .t (.bool false)] [], d := some 10 }, { o := .st (.l 0) (.l 1) 3 [] }] []) (.seq (.reg [{ o := .ld (.v 5) 3 true }, { o := .ld (.v 10) 3 true }, { o := .ld (.v 8) 1 true }, { o := .st (.v 1) (.l 2) 3 [] }, { o := .st (.v 2) (.l 2) 3 [] }, { o := .st (.v 3) (.l 2) 1 [] }] [(1, 4), (2, 4), (2, 5)]) .ret))))))))), res := [(1, some (3, true)), (2, some (3, true)), (3, some (1, true))] }
/-- /law34.agree -/
def law34_agree : Fn := { nargs := 7, vars := [0, 1, 2, 3, 4, 5, 6, 7, 8, 9, 10, 14, 15, 16, 17, 18, 19, 20, 21, 22, 23, 24, 25, 26, 27, 28, 29, 30], body := (.seq (.reg [{ o := .bx (.v 0) 3, d := some 7 }, { o := .bx (.v 1) 4, d := some 8 }, { o := .bx (.v 2) 3, d := some 9 }, { o := .bx (.v 3) 1, d := some 10 }, { o := .mv (.b false), d := some 11 }] []) (.seq (.reg [{ o := .ld (.v 7) 3 true }, { o := .ld (.v 8) 4 true }, { o := .ld (.v 9) 3 true }, { o := .ld (.v 10) 1 true }, { o := .mv (.v 4) }, { o := .mv (.v 5) }, { o := .ca N.firing_Arm 0 [] [.l 5, .l 4, .l 3, .l 2, .l 1, .l 0] }, { o := .mv (.l 0) }, { o := .ex (.l 0) 0 }, { o := .ex (.l 1) 1 }, { o := .al [.t (.int .i64 (0)), .t (.int .i64 (0)), .t (.int .i64 (0)), .t (.int .i64 (0))] [], d := some 12 }, { o := .st (.l 0) (.l 2) 4 [] }, { o := .mv (.l 2), d := some 13 }] []) (.seq (.reg [{ o := .ld (.v 7) 3 true }, { o := .ld (.v 8) 4 true }, { o := .ld (.v 9) 3 true }, { o := .ld (.v 10) 1 true }, { o := .mv (.v 4) }, { o := .mv (.v 5) }, { o := .ca N.ref34_Arm 0 [] [.l 5, .l 4, .l 3, .l 2, .l 1, .l 0] }, { o := .mv (.l 0) }, { o := .ex (.l 0) 0 }, { o := .ex (.l 1) 1 }, { o := .al [.t (.int .i64 (0)), .t (.int .i64 (0)), .t (.int .i64 (0)), .t (.int .i64 (0))] [], d := some 14 }, { o := .st (.l 0) (.l 2) 4 [] }, { o := .mv (.l 2), d := some 15 }] []) (.seq (.reg [{ o := .ld (.v 7) 3 true }, { o := .ld (.v 8) 4 true }, { o := .ld (.v 9) 3 true }, { o := .ld (.v 10) 1 true }, { o := .mv (.v 4) }, { o := .mv (.v 5) }, { o := .ca N.firing_Agree 0 [] [.l 5, .l 4, .l 3, .l 2, .l 1, .l 0] }, { o := .mv (.l 0) }, { o := .ex (.l 0) 0 }, { o := .ex (.l 1) 1 }, { o := .al [.t (.int .i64 (0)), .t (.int .i64 (0)), .t (.int .i64 (0)), .t (.int .i64 (0))] [], d := some 16 }, { o := .st (.l 0) (.l 2) 4 [] }, { o := .mv (.l 2), d := some 17 }] []) (.seq (.reg [{ o := .ld (.v 7) 3 true }, { o := .ld (.v 8) 4 true }, { o := .ld (.v 9) 3 true }, { o := .ld (.v 10) 1 true }, { o := .mv (.v 4) }, { o := .mv (.v 5) }, { o := .ca N.ref34_Agree 0 [] [.l 5, .l 4, .l 3, .l 2, .l 1, .l 0] }, { o := .mv (.l 0) }, { o := .ex (.l 0) 0 }, { o := .ex (.l 1) 1 }, { o := .al [.t (.int .i64 (0)), .t (.int .i64 (0)), .t (.int .i64 (0)), .t (.int .i64 (0))] [], d := some 18 }, { o := .st (.l 0) (.l 2) 4 [] }, { o := .mv (.l 2), d := some 19 }] []) (.seq (.reg [{ o := .ld (.v 7) 3 true }, { o := .ld (.v 8) 4 true }, { o := .ld (.v 9) 3 true }, { o := .ld (.v 10) 1 true }, { o := .mv (.v 5) }, { o := .mv (.v 6) }, { o := .ca N.firing_Fire 0 [] [.l 5, .l 4, .l 3, .l 2, .l 1, .l 0] }, { o := .mv (.l 0) }, { o := .ex (.l 0) 0 }, { o := .ex (.l 1) 1 }, { o := .al [.t (.int .i64 (0)), .t (.int .i64 (0)), .t (.int .i64 (0)), .t (.int .i64 (0))] [], d := some 20 }, { o := .st (.l 0) (.l 2) 4 [] }, { o := .mv (.l 2), d := some 21 }] []) (.seq (.reg [{ o := .ld (.v 7) 3 true }, { o := .ld (.v 8) 4 true }, { o := .ld (.v 9) 3 true }, { o := .ld (.v 10) 1 true }, { o := .mv (.v 5) }, { o := .mv (.v 6) }, { o := .ca N.ref34_Fire 0 [] [.l 5, .l 4, .l 3, .l 2, .l 1, .l 0] }, { o := .mv (.l 0) }, { o := .ex (.l 0) 0 }, { o := .ex (.l 1) 1 }, { o := .al [.t (.int .i64 (0)), .t (.int .i64 (0)), .t (.int .i64 (0)), .t (.int .i64 (0))] [], d := some 22 }, { o := .st (.l 0) (.l 2) 4 [] }, { o := .mv (.l 2), d := some 23 }] []) (.seq (.reg [{ o := .ld (.v 7) 3 true }, { o := .ld (.v 8) 4 true }, { o := .mv (.v 5) }, { o := .ca N.firing_Abort 0 [] [.l 2, .l 1, .l 0] }, { o := .mv (.l 0) }, { o := .ex (.l 0) 0 }, { o := .ex (.l 1) 1 }, { o := .al [.t (.int .i64 (0)), .t (.int .i64 (0)), .t (.int .i64 (0)), .t (.int .i64 (0))] [], d := some 24 }, { o := .st (.l 0) (.l 2) 4 [] }, { o := .mv (.l 2), d := some 25 }] []) (.seq (.reg [{ o := .ld (.v 7) 3 true }, { o := .ld (.v 8) 4 true }, { o := .mv (.v 5) }, { o := .ca N.ref34_Abort 0 [] [.l 2, .l 1, .l 0] }, { o := .mv (.l 0) }, { o := .ex (.l 0) 0 }, { o := .ex (.l 1) 1 }, { o := .al [.t (.int .i64 (0)), .t (.int .i64 (0)), .t (.int .i64 (0)), .t (.int .i64 (0))] [], d := some 26 }, { o := .st (.l 0) (.l 2) 4 [] }, { o := .mv (.l 2), d := some 27 }] []) (.seq (.reg [{ o := .ld (.v 12) 4 true }, { o := .ld (.v 14) 4 true }, { o := .eqk (.ints 4) false (.l 1) (.l 0) }, { o := .mv (.l 0) }, { o := .mv (.v 13), g := some (0, true) }, { o := .mv (.v 15), g := some (1, true) }, { o := .bin .eql (.l 1) (.l 0), g := some (2, true) }, { o := .pk (.l 3) (.l 0) (.b false) }, { o := .mv (.l 0) }, { o := .ld (.v 16) 4 true, g := some (0, true) }, { o := .ld (.v 18) 4 true, g := some (1, true) }, { o := .eqk (.ints 4) false (.l 1) (.l 0), g := some (2, true) }, { o := .pk (.l 3) (.l 0) (.b false) }, { o := .mv (.l 0) }, { o := .mv (.v 17), g := some (0, true) }, { o := .mv (.v 19), g := some (1, true) }, { o := .bin .eql (.l 1) (.l 0), g := some (2, true) }, { o := .pk (.l 3) (.l 0) (.b false) }, { o := .mv (.l 0) }, { o := .ld (.v 20) 4 true, g := some (0, true) }, { o := .ld (.v 22) 4 true, g := some (1, true) }, { o := .eqk (.ints 4) false (.l 1) (.l 0), g := some (2, true) }, { o := .pk (.l 3) (.l 0) (.b false) }, { o := .mv (.l 0) }, { o := .mv (.v 21), g := some (0, true) }, { o := .mv (.v 23), g := some (1, true) }, { o := .bin .eql (.l 1) (.l 0), g := some (2, true) }, { o := .pk (.l 3) (.l 0) (.b false) }, { o := .mv (.l 0) }, { o := .ld (.v 24) 4 true, g := some (0, true) }, { o := .ld (.v 26) 4 true, g := some (1, true) }, { o := .eqk (.ints 4) false (.l 1) (.l 0), g := some (2, true) }, { o := .pk (.l 3) (.l 0) (.b false) }, { o := .mv (.l 0) }, { o := .mv (.v 25), g := some (0, true) }, { o := .mv (.v 27), g := some (1, true) }, { o := .bin .eql (.l 1) (.l 0), g := some (2, true) }, { o := .pk (.l 3) (.l 0) (.b false) }, { o := .mv (.l 0) }, { o := .ld (.v 7) 3 true, g := some (0, true) }, { o := .ld (.v 8) 4 true, g := some (1, true) }, { o := .ca N.firing_Valid 0 [] [.l 1, .l 0], g := some (2, true) }, { o := .ld (.v 7) 3 true, g := some (3, true) }, { o := .ld (.v 8) 4 true, g := some (4, true) }, { o := .ca N.ref34_Valid 0 [] [.l 1, .l 0], g := some (5, true) }, { o := .eqk (.bool) false (.l 3) (.l 0), g := some (6, true) }, { o := .pk (.l 7) (.l 0) (.b false) }, { o := .mv (.l 0) }, { o := .ld (.v 7) 3 true, g := some (0, true) }, { o := .ld (.v 9) 3 true, g := some (1, true) }, { o := .ld (.v 10) 1 true, g := some (2, true) }, { o := .ca N.firing_Safe 0 [] [.l 2, .l 1, .l 0], g := some (3, true) }, { o := .ld (.v 7) 3 true, g := some (4, true) }, { o := .ld (.v 9) 3 true, g := some (5, true) }, { o := .ld (.v 10) 1 true, g := some (6, true) }, { o := .ca N.ref34_Safe 0 [] [.l 2, .l 1, .l 0], g := some (7, true) }, { o := .eqk (.bool) false (.l 4) (.l 0), g := some (8, true) }, { o := .pk (.l 9) (.l 0) (.b false) }, { o := .mv (.l 0) }, { o := .ld (.v 7) 3 true, g := some (0, true) }, { o := .ld (.v 8) 4 true, g := some (1, true) }, { o := .mv (.v 5), g := some (2, true) }, { o := .ca N.firing_Due 0 [] [.l 2, .l 1, .l 0], g := some (3, true) }, { o := .ld (.v 7) 3 true, g := some (4, true) }, { o := .ld (.v 8) 4 true, g := some (5, true) }, { o := .mv (.v 5), g := some (6, true) }, { o := .ca N.ref34_Due 0 [] [.l 2, .l 1, .l 0], g := some (7, true) }, { o := .bin .eql (.l 4) (.l 0), g := some (8, true) }, { o := .pk (.l 9) (.l 0) (.b false) }, { o := .mv (.l 0), d := some 11 }] [(42, 0), (43, 0), (52, 45), (53, 45), (54, 45), (63, 56), (64, 56)]) .ret)))))))))), res := [(11, none)] }
/-- /law34.ready -/
def law34_ready : Fn := { nargs := 0, vars := [0, 1, 2, 3], body := (.seq (.reg [{ o := .al [.nil, .t (.int .i64 (0)), .t (.int .i64 (0))] [], d := some 0 }, { o := .al [.nil, .nil, .t (.bool false)] [], d := some 1 }, { o := .al [.nil] [], d := some 2 }] []) (.seq (.reg [{ o := .bs [.i 0, .i 1099511627776] 1 }, { o := .bd [.t (.int .i64 (0)), .nil] [(1, 1, .l 0)] }, { o := .al [.t (.int .i64 (0)), .nil] [], d := some 3 }, { o := .st (.l 0) (.l 1) 2 [] }] []) (.seq (.reg [{ o := .bs [.i 1] 1 }, { o := .bd [.nil, .t (.int .i64 (0)), .t (.int .i64 (0))] [(0, 1, .l 0), (1, 1, .i 300), (2, 1, .i 1800)] }, { o := .bs [.i 0] 1 }, { o := .bs [.i 2] 1 }, { o := .bd [.nil, .nil, .t (.bool false)] [(0, 1, .l 1), (1, 1, .l 0), (2, 1, .b true)] }, { o := .bs [.i 1] 1 }, { o := .ld (.v 3) 2 true }, { o := .bs [.l 0] 2 }, { o := .bd [.nil, .nil] [(0, 1, .l 2), (1, 1, .l 0)] }, { o := .bs [.l 0] 2 }, { o := .bd [.nil] [(0, 1, .l 0)] }, { o := .st (.v 0) (.l 9) 3 [] }, { o := .st (.v 1) (.l 7) 3 [] }, { o := .st (.v 2) (.l 2) 1 [] }] [(0, 0), (2, 12), (3, 12), (5, 12), (5, 13), (6, 12), (6, 13), (7, 12), (7, 13), (9, 12), (9, 13)]) .ret))), res := [(0, some (3, true)), (1, some (3, true)), (2, some (1, true))] }
/-- /firing.Arm -/
def firing_Arm : Fn := { nargs := 6, vars := [0, 1, 2, 3, 4, 5, 6, 7, 8, 9, 12, 13, 14], body := (.seq (.reg [{ o := .bx (.v 0) 3, d := some 6 }, { o := .bx (.v 1) 4, d := some 7 }, { o := .bx (.v 2) 3, d := some 8 }, { o := .bx (.v 3) 1, d := some 9 }, { o := .al [.t (.int .i64 (0)), .t (.int .i64 (0)), .t (.int .i64 (0)), .t (.int .i64 (0))] [], d := some 10 }, { o := .mv (.i 0), d := some 11 }] []) (.seq (.seq (.reg [{ o := .ld (.v 6) 3 true }, { o := .ld (.v 7) 4 true }, { o := .ld (.v 8) 3 true }, { o := .ld (.v 9) 1 true }, { o := .mv (.v 5) }, { o := .bd [.nil, .t (.int .i64 (0)), .t (.int .i64 (0)), .t (.int .i64 (0)), .t (.int .i64 (0)), .t (.int .i64 (0)), .t (.int .i64 (0)), .nil, .nil, .t (.bool false), .nil, .t (.int .i64 (0)), .t (.int .i64 (0))] [(0, 3, .l 4), (3, 4, .l 3), (7, 3, .l 2), (10, 1, .l 1), (11, 1, .l 0), (12, 1, .i 0)] }, { o := .mv (.v 4) }, { o := .bin .leq (.l 0) (.i 0) }, { o := .ca N.firing_request_check 0 [] [.l 2, .l 0] }, { o := .mv (.l 0), d := some 12 }] []) (.ite [{ o := .mv (.v 12) }, { o := .bin .neq (.l 0) (.i 0) }] [] 0 (.seq (.reg [{ o := .ld (.v 7) 4 true }, { o := .mv (.v 12) }, { o := .st (.v 10) (.l 1) 4 [] }, { o := .mv (.l 1), d := some 11 }] []) .ret) .skip)) (.seq (.reg [{ o := .mv (.v 4) }, { o := .mv (.v 5) }, { o := .bd [.t (.int .i64 (0)), .t (.int .i64 (0)), .t (.int .i64 (0)), .t (.int .i64 (0))] [(0, 1, .i 1), (1, 1, .l 1), (3, 1, .l 0)] }, { o := .st (.v 10) (.l 0) 4 [] }, { o := .mv (.i 0), d := some 11 }] []) .ret))), res := [(10, some (4, true)), (11, none)] }
/-- /firing.Agree -/
def firing_Agree : Fn := { nargs := 6, vars := [0, 1, 2, 3, 4, 5, 6, 7, 8, 9, 12, 13, 14], body := (.seq (.reg [{ o := .bx (.v 0) 3, d := some 6 }, { o := .bx (.v 1) 4, d := some 7 }, { o := .bx (.v 2) 3, d := some 8 }, { o := .bx (.v 3) 1, d := some 9 }, { o := .al [.t (.int .i64 (0)), .t (.int .i64 (0)), .t (.int .i64 (0)), .t (.int .i64 (0))] [], d := some 10 }, { o := .mv (.i 0), d := some 11 }] []) (.seq (.seq (.reg [{ o := .ld (.v 6) 3 true }, { o := .ld (.v 7) 4 true }, { o := .ld (.v 8) 3 true }, { o := .ld (.v 9) 1 true }, { o := .mv (.v 5) }, { o := .bd [.nil, .t (.int .i64 (0)), .t (.int .i64 (0)), .t (.int .i64 (0)), .t (.int .i64 (0)), .t (.int .i64 (0)), .t (.int .i64 (0)), .nil, .nil, .t (.bool false), .nil, .t (.int .i64 (0)), .t (.int .i64 (0))] [(0, 3, .l 4), (3, 4, .l 3), (7, 3, .l 2), (10, 1, .l 1), (11, 1, .l 0), (12, 1, .i 1)] }, { o := .mv (.v 4) }, { o := .bin .leq (.l 0) (.i 0) }, { o := .mv (.l 0) }, { o := .mv (.v 4), g := some (0, false) }, { o := .fa (.v 7) 1, g := some (1, false) }, { o := .ld (.l 0) 1 false, g := some (2, false) }, { o := .bin .eql (.l 2) (.l 0), g := some (3, false) }, { o := .pk (.l 4) (.b true) (.l 0) }, { o := .ca N.firing_request_check 0 [] [.l 8, .l 0] }, { o := .mv (.l 0), d := some 12 }] []) (.ite [{ o := .mv (.v 12) }, { o := .bin .neq (.l 0) (.i 0) }] [] 0 (.seq (.reg [{ o := .ld (.v 7) 4 true }, { o := .mv (.v 12) }, { o := .st (.v 10) (.l 1) 4 [] }, { o := .mv (.l 1), d := some 11 }] []) .ret) .skip)) (.seq (.reg [{ o := .mv (.v 4) }, { o := .mv (.v 5) }, { o := .fa (.v 7) 0 }, { o := .st (.l 0) (.i 2) 1 [] }, { o := .fa (.v 7) 2 }, { o := .st (.l 0) (.l 4) 1 [] }, { o := .fa (.v 7) 3 }, { o := .st (.l 0) (.l 5) 1 [] }] []) (.seq (.reg [{ o := .ld (.v 7) 4 true }, { o := .st (.v 10) (.l 0) 4 [] }, { o := .mv (.i 0), d := some 11 }] []) .ret)))), res := [(10, some (4, true)), (11, none)] }
/-- /firing.Fire -/
def firing_Fire : Fn := { nargs := 6, vars := [0, 1, 2, 3, 4, 5, 6, 7, 8, 9, 12, 13, 14], body := (.seq (.reg [{ o := .bx (.v 0) 3, d := some 6 }, { o := .bx (.v 1) 4, d := some 7 }, { o := .bx (.v 2) 3, d := some 8 }, { o := .bx (.v 3) 1, d := some 9 }, { o := .al [.t (.int .i64 (0)), .t (.int .i64 (0)), .t (.int .i64 (0)), .t (.int .i64 (0))] [], d := some 10 }, { o := .mv (.i 0), d := some 11 }] []) (.seq (.seq (.reg [{ o := .ld (.v 6) 3 true }, { o := .ld (.v 7) 4 true }, { o := .ld (.v 8) 3 true }, { o := .ld (.v 9) 1 true }, { o := .mv (.v 4) }, { o := .bd [.nil, .t (.int .i64 (0)), .t (.int .i64 (0)), .t (.int .i64 (0)), .t (.int .i64 (0)), .t (.int .i64 (0)), .t (.int .i64 (0)), .nil, .nil, .t (.bool false), .nil, .t (.int .i64 (0)), .t (.int .i64 (0))] [(0, 3, .l 4), (3, 4, .l 3), (7, 3, .l 2), (10, 1, .l 1), (11, 1, .l 0), (12, 1, .i 2)] }, { o := .ca N.firing_request_check 0 [] [.l 0, .b false] }, { o := .mv (.l 0), d := some 12 }] []) (.ite [{ o := .mv (.v 12) }, { o := .bin .neq (.l 0) (.i 0) }] [] 0 (.seq (.reg [{ o := .ld (.v 7) 4 true }, { o := .mv (.v 12) }, { o := .st (.v 10) (.l 1) 4 [] }, { o := .mv (.l 1), d := some 11 }] []) .ret) .skip)) (.seq (.reg [{ o := .mv (.v 4) }, { o := .fa (.v 7) 0 }, { o := .st (.l 0) (.i 3) 1 [] }, { o := .fa (.v 7) 3 }, { o := .st (.l 0) (.l 3) 1 [] }] []) (.seq (.ite [{ o := .mv (.v 5) }] [] 0 (.reg [{ o := .fa (.v 7) 0 }, { o := .st (.l 0) (.i 4) 1 [] }] []) .skip) (.seq (.reg [{ o := .ld (.v 7) 4 true }, { o := .st (.v 10) (.l 0) 4 [] }, { o := .mv (.i 0), d := some 11 }] []) .ret))))), res := [(10, some (4, true)), (11, none)] }
/-- /firing.Abort -/
def firing_Abort : Fn := { nargs := 3, vars := [0, 1, 2, 3, 4, 6, 7], body := (.seq (.reg [{ o := .bx (.v 0) 3, d := some 3 }, { o := .bx (.v 1) 4, d := some 4 }, { o := .al [.t (.int .i64 (0)), .t (.int .i64 (0)), .t (.int .i64 (0)), .t (.int .i64 (0))] [], d := some 5 }, { o := .mv (.i 0), d := some 6 }] []) (.seq (.blk 0 (.ite [{ o := .ld (.v 3) 3 true }, { o := .ld (.v 4) 4 true }, { o := .ca N.firing_Valid 0 [] [.l 1, .l 0] }, { o := .un .not (.l 0) }, { o := .mv (.l 0) }] [] 0 (.seq (.reg [{ o := .ld (.v 4) 4 true }, { o := .st (.v 5) (.l 0) 4 [] }, { o := .mv (.i 6), d := some 6 }] []) .ret) (.ite [{ o := .fa (.v 4) 0 }, { o := .ld (.l 0) 1 false }, { o := .bin .eql (.l 0) (.i 0) }, { o := .mv (.l 0) }] [] 0 (.seq (.reg [{ o := .ld (.v 4) 4 true }, { o := .st (.v 5) (.l 0) 4 [] }, { o := .mv (.i 10), d := some 6 }] []) .ret) (.ite [{ o := .ld (.v 4) 4 true }, { o := .mv (.v 2) }, { o := .ca N.firing_timely 0 [] [.l 1, .l 0] }, { o := .un .not (.l 0) }, { o := .mv (.l 0) }] [] 0 (.seq (.reg [{ o := .ld (.v 4) 4 true }, { o := .st (.v 5) (.l 0) 4 [] }, { o := .mv (.i 8), d := some 6 }] []) .ret) (.ite [{ o := .fa (.v 4) 0 }, { o := .ld (.l 0) 1 false }, { o := .bin .eql (.l 0) (.i 4) }, { o := .mv (.l 0) }, { o := .mv (.v 2), g := some (0, true) }, { o := .fa (.v 4) 3, g := some (1, true) }, { o := .ld (.l 0) 1 false, g := some (2, true) }, { o := .bin .sub (.l 2) (.l 0), g := some (3, true) }, { o := .fa (.v 3) 2, g := some (4, true) }, { o := .ld (.l 0) 1 false, g := some (5, true) }, { o := .bin .lss (.l 2) (.l 0), g := some (6, true) }, { o := .pk (.l 7) (.l 0) (.b false) }, { o := .mv (.l 0) }] [] 0 (.seq (.reg [{ o := .ld (.v 4) 4 true }, { o := .st (.v 5) (.l 0) 4 [] }, { o := .mv (.i 10), d := some 6 }] []) .ret) .skip))))) (.seq (.reg [{ o := .bd [.t (.int .i64 (0)), .t (.int .i64 (0)), .t (.int .i64 (0)), .t (.int .i64 (0))] [] }, { o := .st (.v 5) (.l 0) 4 [] }, { o := .mv (.i 0), d := some 6 }] []) .ret))), res := [(5, some (4, true)), (6, none)] }
/-- /firing.Valid -/
def firing_Valid : Fn := { nargs := 2, vars := [0, 1, 2, 3, 4, 34, 50], body := (.seq (.reg [{ o := .bx (.v 0) 3, d := some 2 }, { o := .bx (.v 1) 4, d := some 3 }, { o := .mv (.b false), d := some 4 }] []) (.seq (.ite [{ o := .fa (.v 2) 0 }, { o := .ld (.l 0) 1 false }, { o := .ln (.l 0) }, { o := .bin .eql (.l 0) (.i 0) }, { o := .mv (.l 0) }, { o := .fa (.v 2) 0, g := some (0, false) }, { o := .ld (.l 0) 1 false, g := some (1, false) }, { o := .ca N.lists_Rising 0 [] [.l 0, .i 0, .i 63], g := some (2, false) }, { o := .un .not (.l 0), g := some (3, false) }, { o := .pk (.l 4) (.b true) (.l 0) }, { o := .mv (.l 0) }, { o := .fa (.v 2) 1, g := some (0, false) }, { o := .ld (.l 0) 1 false, g := some (1, false) }, { o := .ca N.lists_In 0 [] [.l 0, .i 1, .i 100000], g := some (2, false) }, { o := .un .not (.l 0), g := some (3, false) }, { o := .pk (.l 4) (.b true) (.l 0) }, { o := .mv (.l 0) }, { o := .fa (.v 2) 2, g := some (0, false) }, { o := .ld (.l 0) 1 false, g := some (1, false) }, { o := .ca N.lists_In 0 [] [.l 0, .i 1, .i 100000], g := some (2, false) }, { o := .un .not (.l 0), g := some (3, false) }, { o := .pk (.l 4) (.b true) (.l 0) }, { o := .mv (.l 0) }, { o := .fa (.v 3) 3, g := some (0, false) }, { o := .ld (.l 0) 1 false, g := some (1, false) }, { o := .ca N.lists_In 0 [] [.l 0, .i 0, .i 2147483648], g := some (2, false) }, { o := .un .not (.l 0), g := some (3, false) }, { o := .pk (.l 4) (.b true) (.l 0) }] [] 0 (.seq (.reg [{ o := .mv (.b false), d := some 4 }] []) .ret) .skip) (.seq (.seq (.reg [{ o := .fa (.v 3) 0 }, { o := .ld (.l 0) 1 false, d := some 5 }] []) (.blk 0 (.ite [{ o := .bin .eql (.v 5) (.i 0) }, { o := .mv (.l 0) }] [] 0 (.seq (.reg [{ o := .ld (.v 3) 4 true }, { o := .bd [.t (.int .i64 (0)), .t (.int .i64 (0)), .t (.int .i64 (0)), .t (.int .i64 (0))] [] }, { o := .eqk (.ints 4) false (.l 1) (.l 0) }, { o := .mv (.l 0), d := some 4 }] []) .ret) (.ite [{ o := .bin .eql (.v 5) (.i 1) }, { o := .mv (.l 0) }] [] 0 (.seq (.reg [{ o := .fa (.v 3) 1 }, { o := .ld (.l 0) 1 false }, { o := .bin .gtr (.l 0) (.i 0) }, { o := .mv (.l 0) }, { o := .fa (.v 3) 2, g := some (0, true) }, { o := .ld (.l 0) 1 false, g := some (1, true) }, { o := .bin .eql (.l 0) (.i 0), g := some (2, true) }, { o := .pk (.l 3) (.l 0) (.b false) }, { o := .mv (.l 0), d := some 4 }] []) .ret) (.seq (.seq (.reg [{ o := .bin .eql (.v 5) (.i 2) }, { o := .mv (.l 0), d := some 6 }] []) (.itv 6 .skip (.seq (.reg [{ o := .bin .eql (.v 5) (.i 3) }, { o := .mv (.l 0), d := some 6 }] []) (.itv 6 .skip (.reg [{ o := .bin .eql (.v 5) (.i 4) }, { o := .mv (.l 0), d := some 6 }] []))))) (.itv 6 (.seq (.reg [{ o := .fa (.v 3) 1 }, { o := .ld (.l 0) 1 false }, { o := .bin .gtr (.l 0) (.i 0) }, { o := .mv (.l 0) }, { o := .fa (.v 3) 2, g := some (0, true) }, { o := .ld (.l 0) 1 false, g := some (1, true) }, { o := .bin .gtr (.l 0) (.i 0), g := some (2, true) }, { o := .pk (.l 3) (.l 0) (.b false) }, { o := .mv (.l 0) }, { o := .fa (.v 3) 1, g := some (0, true) }, { o := .ld (.l 0) 1 false, g := some (1, true) }, { o := .fa (.v 3) 2, g := some (2, true) }, { o := .ld (.l 0) 1 false, g := some (3, true) }, { o := .bin .neq (.l 2) (.l 0), g := some (4, true) }, { o := .pk (.l 5) (.l 0) (.b false) }, { o := .mv (.l 0), d := some 4 }] []) .ret) .skip)))))) (.seq (.reg [{ o := .mv (.b false), d := some 4 }] []) .ret)))), res := [(4, none)] }
/-- /firing.Due -/
def firing_Due : Fn := { nargs := 3, vars := [0, 1, 2, 3, 4, 6, 18, 19], body := (.seq (.reg [{ o := .bx (.v 0) 3, d := some 3 }, { o := .bx (.v 1) 4, d := some 4 }, { o := .mv (.i 0), d := some 5 }] []) (.seq (.ite [{ o := .ld (.v 3) 3 true }, { o := .ld (.v 4) 4 true }, { o := .ca N.firing_Valid 0 [] [.l 1, .l 0] }, { o := .un .not (.l 0) }, { o := .mv (.l 0) }, { o := .mv (.v 2), g := some (0, false) }, { o := .fa (.v 4) 3, g := some (1, false) }, { o := .ld (.l 0) 1 false, g := some (2, false) }, { o := .bin .lss (.l 2) (.l 0), g := some (3, false) }, { o := .pk (.l 4) (.b true) (.l 0) }] [] 0 (.seq (.reg [{ o := .mv (.i 0), d := some 5 }] []) .ret) .skip) (.seq (.seq (.reg [{ o := .fa (.v 4) 0 }, { o := .ld (.l 0) 1 false, d := some 6 }] []) (.blk 0 (.seq (.seq (.reg [{ o := .bin .eql (.v 6) (.i 1) }, { o := .mv (.l 0), d := some 7 }] []) (.itv 7 .skip (.reg [{ o := .bin .eql (.v 6) (.i 2) }, { o := .mv (.l 0), d := some 7 }] []))) (.itv 7 (.seq (.reg [{ o := .fa (.v 3) 1 }, { o := .ld (.l 0) 1 false }, { o := .mv (.v 2) }, { o := .fa (.v 4) 3 }, { o := .ld (.l 0) 1 false }, { o := .bin .sub (.l 2) (.l 0) }, { o := .bin .sub (.l 4) (.l 0) }, { o := .mx [.i 0, .l 0] }, { o := .mv (.l 0), d := some 5 }] []) .ret) (.ite [{ o := .bin .eql (.v 6) (.i 4) }, { o := .mv (.l 0) }] [] 0 (.seq (.reg [{ o := .fa (.v 3) 2 }, { o := .ld (.l 0) 1 false }, { o := .mv (.v 2) }, { o := .fa (.v 4) 3 }, { o := .ld (.l 0) 1 false }, { o := .bin .sub (.l 2) (.l 0) }, { o := .bin .sub (.l 4) (.l 0) }, { o := .mx [.i 0, .l 0] }, { o := .mv (.l 0), d := some 5 }] []) .ret) .skip))))) (.seq (.reg [{ o := .mv (.i 0), d := some 5 }] []) .ret)))), res := [(5, none)] }
def ref32_Border_l1b : C := (.seq (.ite [{ o := .mv (.v 5) }, { o := .fa (.v 2) 1 }, { o := .ld (.l 0) 1 false }, { o := .ln (.l 0) }, { o := .bin .lss (.l 3) (.l 0) }] [] 0 .skip (.exit 0)) (.seq (.blk 1 (.seq (.reg [{ o := .fa (.v 2) 1 }, { o := .ld (.l 0) 1 false }, { o := .mv (.v 5) }, { o := .ia (.l 1) (.l 0) 10 }, { o := .ld (.l 0) 10 true }, { o := .al [.t (.int .i64 (0)), .t (.int .i64 (0)), .t (.int .i64 (0)), .t (.int .i64 (0)), .t (.bool false), .t (.bool false), .t (.int .i64 (0)), .t (.int .i64 (0)), .t (.int .i64 (0)), .t (.int .i64 (0))] [], d := some 6 }, { o := .st (.l 0) (.l 1) 10 [] }] []) (.seq (.reg [{ o := .ld (.v 2) 2 true }, { o := .mv (.v 5) }, { o := .ca N.ref03_Time 0 [] [.l 1, .l 0, .b false] }, { o := .bin .geq (.l 0) (.i 0) }, { o := .mv (.l 0) }, { o := .ld (.v 2) 2 true, g := some (0, false) }, { o := .mv (.v 5), g := some (1, false) }, { o := .ca N.ref03_Time 0 [] [.l 1, .l 0, .b true], g := some (2, false) }, { o := .bin .geq (.l 0) (.i 0), g := some (3, false) }, { o := .pk (.l 4) (.b true) (.l 0) }, { o := .mv (.l 0), d := some 7 }] []) (.ite [{ o := .fa (.v 6) 5 }, { o := .ld (.l 0) 1 false }, { o := .un .not (.l 0) }, { o := .mv (.l 0) }, { o := .mv (.v 7), g := some (0, true) }, { o := .pk (.l 1) (.l 0) (.b false) }, { o := .mv (.l 0) }, { o := .mv (.v 1), g := some (0, true) }, { o := .fa (.v 6) 0, g := some (1, true) }, { o := .ld (.l 0) 1 false, g := some (2, true) }, { o := .ca N.ref23_Has 0 [] [.l 2, .l 0], g := some (3, true) }, { o := .mv (.v 1), g := some (4, true) }, { o := .fa (.v 6) 1, g := some (5, true) }, { o := .ld (.l 0) 1 false, g := some (6, true) }, { o := .ca N.ref23_Has 0 [] [.l 2, .l 0], g := some (7, true) }, { o := .eqk (.bool) true (.l 4) (.l 0), g := some (8, true) }, { o := .pk (.l 9) (.l 0) (.b false) }] [(13, 0)] 0 (.reg [{ o := .mv (.v 4) }, { o := .mv (.v 5) }, { o := .bs [.l 0] 1 }, { o := .app (.l 2) (.l 0) true 1 }, { o := .mv (.l 0), d := some 4 }] []) .skip)))) (.reg [{ o := .mv (.v 5) }, { o := .bin .add (.l 0) (.i 1) }, { o := .mv (.l 0), d := some 5 }] [])))
def ref32_Border_l1 : C := .loop true [0, 3, 6, 7] K.ref32_Border_l1b
/-- /ref32.Border -/
def ref32_Border : Fn := { nargs := 2, vars := [0, 1, 2, 4, 5, 6, 7, 8], body := (.seq (.reg [{ o := .bx (.v 0) 2, d := some 2 }, { o := .mv (.c (.nil)), d := some 3 }] []) (.seq (.reg [{ o := .nw 1, d := some 4 }] []) (.seq (.seq (.reg [{ o := .mv (.i 0), d := some 5 }] []) (.blk 0 K.ref32_Border_l1)) (.seq (.reg [{ o := .mv (.v 4) }, { o := .mv (.l 0), d := some 3 }] []) .ret)))), res := [(3, none)] }
def ref32_Seal_l2b : C := (.seq (.ite [{ o := .mv (.v 12) }, { o := .fa (.v 10) 0 }, { o := .ld (.l 0) 1 false }, { o := .mv (.v 11) }, { o := .ia (.l 1) (.l 0) 2 }, { o := .fa (.l 0) 1 }, { o := .ld (.l 0) 1 false }, { o := .ln (.l 0) }, { o := .bin .lss (.l 7) (.l 0) }] [] 0 .skip (.exit 2)) (.seq (.blk 3 (.seq (.reg [{ o := .fa (.v 10) 0 }, { o := .ld (.l 0) 1 false }, { o := .mv (.v 11) }, { o := .ia (.l 1) (.l 0) 2 }, { o := .fa (.l 0) 1 }, { o := .ld (.l 0) 1 false }, { o := .mv (.v 12) }, { o := .ia (.l 1) (.l 0) 2 }, { o := .ld (.l 0) 2 true }, { o := .al [.t (.int .i64 (0)), .nil] [], d := some 13 }, { o := .st (.l 0) (.l 1) 2 [] }] []) (.seq (.ite [{ o := .mv (.v 3) }, { o := .fa (.v 13) 0 }, { o := .ld (.l 0) 1 false }, { o := .bin .lss (.l 2) (.l 0) }, { o := .mv (.l 0) }, { o := .mv (.v 3), g := some (0, false) }, { o := .bin .gtr (.l 0) (.i 2147483648), g := some (1, false) }, { o := .pk (.l 2) (.b true) (.l 0) }] [] 0 (.seq (.reg [{ o := .ld (.v 5) 1 true }, { o := .st (.v 6) (.l 0) 1 [] }, { o := .mv (.i 8), d := some 7 }] []) .ret) .skip) (.reg [{ o := .fa (.v 10) 0 }, { o := .ld (.l 0) 1 false }, { o := .mv (.v 11) }, { o := .ia (.l 1) (.l 0) 2 }, { o := .fa (.l 0) 1 }, { o := .ld (.l 0) 1 false }, { o := .mv (.v 12) }, { o := .ld (.v 8) 2 true }, { o := .ld (.v 13) 2 true }, { o := .mv (.v 3) }, { o := .ca N.ref32_seal 0 [] [.l 2, .l 1, .l 0] }, { o := .ia (.l 5) (.l 4) 2 }, { o := .st (.l 0) (.l 1) 2 [] }] [(1, 11), (3, 11), (5, 11)])))) (.reg [{ o := .mv (.v 12) }, { o := .bin .add (.l 0) (.i 1) }, { o := .mv (.l 0), d := some 12 }] [])))
def ref32_Seal_l2 : C := .loop false [0, 1, 2, 4, 7, 9, 13] K.ref32_Seal_l2b
def ref32_Seal_l1b : C := (.seq (.ite [{ o := .mv (.v 11) }, { o := .fa (.v 10) 0 }, { o := .ld (.l 0) 1 false }, { o := .ln (.l 0) }, { o := .bin .lss (.l 3) (.l 0) }] [] 0 .skip (.exit 0)) (.seq (.blk 1 (.seq (.reg [{ o := .mv (.i 0), d := some 12 }] []) (.blk 2 K.ref32_Seal_l2))) (.reg [{ o := .mv (.v 11) }, { o := .bin .add (.l 0) (.i 1) }, { o := .mv (.l 0), d := some 11 }] [])))
def ref32_Seal_l1 : C := .loop false [0, 1, 2, 4, 7, 9, 12, 13] K.ref32_Seal_l1b
/-- /ref32.Seal -/
def ref32_Seal : Fn := { nargs := 4, vars := [0, 1, 2, 3, 4, 5, 8, 9, 10, 11, 12, 13, 14, 15], body := (.seq (.reg [{ o := .bx (.v 0) 2, d := some 4 }, { o := .bx (.v 1) 1, d := some 5 }, { o := .al [.nil] [], d := some 6 }, { o := .mv (.i 0), d := some 7 }] []) (.seq (.reg [{ o := .ld (.v 5) 1 true }, { o := .ca N.ref26_Copy_v1 2 [] [.l 0] }, { o := .st (.v 5) (.l 0) 1 [] }] []) (.seq (.ite [{ o := .ld (.v 4) 2 true }, { o := .ld (.v 5) 1 true }, { o := .ca N.ref26_Valid 0 [] [.l 1, .l 0] }, { o := .un .not (.l 0) }] [] 0 (.seq (.reg [{ o := .ld (.v 5) 1 true }, { o := .st (.v 6) (.l 0) 1 [] }, { o := .mv (.i 6), d := some 7 }] []) .ret) .skip) (.seq (.reg [{ o := .ld (.v 4) 2 true }, { o := .mv (.v 2) }, { o := .ca N.ref32_Barred 0 [] [.l 1, .l 0] }, { o := .mv (.l 0) }, { o := .ex (.l 0) 0 }, { o := .ex (.l 1) 1 }, { o := .al [.nil, .nil] [], d := some 8 }, { o := .st (.l 0) (.l 2) 2 [] }, { o := .mv (.l 2), d := some 9 }] []) (.seq (.ite [{ o := .mv (.v 9) }, { o := .bin .neq (.l 0) (.i 0) }] [] 0 (.seq (.reg [{ o := .ld (.v 5) 1 true }, { o := .mv (.v 9) }, { o := .st (.v 6) (.l 1) 1 [] }, { o := .mv (.l 1), d := some 7 }] []) .ret) .skip) (.seq (.reg [{ o := .ld (.v 5) 1 true }, { o := .ca N.ref26_Copy_v1 2 [] [.l 0] }, { o := .al [.nil] [], d := some 10 }, { o := .st (.l 0) (.l 1) 1 [] }] []) (.seq (.seq (.reg [{ o := .mv (.i 0), d := some 11 }] []) (.blk 0 K.ref32_Seal_l1)) (.seq (.reg [{ o := .fa (.v 10) 0 }, { o := .ld (.l 0) 1 false }, { o := .ca N.ref26_Tidy 0 [] [.l 0] }, { o := .fa (.v 10) 0 }, { o := .st (.l 0) (.l 1) 1 [] }] []) (.seq (.reg [{ o := .ld (.v 10) 1 true }, { o := .st (.v 6) (.l 0) 1 [] }, { o := .mv (.i 0), d := some 7 }] []) .ret))))))))), res := [(6, some (1, true)), (7, none)] }
def made_Last_l2b : C := (.seq (.ite [{ o := .mv (.v 5) }, { o := .fa (.v 1) 0 }, { o := .ld (.l 0) 1 false }, { o := .mv (.v 4) }, { o := .ia (.l 1) (.l 0) 2 }, { o := .fa (.l 0) 1 }, { o := .ld (.l 0) 1 false }, { o := .ln (.l 0) }, { o := .bin .lss (.l 7) (.l 0) }] [] 0 .skip (.exit 2)) (.seq (.blk 3 (.reg [{ o := .mv (.v 3) }, { o := .fa (.v 1) 0 }, { o := .ld (.l 0) 1 false }, { o := .mv (.v 4) }, { o := .ia (.l 1) (.l 0) 2 }, { o := .fa (.l 0) 1 }, { o := .ld (.l 0) 1 false }, { o := .mv (.v 5) }, { o := .ia (.l 1) (.l 0) 2 }, { o := .fa (.l 0) 0 }, { o := .ld (.l 0) 1 false }, { o := .mx [.l 10, .l 0] }, { o := .mv (.l 0), d := some 3 }] [])) (.reg [{ o := .mv (.v 5) }, { o := .bin .add (.l 0) (.i 1) }, { o := .mv (.l 0), d := some 5 }] [])))
def made_Last_l2 : C := .loop true [0, 2] K.made_Last_l2b
def made_Last_l1b : C := (.seq (.ite [{ o := .mv (.v 4) }, { o := .fa (.v 1) 0 }, { o := .ld (.l 0) 1 false }, { o := .ln (.l 0) }, { o := .bin .lss (.l 3) (.l 0) }] [] 0 .skip (.exit 0)) (.seq (.blk 1 (.seq (.reg [{ o := .mv (.i 0), d := some 5 }] []) (.blk 2 K.made_Last_l2))) (.reg [{ o := .mv (.v 4) }, { o := .bin .add (.l 0) (.i 1) }, { o := .mv (.l 0), d := some 4 }] [])))
def made_Last_l1 : C := .loop true [0, 2, 5] K.made_Last_l1b
/-- /made.Last -/
def made_Last : Fn := { nargs := 1, vars := [0, 1, 2, 3, 4, 5], body := (.seq (.reg [{ o := .bx (.v 0) 1, d := some 1 }, { o := .mv (.i 0), d := some 2 }] []) (.seq (.reg [{ o := .mv (.i 0), d := some 3 }] []) (.seq (.seq (.reg [{ o := .mv (.i 0), d := some 4 }] []) (.blk 0 K.made_Last_l1)) (.seq (.reg [{ o := .mv (.v 3) }, { o := .mv (.l 0), d := some 2 }] []) .ret)))), res := [(2, none)] }
/-- /ref34.Arm -/
def ref34_Arm : Fn := { nargs := 6, vars := [0, 1, 2, 3, 4, 5, 6, 7, 8, 9, 12, 13, 14], body := (.seq (.reg [{ o := .bx (.v 0) 3, d := some 6 }, { o := .bx (.v 1) 4, d := some 7 }, { o := .bx (.v 2) 3, d := some 8 }, { o := .bx (.v 3) 1, d := some 9 }, { o := .al [.t (.int .i64 (0)), .t (.int .i64 (0)), .t (.int .i64 (0)), .t (.int .i64 (0))] [], d := some 10 }, { o := .mv (.i 0), d := some 11 }] []) (.seq (.seq (.reg [{ o := .ld (.v 6) 3 true }, { o := .ld (.v 7) 4 true }, { o := .ld (.v 8) 3 true }, { o := .ld (.v 9) 1 true }, { o := .mv (.v 4) }, { o := .mv (.v 5) }, { o := .ca N.ref34_step 0 [] [.l 5, .l 4, .l 3, .l 2, .i 0, .l 1, .l 0] }, { o := .mv (.l 0), d := some 12 }] []) (.ite [{ o := .mv (.v 12) }, { o := .bin .neq (.l 0) (.i 0) }] [] 0 (.seq (.reg [{ o := .ld (.v 7) 4 true }, { o := .mv (.v 12) }, { o := .st (.v 10) (.l 1) 4 [] }, { o := .mv (.l 1), d := some 11 }] []) .ret) .skip)) (.seq (.reg [{ o := .mv (.v 4) }, { o := .mv (.v 5) }, { o := .bd [.t (.int .i64 (0)), .t (.int .i64 (0)), .t (.int .i64 (0)), .t (.int .i64 (0))] [(0, 1, .i 1), (1, 1, .l 1), (3, 1, .l 0)] }, { o := .st (.v 10) (.l 0) 4 [] }, { o := .mv (.i 0), d := some 11 }] []) .ret))), res := [(10, some (4, true)), (11, none)] }
/-- /ref34.Agree -/
def ref34_Agree : Fn := { nargs := 6, vars := [0, 1, 2, 3, 4, 5, 6, 7, 8, 9, 12, 13, 14], body := (.seq (.reg [{ o := .bx (.v 0) 3, d := some 6 }, { o := .bx (.v 1) 4, d := some 7 }, { o := .bx (.v 2) 3, d := some 8 }, { o := .bx (.v 3) 1, d := some 9 }, { o := .al [.t (.int .i64 (0)), .t (.int .i64 (0)), .t (.int .i64 (0)), .t (.int .i64 (0))] [], d := some 10 }, { o := .mv (.i 0), d := some 11 }] []) (.seq (.seq (.reg [{ o := .ld (.v 6) 3 true }, { o := .ld (.v 7) 4 true }, { o := .ld (.v 8) 3 true }, { o := .ld (.v 9) 1 true }, { o := .mv (.v 4) }, { o := .mv (.v 5) }, { o := .ca N.ref34_step 0 [] [.l 5, .l 4, .l 3, .l 2, .i 1, .l 1, .l 0] }, { o := .mv (.l 0), d := some 12 }] []) (.ite [{ o := .mv (.v 12) }, { o := .bin .neq (.l 0) (.i 0) }] [] 0 (.seq (.reg [{ o := .ld (.v 7) 4 true }, { o := .mv (.v 12) }, { o := .st (.v 10) (.l 1) 4 [] }, { o := .mv (.l 1), d := some 11 }] []) .ret) .skip)) (.seq (.reg [{ o := .fa (.v 7) 1 }, { o := .ld (.l 0) 1 false }, { o := .mv (.v 4) }, { o := .mv (.v 5) }, { o := .bd [.t (.int .i64 (0)), .t (.int .i64 (0)), .t (.int .i64 (0)), .t (.int .i64 (0))] [(0, 1, .i 2), (1, 1, .l 2), (2, 1, .l 1), (3, 1, .l 0)] }, { o := .st (.v 10) (.l 0) 4 [] }, { o := .mv (.i 0), d := some 11 }] []) .ret))), res := [(10, some (4, true)), (11, none)] }
/-- /ref34.Fire -/
def ref34_Fire : Fn := { nargs := 6, vars := [0, 1, 2, 3, 4, 5, 6, 7, 8, 9, 12, 13, 14], body := (.seq (.reg [{ o := .bx (.v 0) 3, d := some 6 }, { o := .bx (.v 1) 4, d := some 7 }, { o := .bx (.v 2) 3, d := some 8 }, { o := .bx (.v 3) 1, d := some 9 }, { o := .al [.t (.int .i64 (0)), .t (.int .i64 (0)), .t (.int .i64 (0)), .t (.int .i64 (0))] [], d := some 10 }, { o := .mv (.i 0), d := some 11 }] []) (.seq (.seq (.reg [{ o := .ld (.v 6) 3 true }, { o := .ld (.v 7) 4 true }, { o := .ld (.v 8) 3 true }, { o := .ld (.v 9) 1 true }, { o := .mv (.v 4) }, { o := .ca N.ref34_step 0 [] [.l 4, .l 3, .l 2, .l 1, .i 2, .i 1, .l 0] }, { o := .mv (.l 0), d := some 12 }] []) (.ite [{ o := .mv (.v 12) }, { o := .bin .neq (.l 0) (.i 0) }] [] 0 (.seq (.reg [{ o := .ld (.v 7) 4 true }, { o := .mv (.v 12) }, { o := .st (.v 10) (.l 1) 4 [] }, { o := .mv (.l 1), d := some 11 }] []) .ret) .skip)) (.seq (.reg [{ o := .mv (.v 4) }, { o := .fa (.v 7) 0 }, { o := .st (.l 0) (.i 3) 1 [] }, { o := .fa (.v 7) 3 }, { o := .st (.l 0) (.l 3) 1 [] }] []) (.seq (.ite [{ o := .mv (.v 5) }] [] 0 (.reg [{ o := .fa (.v 7) 0 }, { o := .st (.l 0) (.i 4) 1 [] }] []) .skip) (.seq (.reg [{ o := .ld (.v 7) 4 true }, { o := .st (.v 10) (.l 0) 4 [] }, { o := .mv (.i 0), d := some 11 }] []) .ret))))), res := [(10, some (4, true)), (11, none)] }
/-- /ref34.Abort -/
def ref34_Abort : Fn := { nargs := 3, vars := [0, 1, 2, 3, 4, 6, 7], body := (.seq (.reg [{ o := .bx (.v 0) 3, d := some 3 }, { o := .bx (.v 1) 4, d := some 4 }, { o := .al [.t (.int .i64 (0)), .t (.int .i64 (0)), .t (.int .i64 (0)), .t (.int .i64 (0))] [], d := some 5 }, { o := .mv (.i 0), d := some 6 }] []) (.seq (.blk 0 (.ite [{ o := .ld (.v 3) 3 true }, { o := .ld (.v 4) 4 true }, { o := .ca N.ref34_Valid 0 [] [.l 1, .l 0] }, { o := .un .not (.l 0) }, { o := .mv (.l 0) }] [] 0 (.seq (.reg [{ o := .ld (.v 4) 4 true }, { o := .st (.v 5) (.l 0) 4 [] }, { o := .mv (.i 6), d := some 6 }] []) .ret) (.ite [{ o := .fa (.v 4) 0 }, { o := .ld (.l 0) 1 false }, { o := .bin .eql (.l 0) (.i 0) }, { o := .mv (.l 0) }] [] 0 (.seq (.reg [{ o := .ld (.v 4) 4 true }, { o := .st (.v 5) (.l 0) 4 [] }, { o := .mv (.i 10), d := some 6 }] []) .ret) (.ite [{ o := .mv (.v 2) }, { o := .bin .lss (.l 0) (.i 0) }, { o := .mv (.l 0) }, { o := .mv (.v 2), g := some (0, false) }, { o := .bin .gtr (.l 0) (.i 2147483648), g := some (1, false) }, { o := .pk (.l 2) (.b true) (.l 0) }, { o := .mv (.l 0) }, { o := .mv (.v 2), g := some (0, false) }, { o := .fa (.v 4) 3, g := some (1, false) }, { o := .ld (.l 0) 1 false, g := some (2, false) }, { o := .bin .lss (.l 2) (.l 0), g := some (3, false) }, { o := .pk (.l 4) (.b true) (.l 0) }, { o := .mv (.l 0) }] [] 0 (.seq (.reg [{ o := .ld (.v 4) 4 true }, { o := .st (.v 5) (.l 0) 4 [] }, { o := .mv (.i 8), d := some 6 }] []) .ret) (.ite [{ o := .fa (.v 4) 0 }, { o := .ld (.l 0) 1 false }, { o := .bin .eql (.l 0) (.i 4) }, { o := .mv (.l 0) }, { o := .mv (.v 2), g := some (0, true) }, { o := .fa (.v 4) 3, g := some (1, true) }, { o := .ld (.l 0) 1 false, g := some (2, true) }, { o := .bin .sub (.l 2) (.l 0), g := some (3, true) }, { o := .fa (.v 3) 2, g := some (4, true) }, { o := .ld (.l 0) 1 false, g := some (5, true) }, { o := .bin .lss (.l 2) (.l 0), g := some (6, true) }, { o := .pk (.l 7) (.l 0) (.b false) }, { o := .mv (.l 0) }] [] 0 (.seq (.reg [{ o := .ld (.v 4) 4 true }, { o := .st (.v 5) (.l 0) 4 [] }, { o := .mv (.i 10), d := some 6 }] []) .ret) .skip))))) (.seq (.reg [{ o := .bd [.t (.int .i64 (0)), .t (.int .i64 (0)), .t (.int .i64 (0)), .t (.int .i64 (0))] [] }, { o := .st (.v 5) (.l 0) 4 [] }, { o := .mv (.i 0), d := some 6 }] []) .ret))), res := [(5, some (4, true)), (6, none)] }
end Go.Ev.K
namespace Go.Ev
class Has3 [Lib] : Prop where
  t_law34_FiringRaw : Lib.fs N.law34_FiringRaw = some K.law34_FiringRaw
  t_law34_FiringMade : Lib.fs N.law34_FiringMade = some K.law34_FiringMade
  t_law34_FiringNeeds : Lib.fs N.law34_FiringNeeds = some K.law34_FiringNeeds
  t_law34_awake : Lib.fs N.law34_awake = some K.law34_awake
  t_made_Dice_Ints : Lib.fs N.made_Dice_Ints = some K.made_Dice_Ints
  t_law34_scene : Lib.fs N.law34_scene = some K.law34_scene
  t_law34_agree : Lib.fs N.law34_agree = some K.law34_agree
  t_law34_ready : Lib.fs N.law34_ready = some K.law34_ready
  t_firing_Arm : Lib.fs N.firing_Arm = some K.firing_Arm
  t_firing_Agree : Lib.fs N.firing_Agree = some K.firing_Agree
  t_firing_Fire : Lib.fs N.firing_Fire = some K.firing_Fire
  t_firing_Abort : Lib.fs N.firing_Abort = some K.firing_Abort
  t_firing_Valid : Lib.fs N.firing_Valid = some K.firing_Valid
  t_firing_Due : Lib.fs N.firing_Due = some K.firing_Due
  t_ref32_Border : Lib.fs N.ref32_Border = some K.ref32_Border
  t_ref32_Seal : Lib.fs N.ref32_Seal = some K.ref32_Seal
  t_made_Last : Lib.fs N.made_Last = some K.made_Last
  t_ref34_Arm : Lib.fs N.ref34_Arm = some K.ref34_Arm
  t_ref34_Agree : Lib.fs N.ref34_Agree = some K.ref34_Agree
  t_ref34_Fire : Lib.fs N.ref34_Fire = some K.ref34_Fire
  t_ref34_Abort : Lib.fs N.ref34_Abort = some K.ref34_Abort
namespace K
variable [Lib] [Has3]
theorem t_law34_FiringRaw : Lib.fs N.law34_FiringRaw = some K.law34_FiringRaw := Has3.t_law34_FiringRaw
theorem t_law34_FiringMade : Lib.fs N.law34_FiringMade = some K.law34_FiringMade := Has3.t_law34_FiringMade
theorem t_law34_FiringNeeds : Lib.fs N.law34_FiringNeeds = some K.law34_FiringNeeds := Has3.t_law34_FiringNeeds
theorem t_law34_awake : Lib.fs N.law34_awake = some K.law34_awake := Has3.t_law34_awake
theorem t_made_Dice_Ints : Lib.fs N.made_Dice_Ints = some K.made_Dice_Ints := Has3.t_made_Dice_Ints
theorem t_law34_scene : Lib.fs N.law34_scene = some K.law34_scene := Has3.t_law34_scene
theorem t_law34_agree : Lib.fs N.law34_agree = some K.law34_agree := Has3.t_law34_agree
theorem t_law34_ready : Lib.fs N.law34_ready = some K.law34_ready := Has3.t_law34_ready
theorem t_firing_Arm : Lib.fs N.firing_Arm = some K.firing_Arm := Has3.t_firing_Arm
theorem t_firing_Agree : Lib.fs N.firing_Agree = some K.firing_Agree := Has3.t_firing_Agree
theorem t_firing_Fire : Lib.fs N.firing_Fire = some K.firing_Fire := Has3.t_firing_Fire
theorem t_firing_Abort : Lib.fs N.firing_Abort = some K.firing_Abort := Has3.t_firing_Abort
theorem t_firing_Valid : Lib.fs N.firing_Valid = some K.firing_Valid := Has3.t_firing_Valid
theorem t_firing_Due : Lib.fs N.firing_Due = some K.firing_Due := Has3.t_firing_Due
theorem t_ref32_Border : Lib.fs N.ref32_Border = some K.ref32_Border := Has3.t_ref32_Border
theorem t_ref32_Seal : Lib.fs N.ref32_Seal = some K.ref32_Seal := Has3.t_ref32_Seal
theorem t_made_Last : Lib.fs N.made_Last = some K.made_Last := Has3.t_made_Last
theorem t_ref34_Arm : Lib.fs N.ref34_Arm = some K.ref34_Arm := Has3.t_ref34_Arm
theorem t_ref34_Agree : Lib.fs N.ref34_Agree = some K.ref34_Agree := Has3.t_ref34_Agree
theorem t_ref34_Fire : Lib.fs N.ref34_Fire = some K.ref34_Fire := Has3.t_ref34_Fire
theorem t_ref34_Abort : Lib.fs N.ref34_Abort = some K.ref34_Abort := Has3.t_ref34_Abort
end K
end Go.Ev

/- MADE BY PROGRAM (lib.py): the compact code of functions. -/
namespace Go.Ev.K
open Go.Ev
/-- /ref34.Valid -/
def ref34_Valid : Fn := { nargs := 2, vars := [0, 1, 2, 3, 4], body := (.seq (.reg [{ o := .bx (.v 0) 3, d := some 2 }, { o := .bx (.v 1) 4, d := some 3 }, { o := .mv (.b false), d := some 4 }] []) (.seq (.ite [{ o := .ld (.v 2) 3 true }, { o := .ca N.ref34_blast 0 [] [.l 0] }, { o := .un .not (.l 0) }, { o := .mv (.l 0) }, { o := .fa (.v 3) 0, g := some (0, false) }, { o := .ld (.l 0) 1 false, g := some (1, false) }, { o := .bin .lss (.l 0) (.i 0), g := some (2, false) }, { o := .pk (.l 3) (.b true) (.l 0) }, { o := .mv (.l 0) }, { o := .fa (.v 3) 0, g := some (0, false) }, { o := .ld (.l 0) 1 false, g := some (1, false) }, { o := .bin .gtr (.l 0) (.i 4), g := some (2, false) }, { o := .pk (.l 3) (.b true) (.l 0) }, { o := .mv (.l 0) }, { o := .fa (.v 3) 3, g := some (0, false) }, { o := .ld (.l 0) 1 false, g := some (1, false) }, { o := .bin .lss (.l 0) (.i 0), g := some (2, false) }, { o := .pk (.l 3) (.b true) (.l 0) }, { o := .mv (.l 0) }, { o := .fa (.v 3) 3, g := some (0, false) }, { o := .ld (.l 0) 1 false, g := some (1, false) }, { o := .bin .gtr (.l 0) (.i 2147483648), g := some (2, false) }, { o := .pk (.l 3) (.b true) (.l 0) }] [] 0 (.seq (.reg [{ o := .mv (.b false), d := some 4 }] []) .ret) .skip) (.seq (.ite [{ o := .fa (.v 3) 0 }, { o := .ld (.l 0) 1 false }, { o := .bin .eql (.l 0) (.i 0) }] [] 0 (.seq (.reg [{ o := .ld (.v 3) 4 true }, { o := .bd [.t (.int .i64 (0)), .t (.int .i64 (0)), .t (.int .i64 (0)), .t (.int .i64 (0))] [] }, { o := .eqk (.ints 4) false (.l 1) (.l 0) }, { o := .mv (.l 0), d := some 4 }] []) .ret) .skip) (.seq (.ite [{ o := .fa (.v 3) 0 }, { o := .ld (.l 0) 1 false }, { o := .bin .eql (.l 0) (.i 1) }] [] 0 (.seq (.reg [{ o := .fa (.v 3) 1 }, { o := .ld (.l 0) 1 false }, { o := .bin .gtr (.l 0) (.i 0) }, { o := .mv (.l 0) }, { o := .fa (.v 3) 2, g := some (0, true) }, { o := .ld (.l 0) 1 false, g := some (1, true) }, { o := .bin .eql (.l 0) (.i 0), g := some (2, true) }, { o := .pk (.l 3) (.l 0) (.b false) }, { o := .mv (.l 0), d := some 4 }] []) .ret) .skip) (.seq (.reg [{ o := .fa (.v 3) 1 }, { o := .ld (.l 0) 1 false }, { o := .bin .gtr (.l 0) (.i 0) }, { o := .mv (.l 0) }, { o := .fa (.v 3) 2, g := some (0, true) }, { o := .ld (.l 0) 1 false, g := some (1, true) }, { o := .bin .gtr (.l 0) (.i 0), g := some (2, true) }, { o := .pk (.l 3) (.l 0) (.b false) }, { o := .mv (.l 0) }, { o := .fa (.v 3) 1, g := some (0, true) }, { o := .ld (.l 0) 1 false, g := some (1, true) }, { o := .fa (.v 3) 2, g := some (2, true) }, { o := .ld (.l 0) 1 false, g := some (3, true) }, { o := .bin .neq (.l 2) (.l 0), g := some (4, true) }, { o := .pk (.l 5) (.l 0) (.b false) }, { o := .mv (.l 0), d := some 4 }] []) .ret))))), res := [(4, none)] }
/-- /firing.Safe -/
def firing_Safe : Fn := { nargs := 3, vars := [0, 1, 2, 3, 4, 5, 6], body := (.seq (.reg [{ o := .bx (.v 0) 3, d := some 3 }, { o := .bx (.v 1) 3, d := some 4 }, { o := .bx (.v 2) 1, d := some 5 }, { o := .mv (.b false), d := some 6 }] []) (.seq (.reg [{ o := .ld (.v 3) 3 true }, { o := .bd [.t (.int .i64 (0)), .t (.int .i64 (0)), .t (.int .i64 (0)), .t (.int .i64 (0))] [] }, { o := .ca N.firing_Valid 0 [] [.l 1, .l 0] }, { o := .mv (.l 0) }, { o := .ld (.v 4) 3 true, g := some (0, true) }, { o := .ca N.keys_Valid 0 [] [.l 0], g := some (1, true) }, { o := .pk (.l 2) (.l 0) (.b false) }, { o := .mv (.l 0) }, { o := .fa (.v 4) 2, g := some (0, true) }, { o := .ld (.l 0) 1 false, g := some (1, true) }, { o := .pk (.l 2) (.l 0) (.b false) }, { o := .mv (.l 0) }, { o := .fa (.v 5) 0, g := some (0, true) }, { o := .ld (.l 0) 1 false, g := some (1, true) }, { o := .ln (.l 0), g := some (2, true) }, { o := .bin .gtr (.l 0) (.i 0), g := some (3, true) }, { o := .pk (.l 4) (.l 0) (.b false) }, { o := .mv (.l 0) }, { o := .ld (.v 5) 1 true, g := some (0, true) }, { o := .fa (.v 3) 0, g := some (1, true) }, { o := .ld (.l 0) 1 false, g := some (2, true) }, { o := .ca N.area_Clear 0 [] [.l 2, .l 0], g := some (3, true) }, { o := .pk (.l 4) (.l 0) (.b false) }, { o := .mv (.l 0), d := some 6 }] []) .ret)), res := [(6, none)] }
/-- /ref34.Safe -/
def ref34_Safe : Fn := { nargs := 3, vars := [0, 1, 2, 3, 4, 5, 6], body := (.seq (.reg [{ o := .bx (.v 0) 3, d := some 3 }, { o := .bx (.v 1) 3, d := some 4 }, { o := .bx (.v 2) 1, d := some 5 }, { o := .mv (.b false), d := some 6 }] []) (.seq (.reg [{ o := .ld (.v 3) 3 true }, { o := .ca N.ref34_blast 0 [] [.l 0] }, { o := .mv (.l 0) }, { o := .ld (.v 4) 3 true, g := some (0, true) }, { o := .ca N.ref33_Valid 0 [] [.l 0], g := some (1, true) }, { o := .pk (.l 2) (.l 0) (.b false) }, { o := .mv (.l 0) }, { o := .fa (.v 4) 2, g := some (0, true) }, { o := .ld (.l 0) 1 false, g := some (1, true) }, { o := .pk (.l 2) (.l 0) (.b false) }, { o := .mv (.l 0) }, { o := .fa (.v 5) 0, g := some (0, true) }, { o := .ld (.l 0) 1 false, g := some (1, true) }, { o := .ln (.l 0), g := some (2, true) }, { o := .bin .gtr (.l 0) (.i 0), g := some (3, true) }, { o := .pk (.l 4) (.l 0) (.b false) }, { o := .mv (.l 0) }, { o := .ld (.v 5) 1 true, g := some (0, true) }, { o := .fa (.v 3) 0, g := some (1, true) }, { o := .ld (.l 0) 1 false, g := some (2, true) }, { o := .ca N.ref32_Clear 0 [] [.l 2, .l 0], g := some (3, true) }, { o := .pk (.l 4) (.l 0) (.b false) }, { o := .mv (.l 0), d := some 6 }] []) .ret)), res := [(6, none)] }
/-- /ref34.Due -/
def ref34_Due : Fn := { nargs := 3, vars := [0, 1, 2, 3, 4, 6, 18, 19], body := (.seq (.reg [{ o := .bx (.v 0) 3, d := some 3 }, { o := .bx (.v 1) 4, d := some 4 }, { o := .mv (.i 0), d := some 5 }] []) (.seq (.ite [{ o := .ld (.v 3) 3 true }, { o := .ld (.v 4) 4 true }, { o := .ca N.ref34_Valid 0 [] [.l 1, .l 0] }, { o := .un .not (.l 0) }, { o := .mv (.l 0) }, { o := .mv (.v 2), g := some (0, false) }, { o := .fa (.v 4) 3, g := some (1, false) }, { o := .ld (.l 0) 1 false, g := some (2, false) }, { o := .bin .lss (.l 2) (.l 0), g := some (3, false) }, { o := .pk (.l 4) (.b true) (.l 0) }] [] 0 (.seq (.reg [{ o := .mv (.i 0), d := some 5 }] []) .ret) .skip) (.seq (.seq (.reg [{ o := .fa (.v 4) 0 }, { o := .ld (.l 0) 1 false, d := some 6 }] []) (.blk 0 (.seq (.seq (.reg [{ o := .bin .eql (.v 6) (.i 1) }, { o := .mv (.l 0), d := some 7 }] []) (.itv 7 .skip (.reg [{ o := .bin .eql (.v 6) (.i 2) }, { o := .mv (.l 0), d := some 7 }] []))) (.itv 7 (.seq (.reg [{ o := .fa (.v 3) 1 }, { o := .ld (.l 0) 1 false }, { o := .mv (.v 2) }, { o := .fa (.v 4) 3 }, { o := .ld (.l 0) 1 false }, { o := .bin .sub (.l 2) (.l 0) }, { o := .bin .sub (.l 4) (.l 0) }, { o := .mx [.i 0, .l 0] }, { o := .mv (.l 0), d := some 5 }] []) .ret) (.ite [{ o := .bin .eql (.v 6) (.i 4) }, { o := .mv (.l 0) }] [] 0 (.seq (.reg [{ o := .fa (.v 3) 2 }, { o := .ld (.l 0) 1 false }, { o := .mv (.v 2) }, { o := .fa (.v 4) 3 }, { o := .ld (.l 0) 1 false }, { o := .bin .sub (.l 2) (.l 0) }, { o := .bin .sub (.l 4) (.l 0) }, { o := .mx [.i 0, .l 0] }, { o := .mv (.l 0), d := some 5 }] []) .ret) .skip))))) (.seq (.reg [{ o := .mv (.i 0), d := some 5 }] []) .ret)))), res := [(5, none)] }
/-- (/firing.request).check -/
def firing_request_check : Fn := { nargs := 2, vars := [0, 1, 2, 4], body := (.seq (.reg [{ o := .bx (.v 0) 13, d := some 2 }, { o := .mv (.i 0), d := some 3 }] []) (.seq (.blk 0 (.ite [{ o := .fa (.v 2) 0 }, { o := .ld (.l 0) 3 true }, { o := .fa (.v 2) 3 }, { o := .ld (.l 0) 4 true }, { o := .ca N.firing_Valid 0 [] [.l 2, .l 0] }, { o := .un .not (.l 0) }, { o := .mv (.l 0) }] [] 0 (.seq (.reg [{ o := .mv (.i 6), d := some 3 }] []) .ret) (.ite [{ o := .fa (.v 2) 3 }, { o := .fa (.l 0) 0 }, { o := .ld (.l 0) 1 false }, { o := .fa (.v 2) 12 }, { o := .ld (.l 0) 1 false }, { o := .bin .neq (.l 2) (.l 0) }, { o := .mv (.l 0) }] [] 0 (.seq (.reg [{ o := .mv (.i 10), d := some 3 }] []) .ret) (.ite [{ o := .fa (.v 2) 11 }, { o := .ld (.l 0) 1 false }, { o := .bin .lss (.l 0) (.i 0) }, { o := .mv (.l 0) }, { o := .fa (.v 2) 3, g := some (0, false) }, { o := .ld (.l 0) 4 true, g := some (1, false) }, { o := .fa (.v 2) 11, g := some (2, false) }, { o := .ld (.l 0) 1 false, g := some (3, false) }, { o := .ca N.firing_timely 0 [] [.l 2, .l 0], g := some (4, false) }, { o := .un .not (.l 0), g := some (5, false) }, { o := .pk (.l 6) (.b true) (.l 0) }, { o := .mv (.l 0) }] [] 0 (.seq (.reg [{ o := .mv (.i 8), d := some 3 }] []) .ret) (.ite [{ o := .mv (.v 1) }, { o := .mv (.l 0) }] [] 0 (.seq (.reg [{ o := .mv (.i 19), d := some 3 }] []) .ret) (.ite [{ o := .fa (.v 2) 12 }, { o := .ld (.l 0) 1 false }, { o := .bin .neq (.l 0) (.i 0) }, { o := .mv (.l 0) }, { o := .fa (.v 2) 11, g := some (0, true) }, { o := .ld (.l 0) 1 false, g := some (1, true) }, { o := .fa (.v 2) 3, g := some (2, true) }, { o := .fa (.l 0) 3, g := some (3, true) }, { o := .ld (.l 0) 1 false, g := some (4, true) }, { o := .bin .sub (.l 3) (.l 0), g := some (5, true) }, { o := .fa (.v 2) 0, g := some (6, true) }, { o := .fa (.l 0) 1, g := some (7, true) }, { o := .ld (.l 0) 1 false, g := some (8, true) }, { o := .bin .gtr (.l 3) (.l 0), g := some (9, true) }, { o := .pk (.l 10) (.l 0) (.b false) }, { o := .mv (.l 0) }] [] 0 (.seq (.reg [{ o := .mv (.i 10), d := some 3 }] []) .ret) (.ite [{ o := .fa (.v 2) 7 }, { o := .ld (.l 0) 3 true }, { o := .ca N.keys_Valid 0 [] [.l 0] }, { o := .un .not (.l 0) }, { o := .mv (.l 0) }, { o := .fa (.v 2) 7, g := some (0, false) }, { o := .fa (.l 0) 2, g := some (1, false) }, { o := .ld (.l 0) 1 false, g := some (2, false) }, { o := .un .not (.l 0), g := some (3, false) }, { o := .pk (.l 4) (.b true) (.l 0) }, { o := .mv (.l 0) }] [] 0 (.seq (.reg [{ o := .mv (.i 48), d := some 3 }] []) .ret) (.ite [{ o := .fa (.v 2) 0 }, { o := .ld (.l 0) 3 true }, { o := .fa (.v 2) 7 }, { o := .ld (.l 0) 3 true }, { o := .fa (.v 2) 10 }, { o := .ld (.l 0) 1 true }, { o := .ca N.firing_Safe 0 [] [.l 4, .l 2, .l 0] }, { o := .un .not (.l 0) }, { o := .mv (.l 0) }] [] 0 (.seq (.reg [{ o := .mv (.i 49), d := some 3 }] []) .ret) .skip)))))))) (.seq (.reg [{ o := .mv (.i 0), d := some 3 }] []) .ret))), res := [(3, none)] }
/-- /firing.timely -/
def firing_timely : Fn := { nargs := 2, vars := [0, 1, 2, 4], body := (.seq (.reg [{ o := .bx (.v 0) 4, d := some 2 }, { o := .mv (.b false), d := some 3 }] []) (.seq (.reg [{ o := .mv (.v 1) }, { o := .fa (.v 2) 3 }, { o := .ld (.l 0) 1 false }, { o := .bin .geq (.l 2) (.l 0) }, { o := .mv (.l 0) }, { o := .mv (.v 1), g := some (0, true) }, { o := .bin .leq (.l 0) (.i 2147483648), g := some (1, true) }, { o := .pk (.l 2) (.l 0) (.b false) }, { o := .mv (.l 0), d := some 3 }] []) .ret)), res := [(3, none)] }
def lists_Rising_l1b : C := (.its  [{ o := .bin .lss (.v 8) (.v 7) }] [] 0 .skip (.exit 0) (.seq (.blk 1 (.seq (.reg [{ o := .mv (.v 8) }, { o := .ia (.v 6) (.v 8) 1 }, { o := .ld (.l 0) 1 false }, { o := .mv (.l 2), d := some 4 }, { o := .mv (.l 1), d := some 5 }] []) (.ite [{ o := .mv (.v 5) }, { o := .mv (.v 1) }, { o := .bin .lss (.l 1) (.l 0) }, { o := .mv (.l 0) }, { o := .mv (.v 5), g := some (0, false) }, { o := .mv (.v 2), g := some (1, false) }, { o := .bin .gtr (.l 1) (.l 0), g := some (2, false) }, { o := .pk (.l 3) (.b true) (.l 0) }, { o := .mv (.l 0) }, { o := .mv (.v 4), g := some (0, false) }, { o := .bin .gtr (.l 0) (.i 0), g := some (1, false) }, { o := .mv (.l 0), g := some (2, false) }, { o := .mv (.v 5), g := some (0, true) }, { o := .mv (.v 0), g := some (1, true) }, { o := .mv (.v 4), g := some (2, true) }, { o := .bin .sub (.l 0) (.i 1), g := some (3, true) }, { o := .ia (.l 2) (.l 0) 1, g := some (4, true) }, { o := .ld (.l 0) 1 false, g := some (5, true) }, { o := .bin .leq (.l 5) (.l 0), g := some (6, true) }, { o := .pk (.l 7) (.l 0) (.b false), g := some (10, false) }, { o := .pk (.l 11) (.b true) (.l 0) }] [] 0 (.seq (.reg [{ o := .mv (.b false), d := some 3 }] []) .ret) .skip))) (.reg [{ o := .bin .add (.v 8) (.i 1) }, { o := .mv (.l 0), d := some 8 }] [])))
def lists_Rising_l1 : C := .loop true [3, 4, 5] K.lists_Rising_l1b
/-- /lists.Rising -/
def lists_Rising : Fn := { nargs := 3, vars := [0, 1, 2, 6, 7, 8, 9, 10, 11], body := (.seq (.reg [{ o := .mv (.b false), d := some 3 }] []) (.seq (.seq (.reg [{ o := .mv (.v 0), d := some 6 }, { o := .ln (.l 0), d := some 7 }, { o := .mv (.i 0), d := some 8 }] []) (.blk 0 K.lists_Rising_l1)) (.seq (.reg [{ o := .mv (.b true), d := some 3 }] []) .ret))), res := [(3, none)] }
def ref32_Barred_l1b : C := (.seq (.ite [{ o := .mv (.v 5) }, { o := .mv (.v 1) }, { o := .ln (.l 0) }, { o := .bin .lss (.l 2) (.l 0) }] [] 0 .skip (.exit 0)) (.seq (.blk 1 (.reg [{ o := .fa (.v 2) 1 }, { o := .ld (.l 0) 1 false }, { o := .mv (.v 1) }, { o := .mv (.v 5) }, { o := .ia (.l 1) (.l 0) 1 }, { o := .ld (.l 0) 1 false }, { o := .ia (.l 4) (.l 0) 10 }, { o := .fa (.l 0) 4 }, { o := .st (.l 0) (.b false) 1 [] }] [])) (.reg [{ o := .mv (.v 5) }, { o := .bin .add (.l 0) (.i 1) }, { o := .mv (.l 0), d := some 5 }] [])))
def ref32_Barred_l1 : C := .loop true [0, 4] K.ref32_Barred_l1b
/-- /ref32.Barred -/
def ref32_Barred : Fn := { nargs := 2, vars := [0, 1, 2, 4, 5, 6], body := (.seq (.reg [{ o := .bx (.v 0) 2, d := some 2 }, { o := .al [.nil, .nil] [], d := some 3 }, { o := .mv (.i 0), d := some 4 }] []) (.seq (.ite [{ o := .ld (.v 2) 2 true }, { o := .ca N.ref01_Check 0 [] [.l 0] }, { o := .bin .neq (.l 0) (.i 0) }] [] 0 (.seq (.reg [{ o := .bd [.nil, .nil] [] }, { o := .st (.v 3) (.l 0) 2 [] }, { o := .mv (.i 6), d := some 4 }] []) .ret) .skip) (.seq (.ite [{ o := .mv (.v 1) }, { o := .fa (.v 2) 1 }, { o := .ld (.l 0) 1 false }, { o := .ln (.l 0) }, { o := .ca N.ref23_Set 0 [] [.l 3, .l 0] }, { o := .un .not (.l 0) }] [] 0 (.seq (.reg [{ o := .bd [.nil, .nil] [] }, { o := .st (.v 3) (.l 0) 2 [] }, { o := .mv (.i 4), d := some 4 }] []) .ret) .skip) (.seq (.reg [{ o := .ld (.v 2) 2 true }, { o := .ca N.ref31_Copy 1 [] [.l 0] }, { o := .st (.v 2) (.l 0) 2 [] }] []) (.seq (.seq (.reg [{ o := .mv (.i 0), d := some 5 }] []) (.blk 0 K.ref32_Barred_l1)) (.seq (.reg [{ o := .ld (.v 2) 2 true }, { o := .st (.v 3) (.l 0) 2 [] }, { o := .mv (.i 0), d := some 4 }] []) .ret)))))), res := [(3, some (2, true)), (4, none)] }
def ref32_seal_l1b : C := (.seq (.ite [{ o := .mv (.v 7) }, { o := .mv (.v 6) }, { o := .ln (.l 0) }, { o := .bin .lss (.l 2) (.l 0) }] [] 0 .skip (.exit 0)) (.seq (.blk 1 (.ite [{ o := .mv (.v 6) }, { o := .mv (.v 7) }, { o := .ia (.l 1) (.l 0) 1 }, { o := .ld (.l 0) 1 false }, { o := .mv (.v 2) }, { o := .bin .gtr (.l 1) (.l 0) }] [] 0 (.reg [{ o := .mv (.v 6) }, { o := .mv (.v 7) }, { o := .ia (.l 1) (.l 0) 1 }, { o := .st (.l 0) (.i 1099511627776) 1 [] }] []) .skip)) (.reg [{ o := .mv (.v 7) }, { o := .bin .add (.l 0) (.i 1) }, { o := .mv (.l 0), d := some 7 }] [])))
def ref32_seal_l1 : C := .loop true [0, 1, 4] K.ref32_seal_l1b
/-- /ref32.seal -/
def ref32_seal : Fn := { nargs := 3, vars := [0, 1, 2, 3, 4, 6, 7, 8], body := (.seq (.reg [{ o := .bx (.v 0) 2, d := some 3 }, { o := .bx (.v 1) 2, d := some 4 }, { o := .al [.t (.int .i64 (0)), .nil] [], d := some 5 }] []) (.seq (.reg [{ o := .fa (.v 4) 1 }, { o := .ld (.l 0) 1 false }, { o := .app (.c (.nil)) (.l 0) true 1 }, { o := .mv (.l 0), d := some 6 }] []) (.seq (.seq (.reg [{ o := .mv (.i 0), d := some 7 }] []) (.blk 0 K.ref32_seal_l1)) (.seq (.reg [{ o := .mv (.v 2) }, { o := .ld (.v 3) 2 true }, { o := .mv (.v 6) }, { o := .mv (.v 2) }, { o := .ca N.ref25_Close 0 [] [.l 2, .l 1, .l 0] }, { o := .bd [.t (.int .i64 (0)), .nil] [(0, 1, .l 4), (1, 1, .l 0)] }, { o := .st (.v 5) (.l 0) 2 [] }] []) .ret)))), res := [(5, some (2, true))] }
/-- /ref34.step -/
def ref34_step : Fn := { nargs := 7, vars := [0, 1, 2, 3, 4, 5, 6, 7, 8, 9, 10, 14], body := (.seq (.reg [{ o := .bx (.v 0) 3, d := some 7 }, { o := .bx (.v 1) 4, d := some 8 }, { o := .bx (.v 2) 3, d := some 9 }, { o := .bx (.v 3) 1, d := some 10 }, { o := .mv (.i 0), d := some 11 }] []) (.seq (.blk 0 (.ite [{ o := .ld (.v 7) 3 true }, { o := .ld (.v 8) 4 true }, { o := .ca N.ref34_Valid 0 [] [.l 1, .l 0] }, { o := .un .not (.l 0) }, { o := .mv (.l 0) }] [] 0 (.seq (.reg [{ o := .mv (.i 6), d := some 11 }] []) .ret) (.ite [{ o := .fa (.v 8) 0 }, { o := .ld (.l 0) 1 false }, { o := .mv (.v 4) }, { o := .bin .neq (.l 1) (.l 0) }, { o := .mv (.l 0) }] [] 0 (.seq (.reg [{ o := .mv (.i 10), d := some 11 }] []) .ret) (.ite [{ o := .mv (.v 6) }, { o := .bin .lss (.l 0) (.i 0) }, { o := .mv (.l 0) }, { o := .mv (.v 6), g := some (0, false) }, { o := .bin .gtr (.l 0) (.i 2147483648), g := some (1, false) }, { o := .pk (.l 2) (.b true) (.l 0) }, { o := .mv (.l 0) }, { o := .mv (.v 6), g := some (0, false) }, { o := .fa (.v 8) 3, g := some (1, false) }, { o := .ld (.l 0) 1 false, g := some (2, false) }, { o := .bin .lss (.l 2) (.l 0), g := some (3, false) }, { o := .pk (.l 4) (.b true) (.l 0) }, { o := .mv (.l 0) }] [] 0 (.seq (.reg [{ o := .mv (.i 8), d := some 11 }] []) .ret) (.ite [{ o := .mv (.v 5) }, { o := .bin .leq (.l 0) (.i 0) }, { o := .mv (.l 0) }, { o := .mv (.v 4), g := some (0, false) }, { o := .bin .eql (.l 0) (.i 1), g := some (1, false) }, { o := .mv (.l 0), g := some (2, false) }, { o := .mv (.v 5), g := some (0, true) }, { o := .fa (.v 8) 1, g := some (1, true) }, { o := .ld (.l 0) 1 false, g := some (2, true) }, { o := .bin .eql (.l 2) (.l 0), g := some (3, true) }, { o := .pk (.l 4) (.l 0) (.b false), g := some (7, false) }, { o := .pk (.l 8) (.b true) (.l 0) }, { o := .mv (.l 0) }] [] 0 (.seq (.reg [{ o := .mv (.i 19), d := some 11 }] []) .ret) (.ite [{ o := .mv (.v 4) }, { o := .bin .neq (.l 0) (.i 0) }, { o := .mv (.l 0) }, { o := .mv (.v 6), g := some (0, true) }, { o := .fa (.v 8) 3, g := some (1, true) }, { o := .ld (.l 0) 1 false, g := some (2, true) }, { o := .bin .sub (.l 2) (.l 0), g := some (3, true) }, { o := .fa (.v 7) 1, g := some (4, true) }, { o := .ld (.l 0) 1 false, g := some (5, true) }, { o := .bin .gtr (.l 2) (.l 0), g := some (6, true) }, { o := .pk (.l 7) (.l 0) (.b false) }, { o := .mv (.l 0) }] [] 0 (.seq (.reg [{ o := .mv (.i 10), d := some 11 }] []) .ret) (.ite [{ o := .ld (.v 9) 3 true }, { o := .ca N.ref33_Valid 0 [] [.l 0] }, { o := .un .not (.l 0) }, { o := .mv (.l 0) }, { o := .fa (.v 9) 2, g := some (0, false) }, { o := .ld (.l 0) 1 false, g := some (1, false) }, { o := .un .not (.l 0), g := some (2, false) }, { o := .pk (.l 3) (.b true) (.l 0) }, { o := .mv (.l 0) }] [] 0 (.seq (.reg [{ o := .mv (.i 48), d := some 11 }] []) .ret) (.ite [{ o := .ld (.v 7) 3 true }, { o := .ld (.v 9) 3 true }, { o := .ld (.v 10) 1 true }, { o := .ca N.ref34_Safe 0 [] [.l 2, .l 1, .l 0] }, { o := .un .not (.l 0) }, { o := .mv (.l 0) }] [] 0 (.seq (.reg [{ o := .mv (.i 49), d := some 11 }] []) .ret) .skip)))))))) (.seq (.reg [{ o := .mv (.i 0), d := some 11 }] []) .ret))), res := [(11, none)] }
/-- /ref34.blast -/
def ref34_blast : Fn := { nargs := 1, vars := [0, 1, 2], body := (.seq (.reg [{ o := .bx (.v 0) 3, d := some 1 }, { o := .mv (.b false), d := some 2 }] []) (.seq (.reg [{ o := .fa (.v 1) 0 }, { o := .ld (.l 0) 1 false }, { o := .ln (.l 0) }, { o := .bin .gtr (.l 0) (.i 0) }, { o := .mv (.l 0) }, { o := .fa (.v 1) 0, g := some (0, true) }, { o := .ld (.l 0) 1 false, g := some (1, true) }, { o := .ca N.ref23_Set 0 [] [.l 0, .i 64], g := some (2, true) }, { o := .pk (.l 3) (.l 0) (.b false) }, { o := .mv (.l 0) }, { o := .fa (.v 1) 1, g := some (0, true) }, { o := .ld (.l 0) 1 false, g := some (1, true) }, { o := .bin .geq (.l 0) (.i 1), g := some (2, true) }, { o := .pk (.l 3) (.l 0) (.b false) }, { o := .mv (.l 0) }, { o := .fa (.v 1) 1, g := some (0, true) }, { o := .ld (.l 0) 1 false, g := some (1, true) }, { o := .bin .leq (.l 0) (.i 100000), g := some (2, true) }, { o := .pk (.l 3) (.l 0) (.b false) }, { o := .mv (.l 0) }, { o := .fa (.v 1) 2, g := some (0, true) }, { o := .ld (.l 0) 1 false, g := some (1, true) }, { o := .bin .geq (.l 0) (.i 1), g := some (2, true) }, { o := .pk (.l 3) (.l 0) (.b false) }, { o := .mv (.l 0) }, { o := .fa (.v 1) 2, g := some (0, true) }, { o := .ld (.l 0) 1 false, g := some (1, true) }, { o := .bin .leq (.l 0) (.i 100000), g := some (2, true) }, { o := .pk (.l 3) (.l 0) (.b false) }, { o := .mv (.l 0), d := some 2 }] []) .ret)), res := [(2, none)] }
/-- /keys.Valid -/
def keys_Valid : Fn := { nargs := 1, vars := [0, 1, 2, 3], body := (.seq (.reg [{ o := .bx (.v 0) 3, d := some 1 }, { o := .mv (.b false), d := some 2 }] []) (.seq (.reg [{ o := .mv (.c (.fn N.keys_Valid_1 [])), d := some 3 }] []) (.seq (.reg [{ o := .fa (.v 1) 0 }, { o := .ld (.l 0) 1 false }, { o := .ca N.keys_roads 0 [] [.l 0] }, { o := .mv (.l 0) }, { o := .fa (.v 1) 1, g := some (0, true) }, { o := .ld (.l 0) 1 false, g := some (1, true) }, { o := .ln (.l 0), g := some (2, true) }, { o := .fa (.v 1) 0, g := some (3, true) }, { o := .ld (.l 0) 1 false, g := some (4, true) }, { o := .ln (.l 0), g := some (5, true) }, { o := .bin .eql (.l 3) (.l 0), g := some (6, true) }, { o := .pk (.l 7) (.l 0) (.b false) }, { o := .mv (.l 0) }, { o := .fa (.v 1) 1, g := some (0, true) }, { o := .ld (.l 0) 1 false, g := some (1, true) }, { o := .mv (.v 3), g := some (2, true) }, { o := .ca N.slices_ContainsFunc_int_int 0 [] [.l 1, .l 0], g := some (3, true) }, { o := .un .not (.l 0), g := some (4, true) }, { o := .pk (.l 5) (.l 0) (.b false) }, { o := .mv (.l 0) }, { o := .fa (.v 1) 2, g := some (0, true) }, { o := .ld (.l 0) 1 false, g := some (1, true) }, { o := .un .not (.l 0), g := some (2, true) }, { o := .mv (.l 0), g := some (3, true) }, { o := .ld (.v 1) 3 true, g := some (0, false) }, { o := .ca N.keys_boxed 0 [] [.l 0], g := some (1, false) }, { o := .pk (.l 2) (.b true) (.l 0), g := some (6, true) }, { o := .pk (.l 7) (.l 0) (.b false) }, { o := .mv (.l 0), d := some 2 }] []) .ret))), res := [(2, none)] }
def area_Clear_l2b : C := (.its  [{ o := .bin .lss (.v 11) (.v 10) }] [] 0 .skip (.exit 2) (.seq (.blk 3 (.seq (.reg [{ o := .ia (.v 9) (.v 11) 2 }, { o := .ld (.l 0) 2 true }, { o := .al [.t (.int .i64 (0)), .nil] [], d := some 5 }, { o := .st (.l 0) (.l 1) 2 [] }] []) (.ite [{ o := .mv (.v 1) }, { o := .mf N.area_Clear_1 [.v 5] }, { o := .ca N.slices_ContainsFunc_int_int 0 [] [.l 1, .l 0] }] [] 0 (.seq (.reg [{ o := .mv (.b false), d := some 3 }] []) .ret) .skip))) (.reg [{ o := .bin .add (.v 11) (.i 1) }, { o := .mv (.l 0), d := some 11 }] [])))
def area_Clear_l2 : C := .loop true [0, 2, 3, 4, 5] K.area_Clear_l2b
def area_Clear_l1b : C := (.its  [{ o := .bin .lss (.v 8) (.v 7) }] [] 0 .skip (.exit 0) (.seq (.blk 1 (.seq (.reg [{ o := .ia (.v 6) (.v 8) 2 }, { o := .ld (.l 0) 2 true }, { o := .al [.nil, .nil] [], d := some 4 }, { o := .st (.l 0) (.l 1) 2 [] }] []) (.seq (.reg [{ o := .fa (.v 4) 1 }, { o := .ld (.l 0) 1 false, d := some 9 }, { o := .ln (.l 0), d := some 10 }, { o := .mv (.i 0), d := some 11 }] []) (.blk 2 K.area_Clear_l2)))) (.reg [{ o := .bin .add (.v 8) (.i 1) }, { o := .mv (.l 0), d := some 8 }] [])))
def area_Clear_l1 : C := .loop true [0, 2, 3, 4, 5, 9, 10, 11] K.area_Clear_l1b
/-- /area.Clear -/
def area_Clear : Fn := { nargs := 2, vars := [0, 1, 2, 4, 6, 8, 10, 11, 12, 17, 18, 19], body := (.seq (.reg [{ o := .bx (.v 0) 1, d := some 2 }, { o := .mv (.b false), d := some 3 }] []) (.seq (.seq (.reg [{ o := .fa (.v 2) 0 }, { o := .ld (.l 0) 1 false, d := some 6 }, { o := .ln (.l 0), d := some 7 }, { o := .mv (.i 0), d := some 8 }] []) (.blk 0 K.area_Clear_l1)) (.seq (.reg [{ o := .mv (.b true), d := some 3 }] []) .ret))), res := [(3, none)] }
def ref33_Valid_l1b : C := (.seq (.ite [{ o := .mv (.v 3) }, { o := .fa (.v 1) 1 }, { o := .ld (.l 0) 1 false }, { o := .ln (.l 0) }, { o := .bin .lss (.l 3) (.l 0) }] [] 0 .skip (.exit 0)) (.seq (.blk 1 (.ite [{ o := .fa (.v 1) 1 }, { o := .ld (.l 0) 1 false }, { o := .mv (.v 3) }, { o := .ia (.l 1) (.l 0) 1 }, { o := .ld (.l 0) 1 false }, { o := .bin .lss (.l 0) (.i 0) }, { o := .mv (.l 0) }, { o := .fa (.v 1) 1, g := some (0, false) }, { o := .ld (.l 0) 1 false, g := some (1, false) }, { o := .mv (.v 3), g := some (2, false) }, { o := .ia (.l 1) (.l 0) 1, g := some (3, false) }, { o := .ld (.l 0) 1 false, g := some (4, false) }, { o := .bin .gtr (.l 0) (.i 2), g := some (5, false) }, { o := .pk (.l 6) (.b true) (.l 0) }, { o := .mv (.l 0) }, { o := .fa (.v 1) 2, g := some (0, false) }, { o := .ld (.l 0) 1 false, g := some (1, false) }, { o := .mv (.l 0), g := some (2, false) }, { o := .fa (.v 1) 1, g := some (0, true) }, { o := .ld (.l 0) 1 false, g := some (1, true) }, { o := .mv (.v 3), g := some (2, true) }, { o := .ia (.l 1) (.l 0) 1, g := some (3, true) }, { o := .ld (.l 0) 1 false, g := some (4, true) }, { o := .bin .neq (.l 0) (.i 2), g := some (5, true) }, { o := .pk (.l 6) (.l 0) (.b false), g := some (9, false) }, { o := .pk (.l 10) (.b true) (.l 0) }] [] 0 (.seq (.reg [{ o := .mv (.b false), d := some 2 }] []) .ret) .skip)) (.reg [{ o := .mv (.v 3) }, { o := .bin .add (.l 0) (.i 1) }, { o := .mv (.l 0), d := some 3 }] [])))
def ref33_Valid_l1 : C := .loop true [0, 2] K.ref33_Valid_l1b
/-- /ref33.Valid -/
def ref33_Valid : Fn := { nargs := 1, vars := [0, 1, 2, 3], body := (.seq (.reg [{ o := .bx (.v 0) 3, d := some 1 }, { o := .mv (.b false), d := some 2 }] []) (.seq (.ite [{ o := .fa (.v 1) 0 }, { o := .ld (.l 0) 1 false }, { o := .ln (.l 0) }, { o := .bin .lss (.l 0) (.i 1) }, { o := .mv (.l 0) }, { o := .fa (.v 1) 0, g := some (0, false) }, { o := .ld (.l 0) 1 false, g := some (1, false) }, { o := .ln (.l 0), g := some (2, false) }, { o := .bin .gtr (.l 0) (.i 12), g := some (3, false) }, { o := .pk (.l 4) (.b true) (.l 0) }, { o := .mv (.l 0) }, { o := .fa (.v 1) 0, g := some (0, false) }, { o := .ld (.l 0) 1 false, g := some (1, false) }, { o := .ca N.ref23_Set 0 [] [.l 0, .i 128], g := some (2, false) }, { o := .un .not (.l 0), g := some (3, false) }, { o := .pk (.l 4) (.b true) (.l 0) }, { o := .mv (.l 0) }, { o := .fa (.v 1) 1, g := some (0, false) }, { o := .ld (.l 0) 1 false, g := some (1, false) }, { o := .ln (.l 0), g := some (2, false) }, { o := .fa (.v 1) 0, g := some (3, false) }, { o := .ld (.l 0) 1 false, g := some (4, false) }, { o := .ln (.l 0), g := some (5, false) }, { o := .bin .neq (.l 3) (.l 0), g := some (6, false) }, { o := .pk (.l 7) (.b true) (.l 0) }] [] 0 (.seq (.reg [{ o := .mv (.b false), d := some 2 }] []) .ret) .skip) (.seq (.seq (.reg [{ o := .mv (.i 0), d := some 3 }] []) (.blk 0 K.ref33_Valid_l1)) (.seq (.reg [{ o := .mv (.b true), d := some 2 }] []) .ret)))), res := [(2, none)] }
def ref32_Clear_l3b : C := (.seq (.ite [{ o := .mv (.v 7) }, { o := .mv (.v 6) }, { o := .ln (.l 0) }, { o := .bin .lss (.l 2) (.l 0) }] [] 0 .skip (.exit 4)) (.seq (.blk 5 (.ite [{ o := .mv (.v 1) }, { o := .mv (.v 7) }, { o := .ca N.ref23_Has 0 [] [.l 1, .l 0] }, { o := .mv (.l 0) }, { o := .mv (.v 6), g := some (0, true) }, { o := .mv (.v 7), g := some (1, true) }, { o := .ia (.l 1) (.l 0) 1, g := some (2, true) }, { o := .ld (.l 0) 1 false, g := some (3, true) }, { o := .bin .neq (.l 0) (.i 1099511627776), g := some (4, true) }, { o := .pk (.l 5) (.l 0) (.b false) }] [] 0 (.seq (.reg [{ o := .mv (.b false), d := some 3 }] []) .ret) .skip)) (.reg [{ o := .mv (.v 7) }, { o := .bin .add (.l 0) (.i 1) }, { o := .mv (.l 0), d := some 7 }] [])))
def ref32_Clear_l3 : C := .loop true [0, 3] K.ref32_Clear_l3b
def ref32_Clear_l2b : C := (.seq (.ite [{ o := .mv (.v 5) }, { o := .fa (.v 2) 0 }, { o := .ld (.l 0) 1 false }, { o := .mv (.v 4) }, { o := .ia (.l 1) (.l 0) 2 }, { o := .fa (.l 0) 1 }, { o := .ld (.l 0) 1 false }, { o := .ln (.l 0) }, { o := .bin .lss (.l 7) (.l 0) }] [] 0 .skip (.exit 2)) (.seq (.blk 3 (.seq (.reg [{ o := .fa (.v 2) 0 }, { o := .ld (.l 0) 1 false }, { o := .mv (.v 4) }, { o := .ia (.l 1) (.l 0) 2 }, { o := .fa (.l 0) 1 }, { o := .ld (.l 0) 1 false }, { o := .mv (.v 5) }, { o := .ia (.l 1) (.l 0) 2 }, { o := .fa (.l 0) 1 }, { o := .ld (.l 0) 1 false }, { o := .mv (.l 0), d := some 6 }] []) (.seq (.reg [{ o := .mv (.i 0), d := some 7 }] []) (.blk 4 K.ref32_Clear_l3)))) (.reg [{ o := .mv (.v 5) }, { o := .bin .add (.l 0) (.i 1) }, { o := .mv (.l 0), d := some 5 }] [])))
def ref32_Clear_l2 : C := .loop true [0, 3, 6, 7] K.ref32_Clear_l2b
def ref32_Clear_l1b : C := (.seq (.ite [{ o := .mv (.v 4) }, { o := .fa (.v 2) 0 }, { o := .ld (.l 0) 1 false }, { o := .ln (.l 0) }, { o := .bin .lss (.l 3) (.l 0) }] [] 0 .skip (.exit 0)) (.seq (.blk 1 (.seq (.reg [{ o := .mv (.i 0), d := some 5 }] []) (.blk 2 K.ref32_Clear_l2))) (.reg [{ o := .mv (.v 4) }, { o := .bin .add (.l 0) (.i 1) }, { o := .mv (.l 0), d := some 4 }] [])))
def ref32_Clear_l1 : C := .loop true [0, 3, 5, 6, 7] K.ref32_Clear_l1b
/-- /ref32.Clear -/
def ref32_Clear : Fn := { nargs := 2, vars := [0, 1, 2, 4, 5, 6, 7, 8], body := (.seq (.reg [{ o := .bx (.v 0) 1, d := some 2 }, { o := .mv (.b false), d := some 3 }] []) (.seq (.seq (.reg [{ o := .mv (.i 0), d := some 4 }] []) (.blk 0 K.ref32_Clear_l1)) (.seq (.reg [{ o := .mv (.b true), d := some 3 }] []) .ret))), res := [(3, none)] }
/-- /ref31.Copy -/
def ref31_Copy : Fn := { nargs := 1, vars := [0, 1, 2], body := (.seq (.reg [{ o := .bx (.v 0) 2, d := some 1 }, { o := .al [.nil, .nil] [], d := some 2 }] []) (.seq (.reg [{ o := .fa (.v 1) 0 }, { o := .ld (.l 0) 1 false }, { o := .app (.c (.nil)) (.l 0) true 2 }, { o := .fa (.v 1) 1 }, { o := .ld (.l 0) 1 false }, { o := .app (.c (.nil)) (.l 0) true 10 }, { o := .bd [.nil, .nil] [(0, 1, .l 3), (1, 1, .l 0)] }, { o := .st (.v 2) (.l 0) 2 [] }] [(4, 0)]) .ret)), res := [(2, some (2, true))] }
/-- /keys.Valid.1 -/
def keys_Valid_1 : Fn := { nargs := 1, vars := [0, 2], body := (.seq (.reg [{ o := .mv (.b false), d := some 1 }] []) (.seq (.reg [{ o := .mv (.v 0) }, { o := .ca N.lists_In 0 [] [.l 0, .i 0, .i 2] }, { o := .un .not (.l 0) }, { o := .mv (.l 0), d := some 1 }] []) .ret)), res := [(1, none)] }
/-- /keys.roads -/
def keys_roads : Fn := { nargs := 1, vars := [0, 2], body := (.seq (.reg [{ o := .mv (.b false), d := some 1 }] []) (.seq (.reg [{ o := .mv (.v 0) }, { o := .ln (.l 0) }, { o := .ca N.lists_In 0 [] [.l 0, .i 1, .i 12] }, { o := .mv (.l 0) }, { o := .mv (.v 0), g := some (0, true) }, { o := .ca N.lists_Rising 0 [] [.l 0, .i 0, .i 127], g := some (1, true) }, { o := .pk (.l 2) (.l 0) (.b false) }, { o := .mv (.l 0), d := some 1 }] []) .ret)), res := [(1, none)] }
/-- /keys.boxed -/
def keys_boxed : Fn := { nargs := 1, vars := [0, 1, 2], body := (.seq (.reg [{ o := .bx (.v 0) 3, d := some 1 }, { o := .mv (.b false), d := some 2 }] []) (.seq (.reg [{ o := .fa (.v 1) 1 }, { o := .ld (.l 0) 1 false }, { o := .ca N.slices_ContainsFunc_int_int 0 [] [.l 0, .c (.fn N.keys_boxed_1 [])] }, { o := .un .not (.l 0) }, { o := .mv (.l 0), d := some 2 }] []) .ret)), res := [(2, none)] }
/-- /area.Clear.1 -/
def area_Clear_1 : Fn := { nargs := 2, vars := [0, 1, 3], body := (.seq (.reg [{ o := .mv (.b false), d := some 2 }] []) (.seq (.reg [{ o := .mv (.v 0) }, { o := .fa (.v 1) 1 }, { o := .ld (.l 0) 1 false }, { o := .ln (.l 0) }, { o := .bin .sub (.l 0) (.i 1) }, { o := .ca N.lists_In 0 [] [.l 4, .i 0, .l 0] }, { o := .mv (.l 0) }, { o := .fa (.v 1) 1, g := some (0, true) }, { o := .ld (.l 0) 1 false, g := some (1, true) }, { o := .mv (.v 0), g := some (2, true) }, { o := .ia (.l 1) (.l 0) 1, g := some (3, true) }, { o := .ld (.l 0) 1 false, g := some (4, true) }, { o := .bin .neq (.l 0) (.i 1099511627776), g := some (5, true) }, { o := .pk (.l 6) (.l 0) (.b false) }, { o := .mv (.l 0), d := some 2 }] []) .ret)), res := [(2, none)] }
/-- /keys.boxed.1 -/
def keys_boxed_1 : Fn := { nargs := 1, vars := [0, 2], body := (.seq (.reg [{ o := .mv (.b false), d := some 1 }] []) (.seq (.reg [{ o := .mv (.v 0) }, { o := .bin .neq (.l 0) (.i 2) }, { o := .mv (.l 0), d := some 1 }] []) .ret)), res := [(1, none)] }
def ref26_Copy_v1_l1b : C := (.seq (.ite [{ o := .mv (.v 4) }, { o := .fa (.v 1) 0 }, { o := .ld (.l 0) 1 false }, { o := .ln (.l 0) }, { o := .bin .lss (.l 3) (.l 0) }] [] 0 .skip (.exit 0)) (.seq (.blk 1 (.reg [{ o := .fa (.v 3) 0 }, { o := .ld (.l 0) 1 false }, { o := .fa (.v 1) 0 }, { o := .ld (.l 0) 1 false }, { o := .mv (.v 4) }, { o := .ia (.l 1) (.l 0) 2 }, { o := .ld (.l 0) 2 true }, { o := .ca N.ref26_CopyWorld 1 [] [.l 0] }, { o := .bsr [.l 0] 2 }, { o := .app (.l 7) (.l 0) false 2 }, { o := .fa (.v 3) 0 }, { o := .st (.l 0) (.l 1) 1 [] }] [(1, 8), (1, 9)])) (.reg [{ o := .mv (.v 4) }, { o := .bin .add (.l 0) (.i 1) }, { o := .mv (.l 0), d := some 4 }] [])))
def ref26_Copy_v1_l1 : C := .loop false [0] K.ref26_Copy_v1_l1b
/-- /ref26.Copy -/
def ref26_Copy_v1 : Fn := { nargs := 1, vars := [0, 1, 2, 3, 4], body := (.seq (.reg [{ o := .bx (.v 0) 1, d := some 1 }, { o := .al [.nil] [], d := some 2 }] []) (.seq (.reg [{ o := .al [.nil] [(0, 2)], d := some 3 }] []) (.seq (.seq (.reg [{ o := .mv (.i 0), d := some 4 }] []) (.blk 0 K.ref26_Copy_v1_l1)) (.seq (.reg [{ o := .ld (.v 3) 1 true }, { o := .st (.v 2) (.l 0) 1 [] }] []) .ret)))), res := [(2, some (1, true))] }
def ref26_Copy_v2_l1b : C := (.seq (.ite [{ o := .mv (.v 4) }, { o := .fa (.v 1) 0 }, { o := .ld (.l 0) 1 false }, { o := .ln (.l 0) }, { o := .bin .lss (.l 3) (.l 0) }] [] 0 .skip (.exit 0)) (.seq (.blk 1 (.reg [{ o := .fa (.v 3) 0 }, { o := .ld (.l 0) 1 false }, { o := .fa (.v 1) 0 }, { o := .ld (.l 0) 1 false }, { o := .mv (.v 4) }, { o := .ia (.l 1) (.l 0) 2 }, { o := .ld (.l 0) 2 true }, { o := .ca N.ref26_CopyWorld_v2 2 [] [.l 0] }, { o := .bsr [.l 0] 2 }, { o := .app (.l 7) (.l 0) false 2 }, { o := .fa (.v 3) 0 }, { o := .st (.l 0) (.l 1) 1 [] }] [(1, 8), (1, 9)])) (.reg [{ o := .mv (.v 4) }, { o := .bin .add (.l 0) (.i 1) }, { o := .mv (.l 0), d := some 4 }] [])))
def ref26_Copy_v2_l1 : C := .loop false [0] K.ref26_Copy_v2_l1b
/-- /ref26.Copy -/
def ref26_Copy_v2 : Fn := { nargs := 1, vars := [0, 1, 2, 3, 4], body := (.seq (.reg [{ o := .bx (.v 0) 1, d := some 1 }, { o := .al [.nil] [], d := some 2 }] []) (.seq (.reg [{ o := .al [.nil] [(0, 2)], d := some 3 }] []) (.seq (.seq (.reg [{ o := .mv (.i 0), d := some 4 }] []) (.blk 0 K.ref26_Copy_v2_l1)) (.seq (.reg [{ o := .ld (.v 3) 1 true }, { o := .st (.v 2) (.l 0) 1 [] }] []) .ret)))), res := [(2, some (1, true))] }
def ref26_CopyWorld_v2_l1b : C := (.seq (.ite [{ o := .mv (.v 4) }, { o := .fa (.v 1) 1 }, { o := .ld (.l 0) 1 false }, { o := .ln (.l 0) }, { o := .bin .lss (.l 3) (.l 0) }] [] 0 .skip (.exit 0)) (.seq (.blk 1 (.reg [{ o := .fa (.v 3) 1 }, { o := .ld (.l 0) 1 false }, { o := .fa (.v 1) 1 }, { o := .ld (.l 0) 1 false }, { o := .mv (.v 4) }, { o := .ia (.l 1) (.l 0) 2 }, { o := .ld (.l 0) 2 true }, { o := .ca N.ref25_Copy 1 [] [.l 0] }, { o := .bsr [.l 0] 2 }, { o := .app (.l 7) (.l 0) false 2 }, { o := .fa (.v 3) 1 }, { o := .st (.l 0) (.l 1) 1 [] }] [(1, 8), (1, 9)])) (.reg [{ o := .mv (.v 4) }, { o := .bin .add (.l 0) (.i 1) }, { o := .mv (.l 0), d := some 4 }] [])))
def ref26_CopyWorld_v2_l1 : C := .loop false [0] K.ref26_CopyWorld_v2_l1b
/-- /ref26.CopyWorld -/
def ref26_CopyWorld_v2 : Fn := { nargs := 1, vars := [0, 1, 2, 3, 4], body := (.seq (.reg [{ o := .bx (.v 0) 2, d := some 1 }, { o := .al [.nil, .nil] [], d := some 2 }] []) (.seq (.reg [{ o := .fa (.v 1) 0 }, { o := .ld (.l 0) 1 false }, { o := .app (.c (.nil)) (.l 0) false 1 }, { o := .bd [.nil, .nil] [(0, 1, .l 0)] }, { o := .al [.nil, .nil] [(1, 2)], d := some 3 }, { o := .st (.l 0) (.l 1) 2 [(1, 2)] }] []) (.seq (.seq (.reg [{ o := .mv (.i 0), d := some 4 }] []) (.blk 0 K.ref26_CopyWorld_v2_l1)) (.seq (.reg [{ o := .ld (.v 3) 2 true }, { o := .st (.v 2) (.l 0) 2 [] }] []) .ret)))), res := [(2, some (2, true))] }
end Go.Ev.K
namespace Go.Ev
class Has4 [Lib] : Prop where
  t_ref34_Valid : Lib.fs N.ref34_Valid = some K.ref34_Valid
  t_firing_Safe : Lib.fs N.firing_Safe = some K.firing_Safe
  t_ref34_Safe : Lib.fs N.ref34_Safe = some K.ref34_Safe
  t_ref34_Due : Lib.fs N.ref34_Due = some K.ref34_Due
  t_firing_request_check : Lib.fs N.firing_request_check = some K.firing_request_check
  t_firing_timely : Lib.fs N.firing_timely = some K.firing_timely
  t_lists_Rising : Lib.fs N.lists_Rising = some K.lists_Rising
  t_ref32_Barred : Lib.fs N.ref32_Barred = some K.ref32_Barred
  t_ref32_seal : Lib.fs N.ref32_seal = some K.ref32_seal
  t_ref34_step : Lib.fs N.ref34_step = some K.ref34_step
  t_ref34_blast : Lib.fs N.ref34_blast = some K.ref34_blast
  t_keys_Valid : Lib.fs N.keys_Valid = some K.keys_Valid
  t_area_Clear : Lib.fs N.area_Clear = some K.area_Clear
  t_ref33_Valid : Lib.fs N.ref33_Valid = some K.ref33_Valid
  t_ref32_Clear : Lib.fs N.ref32_Clear = some K.ref32_Clear
  t_ref31_Copy : Lib.fs N.ref31_Copy = some K.ref31_Copy
  t_keys_Valid_1 : Lib.fs N.keys_Valid_1 = some K.keys_Valid_1
  t_keys_roads : Lib.fs N.keys_roads = some K.keys_roads
  t_keys_boxed : Lib.fs N.keys_boxed = some K.keys_boxed
  t_area_Clear_1 : Lib.fs N.area_Clear_1 = some K.area_Clear_1
  t_keys_boxed_1 : Lib.fs N.keys_boxed_1 = some K.keys_boxed_1
  t_ref26_Copy_v1 : Lib.fs N.ref26_Copy_v1 = some K.ref26_Copy_v1
  t_ref26_Copy_v2 : Lib.fs N.ref26_Copy_v2 = some K.ref26_Copy_v2
  t_ref26_CopyWorld_v2 : Lib.fs N.ref26_CopyWorld_v2 = some K.ref26_CopyWorld_v2
namespace K
variable [Lib] [Has4]
theorem t_ref34_Valid : Lib.fs N.ref34_Valid = some K.ref34_Valid := Has4.t_ref34_Valid
theorem t_firing_Safe : Lib.fs N.firing_Safe = some K.firing_Safe := Has4.t_firing_Safe
theorem t_ref34_Safe : Lib.fs N.ref34_Safe = some K.ref34_Safe := Has4.t_ref34_Safe
theorem t_ref34_Due : Lib.fs N.ref34_Due = some K.ref34_Due := Has4.t_ref34_Due
theorem t_firing_request_check : Lib.fs N.firing_request_check = some K.firing_request_check := Has4.t_firing_request_check
theorem t_firing_timely : Lib.fs N.firing_timely = some K.firing_timely := Has4.t_firing_timely
theorem t_lists_Rising : Lib.fs N.lists_Rising = some K.lists_Rising := Has4.t_lists_Rising
theorem t_ref32_Barred : Lib.fs N.ref32_Barred = some K.ref32_Barred := Has4.t_ref32_Barred
theorem t_ref32_seal : Lib.fs N.ref32_seal = some K.ref32_seal := Has4.t_ref32_seal
theorem t_ref34_step : Lib.fs N.ref34_step = some K.ref34_step := Has4.t_ref34_step
theorem t_ref34_blast : Lib.fs N.ref34_blast = some K.ref34_blast := Has4.t_ref34_blast
theorem t_keys_Valid : Lib.fs N.keys_Valid = some K.keys_Valid := Has4.t_keys_Valid
theorem t_area_Clear : Lib.fs N.area_Clear = some K.area_Clear := Has4.t_area_Clear
theorem t_ref33_Valid : Lib.fs N.ref33_Valid = some K.ref33_Valid := Has4.t_ref33_Valid
theorem t_ref32_Clear : Lib.fs N.ref32_Clear = some K.ref32_Clear := Has4.t_ref32_Clear
theorem t_ref31_Copy : Lib.fs N.ref31_Copy = some K.ref31_Copy := Has4.t_ref31_Copy
theorem t_keys_Valid_1 : Lib.fs N.keys_Valid_1 = some K.keys_Valid_1 := Has4.t_keys_Valid_1
theorem t_keys_roads : Lib.fs N.keys_roads = some K.keys_roads := Has4.t_keys_roads
theorem t_keys_boxed : Lib.fs N.keys_boxed = some K.keys_boxed := Has4.t_keys_boxed
theorem t_area_Clear_1 : Lib.fs N.area_Clear_1 = some K.area_Clear_1 := Has4.t_area_Clear_1
theorem t_keys_boxed_1 : Lib.fs N.keys_boxed_1 = some K.keys_boxed_1 := Has4.t_keys_boxed_1
theorem t_ref26_Copy_v1 : Lib.fs N.ref26_Copy_v1 = some K.ref26_Copy_v1 := Has4.t_ref26_Copy_v1
theorem t_ref26_Copy_v2 : Lib.fs N.ref26_Copy_v2 = some K.ref26_Copy_v2 := Has4.t_ref26_Copy_v2
theorem t_ref26_CopyWorld_v2 : Lib.fs N.ref26_CopyWorld_v2 = some K.ref26_CopyWorld_v2 := Has4.t_ref26_CopyWorld_v2
end K
end Go.Ev

/- Shots: what the program and the reference say. -/
namespace Go.Ev
open Go
variable [Lib] [Has1] [Has2] [Has3] [Has4]

def risP (l : List Int) (lo hi : Int) (j : Nat) : Bool := !decide (lo ≤ nth l j ∧ nth l j ≤ hi ∧ (0 < j → nth l (j - 1) < nth l j))
def risB (l : List Int) (lo hi : Int) : Bool := !((List.range l.length).any (risP l lo hi))
theorem rising_ok (l : List Int) (lo hi : Int) (hl : l.length ≤ 4294967296) : CALL 0 N.lists_Rising [.t (tL l), I lo, I hi] [] = some (B (risB l lo hi), []) := by
  refine CALL_of K.t_lists_Rising rfl ?_
  have loop : ∀ a b c : D, exS CALL K.lists_Rising_l1 ⟨[.t (tL l), I lo, I hi, a, b, c, .t (tL l), I l.length, I 0], []⟩ =
      some (if (List.range l.length).any (risP l lo hi) = true
        then (.ret, ⟨[.t (tL l), I lo, I hi, B false, I (firstN l.length (risP l lo hi)), I (nth l (firstN l.length (risP l lo hi))), .t (tL l), I l.length, I (firstN l.length (risP l lo hi))], []⟩)
        else (.exit 0, ⟨[.t (tL l), I lo, I hi, .und, .und, .und, .t (tL l), I l.length, I l.length], []⟩)) := by
    intro a b c
    refine loop_srch (fun j => ⟨[.t (tL l), I lo, I hi, .und, .und, .und, .t (tL l), I l.length, I j], []⟩) l.length (risP l lo hi) (fun j => (.ret, ⟨[.t (tL l), I lo, I hi, B false, I j, I (nth l j), .t (tL l), I l.length, I j], []⟩)) _ rfl ?_ ?_ ?_ (by simp)
    · intro j hj hp
      simp only [risP, Bool.not_eq_false', decide_eq_true_eq] at hp
      obtain ⟨h1, h2, h3⟩ := hp
      cases j with
      | zero => simp (disch := omega) only [go_sem, K.lists_Rising_l1b, ↓reduceIte]
      | succ j =>
        have h3 := h3 (by omega)
        rw [Nat.add_sub_cancel] at h3
        simp (disch := omega) only [go_sem, K.lists_Rising_l1b, ↓reduceIte]
    · intro j hj hp
      simp only [risP, Bool.not_eq_true', decide_eq_false_iff_not] at hp
      refine ⟨?_, by simp⟩
      by_cases h1 : lo ≤ nth l j
      · by_cases h2 : nth l j ≤ hi
        · cases j with
          | zero => exact absurd ⟨h1, h2, fun h => absurd h (by omega)⟩ hp
          | succ j =>
            have h3 : ¬ nth l j < nth l (j + 1) := fun h => hp ⟨h1, h2, fun _ => by simpa using h⟩
            simp (disch := omega) only [go_sem, K.lists_Rising_l1b, ↓reduceIte]
        · simp (disch := omega) only [go_sem, K.lists_Rising_l1b, ↓reduceIte]
      · simp (disch := omega) only [go_sem, K.lists_Rising_l1b, ↓reduceIte]
    · simp (disch := omega) only [go_sem, K.lists_Rising_l1b, ↓reduceIte]
  unfold risB
  simp (disch := omega) only [go_sem, K.lists_Rising, ↓reduceIte, loop]
  cases hf : (List.range l.length).any (risP l lo hi) with
  | true => simp (disch := omega) only [go_sem, ↓reduceIte]
  | false => simp (disch := omega) only [go_sem, ↓reduceIte, Bool.false_eq_true]
theorem ris_set (l : List Int) (n : Int) : risB l 0 (n - 1) = setB l n := by
  unfold risB setB
  rw [all_rng]
  refine congrArg (!·) (congrArg _ (funext fun j => ?_))
  unfold risP
  refine congrArg (!·) (decide_eq_decide.2 ⟨fun h => ⟨h.1, by omega, h.2.2⟩, fun h => ⟨h.1, by omega, h.2.2⟩⟩)

structure Shot where
  st : Int
  fi : Int
  se : Int
  ti : Int
abbrev Shot.e (s : Shot) : T := .agg [tI s.st, tI s.fi, tI s.se, tI s.ti]
structure Blast where
  area : List Int
  hold : Int
  mis : Int
abbrev Blast.e (x : Blast) : T := .agg [tL x.area, tI x.hold, tI x.mis]
structure Keys where
  roads : List Int
  keys : List Int
  out : Bool
abbrev Keys.e (k : Keys) : T := .agg [tL k.roads, tL k.keys, .bool k.out]

/- keys -/
theorem kvalid1_ok (x : Int) : CALL 0 N.keys_Valid_1 [I x] [] = some (B (!decide (0 ≤ x ∧ x ≤ 2)), []) := by
  refine CALL_of K.t_keys_Valid_1 rfl ?_
  have i := in_ok x 0 2
  simp (disch := omega) only [go_sem, K.keys_Valid_1, ↓reduceIte, i]
theorem kboxed1_ok (x : Int) : CALL 0 N.keys_boxed_1 [I x] [] = some (B (!decide (x = 2)), []) := by
  refine CALL_of K.t_keys_boxed_1 rfl ?_
  simp (disch := omega) only [go_sem, K.keys_boxed_1, ↓reduceIte]
  simp
def boxedF (l : List Int) : Bool := !l.any fun x => !decide (x = 2)
theorem kboxed_ok (k : Keys) (hl : k.keys.length ≤ 4294967296) : CALL 0 N.keys_boxed [.t k.e] [] = some (B (boxedF k.keys), []) := by
  refine CALL_of K.t_keys_boxed rfl ?_
  have c : CALL 0 N.slices_ContainsFunc_int_int [.t (tL k.keys), .fn N.keys_boxed_1 []] [] = some (B (k.keys.any fun x => !decide (x = 2)), []) := containsFunc_ok k.keys hl N.keys_boxed_1 [] (fun x => !decide (x = 2)) (fun x _ => kboxed1_ok x)
  unfold boxedF
  generalize (k.keys.any fun x => !decide (x = 2)) = r at *
  obtain ⟨roads, keys, out⟩ := k
  simp only at *
  simp (disch := omega) only [go_sem, K.keys_boxed, ↓reduceIte, c]
def kroadsF (l : List Int) : Bool := decide (1 ≤ (l.length : Int) ∧ (l.length : Int) ≤ 12) && risB l 0 127
theorem kroads_ok (l : List Int) (hl : l.length ≤ 4294967296) : CALL 0 N.keys_roads [.t (tL l)] [] = some (B (kroadsF l), []) := by
  refine CALL_of K.t_keys_roads rfl ?_
  have i := in_ok l.length 1 12
  have r := rising_ok l 0 127 hl
  unfold kroadsF
  generalize risB l 0 127 = rr at *
  cases h : decide (1 ≤ (l.length : Int) ∧ (l.length : Int) ≤ 12) <;> rw [h] at i <;> simp (disch := omega) only [go_sem, K.keys_roads, ↓reduceIte, i, r]
def keysF (k : Keys) : Bool := kroadsF k.roads && decide (k.keys.length = k.roads.length) && !(k.keys.any fun x => !decide (0 ≤ x ∧ x ≤ 2)) && (!k.out || boxedF k.keys)
theorem kvalid_ok (k : Keys) (hl : k.keys.length ≤ 4294967296) (hr : k.roads.length ≤ 4294967296) : CALL 0 N.keys_Valid [.t k.e] [] = some (B (keysF k), []) := by
  refine CALL_of K.t_keys_Valid rfl ?_
  have a := kroads_ok k.roads hr
  have b := kboxed_ok k hl
  have c : CALL 0 N.slices_ContainsFunc_int_int [.t (tL k.keys), .fn N.keys_Valid_1 []] [] = some (B (k.keys.any fun x => !decide (0 ≤ x ∧ x ≤ 2)), []) := containsFunc_ok k.keys hl N.keys_Valid_1 [] (fun x => !decide (0 ≤ x ∧ x ≤ 2)) (fun x _ => kvalid1_ok x)
  unfold keysF
  generalize (k.keys.any fun x => !decide (0 ≤ x ∧ x ≤ 2)) = r at *
  obtain ⟨roads, keys, out⟩ := k
  simp only at *
  generalize kroadsF roads = r1 at *
  generalize boxedF keys = r2 at *
  by_cases e : keys.length = roads.length <;> cases r1 <;> cases r <;> cases out <;> simp (disch := omega) only [go_sem, K.keys_Valid, ↓reduceIte, a, b, c, e]

/- shots -/
def stateF (s : Shot) : Bool := if s.st = 0 then decide (s.fi = 0 ∧ s.se = 0 ∧ s.ti = 0) else if s.st = 1 then decide (0 < s.fi ∧ s.se = 0)
  else if s.st = 2 ∨ s.st = 3 ∨ s.st = 4 then decide (0 < s.fi ∧ 0 < s.se ∧ s.fi ≠ s.se) else false
def shotF (x : Blast) (s : Shot) : Bool := !decide (x.area.length = 0) && risB x.area 0 63 && decide (1 ≤ x.hold ∧ x.hold ≤ 100000) && decide (1 ≤ x.mis ∧ x.mis ≤ 100000) && decide (0 ≤ s.ti ∧ s.ti ≤ 2147483648) && stateF s

theorem fvalid_ok (x : Blast) (hl : x.area.length ≤ 4294967296) (s : Shot) : CALL 0 N.firing_Valid [.t x.e, .t s.e] [] = some (B (shotF x s), []) := by
  refine CALL_of K.t_firing_Valid rfl ?_
  have r := rising_ok x.area 0 63 hl
  have i1 := in_ok x.hold 1 100000
  have i2 := in_ok x.mis 1 100000
  have i3 := in_ok s.ti 0 2147483648
  unfold shotF
  generalize risB x.area 0 63 = b1 at *
  generalize decide (1 ≤ x.hold ∧ x.hold ≤ 100000) = b2 at *
  generalize decide (1 ≤ x.mis ∧ x.mis ≤ 100000) = b3 at *
  generalize decide (0 ≤ s.ti ∧ s.ti ≤ 2147483648) = b4 at *
  obtain ⟨area, hold, mis⟩ := x
  obtain ⟨st, fi, se, ti⟩ := s
  simp only at *
  by_cases e : area.length = 0
  · simp (disch := omega) only [go_sem, K.firing_Valid, ↓reduceIte, e]
  cases b1
  · simp (disch := omega) only [go_sem, K.firing_Valid, ↓reduceIte, e, r]
  cases b2
  · simp (disch := omega) only [go_sem, K.firing_Valid, ↓reduceIte, e, r, i1]
  cases b3
  · simp (disch := omega) only [go_sem, K.firing_Valid, ↓reduceIte, e, r, i1, i2]
  cases b4
  · simp (disch := omega) only [go_sem, K.firing_Valid, ↓reduceIte, e, r, i1, i2, i3]
  unfold stateF
  simp only
  by_cases s0 : st = 0
  · subst s0
    by_cases c1 : fi = 0 <;> by_cases c2 : se = 0 <;> by_cases c3 : ti = 0 <;> simp (disch := omega) only [go_sem, K.firing_Valid, ↓reduceIte, e, r, i1, i2, i3]
  by_cases s1 : st = 1
  · subst s1
    by_cases c1 : 0 < fi <;> by_cases c2 : se = 0 <;> simp (disch := omega) only [go_sem, K.firing_Valid, ↓reduceIte, e, r, i1, i2, i3, s0]
  by_cases s2 : st = 2
  · subst s2
    by_cases c1 : 0 < fi <;> by_cases c2 : 0 < se <;> by_cases c3 : fi = se <;> simp (disch := omega) only [go_sem, K.firing_Valid, ↓reduceIte, e, r, i1, i2, i3, s0, s1]
  by_cases s3 : st = 3
  · subst s3
    by_cases c1 : 0 < fi <;> by_cases c2 : 0 < se <;> by_cases c3 : fi = se <;> simp (disch := omega) only [go_sem, K.firing_Valid, ↓reduceIte, e, r, i1, i2, i3, s0, s1, s2]
  by_cases s4 : st = 4
  · subst s4
    by_cases c1 : 0 < fi <;> by_cases c2 : 0 < se <;> by_cases c3 : fi = se <;> simp (disch := omega) only [go_sem, K.firing_Valid, ↓reduceIte, e, r, i1, i2, i3, s0, s1, s2, s3]
  · simp (disch := omega) only [go_sem, K.firing_Valid, ↓reduceIte, e, r, i1, i2, i3, s0, s1, s2, s3, s4]

theorem timely_ok (s : Shot) (t : Int) : CALL 0 N.firing_timely [.t s.e, I t] [] = some (B (decide (s.ti ≤ t ∧ t ≤ 2147483648)), []) := by
  refine CALL_of K.t_firing_timely rfl ?_
  obtain ⟨st, fi, se, ti⟩ := s
  simp only at *
  by_cases c1 : ti ≤ t <;> by_cases c2 : t ≤ 2147483648 <;> simp (disch := omega) only [go_sem, K.firing_timely, ↓reduceIte]

end Go.Ev

/- The program: starts and changes of smoke, and where it is. -/
namespace Go.Ev
open Go
variable [Lib] [Has1] [Has2] [Has3] [Has4] [Has6] [Has7]

def stN (l : List Int) (t : Int) (n : Nat) : Nat → List Int
  | 0 => List.replicate n 1099511627776
  | j + 1 => (stN l t n j).set (nth l j).toNat t
theorem stN_len (l : List Int) (t : Int) (n : Nat) : ∀ j, (stN l t n j).length = n
  | 0 => List.length_replicate
  | j + 1 => by simp only [stN, List.length_set, stN_len l t n j]
theorem repl_tt (n : Nat) (v : Int) : List.replicate n (I v) = ((List.replicate n v).map (T.int .i64)).map D.t := by simp
theorem stN_nth (l : List Int) (t : Int) (n : Nat) (hl : ∀ x ∈ l, 0 ≤ x ∧ x < n) : ∀ j, j ≤ l.length → ∀ i, i < n → nth (stN l t n j) i = if (i : Int) ∈ l.take j then t else 1099511627776
  | 0, _, i, hi => by
    rw [stN, List.take_zero, if_neg (by simp)]
    exact nth_eq (by simp [hi])
  | j + 1, hj, i, hi => by
    have ih := stN_nth l t n hl j (by omega) i hi
    have b := hl _ (nth_mem (l := l) (j := j) (by omega))
    rw [stN, set_nth2 _ _ (by rw [stN_len]; omega), ih, take_nth (by omega)]
    by_cases e : i = (nth l j).toNat
    · rw [if_pos e, if_pos (by simp; right; omega)]
    · rw [if_neg e]
      by_cases m : (i : Int) ∈ l.take j
      · rw [if_pos m, if_pos (by simp [m])]
      · rw [if_neg m, if_neg (by simp [m]; omega)]
theorem stN_init {l : List Int} (t : Int) {n : Nat} (hl : ∀ x ∈ l, 0 ≤ x ∧ x < n) : stN l t n l.length = initS l t n := by
  apply ext_nth2 (by rw [stN_len, initS_len])
  intro j hj
  rw [stN_len] at hj
  rw [stN_nth l t n hl _ (Nat.le_refl _) j hj, List.take_length]
  exact (nth_eq (by simp [initS, hj])).symm
theorem setB_mem {l : List Int} {n : Int} (h : setB l n = true) : ∀ x ∈ l, 0 ≤ x ∧ x < n := by
  intro x hx
  simp only [setB, List.all_eq_true, List.mem_range, decide_eq_true_eq] at h
  obtain ⟨j, hj⟩ := List.mem_iff_getElem?.1 hx
  have := h j (List.getElem?_eq_some_iff.1 hj).1
  rw [nth_eq hj] at this
  exact ⟨this.1, this.2.1⟩
theorem initS_tm (l : List Int) {t : Int} (ht : inT t) (n : Nat) : tmOk (initS l t n) := by
  intro x hx
  simp only [initS, List.mem_map] at hx
  obtain ⟨p, -, rfl⟩ := hx
  unfold inT at ht
  simp only [smMax]
  split <;> omega

theorem smokeStart_ok {m : Mine} (h : m.ok) (h1 : 1 ≤ m.places.length) (fl : List Spn) (hfl : fl.length ≤ 1000000) (l : List Int) (hl : l.length ≤ 1000000) (t : Int) :
    CALL 0 N.smoke_Start [.t m.e, .t (tS fl), .t (tL l), I t] [] = some (.tup [.t (startS m fl l t).1.e, I (startS m fl l t).2], []) := by
  refine CALL_of K.t_smoke_Start rfl ?_
  have np := h.np
  have nr := h.nr
  have f := given_ok h fl hfl
  have s := rising_ok l 0 (m.places.length - 1) (by omega)
  rw [ris_set] at s
  have ii := in_ok t 0 2147483648
  unfold startS
  cases hf : flowsB m fl with
  | false =>
    rw [hf] at f
    obtain ⟨places, roads⟩ := m
    simp only at *
    simp (disch := omega) only [go_sem, K.smoke_Start, ↓reduceIte, f, Nat.reduceAdd, Nat.reduceSub]
    rfl
  | true =>
    rw [hf] at f
    cases hs : setB l m.places.length with
    | false =>
      rw [hs] at s
      obtain ⟨places, roads⟩ := m
      simp only at *
      simp (disch := omega) only [go_sem, K.smoke_Start, ↓reduceIte, f, s, Bool.true_eq_false, Nat.reduceAdd, Nat.reduceSub]
      rfl
    | true =>
      rw [hs] at s
      by_cases ht : 0 ≤ t ∧ t ≤ 2147483648
      · have hin : inT t := ht
        simp only [ht, and_self, decide_true] at ii
        have mem := setB_mem hs
        have rp := repeat_ok 1099511627776 m.places.length h1 (by omega)
        simp only [tL, List.map_cons, List.map_nil] at rp
        have sl := stN_len l t m.places.length
        have se := stN_init t mem
        have l1 : ∀ z0 z2 z6 z8 : D, exS CALL K.smoke_Start_l1 ⟨[z0, .t (tS fl), z2, I t, .bp 0 0, .bp 1 0, z6, .ref 2 0 m.places.length, z8, .t (tL l), I l.length, I 0], [.box (mineCells m), .box [I 0, .nil], .arr 1 false 0 (((stN l t m.places.length 0).map (T.int .i64)).map .t)]⟩ =
            some (.exit 1, ⟨[.und, .t (tS fl), .und, I t, .bp 0 0, .bp 1 0, .und, .ref 2 0 m.places.length, .und, .t (tL l), I l.length, I l.length], [.box (mineCells m), .box [I 0, .nil], .arr 1 false 0 (((stN l t m.places.length l.length).map (T.int .i64)).map .t)]⟩) := by
          intro z0 z2 z6 z8
          refine loop_up (fun j => ⟨[.und, .t (tS fl), .und, I t, .bp 0 0, .bp 1 0, .und, .ref 2 0 m.places.length, .und, .t (tL l), I l.length, I j], [.box (mineCells m), .box [I 0, .nil], .arr 1 false 0 (((stN l t m.places.length j).map (T.int .i64)).map .t)]⟩) l.length rfl ?_ ?_ (by simp)
          · intro j hj
            have lj := sl j
            have b := mem _ (nth_mem hj)
            simp (disch := omega) only [go_sem, K.smoke_Start_l1b, ↓reduceIte, stN, Nat.reduceAdd, Nat.reduceSub]
          · simp (disch := omega) only [go_sem, K.smoke_Start_l1b, ↓reduceIte, Nat.reduceAdd, Nat.reduceSub]
        rw [se] at l1
        have sp := (sSpread_ok h fl hf (initS l t m.places.length) (initS_len ..) (initS_bnd l hin _)).1
        have eq := spF_closeS h (fl := fl) (initS_len l t m.places.length) (initS_tm l hin m.places.length)
        have ln := initS_len l t m.places.length
        have lc := closeS_len2 h (fl := fl) ln (initS_bnd l hin _)
        rw [eq, ln] at sp
        simp only [stN] at l1
        generalize closeS m fl (initS l t m.places.length) = cs at *
        generalize initS l t m.places.length = is at *
        clear sl se eq mem
        obtain ⟨places, roads⟩ := m
        simp only [mineCells, smArg] at *
        simp (disch := omega) only [go_sem, K.smoke_Start, ↓reduceIte, f, s, ii, rp, repl_tt, l1, sp, hin, lc, ln, Bool.true_eq_false, not_true_eq_false, Nat.reduceAdd, Nat.reduceSub]
      · have hin : ¬ inT t := ht
        simp only [ht, decide_false] at ii
        obtain ⟨places, roads⟩ := m
        simp only at *
        simp (disch := omega) only [go_sem, K.smoke_Start, ↓reduceIte, f, s, ii, hin, Bool.true_eq_false, not_false_eq_true, Nat.reduceAdd, Nat.reduceSub]
        rfl
end Go.Ev

