/- Parts of the proof: see the text that holds the theorem. -/
import Derived.Test.YthecjbcacbllaaaZ5
set_option linter.all false
/- The program: changes of smoke. -/
namespace Go.Ev
open Go
variable [Lib] [Has1] [Has2] [Has3] [Has4] [Has6] [Has7]

theorem sValid1_ok (x t : Int) (fr : T) : CALL 0 N.smoke_Valid_1 [I x, .bp 0 0] [.box [I t, .t fr]] = some (B (!decide (plS t x)), [.box [I t, .t fr]]) := by
  refine CALL_of K.t_smoke_Valid_1 rfl ?_
  have i := in_ok x t 2147483648
  unfold plS
  by_cases c : x = 1099511627776
  · subst c
    simp (disch := omega) only [go_sem, K.smoke_Valid_1, ↓reduceIte, Nat.reduceAdd, Nat.reduceSub]
  · by_cases c2 : t ≤ x ∧ x ≤ 2147483648
    · simp only [c2, and_self, decide_true] at i
      simp (disch := omega) only [go_sem, K.smoke_Valid_1, ↓reduceIte, i, c, c2, false_or, and_self, decide_true, Nat.reduceAdd, Nat.reduceSub]
    · simp only [c2, decide_false] at i
      simp (disch := omega) only [go_sem, K.smoke_Valid_1, ↓reduceIte, i, c, c2, false_or, decide_false, Nat.reduceAdd, Nat.reduceSub]
theorem sValid_ok {m : Mine} (h : m.ok) (s : Wh) (hl : s.frm.length ≤ 1000000) : CALL 0 N.smoke_Valid [.t m.e, .t s.e] [] = some (B (validS m s), []) := by
  refine CALL_of K.t_smoke_Valid rfl ?_
  have v := planValid_ok h
  have np := h.np
  have i := in_ok s.time 0 2147483648
  have cf := containsFunc_ok s.frm (by omega) N.smoke_Valid_1 [[tI s.time, tL s.frm]] (fun x => !decide (plS s.time x)) (fun x _ => sValid1_ok x s.time (tL s.frm))
  have e : validS m s = (!(s.frm.any fun x => !decide (plS s.time x)) && decide (s.frm.length = m.places.length ∧ inT s.time)) := by
    unfold validS
    rw [all_rng, any_rng s.frm (fun x => !decide (plS s.time x))]
  rw [e]
  generalize (s.frm.any fun x => !decide (plS s.time x)) = r at *
  obtain ⟨places, roads⟩ := m
  obtain ⟨time, frm⟩ := s
  simp only at *
  unfold inT
  clear e
  have cf : CALL 0 N.slices_ContainsFunc_int_int [.t (tL frm), .fn N.smoke_Valid_1 [.bp 0 0]] [.box [I time, .t (tL frm)]] = some (B r, [.box [I time, .t (tL frm)]]) := cf
  by_cases c1 : frm.length = places.length
  · by_cases c2 : 0 ≤ time ∧ time ≤ 2147483648
    · simp only [c2, and_self, decide_true] at i
      cases r <;> simp (disch := omega) only [go_sem, K.smoke_Valid, ↓reduceIte, v, i, cf, c1, c2, and_self, decide_true, Nat.reduceAdd, Nat.reduceSub]
    · simp only [c2, decide_false] at i
      cases r <;> simp (disch := omega) only [go_sem, K.smoke_Valid, ↓reduceIte, v, i, cf, c1, c2, and_false, decide_false, Nat.reduceAdd, Nat.reduceSub]
  · cases r <;> simp (disch := omega) only [go_sem, K.smoke_Valid, ↓reduceIte, v, c1, false_and, decide_false, Nat.reduceAdd, Nat.reduceSub]

def mxL (t : Int) (l : List Int) : List Int := l.map fun x => max x t
def mxJ (t : Int) (l : List Int) : Nat → List Int
  | 0 => List.replicate l.length 0
  | j + 1 => (mxJ t l j).set j (max (nth l j) t)
theorem mxJ_len (t : Int) (l : List Int) : ∀ j, (mxJ t l j).length = l.length
  | 0 => List.length_replicate
  | j + 1 => by simp only [mxJ, List.length_set, mxJ_len t l j]
theorem mxL_nth (t : Int) {l : List Int} {i : Nat} (hi : i < l.length) : nth (mxL t l) i = max (nth l i) t := nth_eq (by rw [mxL, map_nth _ hi])
theorem mxJ_nth (t : Int) (l : List Int) : ∀ j, j ≤ l.length → ∀ i, i < j → nth (mxJ t l j) i = max (nth l i) t
  | 0, _, i, hi => by omega
  | j + 1, hj, i, hi => by
    rw [mxJ, set_nth2 _ _ (by rw [mxJ_len]; omega)]
    by_cases e : i = j
    · rw [if_pos e, e]
    · rw [if_neg e, mxJ_nth t l j (by omega) i (by omega)]
theorem mxJ_all (t : Int) (l : List Int) : mxJ t l l.length = mxL t l := by
  apply ext_nth2 (by rw [mxJ_len]; simp [mxL])
  intro j hj
  rw [mxJ_len] at hj
  rw [mxJ_nth t l _ (Nat.le_refl _) j hj, mxL_nth t hj]
theorem maxN_nth (t : Int) (l : List Int) : ∀ j, j ≤ l.length → ∀ i, nth (maxN t l j) i = if i < j then max (nth l i) t else nth l i
  | 0, _, i => by rw [maxN, if_neg (by omega)]
  | j + 1, hj, i => by
    have ih := maxN_nth t l j (by omega)
    rw [maxN, set_nth2 _ _ (by rw [maxN_len]; omega), ih j, if_neg (by omega : ¬ j < j), ih i]
    by_cases e : i = j
    · rw [if_pos e, if_pos (by omega), e]
    · rw [if_neg e]
      by_cases c : i < j
      · rw [if_pos c, if_pos (by omega)]
      · rw [if_neg c, if_neg (by omega)]
theorem maxN_all (t : Int) (l : List Int) : maxN t l l.length = mxL t l := by
  apply ext_nth2 (by rw [maxN_len]; simp [mxL])
  intro j hj
  rw [maxN_len] at hj
  rw [maxN_nth t l _ (Nat.le_refl _), if_pos hj, mxL_nth t hj]

def cgHalf (m : Mine) (fl : List Spn) (frm : List Int) (t : Int) (k : Nat) (back : Bool) (l : List Int) : List Int :=
  if nth frm ((nth m.roads k).src back).toNat ≤ t ∧ 0 ≤ travelF (nth m.roads k) (nth fl k) back then l.set ((nth m.roads k).dst back).toNat t else l
def cgN (m : Mine) (fl : List Spn) (frm : List Int) (t : Int) : Nat → List Int
  | 0 => mxL t frm
  | k + 1 => cgHalf m fl frm t k true (cgHalf m fl frm t k false (cgN m fl frm t k))
theorem cgHalf_len (m : Mine) (fl : List Spn) (frm : List Int) (t : Int) (k : Nat) (back : Bool) (l : List Int) : (cgHalf m fl frm t k back l).length = l.length := by
  unfold cgHalf; split <;> simp
theorem cgN_len (m : Mine) (fl : List Spn) (frm : List Int) (t : Int) : ∀ k, (cgN m fl frm t k).length = frm.length
  | 0 => by simp [cgN, mxL]
  | k + 1 => by simp only [cgN, cgHalf_len, cgN_len m fl frm t k]
theorem cgHalf_mx (m : Mine) (fl : List Spn) (frm : List Int) (t : Int) (k : Nat) (back : Bool) (l : List Int) : cgHalf m fl frm t k back (mxL t l) = mxL t (chHalf m fl frm t k back l) := by
  unfold cgHalf chHalf
  split
  · unfold mxL; rw [List.map_set]; congr 1; omega
  · rfl
theorem cgN_chN (m : Mine) (fl : List Spn) (frm : List Int) (t : Int) : ∀ k, cgN m fl frm t k = mxL t (chN m fl frm t k)
  | 0 => rfl
  | k + 1 => by simp only [cgN, chN, chStep, cgN_chN m fl frm t k, cgHalf_mx]

/-- One road of a change. -/
theorem cg_step {m : Mine} (h : m.ok) (old : List Spn) (fl1 : old.length = m.roads.length) (fl2 : ∀ j, j < old.length → (nth old j).ok) (time t : Int) (ht : inT t) (frm l : List Int) (hl0 : frm.length = m.places.length) (hl : l.length = m.places.length)
    (k : Nat) (hk : k < m.roads.length) (H3 : List D) (r : D) (hr : Go.Ev.old 5 8 r = true) (h3 : allOld 5 8 H3 = true) :
    roundC true [0, 2, 4, 10, 12, 13, 14, 15, 16, 17, 18] 5 (exS CALL K.smoke_Change_l2b ⟨[.und, .t (tS old), .und, r, .und, I t, .bp 0 0, .bp 1 0, .bp 2 0, .bp 3 0, .und, .ref 4 0 l.length, .und, .und, .und, .und, .und, .und, .und, .t (.sl (m.roads.map Road.e)), I m.roads.length, I k], [.box (mineCells m), .box H3, .box [I time, .t (tL frm)], .box [I 0, .nil], .arr 1 false 0 ((l.map (T.int .i64)).map .t)]⟩) =
      some ⟨[.und, .t (tS old), .und, r, .und, I t, .bp 0 0, .bp 1 0, .bp 2 0, .bp 3 0, .und, .ref 4 0 l.length, .und, .und, .und, .und, .und, .und, .und, .t (.sl (m.roads.map Road.e)), I m.roads.length, I (k + 1)], [.box (mineCells m), .box H3, .box [I time, .t (tL frm)], .box [I 0, .nil], .arr 1 false 0 (((cgHalf m old frm t k true (cgHalf m old frm t k false l)).map (T.int .i64)).map .t)]⟩ := by
  have np := h.np
  have nr := h.nr
  have t1 := sTravel_ok h k hk (nth old k) (fl2 k (by omega)) false
  have t2 := sTravel_ok h k hk (nth old k) (fl2 k (by omega)) true
  have r1 := Road.src_ok (h.rs _ (nth_mem hk)) false
  have r2 := Road.dst_ok (h.rs _ (nth_mem hk)) false
  have g : (m.roads.map Road.e)[k]? = some (nth m.roads k).e := map_nth _ hk
  simp only [Road.src, Road.dst, Bool.false_eq_true, ↓reduceIte] at r1 r2
  obtain ⟨f0, f1⟩ := r1
  obtain ⟨t0, t1'⟩ := r2
  unfold inT at ht
  simp only [cgHalf, Road.src, Road.dst, Bool.false_eq_true, ↓reduceIte]
  generalize hw1 : travelF (nth m.roads k) (nth old k) false = v1 at *
  generalize hw2 : travelF (nth m.roads k) (nth old k) true = v2 at *
  generalize hx : nth m.roads k = x at *
  obtain ⟨a, b, len, area, walk, closed, rl, rh, ll, lh⟩ := x
  simp only at f0 f1 t0 t1' ⊢
  clear hw1 hw2 fl2 hx
  obtain ⟨places, roads⟩ := m
  simp only [mineCells] at *
  have ln : (l.set b.toNat t).length = l.length := List.length_set ..
  by_cases c1 : nth frm a.toNat ≤ t <;> by_cases c2 : 0 ≤ v1 <;> by_cases c3 : nth frm b.toNat ≤ t <;> by_cases c4 : 0 ≤ v2 <;>
    simp (disch := omega) only [go_sem, K.smoke_Change_l2b, ↓reduceIte, g, t1, t2, c1, c2, c3, c4, and_self, and_false, false_and, hr, h3, Nat.reduceAdd, Nat.reduceSub]
end Go.Ev

/- The program: changes of smoke, and where it is. -/
namespace Go.Ev
open Go
variable [Lib] [Has1] [Has2] [Has3] [Has4] [Has6] [Has7]

theorem mxL_tm {t : Int} (ht : inT t) {l : List Int} (h : bnd l) (h2 : ∀ x ∈ l, x ≤ smMax ∨ x = 1099511627776) : tmOk (mxL t l) := by
  intro x hx
  simp only [mxL, List.mem_map] at hx
  obtain ⟨y, hy, rfl⟩ := hx
  have := h y hy
  have := h2 y hy
  unfold inT at ht
  simp only [smMax] at *
  omega
theorem chHalf_mem {m : Mine} {fl : List Spn} {frm : List Int} {t : Int} {k : Nat} {back : Bool} {l : List Int} (hi : ((nth m.roads k).dst back).toNat < l.length) (P : Int → Prop) (hp : ∀ x ∈ l, P x) (ht : P t) : ∀ x ∈ chHalf m fl frm t k back l, P x := by
  unfold chHalf
  split
  · intro x hx
    rcases List.mem_or_eq_of_mem_set hx with h | h
    · exact hp x h
    · subst h
      have := hp _ (nth_mem hi)
      rcases Int.le_total (nth l ((nth m.roads k).dst back).toNat) t with c | c
      · rw [Int.min_eq_left c]; exact this
      · rw [Int.min_eq_right c]; exact ht
  · exact hp
theorem chN_mem {m : Mine} (h : m.ok) {fl : List Spn} {frm : List Int} {t : Int} (hl : frm.length = m.places.length) (P : Int → Prop) (hp : ∀ x ∈ frm, P x) (ht : P t) : ∀ k, k ≤ m.roads.length → ∀ x ∈ chN m fl frm t k, P x
  | 0, _ => hp
  | k + 1, hk => by
    have r1 := Road.dst_ok (h.rs _ (nth_mem (l := m.roads) (j := k) (by omega))) false
    have r2 := Road.dst_ok (h.rs _ (nth_mem (l := m.roads) (j := k) (by omega))) true
    have ih := chN_mem h (fl := fl) hl P hp ht k (by omega)
    simp only [chN, chStep]
    exact chHalf_mem (by rw [chHalf_len, chN_len]; omega) P (chHalf_mem (by rw [chN_len]; omega) P ih ht) ht

theorem smokeChange_ok {m : Mine} (h : m.ok) (old : List Spn) (ho : old.length ≤ 1000000) {next : Mine} (hn : next.ok) (fl : List Spn) (hfl : fl.length ≤ 1000000) (s : Wh) (hs : s.frm.length ≤ 1000000) (t : Int) :
    CALL 0 N.smoke_Change [.t m.e, .t (tS old), .t next.e, .t (tS fl), .t s.e, I t] [] = some (.tup [.t (changeS m old next fl s t).1.e, I (changeS m old next fl s t).2], []) := by
  refine CALL_of K.t_smoke_Change rfl ?_
  have v := sValid_ok h s hs
  have nr := h.nr
  have nr2 := hn.nr
  have np := h.np
  have np2 := hn.np
  have f1 := given_ok h old ho
  have f2 := given_ok hn fl hfl
  unfold changeS
  by_cases hc : validS m s = false ∨ flowsB m old = false ∨ flowsB next fl = false ∨ next.places.length ≠ m.places.length
  · rw [if_pos hc]
    obtain ⟨places, roads⟩ := m
    obtain ⟨places2, roads2⟩ := next
    obtain ⟨time, frm⟩ := s
    simp only at *
    cases hv : validS ⟨places, roads⟩ ⟨time, frm⟩ <;> rw [hv] at v hc <;>
    cases h1 : flowsB ⟨places, roads⟩ old <;> rw [h1] at f1 hc <;>
    cases h2 : flowsB ⟨places2, roads2⟩ fl <;> rw [h2] at f2 hc <;>
    by_cases h3 : places2.length = places.length <;> simp only [h3, Bool.true_eq_false, false_or, ne_eq, not_true_eq_false] at hc <;>
    simp (disch := omega) only [go_sem, K.smoke_Change, ↓reduceIte, v, f1, f2, h3, Nat.reduceAdd, Nat.reduceSub]
  · rw [if_neg hc]
    simp only [not_or, Bool.not_eq_false, ne_eq, Classical.not_not] at hc
    obtain ⟨hv, h1, h2, h3⟩ := hc
    rw [hv] at v
    rw [h1] at f1
    rw [h2] at f2
    obtain ⟨s1, s2, s3⟩ := validS_spec hv
    obtain ⟨o1, o2⟩ := flowsB_spec h1
    by_cases c1 : t < s.time
    · rw [if_pos (.inl c1)]
      obtain ⟨places, roads⟩ := m
      obtain ⟨places2, roads2⟩ := next
      obtain ⟨time, frm⟩ := s
      simp only at *
      simp (disch := omega) only [go_sem, K.smoke_Change, ↓reduceIte, v, f1, f2, h3, c1, Nat.reduceAdd, Nat.reduceSub]
    · by_cases c2 : 2147483648 < t
      · rw [if_pos (.inr c2)]
        obtain ⟨places, roads⟩ := m
        obtain ⟨places2, roads2⟩ := next
        obtain ⟨time, frm⟩ := s
        simp only at *
        simp (disch := omega) only [go_sem, K.smoke_Change, ↓reduceIte, v, f1, f2, h3, c1, c2, Nat.reduceAdd, Nat.reduceSub]
      · rw [if_neg (by omega)]
        have ht : inT t := by unfold inT at s2 ⊢; omega
        obtain ⟨time, frm⟩ := s
        simp only at s1 s2 s3 v c1 hs ⊢
        have hb : bnd frm := fun x hx => by
          have := s3 x hx
          unfold plS at this; unfold inT at s2; omega
        have jl := mxJ_len t frm
        have ja := mxJ_all t frm
        have l1 : ∀ z0 z2 z4 z10 z12 z13 z14 z15 z19 z20 z21 : D, exS CALL K.smoke_Change_l1 ⟨[z0, .t (tS old), z2, .t (tS fl), z4, I t, .bp 0 0, .bp 1 0, .bp 2 0, .bp 3 0, z10, .ref 4 0 frm.length, z12, z13, z14, z15, .t (tL frm), I frm.length, I 0, z19, z20, z21], [.box (mineCells m), .box (mineCells next), .box [I time, .t (tL frm)], .box [I 0, .nil], .arr 1 false 0 (((mxJ t frm 0).map (T.int .i64)).map .t)]⟩ =
            some (.exit 0, ⟨[.und, .t (tS old), .und, .t (tS fl), .und, I t, .bp 0 0, .bp 1 0, .bp 2 0, .bp 3 0, .und, .ref 4 0 frm.length, .und, .und, .und, .und, .t (tL frm), I frm.length, I frm.length, .und, .und, .und], [.box (mineCells m), .box (mineCells next), .box [I time, .t (tL frm)], .box [I 0, .nil], .arr 1 false 0 (((mxJ t frm frm.length).map (T.int .i64)).map .t)]⟩) := by
          intro z0 z2 z4 z10 z12 z13 z14 z15 z19 z20 z21
          refine loop_up (fun j => ⟨[.und, .t (tS old), .und, .t (tS fl), .und, I t, .bp 0 0, .bp 1 0, .bp 2 0, .bp 3 0, .und, .ref 4 0 frm.length, .und, .und, .und, .und, .t (tL frm), I frm.length, I j, .und, .und, .und], [.box (mineCells m), .box (mineCells next), .box [I time, .t (tL frm)], .box [I 0, .nil], .arr 1 false 0 (((mxJ t frm j).map (T.int .i64)).map .t)]⟩) frm.length rfl ?_ ?_ (by simp)
          · intro j hj
            have lj := jl j
            simp (disch := omega) only [go_sem, K.smoke_Change_l1b, ↓reduceIte, mxJ, Nat.reduceAdd, Nat.reduceSub]
          · simp (disch := omega) only [go_sem, K.smoke_Change_l1b, ↓reduceIte, Nat.reduceAdd, Nat.reduceSub]
        rw [ja] at l1
        simp only [mxJ] at l1
        have cl := cgN_len m old frm t
        have l2 : ∀ z0 z2 z4 z10 z12 z13 z14 z15 z16 z17 z18 : D, exS CALL K.smoke_Change_l2 ⟨[z0, .t (tS old), z2, .t (tS fl), z4, I t, .bp 0 0, .bp 1 0, .bp 2 0, .bp 3 0, z10, .ref 4 0 frm.length, z12, z13, z14, z15, z16, z17, z18, .t (.sl (m.roads.map Road.e)), I m.roads.length, I 0], [.box (mineCells m), .box (mineCells next), .box [I time, .t (tL frm)], .box [I 0, .nil], .arr 1 false 0 (((cgN m old frm t 0).map (T.int .i64)).map .t)]⟩ =
            some (.exit 2, ⟨[.und, .t (tS old), .und, .t (tS fl), .und, I t, .bp 0 0, .bp 1 0, .bp 2 0, .bp 3 0, .und, .ref 4 0 frm.length, .und, .und, .und, .und, .und, .und, .und, .t (.sl (m.roads.map Road.e)), I m.roads.length, I m.roads.length], [.box (mineCells m), .box (mineCells next), .box [I time, .t (tL frm)], .box [I 0, .nil], .arr 1 false 0 (((cgN m old frm t m.roads.length).map (T.int .i64)).map .t)]⟩) := by
          intro z0 z2 z4 z10 z12 z13 z14 z15 z16 z17 z18
          refine loop_up (fun j => ⟨[.und, .t (tS old), .und, .t (tS fl), .und, I t, .bp 0 0, .bp 1 0, .bp 2 0, .bp 3 0, .und, .ref 4 0 frm.length, .und, .und, .und, .und, .und, .und, .und, .t (.sl (m.roads.map Road.e)), I m.roads.length, I j], [.box (mineCells m), .box (mineCells next), .box [I time, .t (tL frm)], .box [I 0, .nil], .arr 1 false 0 (((cgN m old frm t j).map (T.int .i64)).map .t)]⟩) m.roads.length rfl ?_ ?_ (by simp)
          · intro j hj
            have st := cg_step h old o1 o2 time t ht frm (cgN m old frm t j) s1 (by rw [cgN_len, s1]) j hj (mineCells next) (.t (tS fl)) rfl rfl
            rw [cgN_len] at st
            exact st
          · simp (disch := omega) only [go_sem, K.smoke_Change_l2b, ↓reduceIte, Nat.reduceAdd, Nat.reduceSub]
        have cc := cgN_chN m old frm t m.roads.length
        have c3 := chN_len m old frm t m.roads.length
        have ca := maxN_all t (chN m old frm t m.roads.length)
        have cb := chN_bnd h old s1 hb ht m.roads.length (Nat.le_refl _)
        have tm := mxL_tm ht cb (chN_mem h s1 (fun x => x ≤ smMax ∨ x = 1099511627776) (fun x hx => by
          have := s3 x hx
          unfold plS at this; simp only [smMax]; omega) (by unfold inT at ht; simp only [smMax]; omega) _ (Nat.le_refl _))
        rw [c3, s1] at ca
        have lm : (mxL t (chN m old frm t m.roads.length)).length = next.places.length := by simp only [mxL, List.length_map]; omega
        rw [cc] at l2
        simp only [cgN] at l2
        rw [ca]
        generalize mxL t (chN m old frm t m.roads.length) = is at *
        have sp := (sSpread_ok hn fl h2 is lm tm.bnd).1
        have eq := spF_closeS hn (fl := fl) lm tm
        have lc := closeS_len2 hn (fl := fl) lm tm.bnd
        rw [eq] at sp
        have lf : is.length = frm.length := by omega
        have lf2 : (closeS next fl is).length = frm.length := by omega
        have mx0 : (mxL t frm).length = frm.length := by simp [mxL]
        generalize closeS next fl is = cs at *
        generalize hmx : mxL t frm = mx at *
        rw [lf] at sp
        clear cb tm ca c3 cc cl ja jl eq hb s3 o2 hmx lm lc
        have rp := repl_tt frm.length 0
        obtain ⟨places, roads⟩ := m
        obtain ⟨places2, roads2⟩ := next
        simp only [mineCells, smArg] at *
        simp (disch := omega) only [go_sem, K.smoke_Change, ↓reduceIte, v, f1, f2, h3, c1, c2, l1, l2, rp, sp, lf, lf2, Nat.reduceAdd, Nat.reduceSub]
end Go.Ev

/- Made inputs: mines. -/
namespace Go.Ev
open Go
variable [Lib] [Has1] [Has2]

@[go_sem] theorem appOK_place (l : List Place) : appOK 2 (l.map Place.e) = true := by cases l <;> rfl
@[go_sem] theorem appOK_road (l : List Road) : appOK 10 (l.map Road.e) = true := by cases l <;> rfl

@[go_sem] theorem ldBox_dice (H : Heap) (d : Dice) : ldBox H 0 1 false (some d.obj) = some (.t (tL d.L), H) := by simp only [Dice.obj, go_sem]

def Dice.placesN (d : Dice) : Nat → List Place × Dice
  | 0 => ([], d)
  | k + 1 => if k = 0 then ((d.placesN k).1 ++ [⟨-10 * ((d.placesN k).2.next 4).1, true⟩], ((d.placesN k).2.next 4).2)
    else ((d.placesN k).1 ++ [⟨-10 * ((d.placesN k).2.next 4).1, (((d.placesN k).2.next 4).2.one 6).1⟩], (((d.placesN k).2.next 4).2.one 6).2)

def Dice.road1 (d : Dice) (i : Int) : Road × Dice :=
  (⟨i - 1 - (d.next (min i 2)).1, i, 1 + ((d.next (min i 2)).2.of [11, 59, 119, 4]).1, 1 + (((d.next (min i 2)).2.of [11, 59, 119, 4]).2.of [9, 3, 19]).1, true, false, 1, 1, 0, 0⟩,
    (((d.next (min i 2)).2.of [11, 59, 119, 4]).2.of [9, 3, 19]).2)
def Dice.roadsN (d : Dice) : Nat → List Road × Dice
  | 0 => ([], d)
  | k + 1 => ((d.roadsN k).1 ++ [((d.roadsN k).2.road1 (k + 1)).1], ((d.roadsN k).2.road1 (k + 1)).2)

def Dice.road2 (d : Dice) (n : Int) : Road × Dice :=
  let a := d.next n
  let b := a.2.next n
  let l := b.2.of [11, 59, 199]
  let r := l.2.of [9, 3]
  let w := r.2.next 5
  let c := w.2.one 6
  (⟨a.1, b.1, 1 + l.1, 1 + r.1, decide (0 < w.1), c.1, 1, 1, 0, 0⟩, c.2)
def Dice.more (n : Int) (l : List Road) (d : Dice) : Nat → List Road × Dice
  | 0 => (l, d)
  | k + 1 => if l.length < 10 then Dice.more n (if (d.road2 n).1.frm = (d.road2 n).1.to then l else l ++ [(d.road2 n).1]) (d.road2 n).2 k else (l, d)

def Dice.mineN (d : Dice) : Nat := if d.L.length = 0 then 4 else (2 + (d.next 6).1).toNat
def Dice.mineP (d : Dice) : List Place × Dice := (d.next 6).2.placesN d.mineN
def Dice.mineR (d : Dice) : List Road × Dice := d.mineP.2.roadsN (d.mineN - 1)
def Dice.mineX (d : Dice) : List Road × Dice := Dice.more d.mineN d.mineR.1 (d.mineR.2.next 4).2 (d.mineR.2.next 4).1.toNat
def Dice.mine (d : Dice) : Mine × Dice := (⟨d.mineP.1, d.mineX.1⟩, d.mineX.2)

theorem Dice.placesN_light {d : Dice} (h : d.light) : ∀ n, (d.placesN n).2.light
  | 0 => h
  | n + 1 => by
    unfold Dice.placesN
    split
    · exact Dice.next_light (Dice.placesN_light h n) 4
    · exact Dice.one_light (Dice.next_light (Dice.placesN_light h n) 4) 6
theorem Dice.placesN_len (d : Dice) : ∀ n, (d.placesN n).1.length = n
  | 0 => rfl
  | n + 1 => by
    unfold Dice.placesN
    split <;> simp [d.placesN_len n]
theorem Dice.road1_light {d : Dice} (h : d.light) (i : Int) : (d.road1 i).2.light := Dice.of_light (Dice.of_light (Dice.next_light h _) _) _
theorem Dice.roadsN_light {d : Dice} (h : d.light) : ∀ n, (d.roadsN n).2.light
  | 0 => h
  | n + 1 => Dice.road1_light (Dice.roadsN_light h n) _
theorem Dice.roadsN_len (d : Dice) : ∀ n, (d.roadsN n).1.length = n
  | 0 => rfl
  | n + 1 => by simp [Dice.roadsN, d.roadsN_len n]
theorem Dice.road2_light {d : Dice} (h : d.light) (n : Int) : (d.road2 n).2.light := by
  unfold Dice.road2; simp only
  exact Dice.one_light (Dice.next_light (Dice.of_light (Dice.of_light (Dice.next_light (Dice.next_light h _) _) _) _) _) _
theorem Dice.more_light (n : Int) : ∀ (k : Nat) (l : List Road) {d : Dice}, d.light → (Dice.more n l d k).2.light
  | 0, l, d, h => h
  | k + 1, l, d, h => by
    unfold Dice.more
    split
    · exact Dice.more_light n k _ (Dice.road2_light h n)
    · exact h
theorem Dice.mine_light {d : Dice} (h : d.light) : d.mine.2.light :=
  Dice.more_light _ _ _ (Dice.next_light (Dice.roadsN_light (Dice.placesN_light (Dice.next_light h _) _) _) _)

abbrev roadBox : List D := [I 0, I 0, I 12, I 10, B true, B false, I 1, I 1, I 0, I 0]

theorem mine_loop1 (d : Dice) (hd : d.light) (n : Nat) (hn : n ≤ 8) (a b c e f : D) :
    exS CALL K.made_Dice_Mine_l1 ⟨[.bp 0 0, .bp 1 0, .bp 2 0, I n, I 0, a, b, c, e, f], [d.obj, .box [.nil, .nil], .box [.ref 3 0 0, .ref 4 0 0], .arr 2 false 0 [], .arr 10 false 0 []]⟩ =
    some (.exit 0, ⟨[.bp 0 0, .bp 1 0, .bp 2 0, I n, I n, .und, .und, .und, .und, .und], [(d.placesN n).2.obj, .box [.nil, .nil], .box [.ref 3 0 (d.placesN n).1.length, .ref 4 0 0], .arr 2 false 0 (((d.placesN n).1.map Place.e).map .t), .arr 10 false 0 []]⟩) := by
  refine loop_up (fun j => ⟨[.bp 0 0, .bp 1 0, .bp 2 0, I n, I j, .und, .und, .und, .und, .und], [(d.placesN j).2.obj, .box [.nil, .nil], .box [.ref 3 0 (d.placesN j).1.length, .ref 4 0 0], .arr 2 false 0 (((d.placesN j).1.map Place.e).map .t), .arr 10 false 0 []]⟩) n rfl ?_ ?_ (by simp)
  · intro j hj
    have ln := d.placesN_len j
    have lt := Dice.placesN_light hd j
    simp only [Dice.placesN]
    generalize d.placesN j = s at *
    obtain ⟨l, d1⟩ := s
    simp only at ln lt ⊢
    have h1 := next_ok d1 4 (by omega) lt
    have b1 := d1.next_lo 4
    have b2 := d1.next_hi (n := 4) (by omega)
    have l1 := Dice.next_light lt 4
    generalize d1.next 4 = a1 at *
    obtain ⟨x, d2⟩ := a1
    simp only at h1 b1 b2 l1 ⊢
    by_cases j0 : j = 0
    · subst j0
      simp (disch := omega) only [go_sem, K.made_Dice_Mine_l1b, h1, ↓reduceIte, Nat.reduceAdd, Nat.reduceSub]
    · have h2 := one_ok d2 6 (by omega) (by omega) l1
      simp (disch := omega) only [go_sem, K.made_Dice_Mine_l1b, h1, h2, j0, ↓reduceIte, Nat.reduceAdd, Nat.reduceSub]
  · simp (disch := omega) only [go_sem, K.made_Dice_Mine_l1b, ↓reduceIte]

theorem mine_loop2 (d : Dice) (hd : d.light) (n : Nat) (hn : n ≤ 8) (h1 : 1 ≤ n) (ps : List Place) (a b c e : D) :
    exS CALL K.made_Dice_Mine_l2 ⟨[.bp 0 0, .bp 1 0, .bp 2 0, I n, a, .bp 5 0, I 1, b, c, e], [d.obj, .box [.nil, .nil], .box [.ref 3 0 ps.length, .ref 4 0 0], .arr 2 false 0 ((ps.map Place.e).map .t), .arr 10 false 0 [], .box roadBox]⟩ =
    some (.exit 2, ⟨[.bp 0 0, .bp 1 0, .bp 2 0, I n, .und, .bp 5 0, I n, .und, .und, .und], [(d.roadsN (n - 1)).2.obj, .box [.nil, .nil], .box [.ref 3 0 ps.length, .ref 4 0 (d.roadsN (n - 1)).1.length], .arr 2 false 0 ((ps.map Place.e).map .t), .arr 10 false 0 (((d.roadsN (n - 1)).1.map Road.e).map .t), .box roadBox]⟩) := by
  refine loop_up (fun j => ⟨[.bp 0 0, .bp 1 0, .bp 2 0, I n, .und, .bp 5 0, I (j + 1), .und, .und, .und], [(d.roadsN j).2.obj, .box [.nil, .nil], .box [.ref 3 0 ps.length, .ref 4 0 (d.roadsN j).1.length], .arr 2 false 0 ((ps.map Place.e).map .t), .arr 10 false 0 (((d.roadsN j).1.map Road.e).map .t), .box roadBox]⟩) (n - 1) rfl ?_ ?_ (by simp)
  · intro j hj
    have ln := d.roadsN_len j
    have lt := Dice.roadsN_light hd j
    simp only [Dice.roadsN]
    generalize d.roadsN j = s at *
    obtain ⟨l, d1⟩ := s
    simp only [Dice.road1] at ln lt ⊢
    have h1 := next_ok d1 (min ((j : Int) + 1) 2) (by omega) lt
    have b1 := d1.next_lo (min ((j : Int) + 1) 2)
    have b2 := d1.next_hi (n := min ((j : Int) + 1) 2) (by omega)
    have l1 := Dice.next_light lt (min ((j : Int) + 1) 2)
    generalize d1.next (min ((j : Int) + 1) 2) = a1 at *
    obtain ⟨x, d2⟩ := a1
    simp only at h1 b1 b2 l1 ⊢
    have h2 := of_ok d2 [11, 59, 119, 4] (by simp) (by simp) l1
    have m2 := d2.of_mem (l := [11, 59, 119, 4]) (by simp)
    have l2 := Dice.of_light l1 [11, 59, 119, 4]
    generalize d2.of [11, 59, 119, 4] = a2 at *
    obtain ⟨y, d3⟩ := a2
    simp only [tL, List.map_cons, List.map_nil] at h2 m2 l2 ⊢
    have h3 := of_ok d3 [9, 3, 19] (by simp) (by simp) l2
    have m3 := d3.of_mem (l := [9, 3, 19]) (by simp)
    generalize d3.of [9, 3, 19] = a3 at *
    obtain ⟨z, d4⟩ := a3
    simp only [tL, List.map_cons, List.map_nil, List.mem_cons, List.not_mem_nil, or_false] at h3 m2 m3 ⊢
    simp (disch := omega) only [go_sem, K.made_Dice_Mine_l2b, h1, h2, h3, ↓reduceIte, Nat.reduceAdd, Nat.reduceSub]
  · simp (disch := omega) only [go_sem, K.made_Dice_Mine_l2b, ↓reduceIte]
    rw [show ((n - 1 : Nat) : Int) + 1 = n by omega]

abbrev mineH (d : Dice) (ps : List Place) (l : List Road) : Heap := [d.obj, .box [.nil, .nil], .box [.ref 3 0 ps.length, .ref 4 0 l.length], .arr 2 false 0 ((ps.map Place.e).map .t), .arr 10 false 0 ((l.map Road.e).map .t), .box roadBox]

theorem mine_round (d : Dice) (hd : d.light) (n : Int) (hn : 1 ≤ n) (hn2 : n ≤ 8) (ps : List Place) (l : List Road) (hl : l.length < 10) (k : Nat) (hk : k ≤ 10) :
    roundC true [4, 6, 7, 9] 6 (exS CALL K.made_Dice_Mine_l3b ⟨[.bp 0 0, .bp 1 0, .bp 2 0, I n, .und, .bp 5 0, .und, .und, I (k + 1), .und], mineH d ps l⟩) =
    some ⟨[.bp 0 0, .bp 1 0, .bp 2 0, I n, .und, .bp 5 0, .und, .und, I k, .und], mineH (d.road2 n).2 ps (if (d.road2 n).1.frm = (d.road2 n).1.to then l else l ++ [(d.road2 n).1])⟩ := by
  unfold Dice.road2 mineH
  simp only
  have h1 := next_ok d n (by omega) hd
  have l1 := Dice.next_light hd n
  generalize d.next n = a1 at *
  obtain ⟨x1, d1⟩ := a1
  simp only at h1 l1 ⊢
  have h2 := next_ok d1 n (by omega) l1
  have l2 := Dice.next_light l1 n
  generalize d1.next n = a2 at *
  obtain ⟨x2, d2⟩ := a2
  simp only at h2 l2 ⊢
  have h3 := of_ok d2 [11, 59, 199] (by simp) (by simp) l2
  have m3 := d2.of_mem (l := [11, 59, 199]) (by simp)
  have l3 := Dice.of_light l2 [11, 59, 199]
  generalize d2.of [11, 59, 199] = a3 at *
  obtain ⟨x3, d3⟩ := a3
  simp only [tL, List.map_cons, List.map_nil] at h3 m3 l3 ⊢
  have h4 := of_ok d3 [9, 3] (by simp) (by simp) l3
  have m4 := d3.of_mem (l := [9, 3]) (by simp)
  have l4 := Dice.of_light l3 [9, 3]
  generalize d3.of [9, 3] = a4 at *
  obtain ⟨x4, d4⟩ := a4
  simp only [tL, List.map_cons, List.map_nil] at h4 m4 l4 ⊢
  have h5 := next_ok d4 5 (by omega) l4
  have l5 := Dice.next_light l4 5
  generalize d4.next 5 = a5 at *
  obtain ⟨x5, d5⟩ := a5
  simp only at h5 l5 ⊢
  have h6 := one_ok d5 6 (by omega) (by omega) l5
  generalize d5.one 6 = a6 at *
  obtain ⟨x6, d6⟩ := a6
  simp only [List.mem_cons, List.not_mem_nil, or_false] at h6 m3 m4 ⊢
  by_cases e : x1 = x2
  · simp (disch := omega) only [go_sem, K.made_Dice_Mine_l3b, h1, h2, h3, h4, h5, h6, e, ↓reduceIte, Nat.reduceAdd, Nat.reduceSub]
  · simp (disch := omega) only [go_sem, K.made_Dice_Mine_l3b, h1, h2, h3, h4, h5, h6, e, ↓reduceIte, Nat.reduceAdd, Nat.reduceSub]

theorem mine_loop3 (n : Int) (hn : 1 ≤ n) (hn2 : n ≤ 8) (ps : List Place) : ∀ (k : Nat) (d : Dice) (l : List Road), d.light → l.length ≤ 10 → k ≤ 10 →
    ∃ z : Int, loopC true [4, 6, 7, 9] (exS CALL K.made_Dice_Mine_l3b) ⟨[.bp 0 0, .bp 1 0, .bp 2 0, I n, .und, .bp 5 0, .und, .und, I k, .und], mineH d ps l⟩ =
    some (.exit 4, ⟨[.bp 0 0, .bp 1 0, .bp 2 0, I n, .und, .bp 5 0, .und, .und, I z, .und], mineH (Dice.more n l d k).2 ps (Dice.more n l d k).1⟩)
  | 0, d, l, hd, hl, hk => by
    refine ⟨0, loopC_exit ?_ (by simp)⟩
    simp (disch := omega) only [go_sem, K.made_Dice_Mine_l3b, Dice.more, ↓reduceIte, Nat.reduceAdd, Nat.reduceSub]
  | k + 1, d, l, hd, hl, hk => by
    by_cases h : l.length < 10
    · have hr := mine_round d hd n hn hn2 ps l h k (by omega)
      obtain ⟨z, hz⟩ := mine_loop3 n hn hn2 ps k (d.road2 n).2 (if (d.road2 n).1.frm = (d.road2 n).1.to then l else l ++ [(d.road2 n).1]) (Dice.road2_light hd n) (by split <;> (try rw [List.length_append, List.length_singleton]) <;> omega) (by omega)
      refine ⟨z, loopC_step hr ?_⟩
      rw [hz]
      simp only [Dice.more, if_pos h]
    · refine ⟨(k : Int) + 1, loopC_exit ?_ (by simp)⟩
      simp (disch := omega) only [go_sem, K.made_Dice_Mine_l3b, Dice.more, ↓reduceIte, Nat.reduceAdd, Nat.reduceSub]

theorem Dice.more_len (n : Int) : ∀ (k : Nat) (l : List Road) (d : Dice), l.length ≤ 10 → (Dice.more n l d k).1.length ≤ 10
  | 0, l, d, h => h
  | k + 1, l, d, h => by
    unfold Dice.more
    split
    · exact Dice.more_len n k _ _ (by split <;> (try rw [List.length_append, List.length_singleton]) <;> omega)
    · exact h

theorem Dice.mineN_bd (d : Dice) : 2 ≤ d.mineN ∧ d.mineN ≤ 7 := by
  unfold Dice.mineN
  have := d.next_lo 6
  have := d.next_hi (n := 6) (by omega)
  split <;> omega

theorem mine_ok (d : Dice) (hd : d.light) : CALL 0 N.made_Dice_Mine [.bp 0 0] [d.obj] = some (.t d.mine.1.e, [d.mine.2.obj]) := by
  refine CALL_of K.t_made_Dice_Mine rfl ?_
  have nb := d.mineN_bd
  unfold Dice.mine
  have h0 := next_ok d 6 (by omega) hd
  have l0 := Dice.next_light hd 6
  have b1 := d.next_lo 6
  have b2 := d.next_hi (n := 6) (by omega)
  have hL := d.next_L 6
  have hN : (d.mineN : Int) = if d.L.length = 0 then 4 else 2 + (d.next 6).1 := by unfold Dice.mineN; split <;> omega
  have e1 : d.mineX = Dice.more d.mineN d.mineR.1 (d.mineR.2.next 4).2 (d.mineR.2.next 4).1.toNat := rfl
  have e2 : d.mineR = d.mineP.2.roadsN (d.mineN - 1) := rfl
  have e3 : d.mineP = (d.next 6).2.placesN d.mineN := rfl
  generalize d.mineX = X at *
  generalize d.mineR = R at *
  generalize d.mineP = P at *
  generalize d.mineN = n at *
  generalize d.next 6 = a at *
  obtain ⟨x, d1⟩ := a
  simp only at h0 l0 b1 b2 hL hN e3 ⊢
  have q1 := mine_loop1 d1 l0 n (by omega)
  have lP := Dice.placesN_light l0 n
  have nP := d1.placesN_len n
  rw [← e3] at q1 lP nP
  obtain ⟨ps, d2⟩ := P
  simp only at q1 lP nP e2 ⊢
  have q2 := mine_loop2 d2 lP n (by omega) (by omega) ps
  have lR := Dice.roadsN_light lP (n - 1)
  have nR := d2.roadsN_len (n - 1)
  rw [← e2] at q2 lR nR
  obtain ⟨rs, d3⟩ := R
  simp only at q2 lR nR e1 ⊢
  have h4 := next_ok d3 4 (by omega) lR
  have l4 := Dice.next_light lR 4
  have b3 := d3.next_lo 4
  have b4 := d3.next_hi (n := 4) (by omega)
  generalize d3.next 4 = c at *
  obtain ⟨y, d4⟩ := c
  simp only at h4 l4 b3 b4 e1 ⊢
  obtain ⟨z, q3⟩ := mine_loop3 n (by omega) (by omega) ps y.toNat d4 rs l4 (by omega) (by omega)
  rw [← e1] at q3
  have q3 := loop_is (vs := [.bp 0 0, .bp 1 0, .bp 2 0, I n, .und, .bp 5 0, I n, .und, I y.toNat, .und]) q3
  have ey : (y.toNat : Int) = y := by omega
  rw [ey] at q3
  obtain ⟨xs, d5⟩ := X
  have fin : ∀ k : Int, (exS CALL K.made_Dice_Mine_l3 ⟨[.bp 0 0, .bp 1 0, .bp 2 0, I n, .und, .bp 5 0, I n, .und, I y, .und], mineH d4 ps rs⟩) =
      some (.exit 4, ⟨[.bp 0 0, .bp 1 0, .bp 2 0, I n, .und, .bp 5 0, .und, .und, I z, .und], mineH d5 ps xs⟩) := fun _ => q3
  clear q3
  have q3 := fin 0
  clear fin
  simp only [mineH] at q3
  by_cases c0 : d.L.length = 0
  · rw [if_pos c0] at hN
    obtain rfl : n = 4 := by omega
    have e4 : ((4 : Nat) : Int) = 4 := rfl
    simp only [e4] at q1 q2 q3
    simp (disch := omega) only [go_sem, K.made_Dice_Mine, ↓reduceIte, h0, c0, q1, q2, q3, h4, hL, Nat.reduceAdd, Nat.reduceSub]
  · rw [if_neg c0] at hN
    simp (disch := omega) only [go_sem, K.made_Dice_Mine, ↓reduceIte, h0, c0, q1, q2, q3, h4, hL, hN.symm, Nat.reduceAdd, Nat.reduceSub]

theorem Dice.road1_ok (d : Dice) {n : Nat} {i : Int} (h1 : 1 ≤ i) (h2 : i < n) : (d.road1 i).1.ok n := by
  have b1 := d.next_lo (min i 2)
  have b2 := d.next_hi (n := min i 2) (by omega)
  have m2 := (d.next (min i 2)).2.of_mem (l := [11, 59, 119, 4]) (by simp)
  have m3 := ((d.next (min i 2)).2.of [11, 59, 119, 4]).2.of_mem (l := [9, 3, 19]) (by simp)
  simp only [List.mem_cons, List.not_mem_nil, or_false] at m2 m3
  unfold Dice.road1
  constructor <;> (simp only; omega)

theorem Dice.roadsN_ok (d : Dice) {n : Nat} : ∀ k, k + 1 ≤ n → ∀ r ∈ (d.roadsN k).1, r.ok n
  | 0, _, r, hr => by simp [Dice.roadsN] at hr
  | k + 1, h, r, hr => by
    simp only [Dice.roadsN, List.mem_append, List.mem_singleton] at hr
    rcases hr with hr | rfl
    · exact d.roadsN_ok k (by omega) r hr
    · exact Dice.road1_ok _ (by omega) (by omega)

theorem Dice.road2_ok (d : Dice) {n : Nat} (hn : 1 ≤ n) (hne : (d.road2 n).1.frm ≠ (d.road2 n).1.to) : (d.road2 n).1.ok n := by
  unfold Dice.road2 at hne ⊢
  simp only at hne ⊢
  have b1 := d.next_lo n
  have b2 := d.next_hi (n := (n : Int)) (by omega)
  generalize d.next n = a1 at *
  obtain ⟨x1, d1⟩ := a1
  simp only at *
  have c1 := d1.next_lo n
  have c2 := d1.next_hi (n := (n : Int)) (by omega)
  generalize d1.next n = a2 at *
  obtain ⟨x2, d2⟩ := a2
  simp only at *
  have m3 := d2.of_mem (l := [11, 59, 199]) (by simp)
  generalize d2.of [11, 59, 199] = a3 at *
  obtain ⟨x3, d3⟩ := a3
  simp only at *
  have m4 := d3.of_mem (l := [9, 3]) (by simp)
  generalize d3.of [9, 3] = a4 at *
  obtain ⟨x4, d4⟩ := a4
  simp only [List.mem_cons, List.not_mem_nil, or_false] at m3 m4 ⊢
  constructor <;> (simp only; omega)

theorem Dice.more_ok {n : Nat} (hn : 1 ≤ n) : ∀ (k : Nat) (l : List Road) (d : Dice), (∀ r ∈ l, r.ok n) → ∀ r ∈ (Dice.more n l d k).1, r.ok n
  | 0, l, d, h => h
  | k + 1, l, d, h => by
    unfold Dice.more
    split
    · refine Dice.more_ok hn k _ _ ?_
      split
      · exact h
      · rename_i hne
        intro r hr
        rcases List.mem_append.1 hr with hr | hr
        · exact h r hr
        · rw [List.mem_singleton.1 hr]; exact d.road2_ok hn hne
    · exact h

theorem Dice.more_len2 (n : Int) : ∀ (k : Nat) (l : List Road) (d : Dice), l.length ≤ (Dice.more n l d k).1.length
  | 0, l, d => Nat.le_refl _
  | k + 1, l, d => by
    unfold Dice.more
    split
    · refine Nat.le_trans ?_ (Dice.more_len2 n k _ _)
      split <;> (try rw [List.length_append]) <;> omega
    · exact Nat.le_refl _

theorem Dice.placesN_h (d : Dice) : ∀ k, ∀ p ∈ (d.placesN k).1, -30 ≤ p.h ∧ p.h ≤ 0
  | 0, p, hp => by simp [Dice.placesN] at hp
  | k + 1, p, hp => by
    have b1 := (d.placesN k).2.next_lo 4
    have b2 := (d.placesN k).2.next_hi (n := 4) (by omega)
    unfold Dice.placesN at hp
    split at hp
    all_goals
      simp only [List.mem_append, List.mem_singleton] at hp
      rcases hp with hp | rfl
      · exact d.placesN_h k p hp
      · simp only; omega

theorem Dice.mine_places (d : Dice) : d.mine.1.places.length = d.mineN := Dice.placesN_len _ _
theorem Dice.mine_roads (d : Dice) : d.mineN - 1 ≤ d.mine.1.roads.length ∧ d.mine.1.roads.length ≤ 10 := by
  have nb := d.mineN_bd
  have e : d.mineR.1.length = d.mineN - 1 := Dice.roadsN_len _ _
  constructor
  · rw [← e]; exact Dice.more_len2 _ _ _ _
  · exact Dice.more_len _ _ _ _ (by omega)
theorem Dice.mine_good (d : Dice) : d.mine.1.ok := by
  have nb := d.mineN_bd
  have h1 := d.mine_places
  have h2 := d.mine_roads
  refine ⟨by omega, by omega, fun p hp => ?_, ?_⟩
  · have := Dice.placesN_h _ _ p hp; omega
  · rw [h1]
    exact Dice.more_ok (by omega) _ _ _ (Dice.roadsN_ok _ _ (by omega))

end Go.Ev

/- Made inputs: flows of the air. -/
namespace Go.Ev
open Go
variable [Lib] [Has1] [Has2]

@[go_sem] theorem appOK_spn (l : List Spn) : appOK 2 (l.map Spn.e) = true := by cases l <;> rfl
@[go_sem] theorem set_spn (l : List Spn) (k : Nat) (a b : Int) : (List.map D.t (List.map Spn.e l)).set k (D.t (T.agg [tI a, tI b])) = List.map D.t (List.map Spn.e (l.set k ⟨a, b⟩)) := by
  rw [List.map_set, List.map_set]

@[go_sem] theorem opBs_6 (H : Heap) (sz : Nat) (a b c d e f : T) : opBs H sz [.t a, .t b, .t c, .t d, .t e, .t f] = if cellsAre sz [a, b, c, d, e, f] = true then some (.t (.sl [a, b, c, d, e, f]), H) else none := opBs_if H sz [a, b, c, d, e, f]
@[go_sem] theorem opBs_7 (H : Heap) (sz : Nat) (a b c d e f g : T) : opBs H sz [.t a, .t b, .t c, .t d, .t e, .t f, .t g] = if cellsAre sz [a, b, c, d, e, f, g] = true then some (.t (.sl [a, b, c, d, e, f, g]), H) else none := opBs_if H sz [a, b, c, d, e, f, g]
@[go_sem] theorem opBs_8 (H : Heap) (sz : Nat) (a b c d e f g h : T) : opBs H sz [.t a, .t b, .t c, .t d, .t e, .t f, .t g, .t h] = if cellsAre sz [a, b, c, d, e, f, g, h] = true then some (.t (.sl [a, b, c, d, e, f, g, h]), H) else none := opBs_if H sz [a, b, c, d, e, f, g, h]

@[go_sem] theorem app2_last {α β γ : Type} {l : List α} {g : α → β} {f : β → γ} {x : γ} {j : Nat} (h : j = l.length) : (List.map f (List.map g l) ++ [x])[j]? = some x := by
  rw [List.getElem?_append_right (by simp; omega)]; simp [h]
@[go_sem] theorem app2_set {α β γ : Type} {l : List α} {g : α → β} {f : β → γ} {x y : γ} {j : Nat} (h : j = l.length) : (List.map f (List.map g l) ++ [x]).set j y = List.map f (List.map g l) ++ [y] := by
  rw [List.set_append_right _ _ (by simp; omega)]; simp [h]

def Dice.flow1 (d : Dice) : Spn × Dice :=
  let a := d.of [0, 1000, 5000, 20000, -5000, -20000, 4999, 100]
  let b := a.2.of [0, 1, 1000, 6000]
  let c := b.2.of [0, 1, 500]
  let w := c.2.one 9
  (if w.1 = true then ⟨-1125899906842624, 1125899906842624⟩ else ⟨a.1 - b.1, a.1 + c.1⟩, w.2)
def Dice.flowsN (d : Dice) : Nat → List Spn × Dice
  | 0 => ([], d)
  | k + 1 => ((d.flowsN k).1 ++ [((d.flowsN k).2.flow1).1], ((d.flowsN k).2.flow1).2)
def Dice.flows (d : Dice) (m : Mine) : List Spn × Dice := d.flowsN m.roads.length

theorem Dice.flow1_light {d : Dice} (h : d.light) : d.flow1.2.light := by
  unfold Dice.flow1; simp only
  exact Dice.one_light (Dice.of_light (Dice.of_light (Dice.of_light h [0, 1000, 5000, 20000, -5000, -20000, 4999, 100]) [0, 1, 1000, 6000]) [0, 1, 500]) 9
theorem Dice.flowsN_light {d : Dice} (h : d.light) : ∀ n, (d.flowsN n).2.light
  | 0 => h
  | n + 1 => by simp only [Dice.flowsN]; exact Dice.flow1_light (Dice.flowsN_light h n)
theorem Dice.flowsN_len (d : Dice) : ∀ n, (d.flowsN n).1.length = n
  | 0 => rfl
  | n + 1 => by simp [Dice.flowsN, d.flowsN_len n]

theorem flow1_good (d : Dice) : d.flow1.1.ok := by
  unfold Dice.flow1; simp only
  have m1 := d.of_mem (l := [0, 1000, 5000, 20000, -5000, -20000, 4999, 100]) (by simp)
  generalize d.of [0, 1000, 5000, 20000, -5000, -20000, 4999, 100] = a at *
  obtain ⟨x, d1⟩ := a
  have m2 := d1.of_mem (l := [0, 1, 1000, 6000]) (by simp)
  simp only
  generalize d1.of [0, 1, 1000, 6000] = b at *
  obtain ⟨y, d2⟩ := b
  have m3 := d2.of_mem (l := [0, 1, 500]) (by simp)
  simp only
  generalize d2.of [0, 1, 500] = c at *
  obtain ⟨z, d3⟩ := c
  simp only [List.mem_cons, List.not_mem_nil, or_false] at m1 m2 m3 ⊢
  unfold Spn.ok
  split <;> (simp only; omega)

theorem Dice.flowsN_good (d : Dice) : ∀ n, ∀ x ∈ (d.flowsN n).1, x.ok
  | 0, x, hx => by simp [Dice.flowsN] at hx
  | n + 1, x, hx => by
    simp only [Dice.flowsN, List.mem_append, List.mem_singleton] at hx
    rcases hx with hx | rfl
    · exact d.flowsN_good n x hx
    · exact flow1_good _

theorem flows_round (d : Dice) (hd : d.light) (m : Mine) (hm : m.roads.length ≤ 1000) (j : Nat) (hj : j < m.roads.length) (l : List Spn) (hl : l.length = j) :
    roundC true [1, 3, 6] 3 (exS CALL K.made_Dice_Flows_l1b ⟨[.bp 0 0, .und, .bp 1 0, .und, .ref 2 0 l.length, I j, .und], [d.obj, .box [.t (.sl (m.places.map Place.e)), .t (.sl (m.roads.map Road.e))], .arr 2 false 0 ((l.map Spn.e).map .t)]⟩) =
    some ⟨[.bp 0 0, .und, .bp 1 0, .und, .ref 2 0 (l ++ [d.flow1.1]).length, I (j + 1), .und], [d.flow1.2.obj, .box [.t (.sl (m.places.map Place.e)), .t (.sl (m.roads.map Road.e))], .arr 2 false 0 (((l ++ [d.flow1.1]).map Spn.e).map .t)]⟩ := by
  unfold Dice.flow1; simp only
  have h1 := of_ok d [0, 1000, 5000, 20000, -5000, -20000, 4999, 100] (by simp) (by simp) hd
  have l1 := Dice.of_light hd [0, 1000, 5000, 20000, -5000, -20000, 4999, 100]
  have m1 := d.of_mem (l := [0, 1000, 5000, 20000, -5000, -20000, 4999, 100]) (by simp)
  generalize d.of [0, 1000, 5000, 20000, -5000, -20000, 4999, 100] = a at *
  obtain ⟨x, d1⟩ := a
  simp only [tL, List.map_cons, List.map_nil] at h1 l1 ⊢
  have h2 := of_ok d1 [0, 1, 1000, 6000] (by simp) (by simp) l1
  have l2 := Dice.of_light l1 [0, 1, 1000, 6000]
  have m2 := d1.of_mem (l := [0, 1, 1000, 6000]) (by simp)
  generalize d1.of [0, 1, 1000, 6000] = b at *
  obtain ⟨y, d2⟩ := b
  simp only [tL, List.map_cons, List.map_nil] at h2 l2 ⊢
  have h3 := of_ok d2 [0, 1, 500] (by simp) (by simp) l2
  have l3 := Dice.of_light l2 [0, 1, 500]
  have m3 := d2.of_mem (l := [0, 1, 500]) (by simp)
  generalize d2.of [0, 1, 500] = c at *
  obtain ⟨z, d3⟩ := c
  simp only [tL, List.map_cons, List.map_nil] at h3 l3 ⊢
  have h4 := one_ok d3 9 (by omega) (by omega) l3
  generalize d3.one 9 = e at *
  obtain ⟨w, d4⟩ := e
  simp only [List.mem_cons, List.not_mem_nil, or_false] at m1 m2 m3 h4 ⊢
  have st : (l ++ [(⟨x - y, x + z⟩ : Spn)]).set j ⟨-1125899906842624, 1125899906842624⟩ = l ++ [⟨-1125899906842624, 1125899906842624⟩] := by
    rw [List.set_append_right _ _ (by omega), hl, Nat.sub_self]; rfl
  cases w with
  | true =>
    simp (disch := omega) only [go_sem, K.made_Dice_Flows_l1b, ↓reduceIte, h1, h2, h3, h4, Nat.reduceAdd, Nat.reduceSub]
  | false =>
    simp (disch := omega) only [go_sem, K.made_Dice_Flows_l1b, ↓reduceIte, h1, h2, h3, h4, Nat.reduceAdd, Nat.reduceSub]

theorem flowsD_ok (d : Dice) (hd : d.light) (m : Mine) (hm : m.roads.length ≤ 1000) : CALL 0 N.made_Dice_Flows [.bp 0 0, .t m.e] [d.obj] = some (.t (tS (d.flows m).1), [(d.flows m).2.obj]) := by
  refine CALL_of K.t_made_Dice_Flows rfl ?_
  unfold Dice.flows
  have ln := d.flowsN_len
  have loop : ∀ a b c : D, exS CALL K.made_Dice_Flows_l1 ⟨[.bp 0 0, a, .bp 1 0, b, .ref 2 0 0, I 0, c], [d.obj, .box [.t (.sl (m.places.map Place.e)), .t (.sl (m.roads.map Road.e))], .arr 2 false 0 []]⟩ =
      some (.exit 0, ⟨[.bp 0 0, .und, .bp 1 0, .und, .ref 2 0 (d.flowsN m.roads.length).1.length, I m.roads.length, .und], [(d.flowsN m.roads.length).2.obj, .box [.t (.sl (m.places.map Place.e)), .t (.sl (m.roads.map Road.e))], .arr 2 false 0 (((d.flowsN m.roads.length).1.map Spn.e).map .t)]⟩) := by
    intro a b c
    refine loop_up (fun j => ⟨[.bp 0 0, .und, .bp 1 0, .und, .ref 2 0 (d.flowsN j).1.length, I j, .und], [(d.flowsN j).2.obj, .box [.t (.sl (m.places.map Place.e)), .t (.sl (m.roads.map Road.e))], .arr 2 false 0 (((d.flowsN j).1.map Spn.e).map .t)]⟩) m.roads.length rfl ?_ ?_ (by simp)
    · intro j hj
      exact flows_round (d.flowsN j).2 (Dice.flowsN_light hd j) m hm j hj (d.flowsN j).1 (ln j)
    · simp (disch := omega) only [go_sem, K.made_Dice_Flows_l1b, ↓reduceIte]
  have ln := ln m.roads.length
  generalize d.flowsN m.roads.length = r at *
  obtain ⟨l, d1⟩ := r
  simp only at ln loop ⊢
  simp (disch := omega) only [go_sem, K.made_Dice_Flows, ↓reduceIte, loop]

end Go.Ev

/- Made inputs, briefly: there are such data, and what holds of them. -/
namespace Go.Ev
open Go
variable [Lib] [Has1] [Has2]

theorem loop_x {gc : Bool} {dead : List Nat} {c : C} {vs : List D} {H : Heap} (P : Nat → St → Prop) (n : Nat) (Q : Ex × St → Prop) (h0 : P 0 ⟨dropV dead vs, H⟩)
    (hs : ∀ j st, j < n → P j st → (∃ st', roundC gc dead st.H.length (exS CALL c st) = some st' ∧ P (j + 1) st') ∨ ∃ q, exS CALL c st = some q ∧ q.1 ≠ .normal ∧ Q q)
    (he : ∀ st, P n st → ∃ q, exS CALL c st = some q ∧ q.1 ≠ .normal ∧ Q q) : ∃ q, exS CALL (.loop gc dead c) ⟨vs, H⟩ = some q ∧ Q q := by
  have key : ∀ (k j : Nat) (st : St), j + k = n → P j st → ∃ q, loopC gc dead (exS CALL c) st = some q ∧ Q q := by
    intro k
    induction k with
    | zero =>
      intro j st hj hp
      obtain ⟨q, h1, h2, h3⟩ := he st (by rw [← hj]; exact hp)
      exact ⟨q, loopC_exit h1 h2, h3⟩
    | succ k ih =>
      intro j st hj hp
      rcases hs j st (by omega) hp with ⟨st', h1, h2⟩ | ⟨q, h1, h2, h3⟩
      · obtain ⟨q, h3, h4⟩ := ih (j + 1) st' (by omega) h2
        exact ⟨q, loopC_step h1 h3, h4⟩
      · exact ⟨q, loopC_exit h1 h2, h3⟩
  exact key n 0 _ (by omega) h0

theorem roll_x (l : List Int) : CALL 0 N.made_Roll [.t (tL l)] [] = some (.bp 0 0, [Dice.obj ⟨l, 0⟩]) := by
  refine CALL_of K.t_made_Roll rfl ?_
  simp (disch := omega) only [go_sem, K.made_Roll, ↓reduceIte, Dice.obj, Nat.reduceAdd, Nat.reduceSub]
theorem next_x {d : Dice} (hd : d.light) (n : Int) (h1 : 1 ≤ n) (hn : n ≤ 4611686018427387904) :
    ∃ (v : Int) (e : Dice), CALL 0 N.made_Dice_Next [.bp 0 0, I n] [d.obj] = some (I v, [e.obj]) ∧ e.light ∧ 0 ≤ v ∧ v < n :=
  ⟨_, _, next_ok d n hn hd, Dice.next_light hd n, d.next_lo n, d.next_hi h1⟩
theorem one_x {d : Dice} (hd : d.light) (n : Int) (h1 : 0 ≤ n) (hn : n ≤ 4611686018427387904) :
    ∃ (b : Bool) (e : Dice), CALL 0 N.made_Dice_One [.bp 0 0, I n] [d.obj] = some (B b, [e.obj]) ∧ e.light :=
  ⟨_, _, one_ok d n h1 hn hd, Dice.one_light hd n⟩
theorem of_x {d : Dice} (hd : d.light) (l : List Int) (hl : l ≠ []) (hn : l.length ≤ 4294967296) :
    ∃ (v : Int) (e : Dice), CALL 0 N.made_Dice_Of [.bp 0 0, .t (tL l)] [d.obj] = some (I v, [e.obj]) ∧ e.light ∧ v ∈ l :=
  ⟨_, _, of_ok d l hl hn hd, Dice.of_light hd l, d.of_mem hl⟩
theorem mine_x {d : Dice} (hd : d.light) :
    ∃ (m : Mine) (e : Dice), CALL 0 N.made_Dice_Mine [.bp 0 0] [d.obj] = some (.t m.e, [e.obj]) ∧ e.light ∧ m.ok ∧ 2 ≤ m.places.length ∧ m.places.length ≤ 7 ∧ 1 ≤ m.roads.length ∧ m.roads.length ≤ 10 := by
  have b := d.mineN_bd
  have p := d.mine_places
  have r := d.mine_roads
  exact ⟨_, _, mine_ok d hd, Dice.mine_light hd, d.mine_good, by omega, by omega, by omega, by omega⟩
theorem flows_x {d : Dice} (hd : d.light) {m : Mine} (hm : m.ok) :
    ∃ (l : List Spn) (e : Dice), CALL 0 N.made_Dice_Flows [.bp 0 0, .t m.e] [d.obj] = some (.t (tS l), [e.obj]) ∧ e.light ∧ l.length = m.roads.length ∧ (∀ x ∈ l, x.ok) := by
  have nr := hm.nr
  exact ⟨_, _, flowsD_ok d hd m (by omega), Dice.flowsN_light hd _, d.flowsN_len _, d.flowsN_good _⟩
end Go.Ev

/- SmokeSources. -/
namespace Go.Ev
open Go
variable [Lib] [Has1] [Has2] [Has3] [Has4] [Has6] [Has7]

theorem flB_of {m : Mine} {l : List Spn} (h1 : l.length = m.roads.length) (h2 : ∀ x ∈ l, x.ok) : flowsB m l = true := by
  simp only [flowsB, Bool.and_eq_true, decide_eq_true_eq, List.all_eq_true, List.mem_range]
  exact ⟨fun j hj => h2 _ (nth_mem hj), h1⟩
theorem setB_1 {p : Int} {n : Int} (h0 : 0 ≤ p) (h1 : p < n) : setB [p] n = true := by
  simp only [setB, List.all_eq_true, List.mem_range, decide_eq_true_eq]
  intro j hj
  obtain rfl : j = 0 := by simpa using hj
  exact ⟨h0, h1, fun h => absurd h (by omega)⟩
theorem setB_2 {p q : Int} {n : Int} (h0 : 0 ≤ p) (h : p < q) (h1 : q < n) : setB [p, q] n = true := by
  simp only [setB, List.all_eq_true, List.mem_range, decide_eq_true_eq]
  intro j hj
  have : j = 0 ∨ j = 1 := by simp at hj; omega
  rcases this with rfl | rfl
  · exact ⟨h0, show p < n by omega, fun h => absurd h (by omega)⟩
  · exact ⟨show 0 ≤ q by omega, h1, fun _ => h⟩
theorem startS_is {m : Mine} {fl : List Spn} (hf : flowsB m fl = true) {l : List Int} (hl : setB l m.places.length = true) {t : Int} (ht : inT t) :
    startS m fl l t = (⟨t, closeS m fl (initS l t m.places.length)⟩, 0) := by
  unfold startS
  rw [if_neg (by simp [hf]), if_neg (by simp [hl]), if_neg (fun h => h ht)]

theorem nth_out {l : List Int} {i : Nat} (h : l.length ≤ i) : nth l i = 0 := by unfold nth; rw [List.getD_eq_getElem?_getD, List.getElem?_eq_none h]; rfl
theorem spF_min {m : Mine} (h : m.ok) {fl : List Spn} {a b c : List Int} (ha : a.length = m.places.length) (hb : b.length = m.places.length) (hc : c.length = m.places.length) (ba : bnd a) (bb : bnd b) (bc : bnd c)
    (hm : ∀ j, j < m.places.length → nth c j = min (nth a j) (nth b j)) {j : Nat} (hj : j < m.places.length) : nth (spF m fl c) j = min (nth (spF m fl a) j) (nth (spF m fl b) j) := by
  obtain ⟨a1, a2, a3⟩ := spF_clP h (fl := fl) ha ba
  obtain ⟨b1, b2, b3⟩ := spF_clP h (fl := fl) hb bb
  obtain ⟨c1, c2, c3⟩ := spF_clP h (fl := fl) hc bc
  have al := spF_le h (fl := fl) ha
  have bl := spF_le h (fl := fl) hb
  have cl := spF_le h (fl := fl) hc
  have k1 := spF_ge h (l := a) c1 ha (fun i => by
    by_cases hi : i < m.places.length
    · have := cl i; rw [hm i hi] at this; omega
    · rw [nth_out (by omega), nth_out (by omega)]; omega) j
  have k2 := spF_ge h (l := b) c1 hb (fun i => by
    by_cases hi : i < m.places.length
    · have := cl i; rw [hm i hi] at this; omega
    · rw [nth_out (by omega), nth_out (by omega)]; omega) j
  let y := (List.range m.places.length).map fun i => min (nth (spF m fl a) i) (nth (spF m fl b) i)
  have yn : ∀ i, i < m.places.length → nth y i = min (nth (spF m fl a) i) (nth (spF m fl b) i) := fun i hi => nth_eq (by simp [y, hi])
  have yl : y.length = m.places.length := by simp [y]
  have k3 := spF_ge h (y := y) (l := c) (by
    intro k hk back hn hs
    have r1 := Road.src_ok (h.rs _ (nth_mem hk)) back
    have r2 := Road.dst_ok (h.rs _ (nth_mem hk)) back
    have x1 := a1 k hk back hn
    have x2 := b1 k hk back hn
    rw [yn _ (by omega)] at hs ⊢
    rw [yn _ (by omega)]
    omega) hc (fun i => by
    by_cases hi : i < m.places.length
    · rw [yn i hi, hm i hi]
      have := al i
      have := bl i
      omega
    · rw [nth_out (by omega), nth_out (by omega)]; omega) j
  rw [yn j hj] at k3
  omega
theorem initS_nth (l : List Int) (t : Int) {n j : Nat} (hj : j < n) : nth (initS l t n) j = if (j : Int) ∈ l then t else 1099511627776 := nth_eq (by simp [initS, hj])
theorem closeS_two {m : Mine} (h : m.ok) {fl : List Spn} {p q : Int} {l : List Int} (hl : ∀ x, x ∈ l ↔ x = p ∨ x = q) {t : Int} (ht : inT t) {j : Nat} (hj : j < m.places.length) :
    nth (closeS m fl (initS l t m.places.length)) j = min (nth (closeS m fl (initS [p] t m.places.length)) j) (nth (closeS m fl (initS [q] t m.places.length)) j) := by
  rw [← spF_closeS h (initS_len ..) (initS_tm _ ht _), ← spF_closeS h (initS_len ..) (initS_tm _ ht _), ← spF_closeS h (initS_len ..) (initS_tm _ ht _)]
  refine spF_min h (initS_len ..) (initS_len ..) (initS_len ..) (initS_bnd _ ht _) (initS_bnd _ ht _) (initS_bnd _ ht _) (fun i hi => ?_) hj
  rw [initS_nth _ _ hi, initS_nth _ _ hi, initS_nth _ _ hi]
  unfold inT at ht
  simp only [hl, List.mem_singleton]
  by_cases c1 : (i : Int) = p
  · by_cases c2 : (i : Int) = q
    · rw [if_pos (.inl c1), if_pos c1, if_pos c2]; omega
    · rw [if_pos (.inl c1), if_pos c1, if_neg c2]; omega
  · by_cases c2 : (i : Int) = q
    · rw [if_pos (.inr c2), if_neg c1, if_pos c2]; omega
    · rw [if_neg (by simp [c1, c2]), if_neg c1, if_neg c2]; omega

theorem SmokeSources_law (aw : CALL 0 N.law28_awake [] [] = some (B true, [])) (li : List Int) : CALL 0 N.law28_SmokeSources [.t (tL li)] [] = some (B true, []) := by
  refine CALL_of K.t_law28_SmokeSources rfl ?_
  have lo := light_ok li
  by_cases c : li.length ≤ 400
  · simp only [c, decide_true] at lo
    have ro := roll_x li
    have d0 : (Dice.mk li 0).light := c
    generalize (Dice.mk li 0) = d at *
    obtain ⟨m, e1, mo, l1, hm, p1, p2, r1, r2⟩ := mine_x d0
    obtain ⟨fl, e2, fo, l2, f1, f2⟩ := flows_x l1 hm
    obtain ⟨p, e3, po, l3, p3, p4⟩ := next_x l2 m.places.length (by omega) (by omega)
    obtain ⟨q, e4, qo, l4, q3, q4⟩ := next_x l3 m.places.length (by omega) (by omega)
    have hf := flB_of f1 f2
    have ht : inT 30 := ⟨by omega, by omega⟩
    have s1 := smokeStart_ok hm (by omega) fl (by omega) [p] (by simp) 30
    have s2 := smokeStart_ok hm (by omega) fl (by omega) [q] (by simp) 30
    rw [startS_is hf (setB_1 p3 p4) ht] at s1
    rw [startS_is hf (setB_1 q3 q4) ht] at s2
    have ln := fun l => closeS_len2 hm (fl := fl) (initS_len l 30 m.places.length) (initS_bnd l ht _)
    have fin : ∀ (bo : List Int) (hbo : ∀ x, x ∈ bo ↔ x = p ∨ x = q) (z0 z1 z2 z4 z5 z6 z7 z9 z11 z13 : D) , exS CALL K.law28_SmokeSources_l1 ⟨[z0, z1, z2, .bp 1 0, z4, z5, z6, z7, .bp 2 0, z9, .bp 3 0, z11, .bp 4 0, z13, I 0],
        [e4.obj, .box (mineCells m), .box [I 30, .t (tL (closeS m fl (initS [p] 30 m.places.length)))], .box [I 30, .t (tL (closeS m fl (initS [q] 30 m.places.length)))], .box [I 30, .t (tL (closeS m fl (initS bo 30 m.places.length)))]]⟩ =
        some (.exit 0, ⟨[.und, .und, .und, .und, .und, .und, .und, .und, .bp 2 0, .und, .bp 3 0, .und, .bp 4 0, .und, I m.places.length],
        [e4.obj, .box (mineCells m), .box [I 30, .t (tL (closeS m fl (initS [p] 30 m.places.length)))], .box [I 30, .t (tL (closeS m fl (initS [q] 30 m.places.length)))], .box [I 30, .t (tL (closeS m fl (initS bo 30 m.places.length)))]]⟩) := by
      intro bo hbo z0 z1 z2 z4 z5 z6 z7 z9 z11 z13
      have mn := fun (j : Nat) (hj : j < m.places.length) => closeS_two hm (fl := fl) hbo ht hj
      have la := ln [p]
      have lb := ln [q]
      have lc := ln bo
      generalize closeS m fl (initS [p] 30 m.places.length) = a at *
      generalize closeS m fl (initS [q] 30 m.places.length) = b at *
      generalize closeS m fl (initS bo 30 m.places.length) = cc at *
      refine loop_up (fun j => ⟨[.und, .und, .und, .und, .und, .und, .und, .und, .bp 2 0, .und, .bp 3 0, .und, .bp 4 0, .und, I j], [e4.obj, .box (mineCells m), .box [I 30, .t (tL a)], .box [I 30, .t (tL b)], .box [I 30, .t (tL cc)]]⟩) m.places.length rfl ?_ ?_ (by simp)
      · intro j hj
        have g := mn j hj
        simp (disch := omega) only [go_sem, K.law28_SmokeSources_l1b, ↓reduceIte, g, Nat.reduceAdd, Nat.reduceSub]
      · simp (disch := omega) only [go_sem, K.law28_SmokeSources_l1b, ↓reduceIte, Nat.reduceAdd, Nat.reduceSub]
    have h3 : ∀ bo : List Int, setB bo m.places.length = true → bo.length ≤ 2 → CALL 0 N.smoke_Start [.t m.e, .t (tS fl), .t (tL bo), I 30] [] = some (.tup [.t (Wh.e ⟨30, closeS m fl (initS bo 30 m.places.length)⟩), I 0], []) := by
      intro bo hs hbl
      have s3 := smokeStart_ok hm (by omega) fl (by omega) bo (by omega) 30
      rwa [startS_is hf hs ht] at s3
    have h4 := h3 [min p q, max p q]
    have fi1 := fin [p]
    have fi2 := fin [min p q, max p q]
    simp only [tL, List.map_cons, List.map_nil] at s1 s2 h4
    by_cases hpq : p = q
    · have lc := ln [p]
      have fi1 := fi1 (by intro x; subst hpq; simp)
      subst hpq
      generalize closeS m fl (initS [p] 30 m.places.length) = a at *
      clear fi2 h3 fin ln h4
      obtain ⟨places, roads⟩ := m
      simp only [mineCells] at *
      simp (disch := omega) only [go_sem, K.law28_SmokeSources, ↓reduceIte, lo, ro, mo, fo, po, qo, s1, s2, lc, fi1, aw, Nat.reduceAdd, Nat.reduceSub]
    · have hset : setB [min p q, max p q] m.places.length = true := setB_2 (by omega) (by omega) (by omega)
      have h4 := h4 hset (by simp)
      have fi2 := fi2 (by intro x; simp only [List.mem_cons, List.not_mem_nil, or_false]; omega)
      have la := ln [p]
      have lb := ln [q]
      have lc := ln [min p q, max p q]
      generalize closeS m fl (initS [p] 30 m.places.length) = a at *
      generalize closeS m fl (initS [q] 30 m.places.length) = b at *
      generalize closeS m fl (initS [min p q, max p q] 30 m.places.length) = cc at *
      clear fi1 h3 fin ln hset
      obtain ⟨places, roads⟩ := m
      simp only [mineCells] at *
      simp (disch := omega) only [go_sem, K.law28_SmokeSources, ↓reduceIte, lo, ro, mo, fo, po, qo, s1, s2, h4, la, lb, lc, hpq, fi2, aw, Nat.reduceAdd, Nat.reduceSub]
  · simp only [c, decide_false] at lo
    simp (disch := omega) only [go_sem, K.law28_SmokeSources, ↓reduceIte, lo, aw, Nat.reduceAdd, Nat.reduceSub]
end Go.Ev

/- SmokeRuns: what is known of times of smoke. -/
namespace Go.Ev
open Go
variable [Lib] [Has1] [Has2] [Has3] [Has4] [Has6] [Has7]

/-- A spread that came about in a mine with flows. -/
structure SGood (m : Mine) (fl : List Spn) (s : Wh) : Prop where
  ln : s.frm.length = m.places.length
  ti : inT s.time
  tm : tmOk s.frm
  lo : ∀ x ∈ s.frm, s.time ≤ x
  cl : clP m fl s.frm
theorem SGood.valid {m : Mine} {fl : List Spn} {s : Wh} (h : SGood m fl s) : validS m s = true := by
  simp only [validS, Bool.and_eq_true, decide_eq_true_eq, List.all_eq_true, List.mem_range]
  refine ⟨fun j hj => ?_, h.ln, h.ti⟩
  have a := h.tm _ (nth_mem hj)
  have b := h.lo _ (nth_mem hj)
  unfold plS
  simp only [smMax] at a
  omega
theorem nth_repl {n i : Nat} (t : Int) (h : i < n) : nth (List.replicate n t) i = t := nth_eq (by rw [List.getElem?_replicate, if_pos h])
theorem closeS_facts {m : Mine} (h : m.ok) {fl : List Spn} {l : List Int} (hl : l.length = m.places.length) (ht : tmOk l) {t : Int} (hb : ∀ x ∈ l, t ≤ x) (hit : inT t) :
    SGood m fl ⟨t, closeS m fl l⟩ ∧ ∀ j, nth (closeS m fl l) j ≤ nth l j := by
  have e := spF_closeS h (fl := fl) hl ht
  obtain ⟨a1, a2, a3⟩ := spF_clP h (fl := fl) hl ht.bnd
  have le := spF_le h (fl := fl) hl
  have ge := spF_ge h (fl := fl) (y := List.replicate m.places.length t) (l := l) (by
    intro k hk back hn _
    have r1 := Road.src_ok (h.rs _ (nth_mem hk)) back
    have r2 := Road.dst_ok (h.rs _ (nth_mem hk)) back
    rw [nth_repl t (by omega), nth_repl t (by omega)]
    omega) hl (fun i => by
      by_cases hi : i < m.places.length
      · rw [nth_repl t hi]; exact hb _ (nth_mem (by omega))
      · rw [nth_out (by simp; omega), nth_out (by omega)]; omega)
  have cn := fun {j : Nat} (hj : j < m.places.length) => closeS_nth (m := m) (fl := fl) (l := l) (smD_facts h (fl := fl) a1 hl ht.bnd (fun j _ => le j)).2.2.1 hj
  rw [e] at a1 a2 a3 le ge
  refine ⟨⟨a2, hit, fun x hx => ?_, fun x hx => ?_, a1⟩, le⟩
  · obtain ⟨j, hj⟩ := List.mem_iff_getElem?.1 hx
    have jl := (List.getElem?_eq_some_iff.1 hj).1
    have := cn (j := j) (by rw [← a2]; exact jl)
    rw [nth_eq hj] at this
    have := a3 x hx
    split at * <;> omega
  · obtain ⟨j, hj⟩ := List.mem_iff_getElem?.1 hx
    have jl := (List.getElem?_eq_some_iff.1 hj).1
    have := ge j
    rw [nth_eq hj, nth_repl t (by rw [← a2]; exact jl)] at this
    exact this
theorem initS_lo (l : List Int) {t : Int} (ht : inT t) (n : Nat) : ∀ x ∈ initS l t n, t ≤ x := by
  intro x hx
  simp only [initS, List.mem_map] at hx
  obtain ⟨p, -, rfl⟩ := hx
  unfold inT at ht
  split <;> omega
theorem startS_facts {m : Mine} (h : m.ok) {fl : List Spn} (hf : flowsB m fl = true) {l : List Int} (hl : setB l m.places.length = true) {t : Int} (ht : inT t) :
    ∃ s : Wh, startS m fl l t = (s, 0) ∧ SGood m fl s ∧ s.time = t ∧ ∀ p ∈ l, nth s.frm p.toNat ≤ t := by
  have f := closeS_facts h (fl := fl) (initS_len l t m.places.length) (initS_tm l ht _) (initS_lo l ht _) ht
  refine ⟨_, startS_is hf hl ht, f.1, rfl, fun p hp => ?_⟩
  have b := setB_mem hl p hp
  have := f.2 p.toNat
  rw [initS_nth l t (by omega), if_pos (by rw [show ((p.toNat : Nat) : Int) = p by omega]; exact hp)] at this
  exact this

/- what a change leaves -/
theorem chHalf_le {m : Mine} {fl : List Spn} {frm : List Int} {t : Int} {k : Nat} {back : Bool} {l : List Int} (hi : ((nth m.roads k).dst back).toNat < l.length) : ∀ j, nth (chHalf m fl frm t k back l) j ≤ nth l j := by
  intro j
  unfold chHalf
  split
  · rw [set_nth2 _ _ hi]
    split
    · rename_i e; rw [e]; omega
    · exact Int.le_refl _
  · exact Int.le_refl _
theorem chN_le {m : Mine} (h : m.ok) {fl : List Spn} {frm : List Int} {t : Int} (hl : frm.length = m.places.length) : ∀ k, k ≤ m.roads.length → ∀ j, nth (chN m fl frm t k) j ≤ nth frm j
  | 0, _, j => Int.le_refl _
  | k + 1, hk, j => by
    have r1 := Road.dst_ok (h.rs _ (nth_mem (l := m.roads) (j := k) (by omega))) false
    have r2 := Road.dst_ok (h.rs _ (nth_mem (l := m.roads) (j := k) (by omega))) true
    have ih := chN_le h (fl := fl) (t := t) hl k (by omega) j
    simp only [chN, chStep]
    have a := chHalf_le (m := m) (fl := fl) (frm := frm) (t := t) (k := k) (back := true) (l := chHalf m fl frm t k false (chN m fl frm t k)) (by rw [chHalf_len, chN_len]; omega) j
    have b := chHalf_le (m := m) (fl := fl) (frm := frm) (t := t) (k := k) (back := false) (l := chN m fl frm t k) (by rw [chN_len]; omega) j
    omega
theorem chN_road {m : Mine} (h : m.ok) {fl : List Spn} {frm : List Int} {t : Int} (hl : frm.length = m.places.length) {r : Nat} {back : Bool} (h1 : nth frm ((nth m.roads r).src back).toNat ≤ t) (h2 : 0 ≤ travelF (nth m.roads r) (nth fl r) back) :
    ∀ k, k ≤ m.roads.length → r < k → nth (chN m fl frm t k) ((nth m.roads r).dst back).toNat ≤ t
  | 0, _, hr => by omega
  | k + 1, hk, hr => by
    have r1 := Road.dst_ok (h.rs _ (nth_mem (l := m.roads) (j := k) (by omega))) false
    have r2 := Road.dst_ok (h.rs _ (nth_mem (l := m.roads) (j := k) (by omega))) true
    have a := chHalf_le (m := m) (fl := fl) (frm := frm) (t := t) (k := k) (back := true) (l := chHalf m fl frm t k false (chN m fl frm t k)) (by rw [chHalf_len, chN_len]; omega) ((nth m.roads r).dst back).toNat
    have b := chHalf_le (m := m) (fl := fl) (frm := frm) (t := t) (k := k) (back := false) (l := chN m fl frm t k) (by rw [chN_len]; omega) ((nth m.roads r).dst back).toNat
    simp only [chN, chStep]
    by_cases e : r < k
    · have := chN_road h hl h1 h2 k (by omega) e
      omega
    · have : r = k := by omega
      subst this
      have key : ∀ l : List Int, l.length = m.places.length → nth (chHalf m fl frm t r back l) ((nth m.roads r).dst back).toNat ≤ t := by
        intro l ll
        have r3 := Road.dst_ok (h.rs _ (nth_mem (l := m.roads) (j := r) (by omega))) back
        unfold chHalf
        rw [if_pos ⟨h1, h2⟩, set_nth2 _ _ (by omega), if_pos rfl]
        omega
      cases back with
      | false => have := key (chN m fl frm t r) (by rw [chN_len]; omega); omega
      | true => exact key _ (by rw [chHalf_len, chN_len]; omega)
theorem changeS_facts {m : Mine} (h : m.ok) {old : List Spn} (ho : flowsB m old = true) {next : Mine} (hn : next.ok) {fl : List Spn} (hf : flowsB next fl = true) (hp : next.places.length = m.places.length) {s : Wh} (hs : validS m s = true) {t : Int} (h1 : s.time ≤ t) (h2 : t ≤ 2147483648) :
    ∃ s' : Wh, changeS m old next fl s t = (s', 0) ∧ SGood next fl s' ∧ s'.time = t ∧ (∀ j, nth s'.frm j ≤ max (nth s.frm j) t) ∧
      ∀ k, k < m.roads.length → ∀ back, nth s.frm ((nth m.roads k).src back).toNat ≤ t → 0 ≤ travelF (nth m.roads k) (nth old k) back → nth s'.frm ((nth m.roads k).dst back).toNat ≤ t := by
  obtain ⟨s1, s2, s3⟩ := validS_spec hs
  have ht : inT t := by unfold inT at s2 ⊢; omega
  have hb : bnd s.frm := fun x hx => by
    have := s3 x hx
    unfold plS at this; unfold inT at s2; omega
  have cb := chN_bnd h old s1 hb ht m.roads.length (Nat.le_refl _)
  have cl := chN_len m old s.frm t m.roads.length
  have ca := maxN_all t (chN m old s.frm t m.roads.length)
  rw [cl, s1] at ca
  have tm := mxL_tm ht cb (chN_mem h s1 (fun x => x ≤ smMax ∨ x = 1099511627776) (fun x hx => by
    have := s3 x hx
    unfold plS at this; simp only [smMax]; omega) (by unfold inT at ht; simp only [smMax]; omega) _ (Nat.le_refl _))
  have ml : (mxL t (chN m old s.frm t m.roads.length)).length = next.places.length := by simp only [mxL, List.length_map]; omega
  have f := closeS_facts hn (fl := fl) ml tm (t := t) (fun x hx => by
    simp only [mxL, List.mem_map] at hx
    obtain ⟨y, -, rfl⟩ := hx
    omega) ht
  refine ⟨_, ?_, f.1, rfl, fun j => ?_, fun k hk back a b => ?_⟩
  · unfold changeS
    rw [if_neg (by simp [hs, ho, hf, hp]), if_neg (by omega), ca]
  · refine Int.le_trans (f.2 j) ?_
    by_cases hj : j < m.places.length
    · rw [mxL_nth t (by omega)]
      have := chN_le h (fl := old) (t := t) s1 m.roads.length (Nat.le_refl _) j
      omega
    · rw [nth_out (by omega)]; unfold inT at ht; omega
  · have r3 := Road.dst_ok (h.rs _ (nth_mem hk)) back
    refine Int.le_trans (f.2 _) ?_
    rw [mxL_nth t (by omega)]
    have := chN_road h s1 a b m.roads.length (Nat.le_refl _) hk
    omega
end Go.Ev

/- Chapter 26 of the references: who bears a tag; possible places; meetings. -/
namespace Go.Ev
open Go
variable [Lib] [Has1] [Has2]

theorem nodup_sub_len : ∀ {l l' : List Int}, l.Nodup → (∀ x ∈ l, x ∈ l') → l.length ≤ l'.length
  | [], _, _, _ => by simp
  | a :: l, l', hn, hs => by
    obtain ⟨h1, h2⟩ := List.nodup_cons.1 hn
    have ha : a ∈ l' := hs a List.mem_cons_self
    have := nodup_sub_len (l := l) (l' := l'.erase a) h2 fun x hx => by
      have hne : x ≠ a := fun e => h1 (e ▸ hx)
      exact (List.mem_erase_of_ne hne).2 (hs x (List.mem_cons_of_mem _ hx))
    have h3 := List.length_erase_of_mem ha
    have h4 : 0 < l'.length := List.length_pos_of_mem ha
    simp only [List.length_cons]
    omega

theorem bearerF_mem {l : List Int} {x : Int} : 0 ≤ bearerF l x ↔ x ∈ l := by
  unfold bearerF
  cases hf : (List.range l.length).find? (fun j => decide (nth l j = x)) with
  | some j =>
    obtain ⟨h1, h2⟩ := find_lt hf
    have := nth_mem h1
    rw [of_decide_eq_true h2] at this
    simp [this]
  | none =>
    have := List.find?_eq_none.1 hf
    simp only [Int.reduceNeg]
    constructor
    · intro h; simp at h
    · intro h
      obtain ⟨j, hj⟩ := List.mem_iff_getElem?.1 h
      have hl := (List.getElem?_eq_some_iff.1 hj).1
      have := this j (List.mem_range.2 hl)
      rw [nth_eq hj] at this
      simp at this

theorem properB_nodup {l : List Int} (h : properB l = true) : l.Nodup := by
  simp only [properB, List.all_eq_true, List.mem_range, properN, decide_eq_true_eq] at h
  refine List.pairwise_iff_getElem.2 fun i j hi hj hij e => ?_
  obtain ⟨-, -, h3⟩ := h j hj
  have h4 : ¬ nth l j ∈ l.take j := fun hm => by have := bearerF_mem.2 hm; omega
  apply h4
  apply List.mem_iff_getElem?.2
  refine ⟨i, ?_⟩
  rw [List.getElem?_take_of_lt hij, List.getElem?_eq_getElem hi, e, ← List.getElem?_eq_getElem hj, nth_some hj]

theorem belB_spec {m : Mine} {b : Bel} (h : belB m b = true) : 1 ≤ b.worlds.length ∧ b.worlds.length ≤ 24 ∧ 1 ≤ (nth b.worlds 0).tags.length ∧ (nth b.worlds 0).tags.length ≤ 12 ∧
    ∀ i, i < b.worlds.length → worldB m b.worlds (nth b.worlds 0).tags i = true := by
  simp only [belB, Bool.and_eq_true, decide_eq_true_eq, List.all_eq_true, List.mem_range] at h
  exact ⟨h.1.1.1, h.1.1.2, h.1.2.1, h.1.2.2, h.2⟩

theorem worldB_spec {m : Mine} {ws : List World} {first : List Int} {i : Nat} (h : worldB m ws first i = true) : (nth ws i).tags.length = first.length ∧ (nth ws i).whr.length = first.length ∧ properB (nth ws i).tags = true ∧
    ∀ k, k < (nth ws i).tags.length → nth (nth ws i).tags k ∈ first ∧ validB m (nth (nth ws i).whr k) = true := by
  simp only [worldB, Bool.and_eq_true, decide_eq_true_eq, List.all_eq_true, List.mem_range, whoB] at h
  exact ⟨h.1.1.1.1, h.1.1.1.2, h.1.1.2, fun k hk => ⟨bearerF_mem.1 (h.2 k hk).1, (h.2 k hk).2⟩⟩

/-- In a valid belief each world has the same tags. -/
theorem belB_bearer {m : Mine} {b : Bel} (h : belB m b = true) {tag : Int} (ht : 0 ≤ bearerF (nth b.worlds 0).tags tag) {i : Nat} (hi : i < b.worlds.length) :
    0 ≤ bearerF (nth b.worlds i).tags tag := by
  obtain ⟨h1, h2, h3, h4, h5⟩ := belB_spec h
  obtain ⟨w1, w2, w3, w4⟩ := worldB_spec (h5 i hi)
  apply bearerF_mem.2
  apply Classical.byContradiction
  intro hn
  have := nodup_sub_len (l := tag :: (nth b.worlds i).tags) (l' := (nth b.worlds 0).tags) (List.nodup_cons.2 ⟨hn, properB_nodup w3⟩) (by
    intro x hx
    rcases List.mem_cons.1 hx with e | hx
    · rw [e]; exact bearerF_mem.1 ht
    · obtain ⟨j, hj⟩ := List.mem_iff_getElem?.1 hx
      have := (w4 j (List.getElem?_eq_some_iff.1 hj).1).1
      rwa [nth_eq hj] at this)
  simp only [List.length_cons] at this
  omega

def borneF (m : Mine) (b : Bel) (tag : Int) : Int := if belB m b = false then 6 else if bearerF (nth b.worlds 0).tags tag < 0 then 41 else 0

theorem borne_ok {m : Mine} (h : m.ok) (b : Bel) (hs : b.sz) (tag : Int) : CALL 0 N.ref26_borne [.t m.e, .t b.e, I tag] [] = some (I (borneF m b tag), []) := by
  refine CALL_of K.t_ref26_borne rfl ?_
  have v := belB_ok h b hs
  unfold borneF
  cases hv : belB m b with
  | false =>
    rw [hv] at v
    obtain ⟨ws⟩ := b
    simp (disch := omega) only [go_sem, K.ref26_borne, ↓reduceIte, v]
  | true =>
    rw [hv] at v
    obtain ⟨h1, h2, h3, h4, h5⟩ := belB_spec hv
    have br := bearer_ok (nth b.worlds 0).tags tag (by omega)
    obtain ⟨ws⟩ := b
    simp only at h1 br ⊢
    by_cases c : bearerF (nth ws 0).tags tag < 0
    · simp (disch := omega) only [go_sem, K.ref26_borne, ↓reduceIte, v, br, c, Bool.true_eq_false]
    · simp (disch := omega) only [go_sem, K.ref26_borne, ↓reduceIte, v, br, c, Bool.true_eq_false]

def meetB (a b : Wh) (t : Int) : Bool := (List.range (min a.frm.length b.frm.length)).any fun p => decide (nth a.frm p ≤ t ∧ nth b.frm p ≤ t)

theorem meet_ok (a b : Wh) (t : Int) (ha : a.frm.length ≤ 1000000) : CALL 0 N.ref26_meet [.t a.e, .t b.e, I t] [] = some (B (meetB a b t), []) := by
  refine CALL_of K.t_ref26_meet rfl ?_
  obtain ⟨t1, l1⟩ := a
  obtain ⟨t2, l2⟩ := b
  unfold meetB
  simp only at ha ⊢
  have loop : ∀ x y z : D, exS CALL K.ref26_meet_l1 ⟨[x, y, I t, .bp 0 0, .bp 1 0, z, I 0], [.box [I t1, .t (tL l1)], .box [I t2, .t (tL l2)]]⟩ =
      some (match (List.range (min l1.length l2.length)).find? (fun p => decide (nth l1 p ≤ t ∧ nth l2 p ≤ t)) with
        | some j => (.ret, ⟨[.und, .und, I t, .bp 0 0, .bp 1 0, B true, I j], [.box [I t1, .t (tL l1)], .box [I t2, .t (tL l2)]]⟩)
        | none => (.exit 0, ⟨[.und, .und, I t, .bp 0 0, .bp 1 0, .und, I (min l1.length l2.length : Nat)], [.box [I t1, .t (tL l1)], .box [I t2, .t (tL l2)]]⟩)) := by
    intro x y z
    refine loop_first (fun j => ⟨[.und, .und, I t, .bp 0 0, .bp 1 0, .und, I j], [.box [I t1, .t (tL l1)], .box [I t2, .t (tL l2)]]⟩) (min l1.length l2.length) (fun p => decide (nth l1 p ≤ t ∧ nth l2 p ≤ t)) _ _ rfl ?_ ?_ ?_ (by simp)
    · intro j hj hp
      have hp : ¬ (nth l1 j ≤ t ∧ nth l2 j ≤ t) := of_decide_eq_false hp
      by_cases c : nth l1 j ≤ t
      · simp (disch := omega) only [go_sem, K.ref26_meet_l1b, ↓reduceIte, c]
      · simp (disch := omega) only [go_sem, K.ref26_meet_l1b, ↓reduceIte, c]
    · intro j hj hp
      have hp : nth l1 j ≤ t ∧ nth l2 j ≤ t := of_decide_eq_true hp
      refine ⟨?_, by simp⟩
      simp (disch := omega) only [go_sem, K.ref26_meet_l1b, ↓reduceIte]
    · by_cases h1 : l1.length ≤ l2.length
      · have e : min l1.length l2.length = l1.length := by omega
        rw [e]
        simp (disch := omega) only [go_sem, K.ref26_meet_l1b, ↓reduceIte]
      · have e : min l1.length l2.length = l2.length := by omega
        rw [e]
        simp (disch := omega) only [go_sem, K.ref26_meet_l1b, ↓reduceIte]
  rw [← find_any]
  simp (disch := omega) only [go_sem, K.ref26_meet, ↓reduceIte, loop]
  cases hf : (List.range (min l1.length l2.length)).find? (fun p => decide (nth l1 p ≤ t ∧ nth l2 p ≤ t)) with
  | some j => simp (disch := omega) only [go_sem, ↓reduceIte, Option.isSome]
  | none => simp (disch := omega) only [go_sem, ↓reduceIte, Option.isSome]

def mayB (b : Bel) (person t : Int) (p : Nat) : Bool := (List.range b.worlds.length).any fun i => decide (0 ≤ person ∧ person < (nth b.worlds i).whr.length) && decide ((p : Int) ∈ possF (nth (nth b.worlds i).whr person.toNat) t)
def possB (b : Bel) (person t : Int) : List Int := whereF 64 (mayB b person t)

theorem possible26_ok (b : Bel) (hs : b.sz) (person t : Int) : CALL 0 N.ref26_Possible [.t b.e, I person, I t] [] = some (.t (tL (possB b person t)), []) := by
  refine CALL_of K.t_ref26_Possible rfl ?_
  obtain ⟨h1, h2⟩ := hs
  obtain ⟨ws⟩ := b
  simp only at h1 h2
  have hlen := fun k => whereF_len k (mayB ⟨ws⟩ person t)
  have inner : ∀ (j : Nat), j < 64 → ∀ a c : D, exS CALL K.ref26_Possible_l2 ⟨[a, I person, I t, .bp 0 0, c, .ref 1 0 (whereF j (mayB ⟨ws⟩ person t)).length, I j, I 0], [.box [.t (.sl (ws.map World.e))], .arr 1 false 0 (((whereF j (mayB ⟨ws⟩ person t)).map (T.int .i64)).map .t)]⟩ =
      some (match (List.range ws.length).find? (fun i => decide (0 ≤ person ∧ person < (nth ws i).whr.length) && decide ((j : Int) ∈ possF (nth (nth ws i).whr person.toNat) t)) with
        | some i => (.exit 2, ⟨[.und, I person, I t, .bp 0 0, .und, .ref 1 0 ((whereF j (mayB ⟨ws⟩ person t)).length + 1), I j, I i], [.box [.t (.sl (ws.map World.e))], .arr 1 false 0 (((whereF j (mayB ⟨ws⟩ person t) ++ [(j : Int)]).map (T.int .i64)).map .t)]⟩)
        | none => (.exit 2, ⟨[.und, I person, I t, .bp 0 0, .und, .ref 1 0 (whereF j (mayB ⟨ws⟩ person t)).length, I j, I ws.length], [.box [.t (.sl (ws.map World.e))], .arr 1 false 0 (((whereF j (mayB ⟨ws⟩ person t)).map (T.int .i64)).map .t)]⟩)) := by
    intro j hj a c
    have hlen := hlen j
    refine loop_first (fun i => ⟨[.und, I person, I t, .bp 0 0, .und, .ref 1 0 (whereF j (mayB ⟨ws⟩ person t)).length, I j, I i], [.box [.t (.sl (ws.map World.e))], .arr 1 false 0 (((whereF j (mayB ⟨ws⟩ person t)).map (T.int .i64)).map .t)]⟩) ws.length _ _ _ rfl ?_ ?_ ?_ (by simp)
    · intro i hi hp
      have sz := h2 _ (nth_mem hi)
      generalize hx : nth ws i = x at *
      obtain ⟨tags, whr⟩ := x
      obtain ⟨s1, s2, s3⟩ := sz
      simp only at s1 s2 s3 hp
      generalize whereF j (mayB ⟨ws⟩ person t) = L at *
      by_cases c1 : 0 ≤ person
      · by_cases c2 : person < whr.length
        · have ps := possible25_ok (nth whr person.toNat) t (s3 _ (nth_mem (by omega)))
          have hs := has_ok (possF (nth whr person.toNat) t) j (by
            have := whereF_len (nth whr person.toNat).frm.length (fun j => decide (nth (nth whr person.toNat).frm j ≤ t))
            have := s3 _ (nth_mem (l := whr) (j := person.toNat) (by omega))
            unfold possF; omega)
          simp only [c1, c2, and_self, decide_true, Bool.true_and, decide_eq_false_iff_not] at hp
          simp only [hp, decide_false] at hs
          generalize hy : nth whr person.toNat = y at *
          obtain ⟨time, frm⟩ := y
          simp (disch := omega) only [go_sem, K.ref26_Possible_l2b, ↓reduceIte, hx, hy, ps, hs]
        · simp (disch := omega) only [go_sem, K.ref26_Possible_l2b, ↓reduceIte, hx]
      · simp (disch := omega) only [go_sem, K.ref26_Possible_l2b, ↓reduceIte, hx]
    · intro i hi hp
      have sz := h2 _ (nth_mem hi)
      generalize hx : nth ws i = x at *
      obtain ⟨tags, whr⟩ := x
      obtain ⟨s1, s2, s3⟩ := sz
      simp only [Bool.and_eq_true, decide_eq_true_eq] at s1 s2 s3 hp
      obtain ⟨⟨c1, c2⟩, c3⟩ := hp
      generalize whereF j (mayB ⟨ws⟩ person t) = L at *
      have ps := possible25_ok (nth whr person.toNat) t (s3 _ (nth_mem (by omega)))
      have hs := has_ok (possF (nth whr person.toNat) t) j (by
        have := whereF_len (nth whr person.toNat).frm.length (fun j => decide (nth (nth whr person.toNat).frm j ≤ t))
        have := s3 _ (nth_mem (l := whr) (j := person.toNat) (by omega))
        unfold possF; omega)
      simp only [c3, decide_true] at hs
      generalize hy : nth whr person.toNat = y at *
      obtain ⟨time, frm⟩ := y
      refine ⟨?_, by simp⟩
      simp (disch := omega) only [go_sem, K.ref26_Possible_l2b, ↓reduceIte, hx, hy, ps, hs]
    · generalize whereF j (mayB ⟨ws⟩ person t) = L at *
      simp (disch := omega) only [go_sem, K.ref26_Possible_l2b, ↓reduceIte]
  have loop : ∀ a b c : D, exS CALL K.ref26_Possible_l1 ⟨[a, I person, I t, .bp 0 0, b, .ref 1 0 0, I 0, c], [.box [.t (.sl (ws.map World.e))], .arr 1 false 0 []]⟩ =
      some (.exit 0, ⟨[.und, I person, I t, .bp 0 0, .und, .ref 1 0 (whereF 64 (mayB ⟨ws⟩ person t)).length, I 64, .und], [.box [.t (.sl (ws.map World.e))], .arr 1 false 0 (((whereF 64 (mayB ⟨ws⟩ person t)).map (T.int .i64)).map .t)]⟩) := by
    intro a b c
    refine loop_up (fun j => ⟨[.und, I person, I t, .bp 0 0, .und, .ref 1 0 (whereF j (mayB ⟨ws⟩ person t)).length, I j, .und], [.box [.t (.sl (ws.map World.e))], .arr 1 false 0 (((whereF j (mayB ⟨ws⟩ person t)).map (T.int .i64)).map .t)]⟩) 64 rfl ?_ ?_ (by simp)
    · intro j hj
      have inner := inner j hj
      have hlen := hlen j
      rw [whereF_succ]
      have e : mayB ⟨ws⟩ person t j = ((List.range ws.length).find? (fun i => decide (0 ≤ person ∧ person < (nth ws i).whr.length) && decide ((j : Int) ∈ possF (nth (nth ws i).whr person.toNat) t))).isSome := by rw [find_any]; rfl
      cases hf : (List.range ws.length).find? (fun i => decide (0 ≤ person ∧ person < (nth ws i).whr.length) && decide ((j : Int) ∈ possF (nth (nth ws i).whr person.toNat) t)) with
      | some i =>
        rw [hf] at e inner
        simp only [Option.isSome] at e
        simp (disch := omega) only [go_sem, K.ref26_Possible_l1b, ↓reduceIte, inner, e]
      | none =>
        rw [hf] at e inner
        simp only [Option.isSome] at e
        simp (disch := omega) only [go_sem, K.ref26_Possible_l1b, ↓reduceIte, inner, e, Bool.false_eq_true]
    · simp (disch := omega) only [go_sem, K.ref26_Possible_l1b, ↓reduceIte]
      rfl
  have := hlen 64
  simp (disch := omega) only [go_sem, K.ref26_Possible, ↓reduceIte, loop, possB]

end Go.Ev

/- Chapter 26 of the references: starts. -/
namespace Go.Ev
open Go
variable [Lib] [Has1] [Has2]

def startWs (m : Mine) (starts : List Int) (t : Int) (j : Nat) : List Wh := (List.range j).map fun i => (startF m (nth starts i) t).1
theorem startWs_succ (m : Mine) (starts : List Int) (t : Int) (j : Nat) : startWs m starts t (j + 1) = startWs m starts t j ++ [(startF m (nth starts j) t).1] := by
  unfold startWs; rw [List.range_succ, List.map_append]; rfl
@[simp] theorem startWs_len (m : Mine) (starts : List Int) (t : Int) (j : Nat) : (startWs m starts t j).length = j := by simp [startWs]

def startBel (m : Mine) (tags starts : List Int) (t : Int) : Bel × Int :=
  if tags.length = starts.length ∧ 1 ≤ tags.length ∧ tags.length ≤ 12 then
    if properB tags = true then match (List.range tags.length).find? (fun i => !decide ((startF m (nth starts i) t).2 = 0)) with
      | some i => (⟨[]⟩, (startF m (nth starts i) t).2)
      | none => (⟨[⟨tags, startWs m starts t tags.length⟩]⟩, 0)
    else (⟨[]⟩, 41)
  else (⟨[]⟩, 6)

abbrev stH (m : Mine) (tags : List Int) (r : D) (ws : List Wh) : Heap := [.box (mineCells m), .box [r], .arr 1 false 0 ((tags.map (T.int .i64)).map .t), .box [.ref 2 0 tags.length, .ref 5 0 ws.length], .arr 2 false 0 [], .arr 2 false 0 ((ws.map Wh.e).map .t)]

theorem startBel_ok {m : Mine} (h : m.ok) (tags starts : List Int) (hl : tags.length ≤ 1000000) (t : Int) :
    CALL 0 N.ref26_Start [.t m.e, .t (tL tags), .t (tL starts), I t] [] = some (.tup [.t (startBel m tags starts t).1.e, I (startBel m tags starts t).2], []) := by
  refine CALL_of K.t_ref26_Start rfl ?_
  have ck := check_ok h
  have pr := proper_ok tags hl
  unfold startBel
  by_cases c1 : tags.length = starts.length
  · by_cases c2 : tags.length < 1
    · simp (disch := omega) only [go_sem, K.ref26_Start, ↓reduceIte, ck, show ¬ (tags.length = starts.length ∧ 1 ≤ tags.length ∧ tags.length ≤ 12) by omega]
      rfl
    · by_cases c3 : 12 < tags.length
      · simp (disch := omega) only [go_sem, K.ref26_Start, ↓reduceIte, ck, show ¬ (tags.length = starts.length ∧ 1 ≤ tags.length ∧ tags.length ≤ 12) by omega]
        rfl
      · have c : tags.length = starts.length ∧ 1 ≤ tags.length ∧ tags.length ≤ 12 := by omega
        rw [if_pos c]
        clear c
        cases hp : properB tags with
        | false =>
          rw [hp] at pr
          simp (disch := omega) only [go_sem, K.ref26_Start, ↓reduceIte, ck, pr, Bool.false_eq_true]
          rfl
        | true =>
          rw [hp] at pr
          have loop : ∀ a b c d : D, exS CALL K.ref26_Start_l1 ⟨[a, .t (tL tags), .t (tL starts), I t, .bp 0 0, .bp 1 0, b, .bp 3 0, I 0, c, d], stH m tags .nil []⟩ =
              some (match (List.range tags.length).find? (fun i => !decide ((startF m (nth starts i) t).2 = 0)) with
                | some i => (.ret, ⟨[.und, .t (tL tags), .t (tL starts), I t, .bp 0 0, .bp 1 0, I (startF m (nth starts i) t).2, .bp 3 0, I i, .bp 6 0, I (startF m (nth starts i) t).2], stH m tags .nil (startWs m starts t i) ++ [.box [I (startF m (nth starts i) t).1.time, .t (tL (startF m (nth starts i) t).1.frm)]]⟩)
                | none => (.exit 0, ⟨[.und, .t (tL tags), .t (tL starts), I t, .bp 0 0, .bp 1 0, .und, .bp 3 0, I tags.length, .und, .und], stH m tags .nil (startWs m starts t tags.length)⟩)) := by
            intro a b c d
            refine loop_first (fun j => ⟨[.und, .t (tL tags), .t (tL starts), I t, .bp 0 0, .bp 1 0, .und, .bp 3 0, I j, .und, .und], stH m tags .nil (startWs m starts t j)⟩) tags.length _ _ _ rfl ?_ ?_ ?_ (by simp)
            · intro j hj hp
              have st := start_ok h (nth starts j) t
              have ln := startWs_len m starts t j
              have hp : (startF m (nth starts j) t).2 = 0 := by simpa using hp
              rw [startWs_succ]
              generalize startWs m starts t j = L at *
              generalize startF m (nth starts j) t = r at *
              obtain ⟨⟨time, frm⟩, e⟩ := r
              simp only at st hp ⊢
              subst hp
              simp (disch := omega) only [go_sem, K.ref26_Start_l1b, ↓reduceIte, stH, st, Nat.reduceAdd, Nat.reduceSub]
              done
            · intro j hj hp
              have st := start_ok h (nth starts j) t
              have ln := startWs_len m starts t j
              have hp : (startF m (nth starts j) t).2 ≠ 0 := by simpa using hp
              generalize startWs m starts t j = L at *
              generalize startF m (nth starts j) t = r at *
              obtain ⟨⟨time, frm⟩, e⟩ := r
              simp only at st hp ⊢
              refine ⟨?_, by simp⟩
              simp (disch := omega) only [go_sem, K.ref26_Start_l1b, ↓reduceIte, stH, st, Nat.reduceAdd, Nat.reduceSub]
              done
            · have ln := startWs_len m starts t tags.length
              generalize startWs m starts t tags.length = L at *
              simp (disch := omega) only [go_sem, K.ref26_Start_l1b, ↓reduceIte]
          simp only [stH, List.map_nil, List.length_nil] at loop
          simp (disch := omega) only [go_sem, K.ref26_Start, ↓reduceIte, ck, pr, loop]
          cases hf : (List.range tags.length).find? (fun i => !decide ((startF m (nth starts i) t).2 = 0)) with
          | some i => 
            simp (disch := omega) only [go_sem, ↓reduceIte]
            rfl
          | none =>
            have ln := startWs_len m starts t tags.length
            generalize startWs m starts t tags.length = L at *
            simp (disch := omega) only [go_sem, ↓reduceIte]
            rfl
  · simp (disch := omega) only [go_sem, K.ref26_Start, ↓reduceIte, ck, show ¬ (tags.length = starts.length ∧ 1 ≤ tags.length ∧ tags.length ≤ 12) by omega]
    rfl

end Go.Ev

/- Chapter 26 of the references: sights. -/
namespace Go.Ev
open Go
variable [Lib] [Has1] [Has2]

@[go_sem] theorem allS_nil : ([] : List D).all scalarD = true := (rfl)
@[go_sem] theorem allS_cons (d : D) (r : List D) : (d :: r).all scalarD = (scalarD d && r.all scalarD) := (rfl)
@[go_sem] theorem scalarD_agg (cs : List T) : scalarD (.t (.agg cs)) = false := (rfl)
@[go_sem] theorem scalarD_sl (cs : List T) : scalarD (.t (.sl cs)) = false := (rfl)
@[go_sem] theorem scalarD_int (k : IntKind) (n : Int) : scalarD (.t (.int k n)) = true := (rfl)
@[go_sem] theorem scalarD_bool (b : Bool) : scalarD (.t (.bool b)) = true := (rfl)
@[go_sem] theorem set_wh (l : List Wh) (k : Nat) (a : Int) (b : List Int) : (List.map D.t (List.map Wh.e l)).set k (D.t (T.agg [tI a, tL b])) = List.map D.t (List.map Wh.e (l.set k ⟨a, b⟩)) := by
  rw [List.map_set, List.map_set]

/-- What a sight makes of one world: whether it is left out, and the new one. -/
def seeW (m : Mine) (tag : Int) (l : List Int) (a b : Int) (x : World) : Wh × Int := seeF m (nth x.whr (bearerF x.tags tag).toNat) l a b
def putW (tag : Int) (x : World) (w : Wh) : World := ⟨x.tags, x.whr.set (bearerF x.tags tag).toNat w⟩
def stepW (tag : Int) (r : Wh × Int) (x : World) (out : List World) : List World :=
  if r.2 = 43 then out else out ++ [if r.2 = 0 then putW tag x r.1 else x]
def seeNb (m : Mine) (tag : Int) (l : List Int) (a b : Int) (ws : List World) : Nat → List World
  | 0 => []
  | j + 1 => stepW tag (seeW m tag l a b (nth ws j)) (nth ws j) (seeNb m tag l a b ws j)

theorem stepW_len (tag : Int) (r : Wh × Int) (x : World) (out : List World) : (stepW tag r x out).length ≤ out.length + 1 := by
  unfold stepW; split <;> simp
theorem seeNb_len (m : Mine) (tag : Int) (l : List Int) (a b : Int) (ws : List World) : ∀ j, (seeNb m tag l a b ws j).length ≤ j
  | 0 => by simp [seeNb]
  | j + 1 => by
    have := seeNb_len m tag l a b ws j
    have := stepW_len tag (seeW m tag l a b (nth ws j)) (nth ws j) (seeNb m tag l a b ws j)
    simp only [seeNb]; omega

abbrev seeH (m : Mine) (ws out : List World) : Heap := [.box (mineCells m), .box [.t (.sl (ws.map World.e))], .box [.nil], .box [.ref 4 0 out.length], .arr 2 false 0 ((out.map World.e).map .t)]

theorem see_round {m : Mine} (h : m.ok) (ws : List World) (hw : ws.length ≤ 1000000) (tag : Int) (l : List Int) (hp : l.length ≤ 1000000) (a b : Int) (i : Nat) (hi : i < ws.length) (hs : (nth ws i).sz)
    (hb : 0 ≤ bearerF (nth ws i).tags tag) (hb2 : bearerF (nth ws i).tags tag < (nth ws i).whr.length) (out : List World) (ho : out.length ≤ 1000000) :
    ((seeW m tag l a b (nth ws i)).2 ≠ 6 ∧ (seeW m tag l a b (nth ws i)).2 ≠ 8 → roundC true [0, 1, 9, 10, 13, 14, 15, 16, 17, 18] 5 (exS CALL K.ref26_See_l1b ⟨[.und, .und, I tag, .t (tL l), I a, I b, .bp 0 0, .bp 1 0, .bp 2 0, .und, .und, .bp 3 0, I i, .und, .und, .und, .und, .und, .und], seeH m ws out⟩) =
      some ⟨[.und, .und, I tag, .t (tL l), I a, I b, .bp 0 0, .bp 1 0, .bp 2 0, .und, .und, .bp 3 0, I (i + 1), .und, .und, .und, .und, .und, .und], seeH m ws (stepW tag (seeW m tag l a b (nth ws i)) (nth ws i) out)⟩) ∧
    ((seeW m tag l a b (nth ws i)).2 = 6 ∨ (seeW m tag l a b (nth ws i)).2 = 8 → ∃ vs H, exS CALL K.ref26_See_l1b ⟨[.und, .und, I tag, .t (tL l), I a, I b, .bp 0 0, .bp 1 0, .bp 2 0, .und, .und, .bp 3 0, I i, .und, .und, .und, .und, .und, .und], seeH m ws out⟩ =
      some (.ret, ⟨vs, H⟩) ∧ vs[8]? = some (.bp 2 0) ∧ vs[9]? = some (I (seeW m tag l a b (nth ws i)).2) ∧ H[2]? = some (.box [.t (.sl (ws.map World.e))])) := by
  unfold seeW stepW putW
  have c1 := copyWorld_ok1 (nth ws i) hs
  have br := bearer_ok (nth ws i).tags tag (by have := hs.1; omega)
  have s3 := hs.2.2 _ (nth_mem (l := (nth ws i).whr) (j := (bearerF (nth ws i).tags tag).toNat) (by omega))
  have se := see_ok h (nth (nth ws i).whr (bearerF (nth ws i).tags tag).toNat) s3 l hp a b
  generalize hx : nth ws i = x at *
  obtain ⟨tags, whr⟩ := x
  simp only at c1 br s3 se hb hb2 ⊢
  generalize bearerF tags tag = k at *
  generalize hy : nth whr k.toNat = y at *
  generalize seeF m y l a b = r at *
  obtain ⟨⟨time, frm⟩, e⟩ := r
  obtain ⟨t0, f0⟩ := y
  obtain ⟨s1, s2, -⟩ := hs
  simp only at s1 s2 s3 se ⊢
  constructor
  · rintro ⟨n6, n8⟩
    by_cases e43 : e = 43
    · subst e43
      simp (disch := omega) only [go_sem, K.ref26_See_l1b, ↓reduceIte, seeH, hx, hy, c1, br, se, Nat.reduceAdd, Nat.reduceSub]
    · by_cases e0 : e = 0
      · subst e0
        simp (disch := omega) only [go_sem, K.ref26_See_l1b, ↓reduceIte, seeH, hx, hy, c1, br, se, Nat.reduceAdd, Nat.reduceSub]
      · simp (disch := omega) only [go_sem, K.ref26_See_l1b, ↓reduceIte, seeH, hx, hy, c1, br, se, Nat.reduceAdd, Nat.reduceSub]
  · rintro (h68 | h68) <;> subst h68
    · simp (disch := omega) only [go_sem, K.ref26_See_l1b, ↓reduceIte, seeH, hx, hy, c1, br, se, Nat.reduceAdd, Nat.reduceSub]
      exact ⟨_, _, rfl, rfl, rfl, rfl⟩
    · simp (disch := omega) only [go_sem, K.ref26_See_l1b, ↓reduceIte, seeH, hx, hy, c1, br, se, Nat.reduceAdd, Nat.reduceSub]
      exact ⟨_, _, rfl, rfl, rfl, rfl⟩

def seeBad (m : Mine) (tag : Int) (l : List Int) (a b : Int) (ws : List World) (j : Nat) : Bool := decide ((seeW m tag l a b (nth ws j)).2 = 6 ∨ (seeW m tag l a b (nth ws j)).2 = 8)
def seeBel (m : Mine) (b : Bel) (tag : Int) (l : List Int) (a c : Int) : Bel × Int :=
  if borneF m b tag ≠ 0 then (b, borneF m b tag) else match (List.range b.worlds.length).find? (seeBad m tag l a c b.worlds) with
    | some i => (b, (seeW m tag l a c (nth b.worlds i)).2)
    | none => if (seeNb m tag l a c b.worlds b.worlds.length).length = 0 then (b, 43) else (⟨seeNb m tag l a c b.worlds b.worlds.length⟩, 0)

theorem seeBel_ok {m : Mine} (h : m.ok) (b : Bel) (hs : b.sz) (tag : Int) (l : List Int) (hp : l.length ≤ 1000000) (a c : Int) :
    CALL 0 N.ref26_See [.t m.e, .t b.e, I tag, .t (tL l), I a, I c] [] = some (.tup [.t (seeBel m b tag l a c).1.e, I (seeBel m b tag l a c).2], []) := by
  refine CALL_of K.t_ref26_See rfl ?_
  have cb := copyBel_ok b hs
  have bo := borne_ok h b hs tag
  unfold seeBel
  by_cases e0 : borneF m b tag = 0
  · have hb : belB m b = true := by
      unfold borneF at e0
      by_cases hb : belB m b = true
      · exact hb
      · rw [if_pos (by simpa using hb)] at e0; omega
    have ht : 0 ≤ bearerF (nth b.worlds 0).tags tag := by
      unfold borneF at e0
      rw [if_neg (by simp [hb])] at e0
      by_cases ht : bearerF (nth b.worlds 0).tags tag < 0
      · rw [if_pos ht] at e0; omega
      · omega
    have bb : ∀ i, i < b.worlds.length → 0 ≤ bearerF (nth b.worlds i).tags tag ∧ bearerF (nth b.worlds i).tags tag < (nth b.worlds i).whr.length := fun i hi => by
      obtain ⟨-, -, -, -, h5⟩ := belB_spec hb
      obtain ⟨w1, w2, -⟩ := worldB_spec (h5 i hi)
      have b1 := belB_bearer hb ht (i := i) hi
      have b2 := (bearerF_lt b1).1
      exact ⟨b1, by omega⟩
    rw [e0] at bo
    obtain ⟨ws⟩ := b
    obtain ⟨s1, s2⟩ := hs
    simp only at s1 s2 bb cb bo ⊢
    have ln := seeNb_len m tag l a c ws
    have loop := fun x y z u v w p q r => loop_find (gc := true) (dead := [0, 1, 9, 10, 13, 14, 15, 16, 17, 18]) (c := K.ref26_See_l1b)
      (vs := [x, y, I tag, .t (tL l), I a, I c, .bp 0 0, .bp 1 0, .bp 2 0, z, u, .bp 3 0, I 0, v, w, p, q, r, .und]) (H := seeH m ws [])
      (fun j => ⟨[.und, .und, I tag, .t (tL l), I a, I c, .bp 0 0, .bp 1 0, .bp 2 0, .und, .und, .bp 3 0, I j, .und, .und, .und, .und, .und, .und], seeH m ws (seeNb m tag l a c ws j)⟩) ws.length (seeBad m tag l a c ws)
      (fun j q => q.1 = .ret ∧ q.2.vs[8]? = some (.bp 2 0) ∧ q.2.vs[9]? = some (I (seeW m tag l a c (nth ws j)).2) ∧ q.2.H[2]? = some (.box [.t (.sl (ws.map World.e))]))
      (.exit 0, ⟨[.und, .und, I tag, .t (tL l), I a, I c, .bp 0 0, .bp 1 0, .bp 2 0, .und, .und, .bp 3 0, I ws.length, .und, .und, .und, .und, .und, .und], seeH m ws (seeNb m tag l a c ws ws.length)⟩) rfl
      (fun j hj hq => by
        have := ln j
        have hq : ¬ ((seeW m tag l a c (nth ws j)).2 = 6 ∨ (seeW m tag l a c (nth ws j)).2 = 8) := by simpa [seeBad] using hq
        obtain ⟨b1, b2⟩ := bb j hj
        exact (see_round h ws s1 tag l hp a c j hj (s2 _ (nth_mem hj)) b1 b2 (seeNb m tag l a c ws j) (by omega)).1 (by omega))
      (fun j hj hq => by
        have := ln j
        have hq : (seeW m tag l a c (nth ws j)).2 = 6 ∨ (seeW m tag l a c (nth ws j)).2 = 8 := by simpa [seeBad] using hq
        obtain ⟨b1, b2⟩ := bb j hj
        obtain ⟨vs, H, q1, q2⟩ := (see_round h ws s1 tag l hp a c j hj (s2 _ (nth_mem hj)) b1 b2 (seeNb m tag l a c ws j) (by omega)).2 hq
        exact ⟨_, q1, by simp, rfl, q2⟩)
      (by
        have := ln ws.length
        generalize seeNb m tag l a c ws ws.length = L at *
        simp (disch := omega) only [go_sem, K.ref26_See_l1b, ↓reduceIte, seeH, Nat.reduceAdd, Nat.reduceSub]) (by simp)
    have loop' : ∀ x y z u v w p q r, _ ∨ _ := loop
    clear loop
    rcases loop' (.t m.e) (.t (Bel.e ⟨ws⟩)) (I 0) (I 0) .und .und .und .und .und with ⟨e1, e2⟩ | ⟨j, ⟨x, vs, H⟩, e1, e2, e3, e4, e5, e6⟩
    · have e2 : exS CALL K.ref26_See_l1 _ = _ := e2
      simp only [seeH, List.map_nil, List.length_nil] at e2
      have := ln ws.length
      rw [e1]
      generalize seeNb m tag l a c ws ws.length = L at *
      by_cases L0 : L.length = 0
      · simp (disch := omega) only [go_sem, K.ref26_See, ↓reduceIte, cb, bo, e2, L0, Nat.reduceAdd, Nat.reduceSub, ne_eq, not_true_eq_false]
      · simp (disch := omega) only [go_sem, K.ref26_See, ↓reduceIte, cb, bo, e2, L0, Nat.reduceAdd, Nat.reduceSub, ne_eq, not_true_eq_false]
    · have e2 : exS CALL K.ref26_See_l1 _ = _ := e2
      simp only [seeH, List.map_nil, List.length_nil] at e2
      rw [e1]
      simp only at e3 e4 e5 e6
      subst e3
      simp (disch := omega) only [go_sem, K.ref26_See, ↓reduceIte, cb, bo, e2, Nat.reduceAdd, Nat.reduceSub, ne_eq, not_true_eq_false, e4, e5, e6, List.take_zero]
  · obtain ⟨ws⟩ := b
    simp (disch := omega) only [go_sem, K.ref26_See, ↓reduceIte, cb, bo, e0, ne_eq, not_false_eq_true]

end Go.Ev

/- Chapter 26 of the references: absences. -/
namespace Go.Ev
open Go
variable [Lib] [Has1] [Has2]

def absW (m : Mine) (tag : Int) (l : List Int) (a b bl : Int) (x : World) : Wh × Int := absF m (nth x.whr (bearerF x.tags tag).toNat) l a b bl
def stepA (tag : Int) (r : Wh × Int) (x : World) (out : List World) : List World := out ++ [if r.2 = 0 then putW tag x r.1 else x]
def absNb (m : Mine) (tag : Int) (l : List Int) (a b bl : Int) (ws : List World) : Nat → List World
  | 0 => []
  | j + 1 => stepA tag (absW m tag l a b bl (nth ws j)) (nth ws j) (absNb m tag l a b bl ws j)
theorem absNb_len (m : Mine) (tag : Int) (l : List Int) (a b bl : Int) (ws : List World) : ∀ j, (absNb m tag l a b bl ws j).length = j
  | 0 => rfl
  | j + 1 => by
    simp only [absNb, stepA, List.length_append, absNb_len m tag l a b bl ws j, List.length_singleton]

theorem abs_round {m : Mine} (h : m.ok) (ws : List World) (hw : ws.length ≤ 1000000) (tag : Int) (l : List Int) (hp : l.length ≤ 1000000) (a b bl : Int) (i : Nat) (hi : i < ws.length) (hs : (nth ws i).sz)
    (hb : 0 ≤ bearerF (nth ws i).tags tag) (hb2 : bearerF (nth ws i).tags tag < (nth ws i).whr.length) (out : List World) (ho : out.length ≤ 1000000) :
    ((absW m tag l a b bl (nth ws i)).2 ≠ 6 ∧ (absW m tag l a b bl (nth ws i)).2 ≠ 8 → roundC true [0, 1, 10, 11, 14, 15, 16, 17] 5 (exS CALL K.ref26_Absent_l1b ⟨[.und, .und, I tag, .t (tL l), I a, I b, I bl, .bp 0 0, .bp 1 0, .bp 2 0, .und, .und, .bp 3 0, I i, .und, .und, .und, .und], seeH m ws out⟩) =
      some ⟨[.und, .und, I tag, .t (tL l), I a, I b, I bl, .bp 0 0, .bp 1 0, .bp 2 0, .und, .und, .bp 3 0, I (i + 1), .und, .und, .und, .und], seeH m ws (stepA tag (absW m tag l a b bl (nth ws i)) (nth ws i) out)⟩) ∧
    ((absW m tag l a b bl (nth ws i)).2 = 6 ∨ (absW m tag l a b bl (nth ws i)).2 = 8 → ∃ vs H, exS CALL K.ref26_Absent_l1b ⟨[.und, .und, I tag, .t (tL l), I a, I b, I bl, .bp 0 0, .bp 1 0, .bp 2 0, .und, .und, .bp 3 0, I i, .und, .und, .und, .und], seeH m ws out⟩ =
      some (.ret, ⟨vs, H⟩) ∧ vs[9]? = some (.bp 2 0) ∧ vs[10]? = some (I (absW m tag l a b bl (nth ws i)).2) ∧ H[2]? = some (.box [.t (.sl (ws.map World.e))])) := by
  unfold absW stepA putW
  have c1 := copyWorld_ok1 (nth ws i) hs
  have br := bearer_ok (nth ws i).tags tag (by have := hs.1; omega)
  have s3 := hs.2.2 _ (nth_mem (l := (nth ws i).whr) (j := (bearerF (nth ws i).tags tag).toNat) (by omega))
  have se := abs_ok h (nth (nth ws i).whr (bearerF (nth ws i).tags tag).toNat) s3 l hp a b bl
  generalize hx : nth ws i = x at *
  obtain ⟨tags, whr⟩ := x
  simp only at c1 br s3 se hb hb2 ⊢
  generalize bearerF tags tag = k at *
  generalize hy : nth whr k.toNat = y at *
  generalize absF m y l a b bl = r at *
  obtain ⟨⟨time, frm⟩, e⟩ := r
  obtain ⟨t0, f0⟩ := y
  obtain ⟨s1, s2, -⟩ := hs
  simp only at s1 s2 s3 se ⊢
  constructor
  · rintro ⟨n6, n8⟩
    by_cases e0 : e = 0
    · subst e0
      simp (disch := omega) only [go_sem, K.ref26_Absent_l1b, ↓reduceIte, seeH, hx, hy, c1, br, se, Nat.reduceAdd, Nat.reduceSub]
    · simp (disch := omega) only [go_sem, K.ref26_Absent_l1b, ↓reduceIte, seeH, hx, hy, c1, br, se, Nat.reduceAdd, Nat.reduceSub]
  · rintro (h68 | h68) <;> subst h68
    · simp (disch := omega) only [go_sem, K.ref26_Absent_l1b, ↓reduceIte, seeH, hx, hy, c1, br, se, Nat.reduceAdd, Nat.reduceSub]
      exact ⟨_, _, rfl, rfl, rfl, rfl⟩
    · simp (disch := omega) only [go_sem, K.ref26_Absent_l1b, ↓reduceIte, seeH, hx, hy, c1, br, se, Nat.reduceAdd, Nat.reduceSub]
      exact ⟨_, _, rfl, rfl, rfl, rfl⟩

def absBad (m : Mine) (tag : Int) (l : List Int) (a b bl : Int) (ws : List World) (j : Nat) : Bool := decide ((absW m tag l a b bl (nth ws j)).2 = 6 ∨ (absW m tag l a b bl (nth ws j)).2 = 8)
def absBel (m : Mine) (b : Bel) (tag : Int) (l : List Int) (a c bl : Int) : Bel × Int :=
  if borneF m b tag ≠ 0 then (b, borneF m b tag) else match (List.range b.worlds.length).find? (absBad m tag l a c bl b.worlds) with
    | some i => (b, (absW m tag l a c bl (nth b.worlds i)).2)
    | none => (⟨absNb m tag l a c bl b.worlds b.worlds.length⟩, 0)

theorem borne_0 {m : Mine} {b : Bel} {tag : Int} (e0 : borneF m b tag = 0) : belB m b = true ∧ ∀ i, i < b.worlds.length → 0 ≤ bearerF (nth b.worlds i).tags tag ∧ bearerF (nth b.worlds i).tags tag < (nth b.worlds i).whr.length := by
  have hb : belB m b = true := by
    unfold borneF at e0
    by_cases hb : belB m b = true
    · exact hb
    · rw [if_pos (by simpa using hb)] at e0; omega
  have ht : 0 ≤ bearerF (nth b.worlds 0).tags tag := by
    unfold borneF at e0
    rw [if_neg (by simp [hb])] at e0
    by_cases ht : bearerF (nth b.worlds 0).tags tag < 0
    · rw [if_pos ht] at e0; omega
    · omega
  refine ⟨hb, fun i hi => ?_⟩
  obtain ⟨-, -, -, -, h5⟩ := belB_spec hb
  obtain ⟨w1, w2, -⟩ := worldB_spec (h5 i hi)
  have b1 := belB_bearer hb ht (i := i) hi
  have b2 := (bearerF_lt b1).1
  exact ⟨b1, by omega⟩

theorem absBel_ok {m : Mine} (h : m.ok) (b : Bel) (hs : b.sz) (tag : Int) (l : List Int) (hp : l.length ≤ 1000000) (a c bl : Int) :
    CALL 0 N.ref26_Absent [.t m.e, .t b.e, I tag, .t (tL l), I a, I c, I bl] [] = some (.tup [.t (absBel m b tag l a c bl).1.e, I (absBel m b tag l a c bl).2], []) := by
  refine CALL_of K.t_ref26_Absent rfl ?_
  have cb := copyBel_ok b hs
  have bo := borne_ok h b hs tag
  unfold absBel
  by_cases e0 : borneF m b tag = 0
  · obtain ⟨hb, bb⟩ := borne_0 e0
    rw [e0] at bo
    obtain ⟨ws⟩ := b
    obtain ⟨s1, s2⟩ := hs
    simp only at s1 s2 bb cb bo ⊢
    have ln := absNb_len m tag l a c bl ws
    have loop := fun x y u v w p q r => loop_find (gc := true) (dead := [0, 1, 10, 11, 14, 15, 16, 17]) (c := K.ref26_Absent_l1b)
      (vs := [x, y, I tag, .t (tL l), I a, I c, I bl, .bp 0 0, .bp 1 0, .bp 2 0, u, v, .bp 3 0, I 0, w, p, q, r]) (H := seeH m ws [])
      (fun j => ⟨[.und, .und, I tag, .t (tL l), I a, I c, I bl, .bp 0 0, .bp 1 0, .bp 2 0, .und, .und, .bp 3 0, I j, .und, .und, .und, .und], seeH m ws (absNb m tag l a c bl ws j)⟩) ws.length (absBad m tag l a c bl ws)
      (fun j q => q.1 = .ret ∧ q.2.vs[9]? = some (.bp 2 0) ∧ q.2.vs[10]? = some (I (absW m tag l a c bl (nth ws j)).2) ∧ q.2.H[2]? = some (.box [.t (.sl (ws.map World.e))]))
      (.exit 0, ⟨[.und, .und, I tag, .t (tL l), I a, I c, I bl, .bp 0 0, .bp 1 0, .bp 2 0, .und, .und, .bp 3 0, I ws.length, .und, .und, .und, .und], seeH m ws (absNb m tag l a c bl ws ws.length)⟩) rfl
      (fun j hj hq => by
        have := ln j
        have hq : ¬ ((absW m tag l a c bl (nth ws j)).2 = 6 ∨ (absW m tag l a c bl (nth ws j)).2 = 8) := by simpa [absBad] using hq
        obtain ⟨b1, b2⟩ := bb j hj
        exact (abs_round h ws s1 tag l hp a c bl j hj (s2 _ (nth_mem hj)) b1 b2 (absNb m tag l a c bl ws j) (by omega)).1 (by omega))
      (fun j hj hq => by
        have := ln j
        have hq : (absW m tag l a c bl (nth ws j)).2 = 6 ∨ (absW m tag l a c bl (nth ws j)).2 = 8 := by simpa [absBad] using hq
        obtain ⟨b1, b2⟩ := bb j hj
        obtain ⟨vs, H, q1, q2⟩ := (abs_round h ws s1 tag l hp a c bl j hj (s2 _ (nth_mem hj)) b1 b2 (absNb m tag l a c bl ws j) (by omega)).2 hq
        exact ⟨_, q1, by simp, rfl, q2⟩)
      (by
        have := ln ws.length
        generalize absNb m tag l a c bl ws ws.length = L at *
        simp (disch := omega) only [go_sem, K.ref26_Absent_l1b, ↓reduceIte, seeH, Nat.reduceAdd, Nat.reduceSub]) (by simp)
    rcases loop (.t m.e) (.t (Bel.e ⟨ws⟩)) (I 0) (I 0) .und .und .und .und with ⟨e1, e2⟩ | ⟨j, ⟨x, vs, H⟩, e1, e2, e3, e4, e5, e6⟩
    · have e2 : exS CALL K.ref26_Absent_l1 _ = _ := e2
      simp only [seeH, List.map_nil, List.length_nil] at e2
      have := ln ws.length
      rw [e1]
      generalize absNb m tag l a c bl ws ws.length = L at *
      simp (disch := omega) only [go_sem, K.ref26_Absent, ↓reduceIte, cb, bo, e2, Nat.reduceAdd, Nat.reduceSub, ne_eq, not_true_eq_false]
    · have e2 : exS CALL K.ref26_Absent_l1 _ = _ := e2
      simp only [seeH, List.map_nil, List.length_nil] at e2
      rw [e1]
      simp only at e3 e4 e5 e6
      subst e3
      simp (disch := omega) only [go_sem, K.ref26_Absent, ↓reduceIte, cb, bo, e2, Nat.reduceAdd, Nat.reduceSub, ne_eq, not_true_eq_false, e4, e5, e6, List.take_zero]
  · obtain ⟨ws⟩ := b
    simp (disch := omega) only [go_sem, K.ref26_Absent, ↓reduceIte, cb, bo, e0, ne_eq, not_false_eq_true]

end Go.Ev

/- Chapter 26 of the references: worlds are tidied. -/
namespace Go.Ev
open Go
variable [Lib] [Has1] [Has2]

/-- A loop, by a relation that holds ahead of each round. -/
theorem loop_inv {gc : Bool} {dead : List Nat} {c : C} {vs : List D} {H : Heap} (P : Nat → St → Prop) (n : Nat) (Q : Ex × St → Prop) (h0 : P 0 ⟨dropV dead vs, H⟩)
    (hs : ∀ j st, j < n → P j st → ∃ st', roundC gc dead st.H.length (exS CALL c st) = some st' ∧ P (j + 1) st')
    (he : ∀ st, P n st → ∃ q, exS CALL c st = some q ∧ q.1 ≠ .normal ∧ Q q) : ∃ q, exS CALL (.loop gc dead c) ⟨vs, H⟩ = some q ∧ Q q := by
  have key : ∀ (k j : Nat) (st : St), j + k = n → P j st → ∃ q, loopC gc dead (exS CALL c) st = some q ∧ Q q := by
    intro k
    induction k with
    | zero =>
      intro j st hj hp
      obtain ⟨q, h1, h2, h3⟩ := he st (by rw [← hj]; exact hp)
      exact ⟨q, loopC_exit h1 h2, h3⟩
    | succ k ih =>
      intro j st hj hp
      obtain ⟨st', h1, h2⟩ := hs j st (by omega) hp
      obtain ⟨q, h3, h4⟩ := ih (j + 1) st' (by omega) h2
      exact ⟨q, loopC_step h1 h3, h4⟩
  exact key n 0 _ (by omega) h0

abbrev ints (l : List Int) : List D := (l.map (T.int .i64)).map .t
abbrev whs (l : List Wh) : List D := (l.map Wh.e).map .t

/-- Where a world belongs in an ordered list. -/
def tidyK (out : List World) (x : World) : Nat := match (List.range out.length).find? (fun k => !lessB (nth out k).tags x.tags) with
  | some k => k
  | none => out.length
theorem tidyK_le (out : List World) (x : World) : tidyK out x ≤ out.length := by
  unfold tidyK
  split
  · rename_i k h; exact Nat.le_of_lt (find_lt h).1
  · exact Nat.le_refl _
def joinN (a b : List Wh) : Nat → List Wh
  | 0 => a
  | p + 1 => (joinN a b p).set p (joinF (nth a p) (nth b p)).1
theorem joinN_len (a b : List Wh) : ∀ p, (joinN a b p).length = a.length
  | 0 => rfl
  | p + 1 => by simp only [joinN, List.length_set, joinN_len a b p]
theorem joinN_nth (a b : List Wh) : ∀ p q, p ≤ q → nth (joinN a b p) q = nth a q
  | 0, q, _ => rfl
  | p + 1, q, h => by
    have e : nth ((joinN a b p).set p (joinF (nth a p) (nth b p)).1) q = nth (joinN a b p) q := by
      unfold nth; rw [List.getD_eq_getElem?_getD, List.getElem?_set_ne (by omega), ← List.getD_eq_getElem?_getD]
    simp only [joinN, e]
    exact joinN_nth a b p q (by omega)
def joinWs (a b : List Wh) : List Wh := joinN a b (min a.length b.length)
def tidy1 (out : List World) (x : World) : List World :=
  if tidyK out x < out.length ∧ (nth out (tidyK out x)).tags = x.tags then out.set (tidyK out x) ⟨x.tags, joinWs (nth out (tidyK out x)).whr x.whr⟩
  else out.take (tidyK out x) ++ [x] ++ out.drop (tidyK out x)
def tidyN (l : List World) : Nat → List World
  | 0 => []
  | j + 1 => tidy1 (tidyN l j) (nth l j)
def tidyF (l : List World) : List World := tidyN l l.length

/-- A list of worlds in a heap: an array of pairs of arrays. -/
structure Rp (H : Heap) (id : Nat) (es : List D) (fa fb : Nat → Nat) (out : List World) : Prop where
  arr : H[id]? = some (.arr 2 false 0 es)
  len : es.length = out.length
  el : ∀ j, j < out.length → es[j]? = some (.agg [.ref (fa j) 0 (nth out j).tags.length, .ref (fb j) 0 (nth out j).whr.length])
  ha : ∀ j, j < out.length → H[fa j]? = some (.arr 1 false 0 (ints (nth out j).tags))
  hb : ∀ j, j < out.length → H[fb j]? = some (.arr 2 false 0 (whs (nth out j).whr))
  na : ∀ j, j < out.length → fa j ≠ id
  nb : ∀ j, j < out.length → fb j ≠ id
  nab : ∀ i j, i < out.length → j < out.length → fa i ≠ fb j
  nbb : ∀ i j, i < out.length → j < out.length → i ≠ j → fb i ≠ fb j

def Rep (H : Heap) (v : D) (out : List World) : Prop := (v = .nil ∧ out = []) ∨ ∃ id es fa fb, v = .ref id 0 out.length ∧ 0 < out.length ∧ Rp H id es fa fb out

theorem tidy_l2 (l : List World) (i : Nat) (hi : i < l.length) (out : List World) (ho : out.length ≤ 1000000) (hso : ∀ x ∈ out, x.sz) (hsx : (nth l i).sz) (H : Heap) (v : D) (hr : Rep H v out) (a b : D) :
    exS CALL K.ref26_Tidy_l2 ⟨[.t (.sl (l.map World.e)), a, v, I i, I 0, b], H⟩ = some (.exit 2, ⟨[.t (.sl (l.map World.e)), .und, v, I i, I (tidyK out (nth l i)), .und], H⟩) := by
  rcases hr with ⟨rfl, rfl⟩ | ⟨id, es, fa, fb, rfl, h0, hr⟩
  · have : tidyK [] (nth l i) = 0 := rfl
    rw [this]
    refine loop_is (loopC_exit ?_ (by simp))
    simp (disch := omega) only [go_sem, K.ref26_Tidy_l2b, ↓reduceIte, Nat.reduceAdd, Nat.reduceSub]
  · have key : exS CALL K.ref26_Tidy_l2 ⟨[.t (.sl (l.map World.e)), a, .ref id 0 out.length, I i, I 0, b], H⟩ = some (match (List.range out.length).find? (fun k => !lessB (nth out k).tags (nth l i).tags) with
        | some k => (.exit 2, ⟨[.t (.sl (l.map World.e)), .und, .ref id 0 out.length, I i, I k, .und], H⟩)
        | none => (.exit 2, ⟨[.t (.sl (l.map World.e)), .und, .ref id 0 out.length, I i, I out.length, .und], H⟩)) := by
      refine loop_first (fun k => ⟨[.t (.sl (l.map World.e)), .und, .ref id 0 out.length, I i, I k, .und], H⟩) out.length _ _ _ rfl ?_ ?_ ?_ (by simp)
      · intro k hk hp
        have hp : lessB (nth out k).tags (nth l i).tags = true := by simpa using hp
        have s1 := (hso _ (nth_mem hk)).1
        have s2 := hsx.1
        have ls := less_ok (nth out k).tags (nth l i).tags s1 s2
        have e1 := hr.arr
        have e2 := hr.len
        have e3 := hr.el k hk
        have e4 := hr.ha k hk
        generalize nth out k = y at *
        obtain ⟨ta, wa⟩ := y
        generalize hx : nth l i = x at *
        obtain ⟨tb, wb⟩ := x
        simp only at s1 s2 ls e3 e4 hp
        simp (disch := omega) only [go_sem, K.ref26_Tidy_l2b, ↓reduceIte, Nat.reduceAdd, Nat.reduceSub, e1, e2, e3, e4, hx, ls, hp]
        done
      · intro k hk hp
        have hp : lessB (nth out k).tags (nth l i).tags = false := by simpa using hp
        have s1 := (hso _ (nth_mem hk)).1
        have s2 := hsx.1
        have ls := less_ok (nth out k).tags (nth l i).tags s1 s2
        have e1 := hr.arr
        have e2 := hr.len
        have e3 := hr.el k hk
        have e4 := hr.ha k hk
        generalize nth out k = y at *
        obtain ⟨ta, wa⟩ := y
        generalize hx : nth l i = x at *
        obtain ⟨tb, wb⟩ := x
        simp only at s1 s2 ls e3 e4 hp
        refine ⟨?_, by simp⟩
        simp (disch := omega) only [go_sem, K.ref26_Tidy_l2b, ↓reduceIte, Nat.reduceAdd, Nat.reduceSub, e1, e2, e3, e4, hx, ls, hp]
        done
      · simp (disch := omega) only [go_sem, K.ref26_Tidy_l2b, ↓reduceIte, Nat.reduceAdd, Nat.reduceSub]
    rw [key]
    unfold tidyK
    cases (List.range out.length).find? (fun k => !lessB (nth out k).tags (nth l i).tags) <;> rfl

@[go_sem] theorem joinT_eq (a b : Wh) : (joinF a b).1.e = .agg [tI (joinF a b).1.time, tL (joinF a b).1.frm] := rfl

theorem tidy_l3 (l : List World) (i : Nat) (hi : i < l.length) (out : List World) (ho : out.length ≤ 1000000) (hso : ∀ x ∈ out, x.sz) (hsx : (nth l i).sz) (H : Heap) (id : Nat) (es : List D) (fa fb : Nat → Nat)
    (hr : Rp H id es fa fb out) (k : Nat) (hk : k < out.length) (a : D) :
    exS CALL K.ref26_Tidy_l3 ⟨[.t (.sl (l.map World.e)), a, .ref id 0 out.length, I i, I k, I 0], H⟩ =
    some (.exit 4, ⟨[.t (.sl (l.map World.e)), .und, .ref id 0 out.length, I i, I k, I ((min (nth out k).whr.length (nth l i).whr.length : Nat) : Int)], H.set (fb k) (.arr 2 false 0 (whs (joinWs (nth out k).whr (nth l i).whr)))⟩) := by
  have e1 := hr.arr
  have e2 := hr.len
  have e3 := hr.el k hk
  have e5 := hr.hb k hk
  have e6 := hr.nb k hk
  have e7 := hp_lt e5
  obtain ⟨s1, s2, s3⟩ := hso _ (nth_mem hk)
  obtain ⟨x1, x2, x3⟩ := hsx
  generalize nth out k = y at *
  obtain ⟨ta, wa⟩ := y
  generalize hx : nth l i = x at *
  obtain ⟨tb, wb⟩ := x
  simp only at s1 s2 s3 x1 x2 x3 e3 e5 ⊢
  have jl := joinN_len wa wb
  have q1 : ∀ o, (H.set (fb k) o)[id]? = H[id]? := fun o => hp_set_ne e6
  have q2 : ∀ o, (H.set (fb k) o)[fb k]? = some o := fun o => hp_set_get e7
  refine loop_up (fun p => ⟨[.t (.sl (l.map World.e)), .und, .ref id 0 out.length, I i, I k, I p], H.set (fb k) (.arr 2 false 0 (whs (joinN wa wb p)))⟩) (min wa.length wb.length) ?_ ?_ ?_ (by simp)
  · show (⟨_, H⟩ : St) = ⟨_, H.set (fb k) (.arr 2 false 0 (whs wa))⟩
    rw [set_self e5]; rfl
  · intro p hp
    have jp := jl p
    have jn := joinN_nth wa wb p p (Nat.le_refl _)
    have jo := join_ok (nth wa p) (nth wb p) (s3 _ (nth_mem (by omega)))
    have hj : joinN wa wb (p + 1) = (joinN wa wb p).set p (joinF (nth wa p) (nth wb p)).1 := rfl
    rw [hj]
    generalize joinN wa wb p = J at *
    generalize hu : nth wb p = u at *
    generalize nth wa p = w at *
    generalize joinF w u = r at *
    obtain ⟨⟨rt, rf⟩, re⟩ := r
    simp only at jo ⊢
    simp (disch := omega) only [go_sem, K.ref26_Tidy_l3b, ↓reduceIte, Nat.reduceAdd, Nat.reduceSub, q1, q2, e1, e2, e3, hp_set_set, hx, hu, jn, jo]
  · have jp := jl (min wa.length wb.length)
    have hj : joinWs wa wb = joinN wa wb (min wa.length wb.length) := rfl
    rw [hj]
    generalize joinN wa wb (min wa.length wb.length) = J at *
    by_cases c : wa.length ≤ wb.length
    · simp (disch := omega) only [go_sem, K.ref26_Tidy_l3b, ↓reduceIte, Nat.reduceAdd, Nat.reduceSub, q1, q2, e1, e2, e3, hp_set_set, hx, Nat.min_eq_left c]
    · have hm : min wa.length wb.length = wb.length := by omega
      simp (disch := omega) only [go_sem, K.ref26_Tidy_l3b, ↓reduceIte, Nat.reduceAdd, Nat.reduceSub, q1, q2, e1, e2, e3, hp_set_set, hx, hm]

theorem headSize_all {sz : Nat} {l : List D} (h : ∀ e ∈ l, e.cells.length = sz) : headSize sz l = true := by
  cases l with
  | nil => rfl
  | cons d r => rw [headSize_cons, lenIs_iff]; exact h d List.mem_cons_self

theorem Rp.size {H : Heap} {id : Nat} {es : List D} {fa fb : Nat → Nat} {out : List World} (hr : Rp H id es fa fb out) : ∀ e ∈ es, e.cells.length = 2 := by
  intro e he
  obtain ⟨j, hj⟩ := List.mem_iff_getElem?.1 he
  have hl := (List.getElem?_eq_some_iff.1 hj).1
  rw [hr.el j (by rw [← hr.len]; exact hl)] at hj
  cases hj; rfl

theorem ins_get {α : Type} (l : List α) (k : Nat) (hk : k ≤ l.length) (x : α) (j : Nat) : (l.take k ++ [x] ++ l.drop k)[j]? = if j < k then l[j]? else if j = k then some x else l[j - 1]? := by
  have hl : (l.take k).length = k := by rw [List.length_take]; omega
  rw [List.append_assoc]
  by_cases h1 : j < k
  · rw [if_pos h1, List.getElem?_append_left (by omega), List.getElem?_take_of_lt h1]
  · rw [if_neg h1, List.getElem?_append_right (by omega), hl]
    by_cases h2 : j = k
    · rw [if_pos h2, h2, Nat.sub_self]; rfl
    · rw [if_neg h2, List.getElem?_append_right (by simp; omega)]
      simp only [List.length_singleton, List.getElem?_drop]
      congr 1; omega
theorem ins_nth {α : Type} [Dat α] (l : List α) (k : Nat) (hk : k ≤ l.length) (x : α) (j : Nat) : nth (l.take k ++ [x] ++ l.drop k) j = if j < k then nth l j else if j = k then x else nth l (j - 1) := by
  unfold nth
  rw [List.getD_eq_getElem?_getD, ins_get l k hk]
  split
  · rw [List.getD_eq_getElem?_getD]
  · split
    · rfl
    · rw [List.getD_eq_getElem?_getD]
theorem set_nth {α : Type} [Dat α] (l : List α) (k : Nat) (hk : k < l.length) (x : α) (j : Nat) : nth (l.set k x) j = if j = k then x else nth l j := by
  unfold nth
  rw [List.getD_eq_getElem?_getD]
  by_cases h : j = k
  · rw [if_pos h, h, List.getElem?_set_self hk]; rfl
  · rw [if_neg h, List.getElem?_set_ne (fun e => h e.symm), List.getD_eq_getElem?_getD]

theorem Rp.ins {H : Heap} {id : Nat} {es : List D} {fa fb : Nat → Nat} {out : List World} (hr : Rp H id es fa fb out) {k : Nat} (hk : k ≤ out.length) (x : World) (o : Obj) :
    Rp (H ++ [.arr 2 false 0 (es.take k ++ [.agg [.ref (H.length + 1) 0 x.tags.length, .ref (H.length + 2) 0 x.whr.length]] ++ es.drop k), .arr 1 false 0 (ints x.tags), .arr 2 false 0 (whs x.whr), o]) H.length
      (es.take k ++ [.agg [.ref (H.length + 1) 0 x.tags.length, .ref (H.length + 2) 0 x.whr.length]] ++ es.drop k)
      (fun j => if j < k then fa j else if j = k then H.length + 1 else fa (j - 1)) (fun j => if j < k then fb j else if j = k then H.length + 2 else fb (j - 1)) (out.take k ++ [x] ++ out.drop k) := by
  have ol : (out.take k ++ [x] ++ out.drop k).length = out.length + 1 := by
    rw [List.length_append, List.length_append, List.length_take, List.length_drop, List.length_singleton]; omega
  have e2 := hr.len
  have ba : ∀ j, j < out.length → fa j < H.length := fun j hj => hp_lt (hr.ha j hj)
  have bb : ∀ j, j < out.length → fb j < H.length := fun j hj => hp_lt (hr.hb j hj)
  refine ⟨hp_get_len, ?_, ?_, ?_, ?_, ?_, ?_, ?_, ?_⟩
  · rw [ol, List.length_append, List.length_append, List.length_take, List.length_drop, List.length_singleton]; omega
  · intro j hj
    rw [ol] at hj
    simp only [ins_get es k (by omega), ins_nth out k hk]
    by_cases h1 : j < k
    · simp only [if_pos h1]; exact hr.el j (by omega)
    · by_cases h2 : j = k
      · simp only [if_neg h1, if_pos h2]
      · simp only [if_neg h1, if_neg h2]; exact hr.el (j - 1) (by omega)
  · intro j hj
    rw [ol] at hj
    simp only [ins_nth out k hk]
    by_cases h1 : j < k
    · simp only [if_pos h1]; rw [hp_get (ba j (by omega))]; exact hr.ha j (by omega)
    · by_cases h2 : j = k
      · simp only [if_neg h1, if_pos h2]; rw [hp_get_add]; rfl
      · simp only [if_neg h1, if_neg h2]; rw [hp_get (ba (j - 1) (by omega))]; exact hr.ha (j - 1) (by omega)
  · intro j hj
    rw [ol] at hj
    simp only [ins_nth out k hk]
    by_cases h1 : j < k
    · simp only [if_pos h1]; rw [hp_get (bb j (by omega))]; exact hr.hb j (by omega)
    · by_cases h2 : j = k
      · simp only [if_neg h1, if_pos h2]; rw [hp_get_add]; rfl
      · simp only [if_neg h1, if_neg h2]; rw [hp_get (bb (j - 1) (by omega))]; exact hr.hb (j - 1) (by omega)
  · intro j hj
    rw [ol] at hj
    have b1 := ba j
    have b2 := ba (j - 1)
    split
    · have := b1 (by omega); omega
    · split
      · omega
      · have := b2 (by omega); omega
  · intro j hj
    rw [ol] at hj
    have b1 := bb j
    have b2 := bb (j - 1)
    split
    · have := b1 (by omega); omega
    · split
      · omega
      · have := b2 (by omega); omega
  · intro i j hi hj
    rw [ol] at hi hj
    have a1 := ba i
    have a2 := ba (i - 1)
    have b1 := bb j
    have b2 := bb (j - 1)
    by_cases h1 : i < k
    · rw [if_pos h1]
      have := a1 (by omega)
      by_cases h2 : j < k
      · rw [if_pos h2]; exact hr.nab i j (by omega) (by omega)
      · rw [if_neg h2]
        by_cases h3 : j = k
        · rw [if_pos h3]; omega
        · rw [if_neg h3]; exact hr.nab i (j - 1) (by omega) (by omega)
    · rw [if_neg h1]
      by_cases h4 : i = k
      · rw [if_pos h4]
        split
        · have := b1 (by omega); omega
        · split
          · omega
          · have := b2 (by omega); omega
      · rw [if_neg h4]
        have := a2 (by omega)
        by_cases h2 : j < k
        · rw [if_pos h2]; exact hr.nab (i - 1) j (by omega) (by omega)
        · rw [if_neg h2]
          by_cases h3 : j = k
          · rw [if_pos h3]; omega
          · rw [if_neg h3]; exact hr.nab (i - 1) (j - 1) (by omega) (by omega)
  · intro i j hi hj hne
    rw [ol] at hi hj
    have a1 := bb i
    have a2 := bb (i - 1)
    have b1 := bb j
    have b2 := bb (j - 1)
    by_cases h1 : i < k
    · rw [if_pos h1]
      have := a1 (by omega)
      by_cases h2 : j < k
      · rw [if_pos h2]; exact hr.nbb i j (by omega) (by omega) hne
      · rw [if_neg h2]
        by_cases h3 : j = k
        · rw [if_pos h3]; omega
        · rw [if_neg h3]; exact hr.nbb i (j - 1) (by omega) (by omega) (by omega)
    · rw [if_neg h1]
      by_cases h4 : i = k
      · rw [if_pos h4]
        split
        · have := b1 (by omega); omega
        · split
          · omega
          · have := b2 (by omega); omega
      · rw [if_neg h4]
        have := a2 (by omega)
        by_cases h2 : j < k
        · rw [if_pos h2]; exact hr.nbb (i - 1) j (by omega) (by omega) (by omega)
        · rw [if_neg h2]
          by_cases h3 : j = k
          · rw [if_pos h3]; omega
          · rw [if_neg h3]; exact hr.nbb (i - 1) (j - 1) (by omega) (by omega) (by omega)

theorem Rp.merge {H : Heap} {id : Nat} {es : List D} {fa fb : Nat → Nat} {out : List World} (hr : Rp H id es fa fb out) {k : Nat} (hk : k < out.length) (x : World) (ht : (nth out k).tags = x.tags) (hw : x.whr.length = (nth out k).whr.length) :
    Rp (H.set (fb k) (.arr 2 false 0 (whs x.whr))) id es fa fb (out.set k x) := by
  have ol : (out.set k x).length = out.length := List.length_set
  have nk := hr.nb k hk
  have kl := hp_lt (hr.hb k hk)
  refine ⟨by rw [hp_set_ne nk]; exact hr.arr, by rw [ol]; exact hr.len, ?_, ?_, ?_, by rw [ol]; exact hr.na, by rw [ol]; exact hr.nb, by rw [ol]; exact hr.nab, by rw [ol]; exact hr.nbb⟩
  · intro j hj
    rw [ol] at hj
    rw [hr.el j hj, set_nth out k hk]
    by_cases h : j = k
    · rw [if_pos h, h, ht, hw]
    · rw [if_neg h]
  · intro j hj
    rw [ol] at hj
    rw [hp_set_ne (fun e => hr.nab j k hj hk e.symm), hr.ha j hj, set_nth out k hk]
    by_cases h : j = k
    · rw [if_pos h, h, ht]
    · rw [if_neg h]
  · intro j hj
    rw [ol] at hj
    rw [set_nth out k hk]
    by_cases h : j = k
    · rw [if_pos h, h, hp_set_get kl]
    · rw [if_neg h, hp_set_ne (fun e => hr.nbb j k hj hk h e.symm)]; exact hr.hb j hj

theorem tidy_round (l : List World) (i : Nat) (hi : i < l.length) (hl : l.length ≤ 1000000) (out : List World) (ho : out.length ≤ 999999) (hso : ∀ x ∈ out, x.sz) (hsx : (nth l i).sz) (H : Heap) (v : D) (hr : Rep H v out) :
    ∃ v' H', roundC false [1, 4, 5] H.length (exS CALL K.ref26_Tidy_l1b ⟨[.t (.sl (l.map World.e)), .und, v, I i, .und, .und], H⟩) = some ⟨[.t (.sl (l.map World.e)), .und, v', I (i + 1), .und, .und], H'⟩ ∧ Rep H' v' (tidy1 out (nth l i)) := by
  have l2 := tidy_l2 l i hi out (by omega) hso hsx H v hr
  have kl := tidyK_le out (nth l i)
  have cw := copyWorld_ok1 (nth l i) hsx
  rcases hr with ⟨rfl, rfl⟩ | ⟨id, es, fa, fb, rfl, h0, hr⟩
  · have k0 : tidyK [] (nth l i) = 0 := rfl
    rw [k0] at l2
    have t1 : tidy1 [] (nth l i) = [nth l i] := rfl
    rw [t1]
    generalize hx : nth l i = x at *
    obtain ⟨tb, wb⟩ := x
    simp only at cw
    have run : roundC false [1, 4, 5] H.length (exS CALL K.ref26_Tidy_l1b ⟨[.t (.sl (l.map World.e)), .und, .nil, I i, .und, .und], H⟩) =
        some ⟨[.t (.sl (l.map World.e)), .und, .ref H.length 0 1, I (i + 1), .und, .und], H ++ [.arr 2 false 0 [.agg [.ref (H.length + 1) 0 tb.length, .ref (H.length + 2) 0 wb.length]], .arr 1 false 0 (ints tb), .arr 2 false 0 (whs wb), .arr 2 false 0 [.agg [.ref (H.length + 1) 0 tb.length, .ref (H.length + 2) 0 wb.length]]]⟩ := by
      simp (disch := omega) only [go_sem, K.ref26_Tidy_l1b, ↓reduceIte, Nat.reduceAdd, Nat.reduceSub, l2, hx, cw, hp_get_len, hp_get_add, hp_set_len, hp_assoc, Nat.add_assoc]
    refine ⟨_, _, run, .inr ⟨H.length, _, fun _ => H.length + 1, fun _ => H.length + 2, rfl, by simp, ⟨hp_get_len, rfl, ?_, ?_, ?_, ?_, ?_, ?_, ?_⟩⟩⟩
    all_goals skip
    · intro j hj; obtain rfl : j = 0 := by simpa using hj
      rfl
    · intro j hj; obtain rfl : j = 0 := by simpa using hj
      rw [hp_get_add]; rfl
    · intro j hj; obtain rfl : j = 0 := by simpa using hj
      rw [hp_get_add]; rfl
    · intro j hj; omega
    · intro j hj; omega
    · intro i j hi hj; omega
    · intro i j hi hj hne
      have h1 : i = 0 := by simpa using hi
      have h2 : j = 0 := by simpa using hj
      omega
  · have e1 := hr.arr
    have e2 := hr.len
    have e7 := hp_lt e1
    by_cases c : tidyK out (nth l i) < out.length ∧ (nth out (tidyK out (nth l i))).tags = (nth l i).tags
    · obtain ⟨ck, ct⟩ := c
      have l3 := tidy_l3 l i hi out (by omega) hso hsx H id es fa fb hr (tidyK out (nth l i)) ck
      have s1 := (hso _ (nth_mem ck)).1
      have sm := same_ok (nth out (tidyK out (nth l i))).tags (nth l i).tags (by omega)
      have t1 : tidy1 out (nth l i) = out.set (tidyK out (nth l i)) ⟨(nth l i).tags, joinWs (nth out (tidyK out (nth l i))).whr (nth l i).whr⟩ := by unfold tidy1; rw [if_pos ⟨ck, ct⟩]
      rw [t1]
      simp only [ct, decide_true] at sm
      generalize tidyK out (nth l i) = k at *
      have e3 := hr.el k ck
      have e4 := hr.ha k ck
      have mg := hr.merge ck ⟨(nth l i).tags, joinWs (nth out k).whr (nth l i).whr⟩ ct (joinN_len _ _ _)
      refine ⟨.ref id 0 out.length, _, ?_, .inr ⟨id, es, fa, fb, by rw [List.length_set], by rw [List.length_set]; omega, mg⟩⟩
      generalize nth out k = y at *
      obtain ⟨ta, wa⟩ := y
      simp only at ct
      subst ct
      generalize hx : nth l i = x at *
      obtain ⟨tb, wb⟩ := x
      simp only at s1 sm e3 e4 cw l3 ⊢
      simp (disch := omega) only [go_sem, K.ref26_Tidy_l1b, ↓reduceIte, Nat.reduceAdd, Nat.reduceSub, l2, l3, hx, cw, sm, e1, e2, e3, e4]
    · have t1 : tidy1 out (nth l i) = out.take (tidyK out (nth l i)) ++ [nth l i] ++ out.drop (tidyK out (nth l i)) := by unfold tidy1; rw [if_neg c]
      rw [t1]
      generalize tidyK out (nth l i) = k at *
      have hs1 : headSize 2 (es.take k) = true := headSize_all fun e he => hr.size e (List.mem_of_mem_take he)
      have hs2 : headSize 2 (es.drop k) = true := headSize_all fun e he => hr.size e (List.mem_of_mem_drop he)
      have hs3 : (es.drop k).take (out.length - k) = es.drop k := List.take_of_length_le (by simp [e2])
      have hs4 : (es.take k).length = k := by rw [List.length_take]; omega
      have hs5 : (es.drop k).length = out.length - k := by rw [List.length_drop, e2]
      have hs6 : k + (1 + (out.length - k)) = out.length + 1 := by omega
      have s2 := hsx.1
      have run : roundC false [1, 4, 5] H.length (exS CALL K.ref26_Tidy_l1b ⟨[.t (.sl (l.map World.e)), .und, .ref id 0 out.length, I i, .und, .und], H⟩) =
        some ⟨[.t (.sl (l.map World.e)), .und, .ref H.length 0 (out.length + 1), I (i + 1), .und, .und], H ++ [.arr 2 false 0 (es.take k ++ [.agg [.ref (H.length + 1) 0 (nth l i).tags.length, .ref (H.length + 2) 0 (nth l i).whr.length]] ++ es.drop k), .arr 1 false 0 (ints (nth l i).tags), .arr 2 false 0 (whs (nth l i).whr), .arr 2 false 0 [.agg [.ref (H.length + 1) 0 (nth l i).tags.length, .ref (H.length + 2) 0 (nth l i).whr.length]]]⟩ := by
        by_cases ck : k < out.length
        · have s1 := (hso _ (nth_mem ck)).1
          have sm := same_ok (nth out k).tags (nth l i).tags (by omega)
          have ct : ¬ (nth out k).tags = (nth l i).tags := fun h => c ⟨ck, h⟩
          have e3 := hr.el k ck
          have e4 := hr.ha k ck
          generalize nth out k = y at *
          obtain ⟨ta, wa⟩ := y
          generalize hx : nth l i = x at *
          obtain ⟨tb, wb⟩ := x
          simp only at s1 s2 sm e3 e4 ct cw
          simp only [ct, decide_false] at sm
          simp (disch := omega) only [go_sem, K.ref26_Tidy_l1b, ↓reduceIte, Nat.reduceAdd, Nat.reduceSub, l2, hx, cw, sm, e1, e2, e3, e4, hs1, hs2, hs3, hs4, hs5, hs6, hp_get, hp_get_len, hp_get_add, hp_set_len, hp_assoc, Nat.add_assoc, Nat.sub_zero]
        · have ek : k = out.length := by omega
          subst ek
          generalize hx : nth l i = x at *
          obtain ⟨tb, wb⟩ := x
          simp only at s2 cw
          simp (disch := omega) only [go_sem, K.ref26_Tidy_l1b, ↓reduceIte, Nat.reduceAdd, Nat.reduceSub, l2, hx, cw, e1, e2, hs1, hs2, hs3, hs4, hs5, hs6, hp_get, hp_get_len, hp_get_add, hp_set_len, hp_assoc, Nat.add_assoc, Nat.sub_zero]
      exact ⟨_, _, run, .inr ⟨H.length, _, _, _, by rw [List.length_append, List.length_append, List.length_take, List.length_drop, List.length_singleton, Nat.min_eq_left kl]; congr 1; omega, by rw [List.length_append, List.length_append, List.length_singleton]; omega, hr.ins kl (nth l i) _⟩⟩

theorem tidy1_len (out : List World) (x : World) : (tidy1 out x).length ≤ out.length + 1 ∧ out.length ≤ (tidy1 out x).length ∧ 1 ≤ (tidy1 out x).length := by
  have kl := tidyK_le out x
  unfold tidy1
  split
  · rename_i h
    rw [List.length_set]; omega
  · rw [List.length_append, List.length_append, List.length_take, List.length_drop, List.length_singleton]; omega
theorem tidyN_len (l : List World) : ∀ j, (tidyN l j).length ≤ j
  | 0 => Nat.le_refl _
  | j + 1 => by
    have := tidyN_len l j
    have := (tidy1_len (tidyN l j) (nth l j)).1
    simp only [tidyN]; omega

theorem joinF_frm (a b : Wh) : (joinF a b).1.frm.length ≤ a.frm.length := by
  unfold joinF
  split
  · simp only [minN_len]; omega
  · simp
theorem joinN_sz (a b : List Wh) (n : Nat) (h : ∀ w ∈ a, w.frm.length ≤ n) : ∀ p, p ≤ a.length → ∀ w ∈ joinN a b p, w.frm.length ≤ n
  | 0, _, w, hw => h w hw
  | p + 1, hp, w, hw => by
    simp only [joinN] at hw
    rcases List.mem_or_eq_of_mem_set hw with hw | rfl
    · exact joinN_sz a b n h p (by omega) w hw
    · exact Nat.le_trans (joinF_frm _ _) (h _ (nth_mem (by omega)))
theorem tidy1_sz {out : List World} {x : World} (ho : ∀ y ∈ out, y.sz) (hx : x.sz) : ∀ y ∈ tidy1 out x, y.sz := by
  intro y hy
  unfold tidy1 at hy
  split at hy
  · rename_i h
    rcases List.mem_or_eq_of_mem_set hy with hy | rfl
    · exact ho y hy
    · obtain ⟨s1, s2, s3⟩ := ho _ (nth_mem h.1)
      refine ⟨hx.1, ?_, ?_⟩
      · show (joinN _ _ _).length ≤ _
        rw [joinN_len]; exact s2
      · exact joinN_sz _ _ _ s3 _ (Nat.min_le_left _ _)
  · rcases List.mem_append.1 hy with hy | hy
    · rcases List.mem_append.1 hy with hy | hy
      · exact ho y (List.mem_of_mem_take hy)
      · rw [List.mem_singleton.1 hy]; exact hx
    · exact ho y (List.mem_of_mem_drop hy)
theorem tidyN_sz {l : List World} (hl : ∀ x ∈ l, x.sz) : ∀ j, j ≤ l.length → ∀ y ∈ tidyN l j, y.sz
  | 0, _, y, hy => by simp [tidyN] at hy
  | j + 1, h, y, hy => tidy1_sz (tidyN_sz hl j (by omega)) (hl _ (nth_mem (by omega))) y hy

theorem Rp.frz {H : Heap} {id : Nat} {es : List D} {fa fb : Nat → Nat} {out : List World} (hr : Rp H id es fa fb out) :
    mapO (frz H 8) es = some (out.map World.e) ∧ ∀ i ∈ es.flatMap (arrs H 8), i ≠ id := by
  have hl := hr.len
  have key : ∀ (j : Nat) (hj : j < out.length), Go.Ev.frz H 8 (.agg [.ref (fa j) 0 (nth out j).tags.length, .ref (fb j) 0 (nth out j).whr.length]) = some (nth out j).e ∧
      arrs H 8 (.agg [.ref (fa j) 0 (nth out j).tags.length, .ref (fb j) 0 (nth out j).whr.length]) = [fa j, fb j] := by
    intro j hj
    have h1 := hr.ha j hj
    have h2 := hr.hb j hj
    simp (disch := omega) only [go_sem, h1, h2, ints, whs, ↓reduceIte]
  constructor
  · have : ∀ (es : List D) (ts : List T), es.length = ts.length → (∀ (j : Nat) e t, es[j]? = some e → ts[j]? = some t → Go.Ev.frz H 8 e = some t) → mapO (Go.Ev.frz H 8) es = some ts := by
      intro es
      induction es with
      | nil => intro ts h _; cases ts with
        | nil => rfl
        | cons => simp at h
      | cons e es ih =>
        intro ts h hh
        cases ts with
        | nil => simp at h
        | cons t ts =>
          have h1 := hh 0 e t rfl rfl
          have h2 := ih ts (by simpa using h) fun j e t he ht => hh (j + 1) e t (by simpa using he) (by simpa using ht)
          simp only [mapO, h1, Option.bind_some, h2, Option.map_some]
    refine this es _ (by rw [List.length_map, hl]) fun j e t he ht => ?_
    have hj : j < out.length := by rw [← hl]; exact (List.getElem?_eq_some_iff.1 he).1
    rw [hr.el j hj] at he
    rw [map_nth _ hj] at ht
    cases he; cases ht
    exact (key j hj).1
  · intro i hi
    obtain ⟨e, he, hi⟩ := List.mem_flatMap.1 hi
    obtain ⟨j, hj⟩ := List.mem_iff_getElem?.1 he
    have hjl : j < out.length := by rw [← hl]; exact (List.getElem?_eq_some_iff.1 hj).1
    rw [hr.el j hjl] at hj
    cases hj
    rw [(key j hjl).2] at hi
    simp only [List.mem_cons, List.not_mem_nil, or_false] at hi
    rcases hi with rfl | rfl
    · exact hr.na j hjl
    · exact hr.nb j hjl

theorem tidy_ok (l : List World) (h0 : 1 ≤ l.length) (hl : l.length ≤ 100000) (hs : ∀ x ∈ l, x.sz) :
    CALL 1 N.ref26_Tidy [.t (.sl (l.map World.e))] [] = some (.ref 0 0 (tidyF l).length, [.arr 2 false 0 (((tidyF l).map World.e).map .t)]) := by
  refine CALL_of K.t_ref26_Tidy rfl ?_
  have loop : ∀ a b c : D, ∃ q, exS CALL K.ref26_Tidy_l1 ⟨[.t (.sl (l.map World.e)), a, .nil, I 0, b, c], []⟩ = some q ∧ ∃ v H, q = (.exit 0, ⟨[.t (.sl (l.map World.e)), .und, v, I l.length, .und, .und], H⟩) ∧ Rep H v (tidyF l) := by
    intro a b c
    refine loop_inv (fun j st => ∃ v H, st = ⟨[.t (.sl (l.map World.e)), .und, v, I j, .und, .und], H⟩ ∧ Rep H v (tidyN l j)) l.length _ ⟨.nil, [], rfl, .inl ⟨rfl, rfl⟩⟩ ?_ ?_
    · rintro j st hj ⟨v, H, rfl, hr⟩
      have ln := tidyN_len l j
      obtain ⟨v', H', h1, h2⟩ := tidy_round l j hj (by omega) (tidyN l j) (by omega) (tidyN_sz hs j (by omega)) (hs _ (nth_mem hj)) H v hr
      exact ⟨_, h1, v', H', rfl, h2⟩
    · rintro st ⟨v, H, rfl, hr⟩
      refine ⟨(.exit 0, ⟨[.t (.sl (l.map World.e)), .und, v, I l.length, .und, .und], H⟩), ?_, by simp, v, H, rfl, hr⟩
      simp (disch := omega) only [go_sem, K.ref26_Tidy_l1b, ↓reduceIte, Nat.reduceAdd, Nat.reduceSub]
  obtain ⟨q, hq, v, H, rfl, hr⟩ := loop .nil .und .und
  have nz : 1 ≤ (tidyF l).length := by
    unfold tidyF
    cases hn : l.length with
    | zero => omega
    | succ n => exact (tidy1_len _ _).2.2
  rcases hr with ⟨rfl, he⟩ | ⟨id, es, fa, fb, rfl, h0, hr⟩
  · rw [he] at nz; simp at nz
  · obtain ⟨f1, f2⟩ := hr.frz
    have fin := finish_live H id 2 (tidyF l).length es _ hr.arr hr.len.symm f1 f2
    simp (disch := omega) only [go_sem, K.ref26_Tidy, ↓reduceIte, Nat.reduceAdd, Nat.reduceSub, hq, fin]

end Go.Ev

/- Chapter 26 of the references: exchanges. -/
namespace Go.Ev
open Go
variable [Lib] [Has1] [Has2]

@[go_sem] theorem map2_nth_set {α β γ : Type} [Dat α] (f : β → γ) (g : α → β) {l : List α} {i j : Nat} {x : α} (h : j < l.length) : (((l.set i x).map g).map f)[j]? = some (f (g (nth (l.set i x) j))) := map2_nth f g (by rw [List.length_set]; exact h)

def swapL (l : List Int) (i j : Nat) : List Int := (l.set i (nth l j)).set j (nth l i)
def exchW (i j : Nat) (t : Int) (x : World) : World := ⟨swapL x.tags i j, (x.whr.set i (raiseF (nth x.whr i) t).1).set j (raiseF (nth x.whr j) t).1⟩
def exchS (i j : Nat) (t : Int) (x : World) (out : List World) : List World := if meetB (nth x.whr i) (nth x.whr j) t = true then out ++ [exchW i j t x] else out
def exchNb (i j : Nat) (t : Int) (ws : List World) : Nat → List World
  | 0 => ws
  | k + 1 => exchS i j t (nth ws k) (exchNb i j t ws k)
def exchBel (m : Mine) (b : Bel) (i j t : Int) : Bel × Int :=
  if belB m b = false then (b, 6) else if i < 0 ∨ ((nth b.worlds 0).tags.length : Int) ≤ i ∨ j < 0 ∨ ((nth b.worlds 0).tags.length : Int) ≤ j ∨ i = j then (b, 19)
  else if ¬ inT t then (b, 8) else if 24 < (tidyF (exchNb i.toNat j.toNat t b.worlds b.worlds.length)).length then (b, 44) else (⟨tidyF (exchNb i.toNat j.toNat t b.worlds b.worlds.length)⟩, 0)

theorem exchS_len (i j : Nat) (t : Int) (x : World) (out : List World) : out.length ≤ (exchS i j t x out).length ∧ (exchS i j t x out).length ≤ out.length + 1 := by
  unfold exchS; split <;> (try rw [List.length_append, List.length_singleton]) <;> omega
theorem exchNb_len (i j : Nat) (t : Int) (ws : List World) : ∀ k, ws.length ≤ (exchNb i j t ws k).length ∧ (exchNb i j t ws k).length ≤ ws.length + k
  | 0 => ⟨Nat.le_refl _, Nat.le_refl _⟩
  | k + 1 => by
    have h1 := exchNb_len i j t ws k
    have h2 := exchS_len i j t (nth ws k) (exchNb i j t ws k)
    simp only [exchNb]; omega

abbrev exH (m : Mine) (ws out : List World) : Heap := [.box (mineCells m), .box [.t (.sl (ws.map World.e))], .box [.nil], .arr 2 false 0 ((out.map World.e).map .t)]

theorem exch_round (m : Mine) (ws : List World) (hw : ws.length ≤ 100000) (i j : Nat) (hij : i ≠ j) (t : Int) (k : Nat) (hk : k < ws.length) (hs : (nth ws k).sz)
    (i1 : i < (nth ws k).tags.length) (j1 : j < (nth ws k).tags.length) (hl : (nth ws k).whr.length = (nth ws k).tags.length) (out : List World) (ho : out.length ≤ 1000000) :
    roundC true [0, 1, 5, 8, 9, 12] 4 (exS CALL K.ref26_Exchange_l1b ⟨[.und, .und, I i, I j, I t, .und, .bp 1 0, .bp 2 0, .und, .und, .ref 3 0 out.length, I k, .und], exH m ws out⟩) =
      some ⟨[.und, .und, I i, I j, I t, .und, .bp 1 0, .bp 2 0, .und, .und, .ref 3 0 (exchS i j t (nth ws k) out).length, I (k + 1), .und], exH m ws (exchS i j t (nth ws k) out)⟩ := by
  have c1 := copyWorld_ok1 (nth ws k) hs
  have mt := meet_ok (nth (nth ws k).whr i) (nth (nth ws k).whr j) t (hs.2.2 _ (nth_mem (by omega)))
  have r1 := raise_ok (nth (nth ws k).whr i) t (hs.2.2 _ (nth_mem (by omega)))
  have r2 := raise_ok (nth (nth ws k).whr j) t (hs.2.2 _ (nth_mem (by omega)))
  unfold exchS exchW swapL
  have n1 : ∀ w, nth ((nth ws k).whr.set i w) j = nth (nth ws k).whr j := fun w => by rw [set_nth _ _ (by omega), if_neg (fun e => hij e.symm)]
  generalize hx : nth ws k = x at *
  obtain ⟨tags, whr⟩ := x
  obtain ⟨s1, s2, s3⟩ := hs
  simp only at *
  generalize hwi : nth whr i = wi at *
  generalize hwj : nth whr j = wj at *
  generalize raiseF wi t = ri at *
  obtain ⟨⟨t1, f1⟩, e1⟩ := ri
  generalize raiseF wj t = rj at *
  obtain ⟨⟨t2, f2⟩, e2⟩ := rj
  obtain ⟨ti, fi⟩ := wi
  obtain ⟨tj, fj⟩ := wj
  simp only at *
  cases hm : meetB ⟨ti, fi⟩ ⟨tj, fj⟩ t with
  | true =>
    rw [hm] at mt
    simp (disch := omega) only [go_sem, K.ref26_Exchange_l1b, ↓reduceIte, exH, hx, hwi, hwj, n1, c1, mt, r1, r2, Nat.reduceAdd, Nat.reduceSub]
  | false =>
    rw [hm] at mt
    simp (disch := omega) only [go_sem, K.ref26_Exchange_l1b, ↓reduceIte, exH, hx, hwi, hwj, n1, c1, mt, r1, r2, Nat.reduceAdd, Nat.reduceSub, Bool.false_eq_true]

theorem raiseF_frm (w : Wh) (t : Int) : (raiseF w t).1.frm = w.frm := by unfold raiseF; split <;> rfl
theorem exchW_sz {i j : Nat} {t : Int} {x : World} (h : x.sz) (hi : i < x.whr.length) (hj : j < x.whr.length) : (exchW i j t x).sz := by
  obtain ⟨s1, s2, s3⟩ := h
  refine ⟨by simpa [exchW, swapL] using s1, by simpa [exchW] using s2, fun w hw => ?_⟩
  simp only [exchW] at hw
  rcases List.mem_or_eq_of_mem_set hw with hw | rfl
  · rcases List.mem_or_eq_of_mem_set hw with hw | rfl
    · exact s3 w hw
    · rw [raiseF_frm]; exact s3 _ (nth_mem hi)
  · rw [raiseF_frm]; exact s3 _ (nth_mem hj)
theorem exchNb_sz {ws : List World} (h : ∀ x ∈ ws, x.sz) {i j : Nat} {t : Int} (hi : ∀ k, k < ws.length → i < (nth ws k).whr.length) (hj : ∀ k, k < ws.length → j < (nth ws k).whr.length) : ∀ k, k ≤ ws.length → ∀ x ∈ exchNb i j t ws k, x.sz
  | 0, _, x, hx => h x hx
  | k + 1, hk, x, hx => by
    simp only [exchNb, exchS] at hx
    split at hx
    · rcases List.mem_append.1 hx with hx | hx
      · exact exchNb_sz h hi hj k (by omega) x hx
      · rw [List.mem_singleton.1 hx]; exact exchW_sz (h _ (nth_mem (by omega))) (hi k (by omega)) (hj k (by omega))
    · exact exchNb_sz h hi hj k (by omega) x hx

theorem exchBel_ok {m : Mine} (h : m.ok) (b : Bel) (hs : b.sz) (i j t : Int) :
    CALL 0 N.ref26_Exchange [.t m.e, .t b.e, I i, I j, I t] [] = some (.tup [.t (exchBel m b i j t).1.e, I (exchBel m b i j t).2], []) := by
  refine CALL_of K.t_ref26_Exchange rfl ?_
  have cb := copyBel_ok b hs
  have cb1 := copyBel_ok1 b hs
  have vb := belB_ok h b hs
  unfold exchBel
  cases hb : belB m b with
  | false =>
    rw [hb] at vb
    obtain ⟨ws⟩ := b
    simp (disch := omega) only [go_sem, K.ref26_Exchange, ↓reduceIte, cb, vb, Nat.reduceAdd, Nat.reduceSub]
  | true =>
    rw [hb] at vb
    obtain ⟨w1, w2, f1, f2, w5⟩ := belB_spec hb
    obtain ⟨ws⟩ := b
    obtain ⟨s1, s2⟩ := hs
    simp only at s1 s2 w1 w2 w5 f1 f2 cb cb1 vb ⊢
    have g0 : (ws.map World.e)[0]? = some (nth ws 0).e := map_nth _ (by omega)
    have wl : ∀ k, k < ws.length → (nth ws k).tags.length = (nth ws 0).tags.length ∧ (nth ws k).whr.length = (nth ws 0).tags.length := fun k hk => by
      obtain ⟨q1, q2, -⟩ := worldB_spec (w5 k hk)
      exact ⟨q1, q2⟩
    generalize hx : nth ws 0 = x at *
    obtain ⟨first, whr⟩ := x
    simp only at f1 f2 wl g0 ⊢
    rw [if_neg (by simp)]
    by_cases c1 : i < 0
    · rw [if_pos (by omega)]
      simp (disch := omega) only [go_sem, K.ref26_Exchange, ↓reduceIte, cb, vb, hx, g0, c1, Nat.reduceAdd, Nat.reduceSub]
    · by_cases c2 : (first.length : Int) ≤ i
      · rw [if_pos (by omega)]
        simp (disch := omega) only [go_sem, K.ref26_Exchange, ↓reduceIte, cb, vb, hx, g0, c1, c2, Nat.reduceAdd, Nat.reduceSub]
      · by_cases c3 : j < 0
        · rw [if_pos (by omega)]
          simp (disch := omega) only [go_sem, K.ref26_Exchange, ↓reduceIte, cb, vb, hx, g0, c1, c2, c3, Nat.reduceAdd, Nat.reduceSub]
        · by_cases c4 : (first.length : Int) ≤ j
          · rw [if_pos (by omega)]
            simp (disch := omega) only [go_sem, K.ref26_Exchange, ↓reduceIte, cb, vb, hx, g0, c1, c2, c3, c4, Nat.reduceAdd, Nat.reduceSub]
          · by_cases c5 : i = j
            · rw [if_pos (by omega)]
              simp (disch := omega) only [go_sem, K.ref26_Exchange, ↓reduceIte, cb, vb, hx, g0, c1, c2, c3, c4, c5, Nat.reduceAdd, Nat.reduceSub]
            · rw [if_neg (by omega)]
              by_cases ct : inT t
              · have ct' := ct
                unfold inT at ct'
                rw [if_neg (fun h => h ct)]
                obtain ⟨i', rfl⟩ := Int.eq_ofNat_of_zero_le (show 0 ≤ i by omega)
                obtain ⟨j', rfl⟩ := Int.eq_ofNat_of_zero_le (show 0 ≤ j by omega)
                simp only [Int.toNat_natCast]
                have ln := exchNb_len i' j' t ws
                have loop : ∀ a b c d e f : D, exS CALL K.ref26_Exchange_l1 ⟨[a, b, I i', I j', I t, c, .bp 1 0, .bp 2 0, d, e, .ref 3 0 ws.length, I 0, f], exH m ws ws⟩ =
                    some (.exit 0, ⟨[.und, .und, I i', I j', I t, .und, .bp 1 0, .bp 2 0, .und, .und, .ref 3 0 (exchNb i' j' t ws ws.length).length, I ws.length, .und], exH m ws (exchNb i' j' t ws ws.length)⟩) := by
                  intro a b c d e f
                  refine loop_up (fun k => ⟨[.und, .und, I i', I j', I t, .und, .bp 1 0, .bp 2 0, .und, .und, .ref 3 0 (exchNb i' j' t ws k).length, I k, .und], exH m ws (exchNb i' j' t ws k)⟩) ws.length rfl ?_ ?_ (by simp)
                  · intro k hk
                    obtain ⟨q1, q2⟩ := wl k hk
                    have := ln k
                    exact exch_round m ws (by omega) i' j' (by omega) t k hk (s2 _ (nth_mem hk)) (by omega) (by omega) (by omega) _ (by omega)
                  · have := ln ws.length
                    generalize exchNb i' j' t ws ws.length = L at *
                    simp (disch := omega) only [go_sem, K.ref26_Exchange_l1b, ↓reduceIte, exH, Nat.reduceAdd, Nat.reduceSub]
                have ln := ln ws.length
                have sz := exchNb_sz (t := t) s2 (i := i') (j := j') (fun k hk => by obtain ⟨q1, q2⟩ := wl k hk; omega) (fun k hk => by obtain ⟨q1, q2⟩ := wl k hk; omega) ws.length (Nat.le_refl _)
                have ty := tidy_ok (exchNb i' j' t ws ws.length) (by omega) (by omega) sz
                generalize exchNb i' j' t ws ws.length = L at *
                generalize tidyF L = Z at *
                simp only [exH] at loop
                by_cases c6 : 24 < Z.length
                · simp (disch := omega) only [go_sem, K.ref26_Exchange, ↓reduceIte, cb, cb1, vb, hx, g0, c1, c2, c3, c4, c5, c6, loop, ty, Nat.reduceAdd, Nat.reduceSub]
                · simp (disch := omega) only [go_sem, K.ref26_Exchange, ↓reduceIte, cb, cb1, vb, hx, g0, c1, c2, c3, c4, c5, c6, loop, ty, Nat.reduceAdd, Nat.reduceSub]
              · rw [if_pos ct]
                unfold inT at ct
                by_cases c6 : t < 0
                · simp (disch := omega) only [go_sem, K.ref26_Exchange, ↓reduceIte, cb, vb, hx, g0, c1, c2, c3, c4, c5, c6, Nat.reduceAdd, Nat.reduceSub]
                · simp (disch := omega) only [go_sem, K.ref26_Exchange, ↓reduceIte, cb, vb, hx, g0, c1, c2, c3, c4, c5, c6, Nat.reduceAdd, Nat.reduceSub]

end Go.Ev

/- Made inputs: beliefs. -/
namespace Go.Ev
open Go
variable [Lib] [Has1] [Has2]

def tagsN : Nat → List Int
  | 0 => []
  | k + 1 => tagsN k ++ [3 + (k : Int) * 2]
def Dice.nextsN (d : Dice) (n : Int) : Nat → List Int × Dice
  | 0 => ([], d)
  | k + 1 => ((d.nextsN n k).1 ++ [((d.nextsN n k).2.next n).1], ((d.nextsN n k).2.next n).2)
theorem tagsN_len : ∀ k, (tagsN k).length = k
  | 0 => rfl
  | k + 1 => by simp [tagsN, tagsN_len k]
theorem Dice.nextsN_len (d : Dice) (n : Int) : ∀ k, (d.nextsN n k).1.length = k
  | 0 => rfl
  | k + 1 => by simp [Dice.nextsN, d.nextsN_len n k]
theorem Dice.nextsN_light {d : Dice} (h : d.light) (n : Int) : ∀ k, (d.nextsN n k).2.light
  | 0 => h
  | k + 1 => Dice.next_light (Dice.nextsN_light h n k) n

structure BSt where
  b : Bel
  t : Int
  d : Dice

def Dice.belStep (m : Mine) (n : Int) (s : BSt) : BSt :=
  let a := s.d.next 60
  let c := a.2.next 3
  if c.1 = 0 then
    let i := c.2.next n
    let j := i.2.next n
    let r := exchBel m s.b i.1 j.1 (s.t + a.1)
    ⟨if r.2 = 0 then r.1 else s.b, s.t + a.1, j.2⟩
  else if c.1 = 1 then
    let g := c.2.next n
    let l := g.2.someN m.places.length
    let e := l.2.next 9
    let r := seeBel m s.b (3 + 2 * g.1) l.1 (s.t + a.1) (s.t + a.1 + e.1)
    ⟨if r.2 = 0 then r.1 else s.b, s.t + a.1, e.2⟩
  else
    let g := c.2.next n
    let l := g.2.someN m.places.length
    let e := l.2.next 40
    let r := absBel m s.b (3 + 2 * g.1) l.1 (s.t + a.1) (s.t + a.1 + 50) e.1
    ⟨if r.2 = 0 then r.1 else s.b, s.t + a.1, e.2⟩
def Dice.belN (m : Mine) (n : Int) (s : BSt) : Nat → BSt
  | 0 => s
  | k + 1 => Dice.belStep m n (Dice.belN m n s k)

def Dice.belP (d : Dice) : Nat := (1 + (d.next 3).1).toNat
def Dice.belS (d : Dice) (m : Mine) : List Int × Dice := (d.next 3).2.nextsN m.places.length d.belP
def Dice.bel0 (d : Dice) (m : Mine) : BSt := ⟨(startBel m (tagsN d.belP) (d.belS m).1 ((d.belS m).2.next 100).1).1, 100, (((d.belS m).2.next 100).2.next 5).2⟩
def Dice.belK (d : Dice) (m : Mine) : Nat := (((d.belS m).2.next 100).2.next 5).1.toNat
def Dice.belF (d : Dice) (m : Mine) : BSt := Dice.belN m d.belP (d.bel0 m) (d.belK m)
def Dice.belief (d : Dice) (m : Mine) : Bel × Dice := ((d.belF m).b, (d.belF m).d)

/-- What beliefs keep: sizes. -/
structure WOk (m : Mine) (N : Nat) (x : World) : Prop where
  tg : x.tags.length = N
  wh : x.whr.length = N
  fr : ∀ w ∈ x.whr, w.frm.length = m.places.length
  ti : ∀ w ∈ x.whr, inT w.time
structure BOk (m : Mine) (N : Nat) (b : Bel) : Prop where
  w1 : 1 ≤ b.worlds.length
  w2 : b.worlds.length ≤ 24
  n1 : 1 ≤ N
  n2 : N ≤ 12
  ws : ∀ x ∈ b.worlds, WOk m N x

theorem WOk.sz {m : Mine} {N : Nat} {x : World} (h : WOk m N x) (hm : m.ok) (hn : N ≤ 12) : x.sz := by
  have np := hm.np
  obtain ⟨t1, t2, t3, -⟩ := h
  exact ⟨by omega, by omega, fun w hw => by rw [t3 w hw]; omega⟩
theorem BOk.sz {m : Mine} {N : Nat} {b : Bel} (h : BOk m N b) (hm : m.ok) : b.sz :=
  ⟨by have := h.w2; omega, fun x hx => (h.ws x hx).sz hm h.n2⟩

theorem belStep_light {m : Mine} {n : Int} {s : BSt} (h : s.d.light) : (Dice.belStep m n s).d.light := by
  unfold Dice.belStep
  simp only
  have l1 := Dice.next_light h 60
  generalize s.d.next 60 = a at *
  obtain ⟨a1, d1⟩ := a
  simp only at l1 ⊢
  have l2 := Dice.next_light l1 3
  generalize d1.next 3 = c at *
  obtain ⟨c1, d2⟩ := c
  simp only at l2 ⊢
  split
  · exact Dice.next_light (Dice.next_light l2 n) n
  · split
    · exact Dice.next_light (Dice.someN_light (Dice.next_light l2 n) _) 9
    · exact Dice.next_light (Dice.someN_light (Dice.next_light l2 n) _) 40

abbrev blH (m : Mine) (p1 p2 : Bool) (tags starts : List Int) (s : BSt) : Heap := [s.d.obj, .box (mineCells m), .box [.nil], .arr 1 p1 0 (ints tags), .arr 1 p2 0 (ints starts), .box [.t (.sl (s.b.worlds.map World.e))]]

theorem bel_round {m : Mine} (hm : m.ok) (n : Int) (n1 : 1 ≤ n) (n2 : n ≤ 12) (tags starts : List Int) (s : BSt) (hd : s.d.light) (hb : s.b.sz) (ht : 0 ≤ s.t) (ht2 : s.t ≤ 1000000) (k : Nat) (hk : k ≤ 100) (p1 p2 : Bool) :
    roundC true [1, 5, 6, 7, 11, 12, 13, 14, 15, 16, 17] 6 (exS CALL K.made_Dice_Belief_l2b ⟨[.bp 0 0, .und, .bp 1 0, .bp 2 0, I n, .und, .und, .und, .bp 5 0, I s.t, I (k + 1), .und, .und, .und, .und, .und, .und, .und], blH m p1 p2 tags starts s⟩) =
    some ⟨[.bp 0 0, .und, .bp 1 0, .bp 2 0, I n, .und, .und, .und, .bp 5 0, I (Dice.belStep m n s).t, I k, .und, .und, .und, .und, .und, .und, .und], blH m p1 p2 tags starts (Dice.belStep m n s)⟩ := by
  obtain ⟨b, t, d⟩ := s
  simp only at hd hb ht ht2
  unfold Dice.belStep
  simp only
  have np := hm.np
  have h1 := next_ok d 60 (by omega) hd
  have l1 := Dice.next_light hd 60
  have a0 := d.next_lo 60
  have a9 := d.next_hi (n := 60) (by omega)
  generalize d.next 60 = a at *
  obtain ⟨x1, d1⟩ := a
  simp only at h1 l1 a0 a9 ⊢
  have h2 := next_ok d1 3 (by omega) l1
  have l2 := Dice.next_light l1 3
  have c0 := d1.next_lo 3
  have c9 := d1.next_hi (n := 3) (by omega)
  generalize d1.next 3 = c at *
  obtain ⟨x2, d2⟩ := c
  simp only at h2 l2 c0 c9 ⊢
  have h3 := next_ok d2 n (by omega) l2
  have l3 := Dice.next_light l2 n
  have g0 := d2.next_lo n
  have g9 := d2.next_hi (n := n) n1
  generalize d2.next n = g at *
  obtain ⟨x3, d3⟩ := g
  simp only at h3 l3 g0 g9 ⊢
  by_cases e0 : x2 = 0
  · simp only [if_pos e0]
    have h4 := next_ok d3 n (by omega) l3
    generalize d3.next n = g at *
    obtain ⟨x4, d4⟩ := g
    simp only at h4 ⊢
    have ex := exchBel_ok hm b hb x3 x4 (t + x1)
    generalize exchBel m b x3 x4 (t + x1) = r at *
    obtain ⟨⟨ws'⟩, er⟩ := r
    obtain ⟨ws⟩ := b
    simp only at ex ⊢
    subst e0
    by_cases e : er = 0
    · simp (disch := omega) only [go_sem, K.made_Dice_Belief_l2b, ↓reduceIte, blH, h1, h2, h3, h4, ex, e, Nat.reduceAdd, Nat.reduceSub]
    · simp (disch := omega) only [go_sem, K.made_Dice_Belief_l2b, ↓reduceIte, blH, h1, h2, h3, h4, ex, e, Nat.reduceAdd, Nat.reduceSub]
  · simp only [if_neg e0]
    have h4 := some_ok d3 m.places.length (by omega) l3
    have l4 := Dice.someN_light l3 m.places.length
    have ln := d3.someN_len m.places.length
    generalize d3.someN m.places.length = q at *
    obtain ⟨l, d4⟩ := q
    simp only at h4 l4 ln ⊢
    by_cases e1 : x2 = 1
    · simp only [if_pos e1]
      have h5 := next_ok d4 9 (by omega) l4
      have f0 := d4.next_lo 9
      have f9 := d4.next_hi (n := 9) (by omega)
      generalize d4.next 9 = g at *
      obtain ⟨x5, d5⟩ := g
      simp only at h5 f0 f9 ⊢
      have ex := seeBel_ok hm b hb (3 + 2 * x3) l (by omega) (t + x1) (t + x1 + x5)
      generalize seeBel m b (3 + 2 * x3) l (t + x1) (t + x1 + x5) = r at *
      obtain ⟨⟨ws'⟩, er⟩ := r
      obtain ⟨ws⟩ := b
      simp only at ex ⊢
      subst e1
      by_cases e : er = 0
      · simp (disch := omega) only [go_sem, K.made_Dice_Belief_l2b, ↓reduceIte, blH, h1, h2, h3, h4, h5, ex, e, Nat.reduceAdd, Nat.reduceSub]
      · simp (disch := omega) only [go_sem, K.made_Dice_Belief_l2b, ↓reduceIte, blH, h1, h2, h3, h4, h5, ex, e, Nat.reduceAdd, Nat.reduceSub]
    · simp only [if_neg e1]
      have h5 := next_ok d4 40 (by omega) l4
      have f0 := d4.next_lo 40
      have f9 := d4.next_hi (n := 40) (by omega)
      generalize d4.next 40 = g at *
      obtain ⟨x5, d5⟩ := g
      simp only at h5 f0 f9 ⊢
      have ex := absBel_ok hm b hb (3 + 2 * x3) l (by omega) (t + x1) (t + x1 + 50) x5
      generalize absBel m b (3 + 2 * x3) l (t + x1) (t + x1 + 50) x5 = r at *
      obtain ⟨⟨ws'⟩, er⟩ := r
      obtain ⟨ws⟩ := b
      simp only at ex ⊢
      by_cases e : er = 0
      · simp (disch := omega) only [go_sem, K.made_Dice_Belief_l2b, ↓reduceIte, blH, h1, h2, h3, h4, h5, ex, e, e0, e1, Nat.reduceAdd, Nat.reduceSub]
      · simp (disch := omega) only [go_sem, K.made_Dice_Belief_l2b, ↓reduceIte, blH, h1, h2, h3, h4, h5, ex, e, e0, e1, Nat.reduceAdd, Nat.reduceSub]

theorem startF_ok {m : Mine} (hm : m.ok) {p t : Int} (p0 : 0 ≤ p) (p1 : p < m.places.length) (ht : inT t) : (startF m p t).2 = 0 ∧ (startF m p t).1.frm.length = m.places.length := by
  unfold startF
  rw [if_neg (by omega), if_pos ht]
  refine ⟨rfl, ?_⟩
  exact closeF_len hm t ht none (fun l h => by cases h) (by simp) (bnd_set (neverL_bnd _) ht.1 (by have := ht.2; omega))
theorem startF_ti {m : Mine} {p t : Int} (ht : inT t) : inT (startF m p t).1.time := by
  unfold startF
  split
  · unfold inT; simp
  · exact ht
theorem seeF_ti {m : Mine} (w : Wh) (l : List Int) (a b : Int) (hw : inT w.time) : inT (seeF m w l a b).1.time := by
  unfold seeF
  split
  · exact hw
  · rename_i h
    have h0 : askedF m w l a b = 0 := by simpa using h
    obtain ⟨v1, v2, v3, v4, v5, v6⟩ := askedF_0 h0
    split
    · exact hw
    · split
      · exact v5
      · exact hw
theorem absF_ti {m : Mine} (w : Wh) (l : List Int) (a b bl : Int) (hw : inT w.time) : inT (absF m w l a b bl).1.time := by
  unfold absF
  split
  · exact hw
  · rename_i h
    have h0 : askedF m w l a b = 0 := by simpa using h
    obtain ⟨v1, v2, v3, v4, v5, v6⟩ := askedF_0 h0
    split
    · exact hw
    · split
      · exact hw
      · split
        · exact hw
        · exact v5
theorem joinF_ti {a b : Wh} (ha : inT a.time) (hb : inT b.time) : inT (joinF a b).1.time := by
  unfold joinF
  split
  · unfold inT at *; simp only; omega
  · unfold inT; simp
theorem raiseF_ti {w : Wh} {t : Int} (h : inT w.time) : inT (raiseF w t).1.time := by
  unfold raiseF
  split
  · exact h
  · unfold inT at *; simp only; omega
theorem joinN_ti (a b : List Wh) (ha : ∀ w ∈ a, inT w.time) (hb : ∀ w ∈ b, inT w.time) : ∀ p, p ≤ a.length → p ≤ b.length → ∀ w ∈ joinN a b p, inT w.time
  | 0, _, _, w, hw => ha w hw
  | p + 1, h1, h2, w, hw => by
    simp only [joinN] at hw
    rcases List.mem_or_eq_of_mem_set hw with hw | rfl
    · exact joinN_ti a b ha hb p (by omega) (by omega) w hw
    · exact joinF_ti (ha _ (nth_mem (by omega))) (hb _ (nth_mem (by omega)))
theorem seeF_len {m : Mine} (hm : m.ok) (w : Wh) (l : List Int) (a b : Int) (hw : w.frm.length = m.places.length) : (seeF m w l a b).1.frm.length = m.places.length := by
  unfold seeF
  split
  · exact hw
  · rename_i h
    have h0 : askedF m w l a b = 0 := by simpa using h
    obtain ⟨v1, v2, v3, v4, v5, v6⟩ := askedF_0 h0
    obtain ⟨w1, w2, w3, w4⟩ := validB_spec v1
    have hb : bnd w.frm := fun x hx => plT_bnd (w3 x hx)
    split
    · exact hw
    · split
      · refine closeF_len hm a v4 none (fun l h => by cases h) (seeN_len _ _ _ _ _) (seeN_bnd hb _ _ ?_ _ (Nat.le_refl _))
        intro p hp
        obtain ⟨j, hj⟩ := List.mem_iff_getElem?.1 hp
        have hjl := (List.getElem?_eq_some_iff.1 hj).1
        obtain ⟨q1, q2, -⟩ := setB_nth v3 hjl
        rw [nth_eq hj] at q1 q2
        omega
      · exact hw
theorem absF_len {m : Mine} (hm : m.ok) (w : Wh) (l : List Int) (a b bl : Int) (hw : w.frm.length = m.places.length) : (absF m w l a b bl).1.frm.length = m.places.length := by
  unfold absF
  split
  · exact hw
  · rename_i h
    have h0 : askedF m w l a b = 0 := by simpa using h
    obtain ⟨v1, v2, v3, v4, v5, v6⟩ := askedF_0 h0
    obtain ⟨w1, w2, w3, w4⟩ := validB_spec v1
    have hb : bnd w.frm := fun x hx => plT_bnd (w3 x hx)
    split
    · exact hw
    · split
      · exact hw
      · split
        · exact hw
        · rename_i h1 h2 h3
          have hlen := setB_len v3
          have np := hm.np
          have h1 : inT bl := by simpa using h1
          unfold inT at v4 v5 w2 h1
          have t1 : inT (b - bl) := by unfold inT; omega
          have hi : ∀ s, some l = some s → s ≠ [] ∧ s.length ≤ 64 := by
            intro s hs; cases hs; exact ⟨v2, by omega⟩
          have ln := absN_len w.frm l l.length
          have lb := absN_bnd hb l l.length
          exact closeF_len hm b v5 none (fun l h => by cases h) (closeF_len hm _ t1 _ hi (by omega) lb) (closeF_bnd hm _ t1 _ hi (by omega) lb)

theorem putW_ok {m : Mine} {N : Nat} {tag : Int} {x : World} {w : Wh} (hx : WOk m N x) (hw : w.frm.length = m.places.length) (hw2 : inT w.time) : WOk m N (putW tag x w) := by
  obtain ⟨t1, t2, t3, t4⟩ := hx
  refine ⟨t1, by simpa [putW] using t2, fun y hy => ?_, fun y hy => ?_⟩
  · simp only [putW] at hy
    rcases List.mem_or_eq_of_mem_set hy with hy | rfl
    · exact t3 y hy
    · exact hw
  · simp only [putW] at hy
    rcases List.mem_or_eq_of_mem_set hy with hy | rfl
    · exact t4 y hy
    · exact hw2

theorem seeBel_good {m : Mine} (hm : m.ok) {N : Nat} {b : Bel} (hb : BOk m N b) (tag : Int) (l : List Int) (a c : Int) : BOk m N (if (seeBel m b tag l a c).2 = 0 then (seeBel m b tag l a c).1 else b) := by
  split
  · rename_i h0
    unfold seeBel at h0 ⊢
    by_cases e0 : borneF m b tag = 0
    · simp only [e0, ne_eq, not_true_eq_false, if_false] at h0 ⊢
      obtain ⟨_, bb⟩ := borne_0 e0
      cases hf : (List.range b.worlds.length).find? (seeBad m tag l a c b.worlds) with
      | some i => simp only [hf]; exact hb
      | none =>
        simp only [hf] at h0 ⊢
        split at h0
        · simp at h0
        · rename_i hl
          rw [if_neg hl]
          have ln := seeNb_len m tag l a c b.worlds b.worlds.length
          refine ⟨by simp only; omega, by have := hb.w2; simp only; omega, hb.n1, hb.n2, ?_⟩
          have key : ∀ j, j ≤ b.worlds.length → ∀ x ∈ seeNb m tag l a c b.worlds j, WOk m N x := by
            intro j
            induction j with
            | zero => intro _ x hx; simp [seeNb] at hx
            | succ j ih =>
              intro hj x hx
              have wj := hb.ws _ (nth_mem (l := b.worlds) (j := j) (by omega))
              obtain ⟨b1, b2⟩ := bb j (by omega)
              simp only [seeNb, stepW] at hx
              split at hx
              · exact ih (by omega) x hx
              · rcases List.mem_append.1 hx with hx | hx
                · exact ih (by omega) x hx
                · rw [List.mem_singleton.1 hx]
                  split
                  · exact putW_ok wj (seeF_len hm _ l a c (wj.fr _ (nth_mem (by omega)))) (seeF_ti _ l a c (wj.ti _ (nth_mem (by omega))))
                  · exact wj
          exact key _ (Nat.le_refl _)
    · rw [if_pos e0] at h0 ⊢
      exact hb
  · exact hb

theorem absBel_good {m : Mine} (hm : m.ok) {N : Nat} {b : Bel} (hb : BOk m N b) (tag : Int) (l : List Int) (a c bl : Int) : BOk m N (if (absBel m b tag l a c bl).2 = 0 then (absBel m b tag l a c bl).1 else b) := by
  split
  · rename_i h0
    unfold absBel at h0 ⊢
    by_cases e0 : borneF m b tag = 0
    · simp only [e0, ne_eq, not_true_eq_false, if_false] at h0 ⊢
      obtain ⟨_, bb⟩ := borne_0 e0
      cases hf : (List.range b.worlds.length).find? (absBad m tag l a c bl b.worlds) with
      | some i => simp only [hf]; exact hb
      | none =>
        simp only [hf]
        have ln := absNb_len m tag l a c bl b.worlds b.worlds.length
        refine ⟨by have := hb.w1; simp only; omega, by have := hb.w2; simp only; omega, hb.n1, hb.n2, ?_⟩
        have key : ∀ j, j ≤ b.worlds.length → ∀ x ∈ absNb m tag l a c bl b.worlds j, WOk m N x := by
          intro j
          induction j with
          | zero => intro _ x hx; simp [absNb] at hx
          | succ j ih =>
            intro hj x hx
            have wj := hb.ws _ (nth_mem (l := b.worlds) (j := j) (by omega))
            obtain ⟨b1, b2⟩ := bb j (by omega)
            simp only [absNb, stepA] at hx
            rcases List.mem_append.1 hx with hx | hx
            · exact ih (by omega) x hx
            · rw [List.mem_singleton.1 hx]
              split
              · exact putW_ok wj (absF_len hm _ l a c bl (wj.fr _ (nth_mem (by omega)))) (absF_ti _ l a c bl (wj.ti _ (nth_mem (by omega))))
              · exact wj
        exact key _ (Nat.le_refl _)
    · rw [if_pos e0] at h0 ⊢
      exact hb
  · exact hb

theorem joinF_len {m : Mine} {a b : Wh} (ha : a.frm.length = m.places.length) (hb : b.frm.length = m.places.length) : (joinF a b).1.frm.length = m.places.length := by
  unfold joinF
  rw [if_pos (by omega)]
  simp only [minN_len]; exact ha
theorem joinN_fr {m : Mine} (a b : List Wh) (ha : ∀ w ∈ a, w.frm.length = m.places.length) (hb : ∀ w ∈ b, w.frm.length = m.places.length) : ∀ p, p ≤ a.length → p ≤ b.length → ∀ w ∈ joinN a b p, w.frm.length = m.places.length
  | 0, _, _, w, hw => ha w hw
  | p + 1, h1, h2, w, hw => by
    simp only [joinN] at hw
    rcases List.mem_or_eq_of_mem_set hw with hw | rfl
    · exact joinN_fr a b ha hb p (by omega) (by omega) w hw
    · exact joinF_len (ha _ (nth_mem (by omega))) (hb _ (nth_mem (by omega)))
theorem tidy1_good {m : Mine} {N : Nat} {out : List World} {x : World} (ho : ∀ y ∈ out, WOk m N y) (hx : WOk m N x) : ∀ y ∈ tidy1 out x, WOk m N y := by
  intro y hy
  unfold tidy1 at hy
  split at hy
  · rename_i h
    rcases List.mem_or_eq_of_mem_set hy with hy | rfl
    · exact ho y hy
    · obtain ⟨s1, s2, s3, s4⟩ := ho _ (nth_mem h.1)
      refine ⟨hx.tg, ?_, joinN_fr _ _ s3 hx.fr _ (Nat.min_le_left _ _) (Nat.min_le_right _ _), joinN_ti _ _ s4 hx.ti _ (Nat.min_le_left _ _) (Nat.min_le_right _ _)⟩
      show (joinN _ _ _).length = _
      rw [joinN_len]; exact s2
  · rcases List.mem_append.1 hy with hy | hy
    · rcases List.mem_append.1 hy with hy | hy
      · exact ho y (List.mem_of_mem_take hy)
      · rw [List.mem_singleton.1 hy]; exact hx
    · exact ho y (List.mem_of_mem_drop hy)
theorem tidyN_good {m : Mine} {N : Nat} {l : List World} (hl : ∀ x ∈ l, WOk m N x) : ∀ j, j ≤ l.length → ∀ y ∈ tidyN l j, WOk m N y
  | 0, _, y, hy => by simp [tidyN] at hy
  | j + 1, h, y, hy => tidy1_good (tidyN_good hl j (by omega)) (hl _ (nth_mem (by omega))) y hy

theorem exchW_good {m : Mine} {N : Nat} {i j : Nat} {t : Int} {x : World} (h : WOk m N x) (hi : i < N) (hj : j < N) : WOk m N (exchW i j t x) := by
  obtain ⟨s1, s2, s3, s4⟩ := h
  refine ⟨by simpa [exchW, swapL] using s1, by simpa [exchW] using s2, fun w hw => ?_, fun w hw => ?_⟩
  · simp only [exchW] at hw
    rcases List.mem_or_eq_of_mem_set hw with hw | rfl
    · rcases List.mem_or_eq_of_mem_set hw with hw | rfl
      · exact s3 w hw
      · rw [raiseF_frm]; exact s3 _ (nth_mem (by omega))
    · rw [raiseF_frm]; exact s3 _ (nth_mem (by omega))
  · simp only [exchW] at hw
    rcases List.mem_or_eq_of_mem_set hw with hw | rfl
    · rcases List.mem_or_eq_of_mem_set hw with hw | rfl
      · exact s4 w hw
      · exact raiseF_ti (s4 _ (nth_mem (by omega)))
    · exact raiseF_ti (s4 _ (nth_mem (by omega)))
theorem exchNb_good {m : Mine} {N : Nat} {ws : List World} (h : ∀ x ∈ ws, WOk m N x) {i j : Nat} {t : Int} (hi : i < N) (hj : j < N) : ∀ k, k ≤ ws.length → ∀ x ∈ exchNb i j t ws k, WOk m N x
  | 0, _, x, hx => h x hx
  | k + 1, hk, x, hx => by
    simp only [exchNb, exchS] at hx
    split at hx
    · rcases List.mem_append.1 hx with hx | hx
      · exact exchNb_good h hi hj k (by omega) x hx
      · rw [List.mem_singleton.1 hx]; exact exchW_good (h _ (nth_mem (by omega))) hi hj
    · exact exchNb_good h hi hj k (by omega) x hx

theorem exchBel_good {m : Mine} {N : Nat} {b : Bel} (hb : BOk m N b) (i j t : Int) : BOk m N (if (exchBel m b i j t).2 = 0 then (exchBel m b i j t).1 else b) := by
  split
  · rename_i h0
    unfold exchBel at h0 ⊢
    split at h0
    · simp at h0
    · rename_i c1
      rw [if_neg c1]
      split at h0
      · simp at h0
      · rename_i c2
        rw [if_neg c2]
        split at h0
        · simp at h0
        · rename_i c3
          rw [if_neg c3]
          split at h0
          · simp at h0
          · rename_i c4
            rw [if_neg c4]
            have t0 := (hb.ws _ (nth_mem (l := b.worlds) (j := 0) (by have := hb.w1; omega))).tg
            have ln := exchNb_len i.toNat j.toNat t b.worlds b.worlds.length
            have w1 := hb.w1
            refine ⟨?_, by simp only; omega, hb.n1, hb.n2, ?_⟩
            · simp only [tidyF]
              cases hn : (exchNb i.toNat j.toNat t b.worlds b.worlds.length).length with
              | zero => omega
              | succ n => exact (tidy1_len _ _).2.2
            · exact tidyN_good (exchNb_good hb.ws (by omega) (by omega) _ (Nat.le_refl _)) _ (Nat.le_refl _)
  · exact hb

theorem belStep_good {m : Mine} (hm : m.ok) {N : Nat} {n : Int} {s : BSt} (hb : BOk m N s.b) : BOk m N (Dice.belStep m n s).b := by
  unfold Dice.belStep
  simp only
  split
  · exact exchBel_good hb _ _ _
  · split
    · exact seeBel_good hm hb _ _ _ _
    · exact absBel_good hm hb _ _ _ _ _

theorem belStep_t {m : Mine} {n : Int} {s : BSt} : s.t ≤ (Dice.belStep m n s).t ∧ (Dice.belStep m n s).t ≤ s.t + 60 := by
  have h1 := s.d.next_lo 60
  have h2 := s.d.next_hi (n := 60) (by omega)
  unfold Dice.belStep
  simp only
  split
  · simp only; omega
  · split <;> (simp only; omega)

theorem belN_good {m : Mine} (hm : m.ok) {N : Nat} {n : Int} {s : BSt} (hb : BOk m N s.b) (hd : s.d.light) (ht : s.t = 100) : ∀ k, BOk m N (Dice.belN m n s k).b ∧ (Dice.belN m n s k).d.light ∧ 100 ≤ (Dice.belN m n s k).t ∧ (Dice.belN m n s k).t ≤ 100 + 60 * k
  | 0 => ⟨hb, hd, by simp [Dice.belN, ht], by simp [Dice.belN, ht]⟩
  | k + 1 => by
    obtain ⟨h1, h2, h3, h4⟩ := belN_good hm hb hd ht k
    have ht := belStep_t (m := m) (n := n) (s := Dice.belN m n s k)
    exact ⟨belStep_good hm h1, belStep_light h2, by simp only [Dice.belN]; omega, by simp only [Dice.belN]; omega⟩

theorem tagsN_proper {n : Nat} (h : n ≤ 3) : properB (tagsN n) = true := by
  match n, h with
  | 0, _ => decide
  | 1, _ => decide
  | 2, _ => decide
  | 3, _ => decide

theorem nextsN_in (d : Dice) {n : Int} (hn : 1 ≤ n) : ∀ k, ∀ x ∈ (d.nextsN n k).1, 0 ≤ x ∧ x < n
  | 0, x, hx => by simp [Dice.nextsN] at hx
  | k + 1, x, hx => by
    simp only [Dice.nextsN, List.mem_append, List.mem_singleton] at hx
    rcases hx with hx | rfl
    · exact nextsN_in d hn k x hx
    · exact ⟨Dice.next_lo _ _, Dice.next_hi _ hn⟩

theorem belP_bd (d : Dice) : 1 ≤ d.belP ∧ d.belP ≤ 3 := by
  have h1 := d.next_lo 3
  have h2 := d.next_hi (n := 3) (by omega)
  unfold Dice.belP; omega

theorem bel0_is {m : Mine} (hm : m.ok) (h1 : 1 ≤ m.places.length) (d : Dice) :
    (startBel m (tagsN d.belP) (d.belS m).1 ((d.belS m).2.next 100).1) = (⟨[⟨tagsN d.belP, startWs m (d.belS m).1 ((d.belS m).2.next 100).1 (tagsN d.belP).length⟩]⟩, 0) := by
  have pb := belP_bd d
  have tl := tagsN_len d.belP
  have sl : (d.belS m).1.length = d.belP := Dice.nextsN_len _ _ _
  have t0 := (d.belS m).2.next_lo 100
  have t9 := (d.belS m).2.next_hi (n := 100) (by omega)
  have np := hm.np
  unfold startBel
  rw [if_pos (by omega), if_pos (tagsN_proper (by omega))]
  have : (List.range (tagsN d.belP).length).find? (fun i => !decide ((startF m (nth (d.belS m).1 i) ((d.belS m).2.next 100).1).2 = 0)) = none := by
    rw [List.find?_eq_none]
    intro i hi
    have hi : i < (d.belS m).1.length := by rw [sl, ← tl]; exact List.mem_range.1 hi
    have := nextsN_in (d.next 3).2 (n := m.places.length) (by omega) d.belP _ (nth_mem hi)
    have := (startF_ok hm this.1 this.2 (t := ((d.belS m).2.next 100).1) ⟨by omega, by omega⟩).1
    have e : (startF m (nth (d.belS m).1 i) ((d.belS m).2.next 100).1).2 = 0 := this
    simp [e]
  rw [this]

theorem bel0_good {m : Mine} (hm : m.ok) (h1 : 1 ≤ m.places.length) (d : Dice) : BOk m d.belP (d.bel0 m).b := by
  have pb := belP_bd d
  have tl := tagsN_len d.belP
  have sl : (d.belS m).1.length = d.belP := Dice.nextsN_len _ _ _
  have t0 := (d.belS m).2.next_lo 100
  have t9 := (d.belS m).2.next_hi (n := 100) (by omega)
  have np := hm.np
  unfold Dice.bel0
  rw [bel0_is hm h1]
  refine ⟨by simp, by simp, by omega, by omega, fun x hx => ?_⟩
  rw [List.mem_singleton.1 hx]
  refine ⟨tl, by simp [tl], fun w hw => ?_, fun w hw => by
    simp only [startWs, List.mem_map, List.mem_range] at hw
    obtain ⟨i, hi, rfl⟩ := hw
    exact startF_ti ⟨by omega, by omega⟩⟩
  simp only [startWs, List.mem_map, List.mem_range] at hw
  obtain ⟨i, hi, rfl⟩ := hw
  have hi : i < (d.belS m).1.length := by rw [sl, ← tl]; exact hi
  have := nextsN_in (d.next 3).2 (n := m.places.length) (by omega) d.belP _ (nth_mem hi)
  exact (startF_ok hm this.1 this.2 ⟨by omega, by omega⟩).2

theorem belF_good {m : Mine} (hm : m.ok) (h1 : 1 ≤ m.places.length) {d : Dice} (hd : d.light) : BOk m d.belP (d.belief m).1 ∧ (d.belief m).2.light := by
  have l0 : (d.bel0 m).d.light := Dice.next_light (Dice.next_light (Dice.nextsN_light (Dice.next_light hd 3) _ _) _) _
  obtain ⟨h1, h2, -⟩ := belN_good hm (bel0_good hm h1 d) l0 rfl (n := d.belP) (d.belK m)
  exact ⟨h1, h2⟩

end Go.Ev

/- Made inputs: beliefs and smoke, by the code. -/
namespace Go.Ev
open Go
variable [Lib] [Has1] [Has2]

theorem bel_loop1 {m : Mine} (hm : m.ok) (d : Dice) (hd : d.light) (n : Nat) (hn : n ≤ 12) (a b c e f g h i j k : D) :
    exS CALL K.made_Dice_Belief_l1 ⟨[.bp 0 0, a, .bp 1 0, .bp 2 0, I n, .ref 3 0 0, .ref 4 0 0, I 0, b, c, e, f, g, h, i, j, k, .und], [d.obj, .box (mineCells m), .box [.nil], .arr 1 false 0 [], .arr 1 false 0 []]⟩ =
    some (.exit 0, ⟨[.bp 0 0, .und, .bp 1 0, .bp 2 0, I n, .ref 3 0 n, .ref 4 0 n, I n, .und, .und, .und, .und, .und, .und, .und, .und, .und, .und], [(d.nextsN m.places.length n).2.obj, .box (mineCells m), .box [.nil], .arr 1 false 0 (ints (tagsN n)), .arr 1 false 0 (ints (d.nextsN m.places.length n).1)]⟩) := by
  refine loop_up (fun k => ⟨[.bp 0 0, .und, .bp 1 0, .bp 2 0, I n, .ref 3 0 k, .ref 4 0 k, I k, .und, .und, .und, .und, .und, .und, .und, .und, .und, .und], [(d.nextsN m.places.length k).2.obj, .box (mineCells m), .box [.nil], .arr 1 false 0 (ints (tagsN k)), .arr 1 false 0 (ints (d.nextsN m.places.length k).1)]⟩) n rfl ?_ ?_ (by simp)
  · intro j hj
    have np := hm.np
    have tl := tagsN_len j
    have sl := d.nextsN_len m.places.length j
    have lt := Dice.nextsN_light hd m.places.length j
    simp only [tagsN, Dice.nextsN]
    generalize tagsN j = ts at *
    generalize d.nextsN m.places.length j = s at *
    obtain ⟨ss, d1⟩ := s
    simp only at sl lt ⊢
    have h1 := next_ok d1 m.places.length (by omega) lt
    generalize d1.next m.places.length = r at *
    obtain ⟨x, d2⟩ := r
    simp only at h1 ⊢
    simp (disch := omega) only [go_sem, K.made_Dice_Belief_l1b, ↓reduceIte, ints, h1, Nat.reduceAdd, Nat.reduceSub]
  · have tl := tagsN_len n
    have sl := d.nextsN_len m.places.length n
    simp (disch := omega) only [go_sem, K.made_Dice_Belief_l1b, ↓reduceIte, ints, Nat.reduceAdd, Nat.reduceSub]

theorem bel_loop2 {m : Mine} (hm : m.ok) {N : Nat} (n : Int) (n1 : 1 ≤ n) (n2 : n ≤ 12) (tags starts : List Int) (s : BSt) (hd : s.d.light) (hb : BOk m N s.b) (ht : s.t = 100) (p1 p2 : Bool) (kk : Nat) (hK : kk ≤ 100) :
    loopC true [1, 5, 6, 7, 11, 12, 13, 14, 15, 16, 17] (exS CALL K.made_Dice_Belief_l2b) ⟨[.bp 0 0, .und, .bp 1 0, .bp 2 0, I n, .und, .und, .und, .bp 5 0, I s.t, I kk, .und, .und, .und, .und, .und, .und, .und], blH m p1 p2 tags starts s⟩ =
    some (.exit 2, ⟨[.bp 0 0, .und, .bp 1 0, .bp 2 0, I n, .und, .und, .und, .bp 5 0, I (Dice.belN m n s kk).t, I 0, .und, .und, .und, .und, .und, .und, .und], blH m p1 p2 tags starts (Dice.belN m n s kk)⟩) := by
  have key := loopC_up (gc := true) (dead := [1, 5, 6, 7, 11, 12, 13, 14, 15, 16, 17]) (body := exS CALL K.made_Dice_Belief_l2b)
    (fun k => ⟨[.bp 0 0, .und, .bp 1 0, .bp 2 0, I n, .und, .und, .und, .bp 5 0, I (Dice.belN m n s k).t, I ((kk - k : Nat) : Int), .und, .und, .und, .und, .und, .und, .und], blH m p1 p2 tags starts (Dice.belN m n s k)⟩)
    (p := (.exit 2, ⟨[.bp 0 0, .und, .bp 1 0, .bp 2 0, I n, .und, .und, .und, .bp 5 0, I (Dice.belN m n s kk).t, I 0, .und, .und, .und, .und, .und, .und, .und], blH m p1 p2 tags starts (Dice.belN m n s kk)⟩)) kk ?_ ?_
  · exact key
  · intro k hk
    obtain ⟨g1, g2, g3, g4⟩ := belN_good hm (n := n) hb hd ht k
    have := bel_round hm n n1 n2 tags starts (Dice.belN m n s k) g2 (g1.sz hm) (by omega) (by omega) (kk - (k + 1)) (by omega) p1 p2
    rw [show (((kk - (k + 1) : Nat) : Int) + 1) = ((kk - k : Nat) : Int) by omega] at this
    exact this
  · refine loopC_exit ?_ (by simp)
    simp only [Nat.sub_self]
    simp (disch := omega) only [go_sem, K.made_Dice_Belief_l2b, ↓reduceIte, blH, Nat.reduceAdd, Nat.reduceSub]

theorem belief_ok {m : Mine} (hm : m.ok) (h1 : 1 ≤ m.places.length) (d : Dice) (hd : d.light) : CALL 0 N.made_Dice_Belief [.bp 0 0, .t m.e] [d.obj] = some (.t (d.belief m).1.e, [(d.belief m).2.obj]) := by
  refine CALL_of K.t_made_Dice_Belief rfl ?_
  have np := hm.np
  have pb := belP_bd d
  have eP : (d.belP : Int) = 1 + (d.next 3).1 := by have := d.next_lo 3; unfold Dice.belP; omega
  have g0 := bel0_good hm h1 d
  have e0 := bel0_is hm h1 d
  have a1 := next_ok d 3 (by omega) hd
  have l1 := Dice.next_light hd 3
  have q1 := fun a b c e f g h i j k => bel_loop1 hm (d.next 3).2 l1 d.belP (by omega) a b c e f g h i j k
  have eS : (d.next 3).2.nextsN m.places.length d.belP = d.belS m := rfl
  rw [eS] at q1
  have lS : (d.belS m).2.light := Dice.nextsN_light l1 _ _
  have a2 := next_ok (d.belS m).2 100 (by omega) lS
  have l2 := Dice.next_light lS 100
  have a3 := next_ok ((d.belS m).2.next 100).2 5 (by omega) l2
  have l3 := Dice.next_light l2 5
  have k0 := ((d.belS m).2.next 100).2.next_lo 5
  have k9 := ((d.belS m).2.next 100).2.next_hi (n := 5) (by omega)
  have eK : (d.belK m : Int) = (((d.belS m).2.next 100).2.next 5).1 := by unfold Dice.belK; omega
  have st := startBel_ok hm (tagsN d.belP) (d.belS m).1 (by rw [tagsN_len]; omega) ((d.belS m).2.next 100).1
  have tl := tagsN_len d.belP
  have sl : (d.belS m).1.length = d.belP := Dice.nextsN_len _ _ _
  rw [e0] at st
  have b0 : d.bel0 m = ⟨⟨[⟨tagsN d.belP, startWs m (d.belS m).1 ((d.belS m).2.next 100).1 (tagsN d.belP).length⟩]⟩, 100, (((d.belS m).2.next 100).2.next 5).2⟩ := by unfold Dice.bel0; rw [e0]
  have q2 := fun p1 p2 => bel_loop2 hm d.belP (by omega) (by omega) (tagsN d.belP) (d.belS m).1 (d.bel0 m) (by rw [b0]; exact l3) g0 rfl p1 p2 (d.belK m) (by omega)
  have q2 := fun p1 p2 a b c e f g h i j k l => loop_is (vs := [.bp 0 0, a, .bp 1 0, .bp 2 0, I d.belP, b, c, e, .bp 5 0, I 100, I (d.belK m), f, g, h, i, j, k, l]) (q2 p1 p2)
  have eF : Dice.belN m d.belP (d.bel0 m) (d.belK m) = d.belF m := rfl
  rw [eF] at q2
  unfold Dice.belief
  rw [b0] at q2
  generalize d.belF m = F at *
  generalize (tagsN d.belP) = tags at *
  generalize startWs m (d.belS m).1 ((d.belS m).2.next 100).1 tags.length = sw at *
  generalize d.belK m = kk at *
  generalize (((d.belS m).2.next 100).2.next 5) = z3 at *
  generalize ((d.belS m).2.next 100) = z2 at *
  generalize d.belS m = z1 at *
  generalize d.next 3 = z0 at *
  generalize d.belP = n at *
  obtain ⟨x3, d3⟩ := z3
  obtain ⟨x2, d2⟩ := z2
  obtain ⟨ss, d1⟩ := z1
  obtain ⟨x0, d0⟩ := z0
  obtain ⟨⟨wf⟩, tf, df⟩ := F
  simp only [List.map_cons, List.map_nil, blH] at *
  have q2 : ∀ p1 p2 a b c e f g h i j k l, exS CALL K.made_Dice_Belief_l2 _ = _ := q2
  simp (disch := omega) only [go_sem, K.made_Dice_Belief, ↓reduceIte, ints, a1, eP.symm, q1, a2, a3, st, eK.symm, tl, sl, q2, Nat.reduceAdd, Nat.reduceSub]

end Go.Ev

/- Made inputs: smoke that spreads; machines. -/
namespace Go.Ev
open Go
variable [Lib] [Has1] [Has2]

def Dice.spread (d : Dice) (m : Mine) (fl : List Spn) : Wh × Dice :=
  let p := d.next m.places.length
  let t := p.2.next 200
  let s := startS m fl [p.1] t.1
  let o := t.2.one 2
  if o.1 = true then
    let f := o.2.flows m
    let a := f.2.next 100
    let r := changeS m fl m f.1 s.1 (s.1.time + a.1)
    if r.2 = 0 then (r.1, a.2) else (s.1, a.2)
  else (s.1, o.2)

theorem Dice.spread_light {d : Dice} (h : d.light) (m : Mine) (fl : List Spn) : (d.spread m fl).2.light := by
  unfold Dice.spread
  simp only
  have l3 := Dice.one_light (Dice.next_light (Dice.next_light h m.places.length) 200) 2
  split
  · have := Dice.next_light (Dice.flowsN_light l3 m.roads.length) 100
    split <;> exact this
  · exact l3

theorem closeS_len {m : Mine} (hm : m.ok) {fl : List Spn} (hfl : flowsB m fl = true) {l : List Int} (hl : l.length = m.places.length) (hb : bnd l) : (closeS m fl l).length = m.places.length := by
  unfold closeS
  rw [capN_len]
  exact (closeS_ok hm fl hfl l hl hb).2.1

theorem startS_bd {m : Mine} (hm : m.ok) (fl : List Spn) (l : List Int) (t : Int) : ((startS m fl l t).1.time = 0 ∨ (startS m fl l t).1.time = t) ∧ (startS m fl l t).1.frm.length ≤ m.places.length := by
  unfold startS
  split
  · simp
  · split
    · simp
    · split
      · simp
      · rename_i h1 h2 h3
        have h3 : inT t := by simpa using h3
        exact ⟨.inr rfl, Nat.le_of_eq (closeS_len hm (by simpa using h1) (initS_len _ _ _) (initS_bnd _ h3 _))⟩

theorem flowsB_of {m : Mine} {l : List Spn} (h1 : l.length = m.roads.length) (h2 : ∀ x ∈ l, x.ok) : flowsB m l = true := by
  simp only [flowsB, Bool.and_eq_true, decide_eq_true_eq, List.all_eq_true, List.mem_range]
  exact ⟨fun j hj => h2 _ (nth_mem hj), h1⟩
theorem setB_one {p : Int} {n : Nat} (h0 : 0 ≤ p) (h1 : p < n) : setB [p] n = true := by
  simp only [setB, List.all_eq_true, List.mem_range, decide_eq_true_eq]
  intro j hj
  obtain rfl : j = 0 := by simpa using hj
  exact ⟨h0, h1, fun h => absurd h (by omega)⟩
theorem startS_good {m : Mine} (hm : m.ok) {fl : List Spn} (hf : flowsB m fl = true) {l : List Int} (hl : setB l m.places.length = true) {t : Int} (ht : inT t) :
    (startS m fl l t).2 = 0 ∧ (startS m fl l t).1.time = t ∧ (startS m fl l t).1.frm.length = m.places.length := by
  unfold startS
  rw [if_neg (by simp [hf]), if_neg (by simp [hl]), if_neg (fun h => h ht)]
  exact ⟨rfl, rfl, closeS_len hm hf (initS_len _ _ _) (initS_bnd _ ht _)⟩
theorem changeS_good {m : Mine} {old : List Spn} {next : Mine} (hn : next.ok) {fl : List Spn} {s : Wh} {t : Int} (hm : m.ok) (h : (changeS m old next fl s t).2 = 0) :
    (changeS m old next fl s t).1.frm.length = next.places.length ∧ (changeS m old next fl s t).1.time = t ∧ inT t := by
  unfold changeS at h ⊢
  split at h
  · simp at h
  · rename_i h1
    rw [if_neg h1]
    split at h
    · simp at h
    · rename_i h2
      rw [if_neg h2]
      have v : validS m s = true := by cases hv : validS m s; exact absurd (.inl hv) h1; rfl
      have f : flowsB next fl = true := by cases hv : flowsB next fl; exact absurd (.inr (.inr (.inl hv))) h1; rfl
      have pl : next.places.length = m.places.length := Classical.byContradiction fun hv => h1 (.inr (.inr (.inr hv)))
      obtain ⟨v1, v2, v3⟩ := validS_spec v
      have it : inT t := by unfold inT at *; omega
      have hb : bnd s.frm := fun x hx => by
        have h3 := v3 x hx
        unfold plS at h3; unfold inT at v2; omega
      have cl := chN_len m old s.frm t m.roads.length
      have cb := chN_bnd hm old v1 hb it m.roads.length (Nat.le_refl _)
      have ml := maxN_len t (chN m old s.frm t m.roads.length) m.places.length
      have mb := maxN_bnd it cb m.places.length (by omega)
      exact ⟨closeS_len hn f (by omega) mb, rfl, it⟩

theorem Dice.spread_good {d : Dice} {m : Mine} (hm : m.ok) (h1 : 1 ≤ m.places.length) {fl : List Spn} (hf : flowsB m fl = true) :
    (d.spread m fl).1.frm.length = m.places.length ∧ 0 ≤ (d.spread m fl).1.time ∧ (d.spread m fl).1.time ≤ 300 := by
  unfold Dice.spread
  simp only
  have p0 := d.next_lo m.places.length
  have p9 := d.next_hi (n := m.places.length) (by omega)
  generalize d.next m.places.length = r1 at *
  obtain ⟨p, d1⟩ := r1
  simp only at p0 p9 ⊢
  have t0 := d1.next_lo 200
  have t9 := d1.next_hi (n := 200) (by omega)
  generalize d1.next 200 = r2 at *
  obtain ⟨t, d2⟩ := r2
  simp only at t0 t9 ⊢
  obtain ⟨g1, g2, g3⟩ := startS_good hm hf (setB_one p0 p9) (t := t) ⟨by omega, by omega⟩
  split
  · have u0 := ((d2.one 2).2.flows m).2.next_lo 100
    have u9 := ((d2.one 2).2.flows m).2.next_hi (n := 100) (by omega)
    split
    · rename_i h
      obtain ⟨c1, c2, c3⟩ := changeS_good hm hm h
      refine ⟨c1, ?_, ?_⟩ <;> (rw [c2, g2]; omega)
    · exact ⟨g3, by rw [g2]; omega, by rw [g2]; omega⟩
  · exact ⟨g3, by rw [g2]; omega, by rw [g2]; omega⟩

theorem spread_ok {m : Mine} (hm : m.ok) (h1 : 1 ≤ m.places.length) (fl : List Spn) (hf : fl.length ≤ 1000) (d : Dice) (hd : d.light) :
    CALL 0 N.made_Dice_Spread [.bp 0 0, .t m.e, .t (tS fl)] [d.obj] = some (.t (d.spread m fl).1.e, [(d.spread m fl).2.obj]) := by
  refine CALL_of K.t_made_Dice_Spread rfl ?_
  unfold Dice.spread
  simp only
  have np := hm.np
  have nr := hm.nr
  have a1 := next_ok d m.places.length (by omega) hd
  have l1 := Dice.next_light hd m.places.length
  generalize d.next m.places.length = r1 at *
  obtain ⟨p, d1⟩ := r1
  simp only at a1 l1 ⊢
  have a2 := next_ok d1 200 (by omega) l1
  have l2 := Dice.next_light l1 200
  have t0 := d1.next_lo 200
  have t9 := d1.next_hi (n := 200) (by omega)
  generalize d1.next 200 = r2 at *
  obtain ⟨t, d2⟩ := r2
  simp only at a2 l2 t0 t9 ⊢
  have st := startS_ok hm fl (by omega) [p] (by simp) t
  have a3 := one_ok d2 2 (by omega) (by omega) l2
  have l3 := Dice.one_light l2 2
  generalize d2.one 2 = r3 at *
  obtain ⟨o, d3⟩ := r3
  simp only at a3 l3 ⊢
  have sT : 0 ≤ (startS m fl [p] t).1.time ∧ (startS m fl [p] t).1.time ≤ 200 ∧ (startS m fl [p] t).1.frm.length ≤ 1000000 := by
    obtain ⟨b1, b2⟩ := startS_bd hm fl [p] t
    omega
  generalize startS m fl [p] t = s at *
  obtain ⟨⟨sti, sfr⟩, se⟩ := s
  simp only [tL, List.map_cons, List.map_nil] at st sT ⊢
  cases o with
  | false =>
    simp (disch := omega) only [go_sem, K.made_Dice_Spread, ↓reduceIte, a1, a2, a3, st, Nat.reduceAdd, Nat.reduceSub, Bool.false_eq_true]
  | true =>
    simp only [↓reduceIte]
    have a4 := flowsD_ok d3 l3 m (by omega)
    have l4 : (d3.flows m).2.light := Dice.flowsN_light l3 _
    have n4 : (d3.flows m).1.length = m.roads.length := Dice.flowsN_len _ _
    generalize d3.flows m = r4 at *
    obtain ⟨fl2, d4⟩ := r4
    simp only at a4 l4 n4 ⊢
    have a5 := next_ok d4 100 (by omega) l4
    have u0 := d4.next_lo 100
    have u9 := d4.next_hi (n := 100) (by omega)
    generalize d4.next 100 = r5 at *
    obtain ⟨u, d5⟩ := r5
    simp only at a5 u0 u9 ⊢
    have ch := changeS_ok hm fl (by omega) hm fl2 (by omega) ⟨sti, sfr⟩ (by simp only; omega) (sti + u)
    generalize changeS m fl m fl2 ⟨sti, sfr⟩ (sti + u) = c at *
    obtain ⟨⟨ct, cf⟩, ce⟩ := c
    simp only at ch ⊢
    by_cases e : ce = 0
    · simp (disch := omega) only [go_sem, K.made_Dice_Spread, ↓reduceIte, a1, a2, a3, a4, a5, st, ch, e, Nat.reduceAdd, Nat.reduceSub]
    · simp (disch := omega) only [go_sem, K.made_Dice_Spread, ↓reduceIte, a1, a2, a3, a4, a5, st, ch, e, Nat.reduceAdd, Nat.reduceSub]

/-- Machines. -/
structure Mch where
  kind : Int
  num : Int
  pl : List Int
instance : Dat Mch := ⟨⟨0, 0, []⟩⟩
abbrev Mch.e (x : Mch) : T := .agg [tI x.kind, tI x.num, tL x.pl]
@[go_sem] theorem appOK_mch (l : List Mch) : appOK 3 (l.map Mch.e) = true := by cases l <;> rfl

def Dice.mch (d : Dice) (n : Nat) : Mch × Dice :=
  let a := d.next 2
  let b := a.2.next 5
  let l := b.2.someN n
  if l.1.length = 0 then (⟨1 + a.1, b.1, [(l.2.next n).1]⟩, (l.2.next n).2) else (⟨1 + a.1, b.1, l.1⟩, l.2)
def Dice.mchN (d : Dice) (n : Nat) : Nat → List Mch × Dice
  | 0 => ([], d)
  | k + 1 => ((d.mchN n k).1 ++ [((d.mchN n k).2.mch n).1], ((d.mchN n k).2.mch n).2)
def Dice.mchs (d : Dice) (n : Nat) : List Mch × Dice := (d.next 4).2.mchN n (d.next 4).1.toNat

theorem Dice.mch_light {d : Dice} (h : d.light) (n : Nat) : (d.mch n).2.light := by
  unfold Dice.mch
  simp only
  have := Dice.someN_light (Dice.next_light (Dice.next_light h 2) 5) n
  split
  · exact Dice.next_light this n
  · exact this
theorem Dice.mchN_light {d : Dice} (h : d.light) (n : Nat) : ∀ k, (d.mchN n k).2.light
  | 0 => h
  | k + 1 => by simp only [Dice.mchN]; exact Dice.mch_light (Dice.mchN_light h n k) n
theorem Dice.mchN_len (d : Dice) (n : Nat) : ∀ k, (d.mchN n k).1.length = k
  | 0 => rfl
  | k + 1 => by simp [Dice.mchN, d.mchN_len n k]

theorem someN_in (d : Dice) : ∀ n, ∀ x ∈ (d.someN n).1, 0 ≤ x ∧ x < n
  | 0, x, hx => by simp [Dice.someN] at hx
  | n + 1, x, hx => by
    simp only [Dice.someN] at hx
    split at hx
    · rcases List.mem_append.1 hx with hx | hx
      · have := someN_in d n x hx; omega
      · rw [List.mem_singleton.1 hx]; omega
    · have := someN_in d n x hx; omega
theorem Dice.mch_good (d : Dice) {n : Nat} (hn : 1 ≤ n) : (d.mch n).1.pl.length ≤ n ∧ 1 ≤ (d.mch n).1.pl.length ∧ ∀ x ∈ (d.mch n).1.pl, 0 ≤ x ∧ x < n := by
  unfold Dice.mch
  simp only
  split
  · refine ⟨by simp; omega, by simp, fun x hx => ?_⟩
    simp only [List.mem_singleton] at hx
    rw [hx]
    exact ⟨Dice.next_lo _ _, Dice.next_hi _ (by omega)⟩
  · rename_i h
    exact ⟨Dice.someN_len _ _, by simp only; omega, someN_in _ _⟩
theorem Dice.mchN_good (d : Dice) {n : Nat} (hn : 1 ≤ n) : ∀ k, ∀ y ∈ (d.mchN n k).1, y.pl.length ≤ n ∧ 1 ≤ y.pl.length ∧ ∀ x ∈ y.pl, 0 ≤ x ∧ x < n
  | 0, y, hy => by simp [Dice.mchN] at hy
  | k + 1, y, hy => by
    simp only [Dice.mchN, List.mem_append, List.mem_singleton] at hy
    rcases hy with hy | rfl
    · exact d.mchN_good hn k y hy
    · exact Dice.mch_good _ hn

theorem mch_round {m : Mine} (hn : 1 ≤ m.places.length) (hn2 : m.places.length ≤ 1000) (d : Dice) (hd : d.light) (l : List Mch) (hl : l.length ≤ 100) (k : Nat) (hk : k ≤ 100) :
    roundC true [1, 3, 6] 3 (exS CALL K.law40_some_l1b ⟨[.bp 0 0, .und, .bp 1 0, .und, .ref 2 0 l.length, I (k + 1), .und], [d.obj, .box (mineCells m), .arr 3 false 0 ((l.map Mch.e).map .t)]⟩) =
    some ⟨[.bp 0 0, .und, .bp 1 0, .und, .ref 2 0 (l ++ [(d.mch m.places.length).1]).length, I k, .und], [(d.mch m.places.length).2.obj, .box (mineCells m), .arr 3 false 0 (((l ++ [(d.mch m.places.length).1]).map Mch.e).map .t)]⟩ := by
  unfold Dice.mch
  simp only
  have a1 := next_ok d 2 (by omega) hd
  have l1 := Dice.next_light hd 2
  have x0 := d.next_lo 2
  have x9 := d.next_hi (n := 2) (by omega)
  generalize d.next 2 = r1 at *
  obtain ⟨a, d1⟩ := r1
  simp only at a1 l1 x0 x9 ⊢
  have a2 := next_ok d1 5 (by omega) l1
  have l2 := Dice.next_light l1 5
  generalize d1.next 5 = r2 at *
  obtain ⟨b, d2⟩ := r2
  simp only at a2 l2 ⊢
  have a3 := some_ok d2 m.places.length (by omega) l2
  have l3 := Dice.someN_light l2 m.places.length
  have n3 := d2.someN_len m.places.length
  generalize d2.someN m.places.length = r3 at *
  obtain ⟨s, d3⟩ := r3
  simp only at a3 l3 n3 ⊢
  by_cases e : s.length = 0
  · have a4 := next_ok d3 m.places.length (by omega) l3
    generalize d3.next m.places.length = r4 at *
    obtain ⟨c, d4⟩ := r4
    simp only [if_pos e] at a4 ⊢
    simp (disch := omega) only [go_sem, K.law40_some_l1b, ↓reduceIte, a1, a2, a3, a4, e, Nat.reduceAdd, Nat.reduceSub]
    rfl
  · simp only [if_neg e]
    simp (disch := omega) only [go_sem, K.law40_some_l1b, ↓reduceIte, a1, a2, a3, e, Nat.reduceAdd, Nat.reduceSub]

theorem mchs_ok {m : Mine} (hn : 1 ≤ m.places.length) (hn2 : m.places.length ≤ 1000) (d : Dice) (hd : d.light) :
    CALL 0 N.law40_some [.bp 0 0, .t m.e] [d.obj] = some (.t (.sl ((d.mchs m.places.length).1.map Mch.e)), [(d.mchs m.places.length).2.obj]) := by
  refine CALL_of K.t_law40_some rfl ?_
  unfold Dice.mchs
  have a1 := next_ok d 4 (by omega) hd
  have l1 := Dice.next_light hd 4
  have x0 := d.next_lo 4
  have x9 := d.next_hi (n := 4) (by omega)
  generalize d.next 4 = r1 at *
  obtain ⟨n, d1⟩ := r1
  simp only at a1 l1 x0 x9 ⊢
  obtain ⟨n, rfl⟩ := Int.eq_ofNat_of_zero_le x0
  simp only [Int.toNat_natCast]
  have loop : ∀ a b c : D, exS CALL K.law40_some_l1 ⟨[.bp 0 0, a, .bp 1 0, b, .ref 2 0 0, I n, c], [d1.obj, .box (mineCells m), .arr 3 false 0 []]⟩ =
      some (.exit 0, ⟨[.bp 0 0, .und, .bp 1 0, .und, .ref 2 0 (d1.mchN m.places.length n).1.length, I 0, .und], [(d1.mchN m.places.length n).2.obj, .box (mineCells m), .arr 3 false 0 (((d1.mchN m.places.length n).1.map Mch.e).map .t)]⟩) := by
    intro a b c
    refine loop_up (fun j => ⟨[.bp 0 0, .und, .bp 1 0, .und, .ref 2 0 (d1.mchN m.places.length j).1.length, I ((n - j : Nat) : Int), .und], [(d1.mchN m.places.length j).2.obj, .box (mineCells m), .arr 3 false 0 (((d1.mchN m.places.length j).1.map Mch.e).map .t)]⟩) n rfl ?_ ?_ (by simp)
    · intro j hj
      have ln := d1.mchN_len m.places.length j
      have := mch_round hn hn2 (d1.mchN m.places.length j).2 (Dice.mchN_light l1 _ j) (d1.mchN m.places.length j).1 (by omega) (n - (j + 1)) (by omega)
      rw [show (((n - (j + 1) : Nat) : Int) + 1) = ((n - j : Nat) : Int) by omega] at this
      exact this
    · simp only [Nat.sub_self]
      simp (disch := omega) only [go_sem, K.law40_some_l1b, ↓reduceIte, Nat.reduceAdd, Nat.reduceSub]
  have ln := d1.mchN_len m.places.length n
  generalize d1.mchN m.places.length n = r at *
  obtain ⟨l, d2⟩ := r
  simp only at ln loop ⊢
  simp (disch := omega) only [go_sem, K.law40_some, ↓reduceIte, a1, loop, Nat.reduceAdd, Nat.reduceSub]

end Go.Ev

/- The program: possible places of persons; places with smoke; the fire rules. -/
namespace Go.Ev
open Go
variable [Lib] [Has1] [Has2]

theorem whereF_congr {n : Nat} {p q : Nat → Bool} (h : ∀ k, k < n → p k = q k) : whereF n p = whereF n q := by
  unfold whereF
  congr 1
  refine List.filter_congr fun x hx => h x (List.mem_range.1 hx)

theorem mem_whereF {n : Nat} {p : Nat → Bool} {x : Int} : x ∈ whereF n p ↔ ∃ k : Nat, x = k ∧ k < n ∧ p k = true := by
  unfold whereF
  simp only [List.mem_map, List.mem_filter, List.mem_range]
  constructor
  · rintro ⟨k, ⟨h1, h2⟩, rfl⟩; exact ⟨k, rfl, h1, h2⟩
  · rintro ⟨k, rfl, h1, h2⟩; exact ⟨k, ⟨h1, h2⟩, rfl⟩
theorem mem_whereF_nat {n : Nat} {p : Nat → Bool} {k : Nat} : (k : Int) ∈ whereF n p ↔ k < n ∧ p k = true := by
  rw [mem_whereF]
  constructor
  · rintro ⟨j, h, h1, h2⟩
    obtain rfl : k = j := by omega
    exact ⟨h1, h2⟩
  · rintro ⟨h1, h2⟩; exact ⟨k, rfl, h1, h2⟩

theorem filled1_ok (s : Wh) (t : Int) (k : Nat) (hk : k < s.frm.length) : CALL 0 N.smoke_Filled_1 [I k, .bp 0 0, .bp 1 0] [.box [I s.time, .t (tL s.frm)], .box [I t]] = some (B (decide (nth s.frm k ≤ t)), [.box [I s.time, .t (tL s.frm)], .box [I t]]) := by
  refine CALL_of K.t_smoke_Filled_1 rfl ?_
  simp (disch := omega) only [go_sem, K.smoke_Filled_1, ↓reduceIte, Nat.reduceAdd, Nat.reduceSub]

theorem filled_ok (s : Wh) (t : Int) (hl : s.frm.length ≤ 1000000) : CALL 0 N.smoke_Filled [.t s.e, I t] [] = some (.t (tL (possF s t)), []) := by
  refine CALL_of K.t_smoke_Filled rfl ?_
  have wh := where_ok s.frm.length hl N.smoke_Filled_1 [[tI s.time, tL s.frm], [tI t]] (fun k => decide (nth s.frm k ≤ t)) (fun k hk => filled1_ok s t k hk)
  have wh : CALL 0 N.lists_Where [I s.frm.length, .fn N.smoke_Filled_1 [.bp 0 0, .bp 1 0]] [.box [I s.time, .t (tL s.frm)], .box [I t]] = some (.t (tL (possF s t)), [.box [I s.time, .t (tL s.frm)], .box [I t]]) := wh
  obtain ⟨time, frm⟩ := s
  simp only at hl wh
  generalize possF ⟨time, frm⟩ t = r at *
  simp (disch := omega) only [go_sem, K.smoke_Filled, ↓reduceIte, wh, Nat.reduceAdd, Nat.reduceSub]

theorem indexFuncW_ok (l : List World) (hl : l.length ≤ 4294967296) (f : Nat) (bs : List (List T)) (p : World → Bool) (h : ∀ x, x ∈ l → CALL 0 f (.t x.e :: capsN bs.length) (boxesT bs) = some (B (p x), boxesT bs)) :
    CALL 0 N.slices_IndexFunc_api_World_api_World [.t (.sl (l.map World.e)), .fn f (capsN bs.length)] (boxesT bs) =
    some (I (match (List.range l.length).find? (fun j => p (nth l j)) with | some j => (j : Int) | none => -1), boxesT bs) := by
  refine CALL_of K.t_slices_IndexFunc_api_World_api_World rfl ?_
  have loop : ∀ a b : D, exS CALL K.slices_IndexFunc_api_World_api_World_l1 ⟨[.t (.sl (l.map World.e)), .fn f (capsN bs.length), a, b, I l.length, I 0], boxesT bs⟩ =
      some (match (List.range l.length).find? (fun j => p (nth l j)) with
        | some j => (.ret, ⟨[.t (.sl (l.map World.e)), .fn f (capsN bs.length), I j, I j, I l.length, I j], boxesT bs⟩)
        | none => (.exit 0, ⟨[.t (.sl (l.map World.e)), .fn f (capsN bs.length), .und, .und, I l.length, I l.length], boxesT bs⟩)) := by
    intro a b
    refine loop_first (fun j => ⟨[.t (.sl (l.map World.e)), .fn f (capsN bs.length), .und, .und, I l.length, I j], boxesT bs⟩) l.length (fun j => p (nth l j)) _ _ rfl ?_ ?_ ?_ (by simp)
    · intro j hj hp
      have hc := clos_call0 (h _ (nth_mem hj)) rfl
      simp (disch := omega) only [go_sem, K.slices_IndexFunc_api_World_api_World_l1b, ↓reduceIte, hc, hp]
    · intro j hj hp
      have hc := clos_call0 (h _ (nth_mem hj)) rfl
      simp (disch := omega) only [go_sem, K.slices_IndexFunc_api_World_api_World_l1b, ↓reduceIte, hp, hc]
      simp
    · simp (disch := omega) only [go_sem, K.slices_IndexFunc_api_World_api_World_l1b, ↓reduceIte]
  simp (disch := omega) only [go_sem, K.slices_IndexFunc_api_World_api_World, ↓reduceIte, loop]
  cases hf : (List.range l.length).find? (fun j => p (nth l j)) with
  | some j => simp (disch := omega) only [go_sem, ↓reduceIte]
  | none => simp (disch := omega) only [go_sem, ↓reduceIte]

theorem any_nthW {α : Type} [Dat α] {l : List α} {p : α → Bool} : ((List.range l.length).find? fun j => p (nth l j)).isSome = l.any p := by
  rw [List.isSome_find?, Bool.eq_iff_iff, List.any_eq_true, List.any_eq_true]
  constructor
  · rintro ⟨j, hj, h⟩
    exact ⟨_, nth_mem (List.mem_range.1 hj), h⟩
  · rintro ⟨x, hx, h⟩
    obtain ⟨j, hj⟩ := List.mem_iff_getElem?.1 hx
    exact ⟨j, List.mem_range.2 (List.getElem?_eq_some_iff.1 hj).1, by rw [nth_eq hj]; exact h⟩
theorem any_range {α : Type} [Dat α] (l : List α) (p : α → Bool) : l.any p = (List.range l.length).any fun i => p (nth l i) := by
  rw [← any_nthW, List.isSome_find?]

theorem containsFuncW_ok (l : List World) (hl : l.length ≤ 4294967296) (f : Nat) (bs : List (List T)) (p : World → Bool) (h : ∀ x, x ∈ l → CALL 0 f (.t x.e :: capsN bs.length) (boxesT bs) = some (B (p x), boxesT bs)) :
    CALL 0 N.slices_ContainsFunc_api_World_api_World [.t (.sl (l.map World.e)), .fn f (capsN bs.length)] (boxesT bs) = some (B (l.any p), boxesT bs) := by
  refine CALL_of K.t_slices_ContainsFunc_api_World_api_World rfl ?_
  have h := indexFuncW_ok l hl f bs p h
  have hc := opCa_clos2 CALL bs f _ 0 (.sl (l.map World.e)) h rfl
  have e := any_nthW (l := l) (p := p)
  cases hf : (List.range l.length).find? (fun j => p (nth l j)) with
  | some j => rw [hf] at e hc; simp (disch := omega) only [go_sem, K.slices_ContainsFunc_api_World_api_World, ↓reduceIte, ← e, hc]
  | none => rw [hf] at e hc; simp (disch := omega) only [go_sem, K.slices_ContainsFunc_api_World_api_World, ↓reduceIte, ← e, hc, Option.isSome_none]

def mayW (person t : Int) (p : Nat) (x : World) : Bool := decide (0 ≤ person ∧ person < x.whr.length) && (decide (p < (nth x.whr person.toNat).frm.length) && decide (nth (nth x.whr person.toNat).frm p ≤ t))

theorem poss11_ok (x : World) (hx : x.sz) (person t : Int) (p : Nat) (hp : p ≤ 1000000) :
    CALL 0 N.swaps_Possible_1_1 [.t x.e, .bp 0 0, .bp 1 0, .bp 2 0] [.box [I person], .box [I p], .box [I t]] = some (B (mayW person t p x), [.box [I person], .box [I p], .box [I t]]) := by
  refine CALL_of K.t_swaps_Possible_1_1 rfl ?_
  have li := in_ok person 0 (x.whr.length - 1)
  obtain ⟨h1, h2, h3⟩ := hx
  unfold mayW
  by_cases c : 0 ≤ person ∧ person < x.whr.length
  · obtain ⟨c1, c2⟩ := c
    have e1 : (x.whr.map Wh.e)[person.toNat]? = some (nth x.whr person.toNat).e := map_nth _ (by omega)
    have h4 := h3 _ (nth_mem (l := x.whr) (j := person.toNat) (by omega))
    have li' : decide (0 ≤ person ∧ person ≤ (x.whr.length : Int) - 1) = true := by simp; omega
    rw [li'] at li
    generalize nth x.whr person.toNat = w at *
    obtain ⟨tags, whr⟩ := x
    obtain ⟨time, frm⟩ := w
    simp only at *
    by_cases c3 : p < frm.length
    · simp (disch := omega) only [go_sem, K.swaps_Possible_1_1, ↓reduceIte, Nat.reduceAdd, Nat.reduceSub, li, e1, c1, c2, c3, and_self]
    · simp (disch := omega) only [go_sem, K.swaps_Possible_1_1, ↓reduceIte, Nat.reduceAdd, Nat.reduceSub, li, e1, c1, c2, c3, and_self]
  · have li' : decide (0 ≤ person ∧ person ≤ (x.whr.length : Int) - 1) = false := by simp; omega
    rw [li'] at li
    obtain ⟨tags, whr⟩ := x
    simp only at *
    simp (disch := omega) only [go_sem, K.swaps_Possible_1_1, ↓reduceIte, Nat.reduceAdd, Nat.reduceSub, li, c]

theorem poss1_ok (b : Bel) (hb : b.sz) (person t : Int) (p : Nat) (hp : p ≤ 1000000) :
    CALL 0 N.swaps_Possible_1 [I p, .bp 0 0, .bp 1 0, .bp 2 0] [.box [.t (.sl (b.worlds.map World.e))], .box [I person], .box [I t]] = some (B (b.worlds.any (mayW person t p)), [.box [.t (.sl (b.worlds.map World.e))], .box [I person], .box [I t]]) := by
  refine CALL_of K.t_swaps_Possible_1 rfl ?_
  have cf := containsFuncW_ok b.worlds (by have := hb.1; omega) N.swaps_Possible_1_1 [[tI person], [tI p], [tI t]] (mayW person t p) (fun x hx => poss11_ok x (hb.2 x hx) person t p hp)
  have cf : CALL 0 N.slices_ContainsFunc_api_World_api_World [.t (.sl (b.worlds.map World.e)), .fn N.swaps_Possible_1_1 [.bp 0 0, .bp 1 0, .bp 2 0]] [.box [I person], .box [I p], .box [I t]] = some (B (b.worlds.any (mayW person t p)), [.box [I person], .box [I p], .box [I t]]) := cf
  simp (disch := omega) only [go_sem, K.swaps_Possible_1, ↓reduceIte, Nat.reduceAdd, Nat.reduceSub, cf]

theorem mayW_mayB (b : Bel) (person t : Int) (p : Nat) : b.worlds.any (mayW person t p) = mayB b person t p := by
  unfold mayB
  rw [any_range]
  congr 1
  funext i
  unfold mayW
  congr 1
  rw [Bool.eq_iff_iff]
  simp only [Bool.and_eq_true, decide_eq_true_eq, possF, mem_whereF_nat]

theorem possible_ok (b : Bel) (hb : b.sz) (person t : Int) : CALL 0 N.swaps_Possible [.t b.e, I person, I t] [] = some (.t (tL (possB b person t)), []) := by
  refine CALL_of K.t_swaps_Possible rfl ?_
  have wh := where_ok 64 (by omega) N.swaps_Possible_1 [[.sl (b.worlds.map World.e)], [tI person], [tI t]] (mayB b person t) (fun p hp => by rw [← mayW_mayB]; exact poss1_ok b hb person t p (by omega))
  have wh : CALL 0 N.lists_Where [I 64, .fn N.swaps_Possible_1 [.bp 0 0, .bp 1 0, .bp 2 0]] [.box [.t (.sl (b.worlds.map World.e))], .box [I person], .box [I t]] = some (.t (tL (possB b person t)), [.box [.t (.sl (b.worlds.map World.e))], .box [I person], .box [I t]]) := wh
  obtain ⟨ws⟩ := b
  simp only at wh
  generalize possB ⟨ws⟩ person t = r at *
  simp (disch := omega) only [go_sem, K.swaps_Possible, ↓reduceIte, wh, Nat.reduceAdd, Nat.reduceSub]

def meetsB (a b : List Int) : Bool := a.any fun p => decide (p ∈ b)
theorem meets1_ok (b : List Int) (hb : b.length ≤ 4294967296) (x : Int) : CALL 0 N.firerules_meets_1 [I x, .bp 0 0] [.box [.t (tL b)]] = some (B (decide (x ∈ b)), [.box [.t (tL b)]]) := by
  refine CALL_of K.t_firerules_meets_1 rfl ?_
  have c := contains_ok b x hb
  simp (disch := omega) only [go_sem, K.firerules_meets_1, ↓reduceIte, c, Nat.reduceAdd, Nat.reduceSub]
theorem meets_ok (a b : List Int) (ha : a.length ≤ 4294967296) (hb : b.length ≤ 4294967296) : CALL 0 N.firerules_meets [.t (tL a), .t (tL b)] [] = some (B (meetsB a b), []) := by
  refine CALL_of K.t_firerules_meets rfl ?_
  have cf := containsFunc_ok a ha N.firerules_meets_1 [[tL b]] (fun p => decide (p ∈ b)) (fun x _ => meets1_ok b hb x)
  have cf : CALL 0 N.slices_ContainsFunc_int_int [.t (tL a), .fn N.firerules_meets_1 [.bp 0 0]] [.box [.t (tL b)]] = some (B (meetsB a b), [.box [.t (tL b)]]) := cf
  simp (disch := omega) only [go_sem, K.firerules_meets, ↓reduceIte, cf, Nat.reduceAdd, Nat.reduceSub]

theorem possB_len (b : Bel) (person t : Int) : (possB b person t).length ≤ 64 := whereF_len _ _

def nearF (x : Mch) (b : Bel) (t : Int) : List Int := if b.worlds.length = 0 then [] else whereF (nth b.worlds 0).whr.length fun i => meetsB (possB b i t) x.pl
theorem near1_ok (x : Mch) (hx : x.pl.length ≤ 1000000) (b : Bel) (hb : b.sz) (t : Int) (i : Nat) :
    CALL 0 N.firerules_near_1 [I i, .bp 0 0, .bp 1 0, .bp 2 0] [.box [.t (.sl (b.worlds.map World.e))], .box [I t], .box [I x.kind, I x.num, .t (tL x.pl)]] = some (B (meetsB (possB b i t) x.pl), [.box [.t (.sl (b.worlds.map World.e))], .box [I t], .box [I x.kind, I x.num, .t (tL x.pl)]]) := by
  refine CALL_of K.t_firerules_near_1 rfl ?_
  have ps := possible_ok b hb i t
  have pl := possB_len b i t
  have me := meets_ok (possB b i t) x.pl (by omega) (by omega)
  obtain ⟨ws⟩ := b
  obtain ⟨kind, num, l⟩ := x
  simp only at *
  generalize possB ⟨ws⟩ i t = r at *
  simp (disch := omega) only [go_sem, K.firerules_near_1, ↓reduceIte, ps, me, Nat.reduceAdd, Nat.reduceSub]
theorem near_ok (x : Mch) (hx : x.pl.length ≤ 1000000) (b : Bel) (hb : b.sz) (t : Int) : CALL 0 N.firerules_near [.t x.e, .t b.e, I t] [] = some (.t (tL (nearF x b t)), []) := by
  refine CALL_of K.t_firerules_near rfl ?_
  unfold nearF
  by_cases c : b.worlds.length = 0
  · obtain ⟨ws⟩ := b
    obtain ⟨kind, num, l⟩ := x
    simp only at *
    simp (disch := omega) only [go_sem, K.firerules_near, ↓reduceIte, c, Nat.reduceAdd, Nat.reduceSub]
    try rfl
  · have h0 := (hb.2 _ (nth_mem (l := b.worlds) (j := 0) (by omega))).2.1
    have wh := where_ok (nth b.worlds 0).whr.length h0 N.firerules_near_1 [[.sl (b.worlds.map World.e)], [tI t], [tI x.kind, tI x.num, tL x.pl]] (fun i => meetsB (possB b i t) x.pl) (fun i _ => near1_ok x hx b hb t i)
    have wh : CALL 0 N.lists_Where [I (nth b.worlds 0).whr.length, .fn N.firerules_near_1 [.bp 0 0, .bp 1 0, .bp 2 0]] [.box [.t (.sl (b.worlds.map World.e))], .box [I t], .box [I x.kind, I x.num, .t (tL x.pl)]] =
      some (.t (tL (whereF (nth b.worlds 0).whr.length fun i => meetsB (possB b i t) x.pl)), [.box [.t (.sl (b.worlds.map World.e))], .box [I t], .box [I x.kind, I x.num, .t (tL x.pl)]]) := wh
    have e1 : (b.worlds.map World.e)[0]? = some (nth b.worlds 0).e := map_nth _ (by omega)
    rw [if_neg c]
    generalize whereF (nth b.worlds 0).whr.length (fun i => meetsB (possB b i t) x.pl) = r at *
    generalize nth b.worlds 0 = w at *
    obtain ⟨tags, whr⟩ := w
    obtain ⟨ws⟩ := b
    obtain ⟨kind, num, l⟩ := x
    simp only at *
    simp (disch := omega) only [go_sem, K.firerules_near, ↓reduceIte, c, e1, wh, Nat.reduceAdd, Nat.reduceSub]

def cmdF (x : Mch) (s : Wh) (b : Bel) (t ahead : Int) : Int :=
  if meetsB (possF s t) x.pl = true then 2 else if meetsB (possF s (t + ahead)) x.pl = true then 1
  else if x.kind = 2 ∧ (possF s (t + ahead)).length ≠ 0 ∧ (nearF x b (t + ahead)).length ≠ 0 then 3 else 0

theorem possF_len (s : Wh) (t : Int) : (possF s t).length ≤ s.frm.length := whereF_len _ _

theorem cmd_ok (m : Mine) (x : Mch) (hx : x.pl.length ≤ 1000000) (s : Wh) (hs : s.frm.length ≤ 1000000) (b : Bel) (hb : b.sz) (t ahead : Int) (h1 : -9223372036854775808 ≤ t + ahead) (h2 : t + ahead ≤ 9223372036854775807) :
    CALL 0 N.firerules_Command [.t m.e, .t x.e, .t s.e, .t b.e, I t, I ahead] [] = some (I (cmdF x s b t ahead), []) := by
  refine CALL_of K.t_firerules_Command rfl ?_
  have f1 := filled_ok s t hs
  have f2 := filled_ok s (t + ahead) hs
  have l1 := possF_len s t
  have l2 := possF_len s (t + ahead)
  have m1 := meets_ok (possF s t) x.pl (by omega) (by omega)
  have m2 := meets_ok (possF s (t + ahead)) x.pl (by omega) (by omega)
  have nr := near_ok x hx b hb (t + ahead)
  unfold cmdF
  generalize nearF x b (t + ahead) = nf at *
  generalize possF s (t + ahead) = p2 at *
  generalize possF s t = p1 at *
  obtain ⟨ws⟩ := b
  obtain ⟨kind, num, l⟩ := x
  obtain ⟨time, frm⟩ := s
  simp only at *
  cases c1 : meetsB p1 l with
  | true =>
    rw [c1] at m1
    simp (disch := omega) only [go_sem, K.firerules_Command, ↓reduceIte, f1, f2, m1, Nat.reduceAdd, Nat.reduceSub]
  | false =>
    rw [c1] at m1
    cases c2 : meetsB p2 l with
    | true =>
      rw [c2] at m2
      simp (disch := omega) only [go_sem, K.firerules_Command, ↓reduceIte, f1, f2, m1, m2, Nat.reduceAdd, Nat.reduceSub, Bool.false_eq_true]
    | false =>
      rw [c2] at m2
      by_cases c3 : kind = 2
      · subst c3
        by_cases c4 : p2.length = 0
        · simp (disch := omega) only [go_sem, K.firerules_Command, ↓reduceIte, f1, f2, m1, m2, c4, Nat.reduceAdd, Nat.reduceSub, Bool.false_eq_true, ne_eq, not_true_eq_false, false_and, and_false]
        · by_cases c5 : nf.length = 0
          · simp (disch := omega) only [go_sem, K.firerules_Command, ↓reduceIte, f1, f2, m1, m2, c4, c5, nr, Nat.reduceAdd, Nat.reduceSub, Bool.false_eq_true, ne_eq, not_true_eq_false, false_and, and_false]
          · simp (disch := omega) only [go_sem, K.firerules_Command, ↓reduceIte, f1, f2, m1, m2, c4, c5, nr, Nat.reduceAdd, Nat.reduceSub, Bool.false_eq_true, ne_eq, not_true_eq_false, not_false_eq_true, and_self]
      · simp (disch := omega) only [go_sem, K.firerules_Command, ↓reduceIte, f1, f2, m1, m2, c3, Nat.reduceAdd, Nat.reduceSub, Bool.false_eq_true, ne_eq, not_true_eq_false, false_and, and_false]

def drawnF (x : Mch) (s : Wh) (b : Bel) (t ahead : Int) : List Int := if cmdF x s b t ahead = 2 ∨ cmdF x s b t ahead = 1 then nearF x b (t + ahead) else []
theorem drawn_ok (m : Mine) (x : Mch) (hx : x.pl.length ≤ 1000000) (s : Wh) (hs : s.frm.length ≤ 1000000) (b : Bel) (hb : b.sz) (t ahead : Int) (h1 : -9223372036854775808 ≤ t + ahead) (h2 : t + ahead ≤ 9223372036854775807) :
    CALL 0 N.firerules_Drawn [.t m.e, .t x.e, .t s.e, .t b.e, I t, I ahead] [] = some (.t (tL (drawnF x s b t ahead)), []) := by
  refine CALL_of K.t_firerules_Drawn rfl ?_
  have cm := cmd_ok m x hx s hs b hb t ahead h1 h2
  have nr := near_ok x hx b hb (t + ahead)
  unfold drawnF
  generalize nearF x b (t + ahead) = nf at *
  generalize cmdF x s b t ahead = c at *
  obtain ⟨ws⟩ := b
  obtain ⟨kind, num, l⟩ := x
  obtain ⟨time, frm⟩ := s
  simp only at *
  by_cases c2 : c = 2
  · subst c2
    simp (disch := omega) only [go_sem, K.firerules_Drawn, ↓reduceIte, cm, nr, Nat.reduceAdd, Nat.reduceSub, true_or]
  · by_cases c1 : c = 1
    · subst c1
      simp (disch := omega) only [go_sem, K.firerules_Drawn, ↓reduceIte, cm, nr, Nat.reduceAdd, Nat.reduceSub, or_true]
    · simp (disch := omega) only [go_sem, K.firerules_Drawn, ↓reduceIte, cm, c1, c2, Nat.reduceAdd, Nat.reduceSub, or_self]
      try rfl

end Go.Ev

/- SmokeRuns. -/
namespace Go.Ev
open Go
variable [Lib] [Has1] [Has2] [Has3] [Has4] [Has6] [Has7]

theorem travelF_len {n : Nat} {x : Road} (h : x.ok n) (f : Spn) (back : Bool) : travelF x f back ≤ x.len := by
  have l0 := h.l0; have a0 := h.a0
  unfold travelF
  simp only
  split
  · omega
  · cases back with
    | false =>
      simp only [Bool.false_eq_true, ↓reduceIte]
      by_cases c : 0 < f.high
      · rw [if_pos c]
        generalize (x.len * x.area * 1000).tdiv f.high = T at *
        split <;> omega
      · rw [if_neg c]
        split <;> omega
    | true =>
      simp only [↓reduceIte]
      by_cases c : 0 < -f.low
      · rw [if_pos c]
        generalize (x.len * x.area * 1000).tdiv (-f.low) = T at *
        split <;> omega
      · rw [if_neg c]
        split <;> omega

theorem has_filled (s : Wh) (t p : Int) (hs : s.frm.length ≤ 1000000) (h0 : 0 ≤ p) (h1 : p < s.frm.length) (h2 : nth s.frm p.toNat ≤ t) :
    CALL 0 N.ref23_Has [.t (tL (possF s t)), I p] [] = some (B true, []) := by
  have wl := whereF_len s.frm.length (fun k => decide (nth s.frm k ≤ t))
  have h := has_ok (possF s t) p (by unfold possF; omega)
  have m : p ∈ possF s t := by
    unfold possF
    rw [mem_whereF]
    exact ⟨p.toNat, by omega, by omega, by simpa using h2⟩
  rw [decide_eq_true m] at h
  exact h

abbrev srS (e : Dice) (m : Mine) (fl : List Spn) (s : Wh) (p now k : Int) : St :=
  ⟨[.und, .und, .bp 0 0, .bp 1 0, .t (tS fl), I p, .bp 2 0, I 0, I now, I k, .und, .und, .und, .und, .und, .und], [e.obj, .box (mineCells m), .box [I s.time, .t (tL s.frm)]]⟩
def srP (m : Mine) (n j : Nat) (st : St) : Prop := ∃ (e : Dice) (fl : List Spn) (s : Wh) (p now : Int), st = srS e m fl s p now ((n : Int) - j) ∧ e.light ∧ fl.length = m.roads.length ∧ (∀ x ∈ fl, x.ok) ∧
  SGood m fl s ∧ s.time ≤ now ∧ 0 ≤ p ∧ p < m.places.length ∧ nth s.frm p.toNat ≤ now ∧ 0 ≤ now ∧ now ≤ (j : Int) * 100050

theorem sr_round {m : Mine} (hm : m.ok) (m1 : 2 ≤ m.places.length) (m2 : 1 ≤ m.roads.length) {n j : Nat} (hn : n ≤ 24) (hj : j < n) {st : St} (hP : srP m n j st) :
    ∃ st', roundC true [0, 1, 10, 11, 12, 13, 14, 15] st.H.length (exS CALL K.law28_SmokeRuns_l1b st) = some st' ∧ srP m n (j + 1) st' := by
  obtain ⟨e, fl, s, p, now, rfl, el, f1, f2, sg, t1, p0, p1, pn, n0, n1⟩ := hP
  have np := hm.np
  have nr := hm.nr
  have hf := flB_of f1 f2
  have sl := sg.ln
  have fd := filled_ok s now (by omega)
  have hh := has_filled s now p (by omega) p0 (by omega) pn
  obtain ⟨r, e1, ro, l1, r0, r9⟩ := next_x el m.roads.length (by omega) (by omega)
  obtain ⟨back, e2, bo, l2⟩ := one_x l1 2 (by omega) (by omega)
  have rk : r.toNat < m.roads.length := by omega
  have ok := hm.rs _ (nth_mem rk)
  have src := Road.src_ok ok back
  have dst := Road.dst_ok ok back
  have tr := sTravel_ok hm r.toNat rk (nth fl r.toNat) (f2 _ (nth_mem (by omega))) back
  have tl := travelF_len ok (nth fl r.toNat) back
  have tb := travelF_bd ok (f := nth fl r.toNat) back
  have lx := ok.l1
  have rc : ((r.toNat : Nat) : Int) = r := by omega
  rw [rc] at tr
  have g : (m.roads.map Road.e)[r.toNat]? = some (nth m.roads r.toNat).e := map_nth _ rk
  have gf : (fl.map Spn.e)[r.toNat]? = some (nth fl r.toNat).e := map_nth _ (by omega)
  have cl := sg.cl r.toNat rk back
  have kk : ((n : Int) - j) - 1 = (n : Int) - ((j + 1 : Nat) : Int) := by omega
  have k0 : 0 < (n : Int) - j := by omega
  have k9 : (n : Int) - j ≤ 24 := by omega
  generalize hv : travelF (nth m.roads r.toNat) (nth fl r.toNat) back = need at *
  generalize hk : (n : Int) - j = kx at *
  have en : ∀ v : Int, 0 ≤ v → v ≤ 100050 → now + v ≤ ((j + 1 : Nat) : Int) * 100050 := fun v _ _ => by omega
  have nb : now ≤ 24 * 100050 := by omega
  by_cases c1 : (nth m.roads r.toNat).src back = p
  · by_cases c2 : 0 ≤ need
    · have cl := cl c2 (by rw [c1]; simp only [smMax]; omega)
      rw [c1] at cl
      obtain ⟨on, e3, oo, l3⟩ := one_x l2 3 (by omega) (by omega)
      cases on with
      | true =>
        obtain ⟨v, e4, vo, l4, v0, v9⟩ := next_x l3 (need + 1) (by omega) (by omega)
        obtain ⟨fl2, e5, fo, l5, g1, g2⟩ := flows_x l4 hm
        have hf2 := flB_of g1 g2
        have co := smokeChange_ok hm fl (by omega) hm fl2 (by omega) s (by omega) (now + v)
        obtain ⟨s', cs, sg', st', -, cr⟩ := changeS_facts hm hf hm hf2 rfl sg.valid (t := now + v) (by omega) (by omega)
        rw [cs] at co
        have cr := cr r.toNat rk back (by rw [c1]; omega) (by omega)
        refine ⟨srS e5 m fl2 s' ((nth m.roads r.toNat).dst back) (now + v) ((n : Int) - ((j + 1 : Nat) : Int)), ?_, e5, fl2, s', (nth m.roads r.toNat).dst back, now + v, rfl, l5, g1, g2, sg', by omega, by omega, by omega, cr, by omega, en v (by omega) (by omega)⟩
        rw [← kk]
        clear en cl cr cs sg sg' hv hk kk f2 g2
        generalize nth m.roads r.toNat = x at *
        obtain ⟨frm, to, len, area, walk, closed, rl, rh, ll, lh⟩ := x
        generalize nth fl r.toNat = fx at *
        obtain ⟨flo, fhi⟩ := fx
        obtain ⟨places, roads⟩ := m
        obtain ⟨time, fr⟩ := s
        obtain ⟨time2, fr2⟩ := s'
        cases back <;> simp only [Road.src, Road.dst, Bool.false_eq_true, ↓reduceIte, mineCells, srS] at *
        · subst c1
          simp (disch := omega) only [go_sem, K.law28_SmokeRuns_l1b, ↓reduceIte, fd, hh, ro, bo, tr, g, gf, oo, vo, fo, co, Nat.reduceAdd, Nat.reduceSub]
        · subst c1
          simp (disch := omega) only [go_sem, K.law28_SmokeRuns_l1b, ↓reduceIte, fd, hh, ro, bo, tr, g, gf, oo, vo, fo, co, Nat.reduceAdd, Nat.reduceSub]
      | false =>
        obtain ⟨v, e4, vo, l4, v0, v9⟩ := next_x l3 20 (by omega) (by omega)
        refine ⟨srS e4 m fl s ((nth m.roads r.toNat).dst back) (now + need + v) ((n : Int) - ((j + 1 : Nat) : Int)), ?_, e4, fl, s, (nth m.roads r.toNat).dst back, now + need + v, rfl, l4, f1, f2, sg, by omega, by omega, by omega, by omega, by omega, by have := en (need + v) (by omega) (by omega); omega⟩
        rw [← kk]
        clear en cl sg hv hk kk f2
        generalize nth m.roads r.toNat = x at *
        obtain ⟨frm, to, len, area, walk, closed, rl, rh, ll, lh⟩ := x
        generalize nth fl r.toNat = fx at *
        obtain ⟨flo, fhi⟩ := fx
        obtain ⟨places, roads⟩ := m
        obtain ⟨time, fr⟩ := s
        cases back <;> simp only [Road.src, Road.dst, Bool.false_eq_true, ↓reduceIte, mineCells, srS] at *
        · subst c1
          simp (disch := omega) only [go_sem, K.law28_SmokeRuns_l1b, ↓reduceIte, fd, hh, ro, bo, tr, g, gf, oo, vo, Nat.reduceAdd, Nat.reduceSub]
        · subst c1
          simp (disch := omega) only [go_sem, K.law28_SmokeRuns_l1b, ↓reduceIte, fd, hh, ro, bo, tr, g, gf, oo, vo, Nat.reduceAdd, Nat.reduceSub]
    · obtain ⟨v, e4, vo, l4, v0, v9⟩ := next_x l2 30 (by omega) (by omega)
      refine ⟨srS e4 m fl s p (now + v) ((n : Int) - ((j + 1 : Nat) : Int)), ?_, e4, fl, s, p, now + v, rfl, l4, f1, f2, sg, by omega, by omega, by omega, by omega, by omega, en v (by omega) (by omega)⟩
      rw [← kk]
      clear en cl sg hv hk kk f2
      generalize nth m.roads r.toNat = x at *
      obtain ⟨frm, to, len, area, walk, closed, rl, rh, ll, lh⟩ := x
      generalize nth fl r.toNat = fx at *
      obtain ⟨flo, fhi⟩ := fx
      obtain ⟨places, roads⟩ := m
      obtain ⟨time, fr⟩ := s
      cases back <;> simp only [Road.src, Road.dst, Bool.false_eq_true, ↓reduceIte, mineCells, srS] at *
      · subst c1
        simp (disch := omega) only [go_sem, K.law28_SmokeRuns_l1b, ↓reduceIte, fd, hh, ro, bo, tr, g, gf, vo, c2, Nat.reduceAdd, Nat.reduceSub]
      · subst c1
        simp (disch := omega) only [go_sem, K.law28_SmokeRuns_l1b, ↓reduceIte, fd, hh, ro, bo, tr, g, gf, vo, c2, Nat.reduceAdd, Nat.reduceSub]
  · obtain ⟨v, e4, vo, l4, v0, v9⟩ := next_x l2 30 (by omega) (by omega)
    refine ⟨srS e4 m fl s p (now + v) ((n : Int) - ((j + 1 : Nat) : Int)), ?_, e4, fl, s, p, now + v, rfl, l4, f1, f2, sg, by omega, by omega, by omega, by omega, by omega, en v (by omega) (by omega)⟩
    rw [← kk]
    clear en cl sg hv hk kk f2
    generalize nth m.roads r.toNat = x at *
    obtain ⟨frm, to, len, area, walk, closed, rl, rh, ll, lh⟩ := x
    generalize nth fl r.toNat = fx at *
    obtain ⟨flo, fhi⟩ := fx
    obtain ⟨places, roads⟩ := m
    obtain ⟨time, fr⟩ := s
    cases back <;> simp only [Road.src, Road.dst, Bool.false_eq_true, ↓reduceIte, mineCells, srS] at *
    · simp (disch := omega) only [go_sem, K.law28_SmokeRuns_l1b, ↓reduceIte, fd, hh, ro, bo, tr, g, gf, vo, c1, Nat.reduceAdd, Nat.reduceSub]
    · simp (disch := omega) only [go_sem, K.law28_SmokeRuns_l1b, ↓reduceIte, fd, hh, ro, bo, tr, g, gf, vo, c1, Nat.reduceAdd, Nat.reduceSub]

theorem SmokeRuns_law (aw : CALL 0 N.law28_awake [] [] = some (B true, [])) (li : List Int) : CALL 0 N.law28_SmokeRuns [.t (tL li)] [] = some (B true, []) := by
  refine CALL_of K.t_law28_SmokeRuns rfl ?_
  have lo := light_ok li
  by_cases c : li.length ≤ 400
  · simp only [c, decide_true] at lo
    have ro := roll_x li
    have d0 : (Dice.mk li 0).light := c
    generalize (Dice.mk li 0) = d at *
    obtain ⟨m, e1, mo, l1, hm, p1, p2, r1, r2⟩ := mine_x d0
    obtain ⟨fl, e2, fo, l2, f1, f2⟩ := flows_x l1 hm
    obtain ⟨p, e3, po, l3, p3, p4⟩ := next_x l2 m.places.length (by omega) (by omega)
    have hf := flB_of f1 f2
    have ht : inT 0 := ⟨by omega, by omega⟩
    have so := smokeStart_ok hm (by omega) fl (by omega) [p] (by simp) 0
    obtain ⟨s, ss, sg, st, sp⟩ := startS_facts hm hf (setB_1 p3 p4) ht
    rw [ss] at so
    simp only [tL, List.map_cons, List.map_nil] at so
    have sp := sp p (by simp)
    obtain ⟨k, e4, ko, l4, k0, k9⟩ := next_x l3 25 (by omega) (by omega)
    have lp : ∀ z0 z1 z10 z11 z12 z13 z14 z15 : D, ∃ q, exS CALL K.law28_SmokeRuns_l1 ⟨[z0, z1, .bp 0 0, .bp 1 0, .t (tS fl), I p, .bp 2 0, I 0, I 0, I k, z10, z11, z12, z13, z14, z15], [e4.obj, .box (mineCells m), .box [I s.time, .t (tL s.frm)]]⟩ = some q ∧
        ∃ (e : Dice) (fl : List Spn) (s : Wh) (p now : Int), q = (.exit 0, srS e m fl s p now 0) ∧ s.frm.length = m.places.length ∧ 0 ≤ p ∧ p < m.places.length ∧ nth s.frm p.toNat ≤ now := by
      intro z0 z1 z10 z11 z12 z13 z14 z15
      refine loop_x (srP m k.toNat) k.toNat _ ?_ ?_ ?_
      · refine ⟨e4, fl, s, p, 0, ?_, l4, f1, f2, sg, by omega, p3, p4, sp, by omega, by omega⟩
        rw [show ((k.toNat : Nat) : Int) - ((0 : Nat) : Int) = k by omega]
        rfl
      · intro j st hj hP
        exact .inl (sr_round hm p1 r1 (by omega) hj hP)
      · rintro st ⟨e, fl, s, p, now, rfl, el, f1, f2, sg, t1, p0, p1, pn, n0, n1⟩
        rw [Int.sub_self]
        refine ⟨_, ?_, ?_, e, fl, s, p, now, rfl, sg.ln, p0, p1, pn⟩
        · simp (disch := omega) only [go_sem, K.law28_SmokeRuns_l1b, ↓reduceIte, Nat.reduceAdd, Nat.reduceSub]
        · simp
    clear sg ss sp
    obtain ⟨places, roads⟩ := m
    obtain ⟨time, frm⟩ := s
    simp only [mineCells, srS] at *
    obtain ⟨q, hq, e, fl', s', p', now, rfl, h1, h2, h3, h4⟩ := lp (.t (tL li)) (B false) .und .und .und .und .und .und
    have np := hm.np
    have fd := filled_ok s' now (by omega)
    have hh := has_filled s' now p' (by omega) h2 (by omega) h4
    clear lp
    obtain ⟨time', frm'⟩ := s'
    simp only at *
    simp (disch := omega) only [go_sem, K.law28_SmokeRuns, ↓reduceIte, lo, ro, mo, fo, po, so, ko, hq, fd, hh, aw, Nat.reduceAdd, Nat.reduceSub]
  · simp only [c, decide_false] at lo
    simp (disch := omega) only [go_sem, K.law28_SmokeRuns, ↓reduceIte, lo, aw, Nat.reduceAdd, Nat.reduceSub]
end Go.Ev

