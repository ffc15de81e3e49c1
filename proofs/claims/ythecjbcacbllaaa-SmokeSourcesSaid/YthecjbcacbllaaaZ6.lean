/- Parts of the proof: see the text that holds the theorem. -/
import Derived.Test.YthecjbcacbllaaaZ5
set_option linter.all false
/- The program: changes of smoke. -/
namespace Go.Ev
open Go
variable [Lib] [Has1] [Has2] [Has3] [Has4] [Has6] [Has7]

theorem sValid1_ok (x t : Int) (fr : T) : CALL 0 N.smoke_Valid_1 [I x, .bp 0 0] [.box [I t, .t fr]] = some (B (!decide (plS t x)), [.box [I t, .t fr]]) := by
  refine CALL_of K.t_smoke_Valid_1 rfl ?_
  have i := in_ok x t 2147483648
  unfold plS
  by_cases c : x = 1099511627776
  · subst c
    simp (disch := omega) only [go_sem, K.smoke_Valid_1, ↓reduceIte, Nat.reduceAdd, Nat.reduceSub]
  · by_cases c2 : t ≤ x ∧ x ≤ 2147483648
    · simp only [c2, and_self, decide_true] at i
      simp (disch := omega) only [go_sem, K.smoke_Valid_1, ↓reduceIte, i, c, c2, false_or, and_self, decide_true, Nat.reduceAdd, Nat.reduceSub]
    · simp only [c2, decide_false] at i
      simp (disch := omega) only [go_sem, K.smoke_Valid_1, ↓reduceIte, i, c, c2, false_or, decide_false, Nat.reduceAdd, Nat.reduceSub]
theorem sValid_ok {m : Mine} (h : m.ok) (s : Wh) (hl : s.frm.length ≤ 1000000) : CALL 0 N.smoke_Valid [.t m.e, .t s.e] [] = some (B (validS m s), []) := by
  refine CALL_of K.t_smoke_Valid rfl ?_
  have v := planValid_ok h
  have np := h.np
  have i := in_ok s.time 0 2147483648
  have cf := containsFunc_ok s.frm (by omega) N.smoke_Valid_1 [[tI s.time, tL s.frm]] (fun x => !decide (plS s.time x)) (fun x _ => sValid1_ok x s.time (tL s.frm))
  have e : validS m s = (!(s.frm.any fun x => !decide (plS s.time x)) && decide (s.frm.length = m.places.length ∧ inT s.time)) := by
    unfold validS
    rw [all_rng, any_rng s.frm (fun x => !decide (plS s.time x))]
  rw [e]
  generalize (s.frm.any fun x => !decide (plS s.time x)) = r at *
  obtain ⟨places, roads⟩ := m
  obtain ⟨time, frm⟩ := s
  simp only at *
  unfold inT
  clear e
  have cf : CALL 0 N.slices_ContainsFunc_int_int [.t (tL frm), .fn N.smoke_Valid_1 [.bp 0 0]] [.box [I time, .t (tL frm)]] = some (B r, [.box [I time, .t (tL frm)]]) := cf
  by_cases c1 : frm.length = places.length
  · by_cases c2 : 0 ≤ time ∧ time ≤ 2147483648
    · simp only [c2, and_self, decide_true] at i
      cases r <;> simp (disch := omega) only [go_sem, K.smoke_Valid, ↓reduceIte, v, i, cf, c1, c2, and_self, decide_true, Nat.reduceAdd, Nat.reduceSub]
    · simp only [c2, decide_false] at i
      cases r <;> simp (disch := omega) only [go_sem, K.smoke_Valid, ↓reduceIte, v, i, cf, c1, c2, and_false, decide_false, Nat.reduceAdd, Nat.reduceSub]
  · cases r <;> simp (disch := omega) only [go_sem, K.smoke_Valid, ↓reduceIte, v, c1, false_and, decide_false, Nat.reduceAdd, Nat.reduceSub]

def mxL (t : Int) (l : List Int) : List Int := l.map fun x => max x t
def mxJ (t : Int) (l : List Int) : Nat → List Int
  | 0 => List.replicate l.length 0
  | j + 1 => (mxJ t l j).set j (max (nth l j) t)
theorem mxJ_len (t : Int) (l : List Int) : ∀ j, (mxJ t l j).length = l.length
  | 0 => List.length_replicate
  | j + 1 => by simp only [mxJ, List.length_set, mxJ_len t l j]
theorem mxL_nth (t : Int) {l : List Int} {i : Nat} (hi : i < l.length) : nth (mxL t l) i = max (nth l i) t := nth_eq (by rw [mxL, map_nth _ hi])
theorem mxJ_nth (t : Int) (l : List Int) : ∀ j, j ≤ l.length → ∀ i, i < j → nth (mxJ t l j) i = max (nth l i) t
  | 0, _, i, hi => by omega
  | j + 1, hj, i, hi => by
    rw [mxJ, set_nth2 _ _ (by rw [mxJ_len]; omega)]
    by_cases e : i = j
    · rw [if_pos e, e]
    · rw [if_neg e, mxJ_nth t l j (by omega) i (by omega)]
theorem mxJ_all (t : Int) (l : List Int) : mxJ t l l.length = mxL t l := by
  apply ext_nth2 (by rw [mxJ_len]; simp [mxL])
  intro j hj
  rw [mxJ_len] at hj
  rw [mxJ_nth t l _ (Nat.le_refl _) j hj, mxL_nth t hj]
theorem maxN_nth (t : Int) (l : List Int) : ∀ j, j ≤ l.length → ∀ i, nth (maxN t l j) i = if i < j then max (nth l i) t else nth l i
  | 0, _, i => by rw [maxN, if_neg (by omega)]
  | j + 1, hj, i => by
    have ih := maxN_nth t l j (by omega)
    rw [maxN, set_nth2 _ _ (by rw [maxN_len]; omega), ih j, if_neg (by omega : ¬ j < j), ih i]
    by_cases e : i = j
    · rw [if_pos e, if_pos (by omega), e]
    · rw [if_neg e]
      by_cases c : i < j
      · rw [if_pos c, if_pos (by omega)]
      · rw [if_neg c, if_neg (by omega)]
theorem maxN_all (t : Int) (l : List Int) : maxN t l l.length = mxL t l := by
  apply ext_nth2 (by rw [maxN_len]; simp [mxL])
  intro j hj
  rw [maxN_len] at hj
  rw [maxN_nth t l _ (Nat.le_refl _), if_pos hj, mxL_nth t hj]

def cgHalf (m : Mine) (fl : List Spn) (frm : List Int) (t : Int) (k : Nat) (back : Bool) (l : List Int) : List Int :=
  if nth frm ((nth m.roads k).src back).toNat ≤ t ∧ 0 ≤ travelF (nth m.roads k) (nth fl k) back then l.set ((nth m.roads k).dst back).toNat t else l
def cgN (m : Mine) (fl : List Spn) (frm : List Int) (t : Int) : Nat → List Int
  | 0 => mxL t frm
  | k + 1 => cgHalf m fl frm t k true (cgHalf m fl frm t k false (cgN m fl frm t k))
theorem cgHalf_len (m : Mine) (fl : List Spn) (frm : List Int) (t : Int) (k : Nat) (back : Bool) (l : List Int) : (cgHalf m fl frm t k back l).length = l.length := by
  unfold cgHalf; split <;> simp
theorem cgN_len (m : Mine) (fl : List Spn) (frm : List Int) (t : Int) : ∀ k, (cgN m fl frm t k).length = frm.length
  | 0 => by simp [cgN, mxL]
  | k + 1 => by simp only [cgN, cgHalf_len, cgN_len m fl frm t k]
theorem cgHalf_mx (m : Mine) (fl : List Spn) (frm : List Int) (t : Int) (k : Nat) (back : Bool) (l : List Int) : cgHalf m fl frm t k back (mxL t l) = mxL t (chHalf m fl frm t k back l) := by
  unfold cgHalf chHalf
  split
  · unfold mxL; rw [List.map_set]; congr 1; omega
  · rfl
theorem cgN_chN (m : Mine) (fl : List Spn) (frm : List Int) (t : Int) : ∀ k, cgN m fl frm t k = mxL t (chN m fl frm t k)
  | 0 => rfl
  | k + 1 => by simp only [cgN, chN, chStep, cgN_chN m fl frm t k, cgHalf_mx]

/-- One road of a change. -/
theorem cg_step {m : Mine} (h : m.ok) (old : List Spn) (fl1 : old.length = m.roads.length) (fl2 : ∀ j, j < old.length → (nth old j).ok) (time t : Int) (ht : inT t) (frm l : List Int) (hl0 : frm.length = m.places.length) (hl : l.length = m.places.length)
    (k : Nat) (hk : k < m.roads.length) (H3 : List D) (r : D) (hr : Go.Ev.old 5 8 r = true) (h3 : allOld 5 8 H3 = true) :
    roundC true [0, 2, 4, 10, 12, 13, 14, 15, 16, 17, 18] 5 (exS CALL K.smoke_Change_l2b ⟨[.und, .t (tS old), .und, r, .und, I t, .bp 0 0, .bp 1 0, .bp 2 0, .bp 3 0, .und, .ref 4 0 l.length, .und, .und, .und, .und, .und, .und, .und, .t (.sl (m.roads.map Road.e)), I m.roads.length, I k], [.box (mineCells m), .box H3, .box [I time, .t (tL frm)], .box [I 0, .nil], .arr 1 false 0 ((l.map (T.int .i64)).map .t)]⟩) =
      some ⟨[.und, .t (tS old), .und, r, .und, I t, .bp 0 0, .bp 1 0, .bp 2 0, .bp 3 0, .und, .ref 4 0 l.length, .und, .und, .und, .und, .und, .und, .und, .t (.sl (m.roads.map Road.e)), I m.roads.length, I (k + 1)], [.box (mineCells m), .box H3, .box [I time, .t (tL frm)], .box [I 0, .nil], .arr 1 false 0 (((cgHalf m old frm t k true (cgHalf m old frm t k false l)).map (T.int .i64)).map .t)]⟩ := by
  have np := h.np
  have nr := h.nr
  have t1 := sTravel_ok h k hk (nth old k) (fl2 k (by omega)) false
  have t2 := sTravel_ok h k hk (nth old k) (fl2 k (by omega)) true
  have r1 := Road.src_ok (h.rs _ (nth_mem hk)) false
  have r2 := Road.dst_ok (h.rs _ (nth_mem hk)) false
  have g : (m.roads.map Road.e)[k]? = some (nth m.roads k).e := map_nth _ hk
  simp only [Road.src, Road.dst, Bool.false_eq_true, ↓reduceIte] at r1 r2
  obtain ⟨f0, f1⟩ := r1
  obtain ⟨t0, t1'⟩ := r2
  unfold inT at ht
  simp only [cgHalf, Road.src, Road.dst, Bool.false_eq_true, ↓reduceIte]
  generalize hw1 : travelF (nth m.roads k) (nth old k) false = v1 at *
  generalize hw2 : travelF (nth m.roads k) (nth old k) true = v2 at *
  generalize hx : nth m.roads k = x at *
  obtain ⟨a, b, len, area, walk, closed, rl, rh, ll, lh⟩ := x
  simp only at f0 f1 t0 t1' ⊢
  clear hw1 hw2 fl2 hx
  obtain ⟨places, roads⟩ := m
  simp only [mineCells] at *
  have ln : (l.set b.toNat t).length = l.length := List.length_set ..
  by_cases c1 : nth frm a.toNat ≤ t <;> by_cases c2 : 0 ≤ v1 <;> by_cases c3 : nth frm b.toNat ≤ t <;> by_cases c4 : 0 ≤ v2 <;>
    simp (disch := omega) only [go_sem, K.smoke_Change_l2b, ↓reduceIte, g, t1, t2, c1, c2, c3, c4, and_self, and_false, false_and, hr, h3, Nat.reduceAdd, Nat.reduceSub]
end Go.Ev

/- The program: changes of smoke, and where it is. -/
namespace Go.Ev
open Go
variable [Lib] [Has1] [Has2] [Has3] [Has4] [Has6] [Has7]

theorem mxL_tm {t : Int} (ht : inT t) {l : List Int} (h : bnd l) (h2 : ∀ x ∈ l, x ≤ smMax ∨ x = 1099511627776) : tmOk (mxL t l) := by
  intro x hx
  simp only [mxL, List.mem_map] at hx
  obtain ⟨y, hy, rfl⟩ := hx
  have := h y hy
  have := h2 y hy
  unfold inT at ht
  simp only [smMax] at *
  omega
theorem chHalf_mem {m : Mine} {fl : List Spn} {frm : List Int} {t : Int} {k : Nat} {back : Bool} {l : List Int} (hi : ((nth m.roads k).dst back).toNat < l.length) (P : Int → Prop) (hp : ∀ x ∈ l, P x) (ht : P t) : ∀ x ∈ chHalf m fl frm t k back l, P x := by
  unfold chHalf
  split
  · intro x hx
    rcases List.mem_or_eq_of_mem_set hx with h | h
    · exact hp x h
    · subst h
      have := hp _ (nth_mem hi)
      rcases Int.le_total (nth l ((nth m.roads k).dst back).toNat) t with c | c
      · rw [Int.min_eq_left c]; exact this
      · rw [Int.min_eq_right c]; exact ht
  · exact hp
theorem chN_mem {m : Mine} (h : m.ok) {fl : List Spn} {frm : List Int} {t : Int} (hl : frm.length = m.places.length) (P : Int → Prop) (hp : ∀ x ∈ frm, P x) (ht : P t) : ∀ k, k ≤ m.roads.length → ∀ x ∈ chN m fl frm t k, P x
  | 0, _ => hp
  | k + 1, hk => by
    have r1 := Road.dst_ok (h.rs _ (nth_mem (l := m.roads) (j := k) (by omega))) false
    have r2 := Road.dst_ok (h.rs _ (nth_mem (l := m.roads) (j := k) (by omega))) true
    have ih := chN_mem h (fl := fl) hl P hp ht k (by omega)
    simp only [chN, chStep]
    exact chHalf_mem (by rw [chHalf_len, chN_len]; omega) P (chHalf_mem (by rw [chN_len]; omega) P ih ht) ht

theorem smokeChange_ok {m : Mine} (h : m.ok) (old : List Spn) (ho : old.length ≤ 1000000) {next : Mine} (hn : next.ok) (fl : List Spn) (hfl : fl.length ≤ 1000000) (s : Wh) (hs : s.frm.length ≤ 1000000) (t : Int) :
    CALL 0 N.smoke_Change [.t m.e, .t (tS old), .t next.e, .t (tS fl), .t s.e, I t] [] = some (.tup [.t (changeS m old next fl s t).1.e, I (changeS m old next fl s t).2], []) := by
  refine CALL_of K.t_smoke_Change rfl ?_
  have v := sValid_ok h s hs
  have nr := h.nr
  have nr2 := hn.nr
  have np := h.np
  have np2 := hn.np
  have f1 := given_ok h old ho
  have f2 := given_ok hn fl hfl
  unfold changeS
  by_cases hc : validS m s = false ∨ flowsB m old = false ∨ flowsB next fl = false ∨ next.places.length ≠ m.places.length
  · rw [if_pos hc]
    obtain ⟨places, roads⟩ := m
    obtain ⟨places2, roads2⟩ := next
    obtain ⟨time, frm⟩ := s
    simp only at *
    cases hv : validS ⟨places, roads⟩ ⟨time, frm⟩ <;> rw [hv] at v hc <;>
    cases h1 : flowsB ⟨places, roads⟩ old <;> rw [h1] at f1 hc <;>
    cases h2 : flowsB ⟨places2, roads2⟩ fl <;> rw [h2] at f2 hc <;>
    by_cases h3 : places2.length = places.length <;> simp only [h3, Bool.true_eq_false, false_or, ne_eq, not_true_eq_false] at hc <;>
    simp (disch := omega) only [go_sem, K.smoke_Change, ↓reduceIte, v, f1, f2, h3, Nat.reduceAdd, Nat.reduceSub]
  · rw [if_neg hc]
    simp only [not_or, Bool.not_eq_false, ne_eq, Classical.not_not] at hc
    obtain ⟨hv, h1, h2, h3⟩ := hc
    rw [hv] at v
    rw [h1] at f1
    rw [h2] at f2
    obtain ⟨s1, s2, s3⟩ := validS_spec hv
    obtain ⟨o1, o2⟩ := flowsB_spec h1
    by_cases c1 : t < s.time
    · rw [if_pos (.inl c1)]
      obtain ⟨places, roads⟩ := m
      obtain ⟨places2, roads2⟩ := next
      obtain ⟨time, frm⟩ := s
      simp only at *
      simp (disch := omega) only [go_sem, K.smoke_Change, ↓reduceIte, v, f1, f2, h3, c1, Nat.reduceAdd, Nat.reduceSub]
    · by_cases c2 : 2147483648 < t
      · rw [if_pos (.inr c2)]
        obtain ⟨places, roads⟩ := m
        obtain ⟨places2, roads2⟩ := next
        obtain ⟨time, frm⟩ := s
        simp only at *
        simp (disch := omega) only [go_sem, K.smoke_Change, ↓reduceIte, v, f1, f2, h3, c1, c2, Nat.reduceAdd, Nat.reduceSub]
      · rw [if_neg (by omega)]
        have ht : inT t := by unfold inT at s2 ⊢; omega
        obtain ⟨time, frm⟩ := s
        simp only at s1 s2 s3 v c1 hs ⊢
        have hb : bnd frm := fun x hx => by
          have := s3 x hx
          unfold plS at this; unfold inT at s2; omega
        have jl := mxJ_len t frm
        have ja := mxJ_all t frm
        have l1 : ∀ z0 z2 z4 z10 z12 z13 z14 z15 z19 z20 z21 : D, exS CALL K.smoke_Change_l1 ⟨[z0, .t (tS old), z2, .t (tS fl), z4, I t, .bp 0 0, .bp 1 0, .bp 2 0, .bp 3 0, z10, .ref 4 0 frm.length, z12, z13, z14, z15, .t (tL frm), I frm.length, I 0, z19, z20, z21], [.box (mineCells m), .box (mineCells next), .box [I time, .t (tL frm)], .box [I 0, .nil], .arr 1 false 0 (((mxJ t frm 0).map (T.int .i64)).map .t)]⟩ =
            some (.exit 0, ⟨[.und, .t (tS old), .und, .t (tS fl), .und, I t, .bp 0 0, .bp 1 0, .bp 2 0, .bp 3 0, .und, .ref 4 0 frm.length, .und, .und, .und, .und, .t (tL frm), I frm.length, I frm.length, .und, .und, .und], [.box (mineCells m), .box (mineCells next), .box [I time, .t (tL frm)], .box [I 0, .nil], .arr 1 false 0 (((mxJ t frm frm.length).map (T.int .i64)).map .t)]⟩) := by
          intro z0 z2 z4 z10 z12 z13 z14 z15 z19 z20 z21
          refine loop_up (fun j => ⟨[.und, .t (tS old), .und, .t (tS fl), .und, I t, .bp 0 0, .bp 1 0, .bp 2 0, .bp 3 0, .und, .ref 4 0 frm.length, .und, .und, .und, .und, .t (tL frm), I frm.length, I j, .und, .und, .und], [.box (mineCells m), .box (mineCells next), .box [I time, .t (tL frm)], .box [I 0, .nil], .arr 1 false 0 (((mxJ t frm j).map (T.int .i64)).map .t)]⟩) frm.length rfl ?_ ?_ (by simp)
          · intro j hj
            have lj := jl j
            simp (disch := omega) only [go_sem, K.smoke_Change_l1b, ↓reduceIte, mxJ, Nat.reduceAdd, Nat.reduceSub]
          · simp (disch := omega) only [go_sem, K.smoke_Change_l1b, ↓reduceIte, Nat.reduceAdd, Nat.reduceSub]
        rw [ja] at l1
        simp only [mxJ] at l1
        have cl := cgN_len m old frm t
        have l2 : ∀ z0 z2 z4 z10 z12 z13 z14 z15 z16 z17 z18 : D, exS CALL K.smoke_Change_l2 ⟨[z0, .t (tS old), z2, .t (tS fl), z4, I t, .bp 0 0, .bp 1 0, .bp 2 0, .bp 3 0, z10, .ref 4 0 frm.length, z12, z13, z14, z15, z16, z17, z18, .t (.sl (m.roads.map Road.e)), I m.roads.length, I 0], [.box (mineCells m), .box (mineCells next), .box [I time, .t (tL frm)], .box [I 0, .nil], .arr 1 false 0 (((cgN m old frm t 0).map (T.int .i64)).map .t)]⟩ =
            some (.exit 2, ⟨[.und, .t (tS old), .und, .t (tS fl), .und, I t, .bp 0 0, .bp 1 0, .bp 2 0, .bp 3 0, .und, .ref 4 0 frm.length, .und, .und, .und, .und, .und, .und, .und, .t (.sl (m.roads.map Road.e)), I m.roads.length, I m.roads.length], [.box (mineCells m), .box (mineCells next), .box [I time, .t (tL frm)], .box [I 0, .nil], .arr 1 false 0 (((cgN m old frm t m.roads.length).map (T.int .i64)).map .t)]⟩) := by
          intro z0 z2 z4 z10 z12 z13 z14 z15 z16 z17 z18
          refine loop_up (fun j => ⟨[.und, .t (tS old), .und, .t (tS fl), .und, I t, .bp 0 0, .bp 1 0, .bp 2 0, .bp 3 0, .und, .ref 4 0 frm.length, .und, .und, .und, .und, .und, .und, .und, .t (.sl (m.roads.map Road.e)), I m.roads.length, I j], [.box (mineCells m), .box (mineCells next), .box [I time, .t (tL frm)], .box [I 0, .nil], .arr 1 false 0 (((cgN m old frm t j).map (T.int .i64)).map .t)]⟩) m.roads.length rfl ?_ ?_ (by simp)
          · intro j hj
            have st := cg_step h old o1 o2 time t ht frm (cgN m old frm t j) s1 (by rw [cgN_len, s1]) j hj (mineCells next) (.t (tS fl)) rfl rfl
            rw [cgN_len] at st
            exact st
          · simp (disch := omega) only [go_sem, K.smoke_Change_l2b, ↓reduceIte, Nat.reduceAdd, Nat.reduceSub]
        have cc := cgN_chN m old frm t m.roads.length
        have c3 := chN_len m old frm t m.roads.length
        have ca := maxN_all t (chN m old frm t m.roads.length)
        have cb := chN_bnd h old s1 hb ht m.roads.length (Nat.le_refl _)
        have tm := mxL_tm ht cb (chN_mem h s1 (fun x => x ≤ smMax ∨ x = 1099511627776) (fun x hx => by
          have := s3 x hx
          unfold plS at this; simp only [smMax]; omega) (by unfold inT at ht; simp only [smMax]; omega) _ (Nat.le_refl _))
        rw [c3, s1] at ca
        have lm : (mxL t (chN m old frm t m.roads.length)).length = next.places.length := by simp only [mxL, List.length_map]; omega
        rw [cc] at l2
        simp only [cgN] at l2
        rw [ca]
        generalize mxL t (chN m old frm t m.roads.length) = is at *
        have sp := (sSpread_ok hn fl h2 is lm tm.bnd).1
        have eq := spF_closeS hn (fl := fl) lm tm
        have lc := closeS_len2 hn (fl := fl) lm tm.bnd
        rw [eq] at sp
        have lf : is.length = frm.length := by omega
        have lf2 : (closeS next fl is).length = frm.length := by omega
        have mx0 : (mxL t frm).length = frm.length := by simp [mxL]
        generalize closeS next fl is = cs at *
        generalize hmx : mxL t frm = mx at *
        rw [lf] at sp
        clear cb tm ca c3 cc cl ja jl eq hb s3 o2 hmx lm lc
        have rp := repl_tt frm.length 0
        obtain ⟨places, roads⟩ := m
        obtain ⟨places2, roads2⟩ := next
        simp only [mineCells, smArg] at *
        simp (disch := omega) only [go_sem, K.smoke_Change, ↓reduceIte, v, f1, f2, h3, c1, c2, l1, l2, rp, sp, lf, lf2, Nat.reduceAdd, Nat.reduceSub]
end Go.Ev

/- Made inputs: mines. -/
namespace Go.Ev
open Go
variable [Lib] [Has1] [Has2]

@[go_sem] theorem appOK_place (l : List Place) : appOK 2 (l.map Place.e) = true := by cases l <;> rfl
@[go_sem] theorem appOK_road (l : List Road) : appOK 10 (l.map Road.e) = true := by cases l <;> rfl

@[go_sem] theorem ldBox_dice (H : Heap) (d : Dice) : ldBox H 0 1 false (some d.obj) = some (.t (tL d.L), H) := by simp only [Dice.obj, go_sem]

def Dice.placesN (d : Dice) : Nat → List Place × Dice
  | 0 => ([], d)
  | k + 1 => if k = 0 then ((d.placesN k).1 ++ [⟨-10 * ((d.placesN k).2.next 4).1, true⟩], ((d.placesN k).2.next 4).2)
    else ((d.placesN k).1 ++ [⟨-10 * ((d.placesN k).2.next 4).1, (((d.placesN k).2.next 4).2.one 6).1⟩], (((d.placesN k).2.next 4).2.one 6).2)

def Dice.road1 (d : Dice) (i : Int) : Road × Dice :=
  (⟨i - 1 - (d.next (min i 2)).1, i, 1 + ((d.next (min i 2)).2.of [11, 59, 119, 4]).1, 1 + (((d.next (min i 2)).2.of [11, 59, 119, 4]).2.of [9, 3, 19]).1, true, false, 1, 1, 0, 0⟩,
    (((d.next (min i 2)).2.of [11, 59, 119, 4]).2.of [9, 3, 19]).2)
def Dice.roadsN (d : Dice) : Nat → List Road × Dice
  | 0 => ([], d)
  | k + 1 => ((d.roadsN k).1 ++ [((d.roadsN k).2.road1 (k + 1)).1], ((d.roadsN k).2.road1 (k + 1)).2)

def Dice.road2 (d : Dice) (n : Int) : Road × Dice :=
  let a := d.next n
  let b := a.2.next n
  let l := b.2.of [11, 59, 199]
  let r := l.2.of [9, 3]
  let w := r.2.next 5
  let c := w.2.one 6
  (⟨a.1, b.1, 1 + l.1, 1 + r.1, decide (0 < w.1), c.1, 1, 1, 0, 0⟩, c.2)
def Dice.more (n : Int) (l : List Road) (d : Dice) : Nat → List Road × Dice
  | 0 => (l, d)
  | k + 1 => if l.length < 10 then Dice.more n (if (d.road2 n).1.frm = (d.road2 n).1.to then l else l ++ [(d.road2 n).1]) (d.road2 n).2 k else (l, d)

def Dice.mineN (d : Dice) : Nat := if d.L.length = 0 then 4 else (2 + (d.next 6).1).toNat
def Dice.mineP (d : Dice) : List Place × Dice := (d.next 6).2.placesN d.mineN
def Dice.mineR (d : Dice) : List Road × Dice := d.mineP.2.roadsN (d.mineN - 1)
def Dice.mineX (d : Dice) : List Road × Dice := Dice.more d.mineN d.mineR.1 (d.mineR.2.next 4).2 (d.mineR.2.next 4).1.toNat
def Dice.mine (d : Dice) : Mine × Dice := (⟨d.mineP.1, d.mineX.1⟩, d.mineX.2)

theorem Dice.placesN_light {d : Dice} (h : d.light) : ∀ n, (d.placesN n).2.light
  | 0 => h
  | n + 1 => by
    unfold Dice.placesN
    split
    · exact Dice.next_light (Dice.placesN_light h n) 4
    · exact Dice.one_light (Dice.next_light (Dice.placesN_light h n) 4) 6
theorem Dice.placesN_len (d : Dice) : ∀ n, (d.placesN n).1.length = n
  | 0 => rfl
  | n + 1 => by
    unfold Dice.placesN
    split <;> simp [d.placesN_len n]
theorem Dice.road1_light {d : Dice} (h : d.light) (i : Int) : (d.road1 i).2.light := Dice.of_light (Dice.of_light (Dice.next_light h _) _) _
theorem Dice.roadsN_light {d : Dice} (h : d.light) : ∀ n, (d.roadsN n).2.light
  | 0 => h
  | n + 1 => Dice.road1_light (Dice.roadsN_light h n) _
theorem Dice.roadsN_len (d : Dice) : ∀ n, (d.roadsN n).1.length = n
  | 0 => rfl
  | n + 1 => by simp [Dice.roadsN, d.roadsN_len n]
theorem Dice.road2_light {d : Dice} (h : d.light) (n : Int) : (d.road2 n).2.light := by
  unfold Dice.road2; simp only
  exact Dice.one_light (Dice.next_light (Dice.of_light (Dice.of_light (Dice.next_light (Dice.next_light h _) _) _) _) _) _
theorem Dice.more_light (n : Int) : ∀ (k : Nat) (l : List Road) {d : Dice}, d.light → (Dice.more n l d k).2.light
  | 0, l, d, h => h
  | k + 1, l, d, h => by
    unfold Dice.more
    split
    · exact Dice.more_light n k _ (Dice.road2_light h n)
    · exact h
theorem Dice.mine_light {d : Dice} (h : d.light) : d.mine.2.light :=
  Dice.more_light _ _ _ (Dice.next_light (Dice.roadsN_light (Dice.placesN_light (Dice.next_light h _) _) _) _)

abbrev roadBox : List D := [I 0, I 0, I 12, I 10, B true, B false, I 1, I 1, I 0, I 0]

theorem mine_loop1 (d : Dice) (hd : d.light) (n : Nat) (hn : n ≤ 8) (a b c e f : D) :
    exS CALL K.made_Dice_Mine_l1 ⟨[.bp 0 0, .bp 1 0, .bp 2 0, I n, I 0, a, b, c, e, f], [d.obj, .box [.nil, .nil], .box [.ref 3 0 0, .ref 4 0 0], .arr 2 false 0 [], .arr 10 false 0 []]⟩ =
    some (.exit 0, ⟨[.bp 0 0, .bp 1 0, .bp 2 0, I n, I n, .und, .und, .und, .und, .und], [(d.placesN n).2.obj, .box [.nil, .nil], .box [.ref 3 0 (d.placesN n).1.length, .ref 4 0 0], .arr 2 false 0 (((d.placesN n).1.map Place.e).map .t), .arr 10 false 0 []]⟩) := by
  refine loop_up (fun j => ⟨[.bp 0 0, .bp 1 0, .bp 2 0, I n, I j, .und, .und, .und, .und, .und], [(d.placesN j).2.obj, .box [.nil, .nil], .box [.ref 3 0 (d.placesN j).1.length, .ref 4 0 0], .arr 2 false 0 (((d.placesN j).1.map Place.e).map .t), .arr 10 false 0 []]⟩) n rfl ?_ ?_ (by simp)
  · intro j hj
    have ln := d.placesN_len j
    have lt := Dice.placesN_light hd j
    simp only [Dice.placesN]
    generalize d.placesN j = s at *
    obtain ⟨l, d1⟩ := s
    simp only at ln lt ⊢
    have h1 := next_ok d1 4 (by omega) lt
    have b1 := d1.next_lo 4
    have b2 := d1.next_hi (n := 4) (by omega)
    have l1 := Dice.next_light lt 4
    generalize d1.next 4 = a1 at *
    obtain ⟨x, d2⟩ := a1
    simp only at h1 b1 b2 l1 ⊢
    by_cases j0 : j = 0
    · subst j0
      simp (disch := omega) only [go_sem, K.made_Dice_Mine_l1b, h1, ↓reduceIte, Nat.reduceAdd, Nat.reduceSub]
    · have h2 := one_ok d2 6 (by omega) (by omega) l1
      simp (disch := omega) only [go_sem, K.made_Dice_Mine_l1b, h1, h2, j0, ↓reduceIte, Nat.reduceAdd, Nat.reduceSub]
  · simp (disch := omega) only [go_sem, K.made_Dice_Mine_l1b, ↓reduceIte]

theorem mine_loop2 (d : Dice) (hd : d.light) (n : Nat) (hn : n ≤ 8) (h1 : 1 ≤ n) (ps : List Place) (a b c e : D) :
    exS CALL K.made_Dice_Mine_l2 ⟨[.bp 0 0, .bp 1 0, .bp 2 0, I n, a, .bp 5 0, I 1, b, c, e], [d.obj, .box [.nil, .nil], .box [.ref 3 0 ps.length, .ref 4 0 0], .arr 2 false 0 ((ps.map Place.e).map .t), .arr 10 false 0 [], .box roadBox]⟩ =
    some (.exit 2, ⟨[.bp 0 0, .bp 1 0, .bp 2 0, I n, .und, .bp 5 0, I n, .und, .und, .und], [(d.roadsN (n - 1)).2.obj, .box [.nil, .nil], .box [.ref 3 0 ps.length, .ref 4 0 (d.roadsN (n - 1)).1.length], .arr 2 false 0 ((ps.map Place.e).map .t), .arr 10 false 0 (((d.roadsN (n - 1)).1.map Road.e).map .t), .box roadBox]⟩) := by
  refine loop_up (fun j => ⟨[.bp 0 0, .bp 1 0, .bp 2 0, I n, .und, .bp 5 0, I (j + 1), .und, .und, .und], [(d.roadsN j).2.obj, .box [.nil, .nil], .box [.ref 3 0 ps.length, .ref 4 0 (d.roadsN j).1.length], .arr 2 false 0 ((ps.map Place.e).map .t), .arr 10 false 0 (((d.roadsN j).1.map Road.e).map .t), .box roadBox]⟩) (n - 1) rfl ?_ ?_ (by simp)
  · intro j hj
    have ln := d.roadsN_len j
    have lt := Dice.roadsN_light hd j
    simp only [Dice.roadsN]
    generalize d.roadsN j = s at *
    obtain ⟨l, d1⟩ := s
    simp only [Dice.road1] at ln lt ⊢
    have h1 := next_ok d1 (min ((j : Int) + 1) 2) (by omega) lt
    have b1 := d1.next_lo (min ((j : Int) + 1) 2)
    have b2 := d1.next_hi (n := min ((j : Int) + 1) 2) (by omega)
    have l1 := Dice.next_light lt (min ((j : Int) + 1) 2)
    generalize d1.next (min ((j : Int) + 1) 2) = a1 at *
    obtain ⟨x, d2⟩ := a1
    simp only at h1 b1 b2 l1 ⊢
    have h2 := of_ok d2 [11, 59, 119, 4] (by simp) (by simp) l1
    have m2 := d2.of_mem (l := [11, 59, 119, 4]) (by simp)
    have l2 := Dice.of_light l1 [11, 59, 119, 4]
    generalize d2.of [11, 59, 119, 4] = a2 at *
    obtain ⟨y, d3⟩ := a2
    simp only [tL, List.map_cons, List.map_nil] at h2 m2 l2 ⊢
    have h3 := of_ok d3 [9, 3, 19] (by simp) (by simp) l2
    have m3 := d3.of_mem (l := [9, 3, 19]) (by simp)
    generalize d3.of [9, 3, 19] = a3 at *
    obtain ⟨z, d4⟩ := a3
    simp only [tL, List.map_cons, List.map_nil, List.mem_cons, List.not_mem_nil, or_false] at h3 m2 m3 ⊢
    simp (disch := omega) only [go_sem, K.made_Dice_Mine_l2b, h1, h2, h3, ↓reduceIte, Nat.reduceAdd, Nat.reduceSub]
  · simp (disch := omega) only [go_sem, K.made_Dice_Mine_l2b, ↓reduceIte]
    rw [show ((n - 1 : Nat) : Int) + 1 = n by omega]

abbrev mineH (d : Dice) (ps : List Place) (l : List Road) : Heap := [d.obj, .box [.nil, .nil], .box [.ref 3 0 ps.length, .ref 4 0 l.length], .arr 2 false 0 ((ps.map Place.e).map .t), .arr 10 false 0 ((l.map Road.e).map .t), .box roadBox]

theorem mine_round (d : Dice) (hd : d.light) (n : Int) (hn : 1 ≤ n) (hn2 : n ≤ 8) (ps : List Place) (l : List Road) (hl : l.length < 10) (k : Nat) (hk : k ≤ 10) :
    roundC true [4, 6, 7, 9] 6 (exS CALL K.made_Dice_Mine_l3b ⟨[.bp 0 0, .bp 1 0, .bp 2 0, I n, .und, .bp 5 0, .und, .und, I (k + 1), .und], mineH d ps l⟩) =
    some ⟨[.bp 0 0, .bp 1 0, .bp 2 0, I n, .und, .bp 5 0, .und, .und, I k, .und], mineH (d.road2 n).2 ps (if (d.road2 n).1.frm = (d.road2 n).1.to then l else l ++ [(d.road2 n).1])⟩ := by
  unfold Dice.road2 mineH
  simp only
  have h1 := next_ok d n (by omega) hd
  have l1 := Dice.next_light hd n
  generalize d.next n = a1 at *
  obtain ⟨x1, d1⟩ := a1
  simp only at h1 l1 ⊢
  have h2 := next_ok d1 n (by omega) l1
  have l2 := Dice.next_light l1 n
  generalize d1.next n = a2 at *
  obtain ⟨x2, d2⟩ := a2
  simp only at h2 l2 ⊢
  have h3 := of_ok d2 [11, 59, 199] (by simp) (by simp) l2
  have m3 := d2.of_mem (l := [11, 59, 199]) (by simp)
  have l3 := Dice.of_light l2 [11, 59, 199]
  generalize d2.of [11, 59, 199] = a3 at *
  obtain ⟨x3, d3⟩ := a3
  simp only [tL, List.map_cons, List.map_nil] at h3 m3 l3 ⊢
  have h4 := of_ok d3 [9, 3] (by simp) (by simp) l3
  have m4 := d3.of_mem (l := [9, 3]) (by simp)
  have l4 := Dice.of_light l3 [9, 3]
  generalize d3.of [9, 3] = a4 at *
  obtain ⟨x4, d4⟩ := a4
  simp only [tL, List.map_cons, List.map_nil] at h4 m4 l4 ⊢
  have h5 := next_ok d4 5 (by omega) l4
  have l5 := Dice.next_light l4 5
  generalize d4.next 5 = a5 at *
  obtain ⟨x5, d5⟩ := a5
  simp only at h5 l5 ⊢
  have h6 := one_ok d5 6 (by omega) (by omega) l5
  generalize d5.one 6 = a6 at *
  obtain ⟨x6, d6⟩ := a6
  simp only [List.mem_cons, List.not_mem_nil, or_false] at h6 m3 m4 ⊢
  by_cases e : x1 = x2
  · simp (disch := omega) only [go_sem, K.made_Dice_Mine_l3b, h1, h2, h3, h4, h5, h6, e, ↓reduceIte, Nat.reduceAdd, Nat.reduceSub]
  · simp (disch := omega) only [go_sem, K.made_Dice_Mine_l3b, h1, h2, h3, h4, h5, h6, e, ↓reduceIte, Nat.reduceAdd, Nat.reduceSub]

theorem mine_loop3 (n : Int) (hn : 1 ≤ n) (hn2 : n ≤ 8) (ps : List Place) : ∀ (k : Nat) (d : Dice) (l : List Road), d.light → l.length ≤ 10 → k ≤ 10 →
    ∃ z : Int, loopC true [4, 6, 7, 9] (exS CALL K.made_Dice_Mine_l3b) ⟨[.bp 0 0, .bp 1 0, .bp 2 0, I n, .und, .bp 5 0, .und, .und, I k, .und], mineH d ps l⟩ =
    some (.exit 4, ⟨[.bp 0 0, .bp 1 0, .bp 2 0, I n, .und, .bp 5 0, .und, .und, I z, .und], mineH (Dice.more n l d k).2 ps (Dice.more n l d k).1⟩)
  | 0, d, l, hd, hl, hk => by
    refine ⟨0, loopC_exit ?_ (by simp)⟩
    simp (disch := omega) only [go_sem, K.made_Dice_Mine_l3b, Dice.more, ↓reduceIte, Nat.reduceAdd, Nat.reduceSub]
  | k + 1, d, l, hd, hl, hk => by
    by_cases h : l.length < 10
    · have hr := mine_round d hd n hn hn2 ps l h k (by omega)
      obtain ⟨z, hz⟩ := mine_loop3 n hn hn2 ps k (d.road2 n).2 (if (d.road2 n).1.frm = (d.road2 n).1.to then l else l ++ [(d.road2 n).1]) (Dice.road2_light hd n) (by split <;> (try rw [List.length_append, List.length_singleton]) <;> omega) (by omega)
      refine ⟨z, loopC_step hr ?_⟩
      rw [hz]
      simp only [Dice.more, if_pos h]
    · refine ⟨(k : Int) + 1, loopC_exit ?_ (by simp)⟩
      simp (disch := omega) only [go_sem, K.made_Dice_Mine_l3b, Dice.more, ↓reduceIte, Nat.reduceAdd, Nat.reduceSub]

theorem Dice.more_len (n : Int) : ∀ (k : Nat) (l : List Road) (d : Dice), l.length ≤ 10 → (Dice.more n l d k).1.length ≤ 10
  | 0, l, d, h => h
  | k + 1, l, d, h => by
    unfold Dice.more
    split
    · exact Dice.more_len n k _ _ (by split <;> (try rw [List.length_append, List.length_singleton]) <;> omega)
    · exact h

theorem Dice.mineN_bd (d : Dice) : 2 ≤ d.mineN ∧ d.mineN ≤ 7 := by
  unfold Dice.mineN
  have := d.next_lo 6
  have := d.next_hi (n := 6) (by omega)
  split <;> omega

theorem mine_ok (d : Dice) (hd : d.light) : CALL 0 N.made_Dice_Mine [.bp 0 0] [d.obj] = some (.t d.mine.1.e, [d.mine.2.obj]) := by
  refine CALL_of K.t_made_Dice_Mine rfl ?_
  have nb := d.mineN_bd
  unfold Dice.mine
  have h0 := next_ok d 6 (by omega) hd
  have l0 := Dice.next_light hd 6
  have b1 := d.next_lo 6
  have b2 := d.next_hi (n := 6) (by omega)
  have hL := d.next_L 6
  have hN : (d.mineN : Int) = if d.L.length = 0 then 4 else 2 + (d.next 6).1 := by unfold Dice.mineN; split <;> omega
  have e1 : d.mineX = Dice.more d.mineN d.mineR.1 (d.mineR.2.next 4).2 (d.mineR.2.next 4).1.toNat := rfl
  have e2 : d.mineR = d.mineP.2.roadsN (d.mineN - 1) := rfl
  have e3 : d.mineP = (d.next 6).2.placesN d.mineN := rfl
  generalize d.mineX = X at *
  generalize d.mineR = R at *
  generalize d.mineP = P at *
  generalize d.mineN = n at *
  generalize d.next 6 = a at *
  obtain ⟨x, d1⟩ := a
  simp only at h0 l0 b1 b2 hL hN e3 ⊢
  have q1 := mine_loop1 d1 l0 n (by omega)
  have lP := Dice.placesN_light l0 n
  have nP := d1.placesN_len n
  rw [← e3] at q1 lP nP
  obtain ⟨ps, d2⟩ := P
  simp only at q1 lP nP e2 ⊢
  have q2 := mine_loop2 d2 lP n (by omega) (by omega) ps
  have lR := Dice.roadsN_light lP (n - 1)
  have nR := d2.roadsN_len (n - 1)
  rw [← e2] at q2 lR nR
  obtain ⟨rs, d3⟩ := R
  simp only at q2 lR nR e1 ⊢
  have h4 := next_ok d3 4 (by omega) lR
  have l4 := Dice.next_light lR 4
  have b3 := d3.next_lo 4
  have b4 := d3.next_hi (n := 4) (by omega)
  generalize d3.next 4 = c at *
  obtain ⟨y, d4⟩ := c
  simp only at h4 l4 b3 b4 e1 ⊢
  obtain ⟨z, q3⟩ := mine_loop3 n (by omega) (by omega) ps y.toNat d4 rs l4 (by omega) (by omega)
  rw [← e1] at q3
  have q3 := loop_is (vs := [.bp 0 0, .bp 1 0, .bp 2 0, I n, .und, .bp 5 0, I n, .und, I y.toNat, .und]) q3
  have ey : (y.toNat : Int) = y := by omega
  rw [ey] at q3
  obtain ⟨xs, d5⟩ := X
  have fin : ∀ k : Int, (exS CALL K.made_Dice_Mine_l3 ⟨[.bp 0 0, .bp 1 0, .bp 2 0, I n, .und, .bp 5 0, I n, .und, I y, .und], mineH d4 ps rs⟩) =
      some (.exit 4, ⟨[.bp 0 0, .bp 1 0, .bp 2 0, I n, .und, .bp 5 0, .und, .und, I z, .und], mineH d5 ps xs⟩) := fun _ => q3
  clear q3
  have q3 := fin 0
  clear fin
  simp only [mineH] at q3
  by_cases c0 : d.L.length = 0
  · rw [if_pos c0] at hN
    obtain rfl : n = 4 := by omega
    have e4 : ((4 : Nat) : Int) = 4 := rfl
    simp only [e4] at q1 q2 q3
    simp (disch := omega) only [go_sem, K.made_Dice_Mine, ↓reduceIte, h0, c0, q1, q2, q3, h4, hL, Nat.reduceAdd, Nat.reduceSub]
  · rw [if_neg c0] at hN
    simp (disch := omega) only [go_sem, K.made_Dice_Mine, ↓reduceIte, h0, c0, q1, q2, q3, h4, hL, hN.symm, Nat.reduceAdd, Nat.reduceSub]

theorem Dice.road1_ok (d : Dice) {n : Nat} {i : Int} (h1 : 1 ≤ i) (h2 : i < n) : (d.road1 i).1.ok n := by
  have b1 := d.next_lo (min i 2)
  have b2 := d.next_hi (n := min i 2) (by omega)
  have m2 := (d.next (min i 2)).2.of_mem (l := [11, 59, 119, 4]) (by simp)
  have m3 := ((d.next (min i 2)).2.of [11, 59, 119, 4]).2.of_mem (l := [9, 3, 19]) (by simp)
  simp only [List.mem_cons, List.not_mem_nil, or_false] at m2 m3
  unfold Dice.road1
  constructor <;> (simp only; omega)

theorem Dice.roadsN_ok (d : Dice) {n : Nat} : ∀ k, k + 1 ≤ n → ∀ r ∈ (d.roadsN k).1, r.ok n
  | 0, _, r, hr => by simp [Dice.roadsN] at hr
  | k + 1, h, r, hr => by
    simp only [Dice.roadsN, List.mem_append, List.mem_singleton] at hr
    rcases hr with hr | rfl
    · exact d.roadsN_ok k (by omega) r hr
    · exact Dice.road1_ok _ (by omega) (by omega)

theorem Dice.road2_ok (d : Dice) {n : Nat} (hn : 1 ≤ n) (hne : (d.road2 n).1.frm ≠ (d.road2 n).1.to) : (d.road2 n).1.ok n := by
  unfold Dice.road2 at hne ⊢
  simp only at hne ⊢
  have b1 := d.next_lo n
  have b2 := d.next_hi (n := (n : Int)) (by omega)
  generalize d.next n = a1 at *
  obtain ⟨x1, d1⟩ := a1
  simp only at *
  have c1 := d1.next_lo n
  have c2 := d1.next_hi (n := (n : Int)) (by omega)
  generalize d1.next n = a2 at *
  obtain ⟨x2, d2⟩ := a2
  simp only at *
  have m3 := d2.of_mem (l := [11, 59, 199]) (by simp)
  generalize d2.of [11, 59, 199] = a3 at *
  obtain ⟨x3, d3⟩ := a3
  simp only at *
  have m4 := d3.of_mem (l := [9, 3]) (by simp)
  generalize d3.of [9, 3] = a4 at *
  obtain ⟨x4, d4⟩ := a4
  simp only [List.mem_cons, List.not_mem_nil, or_false] at m3 m4 ⊢
  constructor <;> (simp only; omega)

theorem Dice.more_ok {n : Nat} (hn : 1 ≤ n) : ∀ (k : Nat) (l : List Road) (d : Dice), (∀ r ∈ l, r.ok n) → ∀ r ∈ (Dice.more n l d k).1, r.ok n
  | 0, l, d, h => h
  | k + 1, l, d, h => by
    unfold Dice.more
    split
    · refine Dice.more_ok hn k _ _ ?_
      split
      · exact h
      · rename_i hne
        intro r hr
        rcases List.mem_append.1 hr with hr | hr
        · exact h r hr
        · rw [List.mem_singleton.1 hr]; exact d.road2_ok hn hne
    · exact h

theorem Dice.more_len2 (n : Int) : ∀ (k : Nat) (l : List Road) (d : Dice), l.length ≤ (Dice.more n l d k).1.length
  | 0, l, d => Nat.le_refl _
  | k + 1, l, d => by
    unfold Dice.more
    split
    · refine Nat.le_trans ?_ (Dice.more_len2 n k _ _)
      split <;> (try rw [List.length_append]) <;> omega
    · exact Nat.le_refl _

theorem Dice.placesN_h (d : Dice) : ∀ k, ∀ p ∈ (d.placesN k).1, -30 ≤ p.h ∧ p.h ≤ 0
  | 0, p, hp => by simp [Dice.placesN] at hp
  | k + 1, p, hp => by
    have b1 := (d.placesN k).2.next_lo 4
    have b2 := (d.placesN k).2.next_hi (n := 4) (by omega)
    unfold Dice.placesN at hp
    split at hp
    all_goals
      simp only [List.mem_append, List.mem_singleton] at hp
      rcases hp with hp | rfl
      · exact d.placesN_h k p hp
      · simp only; omega

theorem Dice.mine_places (d : Dice) : d.mine.1.places.length = d.mineN := Dice.placesN_len _ _
theorem Dice.mine_roads (d : Dice) : d.mineN - 1 ≤ d.mine.1.roads.length ∧ d.mine.1.roads.length ≤ 10 := by
  have nb := d.mineN_bd
  have e : d.mineR.1.length = d.mineN - 1 := Dice.roadsN_len _ _
  constructor
  · rw [← e]; exact Dice.more_len2 _ _ _ _
  · exact Dice.more_len _ _ _ _ (by omega)
theorem Dice.mine_good (d : Dice) : d.mine.1.ok := by
  have nb := d.mineN_bd
  have h1 := d.mine_places
  have h2 := d.mine_roads
  refine ⟨by omega, by omega, fun p hp => ?_, ?_⟩
  · have := Dice.placesN_h _ _ p hp; omega
  · rw [h1]
    exact Dice.more_ok (by omega) _ _ _ (Dice.roadsN_ok _ _ (by omega))

end Go.Ev

/- Made inputs: flows of the air. -/
namespace Go.Ev
open Go
variable [Lib] [Has1] [Has2]

@[go_sem] theorem appOK_spn (l : List Spn) : appOK 2 (l.map Spn.e) = true := by cases l <;> rfl
@[go_sem] theorem set_spn (l : List Spn) (k : Nat) (a b : Int) : (List.map D.t (List.map Spn.e l)).set k (D.t (T.agg [tI a, tI b])) = List.map D.t (List.map Spn.e (l.set k ⟨a, b⟩)) := by
  rw [List.map_set, List.map_set]

@[go_sem] theorem opBs_6 (H : Heap) (sz : Nat) (a b c d e f : T) : opBs H sz [.t a, .t b, .t c, .t d, .t e, .t f] = if cellsAre sz [a, b, c, d, e, f] = true then some (.t (.sl [a, b, c, d, e, f]), H) else none := opBs_if H sz [a, b, c, d, e, f]
@[go_sem] theorem opBs_7 (H : Heap) (sz : Nat) (a b c d e f g : T) : opBs H sz [.t a, .t b, .t c, .t d, .t e, .t f, .t g] = if cellsAre sz [a, b, c, d, e, f, g] = true then some (.t (.sl [a, b, c, d, e, f, g]), H) else none := opBs_if H sz [a, b, c, d, e, f, g]
@[go_sem] theorem opBs_8 (H : Heap) (sz : Nat) (a b c d e f g h : T) : opBs H sz [.t a, .t b, .t c, .t d, .t e, .t f, .t g, .t h] = if cellsAre sz [a, b, c, d, e, f, g, h] = true then some (.t (.sl [a, b, c, d, e, f, g, h]), H) else none := opBs_if H sz [a, b, c, d, e, f, g, h]

@[go_sem] theorem app2_last {α β γ : Type} {l : List α} {g : α → β} {f : β → γ} {x : γ} {j : Nat} (h : j = l.length) : (List.map f (List.map g l) ++ [x])[j]? = some x := by
  rw [List.getElem?_append_right (by simp; omega)]; simp [h]
@[go_sem] theorem app2_set {α β γ : Type} {l : List α} {g : α → β} {f : β → γ} {x y : γ} {j : Nat} (h : j = l.length) : (List.map f (List.map g l) ++ [x]).set j y = List.map f (List.map g l) ++ [y] := by
  rw [List.set_append_right _ _ (by simp; omega)]; simp [h]

def Dice.flow1 (d : Dice) : Spn × Dice :=
  let a := d.of [0, 1000, 5000, 20000, -5000, -20000, 4999, 100]
  let b := a.2.of [0, 1, 1000, 6000]
  let c := b.2.of [0, 1, 500]
  let w := c.2.one 9
  (if w.1 = true then ⟨-1125899906842624, 1125899906842624⟩ else ⟨a.1 - b.1, a.1 + c.1⟩, w.2)
def Dice.flowsN (d : Dice) : Nat → List Spn × Dice
  | 0 => ([], d)
  | k + 1 => ((d.flowsN k).1 ++ [((d.flowsN k).2.flow1).1], ((d.flowsN k).2.flow1).2)
def Dice.flows (d : Dice) (m : Mine) : List Spn × Dice := d.flowsN m.roads.length

theorem Dice.flow1_light {d : Dice} (h : d.light) : d.flow1.2.light := by
  unfold Dice.flow1; simp only
  exact Dice.one_light (Dice.of_light (Dice.of_light (Dice.of_light h [0, 1000, 5000, 20000, -5000, -20000, 4999, 100]) [0, 1, 1000, 6000]) [0, 1, 500]) 9
theorem Dice.flowsN_light {d : Dice} (h : d.light) : ∀ n, (d.flowsN n).2.light
  | 0 => h
  | n + 1 => by simp only [Dice.flowsN]; exact Dice.flow1_light (Dice.flowsN_light h n)
theorem Dice.flowsN_len (d : Dice) : ∀ n, (d.flowsN n).1.length = n
  | 0 => rfl
  | n + 1 => by simp [Dice.flowsN, d.flowsN_len n]

theorem flow1_good (d : Dice) : d.flow1.1.ok := by
  unfold Dice.flow1; simp only
  have m1 := d.of_mem (l := [0, 1000, 5000, 20000, -5000, -20000, 4999, 100]) (by simp)
  generalize d.of [0, 1000, 5000, 20000, -5000, -20000, 4999, 100] = a at *
  obtain ⟨x, d1⟩ := a
  have m2 := d1.of_mem (l := [0, 1, 1000, 6000]) (by simp)
  simp only
  generalize d1.of [0, 1, 1000, 6000] = b at *
  obtain ⟨y, d2⟩ := b
  have m3 := d2.of_mem (l := [0, 1, 500]) (by simp)
  simp only
  generalize d2.of [0, 1, 500] = c at *
  obtain ⟨z, d3⟩ := c
  simp only [List.mem_cons, List.not_mem_nil, or_false] at m1 m2 m3 ⊢
  unfold Spn.ok
  split <;> (simp only; omega)

theorem Dice.flowsN_good (d : Dice) : ∀ n, ∀ x ∈ (d.flowsN n).1, x.ok
  | 0, x, hx => by simp [Dice.flowsN] at hx
  | n + 1, x, hx => by
    simp only [Dice.flowsN, List.mem_append, List.mem_singleton] at hx
    rcases hx with hx | rfl
    · exact d.flowsN_good n x hx
    · exact flow1_good _

theorem flows_round (d : Dice) (hd : d.light) (m : Mine) (hm : m.roads.length ≤ 1000) (j : Nat) (hj : j < m.roads.length) (l : List Spn) (hl : l.length = j) :
    roundC true [1, 3, 6] 3 (exS CALL K.made_Dice_Flows_l1b ⟨[.bp 0 0, .und, .bp 1 0, .und, .ref 2 0 l.length, I j, .und], [d.obj, .box [.t (.sl (m.places.map Place.e)), .t (.sl (m.roads.map Road.e))], .arr 2 false 0 ((l.map Spn.e).map .t)]⟩) =
    some ⟨[.bp 0 0, .und, .bp 1 0, .und, .ref 2 0 (l ++ [d.flow1.1]).length, I (j + 1), .und], [d.flow1.2.obj, .box [.t (.sl (m.places.map Place.e)), .t (.sl (m.roads.map Road.e))], .arr 2 false 0 (((l ++ [d.flow1.1]).map Spn.e).map .t)]⟩ := by
  unfold Dice.flow1; simp only
  have h1 := of_ok d [0, 1000, 5000, 20000, -5000, -20000, 4999, 100] (by simp) (by simp) hd
  have l1 := Dice.of_light hd [0, 1000, 5000, 20000, -5000, -20000, 4999, 100]
  have m1 := d.of_mem (l := [0, 1000, 5000, 20000, -5000, -20000, 4999, 100]) (by simp)
  generalize d.of [0, 1000, 5000, 20000, -5000, -20000, 4999, 100] = a at *
  obtain ⟨x, d1⟩ := a
  simp only [tL, List.map_cons, List.map_nil] at h1 l1 ⊢
  have h2 := of_ok d1 [0, 1, 1000, 6000] (by simp) (by simp) l1
  have l2 := Dice.of_light l1 [0, 1, 1000, 6000]
  have m2 := d1.of_mem (l := [0, 1, 1000, 6000]) (by simp)
  generalize d1.of [0, 1, 1000, 6000] = b at *
  obtain ⟨y, d2⟩ := b
  simp only [tL, List.map_cons, List.map_nil] at h2 l2 ⊢
  have h3 := of_ok d2 [0, 1, 500] (by simp) (by simp) l2
  have l3 := Dice.of_light l2 [0, 1, 500]
  have m3 := d2.of_mem (l := [0, 1, 500]) (by simp)
  generalize d2.of [0, 1, 500] = c at *
  obtain ⟨z, d3⟩ := c
  simp only [tL, List.map_cons, List.map_nil] at h3 l3 ⊢
  have h4 := one_ok d3 9 (by omega) (by omega) l3
  generalize d3.one 9 = e at *
  obtain ⟨w, d4⟩ := e
  simp only [List.mem_cons, List.not_mem_nil, or_false] at m1 m2 m3 h4 ⊢
  have st : (l ++ [(⟨x - y, x + z⟩ : Spn)]).set j ⟨-1125899906842624, 1125899906842624⟩ = l ++ [⟨-1125899906842624, 1125899906842624⟩] := by
    rw [List.set_append_right _ _ (by omega), hl, Nat.sub_self]; rfl
  cases w with
  | true =>
    simp (disch := omega) only [go_sem, K.made_Dice_Flows_l1b, ↓reduceIte, h1, h2, h3, h4, Nat.reduceAdd, Nat.reduceSub]
  | false =>
    simp (disch := omega) only [go_sem, K.made_Dice_Flows_l1b, ↓reduceIte, h1, h2, h3, h4, Nat.reduceAdd, Nat.reduceSub]

theorem flowsD_ok (d : Dice) (hd : d.light) (m : Mine) (hm : m.roads.length ≤ 1000) : CALL 0 N.made_Dice_Flows [.bp 0 0, .t m.e] [d.obj] = some (.t (tS (d.flows m).1), [(d.flows m).2.obj]) := by
  refine CALL_of K.t_made_Dice_Flows rfl ?_
  unfold Dice.flows
  have ln := d.flowsN_len
  have loop : ∀ a b c : D, exS CALL K.made_Dice_Flows_l1 ⟨[.bp 0 0, a, .bp 1 0, b, .ref 2 0 0, I 0, c], [d.obj, .box [.t (.sl (m.places.map Place.e)), .t (.sl (m.roads.map Road.e))], .arr 2 false 0 []]⟩ =
      some (.exit 0, ⟨[.bp 0 0, .und, .bp 1 0, .und, .ref 2 0 (d.flowsN m.roads.length).1.length, I m.roads.length, .und], [(d.flowsN m.roads.length).2.obj, .box [.t (.sl (m.places.map Place.e)), .t (.sl (m.roads.map Road.e))], .arr 2 false 0 (((d.flowsN m.roads.length).1.map Spn.e).map .t)]⟩) := by
    intro a b c
    refine loop_up (fun j => ⟨[.bp 0 0, .und, .bp 1 0, .und, .ref 2 0 (d.flowsN j).1.length, I j, .und], [(d.flowsN j).2.obj, .box [.t (.sl (m.places.map Place.e)), .t (.sl (m.roads.map Road.e))], .arr 2 false 0 (((d.flowsN j).1.map Spn.e).map .t)]⟩) m.roads.length rfl ?_ ?_ (by simp)
    · intro j hj
      exact flows_round (d.flowsN j).2 (Dice.flowsN_light hd j) m hm j hj (d.flowsN j).1 (ln j)
    · simp (disch := omega) only [go_sem, K.made_Dice_Flows_l1b, ↓reduceIte]
  have ln := ln m.roads.length
  generalize d.flowsN m.roads.length = r at *
  obtain ⟨l, d1⟩ := r
  simp only at ln loop ⊢
  simp (disch := omega) only [go_sem, K.made_Dice_Flows, ↓reduceIte, loop]

end Go.Ev

/- Made inputs, briefly: there are such data, and what holds of them. -/
namespace Go.Ev
open Go
variable [Lib] [Has1] [Has2]

theorem loop_x {gc : Bool} {dead : List Nat} {c : C} {vs : List D} {H : Heap} (P : Nat → St → Prop) (n : Nat) (Q : Ex × St → Prop) (h0 : P 0 ⟨dropV dead vs, H⟩)
    (hs : ∀ j st, j < n → P j st → (∃ st', roundC gc dead st.H.length (exS CALL c st) = some st' ∧ P (j + 1) st') ∨ ∃ q, exS CALL c st = some q ∧ q.1 ≠ .normal ∧ Q q)
    (he : ∀ st, P n st → ∃ q, exS CALL c st = some q ∧ q.1 ≠ .normal ∧ Q q) : ∃ q, exS CALL (.loop gc dead c) ⟨vs, H⟩ = some q ∧ Q q := by
  have key : ∀ (k j : Nat) (st : St), j + k = n → P j st → ∃ q, loopC gc dead (exS CALL c) st = some q ∧ Q q := by
    intro k
    induction k with
    | zero =>
      intro j st hj hp
      obtain ⟨q, h1, h2, h3⟩ := he st (by rw [← hj]; exact hp)
      exact ⟨q, loopC_exit h1 h2, h3⟩
    | succ k ih =>
      intro j st hj hp
      rcases hs j st (by omega) hp with ⟨st', h1, h2⟩ | ⟨q, h1, h2, h3⟩
      · obtain ⟨q, h3, h4⟩ := ih (j + 1) st' (by omega) h2
        exact ⟨q, loopC_step h1 h3, h4⟩
      · exact ⟨q, loopC_exit h1 h2, h3⟩
  exact key n 0 _ (by omega) h0

theorem roll_x (l : List Int) : CALL 0 N.made_Roll [.t (tL l)] [] = some (.bp 0 0, [Dice.obj ⟨l, 0⟩]) := by
  refine CALL_of K.t_made_Roll rfl ?_
  simp (disch := omega) only [go_sem, K.made_Roll, ↓reduceIte, Dice.obj, Nat.reduceAdd, Nat.reduceSub]
theorem next_x {d : Dice} (hd : d.light) (n : Int) (h1 : 1 ≤ n) (hn : n ≤ 4611686018427387904) :
    ∃ (v : Int) (e : Dice), CALL 0 N.made_Dice_Next [.bp 0 0, I n] [d.obj] = some (I v, [e.obj]) ∧ e.light ∧ 0 ≤ v ∧ v < n :=
  ⟨_, _, next_ok d n hn hd, Dice.next_light hd n, d.next_lo n, d.next_hi h1⟩
theorem one_x {d : Dice} (hd : d.light) (n : Int) (h1 : 0 ≤ n) (hn : n ≤ 4611686018427387904) :
    ∃ (b : Bool) (e : Dice), CALL 0 N.made_Dice_One [.bp 0 0, I n] [d.obj] = some (B b, [e.obj]) ∧ e.light :=
  ⟨_, _, one_ok d n h1 hn hd, Dice.one_light hd n⟩
theorem of_x {d : Dice} (hd : d.light) (l : List Int) (hl : l ≠ []) (hn : l.length ≤ 4294967296) :
    ∃ (v : Int) (e : Dice), CALL 0 N.made_Dice_Of [.bp 0 0, .t (tL l)] [d.obj] = some (I v, [e.obj]) ∧ e.light ∧ v ∈ l :=
  ⟨_, _, of_ok d l hl hn hd, Dice.of_light hd l, d.of_mem hl⟩
theorem mine_x {d : Dice} (hd : d.light) :
    ∃ (m : Mine) (e : Dice), CALL 0 N.made_Dice_Mine [.bp 0 0] [d.obj] = some (.t m.e, [e.obj]) ∧ e.light ∧ m.ok ∧ 2 ≤ m.places.length ∧ m.places.length ≤ 7 ∧ 1 ≤ m.roads.length ∧ m.roads.length ≤ 10 := by
  have b := d.mineN_bd
  have p := d.mine_places
  have r := d.mine_roads
  exact ⟨_, _, mine_ok d hd, Dice.mine_light hd, d.mine_good, by omega, by omega, by omega, by omega⟩
theorem flows_x {d : Dice} (hd : d.light) {m : Mine} (hm : m.ok) :
    ∃ (l : List Spn) (e : Dice), CALL 0 N.made_Dice_Flows [.bp 0 0, .t m.e] [d.obj] = some (.t (tS l), [e.obj]) ∧ e.light ∧ l.length = m.roads.length ∧ (∀ x ∈ l, x.ok) := by
  have nr := hm.nr
  exact ⟨_, _, flowsD_ok d hd m (by omega), Dice.flowsN_light hd _, d.flowsN_len _, d.flowsN_good _⟩
end Go.Ev

/- SmokeSources. -/
namespace Go.Ev
open Go
variable [Lib] [Has1] [Has2] [Has3] [Has4] [Has6] [Has7]

theorem flB_of {m : Mine} {l : List Spn} (h1 : l.length = m.roads.length) (h2 : ∀ x ∈ l, x.ok) : flowsB m l = true := by
  simp only [flowsB, Bool.and_eq_true, decide_eq_true_eq, List.all_eq_true, List.mem_range]
  exact ⟨fun j hj => h2 _ (nth_mem hj), h1⟩
theorem setB_1 {p : Int} {n : Int} (h0 : 0 ≤ p) (h1 : p < n) : setB [p] n = true := by
  simp only [setB, List.all_eq_true, List.mem_range, decide_eq_true_eq]
  intro j hj
  obtain rfl : j = 0 := by simpa using hj
  exact ⟨h0, h1, fun h => absurd h (by omega)⟩
theorem setB_2 {p q : Int} {n : Int} (h0 : 0 ≤ p) (h : p < q) (h1 : q < n) : setB [p, q] n = true := by
  simp only [setB, List.all_eq_true, List.mem_range, decide_eq_true_eq]
  intro j hj
  have : j = 0 ∨ j = 1 := by simp at hj; omega
  rcases this with rfl | rfl
  · exact ⟨h0, show p < n by omega, fun h => absurd h (by omega)⟩
  · exact ⟨show 0 ≤ q by omega, h1, fun _ => h⟩
theorem startS_is {m : Mine} {fl : List Spn} (hf : flowsB m fl = true) {l : List Int} (hl : setB l m.places.length = true) {t : Int} (ht : inT t) :
    startS m fl l t = (⟨t, closeS m fl (initS l t m.places.length)⟩, 0) := by
  unfold startS
  rw [if_neg (by simp [hf]), if_neg (by simp [hl]), if_neg (fun h => h ht)]

theorem nth_out {l : List Int} {i : Nat} (h : l.length ≤ i) : nth l i = 0 := by unfold nth; rw [List.getD_eq_getElem?_getD, List.getElem?_eq_none h]; rfl
theorem spF_min {m : Mine} (h : m.ok) {fl : List Spn} {a b c : List Int} (ha : a.length = m.places.length) (hb : b.length = m.places.length) (hc : c.length = m.places.length) (ba : bnd a) (bb : bnd b) (bc : bnd c)
    (hm : ∀ j, j < m.places.length → nth c j = min (nth a j) (nth b j)) {j : Nat} (hj : j < m.places.length) : nth (spF m fl c) j = min (nth (spF m fl a) j) (nth (spF m fl b) j) := by
  obtain ⟨a1, a2, a3⟩ := spF_clP h (fl := fl) ha ba
  obtain ⟨b1, b2, b3⟩ := spF_clP h (fl := fl) hb bb
  obtain ⟨c1, c2, c3⟩ := spF_clP h (fl := fl) hc bc
  have al := spF_le h (fl := fl) ha
  have bl := spF_le h (fl := fl) hb
  have cl := spF_le h (fl := fl) hc
  have k1 := spF_ge h (l := a) c1 ha (fun i => by
    by_cases hi : i < m.places.length
    · have := cl i; rw [hm i hi] at this; omega
    · rw [nth_out (by omega), nth_out (by omega)]; omega) j
  have k2 := spF_ge h (l := b) c1 hb (fun i => by
    by_cases hi : i < m.places.length
    · have := cl i; rw [hm i hi] at this; omega
    · rw [nth_out (by omega), nth_out (by omega)]; omega) j
  let y := (List.range m.places.length).map fun i => min (nth (spF m fl a) i) (nth (spF m fl b) i)
  have yn : ∀ i, i < m.places.length → nth y i = min (nth (spF m fl a) i) (nth (spF m fl b) i) := fun i hi => nth_eq (by simp [y, hi])
  have yl : y.length = m.places.length := by simp [y]
  have k3 := spF_ge h (y := y) (l := c) (by
    intro k hk back hn hs
    have r1 := Road.src_ok (h.rs _ (nth_mem hk)) back
    have r2 := Road.dst_ok (h.rs _ (nth_mem hk)) back
    have x1 := a1 k hk back hn
    have x2 := b1 k hk back hn
    rw [yn _ (by omega)] at hs ⊢
    rw [yn _ (by omega)]
    omega) hc (fun i => by
    by_cases hi : i < m.places.length
    · rw [yn i hi, hm i hi]
      have := al i
      have := bl i
      omega
    · rw [nth_out (by omega), nth_out (by omega)]; omega) j
  rw [yn j hj] at k3
  omega
theorem initS_nth (l : List Int) (t : Int) {n j : Nat} (hj : j < n) : nth (initS l t n) j = if (j : Int) ∈ l then t else 1099511627776 := nth_eq (by simp [initS, hj])
theorem closeS_two {m : Mine} (h : m.ok) {fl : List Spn} {p q : Int} {l : List Int} (hl : ∀ x, x ∈ l ↔ x = p ∨ x = q) {t : Int} (ht : inT t) {j : Nat} (hj : j < m.places.length) :
    nth (closeS m fl (initS l t m.places.length)) j = min (nth (closeS m fl (initS [p] t m.places.length)) j) (nth (closeS m fl (initS [q] t m.places.length)) j) := by
  rw [← spF_closeS h (initS_len ..) (initS_tm _ ht _), ← spF_closeS h (initS_len ..) (initS_tm _ ht _), ← spF_closeS h (initS_len ..) (initS_tm _ ht _)]
  refine spF_min h (initS_len ..) (initS_len ..) (initS_len ..) (initS_bnd _ ht _) (initS_bnd _ ht _) (initS_bnd _ ht _) (fun i hi => ?_) hj
  rw [initS_nth _ _ hi, initS_nth _ _ hi, initS_nth _ _ hi]
  unfold inT at ht
  simp only [hl, List.mem_singleton]
  by_cases c1 : (i : Int) = p
  · by_cases c2 : (i : Int) = q
    · rw [if_pos (.inl c1), if_pos c1, if_pos c2]; omega
    · rw [if_pos (.inl c1), if_pos c1, if_neg c2]; omega
  · by_cases c2 : (i : Int) = q
    · rw [if_pos (.inr c2), if_neg c1, if_pos c2]; omega
    · rw [if_neg (by simp [c1, c2]), if_neg c1, if_neg c2]; omega

theorem SmokeSources_law (aw : CALL 0 N.law28_awake [] [] = some (B true, [])) (li : List Int) : CALL 0 N.law28_SmokeSources [.t (tL li)] [] = some (B true, []) := by
  refine CALL_of K.t_law28_SmokeSources rfl ?_
  have lo := light_ok li
  by_cases c : li.length ≤ 400
  · simp only [c, decide_true] at lo
    have ro := roll_x li
    have d0 : (Dice.mk li 0).light := c
    generalize (Dice.mk li 0) = d at *
    obtain ⟨m, e1, mo, l1, hm, p1, p2, r1, r2⟩ := mine_x d0
    obtain ⟨fl, e2, fo, l2, f1, f2⟩ := flows_x l1 hm
    obtain ⟨p, e3, po, l3, p3, p4⟩ := next_x l2 m.places.length (by omega) (by omega)
    obtain ⟨q, e4, qo, l4, q3, q4⟩ := next_x l3 m.places.length (by omega) (by omega)
    have hf := flB_of f1 f2
    have ht : inT 30 := ⟨by omega, by omega⟩
    have s1 := smokeStart_ok hm (by omega) fl (by omega) [p] (by simp) 30
    have s2 := smokeStart_ok hm (by omega) fl (by omega) [q] (by simp) 30
    rw [startS_is hf (setB_1 p3 p4) ht] at s1
    rw [startS_is hf (setB_1 q3 q4) ht] at s2
    have ln := fun l => closeS_len2 hm (fl := fl) (initS_len l 30 m.places.length) (initS_bnd l ht _)
    have fin : ∀ (bo : List Int) (hbo : ∀ x, x ∈ bo ↔ x = p ∨ x = q) (z0 z1 z2 z4 z5 z6 z7 z9 z11 z13 : D) , exS CALL K.law28_SmokeSources_l1 ⟨[z0, z1, z2, .bp 1 0, z4, z5, z6, z7, .bp 2 0, z9, .bp 3 0, z11, .bp 4 0, z13, I 0],
        [e4.obj, .box (mineCells m), .box [I 30, .t (tL (closeS m fl (initS [p] 30 m.places.length)))], .box [I 30, .t (tL (closeS m fl (initS [q] 30 m.places.length)))], .box [I 30, .t (tL (closeS m fl (initS bo 30 m.places.length)))]]⟩ =
        some (.exit 0, ⟨[.und, .und, .und, .und, .und, .und, .und, .und, .bp 2 0, .und, .bp 3 0, .und, .bp 4 0, .und, I m.places.length],
        [e4.obj, .box (mineCells m), .box [I 30, .t (tL (closeS m fl (initS [p] 30 m.places.length)))], .box [I 30, .t (tL (closeS m fl (initS [q] 30 m.places.length)))], .box [I 30, .t (tL (closeS m fl (initS bo 30 m.places.length)))]]⟩) := by
      intro bo hbo z0 z1 z2 z4 z5 z6 z7 z9 z11 z13
      have mn := fun (j : Nat) (hj : j < m.places.length) => closeS_two hm (fl := fl) hbo ht hj
      have la := ln [p]
      have lb := ln [q]
      have lc := ln bo
      generalize closeS m fl (initS [p] 30 m.places.length) = a at *
      generalize closeS m fl (initS [q] 30 m.places.length) = b at *
      generalize closeS m fl (initS bo 30 m.places.length) = cc at *
      refine loop_up (fun j => ⟨[.und, .und, .und, .und, .und, .und, .und, .und, .bp 2 0, .und, .bp 3 0, .und, .bp 4 0, .und, I j], [e4.obj, .box (mineCells m), .box [I 30, .t (tL a)], .box [I 30, .t (tL b)], .box [I 30, .t (tL cc)]]⟩) m.places.length rfl ?_ ?_ (by simp)
      · intro j hj
        have g := mn j hj
        simp (disch := omega) only [go_sem, K.law28_SmokeSources_l1b, ↓reduceIte, g, Nat.reduceAdd, Nat.reduceSub]
      · simp (disch := omega) only [go_sem, K.law28_SmokeSources_l1b, ↓reduceIte, Nat.reduceAdd, Nat.reduceSub]
    have h3 : ∀ bo : List Int, setB bo m.places.length = true → bo.length ≤ 2 → CALL 0 N.smoke_Start [.t m.e, .t (tS fl), .t (tL bo), I 30] [] = some (.tup [.t (Wh.e ⟨30, closeS m fl (initS bo 30 m.places.length)⟩), I 0], []) := by
      intro bo hs hbl
      have s3 := smokeStart_ok hm (by omega) fl (by omega) bo (by omega) 30
      rwa [startS_is hf hs ht] at s3
    have h4 := h3 [min p q, max p q]
    have fi1 := fin [p]
    have fi2 := fin [min p q, max p q]
    simp only [tL, List.map_cons, List.map_nil] at s1 s2 h4
    by_cases hpq : p = q
    · have lc := ln [p]
      have fi1 := fi1 (by intro x; subst hpq; simp)
      subst hpq
      generalize closeS m fl (initS [p] 30 m.places.length) = a at *
      clear fi2 h3 fin ln h4
      obtain ⟨places, roads⟩ := m
      simp only [mineCells] at *
      simp (disch := omega) only [go_sem, K.law28_SmokeSources, ↓reduceIte, lo, ro, mo, fo, po, qo, s1, s2, lc, fi1, aw, Nat.reduceAdd, Nat.reduceSub]
    · have hset : setB [min p q, max p q] m.places.length = true := setB_2 (by omega) (by omega) (by omega)
      have h4 := h4 hset (by simp)
      have fi2 := fi2 (by intro x; simp only [List.mem_cons, List.not_mem_nil, or_false]; omega)
      have la := ln [p]
      have lb := ln [q]
      have lc := ln [min p q, max p q]
      generalize closeS m fl (initS [p] 30 m.places.length) = a at *
      generalize closeS m fl (initS [q] 30 m.places.length) = b at *
      generalize closeS m fl (initS [min p q, max p q] 30 m.places.length) = cc at *
      clear fi1 h3 fin ln hset
      obtain ⟨places, roads⟩ := m
      simp only [mineCells] at *
      simp (disch := omega) only [go_sem, K.law28_SmokeSources, ↓reduceIte, lo, ro, mo, fo, po, qo, s1, s2, h4, la, lb, lc, hpq, fi2, aw, Nat.reduceAdd, Nat.reduceSub]
  · simp only [c, decide_false] at lo
    simp (disch := omega) only [go_sem, K.law28_SmokeSources, ↓reduceIte, lo, aw, Nat.reduceAdd, Nat.reduceSub]
end Go.Ev

