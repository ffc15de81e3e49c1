/- Parts of the proof: see the text that holds the theorem. -/
import Derived.Test.YtdmfagheaapamaaZ6
set_option linter.all false
/- Keys of barriers: what is locked, by the reference: the whole. -/
namespace Go.Ev
open Go
variable [Lib] [Has1] [Has2] [Has3] [Has4] [Has5] [Has6] [Has7] [Has8] [Has9] [Has10]

theorem cutN_hi (x : List Int) (r : Int) : ∀ n i, cutN x r n ≤ i → i < n → nth x i > r
  | 0, i, _, h => by omega
  | n + 1, i, h1, h2 => by
    have e : cutN x r (n + 1) = if nth x n > r then cutN x r n else n + 1 := rfl
    rw [e] at h1
    split at h1
    · by_cases c : i = n
      · subst c; assumption
      · exact cutN_hi x r n i h1 (by omega)
    · omega
theorem cutN_lo (x : List Int) (r : Int) : ∀ n, 0 < cutN x r n → nth x (cutN x r n - 1) ≤ r
  | 0, h => by simp [cutN] at h
  | n + 1, h => by
    have e : cutN x r (n + 1) = if nth x n > r then cutN x r n else n + 1 := rfl
    rw [e] at h ⊢
    split at h
    · rename_i c; rw [if_pos c]; exact cutN_lo x r n h
    · rename_i c; rw [if_neg c]; simp only [Nat.add_sub_cancel]; omega
theorem putS_up {x : List Int} (h : x.Pairwise (· ≤ ·)) (r : Int) : (putS x r).Pairwise (· ≤ ·) := by
  have hi := cutN_hi x r x.length
  have lo := cutN_lo x r x.length
  have le := cutN_le x r x.length
  unfold putS
  generalize cutN x r x.length = c at *
  have td : x.take c ++ x.drop c = x := List.take_append_drop c x
  have h' := h
  rw [← td, List.pairwise_append] at h'
  obtain ⟨p1, p2, p3⟩ := h'
  have a1 : ∀ a ∈ x.take c, a ≤ r := by
    intro a ha
    obtain ⟨i, hi2⟩ := List.mem_iff_getElem?.1 ha
    have il := (List.getElem?_eq_some_iff.1 hi2).1
    rw [List.length_take] at il
    have e : nth x i = a := by rw [List.getElem?_take, if_pos (by omega)] at hi2; exact nth_eq hi2
    have l1 := lo (by omega)
    by_cases q : i = c - 1
    · subst q; omega
    · have := (List.pairwise_iff_getElem.1 h) i (c - 1) (by omega) (by omega) (by omega)
      rw [← nth_eq (List.getElem?_eq_getElem (by omega : i < x.length)), ← nth_eq (List.getElem?_eq_getElem (by omega : c - 1 < x.length))] at this
      omega
  have a2 : ∀ b ∈ x.drop c, r ≤ b := by
    intro b hb
    obtain ⟨i, hi2⟩ := List.mem_iff_getElem?.1 hb
    have il := (List.getElem?_eq_some_iff.1 hi2).1
    simp at il
    rw [List.getElem?_drop] at hi2
    have := hi (c + i) (by omega) (by omega)
    rw [nth_eq hi2] at this
    omega
  rw [List.append_assoc, List.pairwise_append]
  refine ⟨p1, ?_, ?_⟩
  · rw [List.singleton_append, List.pairwise_cons]; exact ⟨a2, p2⟩
  · intro a ha b hb
    simp only [List.singleton_append, List.mem_cons] at hb
    rcases hb with rfl | hb
    · exact a1 a ha
    · exact p3 a ha b hb
theorem putS_perm (x : List Int) (r : Int) : (putS x r).Perm (x ++ [r]) := by
  unfold putS
  have td : x.take (cutN x r x.length) ++ x.drop (cutN x r x.length) = x := List.take_append_drop _ x
  have p : (x.take (cutN x r x.length) ++ [r] ++ x.drop (cutN x r x.length)).Perm (x.take (cutN x r x.length) ++ x.drop (cutN x r x.length) ++ [r]) := by
    rw [List.append_assoc, List.append_assoc]
    exact List.Perm.append_left _ List.perm_append_comm
  rwa [td] at p
theorem up_eq {a b : List Int} (ha : a.Pairwise (· ≤ ·)) (hb : b.Pairwise (· ≤ ·)) (p : a.Perm b) : a = b :=
  List.Perm.eq_of_pairwise (le := (· ≤ ·)) (fun a b _ _ h1 h2 => by omega) ha hb p
theorem lkS_is (r k : List Int) : ∀ j, lkS r k j = sortI (lkN r k j)
  | 0 => rfl
  | j + 1 => by
    have ih := lkS_is r k j
    have e1 : lkS r k (j + 1) = if j < k.length ∧ nth k j ≠ 0 then putS (lkS r k j) (nth r j) else lkS r k j := rfl
    have e2 : lkN r k (j + 1) = if j < k.length ∧ nth k j ≠ 0 then lkN r k j ++ [nth r j] else lkN r k j := rfl
    rw [e1, e2]
    split
    · rw [ih]
      exact up_eq (putS_up (sortI_up _) _) (sortI_up _) ((putS_perm _ _).trans (((sortI_perm _).append_right _).trans (sortI_perm _).symm))
    · exact ih
theorem lkN_min (r k : List Int) : ∀ j, min j k.length = j ∨ lkN r k j = lkN r k (min j k.length)
  | 0 => .inl (by omega)
  | j + 1 => by
    by_cases c : j + 1 ≤ k.length
    · left; omega
    · right
      have e2 : lkN r k (j + 1) = if j < k.length ∧ nth k j ≠ 0 then lkN r k j ++ [nth r j] else lkN r k j := rfl
      rw [e2, if_neg (by omega), show min (j + 1) k.length = min j k.length by omega]
      rcases lkN_min r k j with h | h
      · rw [h]
      · exact h
theorem opApp_subI (H : Heap) (x : D) (id n lo hi : Nat) (l : List Int) (h : H[id]? = some (arr1 l)) (hn : n = l.length) :
    opApp H 1 true (some x) (some (.sub id 0 n lo hi)) = opApp H 1 true (some x) (some (.t (.sl (((l.drop lo).take (hi - lo)).map (T.int .i64))))) := by
  have e1 : elems H (.sub id 0 n lo hi) = some ((((l.drop lo).take (hi - lo)).map (T.int .i64)).map .t) := by
    subst hn
    simp [elems, arrAt, h, List.map_drop, List.map_take]
  have e2 : elems H (.t (.sl (((l.drop lo).take (hi - lo)).map (T.int .i64)))) = some ((((l.drop lo).take (hi - lo)).map (T.int .i64)).map .t) := rfl
  simp only [opApp, Option.bind_some, appendD, e1, e2]
section
variable (b u v y : Obj) (ds : Heap)
theorem hC_get : (ds ++ [u] ++ [v])[ds.length + 1]? = some v := by simp
theorem hC_get0 : (b :: (ds ++ [u] ++ [v]))[ds.length + 1]? = some u := by simp
theorem hC_get2 : (ds ++ [u] ++ [v])[ds.length]? = some u := by simp
theorem hC_set : (b :: (ds ++ [u] ++ [v])).set (ds.length + 1 + 1) y = b :: (ds ++ [u] ++ [y]) := by simp
end
abbrev rlA (roads keys : List Int) (out : Bool) (j : Int) : St := ⟨[.und, .bp 0 0, .und, .nil, I j, .und], [.box [.t (tL roads), .t (tL keys), B out]]⟩
abbrev rlB (roads keys : List Int) (out : Bool) (ds : Heap) (x : List Int) (j : Int) : St := ⟨[.und, .bp 0 0, .und, .ref (ds.length + 1) 0 x.length, I j, .und], .box [.t (tL roads), .t (tL keys), B out] :: (ds ++ [arr1 x])⟩
theorem rl_roundB {roads keys x : List Int} {out : Bool} {j : Nat} (hj : j < roads.length) (hj2 : j < keys.length) (hr : roads.length ≤ 1000000) (hk : keys.length ≤ 1000000) (hx : x.length ≤ 1000000) (ds : Heap) (k : Nat) (c : nth keys j ≠ 0) :
    roundC false [0, 2, 5] k (exS CALL K.ref33_Locked_l1b (rlB roads keys out ds x j)) = some (rlB roads keys out (ds ++ [arr1 x]) (putS x (nth roads j)) (j + 1)) := by
  have lp : ∀ z0 z2 : D, exS CALL K.ref33_Locked_l2 ⟨[z0, .bp 0 0, z2, .ref (ds.length + 1) 0 x.length, I j, I x.length], .box [.t (tL roads), .t (tL keys), B out] :: (ds ++ [arr1 x])⟩ = _ := fun z0 z2 => loop_is (rl_inner hj hr hx ds x.length (Nat.le_refl _) z0 z2)
  have cl := cutN_le x (nth roads j) x.length
  unfold putS
  generalize cutN x (nth roads j) x.length = n at *
  have s1 := opApp_subI (.box [.t (tL roads), .t (tL keys), B out] :: (ds ++ [arr1 x])) .nil (ds.length + 1) x.length 0 n x (hB_get ..) rfl
  have tk : (List.take n x).length = n := by rw [List.length_take]; omega
  have td : (x.drop n).take (x.length - n) = x.drop n := List.take_of_length_le (by rw [List.length_drop]; omega)
  have dl : (x.drop n).length = x.length - n := List.length_drop ..
  have fl : n + 1 + (x.length - n) = x.length + 1 := by omega
  have s2 := opApp_subI (.box [.t (tL roads), .t (tL keys), B out] :: (ds ++ [arr1 x] ++ [.arr 1 false 0 (List.map D.t (List.map (T.int .i64) (x.take n)) ++ [I (nth roads j)])])) (.ref (ds.length + 1 + 1) 0 (n + 1)) (ds.length + 1) x.length n x.length x (hC_get0 ..) rfl
  rw [td] at s2
  simp only [arr1, rlB, List.drop_zero, Nat.sub_zero] at *
  simp (disch := omega) only [go_sem, K.ref33_Locked_l1b, ↓reduceIte, c, lp, hB_get, hB_len, s1, s2, tk, dl, fl, hC_get, hC_get2, hC_set, List.map_append, List.map_cons, List.map_nil, List.length_append, List.length_cons, List.length_nil, Nat.reduceAdd, Nat.reduceSub]
theorem opApp_nilT (H : Heap) (x : D) : opApp H 1 true (some x) (some .nil) = opApp H 1 true (some x) (some (.t (.sl []))) := rfl
theorem rl_roundA {roads keys : List Int} {out : Bool} {j : Nat} (hj : j < roads.length) (hj2 : j < keys.length) (hr : roads.length ≤ 1000000) (hk : keys.length ≤ 1000000) (k : Nat) (c : nth keys j ≠ 0) :
    roundC false [0, 2, 5] k (exS CALL K.ref33_Locked_l1b (rlA roads keys out j)) = some (rlB roads keys out [] [nth roads j] (j + 1)) := by
  have lp : ∀ z0 z2 : D, exS CALL K.ref33_Locked_l2 ⟨[z0, .bp 0 0, z2, .nil, I j, I 0], [.box [.t (tL roads), .t (tL keys), B out]]⟩ = some (.exit 2, ⟨[.und, .bp 0 0, .und, .nil, I j, I 0], [.box [.t (tL roads), .t (tL keys), B out]]⟩) := by
    intro z0 z2
    refine loop_is (loopC_exit ?_ (by simp))
    simp (disch := omega) only [go_sem, K.ref33_Locked_l2b, ↓reduceIte, Nat.reduceAdd, Nat.reduceSub]
  simp only [arr1, rlA, rlB, List.nil_append] at *
  simp (disch := omega) only [go_sem, K.ref33_Locked_l1b, ↓reduceIte, c, lp, opApp_nilT, List.map_nil, List.nil_append, List.append_nil, List.length_nil, Nat.reduceAdd, Nat.reduceSub]
theorem rl_skipB {roads keys x : List Int} {out : Bool} {j : Nat} (hj : j < roads.length) (hj2 : j < keys.length) (hr : roads.length ≤ 1000000) (hk : keys.length ≤ 1000000) (ds : Heap) (k : Nat) (c : nth keys j = 0) :
    roundC false [0, 2, 5] k (exS CALL K.ref33_Locked_l1b (rlB roads keys out ds x j)) = some (rlB roads keys out ds x (j + 1)) := by
  simp only [arr1, rlB] at *
  simp (disch := omega) only [go_sem, K.ref33_Locked_l1b, ↓reduceIte, c, Nat.reduceAdd, Nat.reduceSub]
theorem rl_skipA {roads keys : List Int} {out : Bool} {j : Nat} (hj : j < roads.length) (hj2 : j < keys.length) (hr : roads.length ≤ 1000000) (hk : keys.length ≤ 1000000) (k : Nat) (c : nth keys j = 0) :
    roundC false [0, 2, 5] k (exS CALL K.ref33_Locked_l1b (rlA roads keys out j)) = some (rlA roads keys out (j + 1)) := by
  simp only [rlA] at *
  simp (disch := omega) only [go_sem, K.ref33_Locked_l1b, ↓reduceIte, c, Nat.reduceAdd, Nat.reduceSub]
theorem rlocked_ok (k : Keys) (hl : k.keys.length ≤ 1000000) (hr : k.roads.length ≤ 1000000) : CALL 0 N.ref33_Locked [.t k.e] [] = some (.t (tL (sortI (lkN k.roads k.keys k.roads.length))), []) := by
  refine CALL_of K.t_ref33_Locked rfl ?_
  obtain ⟨roads, keys, out⟩ := k
  simp only at *
  have fin : lkN roads keys roads.length = lkN roads keys (min roads.length keys.length) := by
    rcases lkN_min roads keys roads.length with h | h
    · rw [h]
    · exact h
  rw [fin, ← lkS_is]
  have lp : ∀ z0 z2 z5 : D, ∃ q, exS CALL K.ref33_Locked_l1 ⟨[z0, .bp 0 0, z2, .nil, I 0, z5], [.box [.t (tL roads), .t (tL keys), B out]]⟩ = some q ∧
      ((∃ ds, q = (.exit 0, rlB roads keys out ds (lkS roads keys (min roads.length keys.length)) (min roads.length keys.length : Nat))) ∨ (q = (.exit 0, rlA roads keys out (min roads.length keys.length : Nat)) ∧ lkS roads keys (min roads.length keys.length) = [])) := by
    intro z0 z2 z5
    refine loop_x (fun j st => (∃ ds, st = rlB roads keys out ds (lkS roads keys j) j) ∨ (st = rlA roads keys out j ∧ lkS roads keys j = [])) (min roads.length keys.length) _ (.inr ⟨rfl, rfl⟩) ?_ ?_
    · rintro j st hj h
      left
      have e1 : lkS roads keys (j + 1) = if j < keys.length ∧ nth keys j ≠ 0 then putS (lkS roads keys j) (nth roads j) else lkS roads keys j := rfl
      have sl := lkS_len roads keys j
      have cst : ((j + 1 : Nat) : Int) = (j : Int) + 1 := by omega
      by_cases c : nth keys j = 0
      · rw [if_neg (fun h => h.2 c)] at e1
        rcases h with ⟨ds, rfl⟩ | ⟨rfl, e⟩
        · exact ⟨_, rl_skipB (by omega) (by omega) hr hl ds _ c, .inl ⟨ds, by rw [e1, cst]⟩⟩
        · exact ⟨_, rl_skipA (by omega) (by omega) hr hl _ c, .inr ⟨by rw [cst], by rw [e1, e]⟩⟩
      · rw [if_pos ⟨by omega, c⟩] at e1
        rcases h with ⟨ds, rfl⟩ | ⟨rfl, e⟩
        · exact ⟨_, rl_roundB (by omega) (by omega) hr hl (by omega) ds _ c, .inl ⟨_, by rw [e1, cst]⟩⟩
        · refine ⟨_, rl_roundA (by omega) (by omega) hr hl _ c, .inl ⟨[], ?_⟩⟩
          rw [e1, e, cst]
          rfl
    · rintro st h
      rcases h with ⟨ds, rfl⟩ | ⟨rfl, e⟩
      · refine ⟨(.exit 0, rlB roads keys out ds (lkS roads keys (min roads.length keys.length)) (min roads.length keys.length : Nat)), ?_, by simp, .inl ⟨ds, rfl⟩⟩
        generalize lkS roads keys (min roads.length keys.length) = x
        by_cases c : roads.length ≤ keys.length
        · rw [show min roads.length keys.length = roads.length by omega]
          simp only [rlB, arr1]
          simp (disch := omega) only [go_sem, K.ref33_Locked_l1b, ↓reduceIte, Nat.reduceAdd, Nat.reduceSub]
        · rw [show min roads.length keys.length = keys.length by omega]
          simp only [rlB, arr1]
          simp (disch := omega) only [go_sem, K.ref33_Locked_l1b, ↓reduceIte, Nat.reduceAdd, Nat.reduceSub]
      · refine ⟨(.exit 0, rlA roads keys out (min roads.length keys.length : Nat)), ?_, by simp, .inr ⟨rfl, e⟩⟩
        by_cases c : roads.length ≤ keys.length
        · rw [show min roads.length keys.length = roads.length by omega]
          simp only [rlA]
          simp (disch := omega) only [go_sem, K.ref33_Locked_l1b, ↓reduceIte, Nat.reduceAdd, Nat.reduceSub]
        · rw [show min roads.length keys.length = keys.length by omega]
          simp only [rlA]
          simp (disch := omega) only [go_sem, K.ref33_Locked_l1b, ↓reduceIte, Nat.reduceAdd, Nat.reduceSub]
  obtain ⟨q, hq, h⟩ := lp (.t (Keys.mk roads keys out).e) .nil .und
  generalize min roads.length keys.length = m at *
  generalize lkS roads keys m = x at *
  clear lp fin
  rcases h with ⟨ds, rfl⟩ | ⟨rfl, rfl⟩
  · simp only [rlB, arr1] at hq
    simp (disch := omega) only [go_sem, K.ref33_Locked, ↓reduceIte, hq, hB_get, hB_len, Nat.reduceAdd, Nat.reduceSub]
  · simp only [rlA] at hq
    simp (disch := omega) only [go_sem, K.ref33_Locked, ↓reduceIte, hq, List.map_nil, tL, Nat.reduceAdd, Nat.reduceSub]
end Go.Ev

/- Keys of barriers: the program and the reference agree. -/
namespace Go.Ev
open Go
variable [Lib] [Has1] [Has2] [Has3] [Has4] [Has5] [Has6] [Has7] [Has8] [Has9] [Has10]

theorem moveF_len (k : Keys) (i a b : Int) (f : Bool) : (moveF k i a b f).1.roads = k.roads ∧ (moveF k i a b f).1.keys.length = k.keys.length := by
  unfold moveF
  repeat' split
  all_goals simp
theorem turnF_len (k : Keys) (b : Bool) : (turnF k b).1.roads = k.roads ∧ (turnF k b).1.keys.length = k.keys.length := by
  unfold turnF
  repeat' split
  all_goals simp
theorem stepK_len (k : Keys) (w i : Int) : (stepK k w i).1.roads = k.roads ∧ (stepK k w i).1.keys.length = k.keys.length := by
  unfold stepK
  repeat' split
  all_goals first | exact moveF_len .. | exact turnF_len ..
theorem agree33_ok (k : Keys) (hl : k.keys.length ≤ 1000000) (hr : k.roads.length ≤ 1000000) (i : Int) : CALL 0 N.law33_agree [.t k.e, I i] [] = some (B true, []) := by
  refine CALL_of K.t_law33_agree rfl ?_
  have a1 := klocked_ok k hl hr
  have a2 := rlocked_ok k hl hr
  have v1 := kvalid_ok k (by omega) (by omega)
  have v2 := rkeys_ok k (by omega) (by omega)
  have ll : (sortI (lkN k.roads k.keys k.roads.length)).length ≤ 1000000 := by
    have := lkN_len k.roads k.keys k.roads.length
    rw [sortI_len]; omega
  have st := fun j : Int => step_ok k hl hr j i
  have ss := fun j : Int => rSame_self (stepK k j i).1 (by rw [(stepK_len k j i).1]; exact hr) (by rw [(stepK_len k j i).2]; exact hl)
  generalize sortI (lkN k.roads k.keys k.roads.length) = x at *
  generalize keysF k = hv at *
  have l1 : ∀ z0 z3 z5 z6 z7 z8 z9 z10 z11 : D, exS CALL K.law33_agree_l1 ⟨[z0, I i, .bp 0 0, z3, I 0, z5, z6, z7, z8, z9, z10, z11], [.box [.t (tL k.roads), .t (tL k.keys), B k.out]]⟩ =
      some (.exit 0, ⟨[.und, I i, .bp 0 0, .und, I 6, .und, .und, .und, .und, .und, .und, .und], [.box [.t (tL k.roads), .t (tL k.keys), B k.out]]⟩) := by
    intro z0 z3 z5 z6 z7 z8 z9 z10 z11
    refine loop_up (fun j => ⟨[.und, I i, .bp 0 0, .und, I j, .und, .und, .und, .und, .und, .und, .und], [.box [.t (tL k.roads), .t (tL k.keys), B k.out]]⟩) 6 rfl ?_ ?_ (by simp)
    · intro j hj
      have s := st j
      have t := ss j
      generalize stepK k j i = q at *
      obtain ⟨⟨r2, k2, o2⟩, e2⟩ := q
      obtain ⟨roads, keys, out⟩ := k
      simp only at *
      clear st ss
      simp (disch := omega) only [go_sem, K.law33_agree_l1b, ↓reduceIte, s, t, Nat.reduceAdd, Nat.reduceSub]
    · clear st ss
      simp (disch := omega) only [go_sem, K.law33_agree_l1b, ↓reduceIte, show ((6 : Nat) : Int) = 6 from rfl, Nat.reduceAdd, Nat.reduceSub]
  have l2 : ∀ z0 z1 z3 z4 z5 z6 z7 z8 : D, exS CALL K.law33_agree_l2 ⟨[z0, z1, .bp 0 0, z3, z4, z5, z6, z7, z8, .t (tL x), .t (tL x), I 0], [.box [.t (tL k.roads), .t (tL k.keys), B k.out]]⟩ =
      some (.exit 2, ⟨[.und, .und, .bp 0 0, .und, .und, .und, .und, .und, .und, .t (tL x), .t (tL x), I x.length], [.box [.t (tL k.roads), .t (tL k.keys), B k.out]]⟩) := by
    intro z0 z1 z3 z4 z5 z6 z7 z8
    refine loop_up (fun j => ⟨[.und, .und, .bp 0 0, .und, .und, .und, .und, .und, .und, .t (tL x), .t (tL x), I j], [.box [.t (tL k.roads), .t (tL k.keys), B k.out]]⟩) x.length rfl ?_ ?_ (by simp)
    · intro j hj
      clear st ss l1
      simp (disch := omega) only [go_sem, K.law33_agree_l2b, ↓reduceIte, Nat.reduceAdd, Nat.reduceSub]
    · clear st ss l1
      simp (disch := omega) only [go_sem, K.law33_agree_l2b, ↓reduceIte, Nat.reduceAdd, Nat.reduceSub]
  clear st ss
  obtain ⟨roads, keys, out⟩ := k
  simp only at *
  cases hv <;> simp (disch := omega) only [go_sem, K.law33_agree, ↓reduceIte, l1, l2, a1, a2, v1, v2, Nat.reduceAdd, Nat.reduceSub] <;> try rfl
end Go.Ev

/- Keys of barriers: the plain laws; starts. -/
namespace Go.Ev
open Go
variable [Lib] [Has1] [Has2] [Has3] [Has4] [Has5] [Has6] [Has7] [Has8] [Has9] [Has10]

theorem keysF_iff (k : Keys) : keysF k = true ↔ kroadsF k.roads = true ∧ k.keys.length = k.roads.length ∧ (∀ x ∈ k.keys, 0 ≤ x ∧ x ≤ 2) ∧ (k.out = true → ∀ x ∈ k.keys, x = 2) := by
  unfold keysF boxedF
  simp only [Bool.and_eq_true, decide_eq_true_eq, Bool.not_eq_true', List.any_eq_false, Bool.not_eq_false', Bool.or_eq_true, Bool.not_eq_true, decide_eq_false_iff_not, Decidable.not_not, and_assoc]
  constructor
  · rintro ⟨a, b, c, d⟩
    refine ⟨a, b, fun x hx => by simpa using c x hx, fun ho x hx => ?_⟩
    rcases d with d | d
    · rw [ho] at d; cases d
    · exact d x hx
  · rintro ⟨a, b, c, d⟩
    refine ⟨a, b, fun x hx => by simpa using c x hx, ?_⟩
    cases ho : k.out with
    | false => left; rfl
    | true => right; exact d ho
abbrev zK (l : List Int) : Keys := ⟨l, List.replicate l.length 0, false⟩
theorem rstart_ok (l : List Int) (hl : l.length ≤ 12) (hv : kroadsF l = true) : CALL 0 N.ref33_Start [.t (tL l)] [] = some (.tup [.t (zK l).e, I 0], []) := by
  refine CALL_of K.t_ref33_Start rfl ?_
  have v := rkeys_ok (zK l) (by simp; omega) (by simp only; omega)
  have kv : keysF (zK l) = true := (keysF_iff _).2 ⟨hv, by simp, fun x hx => by rw [List.eq_of_mem_replicate hx]; omega, fun h => by cases h⟩
  rw [kv] at v
  have rep : List.replicate l.length (T.int .i64 0) = (List.replicate l.length (0 : Int)).map (T.int .i64) := by simp
  have rl : (List.replicate l.length (0 : Int)).length = l.length := by simp
  simp only [zK] at *
  generalize List.replicate l.length (0 : Int) = z at *
  simp (disch := omega) only [go_sem, K.ref33_Start, ↓reduceIte, v, rep, rl, Nat.reduceAdd, Nat.reduceSub]
end Go.Ev

/- KeysBack's law. -/
namespace Go.Ev
open Go
variable [Lib] [Has1] [Has2] [Has3] [Has4] [Has5] [Has6] [Has7] [Has8] [Has9] [Has10]

abbrev kbS (e : Dice) (k : Keys) (n : Int) : St := ⟨[.und, .und, .bp 0 0, .bp 1 0, I n, .und, .und, .und, .und, .und, .und, .und, .und, .und, .und, .und, .und, .und], [e.obj, .box [.t (tL k.roads), .t (tL k.keys), B k.out]]⟩
def kbP (n0 j : Nat) (st : St) : Prop := ∃ (e : Dice) (k : Keys), st = kbS e k ((n0 : Int) - j) ∧ e.light ∧ k.keys.length ≤ 12 ∧ k.roads.length ≤ 12
end Go.Ev

/- KeysBack's law: the whole. -/
namespace Go.Ev
open Go
variable [Lib] [Has1] [Has2] [Has3] [Has4] [Has5] [Has6] [Has7] [Has8] [Has9] [Has10]

end Go.Ev

/- KeysMade's law. -/
namespace Go.Ev
open Go
variable [Lib] [Has1] [Has2] [Has3] [Has4] [Has5] [Has6] [Has7] [Has8] [Has9] [Has10]

def mul3 : Nat → List Int
  | 0 => []
  | j + 1 => mul3 j ++ [(j : Int) * 3]
theorem mul3_len : ∀ j, (mul3 j).length = j
  | 0 => rfl
  | j + 1 => by simp [mul3, mul3_len j]
theorem mul3_ok {n : Nat} (h1 : 1 ≤ n) (h2 : n ≤ 4) : kroadsF (mul3 n) = true := by
  have : n = 1 ∨ n = 2 ∨ n = 3 ∨ n = 4 := by omega
  rcases this with rfl | rfl | rfl | rfl <;> decide
abbrev kmS (e : Dice) (p : Bool) (l : List Int) (k : Keys) (n : Int) : St := ⟨[.und, .und, .bp 0 0, .ref 1 0 l.length, .und, .bp 2 0, I n, .und, .und, .und], [e.obj, .arr 1 p 0 ((l.map (T.int .i64)).map .t), .box [.t (tL k.roads), .t (tL k.keys), B k.out]]⟩
def kmP (p : Bool) (l : List Int) (N n0 j : Nat) (st : St) : Prop := ∃ (e : Dice) (k : Keys), st = kmS e p l k ((n0 : Int) - j) ∧ e.light ∧ k.keys.length = N ∧ k.roads.length = N
theorem km_round {p : Bool} {l : List Int} (hl : l.length ≤ 4) {N n0 j : Nat} (hN : N ≤ 12) (hn : n0 ≤ 25) (hj : j < n0) {st : St} (hP : kmP p l N n0 j st) : ∃ st', roundC true [0, 1, 4, 7, 8, 9] st.H.length (exS CALL K.law33_KeysMade_l2b st) = some st' ∧ kmP p l N n0 (j + 1) st' := by
  obtain ⟨e, k, rfl, el, h1, h2⟩ := hP
  obtain ⟨a, e1, ao, l1, a0, a9⟩ := next_x el ((l.length : Int) + 1) (by omega) (by omega)
  obtain ⟨b, e2, bo, l2, b0, b9⟩ := next_x l1 2 (by omega) (by omega)
  have ag := agree33_ok k (by omega) (by omega) (a - b)
  obtain ⟨w, e3, wo, l3, w0, w9⟩ := next_x l2 6 (by omega) (by omega)
  have so := step_ok k (by omega) (by omega) w (a - b)
  have sz := stepK_len k w (a - b)
  have kk : ((n0 : Int) - j) - 1 = (n0 : Int) - ((j + 1 : Nat) : Int) := by omega
  have q0 : 0 < (n0 : Int) - j := by omega
  have q9 : (n0 : Int) - j ≤ 25 := by omega
  refine ⟨kmS e3 p l (stepK k w (a - b)).1 ((n0 : Int) - ((j + 1 : Nat) : Int)), ?_, e3, _, rfl, l3, by rw [sz.2, h1], by rw [sz.1, h2]⟩
  rw [← kk]
  clear sz
  generalize (n0 : Int) - j = n at *
  generalize stepK k w (a - b) = q at *
  obtain ⟨⟨r2, k2, o2⟩, e2'⟩ := q
  obtain ⟨roads, keys, out⟩ := k
  simp only [kmS] at *
  simp (disch := omega) only [go_sem, K.law33_KeysMade_l2b, ↓reduceIte, ao, bo, ag, wo, so, Nat.reduceAdd, Nat.reduceSub]
theorem km_first (e : Dice) {n : Int} (n0 : 0 ≤ n) (n9 : n ≤ 4) : ∀ z0 z1 z5 z6 z7 z8 z9 : D, exS CALL K.law33_KeysMade_l1 ⟨[z0, z1, .bp 0 0, .ref 1 0 0, I n, z5, z6, z7, z8, z9], [e.obj, .arr 1 false 0 []]⟩ =
    some (.exit 0, ⟨[.und, .und, .bp 0 0, .ref 1 0 (mul3 n.toNat).length, I 0, .und, .und, .und, .und, .und], [e.obj, .arr 1 false 0 (((mul3 n.toNat).map (T.int .i64)).map .t)]⟩) := by
  intro z0 z1 z5 z6 z7 z8 z9
  have ml := mul3_len
  have e1 : ∀ j, mul3 (j + 1) = mul3 j ++ [(j : Int) * 3] := fun _ => rfl
  have key : ∀ j : Nat, n - ((j + 1 : Nat) : Int) = n - j - 1 := fun j => by omega
  refine loop_up (fun j => ⟨[.und, .und, .bp 0 0, .ref 1 0 (mul3 j).length, I (n - j), .und, .und, .und, .und, .und], [e.obj, .arr 1 false 0 (((mul3 j).map (T.int .i64)).map .t)]⟩) n.toNat ?_ ?_ ?_ (by simp)
  · simp (disch := omega) only [go_sem, ↓reduceIte, mul3, List.map_nil, List.length_nil, Nat.reduceAdd, Nat.reduceSub, Int.natCast_zero, Int.sub_zero]
  · intro j hj
    have q0 : 0 < n - j := by omega
    have q9 : n - j ≤ 4 := by omega
    have mj := ml j
    rw [e1, key]
    clear e1 key
    generalize n - (j : Int) = m at *
    simp (disch := omega) only [go_sem, K.law33_KeysMade_l1b, ↓reduceIte, ml, List.map_append, List.map_cons, List.map_nil, List.length_append, List.length_cons, List.length_nil, Nat.reduceAdd, Nat.reduceSub]
  · have z : n - ((n.toNat : Nat) : Int) = 0 := by omega
    rw [z]
    simp (disch := omega) only [go_sem, K.law33_KeysMade_l1b, ↓reduceIte, Nat.reduceAdd, Nat.reduceSub]
end Go.Ev

/- KeysMade's law: the whole. -/
namespace Go.Ev
open Go
variable [Lib] [Has1] [Has2] [Has3] [Has4] [Has5] [Has6] [Has7] [Has8] [Has9] [Has10]

theorem sc_agg (cs : List T) (x : D) : [D.t (T.agg cs), x].all scalarD = false := rfl
theorem km_loop {e : Dice} (el : e.light) (p : Bool) (l : List Int) (hl : l.length ≤ 4) (k : Keys) {N : Nat} (hN : N ≤ 12) (h1 : k.keys.length = N) (h2 : k.roads.length = N) {n : Int} (n0 : 0 ≤ n) (n9 : n < 25) :
    ∃ (e' : Dice) (k' : Keys), e'.light ∧ k'.keys.length = N ∧ k'.roads.length = N ∧ ∀ z0 z1 z4 z7 z8 z9 : D, exS CALL K.law33_KeysMade_l2 ⟨[z0, z1, .bp 0 0, .ref 1 0 l.length, z4, .bp 2 0, I n, z7, z8, z9], [e.obj, .arr 1 p 0 ((l.map (T.int .i64)).map .t), .box [.t (tL k.roads), .t (tL k.keys), B k.out]]⟩ = some (.exit 2, kmS e' p l k' 0) := by
  have key : ∀ z0 z1 z4 z7 z8 z9 : D, ∃ q, exS CALL K.law33_KeysMade_l2 ⟨[z0, z1, .bp 0 0, .ref 1 0 l.length, z4, .bp 2 0, I n, z7, z8, z9], [e.obj, .arr 1 p 0 ((l.map (T.int .i64)).map .t), .box [.t (tL k.roads), .t (tL k.keys), B k.out]]⟩ = some q ∧
      ∃ (e' : Dice) (k' : Keys), q = (.exit 2, kmS e' p l k' 0) ∧ e'.light ∧ k'.keys.length = N ∧ k'.roads.length = N := by
    intro z0 z1 z4 z7 z8 z9
    refine loop_x (kmP p l N n.toNat) n.toNat _ ?_ ?_ ?_
    · refine ⟨e, k, ?_, el, h1, h2⟩
      rw [show ((n.toNat : Nat) : Int) - ((0 : Nat) : Int) = n by omega]
      simp (disch := omega) only [go_sem, kmS, ↓reduceIte, Nat.reduceAdd, Nat.reduceSub]
    · intro j st hj hP
      exact .inl (km_round hl hN (by omega) hj hP)
    · rintro st ⟨e', k', rfl, a⟩
      rw [Int.sub_self]
      refine ⟨(.exit 2, kmS e' p l k' 0), ?_, by simp, e', k', rfl, a⟩
      simp only [kmS]
      simp (disch := omega) only [go_sem, K.law33_KeysMade_l2b, ↓reduceIte, Nat.reduceAdd, Nat.reduceSub]
  obtain ⟨q, hq, e', k', rfl, a, b, c⟩ := key .und .und .und .und .und .und
  refine ⟨e', k', a, b, c, fun z0 z1 z4 z7 z8 z9 => ?_⟩
  rw [← hq]
  show loopC true _ _ ⟨dropV _ _, _⟩ = loopC true _ _ ⟨dropV _ _, _⟩
  simp (disch := omega) only [go_sem, Nat.reduceAdd, Nat.reduceSub]
theorem KeysMade_law (aw : CALL 0 N.law33_awake [] [] = some (B true, [])) (li : List Int) : CALL 0 N.law33_KeysMade [.t (tL li)] [] = some (B true, []) := by
  refine CALL_of K.t_law33_KeysMade rfl ?_
  have lo := light_ok li
  by_cases c : li.length ≤ 400
  · simp only [c, decide_true] at lo
    have ro := roll_x li
    have d0 : (Dice.mk li 0).light := c
    generalize (Dice.mk li 0) = d at *
    obtain ⟨v, e1, vo, l1, v0, v9⟩ := next_x d0 4 (by omega) (by omega)
    have lp1 := km_first e1 (n := 1 + v) (by omega) (by omega)
    have ml := mul3_len (1 + v).toNat
    have kr := mul3_ok (n := (1 + v).toNat) (by omega) (by omega)
    generalize mul3 (1 + v).toNat = l at *
    have so := rstart_ok l (by omega) kr
    obtain ⟨n, e2, no, l2, n0, n9⟩ := next_x l1 25 (by omega) (by omega)
    obtain ⟨e3, k, l3, h1, h2, lp⟩ := km_loop l2 true l (by omega) (zK l) (N := l.length) (by omega) (by simp) rfl n0 n9
    have cp := rcopy1_ok k (by omega) (by omega)
    obtain ⟨w, e4, wo, l4, w0, w9⟩ := next_x l3 4 (by omega) (by omega)
    simp only [zK, Keys.e] at *
    generalize List.replicate l.length (0 : Int) = z at *
    have : w = 0 ∨ w = 1 ∨ w = 2 ∨ w = 3 := by omega
    rcases this with rfl | rfl | rfl | rfl
    · obtain ⟨x, e5, xo, l5, xm⟩ := of_x l4 [-1, 3] (by simp) (by simp)
      have ag := agree33_ok ⟨k.roads, k.keys.set 0 x, k.out⟩ (by simp only [List.length_set]; omega) (by simp only; omega) 0
      obtain ⟨roads, keys, out⟩ := k
      simp only [kmS, arr1, tL, List.map_cons, List.map_nil] at *
      simp (disch := omega) only [go_sem, K.law33_KeysMade, ↓reduceIte, lo, ro, vo, lp1, so, no, lp, cp, wo, xo, ag, aw, sc_agg, Bool.false_eq_true, Nat.reduceAdd, Nat.reduceSub]
    · have ag := agree33_ok ⟨k.roads, k.keys, true⟩ (by simp only; omega) (by simp only; omega) 0
      obtain ⟨roads, keys, out⟩ := k
      simp only [kmS, arr1] at *
      simp (disch := omega) only [go_sem, K.law33_KeysMade, ↓reduceIte, lo, ro, vo, lp1, so, no, lp, cp, wo, ag, aw, sc_agg, Bool.false_eq_true, Nat.reduceAdd, Nat.reduceSub]
    · have tkd : List.take (k.keys.length - 1) (List.drop 1 ((k.keys.map (T.int .i64)).map D.t)) = ((k.keys.drop 1).map (T.int .i64)).map D.t := by
        rw [← List.map_drop, ← List.map_drop, List.take_of_length_le (by simp)]
      have ag := agree33_ok ⟨k.roads, k.keys.drop 1, k.out⟩ (by simp only [List.length_drop]; omega) (by simp only; omega) 0
      obtain ⟨roads, keys, out⟩ := k
      simp only [kmS, arr1] at *
      simp (disch := omega) only [go_sem, K.law33_KeysMade, ↓reduceIte, lo, ro, vo, lp1, so, no, lp, cp, wo, ag, aw, tkd, sc_agg, Bool.false_eq_true, Nat.reduceAdd, Nat.reduceSub]
    · have td : List.take (k.roads.length - 1) (List.drop 1 (k.roads.map (T.int .i64))) = (k.roads.drop 1).map (T.int .i64) := by
        rw [← List.map_drop, List.take_of_length_le (by simp)]
      have hs : headSize 1 (((k.roads.drop 1).map (T.int .i64)).map D.t) = true := by
        cases k.roads.drop 1 <;> rfl
      have ln : (k.roads.drop 1).length ≤ 4 := by simp only [List.length_drop]; omega
      have ag := agree33_ok ⟨[200] ++ k.roads.drop 1, k.keys, k.out⟩ (by simp only; omega) (by simp only [List.length_append, List.length_drop, List.length_cons, List.length_nil]; omega) 0
      obtain ⟨roads, keys, out⟩ := k
      simp only [List.cons_append, List.nil_append, Keys.e, tL, List.map_cons] at ag
      simp only at td hs ln
      generalize List.drop 1 roads = rd at *
      simp only [kmS, arr1] at *
      simp (disch := omega) only [go_sem, K.law33_KeysMade, ↓reduceIte, lo, ro, vo, lp1, so, no, lp, cp, wo, ag, aw, td, hs, List.map_cons, sc_agg, Bool.false_eq_true, Nat.reduceAdd, Nat.reduceSub]
  · simp only [c, decide_false] at lo
    simp (disch := omega) only [go_sem, K.law33_KeysMade, ↓reduceIte, lo, aw, Nat.reduceAdd, Nat.reduceSub]
end Go.Ev

