/- Parts of the proof: see the text that holds the theorem. -/
import Derived.Test.YtgedjeljhicagaaGreatZ3
set_option linter.all false
set_option maxRecDepth 100000
namespace Go.Ev
open Go
variable [Lib] [Has1] [Has2]
abbrev mineCells (m : Mine) : List D := [.t (.sl (m.places.map Place.e)), .t (.sl (m.roads.map Road.e))]
theorem eq_into (H : Heap) (into : Option (List Int)) (hi : ∀ l, into = some l → l ≠ []) : opEqk H .sl false (some (intoD into)) (some .nil) = some (B (into.isNone), H) := by
 cases into with
 | none => rfl
 | some l => exact opEqk_sl H _ (by simpa using hi l rfl)
@[go_sem] theorem old_intoD (k n : Nat) (into : Option (List Int)) : old k n (intoD into) = true := by
 cases into <;> simp only [intoD, go_sem]
theorem close_step {m : Mine} (h : m.ok) (t : Int) (ht : t ≤ 1000000000000) (ht0 : -1000000000000 ≤ t) (into : Option (List Int)) (hi : ∀ l, into = some l → l ≠ [] ∧ l.length ≤ 64) (l : List Int) (hl : l.length = m.places.length) (hb : bnd l)
 (k : Nat) (hk : k < m.roads.length) (ag : Bool) :
 roundC true [0, 1, 5, 9] 2 (exS CALL K.ref25_close_l2b ⟨[.und, .und, I t, intoD into, .bp 0 0, .und, .ref 1 0 l.length, B ag, I k, .und], [.box (mineCells m), .arr 1 false 0 ((l.map (T.int .i64)).map .t)]⟩) =
  some ⟨[.und, .und, I t, intoD into, .bp 0 0, .und, .ref 1 0 (stepF m t into k (l, ag)).1.length, B (stepF m t into k (l, ag)).2, I (k + 1), .und], [.box (mineCells m), .arr 1 false 0 (((stepF m t into k (l, ag)).1.map (T.int .i64)).map .t)]⟩ := by
 have np := h.np
 have nr := h.nr
 have t1 := time_ok h k hk false
 have t2 := time_ok h k hk true
 have w1 := (walkT_lo h k hk false).2
 have w2 := (walkT_lo h k hk true).2
 obtain ⟨f0, f1, t0, t1', -, -, -, -, -, -, -, -, -, -, -⟩ := h.rs _ (nth_mem hk)
 have e0 := fun H => eq_into H into fun l hl => (hi l hl).1
 have lw1 := lower_ok l hb (by omega) (nth m.roads k).frm (nth m.roads k).to f0 (by omega) t0 (by omega) (walkT m k false 6 9 12) t (by omega) ht ht0
 have lw2 := lower_ok l hb (by omega) (nth m.roads k).to (nth m.roads k).frm t0 (by omega) f0 (by omega) (walkT m k true 6 9 12) t (by omega) ht ht0
 have hl' : (lowerF l (nth m.roads k).frm.toNat (nth m.roads k).to.toNat (walkT m k false 6 9 12) t).length = l.length := lowerF_len ..
 have lw3 := lower_ok _ (lowerF_bnd hb (p := (nth m.roads k).frm.toNat) (q := (nth m.roads k).to.toNat) (w := walkT m k false 6 9 12) (t := t) (by omega)) (by omega) (nth m.roads k).to (nth m.roads k).frm t0 (by omega) f0 (by omega) (walkT m k true 6 9 12) t (by omega) ht ht0
 rw [hl'] at lw3
 simp only [stepF, halfF, Road.src, Road.dst, Bool.false_eq_true, ↓reduceIte]
 generalize hx : nth m.roads k = x at *
 obtain ⟨frm, to, len, area, walk, closed, rl, rh, ll, lh⟩ := x
 simp only at f0 f1 t0 t1' lw1 lw2 lw3 hl' ⊢
 generalize hw1 : walkT m k false 6 9 12 = v1 at *
 generalize hw2 : walkT m k true 6 9 12 = v2 at *
 clear hb
 cases into with
 | none =>
   simp only [intoD, inOK, ↓reduceIte, Option.isNone] at e0 ⊢
   cases c1 : lowerC l frm.toNat to.toNat v1 t <;> cases c2 : lowerC (lowerF l frm.toNat to.toNat v1 t) to.toNat frm.toNat v2 t <;> rw [c1] at lw1 <;> rw [c2] at lw3 <;>
   simp (disch := omega) only [go_sem, K.ref25_close_l2b, ↓reduceIte, hx, e0, t1, t2, lw1, lw3, lowerF_len, Nat.reduceAdd, Nat.reduceSub]
 | some s =>
   have hs := (hi s rfl).2
   have g1 := has_ok s to (by omega)
   have g2 := has_ok s frm (by omega)
   simp only [intoD, inOK, Option.isNone] at e0 ⊢
   by_cases m1 : to ∈ s <;> by_cases m2 : frm ∈ s
   · simp only [m1, m2, decide_true, ↓reduceIte] at g1 g2 ⊢
     cases c1 : lowerC l frm.toNat to.toNat v1 t <;> cases c2 : lowerC (lowerF l frm.toNat to.toNat v1 t) to.toNat frm.toNat v2 t <;> rw [c1] at lw1 <;> rw [c2] at lw3 <;>
     simp (disch := omega) only [go_sem, K.ref25_close_l2b, ↓reduceIte, hx, e0, t1, t2, lw1, lw3, g1, g2, c1, Bool.or_true, Bool.or_false, lowerF_len, Nat.reduceAdd, Nat.reduceSub]
   · simp only [m1, m2, decide_true, decide_false, ↓reduceIte] at g1 g2 ⊢
     cases c1 : lowerC l frm.toNat to.toNat v1 t <;> rw [c1] at lw1 <;> 
     simp (disch := omega) only [go_sem, K.ref25_close_l2b, ↓reduceIte, hx, e0, t1, t2, lw1, g1, g2, c1, Bool.or_true, Bool.or_false, lowerF_len, Nat.reduceAdd, Nat.reduceSub]
   · simp only [m1, m2, decide_true, decide_false, ↓reduceIte] at g1 g2 ⊢
     cases c1 : lowerC l to.toNat frm.toNat v2 t <;> rw [c1] at lw2 <;> 
     simp (disch := omega) only [go_sem, K.ref25_close_l2b, ↓reduceIte, hx, e0, t1, t2, lw2, g1, g2, c1, Bool.or_true, Bool.or_false, lowerF_len, Nat.reduceAdd, Nat.reduceSub]
   · simp only [m1, m2, decide_false, ↓reduceIte] at g1 g2 ⊢
     simp (disch := omega) only [go_sem, K.ref25_close_l2b, ↓reduceIte, hx, e0, t1, t2, g1, g2, Nat.reduceAdd, Nat.reduceSub]
theorem close_ok {m : Mine} (h : m.ok) (t : Int) (ht : t ≤ 1000000000000) (ht0 : -1000000000000 ≤ t) (into : Option (List Int)) (hi : ∀ l, into = some l → l ≠ [] ∧ l.length ≤ 64) (l : List Int) (hl : l.length = m.places.length) (hb : bnd l) :
 CALL 0 N.ref25_close [.t m.e, .t (tL l), I t, intoD into] [] = some (.t (tL (closeN (roundF m t into) (sumN l + 1) l)), []) ∧ (closeN (roundF m t into) (sumN l + 1) l).length = m.places.length ∧ bnd (closeN (roundF m t into) (sumN l + 1) l) := by
 have nr := h.nr
 have inner : ∀ (l : List Int), l.length = m.places.length → bnd l → ∀ (a b c d : D), exS CALL K.ref25_close_l2 ⟨[a, b, I t, intoD into, .bp 0 0, c, .ref 1 0 l.length, B false, I 0, d], [.box (mineCells m), .arr 1 false 0 ((l.map (T.int .i64)).map .t)]⟩ =
  some (.exit 2, ⟨[.und, .und, I t, intoD into, .bp 0 0, .und, .ref 1 0 l.length, B (roundF m t into l).2, I m.roads.length, .und], [.box (mineCells m), .arr 1 false 0 (((roundF m t into l).1.map (T.int .i64)).map .t)]⟩) := by
  intro l hl hb a b c d
  refine loop_up (fun j => ⟨[.und, .und, I t, intoD into, .bp 0 0, .und, .ref 1 0 (stepsF m t into l j).1.length, B (stepsF m t into l j).2, I j, .und], [.box (mineCells m), .arr 1 false 0 (((stepsF m t into l j).1.map (T.int .i64)).map .t)]⟩) m.roads.length rfl ?_ ?_ (by simp)
  · intro j hj
    have := close_step h t ht ht0 into hi (stepsF m t into l j).1 (by rw [stepsF_len, hl]) (stepsF_bnd h hl hb j (by omega)) j hj (stepsF m t into l j).2
    exact this
  · simp (disch := omega) only [go_sem, K.ref25_close_l2b, ↓reduceIte, roundF, stepsF_len]
 have outer := fun (a b c d e : D) => loop_again (gc := true) (dead := [0, 1, 5, 8, 9]) (c := K.ref25_close_l1b) (vs := [a, b, I t, intoD into, .bp 0 0, c, .ref 1 0 l.length, B true, d, e]) (H := [.box (mineCells m), .arr 1 false 0 ((l.map (T.int .i64)).map .t)])
  (fun l ag => ⟨[.und, .und, I t, intoD into, .bp 0 0, .und, .ref 1 0 l.length, B ag, .und, .und], [.box (mineCells m), .arr 1 false 0 ((l.map (T.int .i64)).map .t)]⟩)
  (fun l => (.exit 0, ⟨[.und, .und, I t, intoD into, .bp 0 0, .und, .ref 1 0 l.length, B false, .und, .und], [.box (mineCells m), .arr 1 false 0 ((l.map (T.int .i64)).map .t)]⟩))
  (roundF m t into) (fun l => l.length = m.places.length ∧ bnd l) sumN
  (fun l ⟨hl, hb⟩ => ⟨⟨by rw [roundF, stepsF_len, hl], stepsF_bnd h hl hb _ (Nat.le_refl _)⟩, (stepsF_sum h hl hb _ (Nat.le_refl _)).1⟩)
  (by
   rintro l ⟨hl, hb⟩
   have := inner l hl hb
   have e : (roundF m t into l).1.length = l.length := by rw [roundF, stepsF_len]
   simp (disch := omega) only [go_sem, K.ref25_close_l1b, ↓reduceIte, this, e])
  (by
   rintro l ⟨hl, hb⟩
   simp (disch := omega) only [go_sem, K.ref25_close_l1b, ↓reduceIte, reduceCtorEq, ne_eq, not_false_eq_true, and_self])
  l ⟨hl, hb⟩ rfl
 obtain ⟨-, o2⟩ := outer .und .und .und .und .und
 refine ⟨?_, o2⟩
 refine CALL_of K.t_ref25_close rfl ?_
 have o1 : ∀ a b c d e : D, exS CALL K.ref25_close_l1 ⟨[a, b, I t, intoD into, .bp 0 0, c, .ref 1 0 l.length, B true, d, e], [.box (mineCells m), .arr 1 false 0 ((l.map (T.int .i64)).map .t)]⟩ = _ := fun a b c d e => (outer a b c d e).1
 clear outer inner
 have np := h.np
 have o2 := o2.1
 generalize closeN (roundF m t into) (sumN l + 1) l = l2 at *
 cases into with
 | none =>
   simp only [intoD] at o1
   simp (disch := omega) only [go_sem, K.ref25_close, ↓reduceIte, o1, intoD]
 | some s =>
   simp only [intoD] at o1
   simp (disch := omega) only [go_sem, K.ref25_close, ↓reduceIte, o1, intoD]
structure Wh where
 time : Int
 frm : List Int
instance : Dat Wh := ⟨⟨0, []⟩⟩
abbrev Wh.e (w : Wh) : T := .agg [tI w.time, tL w.frm]
def closeF (m : Mine) (t : Int) (into : Option (List Int)) (l : List Int) : List Int := closeN (roundF m t into) (sumN l + 1) l
def inT (t : Int) : Prop := 0 ≤ t ∧ t ≤ 2147483648
instance (t : Int) : Decidable (inT t) := by unfold inT; infer_instance
def plT (x : Int) : Prop := x = 1099511627776 ∨ inT x
instance (t : Int) : Decidable (plT t) := by unfold plT; infer_instance
def plainB (w : Wh) (n : Int) : Bool := decide ((w.frm.length : Int) = n ∧ inT w.time) && (List.range w.frm.length).all fun j => decide (plT (nth w.frm j))
theorem plT_bnd {x : Int} (h : plT x) : 0 ≤ x ∧ x ≤ 1099511627776 := by unfold plT inT at h; omega
theorem inTime_ok (t : Int) : CALL 0 N.ref25_inTime [I t] [] = some (B (decide (inT t)), []) := by
 refine CALL_of K.t_ref25_inTime rfl ?_
 unfold inT
 by_cases h1 : 0 ≤ t <;> by_cases h2 : t ≤ 2147483648 <;> simp (disch := omega) only [go_sem, K.ref25_inTime, ↓reduceIte, h1, h2]
theorem Close_ok {m : Mine} (h : m.ok) (t : Int) (ht : inT t) (l : List Int) (hl : l.length = m.places.length) (hb : bnd l) :
 CALL 0 N.ref25_Close [.t m.e, .t (tL l), I t] [] = some (.t (tL (closeF m t none l)), []) := by
 refine CALL_of K.t_ref25_Close rfl ?_
 unfold inT at ht
 have := (close_ok h t (by omega) (by omega) none (by simp) l hl hb).1
 simp only [intoD] at this
 unfold closeF
 simp (disch := omega) only [go_sem, K.ref25_Close, ↓reduceIte, this]
theorem plain_ok (w : Wh) (n : Int) (hl : w.frm.length ≤ 4294967296) : CALL 0 N.ref25_Plain [.t w.e, I n] [] = some (B (plainB w n), []) := by
 refine CALL_of K.t_ref25_Plain rfl ?_
 obtain ⟨time, frm⟩ := w
 simp only at hl
 have loop : ∀ a b c : D, exS CALL K.ref25_Plain_l1 ⟨[a, b, .bp 0 0, c, I 0], [.box [I time, .t (tL frm)]]⟩ =
  some (match (List.range frm.length).find? (fun j => !decide (plT (nth frm j))) with
   | some j => (.ret, ⟨[.und, .und, .bp 0 0, B false, I j], [.box [I time, .t (tL frm)]]⟩)
   | none => (.exit 0, ⟨[.und, .und, .bp 0 0, .und, I frm.length], [.box [I time, .t (tL frm)]]⟩)) := by
  intro a b c
  refine loop_first (fun j => ⟨[.und, .und, .bp 0 0, .und, I j], [.box [I time, .t (tL frm)]]⟩) frm.length (fun j => !decide (plT (nth frm j))) _ _ rfl ?_ ?_ ?_ (by simp)
  · intro j hj hp
    have hp : plT (nth frm j) := by simpa using hp
    unfold plT inT at hp
    by_cases h1 : nth frm j = 1099511627776
    · simp (disch := omega) only [go_sem, K.ref25_Plain_l1b, ↓reduceIte, h1]
    · simp (disch := omega) only [go_sem, K.ref25_Plain_l1b, ↓reduceIte]
  · intro j hj hp
    have hp : ¬ plT (nth frm j) := by simpa using hp
    unfold plT inT at hp
    by_cases h2 : 0 ≤ nth frm j
    · simp (disch := omega) only [go_sem, K.ref25_Plain_l1b, ↓reduceIte]
      simp
    · simp (disch := omega) only [go_sem, K.ref25_Plain_l1b, ↓reduceIte]
      simp
  · simp (disch := omega) only [go_sem, K.ref25_Plain_l1b, ↓reduceIte]
 unfold plainB
 rw [find_all]
 by_cases h1 : (frm.length : Int) = n
 · by_cases h2 : 0 ≤ time
   · by_cases h3 : time ≤ 2147483648
     · have h4 : inT time := ⟨h2, h3⟩
       simp (disch := omega) only [go_sem, K.ref25_Plain, ↓reduceIte, loop, h1]
       cases hf : (List.range frm.length).find? (fun j => !decide (plT (nth frm j))) with
       | some j => simp (disch := omega) only [go_sem, ↓reduceIte, Option.isNone]
       | none => simp (disch := omega) only [go_sem, ↓reduceIte, Option.isNone, h4, and_self, decide_true]
     · have h4 : ¬ inT time := by unfold inT; omega
       simp (disch := omega) only [go_sem, K.ref25_Plain, ↓reduceIte, loop, h1, h4, and_false, decide_false]
   · have h4 : ¬ inT time := by unfold inT; omega
     simp (disch := omega) only [go_sem, K.ref25_Plain, ↓reduceIte, loop, h1, h4, and_false, decide_false]
 · simp (disch := omega) only [go_sem, K.ref25_Plain, ↓reduceIte, loop, h1, false_and, decide_false]
def validB (m : Mine) (w : Wh) : Bool := plainB w m.places.length && decide (closeF m w.time none w.frm = w.frm)
theorem plainB_spec {w : Wh} {n : Int} (h : plainB w n = true) : (w.frm.length : Int) = n ∧ inT w.time ∧ ∀ x ∈ w.frm, plT x := by
 simp only [plainB, Bool.and_eq_true, decide_eq_true_eq, List.all_eq_true, List.mem_range] at h
 refine ⟨h.1.1, h.1.2, fun x hx => ?_⟩
 obtain ⟨j, hj⟩ := List.mem_iff_getElem?.1 hx
 have := h.2 j (List.getElem?_eq_some_iff.1 hj).1
 rwa [nth_eq hj] at this
theorem closeF_len {m : Mine} (h : m.ok) (t : Int) (ht : inT t) (into : Option (List Int)) (hi : ∀ l, into = some l → l ≠ [] ∧ l.length ≤ 64) {l : List Int} (hl : l.length = m.places.length) (hb : bnd l) : (closeF m t into l).length = m.places.length := by
 unfold inT at ht
 exact (close_ok h t (by omega) (by omega) into hi l hl hb).2.1
theorem closeF_bnd {m : Mine} (h : m.ok) (t : Int) (ht : inT t) (into : Option (List Int)) (hi : ∀ l, into = some l → l ≠ [] ∧ l.length ≤ 64) {l : List Int} (hl : l.length = m.places.length) (hb : bnd l) : bnd (closeF m t into l) := by
 unfold inT at ht
 exact (close_ok h t (by omega) (by omega) into hi l hl hb).2.2
theorem valid_ok {m : Mine} (h : m.ok) (w : Wh) (hl : w.frm.length ≤ 4294967296) : CALL 0 N.ref25_Valid [.t m.e, .t w.e] [] = some (B (validB m w), []) := by
 refine CALL_of K.t_ref25_Valid rfl ?_
 have c := check_ok h
 have p := plain_ok w m.places.length hl
 have np := h.np
 unfold validB
 cases hp : plainB w m.places.length with
 | false =>
   rw [hp] at p
   obtain ⟨time, frm⟩ := w
   simp (disch := omega) only [go_sem, K.ref25_Valid, ↓reduceIte, c, p, Bool.false_and, Nat.reduceAdd, Nat.reduceSub]
 | true =>
   obtain ⟨h1, h2, h3⟩ := plainB_spec hp
   rw [hp] at p
   have hb : bnd w.frm := fun x hx => plT_bnd (h3 x hx)
   have cl := Close_ok h w.time h2 w.frm (by omega) hb
   have ln := closeF_len h w.time h2 none (by simp) (l := w.frm) (by omega) hb
   obtain ⟨time, frm⟩ := w
   simp only at *
   have sm := same_ok (closeF m time none frm) frm (by omega)
   simp (disch := omega) only [go_sem, K.ref25_Valid, ↓reduceIte, c, p, cl, sm, Bool.true_and, Nat.reduceAdd, Nat.reduceSub]
theorem copy_ok (w : Wh) (hl : w.frm.length ≤ 4294967296) : CALL 0 N.ref25_Copy [.t w.e] [] = some (.t w.e, []) := by
 refine CALL_of K.t_ref25_Copy rfl ?_
 obtain ⟨time, frm⟩ := w
 simp only at *
 simp (disch := omega) only [go_sem, K.ref25_Copy, ↓reduceIte, Nat.reduceAdd, Nat.reduceSub]
def neverL (n : Nat) : List Int := List.replicate n 1099511627776
theorem neverL_succ (n : Nat) : neverL (n + 1) = neverL n ++ [1099511627776] := List.replicate_succ'
@[simp] theorem neverL_len (n : Nat) : (neverL n).length = n := List.length_replicate
theorem neverL_bnd (n : Nat) : bnd (neverL n) := fun x hx => by rw [List.eq_of_mem_replicate hx]; omega
theorem never_loop (n : Nat) (hn : n ≤ 1000000) (a : D) : exS CALL K.ref25_never_l1 ⟨[I n, a, .ref 0 0 0, I 0], [.arr 1 false 0 []]⟩ =
 some (.exit 0, ⟨[I n, .und, .ref 0 0 n, I n], [.arr 1 false 0 (((neverL n).map (T.int .i64)).map .t)]⟩) := by
 refine loop_up (fun j => ⟨[I n, .und, .ref 0 0 (neverL j).length, I j], [.arr 1 false 0 (((neverL j).map (T.int .i64)).map .t)]⟩) n rfl ?_ ?_ (by simp)
 · intro j hj
   have := neverL_len j
   simp (disch := omega) only [go_sem, K.ref25_never_l1b, neverL_succ, ↓reduceIte]
 · simp (disch := omega) only [go_sem, K.ref25_never_l1b, ↓reduceIte, neverL_len]
theorem never_ok1 (n : Nat) (hn : n ≤ 1000000) : CALL 1 N.ref25_never [I n] [] = some (.ref 0 0 n, [.arr 1 false 0 (((neverL n).map (T.int .i64)).map .t)]) := by
 refine CALL_of K.t_ref25_never rfl ?_
 have := never_loop n hn
 simp (disch := omega) only [go_sem, K.ref25_never, ↓reduceIte, this]
def startF (m : Mine) (p t : Int) : Wh × Int :=
 if p < 0 ∨ (m.places.length : Int) ≤ p then (⟨0, []⟩, 3) else if inT t then (⟨t, closeF m t none ((neverL m.places.length).set p.toNat t)⟩, 0) else (⟨0, []⟩, 8)
def possF (w : Wh) (t : Int) : List Int := whereF w.frm.length fun j => decide (nth w.frm j ≤ t)
theorem possible25_ok (w : Wh) (t : Int) (hl : w.frm.length ≤ 1000000) : CALL 0 N.ref25_Possible [.t w.e, I t] [] = some (.t (tL (possF w t)), []) := by
 refine CALL_of K.t_ref25_Possible rfl ?_
 obtain ⟨time, frm⟩ := w
 simp only [possF] at *
 have hlen := fun k => whereF_len k (fun j => decide (nth frm j ≤ t))
 have loop : ∀ a b : D, exS CALL K.ref25_Possible_l1 ⟨[a, I t, .bp 0 0, b, .ref 1 0 0, I 0], [.box [I time, .t (tL frm)], .arr 1 false 0 []]⟩ =
  some (.exit 0, ⟨[.und, I t, .bp 0 0, .und, .ref 1 0 (whereF frm.length (fun j => decide (nth frm j ≤ t))).length, I frm.length], [.box [I time, .t (tL frm)], .arr 1 false 0 (((whereF frm.length (fun j => decide (nth frm j ≤ t))).map (T.int .i64)).map .t)]⟩) := by
  intro a b
  refine loop_up (fun j => ⟨[.und, I t, .bp 0 0, .und, .ref 1 0 (whereF j (fun j => decide (nth frm j ≤ t))).length, I j], [.box [I time, .t (tL frm)], .arr 1 false 0 (((whereF j (fun j => decide (nth frm j ≤ t))).map (T.int .i64)).map .t)]⟩) frm.length rfl ?_ ?_ (by simp)
  · intro j hj
    have := hlen j
    by_cases hp : nth frm j ≤ t
    · simp (disch := omega) only [go_sem, K.ref25_Possible_l1b, whereF_succ, hp, decide_true, ↓reduceIte]
    · simp (disch := omega) only [go_sem, K.ref25_Possible_l1b, whereF_succ, hp, decide_false, ↓reduceIte]
  · simp (disch := omega) only [go_sem, K.ref25_Possible_l1b, ↓reduceIte]
 have := hlen frm.length
 simp (disch := omega) only [go_sem, K.ref25_Possible, ↓reduceIte, loop]
def raiseF (w : Wh) (t : Int) : Wh × Int := if t < w.time ∨ 2147483648 < t then (w, 8) else (⟨t, w.frm⟩, 0)
theorem raise_ok (w : Wh) (t : Int) (hl : w.frm.length ≤ 1000000) : CALL 0 N.ref25_Raise [.t w.e, I t] [] = some (.tup [.t (raiseF w t).1.e, I (raiseF w t).2], []) := by
 refine CALL_of K.t_ref25_Raise rfl ?_
 have c := copy_ok w (by omega)
 obtain ⟨time, frm⟩ := w
 simp only [raiseF] at *
 by_cases h1 : t < time
 · simp (disch := omega) only [go_sem, K.ref25_Raise, ↓reduceIte, c, h1, true_or]
 · by_cases h2 : 2147483648 < t
   · simp (disch := omega) only [go_sem, K.ref25_Raise, ↓reduceIte, c, h1, h2, or_true]
   · simp (disch := omega) only [go_sem, K.ref25_Raise, ↓reduceIte, c, h1, h2, or_self]
def askedF (m : Mine) (w : Wh) (places : List Int) (a b : Int) : Int :=
 if validB m w = true ∧ places ≠ [] ∧ setB places m.places.length = true then (if inT a ∧ inT b ∧ a ≤ b then 0 else 8) else 6
theorem asked_ok {m : Mine} (h : m.ok) (w : Wh) (hl : w.frm.length ≤ 1000000) (places : List Int) (hp : places.length ≤ 1000000) (a b : Int) :
 CALL 0 N.ref25_asked [.t m.e, .t w.e, .t (tL places), I a, I b] [] = some (I (askedF m w places a b), []) := by
 refine CALL_of K.t_ref25_asked rfl ?_
 have v := valid_ok h w (by omega)
 have s := set_ok places m.places.length (by omega)
 have np := h.np
 have ia := inTime_ok a
 have ib := inTime_ok b
 obtain ⟨time, frm⟩ := w
 simp only at *
 unfold askedF
 cases hv : validB m ⟨time, frm⟩ with
 | false =>
   rw [hv] at v
   simp (disch := omega) only [go_sem, K.ref25_asked, ↓reduceIte, v, Bool.false_eq_true, false_and]
 | true =>
   rw [hv] at v
   cases places with
   | nil => simp (disch := omega) only [go_sem, K.ref25_asked, ↓reduceIte, v, ne_eq, not_true_eq_false, false_and, and_false, List.length_nil]
   | cons x xs =>
     have hne : 0 < (x :: xs).length := by simp
     generalize hx : x :: xs = l at *
     have hne2 : l ≠ [] := by intro e; rw [e] at hne; simp at hne
     cases hs : setB l m.places.length with
     | false =>
       rw [hs] at s
       simp (disch := omega) only [go_sem, K.ref25_asked, ↓reduceIte, v, s, hne2, ne_eq, not_false_eq_true, true_and, Bool.false_eq_true, and_false]
     | true =>
       rw [hs] at s
       by_cases h1 : inT a
       · by_cases h2 : inT b
         · simp only [h1, h2, decide_true] at ia ib
           by_cases h3 : a ≤ b
           · simp (disch := omega) only [go_sem, K.ref25_asked, ↓reduceIte, v, s, hne2, ia, ib, h1, h2, h3, ne_eq, not_false_eq_true, and_self]
           · simp (disch := omega) only [go_sem, K.ref25_asked, ↓reduceIte, v, s, hne2, ia, ib, h1, h2, h3, ne_eq, not_false_eq_true, and_self, and_false]
         · simp only [h1, h2, decide_true, decide_false] at ia ib
           simp (disch := omega) only [go_sem, K.ref25_asked, ↓reduceIte, v, s, hne2, ia, ib, h1, h2, ne_eq, not_false_eq_true, and_self, and_false, false_and]
       · simp only [h1, decide_false] at ia
         simp (disch := omega) only [go_sem, K.ref25_asked, ↓reduceIte, v, s, hne2, ia, h1, ne_eq, not_false_eq_true, and_self, and_false, false_and]
theorem setB_nth {l : List Int} {n : Int} (h : setB l n = true) {j : Nat} (hj : j < l.length) : 0 ≤ nth l j ∧ nth l j < n ∧ (0 < j → nth l (j - 1) < nth l j) := by
 simp only [setB, List.all_eq_true, List.mem_range, decide_eq_true_eq] at h
 exact h j hj
theorem setB_up {l : List Int} {n : Int} (h : setB l n = true) : ∀ {j : Nat}, j < l.length → (j : Int) ≤ nth l j
 | 0, hj => by have := setB_nth h hj; omega
 | j + 1, hj => by
   have h1 := setB_up h (j := j) (by omega)
   have := (setB_nth h hj).2.2 (by omega)
   simp only [Nat.add_sub_cancel] at this
   omega
theorem setB_len {l : List Int} {n : Nat} (h : setB l n = true) : l.length ≤ n := by
 cases hl : l.length with
 | zero => omega
 | succ k =>
   have h1 := setB_up h (j := k) (by omega)
   have h2 := (setB_nth h (j := k) (by omega)).2.1
   omega
def seeStep (w : Wh) (t p : Int) (s : List Int × Bool) : List Int × Bool := if nth w.frm p.toNat ≤ t then (s.1.set p.toNat (nth w.frm p.toNat), true) else s
def seeN (w : Wh) (l : List Int) (t : Int) (n : Nat) : Nat → List Int × Bool
 | 0 => (neverL n, false)
 | j + 1 => seeStep w t (nth l j) (seeN w l t n j)
theorem seeN_len (w : Wh) (l : List Int) (t : Int) (n : Nat) : ∀ j, (seeN w l t n j).1.length = n
 | 0 => neverL_len n
 | j + 1 => by
   have := seeN_len w l t n j
   simp only [seeN, seeStep]
   split <;> simp [this]
theorem seeN_bnd {w : Wh} (hw : bnd w.frm) (l : List Int) (t : Int) {n : Nat} (hl : ∀ p ∈ l, 0 ≤ p ∧ p < w.frm.length) : ∀ j, j ≤ l.length → bnd (seeN w l t n j).1
 | 0, _ => neverL_bnd n
 | j + 1, hj => by
   have := seeN_bnd hw l t hl (n := n) j (by omega)
   simp only [seeN, seeStep]
   split
   · have hp := hl _ (nth_mem (l := l) (j := j) (by omega))
     have := hw _ (nth_mem (l := w.frm) (j := (nth l j).toNat) (by omega))
     exact bnd_set (by assumption) this.1 this.2
   · exact this
def seeF (m : Mine) (w : Wh) (l : List Int) (a b : Int) : Wh × Int :=
 if askedF m w l a b ≠ 0 then (w, askedF m w l a b) else if a < w.time then (w, 42) else
 if (seeN w l b m.places.length l.length).2 = true then (⟨b, closeF m a none (seeN w l b m.places.length l.length).1⟩, 0) else (w, 43)
theorem askedF_0 {m : Mine} {w : Wh} {l : List Int} {a b : Int} (h : askedF m w l a b = 0) : validB m w = true ∧ l ≠ [] ∧ setB l m.places.length = true ∧ inT a ∧ inT b ∧ a ≤ b := by
 unfold askedF at h
 split at h
 · rename_i h1
   split at h
   · rename_i h2; exact ⟨h1.1, h1.2.1, h1.2.2, h2⟩
   · omega
 · omega
theorem validB_spec {m : Mine} {w : Wh} (h : validB m w = true) : w.frm.length = m.places.length ∧ inT w.time ∧ (∀ x ∈ w.frm, plT x) ∧ closeF m w.time none w.frm = w.frm := by
 simp only [validB, Bool.and_eq_true, decide_eq_true_eq] at h
 obtain ⟨h1, h2, h3⟩ := plainB_spec h.1
 exact ⟨by omega, h2, h3, h.2⟩
theorem see_ok {m : Mine} (h : m.ok) (w : Wh) (hl : w.frm.length ≤ 1000000) (l : List Int) (hp : l.length ≤ 1000000) (a b : Int) :
 CALL 0 N.ref25_See [.t m.e, .t w.e, .t (tL l), I a, I b] [] = some (.tup [.t (seeF m w l a b).1.e, I (seeF m w l a b).2], []) := by
 refine CALL_of K.t_ref25_See rfl ?_
 have as := asked_ok h w hl l hp a b
 have cp := copy_ok w (by omega)
 have np := h.np
 have nv := never_ok1 m.places.length (by omega)
 have nl := neverL_len m.places.length
 unfold seeF
 by_cases h0 : askedF m w l a b = 0
 · obtain ⟨v1, v2, v3, v4, v5, v6⟩ := askedF_0 h0
   obtain ⟨w1, w2, w3, w4⟩ := validB_spec v1
   have hlen := setB_len v3
   rw [h0] at as ⊢
   obtain ⟨time, frm⟩ := w
   simp only at *
   by_cases h1 : a < time
   · simp (disch := omega) only [go_sem, K.ref25_See, ↓reduceIte, as, cp, h1, ne_eq, not_true_eq_false]
   · have hbw : bnd (Wh.frm ⟨time, frm⟩) := fun x hx => plT_bnd (w3 x hx)
     have hb := seeN_bnd hbw l b (n := m.places.length) (fun p hp => by
      obtain ⟨j, hj⟩ := List.mem_iff_getElem?.1 hp
      have := setB_nth v3 (List.getElem?_eq_some_iff.1 hj).1
      rw [nth_eq hj] at this
      simp only
      omega) l.length (Nat.le_refl _)
     have ln := seeN_len ⟨time, frm⟩ l b m.places.length
     have loop : ∀ x y z u v : D, exS CALL K.ref25_See_l1 ⟨[x, y, .t (tL l), I a, I b, .bp 0 0, .bp 1 0, .bp 2 0, z, u, .ref 3 0 m.places.length, B false, I 0, v], [.box (mineCells m), .box [I time, .t (tL frm)], .box [I 0, .nil], .arr 1 false 0 (((neverL m.places.length).map (T.int .i64)).map .t)]⟩ =
      some (.exit 0, ⟨[.und, .und, .t (tL l), I a, I b, .bp 0 0, .bp 1 0, .bp 2 0, .und, .und, .ref 3 0 m.places.length, B (seeN ⟨time, frm⟩ l b m.places.length l.length).2, I l.length, .und], [.box (mineCells m), .box [I time, .t (tL frm)], .box [I 0, .nil], .arr 1 false 0 ((((seeN ⟨time, frm⟩ l b m.places.length l.length).1).map (T.int .i64)).map .t)]⟩) := by
      intro x y z u v
      refine loop_up (fun j => ⟨[.und, .und, .t (tL l), I a, I b, .bp 0 0, .bp 1 0, .bp 2 0, .und, .und, .ref 3 0 m.places.length, B (seeN ⟨time, frm⟩ l b m.places.length j).2, I j, .und], [.box (mineCells m), .box [I time, .t (tL frm)], .box [I 0, .nil], .arr 1 false 0 ((((seeN ⟨time, frm⟩ l b m.places.length j).1).map (T.int .i64)).map .t)]⟩) l.length rfl ?_ ?_ (by simp)
      · intro j hj
        obtain ⟨p1, p2, -⟩ := setB_nth v3 hj
        have lj := ln j
        by_cases hc : nth frm (nth l j).toNat ≤ b
        · simp (disch := omega) only [go_sem, K.ref25_See_l1b, ↓reduceIte, seeN, seeStep, hc]
        · simp (disch := omega) only [go_sem, K.ref25_See_l1b, ↓reduceIte, seeN, seeStep, hc]
      · simp (disch := omega) only [go_sem, K.ref25_See_l1b, ↓reduceIte]
     have cl := Close_ok h a v4 _ (ln l.length) hb
     have ln := ln l.length
     simp (disch := omega) only [go_sem, K.ref25_See, ↓reduceIte, as, h1, nv, loop, ne_eq, not_true_eq_false]
     cases hs : (seeN ⟨time, frm⟩ l b m.places.length l.length).2 with
     | true => simp (disch := omega) only [go_sem, ↓reduceIte, ln, cl]
     | false => simp (disch := omega) only [go_sem, ↓reduceIte, cp, Bool.false_eq_true]
 · obtain ⟨time, frm⟩ := w
   simp only at *
   simp (disch := omega) only [go_sem, K.ref25_See, ↓reduceIte, as, cp, h0, ne_eq, not_false_eq_true]
def absN (l0 l : List Int) : Nat → List Int
 | 0 => l0
 | j + 1 => (absN l0 l j).set (nth l j).toNat 1099511627776
theorem absN_len (l0 l : List Int) : ∀ j, (absN l0 l j).length = l0.length
 | 0 => rfl
 | j + 1 => by simp only [absN, List.length_set, absN_len l0 l j]
theorem absN_bnd {l0 : List Int} (h : bnd l0) (l : List Int) : ∀ j, bnd (absN l0 l j)
 | 0 => h
 | j + 1 => bnd_set (absN_bnd h l j) (by omega) (by omega)
def absF (m : Mine) (w : Wh) (l : List Int) (a b bl : Int) : Wh × Int :=
 if askedF m w l a b ≠ 0 then (w, askedF m w l a b) else if ¬ inT bl then (w, 8) else if b < w.time then (w, 42) else if b - max a w.time ≤ bl then (w, 0) else
 (⟨b, closeF m b none (closeF m (b - bl) (some l) (absN w.frm l l.length))⟩, 0)
theorem abs_ok {m : Mine} (h : m.ok) (w : Wh) (hl : w.frm.length ≤ 1000000) (l : List Int) (hp : l.length ≤ 1000000) (a b bl : Int) :
 CALL 0 N.ref25_Absent [.t m.e, .t w.e, .t (tL l), I a, I b, I bl] [] = some (.tup [.t (absF m w l a b bl).1.e, I (absF m w l a b bl).2], []) := by
 refine CALL_of K.t_ref25_Absent rfl ?_
 have as := asked_ok h w hl l hp a b
 have cp := copy_ok w (by omega)
 have ib := inTime_ok bl
 have np := h.np
 unfold absF
 by_cases h0 : askedF m w l a b = 0
 · obtain ⟨v1, v2, v3, v4, v5, v6⟩ := askedF_0 h0
   obtain ⟨w1, w2, w3, w4⟩ := validB_spec v1
   have hlen := setB_len v3
   rw [h0] at as ⊢
   obtain ⟨time, frm⟩ := w
   simp only at *
   by_cases h1 : inT bl
   · by_cases h2 : b < time
     · simp only [h1, decide_true] at ib
       simp (disch := omega) only [go_sem, K.ref25_Absent, ↓reduceIte, as, ib, cp, h1, h2, ne_eq, not_true_eq_false, not_false_eq_true]
     · simp only [h1, decide_true] at ib
       unfold inT at v4 v5 w2 h1
       by_cases h3 : b - max a time ≤ bl
       · simp (disch := omega) only [go_sem, K.ref25_Absent, ↓reduceIte, as, ib, cp, h1, h2, h3, ne_eq, not_true_eq_false, not_false_eq_true, inT, and_self]
       · have hb : bnd frm := fun x hx => plT_bnd (w3 x hx)
         have ln := absN_len frm l
         have lb := absN_bnd hb l
         have loop : ∀ x y z u v w : D, exS CALL K.ref25_Absent_l1 ⟨[x, y, .t (tL l), z, I b, I bl, .bp 0 0, u, .bp 2 0, v, w, .ref 3 0 frm.length, I 0], [.box (mineCells m), .box [I time, .t (tL frm)], .box [I 0, .nil], .arr 1 false 0 ((frm.map (T.int .i64)).map .t)]⟩ =
          some (.exit 0, ⟨[.und, .und, .t (tL l), .und, I b, I bl, .bp 0 0, .und, .bp 2 0, .und, .und, .ref 3 0 frm.length, I l.length], [.box (mineCells m), .box [I time, .t (tL frm)], .box [I 0, .nil], .arr 1 false 0 (((absN frm l l.length).map (T.int .i64)).map .t)]⟩) := by
          intro x y z u v w
          refine loop_up (fun j => ⟨[.und, .und, .t (tL l), .und, I b, I bl, .bp 0 0, .und, .bp 2 0, .und, .und, .ref 3 0 frm.length, I j], [.box (mineCells m), .box [I time, .t (tL frm)], .box [I 0, .nil], .arr 1 false 0 (((absN frm l j).map (T.int .i64)).map .t)]⟩) l.length rfl ?_ ?_ (by simp)
          · intro j hj
            obtain ⟨p1, p2, -⟩ := setB_nth v3 hj
            have lj := ln j
            simp (disch := omega) only [go_sem, K.ref25_Absent_l1b, ↓reduceIte, absN]
          · simp (disch := omega) only [go_sem, K.ref25_Absent_l1b, ↓reduceIte]
         have hi : ∀ s, some l = some s → s ≠ [] ∧ s.length ≤ 64 := by
          intro s hs; cases hs; exact ⟨v2, by omega⟩
         have ln := ln l.length
         have lb := lb l.length
         have t1 : inT (b - bl) := by unfold inT; omega
         have c1 := close_ok h (b - bl) (by omega) (by omega) (some l) hi _ (by omega) lb
         simp only [intoD] at c1
         have c2 := Close_ok h b v5 (closeF m (b - bl) (some l) (absN frm l l.length)) (closeF_len h _ t1 _ hi (by omega) lb) (closeF_bnd h _ t1 _ hi (by omega) lb)
         have c3 := c1.1
         unfold closeF at c2 ⊢
         clear c1
         simp (disch := omega) only [go_sem, K.ref25_Absent, ↓reduceIte, as, ib, loop, c2, c3, ln, h1, h2, h3, ne_eq, not_true_eq_false, not_false_eq_true, inT, and_self, Nat.reduceAdd, Nat.reduceSub]
   · simp only [h1, decide_false] at ib
     simp (disch := omega) only [go_sem, K.ref25_Absent, ↓reduceIte, as, ib, cp, h1, ne_eq, not_true_eq_false, not_false_eq_true]
 · obtain ⟨time, frm⟩ := w
   simp only at *
   simp (disch := omega) only [go_sem, K.ref25_Absent, ↓reduceIte, as, cp, h0, ne_eq, not_false_eq_true]
def minN (a b : List Int) : Nat → List Int
 | 0 => []
 | j + 1 => minN a b j ++ [min (nth a j) (nth b j)]
theorem minN_len (a b : List Int) : ∀ j, (minN a b j).length = j
 | 0 => rfl
 | j + 1 => by simp [minN, minN_len a b j]
def joinF (a b : Wh) : Wh × Int := if a.frm.length = b.frm.length then (⟨max a.time b.time, minN a.frm b.frm a.frm.length⟩, 0) else (⟨0, []⟩, 6)
theorem join_ok (a b : Wh) (ha : a.frm.length ≤ 1000000) : CALL 0 N.ref25_Join [.t a.e, .t b.e] [] = some (.tup [.t (joinF a b).1.e, I (joinF a b).2], []) := by
 refine CALL_of K.t_ref25_Join rfl ?_
 obtain ⟨t1, l1⟩ := a
 obtain ⟨t2, l2⟩ := b
 simp only [joinF] at *
 by_cases hl : l1.length = l2.length
 · have ln := minN_len l1 l2
   have loop : ∀ x y z : D, exS CALL K.ref25_Join_l1 ⟨[x, y, .bp 0 0, .bp 1 0, .bp 2 0, z, .bp 3 0, I 0], [.box [I t1, .t (tL l1)], .box [I t2, .t (tL l2)], .box [I 0, .nil], .box [I (max t1 t2), .ref 5 0 0], .arr 1 false 0 [], .arr 1 false 0 []]⟩ =
    some (.exit 0, ⟨[.und, .und, .bp 0 0, .bp 1 0, .bp 2 0, .und, .bp 3 0, I l1.length], [.box [I t1, .t (tL l1)], .box [I t2, .t (tL l2)], .box [I 0, .nil], .box [I (max t1 t2), .ref 5 0 l1.length], .arr 1 false 0 [], .arr 1 false 0 (((minN l1 l2 l1.length).map (T.int .i64)).map .t)]⟩) := by
    intro x y z
    refine loop_up (fun j => ⟨[.und, .und, .bp 0 0, .bp 1 0, .bp 2 0, .und, .bp 3 0, I j], [.box [I t1, .t (tL l1)], .box [I t2, .t (tL l2)], .box [I 0, .nil], .box [I (max t1 t2), .ref 5 0 j], .arr 1 false 0 [], .arr 1 false 0 (((minN l1 l2 j).map (T.int .i64)).map .t)]⟩) l1.length rfl ?_ ?_ (by simp)
    · intro j hj
      have lj := ln j
      simp (disch := omega) only [go_sem, K.ref25_Join_l1b, ↓reduceIte, minN, Nat.reduceAdd, Nat.reduceSub]
      done
    · simp (disch := omega) only [go_sem, K.ref25_Join_l1b, ↓reduceIte]
   have ln := ln l1.length
   simp (disch := omega) only [go_sem, K.ref25_Join, ↓reduceIte, loop]
 · simp (disch := omega) only [go_sem, K.ref25_Join, ↓reduceIte, hl]
   rfl
structure Spn where
 low : Int
 high : Int
instance : Dat Spn := ⟨⟨0, 0⟩⟩
abbrev Spn.e (f : Spn) : T := .agg [tI f.low, tI f.high]
def Spn.ok (f : Spn) : Prop := -1125899906842624 ≤ f.low ∧ f.high ≤ 1125899906842624 ∧ f.low ≤ f.high
instance (f : Spn) : Decidable f.ok := by unfold Spn.ok; infer_instance
def flowsB (m : Mine) (l : List Spn) : Bool := (List.range l.length).all (fun j => decide (nth l j).ok) && decide (l.length = m.roads.length)
def travelF (x : Road) (f : Spn) (back : Bool) : Int :=
 if x.closed = true then -1 else
 let g := if back then -f.low else f.high
 let out := if 0 < g then (x.len * x.area * 1000).tdiv g else -1
 if (if back then f.low < 500 * x.area else -500 * x.area < f.high) ∧ (out < 0 ∨ x.len < out) then x.len else out
def downC (l : List Int) (p q : Nat) (t : Int) : Bool := decide (0 ≤ t ∧ nth l p + t < nth l q)
def downF (l : List Int) (p q : Nat) (t : Int) : List Int := if downC l p q t = true then l.set q (nth l p + t) else l
def smHalf (m : Mine) (fl : List Spn) (k : Nat) (back : Bool) (l : List Int) : List Int × Bool :=
 (downF l ((nth m.roads k).src back).toNat ((nth m.roads k).dst back).toNat (travelF (nth m.roads k) (nth fl k) back), downC l ((nth m.roads k).src back).toNat ((nth m.roads k).dst back).toNat (travelF (nth m.roads k) (nth fl k) back))
def smStep (m : Mine) (fl : List Spn) (k : Nat) (s : List Int × Bool) : List Int × Bool :=
 let a := smHalf m fl k false s.1
 let b := smHalf m fl k true a.1
 (b.1, s.2 || a.2 || b.2)
def smSteps (m : Mine) (fl : List Spn) (l : List Int) : Nat → List Int × Bool
 | 0 => (l, false)
 | k + 1 => smStep m fl k (smSteps m fl l k)
def smRound (m : Mine) (fl : List Spn) (l : List Int) : List Int × Bool := smSteps m fl l m.roads.length
section
variable {m : Mine} (h : m.ok) {fl : List Spn}
include h
end
def capN (l : List Int) : Nat → List Int
 | 0 => l
 | j + 1 => if 2147483648 < nth (capN l j) j then (capN l j).set j 1099511627776 else capN l j
def closeS (m : Mine) (fl : List Spn) (l : List Int) : List Int := capN (closeN (smRound m fl) (sumN l + 1) l) m.places.length
end Go.Ev
namespace Go.Ev
open Go
variable [Lib] [Has1] [Has2]
def plS (t x : Int) : Prop := x = 1099511627776 ∨ (t ≤ x ∧ x ≤ 2147483648)
instance (t x : Int) : Decidable (plS t x) := by unfold plS; infer_instance
def validS (m : Mine) (s : Wh) : Bool := (List.range s.frm.length).all (fun j => decide (plS s.time (nth s.frm j))) && decide (s.frm.length = m.places.length ∧ inT s.time)
def initS (l : List Int) (t : Int) (n : Nat) : List Int := (List.range n).map fun (p : Nat) => if (p : Int) ∈ l then t else 1099511627776
def startS (m : Mine) (fl : List Spn) (l : List Int) (t : Int) : Wh × Int :=
 if flowsB m fl = false then (⟨0, []⟩, 6) else if setB l m.places.length = false then (⟨0, []⟩, 3) else if ¬ inT t then (⟨0, []⟩, 8) else
 (⟨t, closeS m fl (initS l t m.places.length)⟩, 0)
def chHalf (m : Mine) (fl : List Spn) (frm : List Int) (t : Int) (k : Nat) (back : Bool) (l : List Int) : List Int :=
 if nth frm ((nth m.roads k).src back).toNat ≤ t ∧ 0 ≤ travelF (nth m.roads k) (nth fl k) back then l.set ((nth m.roads k).dst back).toNat (min (nth l ((nth m.roads k).dst back).toNat) t) else l
def chStep (m : Mine) (fl : List Spn) (frm : List Int) (t : Int) (k : Nat) (l : List Int) : List Int := chHalf m fl frm t k true (chHalf m fl frm t k false l)
def chN (m : Mine) (fl : List Spn) (frm : List Int) (t : Int) : Nat → List Int
 | 0 => frm
 | k + 1 => chStep m fl frm t k (chN m fl frm t k)
def maxN (t : Int) (l : List Int) : Nat → List Int
 | 0 => l
 | k + 1 => (maxN t l k).set k (max (nth (maxN t l k) k) t)
def changeS (m : Mine) (old : List Spn) (next : Mine) (fl : List Spn) (s : Wh) (t : Int) : Wh × Int :=
 if validS m s = false ∨ flowsB m old = false ∨ flowsB next fl = false ∨ next.places.length ≠ m.places.length then (s, 6) else
 if t < s.time ∨ 2147483648 < t then (s, 8) else (⟨t, closeS next fl (maxN t (chN m old s.frm t m.roads.length) m.places.length)⟩, 0)
theorem loop_find {gc : Bool} {dead : List Nat} {c : C} {vs : List D} {H : Heap} (s : Nat → St) (n : Nat) (p : Nat → Bool) (P : Nat → Ex × St → Prop) (eN : Ex × St)
 (h0 : (⟨dropV dead vs, H⟩ : St) = s 0) (hs : ∀ j, j < n → p j = false → roundC gc dead (s j).H.length (exS CALL c (s j)) = some (s (j + 1)))
 (he : ∀ j, j < n → p j = true → ∃ q, exS CALL c (s j) = some q ∧ q.1 ≠ .normal ∧ P j q) (hN : exS CALL c (s n) = some eN) (hn : eN.1 ≠ .normal) :
 ((List.range n).find? p = none ∧ exS CALL (.loop gc dead c) ⟨vs, H⟩ = some eN) ∨ ∃ j q, (List.range n).find? p = some j ∧ exS CALL (.loop gc dead c) ⟨vs, H⟩ = some q ∧ P j q := by
 classical
 let e : Nat → Ex × St := fun j => if h : j < n ∧ p j = true then Classical.choose (he j h.1 h.2) else eN
 have h2 : ∀ j, j < n → p j = true → exS CALL c (s j) = some (e j) ∧ (e j).1 ≠ .normal ∧ P j (e j) := by
  intro j hj hp
  have e1 : e j = Classical.choose (he j hj hp) := dif_pos ⟨hj, hp⟩
  rw [e1]
  exact Classical.choose_spec (he j hj hp)
 have := loop_first s n p e eN h0 hs (fun j hj hp => ⟨(h2 j hj hp).1, (h2 j hj hp).2.1⟩) hN hn
 cases hf : (List.range n).find? p with
 | none => rw [hf] at this; exact .inl ⟨rfl, this⟩
 | some j =>
   rw [hf] at this
   obtain ⟨h3, h4⟩ := find_lt hf
   exact .inr ⟨j, e j, rfl, this, (h2 j h3 h4).2.2⟩
def lessB (a b : List Int) : Bool := match (List.range (min a.length b.length)).find? (fun j => decide (nth a j ≠ nth b j)) with
 | some j => decide (nth a j < nth b j)
 | none => decide (a.length < b.length)
theorem less_ok (a b : List Int) (ha : a.length ≤ 1000000) (hb : b.length ≤ 1000000) : CALL 0 N.ref26_Less [.t (tL a), .t (tL b)] [] = some (B (lessB a b), []) := by
 refine CALL_of K.t_ref26_Less rfl ?_
 have loop : ∀ c : D, exS CALL K.ref26_Less_l1 ⟨[.t (tL a), .t (tL b), c, I 0], []⟩ =
  some (match (List.range (min a.length b.length)).find? (fun j => decide (nth a j ≠ nth b j)) with
   | some j => (.ret, ⟨[.t (tL a), .t (tL b), B (decide (nth a j < nth b j)), I j], []⟩)
   | none => (.exit 0, ⟨[.t (tL a), .t (tL b), .und, I (min a.length b.length : Nat)], []⟩)) := by
  intro c
  refine loop_first (fun j => ⟨[.t (tL a), .t (tL b), .und, I j], []⟩) (min a.length b.length) (fun j => decide (nth a j ≠ nth b j)) _ _ rfl ?_ ?_ ?_ (by simp)
  · intro j hj hp
    have hp : nth a j = nth b j := by simpa using hp
    simp (disch := omega) only [go_sem, K.ref26_Less_l1b, ↓reduceIte]
  · intro j hj hp
    have hp : nth a j ≠ nth b j := by simpa using hp
    refine ⟨?_, by simp⟩
    by_cases h1 : nth a j < nth b j
    · simp (disch := omega) only [go_sem, K.ref26_Less_l1b, ↓reduceIte, h1, decide_true]
    · simp (disch := omega) only [go_sem, K.ref26_Less_l1b, ↓reduceIte, h1, decide_false]
  · by_cases h1 : a.length ≤ b.length
    · have e : min a.length b.length = a.length := by omega
      rw [e]
      simp (disch := omega) only [go_sem, K.ref26_Less_l1b, ↓reduceIte]
    · have e : min a.length b.length = b.length := by omega
      rw [e]
      simp (disch := omega) only [go_sem, K.ref26_Less_l1b, ↓reduceIte]
 unfold lessB
 simp (disch := omega) only [go_sem, K.ref26_Less, ↓reduceIte, loop]
 cases hf : (List.range (min a.length b.length)).find? (fun j => decide (nth a j ≠ nth b j)) with
 | some j => simp (disch := omega) only [go_sem, ↓reduceIte]
 | none =>
   by_cases h1 : a.length < b.length
   · simp (disch := omega) only [go_sem, ↓reduceIte, h1, decide_true]
   · simp (disch := omega) only [go_sem, ↓reduceIte, h1, decide_false]
def bearerF (l : List Int) (x : Int) : Int := match (List.range l.length).find? (fun j => decide (nth l j = x)) with
 | some j => j
 | none => -1
theorem bearer_ok (l : List Int) (x : Int) (hl : l.length ≤ 1000000) : CALL 0 N.ref26_bearer [.t (tL l), I x] [] = some (I (bearerF l x), []) := by
 refine CALL_of K.t_ref26_bearer rfl ?_
 have loop : ∀ c : D, exS CALL K.ref26_bearer_l1 ⟨[.t (tL l), I x, c, I 0], []⟩ =
  some (match (List.range l.length).find? (fun j => decide (nth l j = x)) with
   | some j => (.ret, ⟨[.t (tL l), I x, I j, I j], []⟩)
   | none => (.exit 0, ⟨[.t (tL l), I x, .und, I l.length], []⟩)) := by
  intro c
  refine loop_first (fun j => ⟨[.t (tL l), I x, .und, I j], []⟩) l.length (fun j => decide (nth l j = x)) _ _ rfl ?_ ?_ ?_ (by simp)
  · intro j hj hp
    have hp : ¬ nth l j = x := by simpa using hp
    simp (disch := omega) only [go_sem, K.ref26_bearer_l1b, ↓reduceIte]
  · intro j hj hp
    have hp : nth l j = x := by simpa using hp
    refine ⟨?_, by simp⟩
    simp (disch := omega) only [go_sem, K.ref26_bearer_l1b, ↓reduceIte, hp]
  · simp (disch := omega) only [go_sem, K.ref26_bearer_l1b, ↓reduceIte]
 unfold bearerF
 simp (disch := omega) only [go_sem, K.ref26_bearer, ↓reduceIte, loop]
 cases hf : (List.range l.length).find? (fun j => decide (nth l j = x)) with
 | some j => simp (disch := omega) only [go_sem, ↓reduceIte]
 | none => simp (disch := omega) only [go_sem, ↓reduceIte]
theorem bearerF_lt {l : List Int} {x : Int} (h : 0 ≤ bearerF l x) : bearerF l x < l.length ∧ nth l (bearerF l x).toNat = x := by
 unfold bearerF at h ⊢
 cases hf : (List.range l.length).find? (fun j => decide (nth l j = x)) with
 | some j =>
   obtain ⟨h1, h2⟩ := find_lt hf
   simp only [Int.toNat_natCast]
   exact ⟨by omega, of_decide_eq_true h2⟩
 | none => rw [hf] at h; simp at h
def properN (l : List Int) (j : Nat) : Bool := decide (1 ≤ nth l j ∧ nth l j ≤ 65535 ∧ bearerF (l.take j) (nth l j) < 0)
def properB (l : List Int) : Bool := (List.range l.length).all (properN l)
theorem proper_ok (l : List Int) (hl : l.length ≤ 1000000) : CALL 0 N.ref26_proper [.t (tL l)] [] = some (B (properB l), []) := by
 refine CALL_of K.t_ref26_proper rfl ?_
 have loop : ∀ c : D, exS CALL K.ref26_proper_l1 ⟨[.t (tL l), c, I 0], []⟩ =
  some (match (List.range l.length).find? (fun j => !properN l j) with
   | some j => (.ret, ⟨[.t (tL l), B false, I j], []⟩)
   | none => (.exit 0, ⟨[.t (tL l), .und, I l.length], []⟩)) := by
  intro c
  refine loop_first (fun j => ⟨[.t (tL l), .und, I j], []⟩) l.length (fun j => !properN l j) _ _ rfl ?_ ?_ ?_ (by simp)
  · intro j hj hp
    have hp : properN l j = true := by simpa using hp
    have b := bearer_ok (l.take j) (nth l j) (by rw [List.length_take]; omega)
    simp only [properN, decide_eq_true_eq] at hp
    simp only [tL, List.map_take] at b
    simp (disch := omega) only [go_sem, K.ref26_proper_l1b, ↓reduceIte, b]
  · intro j hj hp
    have hp : properN l j = false := by simpa using hp
    have b := bearer_ok (l.take j) (nth l j) (by rw [List.length_take]; omega)
    simp only [properN, decide_eq_false_iff_not] at hp
    simp only [tL, List.map_take] at b
    refine ⟨?_, by simp⟩
    by_cases h1 : nth l j < 1
    · simp (disch := omega) only [go_sem, K.ref26_proper_l1b, ↓reduceIte, b]
    · by_cases h2 : 65535 < nth l j
      · simp (disch := omega) only [go_sem, K.ref26_proper_l1b, ↓reduceIte, b]
      · simp (disch := omega) only [go_sem, K.ref26_proper_l1b, ↓reduceIte, b]
  · simp (disch := omega) only [go_sem, K.ref26_proper_l1b, ↓reduceIte]
 unfold properB
 rw [find_all]
 simp (disch := omega) only [go_sem, K.ref26_proper, ↓reduceIte, loop]
 cases hf : (List.range l.length).find? (fun j => !properN l j) with
 | some j => simp (disch := omega) only [go_sem, ↓reduceIte, Option.isNone]
 | none => simp (disch := omega) only [go_sem, ↓reduceIte, Option.isNone]
structure World where
 tags : List Int
 whr : List Wh
instance : Dat World := ⟨⟨[], []⟩⟩
abbrev World.e (x : World) : T := .agg [tL x.tags, .sl (x.whr.map Wh.e)]
structure Bel where
 worlds : List World
instance : Dat Bel := ⟨⟨[]⟩⟩
abbrev Bel.e (b : Bel) : T := .agg [.sl (b.worlds.map World.e)]
def World.sz (x : World) : Prop := x.tags.length ≤ 1000000 ∧ x.whr.length ≤ 1000000 ∧ ∀ w ∈ x.whr, w.frm.length ≤ 1000000
def Bel.sz (b : Bel) : Prop := b.worlds.length ≤ 1000000 ∧ ∀ x ∈ b.worlds, x.sz
@[go_sem] theorem appOK_world (l : List World) : appOK 2 (l.map World.e) = true := by cases l <;> rfl
theorem copyWorld_loop (x : World) (h : x.sz) (a : D) : exS CALL K.ref26_CopyWorld_l1 ⟨[a, .bp 0 0, .bp 1 0, .bp 3 0, I 0], [.box [.t (tL x.tags), .t (.sl (x.whr.map Wh.e))], .box [.nil, .nil], .arr 1 false 0 ((x.tags.map (T.int .i64)).map .t), .box [.ref 2 0 x.tags.length, .ref 5 0 0], .arr 2 false 0 [], .arr 2 false 0 []]⟩ =
 some (.exit 0, ⟨[.und, .bp 0 0, .bp 1 0, .bp 3 0, I x.whr.length], [.box [.t (tL x.tags), .t (.sl (x.whr.map Wh.e))], .box [.nil, .nil], .arr 1 false 0 ((x.tags.map (T.int .i64)).map .t), .box [.ref 2 0 x.tags.length, .ref 5 0 x.whr.length], .arr 2 false 0 [], .arr 2 false 0 ((x.whr.map Wh.e).map .t)]⟩) := by
 obtain ⟨tags, whr⟩ := x
 obtain ⟨h1, h2, h3⟩ := h
 simp only at h1 h2 h3 ⊢
 have tk : whr.take whr.length = whr := by simp
 refine loop_up (fun j => ⟨[.und, .bp 0 0, .bp 1 0, .bp 3 0, I j], [.box [.t (tL tags), .t (.sl (whr.map Wh.e))], .box [.nil, .nil], .arr 1 false 0 ((tags.map (T.int .i64)).map .t), .box [.ref 2 0 tags.length, .ref 5 0 (whr.take j).length], .arr 2 false 0 [], .arr 2 false 0 (((whr.take j).map Wh.e).map .t)]⟩) whr.length rfl ?_ ?_ (by simp)
 · intro j hj
   have c := copy_ok (nth whr j) (by have := h3 _ (nth_mem hj); omega)
   have lt : (whr.take j).length = j := by rw [List.length_take]; omega
   generalize hx : nth whr j = w at *
   obtain ⟨time, frm⟩ := w
   have tk : whr.take (j + 1) = whr.take j ++ [⟨time, frm⟩] := by rw [take_nth hj, hx]
   generalize whr.take j = pre at *
   simp (disch := omega) only [go_sem, K.ref26_CopyWorld_l1b, ↓reduceIte, hx, c, lt, tk, Nat.reduceAdd, Nat.reduceSub]
 · simp (disch := omega) only [go_sem, K.ref26_CopyWorld_l1b, ↓reduceIte, tk]
theorem copyWorld_ok (x : World) (h : x.sz) : CALL 0 N.ref26_CopyWorld [.t x.e] [] = some (.t x.e, []) := by
 refine CALL_of K.t_ref26_CopyWorld rfl ?_
 have loop := copyWorld_loop x h
 obtain ⟨tags, whr⟩ := x
 obtain ⟨h1, h2, h3⟩ := h
 simp only at h1 h2 h3 loop ⊢
 simp (disch := omega) only [go_sem, K.ref26_CopyWorld, ↓reduceIte, loop]
theorem copyWorld_ok1 (x : World) (h : x.sz) : CALL 1 N.ref26_CopyWorld [.t x.e] [] = some (.agg [.ref 0 0 x.tags.length, .ref 1 0 x.whr.length], [.arr 1 false 0 ((x.tags.map (T.int .i64)).map .t), .arr 2 false 0 ((x.whr.map Wh.e).map .t)]) := by
 refine CALL_of K.t_ref26_CopyWorld rfl ?_
 have loop := copyWorld_loop x h
 obtain ⟨tags, whr⟩ := x
 obtain ⟨h1, h2, h3⟩ := h
 simp only at h1 h2 h3 loop ⊢
 simp (disch := omega) only [go_sem, K.ref26_CopyWorld, ↓reduceIte, loop]
theorem copyBel_loop (l : List World) (h1 : l.length ≤ 1000000) (h2 : ∀ x ∈ l, x.sz) (a : D) : exS CALL K.ref26_Copy_l1 ⟨[a, .bp 0 0, .bp 1 0, .bp 2 0, I 0], [.box [.t (.sl (l.map World.e))], .box [.nil], .box [.ref 3 0 0], .arr 2 false 0 []]⟩ =
 some (.exit 0, ⟨[.und, .bp 0 0, .bp 1 0, .bp 2 0, I l.length], [.box [.t (.sl (l.map World.e))], .box [.nil], .box [.ref 3 0 l.length], .arr 2 false 0 ((l.map World.e).map .t)]⟩) := by
 have tk : l.take l.length = l := by simp
 refine loop_up (fun j => ⟨[.und, .bp 0 0, .bp 1 0, .bp 2 0, I j], [.box [.t (.sl (l.map World.e))], .box [.nil], .box [.ref 3 0 (l.take j).length], .arr 2 false 0 (((l.take j).map World.e).map .t)]⟩) l.length rfl ?_ ?_ (by simp)
 · intro j hj
   have c := copyWorld_ok (nth l j) (h2 _ (nth_mem hj))
   have lt : (l.take j).length = j := by rw [List.length_take]; omega
   generalize hx : nth l j = w at *
   obtain ⟨tags, whr⟩ := w
   have tk : l.take (j + 1) = l.take j ++ [⟨tags, whr⟩] := by rw [take_nth hj, hx]
   generalize l.take j = pre at *
   simp (disch := omega) only [go_sem, K.ref26_Copy_l1b, ↓reduceIte, hx, c, lt, tk, Nat.reduceAdd, Nat.reduceSub]
 · simp (disch := omega) only [go_sem, K.ref26_Copy_l1b, ↓reduceIte, tk]
theorem copyBel_ok (b : Bel) (h : b.sz) : CALL 0 N.ref26_Copy [.t b.e] [] = some (.t b.e, []) := by
 refine CALL_of K.t_ref26_Copy rfl ?_
 obtain ⟨h1, h2⟩ := h
 have loop := copyBel_loop b.worlds h1 h2
 obtain ⟨l⟩ := b
 simp only at h1 h2 loop ⊢
 simp (disch := omega) only [go_sem, K.ref26_Copy, ↓reduceIte, loop]
theorem copyBel_ok1 (b : Bel) (h : b.sz) : CALL 1 N.ref26_Copy [.t b.e] [] = some (.agg [.ref 0 0 b.worlds.length], [.arr 2 false 0 ((b.worlds.map World.e).map .t)]) := by
 refine CALL_of K.t_ref26_Copy rfl ?_
 obtain ⟨h1, h2⟩ := h
 have loop := copyBel_loop b.worlds h1 h2
 obtain ⟨l⟩ := b
 simp only at h1 h2 loop ⊢
 simp (disch := omega) only [go_sem, K.ref26_Copy, ↓reduceIte, loop]
def whoB (m : Mine) (first : List Int) (x : World) (k : Nat) : Bool := decide (0 ≤ bearerF first (nth x.tags k)) && validB m (nth x.whr k)
def worldB (m : Mine) (ws : List World) (first : List Int) (i : Nat) : Bool :=
 decide ((nth ws i).tags.length = first.length ∧ (nth ws i).whr.length = first.length) && properB (nth ws i).tags && (decide (i = 0) || lessB (nth ws (i - 1)).tags (nth ws i).tags) && (List.range (nth ws i).tags.length).all (whoB m first (nth ws i))
def belB (m : Mine) (b : Bel) : Bool :=
 decide (1 ≤ b.worlds.length ∧ b.worlds.length ≤ 24) && decide (1 ≤ (nth b.worlds 0).tags.length ∧ (nth b.worlds 0).tags.length ≤ 12) && (List.range b.worlds.length).all (worldB m b.worlds (nth b.worlds 0).tags)
theorem worldB_step {m : Mine} (h : m.ok) (ws : List World) (first : List Int) (hf : first.length ≤ 1000000) (hs : ∀ x ∈ ws, x.sz) (i : Nat) (hi : i < ws.length) (hl : ws.length ≤ 1000000) :
 (worldB m ws first i = true → roundC true [0, 1, 4, 7, 8] 2 (exS CALL K.ref26_Valid_l1b ⟨[.und, .und, .bp 0 0, .bp 1 0, .und, .t (tL first), I i, .und, .und], [.box (mineCells m), .box [.t (.sl (ws.map World.e))]]⟩) = some ⟨[.und, .und, .bp 0 0, .bp 1 0, .und, .t (tL first), I (i + 1), .und, .und], [.box (mineCells m), .box [.t (.sl (ws.map World.e))]]⟩) ∧
 (worldB m ws first i = false → ∃ q, exS CALL K.ref26_Valid_l1b ⟨[.und, .und, .bp 0 0, .bp 1 0, .und, .t (tL first), I i, .und, .und], [.box (mineCells m), .box [.t (.sl (ws.map World.e))]]⟩ = some q ∧ q.1 = .ret ∧ q.2.vs[4]? = some (B false)) := by
 have np := h.np
 have sz := hs _ (nth_mem hi)
 have sz0 : 0 < i → (nth ws (i - 1)).sz := fun h0 => hs _ (nth_mem (by omega))
 unfold worldB
 generalize hy : nth ws (i - 1) = y at *
 generalize hx : nth ws i = x at *
 obtain ⟨tags, whr⟩ := x
 obtain ⟨ptags, pwhr⟩ := y
 obtain ⟨s1, s2, s3⟩ := sz
 simp only at s1 s2 s3 sz0 ⊢
 have p := proper_ok tags s1
 have inner : tags.length = first.length → whr.length = first.length → ∀ a b c : D,
  ((List.range tags.length).all (whoB m first ⟨tags, whr⟩) = true ∧ exS CALL K.ref26_Valid_l2 ⟨[a, b, .bp 0 0, .bp 1 0, c, .t (tL first), I i, .bp 2 0, I 0], [.box (mineCells m), .box [.t (.sl (ws.map World.e))], .box [.t (tL tags), .t (.sl (whr.map Wh.e))]]⟩ =
    some (.exit 2, ⟨[.und, .und, .bp 0 0, .bp 1 0, .und, .t (tL first), I i, .bp 2 0, I tags.length], [.box (mineCells m), .box [.t (.sl (ws.map World.e))], .box [.t (tL tags), .t (.sl (whr.map Wh.e))]]⟩)) ∨
  ((List.range tags.length).all (whoB m first ⟨tags, whr⟩) = false ∧ ∃ j, exS CALL K.ref26_Valid_l2 ⟨[a, b, .bp 0 0, .bp 1 0, c, .t (tL first), I i, .bp 2 0, I 0], [.box (mineCells m), .box [.t (.sl (ws.map World.e))], .box [.t (tL tags), .t (.sl (whr.map Wh.e))]]⟩ =
    some (.ret, ⟨[.und, .und, .bp 0 0, .bp 1 0, B false, .t (tL first), I i, .bp 2 0, j], [.box (mineCells m), .box [.t (.sl (ws.map World.e))], .box [.t (tL tags), .t (.sl (whr.map Wh.e))]]⟩)) := by
  intro l1 l2 a b c
  have := loop_first (gc := true) (dead := [0, 1, 4]) (c := K.ref26_Valid_l2b) (vs := [a, b, .bp 0 0, .bp 1 0, c, .t (tL first), I i, .bp 2 0, I 0]) (H := [.box (mineCells m), .box [.t (.sl (ws.map World.e))], .box [.t (tL tags), .t (.sl (whr.map Wh.e))]])
   (fun j => ⟨[.und, .und, .bp 0 0, .bp 1 0, .und, .t (tL first), I i, .bp 2 0, I j], [.box (mineCells m), .box [.t (.sl (ws.map World.e))], .box [.t (tL tags), .t (.sl (whr.map Wh.e))]]⟩) tags.length (fun j => !whoB m first ⟨tags, whr⟩ j)
   (fun j => (.ret, ⟨[.und, .und, .bp 0 0, .bp 1 0, B false, .t (tL first), I i, .bp 2 0, I j], [.box (mineCells m), .box [.t (.sl (ws.map World.e))], .box [.t (tL tags), .t (.sl (whr.map Wh.e))]]⟩))
   (.exit 2, ⟨[.und, .und, .bp 0 0, .bp 1 0, .und, .t (tL first), I i, .bp 2 0, I tags.length], [.box (mineCells m), .box [.t (.sl (ws.map World.e))], .box [.t (tL tags), .t (.sl (whr.map Wh.e))]]⟩) rfl
   (by
    intro j hj hp
    have hp : whoB m first ⟨tags, whr⟩ j = true := by simpa using hp
    have b := bearer_ok first (nth tags j) hf
    have v := valid_ok h (nth whr j) (by have := s3 _ (nth_mem (l := whr) (j := j) (by omega)); omega)
    simp only [whoB, Bool.and_eq_true, decide_eq_true_eq] at hp
    rw [hp.2] at v
    have hp := hp.1
    simp (disch := omega) only [go_sem, K.ref26_Valid_l2b, ↓reduceIte, b, v])
   (by
    intro j hj hp
    have hp : whoB m first ⟨tags, whr⟩ j = false := by simpa using hp
    have b := bearer_ok first (nth tags j) hf
    have v := valid_ok h (nth whr j) (by have := s3 _ (nth_mem (l := whr) (j := j) (by omega)); omega)
    refine ⟨?_, by simp⟩
    by_cases c1 : bearerF first (nth tags j) < 0
    · simp (disch := omega) only [go_sem, K.ref26_Valid_l2b, ↓reduceIte, b, v]
    · have : validB m (nth whr j) = false := by
       simp only [whoB, Bool.and_eq_false_iff, decide_eq_false_iff_not] at hp
       rcases hp with hp | hp
       · exact absurd (by omega) hp
       · exact hp
      rw [this] at v
      simp (disch := omega) only [go_sem, K.ref26_Valid_l2b, ↓reduceIte, b, v])
   (by simp (disch := omega) only [go_sem, K.ref26_Valid_l2b, ↓reduceIte]) (by simp)
  cases hf : (List.range tags.length).find? (fun j => !whoB m first ⟨tags, whr⟩ j) with
  | none => rw [hf] at this; exact .inl ⟨by rw [find_all, hf]; rfl, this⟩
  | some j => rw [hf] at this; exact .inr ⟨by rw [find_all, hf]; rfl, ⟨_, this⟩⟩
 by_cases l1 : tags.length = first.length
 · by_cases l2 : whr.length = first.length
   · cases hp : properB tags with
     | false =>
       rw [hp] at p
       refine ⟨fun h => by simp [hp] at h, fun _ => ?_⟩
       simp (disch := omega) only [go_sem, K.ref26_Valid_l1b, ↓reduceIte, hx, p]
       refine ⟨_, rfl, ?_, ?_⟩ <;> rfl
     | true =>
       rw [hp] at p
       have inner := inner l1 l2
       cases i with
       | zero =>
         simp only [q_cast_zero] at inner
         simp only [l1, l2, and_self, decide_true, Bool.true_and, Bool.true_or] at inner ⊢
         rcases inner .und .und .und with ⟨e, -⟩ | ⟨e, -⟩
         · refine ⟨fun _ => ?_, fun h => by rw [e] at h; exact absurd h (by simp)⟩
           have inner := fun a b c => ((inner a b c).resolve_right fun h => by rw [e] at h; exact absurd h.1 (by simp)).2
           simp (disch := omega) only [go_sem, K.ref26_Valid_l1b, ↓reduceIte, hx, p, inner]
         · refine ⟨fun h => by rw [e] at h; exact absurd h (by simp), fun _ => ?_⟩
           have inner : ∀ a b c, _ := fun a b c => ((inner a b c).resolve_left fun h => by rw [e] at h; exact absurd h.1 (by simp)).2
           obtain ⟨j, inner⟩ := inner .und .und .und
           simp (disch := omega) only [go_sem, K.ref26_Valid_l1b, ↓reduceIte, hx, p, inner]
           refine ⟨_, rfl, ?_, ?_⟩ <;> rfl
       | succ i =>
         simp only [q_cast_add, q_cast_one] at inner
         rw [Nat.add_sub_cancel] at hy
         have ls := less_ok ptags tags (sz0 (by omega)).1 s1
         cases hl : lessB ptags tags with
         | false =>
           rw [hl] at ls
           refine ⟨fun h => by simp at h, fun _ => ?_⟩
           simp (disch := omega) only [go_sem, K.ref26_Valid_l1b, ↓reduceIte, hx, p, hy, ls]
           refine ⟨_, rfl, ?_, ?_⟩ <;> rfl
         | true =>
           rw [hl] at ls
           simp only [l1, l2, and_self, decide_true, Bool.true_and, Bool.or_true] at inner ⊢
           rcases inner .und .und .und with ⟨e, -⟩ | ⟨e, -⟩
           · refine ⟨fun _ => ?_, fun h => by rw [e] at h; exact absurd h (by simp)⟩
             have inner := fun a b c => ((inner a b c).resolve_right fun h => by rw [e] at h; exact absurd h.1 (by simp)).2
             simp (disch := omega) only [go_sem, K.ref26_Valid_l1b, ↓reduceIte, hx, hy, ls, p, inner]
           · refine ⟨fun h => by rw [e] at h; exact absurd h (by simp), fun _ => ?_⟩
             have inner : ∀ a b c, _ := fun a b c => ((inner a b c).resolve_left fun h => by rw [e] at h; exact absurd h.1 (by simp)).2
             obtain ⟨j, inner⟩ := inner .und .und .und
             simp (disch := omega) only [go_sem, K.ref26_Valid_l1b, ↓reduceIte, hx, hy, ls, p, inner]
             refine ⟨_, rfl, ?_, ?_⟩ <;> rfl
   · refine ⟨fun h => by simp [l2] at h, fun _ => ?_⟩
     simp (disch := omega) only [go_sem, K.ref26_Valid_l1b, ↓reduceIte, hx, p]
     refine ⟨_, rfl, ?_, ?_⟩ <;> rfl
 · refine ⟨fun h => by simp [l1] at h, fun _ => ?_⟩
   simp (disch := omega) only [go_sem, K.ref26_Valid_l1b, ↓reduceIte, hx, p]
   refine ⟨_, rfl, ?_, ?_⟩ <;> rfl
theorem belB_ok {m : Mine} (h : m.ok) (b : Bel) (hs : b.sz) : CALL 0 N.ref26_Valid [.t m.e, .t b.e] [] = some (B (belB m b), []) := by
 refine CALL_of K.t_ref26_Valid rfl ?_
 obtain ⟨h1, h2⟩ := hs
 have ck := check_ok h
 obtain ⟨ws⟩ := b
 unfold belB
 simp only at h1 h2 ⊢
 by_cases c1 : ws.length < 1
 · simp (disch := omega) only [go_sem, K.ref26_Valid, ↓reduceIte, show ¬ (1 ≤ ws.length ∧ ws.length ≤ 24) by omega, decide_false, Bool.false_and]
 · by_cases c2 : 24 < ws.length
   · simp (disch := omega) only [go_sem, K.ref26_Valid, ↓reduceIte, show ¬ (1 ≤ ws.length ∧ ws.length ≤ 24) by omega, decide_false, Bool.false_and]
   · have c3 : 1 ≤ ws.length ∧ ws.length ≤ 24 := by omega
     have sz := h2 _ (nth_mem (l := ws) (j := 0) (by omega))
     have i0 : (ws.map World.e)[0]? = some (nth ws 0).e := map_nth _ (by omega)
     generalize hx : nth ws 0 = x at *
     obtain ⟨first, whr⟩ := x
     have hf := sz.1
     simp only at hf ⊢
     by_cases c4 : first.length < 1
     · simp (disch := omega) only [go_sem, K.ref26_Valid, ↓reduceIte, ck, hx, c3, and_self, show ¬ (1 ≤ first.length ∧ first.length ≤ 12) by omega, decide_true, decide_false, Bool.true_and, Bool.false_and]
     · by_cases c5 : 12 < first.length
       · simp (disch := omega) only [go_sem, K.ref26_Valid, ↓reduceIte, ck, hx, c3, and_self, show ¬ (1 ≤ first.length ∧ first.length ≤ 12) by omega, decide_true, decide_false, Bool.true_and, Bool.false_and]
       · have loop := fun a b c d e => loop_find (gc := true) (dead := [0, 1, 4, 7, 8]) (c := K.ref26_Valid_l1b) (vs := [a, b, .bp 0 0, .bp 1 0, c, .t (tL first), I 0, d, e]) (H := [.box (mineCells m), .box [.t (.sl (ws.map World.e))]])
          (fun j => ⟨[.und, .und, .bp 0 0, .bp 1 0, .und, .t (tL first), I j, .und, .und], [.box (mineCells m), .box [.t (.sl (ws.map World.e))]]⟩) ws.length (fun j => !worldB m ws first j) (fun _ q => q.1 = .ret ∧ q.2.vs[4]? = some (B false))
          (.exit 0, ⟨[.und, .und, .bp 0 0, .bp 1 0, .und, .t (tL first), I ws.length, .und, .und], [.box (mineCells m), .box [.t (.sl (ws.map World.e))]]⟩) rfl
          (fun j hj hp => (worldB_step h ws first hf h2 j hj h1).1 (by simpa using hp))
          (fun j hj hp => by
           obtain ⟨q, q1, q2, q3⟩ := (worldB_step h ws first hf h2 j hj h1).2 (by simpa using hp)
           exact ⟨q, q1, by rw [q2]; simp, q2, q3⟩)
          (by simp (disch := omega) only [go_sem, K.ref26_Valid_l1b, ↓reduceIte]) (by simp)
         rw [find_all]
         rcases loop (.t m.e) (.t (Bel.e ⟨ws⟩)) (B false) .und .und with ⟨e1, e2⟩ | ⟨j, ⟨x, vs, H⟩, e1, e2, e3, e4⟩
         · have e2 : exS CALL K.ref26_Valid_l1 ⟨[.t m.e, .t (Bel.e ⟨ws⟩), .bp 0 0, .bp 1 0, B false, .t (tL first), I 0, .und, .und], [.box (mineCells m), .box [.t (.sl (ws.map World.e))]]⟩ = _ := e2
           simp (disch := omega) only [go_sem, K.ref26_Valid, ↓reduceIte, ck, hx, c3, and_self, show (1 ≤ first.length ∧ first.length ≤ 12) by omega, decide_true, decide_false, Bool.true_and, e1, e2, Option.isNone]
         · have e2 : exS CALL K.ref26_Valid_l1 ⟨[.t m.e, .t (Bel.e ⟨ws⟩), .bp 0 0, .bp 1 0, B false, .t (tL first), I 0, .und, .und], [.box (mineCells m), .box [.t (.sl (ws.map World.e))]]⟩ = _ := e2
           simp only at e3 e4
           subst e3
           simp (disch := omega) only [go_sem, K.ref26_Valid, ↓reduceIte, ck, hx, c3, and_self, show (1 ≤ first.length ∧ first.length ≤ 12) by omega, decide_true, decide_false, Bool.true_and, e1, e2, Option.isNone]
           simp (disch := omega) only [go_sem, getRes, e4, List.take_zero]
@[go_sem] theorem q_cast_two : ((2 : Nat) : Int) = 2 := (rfl)
def firstN (n : Nat) (p : Nat → Bool) : Nat := ((List.range n).find? p).getD 0
theorem loop_srch {gc : Bool} {dead : List Nat} {c : C} {vs : List D} {H : Heap} (s : Nat → St) (n : Nat) (p : Nat → Bool) (e : Nat → Ex × St) (eN : Ex × St)
 (h0 : (⟨dropV dead vs, H⟩ : St) = s 0)
 (hs : ∀ j, j < n → p j = false → roundC gc dead (s j).H.length (exS CALL c (s j)) = some (s (j + 1)))
 (he : ∀ j, j < n → p j = true → exS CALL c (s j) = some (e j) ∧ (e j).1 ≠ .normal)
 (hN : exS CALL c (s n) = some eN) (hn : eN.1 ≠ .normal) :
 exS CALL (.loop gc dead c) ⟨vs, H⟩ = some (if (List.range n).any p = true then e (firstN n p) else eN) := by
 rw [loop_first s n p e eN h0 hs he hN hn, ← find_any]
 unfold firstN
 cases hf : (List.range n).find? p with
 | none => simp
 | some k => simp
theorem any_rng {α : Type} [Dat α] (l : List α) (p : α → Bool) : ((List.range l.length).any fun j => p (nth l j)) = l.any p := by
 rw [Bool.eq_iff_iff, List.any_eq_true, List.any_eq_true]
 constructor
 · rintro ⟨j, hj, hp⟩
   exact ⟨_, nth_mem (List.mem_range.1 hj), hp⟩
 · rintro ⟨x, hx, hp⟩
   obtain ⟨j, hj, rfl⟩ := List.getElem_of_mem hx
   exact ⟨j, List.mem_range.2 hj, by rw [nth_eq (List.getElem?_eq_getElem hj)]; exact hp⟩
theorem all_rng (n : Nat) (p : Nat → Bool) : (List.range n).all p = !((List.range n).any fun j => !p j) := by
 rw [List.all_eq_not_any_not]
end Go.Ev
namespace Go.Ev.N
def law34_FiringRaw : Nat := 78
def law34_FiringMade : Nat := 79
def law34_FiringNeeds : Nat := 80
def law34_awake : Nat := 81
def made_Dice_Ints : Nat := 82
def law34_scene : Nat := 83
def law34_agree : Nat := 84
def law34_ready : Nat := 85
def firing_Arm : Nat := 86
def firing_Agree : Nat := 87
def firing_Fire : Nat := 88
def firing_Abort : Nat := 89
def firing_Valid : Nat := 90
def firing_Due : Nat := 91
def ref32_Border : Nat := 92
def ref32_Seal : Nat := 93
def made_Last : Nat := 94
def ref34_Arm : Nat := 95
def ref34_Agree : Nat := 96
def ref34_Fire : Nat := 97
def ref34_Abort : Nat := 98
def ref34_Valid : Nat := 99
def firing_Safe : Nat := 100
def ref34_Safe : Nat := 101
def ref34_Due : Nat := 102
def firing_request_check : Nat := 103
def firing_timely : Nat := 104
def lists_Rising : Nat := 105
def ref32_Barred : Nat := 106
def ref32_seal : Nat := 107
def ref34_step : Nat := 108
def ref34_blast : Nat := 109
def keys_Valid : Nat := 110
def area_Clear : Nat := 111
def ref33_Valid : Nat := 112
def ref32_Clear : Nat := 113
def ref31_Copy : Nat := 114
def keys_Valid_1 : Nat := 115
def keys_roads : Nat := 116
def keys_boxed : Nat := 117
def area_Clear_1 : Nat := 118
def keys_boxed_1 : Nat := 119
def ref26_Copy_v1 : Nat := 120
def ref26_Copy_v2 : Nat := 121
def ref26_CopyWorld_v2 : Nat := 122
end Go.Ev.N
namespace Go.Ev.K
open Go.Ev
end Go.Ev.K
namespace Go.Ev
class Has3 [Lib] : Prop where
namespace K
variable [Lib] [Has3]
end K
end Go.Ev
namespace Go.Ev.K
open Go.Ev
def lists_Rising_l1b : C := (.its  [u (.bin .lss v8 v7)] [] 0 .skip (.exit 0) (.seq (.blk 1 (.seq (.reg [m v8, a 1 v6 v8, g l0, w 4 (.mv l2), w 5 (.mv l1)] []) (.ite [m v5, m v1, u (.bin .lss l1 l0), m l0, y 0 false (.mv v5), y 1 false (.mv v2), y 2 false (.bin .gtr l1 l0), u (.pk l3 (.b true) l0), m l0, y 0 false (.mv v4), y 1 false (.bin .gtr l0 (.i 0)), y 2 false (.mv l0), y 0 true (.mv v5), y 1 true (.mv v0), y 2 true (.mv v4), y 3 true (.bin .sub l0 (.i 1)), y 4 true (.ia l2 l0 1), y 5 true (.ld l0 1 false), y 6 true (.bin .leq l5 l0), y 10 false (.pk l7 l0 (.b false)), u (.pk l11 (.b true) l0)] [] 0 (.seq (.reg [w 3 (.mv (.b false))] []) .ret) .skip))) (.reg [u (.bin .add v8 (.i 1)), w 8 (.mv l0)] [])))
def lists_Rising_l1 : C := .loop true [3, 4, 5] K.lists_Rising_l1b
def lists_Rising : Fn := { nargs := 3, vars := [0, 1, 2, 6, 7, 8, 9, 10, 11], body := (.seq (.reg [w 3 (.mv (.b false))] []) (.seq (.seq (.reg [w 6 (.mv v0), w 7 (.ln l0), w 8 (.mv (.i 0))] []) (.blk 0 K.lists_Rising_l1)) (.seq (.reg [w 3 (.mv (.b true))] []) .ret))), res := [(3, none)] }
def ref26_Copy_v1_l1b : C := (.seq (.ite [m v4, f 0 v1, g l0, u (.ln l0), u (.bin .lss l3 l0)] [] 0 .skip (.exit 0)) (.seq (.blk 1 (.reg [f 0 v3, g l0, f 0 v1, g l0, m v4, a 2 l1 l0, h 2 l0, u (.ca N.ref26_CopyWorld 1 [] [.l 0]), u (.bsr [.l 0] 2), u (.app l7 l0 false 2), f 0 v3, u (.st l0 l1 1 [])] [(1, 8), (1, 9)])) (.reg [m v4, u (.bin .add l0 (.i 1)), w 4 (.mv l0)] [])))
def ref26_Copy_v1_l1 : C := .loop false [0] K.ref26_Copy_v1_l1b
def ref26_Copy_v1 : Fn := { nargs := 1, vars := [0, 1, 2, 3, 4], body := (.seq (.reg [w 1 (.bx v0 1), w 2 (.al [.nil] [])] []) (.seq (.reg [w 3 (.al [.nil] [(0, 2)])] []) (.seq (.seq (.reg [w 4 (.mv (.i 0))] []) (.blk 0 K.ref26_Copy_v1_l1)) (.seq (.reg [h 1 v3, u (.st v2 l0 1 [])] []) .ret)))), res := [(2, some (1, true))] }
end Go.Ev.K
namespace Go.Ev
class Has4 [Lib] : Prop where
 t_lists_Rising : Lib.fs N.lists_Rising = some K.lists_Rising
 t_ref26_Copy_v1 : Lib.fs N.ref26_Copy_v1 = some K.ref26_Copy_v1
namespace K
variable [Lib] [Has4]
theorem t_lists_Rising : Lib.fs N.lists_Rising = some K.lists_Rising := Has4.t_lists_Rising
theorem t_ref26_Copy_v1 : Lib.fs N.ref26_Copy_v1 = some K.ref26_Copy_v1 := Has4.t_ref26_Copy_v1
end K
end Go.Ev
namespace Go.Ev
open Go
variable [Lib] [Has1] [Has2] [Has3] [Has4]
def risP (l : List Int) (lo hi : Int) (j : Nat) : Bool := !decide (lo ≤ nth l j ∧ nth l j ≤ hi ∧ (0 < j → nth l (j - 1) < nth l j))
def risB (l : List Int) (lo hi : Int) : Bool := !((List.range l.length).any (risP l lo hi))
theorem rising_ok (l : List Int) (lo hi : Int) (hl : l.length ≤ 4294967296) : CALL 0 N.lists_Rising [.t (tL l), I lo, I hi] [] = some (B (risB l lo hi), []) := by
 refine CALL_of K.t_lists_Rising rfl ?_
 have loop : ∀ a b c : D, exS CALL K.lists_Rising_l1 ⟨[.t (tL l), I lo, I hi, a, b, c, .t (tL l), I l.length, I 0], []⟩ =
  some (if (List.range l.length).any (risP l lo hi) = true
   then (.ret, ⟨[.t (tL l), I lo, I hi, B false, I (firstN l.length (risP l lo hi)), I (nth l (firstN l.length (risP l lo hi))), .t (tL l), I l.length, I (firstN l.length (risP l lo hi))], []⟩)
   else (.exit 0, ⟨[.t (tL l), I lo, I hi, .und, .und, .und, .t (tL l), I l.length, I l.length], []⟩)) := by
  intro a b c
  refine loop_srch (fun j => ⟨[.t (tL l), I lo, I hi, .und, .und, .und, .t (tL l), I l.length, I j], []⟩) l.length (risP l lo hi) (fun j => (.ret, ⟨[.t (tL l), I lo, I hi, B false, I j, I (nth l j), .t (tL l), I l.length, I j], []⟩)) _ rfl ?_ ?_ ?_ (by simp)
  · intro j hj hp
    simp only [risP, Bool.not_eq_false', decide_eq_true_eq] at hp
    obtain ⟨h1, h2, h3⟩ := hp
    cases j with
    | zero => simp (disch := omega) only [go_sem, K.lists_Rising_l1b, ↓reduceIte]
    | succ j =>
      have h3 := h3 (by omega)
      rw [Nat.add_sub_cancel] at h3
      simp (disch := omega) only [go_sem, K.lists_Rising_l1b, ↓reduceIte]
  · intro j hj hp
    simp only [risP, Bool.not_eq_true', decide_eq_false_iff_not] at hp
    refine ⟨?_, by simp⟩
    by_cases h1 : lo ≤ nth l j
    · by_cases h2 : nth l j ≤ hi
      · cases j with
        | zero => exact absurd ⟨h1, h2, fun h => absurd h (by omega)⟩ hp
        | succ j =>
          have h3 : ¬ nth l j < nth l (j + 1) := fun h => hp ⟨h1, h2, fun _ => by simpa using h⟩
          simp (disch := omega) only [go_sem, K.lists_Rising_l1b, ↓reduceIte]
      · simp (disch := omega) only [go_sem, K.lists_Rising_l1b, ↓reduceIte]
    · simp (disch := omega) only [go_sem, K.lists_Rising_l1b, ↓reduceIte]
  · simp (disch := omega) only [go_sem, K.lists_Rising_l1b, ↓reduceIte]
 unfold risB
 simp (disch := omega) only [go_sem, K.lists_Rising, ↓reduceIte, loop]
 cases hf : (List.range l.length).any (risP l lo hi) with
 | true => simp (disch := omega) only [go_sem, ↓reduceIte]
 | false => simp (disch := omega) only [go_sem, ↓reduceIte, Bool.false_eq_true]
theorem ris_set (l : List Int) (n : Int) : risB l 0 (n - 1) = setB l n := by
 unfold risB setB
 rw [all_rng]
 refine congrArg (!·) (congrArg _ (funext fun j => ?_))
 unfold risP
 refine congrArg (!·) (decide_eq_decide.2 ⟨fun h => ⟨h.1, by omega, h.2.2⟩, fun h => ⟨h.1, by omega, h.2.2⟩⟩)
structure Shot where
 st : Int
 fi : Int
 se : Int
 ti : Int
abbrev Shot.e (s : Shot) : T := .agg [tI s.st, tI s.fi, tI s.se, tI s.ti]
structure Blast where
 area : List Int
 hold : Int
 mis : Int
abbrev Blast.e (x : Blast) : T := .agg [tL x.area, tI x.hold, tI x.mis]
structure Keys where
 roads : List Int
 keys : List Int
 out : Bool
abbrev Keys.e (k : Keys) : T := .agg [tL k.roads, tL k.keys, .bool k.out]
end Go.Ev
namespace Go.Ev
open Go
variable [Lib] [Has1] [Has2]
@[go_sem] theorem ldBox_dice (H : Heap) (d : Dice) : ldBox H 0 1 false (some d.obj) = some (.t (tL d.L), H) := by simp only [Dice.obj, go_sem]
def Dice.placesN (d : Dice) : Nat → List Place × Dice
 | 0 => ([], d)
 | k + 1 => if k = 0 then ((d.placesN k).1 ++ [⟨-10 * ((d.placesN k).2.next 4).1, true⟩], ((d.placesN k).2.next 4).2)
   else ((d.placesN k).1 ++ [⟨-10 * ((d.placesN k).2.next 4).1, (((d.placesN k).2.next 4).2.one 6).1⟩], (((d.placesN k).2.next 4).2.one 6).2)
def Dice.road1 (d : Dice) (i : Int) : Road × Dice :=
 (⟨i - 1 - (d.next (min i 2)).1, i, 1 + ((d.next (min i 2)).2.of [11, 59, 119, 4]).1, 1 + (((d.next (min i 2)).2.of [11, 59, 119, 4]).2.of [9, 3, 19]).1, true, false, 1, 1, 0, 0⟩,
   (((d.next (min i 2)).2.of [11, 59, 119, 4]).2.of [9, 3, 19]).2)
def Dice.roadsN (d : Dice) : Nat → List Road × Dice
 | 0 => ([], d)
 | k + 1 => ((d.roadsN k).1 ++ [((d.roadsN k).2.road1 (k + 1)).1], ((d.roadsN k).2.road1 (k + 1)).2)
def Dice.road2 (d : Dice) (n : Int) : Road × Dice :=
 let a := d.next n
 let b := a.2.next n
 let l := b.2.of [11, 59, 199]
 let r := l.2.of [9, 3]
 let w := r.2.next 5
 let c := w.2.one 6
 (⟨a.1, b.1, 1 + l.1, 1 + r.1, decide (0 < w.1), c.1, 1, 1, 0, 0⟩, c.2)
def Dice.more (n : Int) (l : List Road) (d : Dice) : Nat → List Road × Dice
 | 0 => (l, d)
 | k + 1 => if l.length < 10 then Dice.more n (if (d.road2 n).1.frm = (d.road2 n).1.to then l else l ++ [(d.road2 n).1]) (d.road2 n).2 k else (l, d)
def Dice.mineN (d : Dice) : Nat := if d.L.length = 0 then 4 else (2 + (d.next 6).1).toNat
def Dice.mineP (d : Dice) : List Place × Dice := (d.next 6).2.placesN d.mineN
def Dice.mineR (d : Dice) : List Road × Dice := d.mineP.2.roadsN (d.mineN - 1)
def Dice.mineX (d : Dice) : List Road × Dice := Dice.more d.mineN d.mineR.1 (d.mineR.2.next 4).2 (d.mineR.2.next 4).1.toNat
def Dice.mine (d : Dice) : Mine × Dice := (⟨d.mineP.1, d.mineX.1⟩, d.mineX.2)
theorem Dice.placesN_light {d : Dice} (h : d.light) : ∀ n, (d.placesN n).2.light
 | 0 => h
 | n + 1 => by
   unfold Dice.placesN
   split
   · exact Dice.next_light (Dice.placesN_light h n) 4
   · exact Dice.one_light (Dice.next_light (Dice.placesN_light h n) 4) 6
theorem Dice.placesN_len (d : Dice) : ∀ n, (d.placesN n).1.length = n
 | 0 => rfl
 | n + 1 => by
   unfold Dice.placesN
   split <;> simp [d.placesN_len n]
theorem Dice.road1_light {d : Dice} (h : d.light) (i : Int) : (d.road1 i).2.light := Dice.of_light (Dice.of_light (Dice.next_light h _) _) _
theorem Dice.roadsN_light {d : Dice} (h : d.light) : ∀ n, (d.roadsN n).2.light
 | 0 => h
 | n + 1 => Dice.road1_light (Dice.roadsN_light h n) _
theorem Dice.roadsN_len (d : Dice) : ∀ n, (d.roadsN n).1.length = n
 | 0 => rfl
 | n + 1 => by simp [Dice.roadsN, d.roadsN_len n]
theorem Dice.road2_light {d : Dice} (h : d.light) (n : Int) : (d.road2 n).2.light := by
 unfold Dice.road2; simp only
 exact Dice.one_light (Dice.next_light (Dice.of_light (Dice.of_light (Dice.next_light (Dice.next_light h _) _) _) _) _) _
theorem Dice.more_light (n : Int) : ∀ (k : Nat) (l : List Road) {d : Dice}, d.light → (Dice.more n l d k).2.light
 | 0, l, d, h => h
 | k + 1, l, d, h => by
   unfold Dice.more
   split
   · exact Dice.more_light n k _ (Dice.road2_light h n)
   · exact h
theorem Dice.mine_light {d : Dice} (h : d.light) : d.mine.2.light :=
 Dice.more_light _ _ _ (Dice.next_light (Dice.roadsN_light (Dice.placesN_light (Dice.next_light h _) _) _) _)
abbrev roadBox : List D := [I 0, I 0, I 12, I 10, B true, B false, I 1, I 1, I 0, I 0]
theorem mine_loop1 (d : Dice) (hd : d.light) (n : Nat) (hn : n ≤ 8) (a b c e f : D) :
 exS CALL K.made_Dice_Mine_l1 ⟨[.bp 0 0, .bp 1 0, .bp 2 0, I n, I 0, a, b, c, e, f], [d.obj, .box [.nil, .nil], .box [.ref 3 0 0, .ref 4 0 0], .arr 2 false 0 [], .arr 10 false 0 []]⟩ =
 some (.exit 0, ⟨[.bp 0 0, .bp 1 0, .bp 2 0, I n, I n, .und, .und, .und, .und, .und], [(d.placesN n).2.obj, .box [.nil, .nil], .box [.ref 3 0 (d.placesN n).1.length, .ref 4 0 0], .arr 2 false 0 (((d.placesN n).1.map Place.e).map .t), .arr 10 false 0 []]⟩) := by
 refine loop_up (fun j => ⟨[.bp 0 0, .bp 1 0, .bp 2 0, I n, I j, .und, .und, .und, .und, .und], [(d.placesN j).2.obj, .box [.nil, .nil], .box [.ref 3 0 (d.placesN j).1.length, .ref 4 0 0], .arr 2 false 0 (((d.placesN j).1.map Place.e).map .t), .arr 10 false 0 []]⟩) n rfl ?_ ?_ (by simp)
 · intro j hj
   have ln := d.placesN_len j
   have lt := Dice.placesN_light hd j
   simp only [Dice.placesN]
   generalize d.placesN j = s at *
   obtain ⟨l, d1⟩ := s
   simp only at ln lt ⊢
   have h1 := next_ok d1 4 (by omega) lt
   have b1 := d1.next_lo 4
   have b2 := d1.next_hi (n := 4) (by omega)
   have l1 := Dice.next_light lt 4
   generalize d1.next 4 = a1 at *
   obtain ⟨x, d2⟩ := a1
   simp only at h1 b1 b2 l1 ⊢
   by_cases j0 : j = 0
   · subst j0
     simp (disch := omega) only [go_sem, K.made_Dice_Mine_l1b, h1, ↓reduceIte, Nat.reduceAdd, Nat.reduceSub]
   · have h2 := one_ok d2 6 (by omega) (by omega) l1
     simp (disch := omega) only [go_sem, K.made_Dice_Mine_l1b, h1, h2, j0, ↓reduceIte, Nat.reduceAdd, Nat.reduceSub]
 · simp (disch := omega) only [go_sem, K.made_Dice_Mine_l1b, ↓reduceIte]
theorem mine_loop2 (d : Dice) (hd : d.light) (n : Nat) (hn : n ≤ 8) (h1 : 1 ≤ n) (ps : List Place) (a b c e : D) :
 exS CALL K.made_Dice_Mine_l2 ⟨[.bp 0 0, .bp 1 0, .bp 2 0, I n, a, .bp 5 0, I 1, b, c, e], [d.obj, .box [.nil, .nil], .box [.ref 3 0 ps.length, .ref 4 0 0], .arr 2 false 0 ((ps.map Place.e).map .t), .arr 10 false 0 [], .box roadBox]⟩ =
 some (.exit 2, ⟨[.bp 0 0, .bp 1 0, .bp 2 0, I n, .und, .bp 5 0, I n, .und, .und, .und], [(d.roadsN (n - 1)).2.obj, .box [.nil, .nil], .box [.ref 3 0 ps.length, .ref 4 0 (d.roadsN (n - 1)).1.length], .arr 2 false 0 ((ps.map Place.e).map .t), .arr 10 false 0 (((d.roadsN (n - 1)).1.map Road.e).map .t), .box roadBox]⟩) := by
 refine loop_up (fun j => ⟨[.bp 0 0, .bp 1 0, .bp 2 0, I n, .und, .bp 5 0, I (j + 1), .und, .und, .und], [(d.roadsN j).2.obj, .box [.nil, .nil], .box [.ref 3 0 ps.length, .ref 4 0 (d.roadsN j).1.length], .arr 2 false 0 ((ps.map Place.e).map .t), .arr 10 false 0 (((d.roadsN j).1.map Road.e).map .t), .box roadBox]⟩) (n - 1) rfl ?_ ?_ (by simp)
 · intro j hj
   have ln := d.roadsN_len j
   have lt := Dice.roadsN_light hd j
   simp only [Dice.roadsN]
   generalize d.roadsN j = s at *
   obtain ⟨l, d1⟩ := s
   simp only [Dice.road1] at ln lt ⊢
   have h1 := next_ok d1 (min ((j : Int) + 1) 2) (by omega) lt
   have b1 := d1.next_lo (min ((j : Int) + 1) 2)
   have b2 := d1.next_hi (n := min ((j : Int) + 1) 2) (by omega)
   have l1 := Dice.next_light lt (min ((j : Int) + 1) 2)
   generalize d1.next (min ((j : Int) + 1) 2) = a1 at *
   obtain ⟨x, d2⟩ := a1
   simp only at h1 b1 b2 l1 ⊢
   have h2 := of_ok d2 [11, 59, 119, 4] (by simp) (by simp) l1
   have m2 := d2.of_mem (l := [11, 59, 119, 4]) (by simp)
   have l2 := Dice.of_light l1 [11, 59, 119, 4]
   generalize d2.of [11, 59, 119, 4] = a2 at *
   obtain ⟨y, d3⟩ := a2
   simp only [tL, List.map_cons, List.map_nil] at h2 m2 l2 ⊢
   have h3 := of_ok d3 [9, 3, 19] (by simp) (by simp) l2
   have m3 := d3.of_mem (l := [9, 3, 19]) (by simp)
   generalize d3.of [9, 3, 19] = a3 at *
   obtain ⟨z, d4⟩ := a3
   simp only [tL, List.map_cons, List.map_nil, List.mem_cons, List.not_mem_nil, or_false] at h3 m2 m3 ⊢
   simp (disch := omega) only [go_sem, K.made_Dice_Mine_l2b, h1, h2, h3, ↓reduceIte, Nat.reduceAdd, Nat.reduceSub]
 · simp (disch := omega) only [go_sem, K.made_Dice_Mine_l2b, ↓reduceIte]
   rw [show ((n - 1 : Nat) : Int) + 1 = n by omega]
abbrev mineH (d : Dice) (ps : List Place) (l : List Road) : Heap := [d.obj, .box [.nil, .nil], .box [.ref 3 0 ps.length, .ref 4 0 l.length], .arr 2 false 0 ((ps.map Place.e).map .t), .arr 10 false 0 ((l.map Road.e).map .t), .box roadBox]
theorem mine_round (d : Dice) (hd : d.light) (n : Int) (hn : 1 ≤ n) (hn2 : n ≤ 8) (ps : List Place) (l : List Road) (hl : l.length < 10) (k : Nat) (hk : k ≤ 10) :
 roundC true [4, 6, 7, 9] 6 (exS CALL K.made_Dice_Mine_l3b ⟨[.bp 0 0, .bp 1 0, .bp 2 0, I n, .und, .bp 5 0, .und, .und, I (k + 1), .und], mineH d ps l⟩) =
 some ⟨[.bp 0 0, .bp 1 0, .bp 2 0, I n, .und, .bp 5 0, .und, .und, I k, .und], mineH (d.road2 n).2 ps (if (d.road2 n).1.frm = (d.road2 n).1.to then l else l ++ [(d.road2 n).1])⟩ := by
 unfold Dice.road2 mineH
 simp only
 have h1 := next_ok d n (by omega) hd
 have l1 := Dice.next_light hd n
 generalize d.next n = a1 at *
 obtain ⟨x1, d1⟩ := a1
 simp only at h1 l1 ⊢
 have h2 := next_ok d1 n (by omega) l1
 have l2 := Dice.next_light l1 n
 generalize d1.next n = a2 at *
 obtain ⟨x2, d2⟩ := a2
 simp only at h2 l2 ⊢
 have h3 := of_ok d2 [11, 59, 199] (by simp) (by simp) l2
 have m3 := d2.of_mem (l := [11, 59, 199]) (by simp)
 have l3 := Dice.of_light l2 [11, 59, 199]
 generalize d2.of [11, 59, 199] = a3 at *
 obtain ⟨x3, d3⟩ := a3
 simp only [tL, List.map_cons, List.map_nil] at h3 m3 l3 ⊢
 have h4 := of_ok d3 [9, 3] (by simp) (by simp) l3
 have m4 := d3.of_mem (l := [9, 3]) (by simp)
 have l4 := Dice.of_light l3 [9, 3]
 generalize d3.of [9, 3] = a4 at *
 obtain ⟨x4, d4⟩ := a4
 simp only [tL, List.map_cons, List.map_nil] at h4 m4 l4 ⊢
 have h5 := next_ok d4 5 (by omega) l4
 have l5 := Dice.next_light l4 5
 generalize d4.next 5 = a5 at *
 obtain ⟨x5, d5⟩ := a5
 simp only at h5 l5 ⊢
 have h6 := one_ok d5 6 (by omega) (by omega) l5
 generalize d5.one 6 = a6 at *
 obtain ⟨x6, d6⟩ := a6
 simp only [List.mem_cons, List.not_mem_nil, or_false] at h6 m3 m4 ⊢
 by_cases e : x1 = x2
 · simp (disch := omega) only [go_sem, K.made_Dice_Mine_l3b, h1, h2, h3, h4, h5, h6, e, ↓reduceIte, Nat.reduceAdd, Nat.reduceSub]
 · simp (disch := omega) only [go_sem, K.made_Dice_Mine_l3b, h1, h2, h3, h4, h5, h6, e, ↓reduceIte, Nat.reduceAdd, Nat.reduceSub]
theorem mine_loop3 (n : Int) (hn : 1 ≤ n) (hn2 : n ≤ 8) (ps : List Place) : ∀ (k : Nat) (d : Dice) (l : List Road), d.light → l.length ≤ 10 → k ≤ 10 →
 ∃ z : Int, loopC true [4, 6, 7, 9] (exS CALL K.made_Dice_Mine_l3b) ⟨[.bp 0 0, .bp 1 0, .bp 2 0, I n, .und, .bp 5 0, .und, .und, I k, .und], mineH d ps l⟩ =
 some (.exit 4, ⟨[.bp 0 0, .bp 1 0, .bp 2 0, I n, .und, .bp 5 0, .und, .und, I z, .und], mineH (Dice.more n l d k).2 ps (Dice.more n l d k).1⟩)
 | 0, d, l, hd, hl, hk => by
   refine ⟨0, loopC_exit ?_ (by simp)⟩
   simp (disch := omega) only [go_sem, K.made_Dice_Mine_l3b, Dice.more, ↓reduceIte, Nat.reduceAdd, Nat.reduceSub]
 | k + 1, d, l, hd, hl, hk => by
   by_cases h : l.length < 10
   · have hr := mine_round d hd n hn hn2 ps l h k (by omega)
     obtain ⟨z, hz⟩ := mine_loop3 n hn hn2 ps k (d.road2 n).2 (if (d.road2 n).1.frm = (d.road2 n).1.to then l else l ++ [(d.road2 n).1]) (Dice.road2_light hd n) (by split <;> (try rw [List.length_append, List.length_singleton]) <;> omega) (by omega)
     refine ⟨z, loopC_step hr ?_⟩
     rw [hz]
     simp only [Dice.more, if_pos h]
   · refine ⟨(k : Int) + 1, loopC_exit ?_ (by simp)⟩
     simp (disch := omega) only [go_sem, K.made_Dice_Mine_l3b, Dice.more, ↓reduceIte, Nat.reduceAdd, Nat.reduceSub]
theorem Dice.more_len (n : Int) : ∀ (k : Nat) (l : List Road) (d : Dice), l.length ≤ 10 → (Dice.more n l d k).1.length ≤ 10
 | 0, l, d, h => h
 | k + 1, l, d, h => by
   unfold Dice.more
   split
   · exact Dice.more_len n k _ _ (by split <;> (try rw [List.length_append, List.length_singleton]) <;> omega)
   · exact h
theorem Dice.mineN_bd (d : Dice) : 2 ≤ d.mineN ∧ d.mineN ≤ 7 := by
 unfold Dice.mineN
 have := d.next_lo 6
 have := d.next_hi (n := 6) (by omega)
 split <;> omega
theorem mine_ok (d : Dice) (hd : d.light) : CALL 0 N.made_Dice_Mine [.bp 0 0] [d.obj] = some (.t d.mine.1.e, [d.mine.2.obj]) := by
 refine CALL_of K.t_made_Dice_Mine rfl ?_
 have nb := d.mineN_bd
 unfold Dice.mine
 have h0 := next_ok d 6 (by omega) hd
 have l0 := Dice.next_light hd 6
 have b1 := d.next_lo 6
 have b2 := d.next_hi (n := 6) (by omega)
 have hL := d.next_L 6
 have hN : (d.mineN : Int) = if d.L.length = 0 then 4 else 2 + (d.next 6).1 := by unfold Dice.mineN; split <;> omega
 have e1 : d.mineX = Dice.more d.mineN d.mineR.1 (d.mineR.2.next 4).2 (d.mineR.2.next 4).1.toNat := rfl
 have e2 : d.mineR = d.mineP.2.roadsN (d.mineN - 1) := rfl
 have e3 : d.mineP = (d.next 6).2.placesN d.mineN := rfl
 generalize d.mineX = X at *
 generalize d.mineR = R at *
 generalize d.mineP = P at *
 generalize d.mineN = n at *
 generalize d.next 6 = a at *
 obtain ⟨x, d1⟩ := a
 simp only at h0 l0 b1 b2 hL hN e3 ⊢
 have q1 := mine_loop1 d1 l0 n (by omega)
 have lP := Dice.placesN_light l0 n
 have nP := d1.placesN_len n
 rw [← e3] at q1 lP nP
 obtain ⟨ps, d2⟩ := P
 simp only at q1 lP nP e2 ⊢
 have q2 := mine_loop2 d2 lP n (by omega) (by omega) ps
 have lR := Dice.roadsN_light lP (n - 1)
 have nR := d2.roadsN_len (n - 1)
 rw [← e2] at q2 lR nR
 obtain ⟨rs, d3⟩ := R
 simp only at q2 lR nR e1 ⊢
 have h4 := next_ok d3 4 (by omega) lR
 have l4 := Dice.next_light lR 4
 have b3 := d3.next_lo 4
 have b4 := d3.next_hi (n := 4) (by omega)
 generalize d3.next 4 = c at *
 obtain ⟨y, d4⟩ := c
 simp only at h4 l4 b3 b4 e1 ⊢
 obtain ⟨z, q3⟩ := mine_loop3 n (by omega) (by omega) ps y.toNat d4 rs l4 (by omega) (by omega)
 rw [← e1] at q3
 have q3 := loop_is (vs := [.bp 0 0, .bp 1 0, .bp 2 0, I n, .und, .bp 5 0, I n, .und, I y.toNat, .und]) q3
 have ey : (y.toNat : Int) = y := by omega
 rw [ey] at q3
 obtain ⟨xs, d5⟩ := X
 have fin : ∀ k : Int, (exS CALL K.made_Dice_Mine_l3 ⟨[.bp 0 0, .bp 1 0, .bp 2 0, I n, .und, .bp 5 0, I n, .und, I y, .und], mineH d4 ps rs⟩) =
  some (.exit 4, ⟨[.bp 0 0, .bp 1 0, .bp 2 0, I n, .und, .bp 5 0, .und, .und, I z, .und], mineH d5 ps xs⟩) := fun _ => q3
 clear q3
 have q3 := fin 0
 clear fin
 simp only [mineH] at q3
 by_cases c0 : d.L.length = 0
 · rw [if_pos c0] at hN
   obtain rfl : n = 4 := by omega
   have e4 : ((4 : Nat) : Int) = 4 := rfl
   simp only [e4] at q1 q2 q3
   simp (disch := omega) only [go_sem, K.made_Dice_Mine, ↓reduceIte, h0, c0, q1, q2, q3, h4, hL, Nat.reduceAdd, Nat.reduceSub]
 · rw [if_neg c0] at hN
   simp (disch := omega) only [go_sem, K.made_Dice_Mine, ↓reduceIte, h0, c0, q1, q2, q3, h4, hL, hN.symm, Nat.reduceAdd, Nat.reduceSub]
theorem Dice.road1_ok (d : Dice) {n : Nat} {i : Int} (h1 : 1 ≤ i) (h2 : i < n) : (d.road1 i).1.ok n := by
 have b1 := d.next_lo (min i 2)
 have b2 := d.next_hi (n := min i 2) (by omega)
 have m2 := (d.next (min i 2)).2.of_mem (l := [11, 59, 119, 4]) (by simp)
 have m3 := ((d.next (min i 2)).2.of [11, 59, 119, 4]).2.of_mem (l := [9, 3, 19]) (by simp)
 simp only [List.mem_cons, List.not_mem_nil, or_false] at m2 m3
 unfold Dice.road1
 constructor <;> (simp only; omega)
theorem Dice.roadsN_ok (d : Dice) {n : Nat} : ∀ k, k + 1 ≤ n → ∀ r ∈ (d.roadsN k).1, r.ok n
 | 0, _, r, hr => by simp [Dice.roadsN] at hr
 | k + 1, h, r, hr => by
   simp only [Dice.roadsN, List.mem_append, List.mem_singleton] at hr
   rcases hr with hr | rfl
   · exact d.roadsN_ok k (by omega) r hr
   · exact Dice.road1_ok _ (by omega) (by omega)
theorem Dice.road2_ok (d : Dice) {n : Nat} (hn : 1 ≤ n) (hne : (d.road2 n).1.frm ≠ (d.road2 n).1.to) : (d.road2 n).1.ok n := by
 unfold Dice.road2 at hne ⊢
 simp only at hne ⊢
 have b1 := d.next_lo n
 have b2 := d.next_hi (n := (n : Int)) (by omega)
 generalize d.next n = a1 at *
 obtain ⟨x1, d1⟩ := a1
 simp only at *
 have c1 := d1.next_lo n
 have c2 := d1.next_hi (n := (n : Int)) (by omega)
 generalize d1.next n = a2 at *
 obtain ⟨x2, d2⟩ := a2
 simp only at *
 have m3 := d2.of_mem (l := [11, 59, 199]) (by simp)
 generalize d2.of [11, 59, 199] = a3 at *
 obtain ⟨x3, d3⟩ := a3
 simp only at *
 have m4 := d3.of_mem (l := [9, 3]) (by simp)
 generalize d3.of [9, 3] = a4 at *
 obtain ⟨x4, d4⟩ := a4
 simp only [List.mem_cons, List.not_mem_nil, or_false] at m3 m4 ⊢
 constructor <;> (simp only; omega)
theorem Dice.more_ok {n : Nat} (hn : 1 ≤ n) : ∀ (k : Nat) (l : List Road) (d : Dice), (∀ r ∈ l, r.ok n) → ∀ r ∈ (Dice.more n l d k).1, r.ok n
 | 0, l, d, h => h
 | k + 1, l, d, h => by
   unfold Dice.more
   split
   · refine Dice.more_ok hn k _ _ ?_
     split
     · exact h
     · rename_i hne
       intro r hr
       rcases List.mem_append.1 hr with hr | hr
       · exact h r hr
       · rw [List.mem_singleton.1 hr]; exact d.road2_ok hn hne
   · exact h
theorem Dice.more_len2 (n : Int) : ∀ (k : Nat) (l : List Road) (d : Dice), l.length ≤ (Dice.more n l d k).1.length
 | 0, l, d => Nat.le_refl _
 | k + 1, l, d => by
   unfold Dice.more
   split
   · refine Nat.le_trans ?_ (Dice.more_len2 n k _ _)
     split <;> (try rw [List.length_append]) <;> omega
   · exact Nat.le_refl _
theorem Dice.placesN_h (d : Dice) : ∀ k, ∀ p ∈ (d.placesN k).1, -30 ≤ p.h ∧ p.h ≤ 0
 | 0, p, hp => by simp [Dice.placesN] at hp
 | k + 1, p, hp => by
   have b1 := (d.placesN k).2.next_lo 4
   have b2 := (d.placesN k).2.next_hi (n := 4) (by omega)
   unfold Dice.placesN at hp
   split at hp
   all_goals
    simp only [List.mem_append, List.mem_singleton] at hp
    rcases hp with hp | rfl
    · exact d.placesN_h k p hp
    · simp only; omega
theorem Dice.mine_places (d : Dice) : d.mine.1.places.length = d.mineN := Dice.placesN_len _ _
theorem Dice.mine_roads (d : Dice) : d.mineN - 1 ≤ d.mine.1.roads.length ∧ d.mine.1.roads.length ≤ 10 := by
 have nb := d.mineN_bd
 have e : d.mineR.1.length = d.mineN - 1 := Dice.roadsN_len _ _
 constructor
 · rw [← e]; exact Dice.more_len2 _ _ _ _
 · exact Dice.more_len _ _ _ _ (by omega)
theorem Dice.mine_good (d : Dice) : d.mine.1.ok := by
 have nb := d.mineN_bd
 have h1 := d.mine_places
 have h2 := d.mine_roads
 refine ⟨by omega, by omega, fun p hp => ?_, ?_⟩
 · have := Dice.placesN_h _ _ p hp; omega
 · rw [h1]
   exact Dice.more_ok (by omega) _ _ _ (Dice.roadsN_ok _ _ (by omega))
def Dice.flow1 (d : Dice) : Spn × Dice :=
 let a := d.of [0, 1000, 5000, 20000, -5000, -20000, 4999, 100]
 let b := a.2.of [0, 1, 1000, 6000]
 let c := b.2.of [0, 1, 500]
 let w := c.2.one 9
 (if w.1 = true then ⟨-1125899906842624, 1125899906842624⟩ else ⟨a.1 - b.1, a.1 + c.1⟩, w.2)
def Dice.flowsN (d : Dice) : Nat → List Spn × Dice
 | 0 => ([], d)
 | k + 1 => ((d.flowsN k).1 ++ [((d.flowsN k).2.flow1).1], ((d.flowsN k).2.flow1).2)
def Dice.flows (d : Dice) (m : Mine) : List Spn × Dice := d.flowsN m.roads.length
theorem loop_x {gc : Bool} {dead : List Nat} {c : C} {vs : List D} {H : Heap} (P : Nat → St → Prop) (n : Nat) (Q : Ex × St → Prop) (h0 : P 0 ⟨dropV dead vs, H⟩)
 (hs : ∀ j st, j < n → P j st → (∃ st', roundC gc dead st.H.length (exS CALL c st) = some st' ∧ P (j + 1) st') ∨ ∃ q, exS CALL c st = some q ∧ q.1 ≠ .normal ∧ Q q)
 (he : ∀ st, P n st → ∃ q, exS CALL c st = some q ∧ q.1 ≠ .normal ∧ Q q) : ∃ q, exS CALL (.loop gc dead c) ⟨vs, H⟩ = some q ∧ Q q := by
 have key : ∀ (k j : Nat) (st : St), j + k = n → P j st → ∃ q, loopC gc dead (exS CALL c) st = some q ∧ Q q := by
  intro k
  induction k with
  | zero =>
    intro j st hj hp
    obtain ⟨q, h1, h2, h3⟩ := he st (by rw [← hj]; exact hp)
    exact ⟨q, loopC_exit h1 h2, h3⟩
  | succ k ih =>
    intro j st hj hp
    rcases hs j st (by omega) hp with ⟨st', h1, h2⟩ | ⟨q, h1, h2, h3⟩
    · obtain ⟨q, h3, h4⟩ := ih (j + 1) st' (by omega) h2
      exact ⟨q, loopC_step h1 h3, h4⟩
    · exact ⟨q, loopC_exit h1 h2, h3⟩
 exact key n 0 _ (by omega) h0
theorem roll_x (l : List Int) : CALL 0 N.made_Roll [.t (tL l)] [] = some (.bp 0 0, [Dice.obj ⟨l, 0⟩]) := by
 refine CALL_of K.t_made_Roll rfl ?_
 simp (disch := omega) only [go_sem, K.made_Roll, ↓reduceIte, Dice.obj, Nat.reduceAdd, Nat.reduceSub]
theorem mine_x {d : Dice} (hd : d.light) :
 ∃ (m : Mine) (e : Dice), CALL 0 N.made_Dice_Mine [.bp 0 0] [d.obj] = some (.t m.e, [e.obj]) ∧ e.light ∧ m.ok ∧ 2 ≤ m.places.length ∧ m.places.length ≤ 7 ∧ 1 ≤ m.roads.length ∧ m.roads.length ≤ 10 := by
 have b := d.mineN_bd
 have p := d.mine_places
 have r := d.mine_roads
 exact ⟨_, _, mine_ok d hd, Dice.mine_light hd, d.mine_good, by omega, by omega, by omega, by omega⟩
end Go.Ev
namespace Go.Ev
open Go
variable [Lib] [Has1] [Has2] [Has3] [Has4]
abbrev never : Int := 1099511627776
abbrev Wh.box (w : Wh) : Obj := .box [I w.time, .t (tL w.frm)]
abbrev tX (xs : List World) : T := .sl (xs.map World.e)
structure Req where
 x : Blast
 s : Shot
 k : Keys
 b : Bel
 t : Int
 from_ : Int
abbrev Req.e (r : Req) : T := .agg [tL r.x.area, tI r.x.hold, tI r.x.mis, tI r.s.st, tI r.s.fi, tI r.s.se, tI r.s.ti, tL r.k.roads, tL r.k.keys, .bool r.k.out, .sl (r.b.worlds.map World.e), tI r.t, tI r.from_]
structure Req.sz (r : Req) : Prop where
 hx : r.x.area.length ≤ 1000000
 hk : r.k.roads.length ≤ 1000000
 hk2 : r.k.keys.length ≤ 1000000
 hb : r.b.sz
section
variable (x : Blast) (s : Shot) (k : Keys) (b : Bel) (hx : x.area.length ≤ 1000000) (hk : k.roads.length ≤ 1000000) (hk2 : k.keys.length ≤ 1000000) (hb : b.sz)
include hx hk hk2 hb
end
end Go.Ev
namespace Go.Ev
open Go
variable [Lib] [Has1] [Has2] [Has3] [Has4]
section
variable (area : List Int) (ha : area.length ≤ 1000000) (xs : List World) (hx : xs.length ≤ 1000000)
include ha hx
end
end Go.Ev
namespace Go.Ev
open Go
section
variable (H : Heap) (sz id ep n lo hi : Nat) (i j : Int) (fz : Bool)
def scO (r : D) : Option Obj → Option (D × Heap)
 | some (.arr sz' _ ep' es) => if ep = ep' ∧ n = es.length then (if sz' = sz then some (r, H) else none) else none
 | _ => none
@[go_sem] theorem scO_arr (r : D) (sz' : Nat) (pin : Bool) (es : List D) : scO H sz ep n r (some (.arr sz' pin ep es)) = if n = es.length then (if sz' = sz then some (r, H) else none) else none := by simp [scO]
theorem scR {l h : Nat} : ((arrAt H id ep n).bind fun a => if l ≤ h ∧ h ≤ n ∧ a.1 = sz then some (D.sub id ep n l h) else none).map (fun d => (d, H)) = if l ≤ h then (if h ≤ n then scO H sz ep n (.sub id ep n l h) H[id]? else none) else none := by
 simp only [arrAt]
 generalize H[id]? = o
 by_cases h1 : l ≤ h
 · by_cases h2 : h ≤ n
   · rw [if_pos h1, if_pos h2]
     rcases o with _ | (_ | ⟨sz', pin, ep', es⟩)
     · rfl
     · rfl
     · simp only [scO]
       by_cases h3 : ep = ep' ∧ n = es.length
       · rw [if_pos h3, if_pos h3, Option.bind_some]
         by_cases h4 : sz' = sz
         · rw [if_pos h4, if_pos ⟨h1, h2, h4⟩]; rfl
         · rw [if_neg h4, if_neg fun h => h4 h.2.2]; rfl
       · rw [if_neg h3, if_neg h3]; rfl
   · rw [if_pos h1, if_neg h2]
     rcases o with _ | (_ | ⟨sz', pin, ep', es⟩)
     · rfl
     · rfl
     · by_cases h3 : ep = ep' ∧ n = es.length
       · simp only [if_pos h3, Option.bind_some]; rw [if_neg fun h => h2 h.2.1]; rfl
       · simp only [if_neg h3]; rfl
 · rw [if_neg h1]
   rcases o with _ | (_ | ⟨sz', pin, ep', es⟩)
   · rfl
   · rfl
   · by_cases h3 : ep = ep' ∧ n = es.length
     · simp only [if_pos h3, Option.bind_some]; rw [if_neg fun h => h1 h.1]; rfl
     · simp only [if_neg h3]; rfl
@[go_sem] theorem opSc_ref_hi : opSc H sz (some (.ref id ep n)) (some none) (some (some i)) = if 0 ≤ i then (if i ≤ n then scO H sz ep n (.sub id ep n 0 i.toNat) H[id]? else none) else none := by
 simp only [opSc, Option.bind_some, sliceD, bound, idx]
 by_cases h1 : 0 ≤ i
 · rw [if_pos h1, if_pos h1, Option.bind_some, scR, if_pos (Nat.zero_le _)]
   by_cases h2 : i ≤ n
   · rw [if_pos h2, if_pos (by omega)]
   · rw [if_neg h2, if_neg (by omega)]
 · rw [if_neg h1, if_neg h1]; rfl
@[go_sem] theorem opSc_ref_lo : opSc H sz (some (.ref id ep n)) (some (some i)) (some none) = if 0 ≤ i then (if i ≤ n then scO H sz ep n (.sub id ep n i.toNat n) H[id]? else none) else none := by
 simp only [opSc, Option.bind_some, sliceD, bound, idx]
 by_cases h1 : 0 ≤ i
 · rw [if_pos h1, if_pos h1, Option.bind_some, scR]
   by_cases h2 : i ≤ n
   · rw [if_pos h2, if_pos (by omega), if_pos (by omega)]
   · rw [if_neg h2, if_neg (by omega)]
 · rw [if_neg h1, if_neg h1]; rfl
@[go_sem] theorem opSc_nil_hi : opSc H sz (some .nil) (some none) (some (some i)) = if i = 0 then some (.nil, H) else none := by
 simp only [opSc, Option.bind_some, sliceD, bound, idx]
 by_cases h1 : 0 ≤ i
 · rw [if_pos h1, Option.bind_some]
   by_cases h2 : i = 0
   · rw [if_pos h2, if_pos (by omega)]; rfl
   · rw [if_neg h2, if_neg (by omega)]; rfl
 · rw [if_neg h1, if_neg (by omega)]; rfl
@[go_sem] theorem opSc_nil_lo : opSc H sz (some .nil) (some (some i)) (some none) = if i = 0 then some (.nil, H) else none := by
 simp only [opSc, Option.bind_some, sliceD, bound, idx]
 by_cases h1 : 0 ≤ i
 · rw [if_pos h1, Option.bind_some]
   by_cases h2 : i = 0
   · rw [if_pos h2, if_pos (by omega)]; rfl
   · rw [if_neg h2, if_neg (by omega)]; rfl
 · rw [if_neg h1, if_neg (by omega)]; rfl
def appD (x : D) (ys : List D) : Option (D × Heap) := if headSize sz ys = true then (match x with
 | .nil => if ys.length ≤ 4294967296 then some (.ref H.length 0 ys.length, H ++ [.arr sz false 0 ys]) else none
 | .ref id ep n => appRef H sz id ep n ys H[id]?
 | _ => none) else none
@[go_sem] theorem appD_nil (ys : List D) : appD H sz .nil ys = if headSize sz ys = true then (if ys.length ≤ 4294967296 then some (.ref H.length 0 ys.length, H ++ [.arr sz false 0 ys]) else none) else none := (rfl)
@[go_sem] theorem appD_ref (ys : List D) : appD H sz (.ref id ep n) ys = if headSize sz ys = true then appRef H sz id ep n ys H[id]? else none := (rfl)
@[go_sem] theorem headSize_nil : headSize sz [] = true := (rfl)
@[go_sem] theorem headSize_cons (d : D) (r : List D) : headSize sz (d :: r) = lenIs sz d.cells := by
 rw [Bool.eq_iff_iff, lenIs_iff]; simp [headSize]
def elsO (x : D) : Option Obj → Option (D × Heap)
 | some (.arr _ _ ep' es) => if ep = ep' ∧ n = es.length then appD H sz x ((es.drop lo).take (hi - lo)) else none
 | _ => none
def elsR (x : D) : Option Obj → Option (D × Heap)
 | some (.arr _ _ ep' es) => if ep = ep' ∧ n = es.length then appD H sz x es else none
 | _ => none
@[go_sem] theorem elsO_arr (x : D) (sz' : Nat) (pin : Bool) (es : List D) : elsO H sz ep n lo hi x (some (.arr sz' pin ep es)) = if n = es.length then appD H sz x ((es.drop lo).take (hi - lo)) else none := by simp [elsO]
@[go_sem] theorem elsR_arr (x : D) (sz' : Nat) (pin : Bool) (es : List D) : elsR H sz ep n x (some (.arr sz' pin ep es)) = if n = es.length then appD H sz x es else none := by simp [elsR]
theorem appD_is (x : D) (ys : List D) : (if headSize sz ys = true then (match x with
 | .nil => if ys.length ≤ lim then some (D.ref H.length 0 ys.length, H ++ [.arr sz false 0 ys]) else none
 | .ref id ep n => (arrAt H id ep n).bind fun a => if a.1 = sz ∧ n + ys.length ≤ lim then some (.ref id ep (n + ys.length), H.set id (.arr sz a.2.1 ep (a.2.2 ++ ys))) else none
 | _ => none) else none) = appD H sz x ys := by
 unfold appD
 split
 · cases x with
   | ref id ep n =>
     simp only [arrAt]
     generalize H[id]? = o
     rcases o with _ | (_ | ⟨sz', pin, ep', es⟩)
     · rfl
     · rfl
     · simp only [appRef]
       by_cases h1 : ep = ep' ∧ n = es.length
       · rw [if_pos h1, Option.bind_some]
         by_cases h2 : sz' = sz ∧ n + ys.length ≤ lim
         · rw [if_pos h2, if_pos ⟨h1.1, h1.2, h2⟩]
         · rw [if_neg h2, if_neg fun h => h2 h.2.2]
       · rw [if_neg h1, if_neg fun h => h1 ⟨h.1, h.2.1⟩]; rfl
   | _ => rfl
 · rfl
theorem opApp_live (x y : D) (ys : List D) (h : elems H y = some ys) : opApp H sz false (some x) (some y) = appD H sz x ys := by
 simp only [opApp, Option.bind_some, appendD, h, Bool.false_eq_true, if_false]
 exact appD_is H sz x ys
@[go_sem] theorem opApp_live_nil (x : D) : opApp H sz false (some x) (some .nil) = appD H sz x [] := opApp_live H sz x .nil [] rfl
@[go_sem] theorem opApp_live_ref (x : D) : opApp H sz false (some x) (some (.ref id ep n)) = elsR H sz ep n x H[id]? := by
 cases he : elems H (.ref id ep n) with
 | some ys =>
   rw [opApp_live H sz x _ ys he]
   simp only [elems, arrAt] at he
   generalize H[id]? = o at he
   rcases o with _ | (_ | ⟨sz', pin, ep', es⟩)
   · cases he
   · cases he
   · simp only [elsR]
     by_cases h1 : ep = ep' ∧ n = es.length
     · simp only [if_pos h1] at he ⊢; cases he; rfl
     · simp only [if_neg h1] at he; cases he
 | none =>
   have : opApp H sz false (some x) (some (.ref id ep n)) = none := by simp only [opApp, Option.bind_some, appendD, he]; rfl
   rw [this]
   simp only [elems, arrAt] at he
   generalize H[id]? = o at he
   rcases o with _ | (_ | ⟨sz', pin, ep', es⟩)
   · rfl
   · rfl
   · simp only [elsR]
     by_cases h1 : ep = ep' ∧ n = es.length
     · simp only [if_pos h1] at he; cases he
     · simp only [if_neg h1]
@[go_sem] theorem opApp_live_sub (x : D) : opApp H sz false (some x) (some (.sub id ep n lo hi)) = elsO H sz ep n lo hi x H[id]? := by
 cases he : elems H (.sub id ep n lo hi) with
 | some ys =>
   rw [opApp_live H sz x _ ys he]
   simp only [elems, arrAt] at he
   generalize H[id]? = o at he
   rcases o with _ | (_ | ⟨sz', pin, ep', es⟩)
   · cases he
   · cases he
   · simp only [elsO]
     by_cases h1 : ep = ep' ∧ n = es.length
     · simp only [if_pos h1] at he ⊢; cases he; rfl
     · simp only [if_neg h1] at he; cases he
 | none =>
   have : opApp H sz false (some x) (some (.sub id ep n lo hi)) = none := by simp only [opApp, Option.bind_some, appendD, he]; rfl
   rw [this]
   simp only [elems, arrAt] at he
   generalize H[id]? = o at he
   rcases o with _ | (_ | ⟨sz', pin, ep', es⟩)
   · rfl
   · rfl
   · simp only [elsO]
     by_cases h1 : ep = ep' ∧ n = es.length
     · simp only [if_pos h1] at he; cases he
     · simp only [if_neg h1]
def opBsr (ds : List D) : Option (D × Heap) := if ds.all (fun d => d.cells.length == sz && d.solid) then some (.ref H.length 0 ds.length, H ++ [.arr sz false 0 ds]) else none
@[go_sem] theorem ev_bsr (call : Oracle) (get : X → Option D) (xs : List X) : evO call get H (.bsr xs sz) = (mapO get xs).bind (opBsr H sz) := (rfl)
@[go_sem] theorem opBsr_nil : opBsr H sz [] = some (.ref H.length 0 0, H ++ [.arr sz false 0 []]) := (rfl)
@[go_sem] theorem opBsr_agg (cs : List D) : opBsr H sz [.agg cs] = if lenIs sz cs = true then some (.ref H.length 0 1, H ++ [.arr sz false 0 [.agg cs]]) else none := by
 simp only [opBsr, List.all_cons, List.all_nil, Bool.and_true, D.cells, D.solid]
 by_cases h : lenIs sz cs = true
 · rw [if_pos h, if_pos (by simpa using lenIs_iff.1 h)]; rfl
 · rw [if_neg h, if_neg (by intro e; exact h (lenIs_iff.2 (by simpa using e)))]
end
@[go_sem] theorem q_toNat_one' : (1 : Int).toNat = 1 := (rfl)
@[go_sem] theorem q_toNat_two : (2 : Int).toNat = 2 := (rfl)
section
variable {H t : Heap} {i j k : Nat} {o o' : Obj}
theorem hp_get (h : i < H.length) : (H ++ t)[i]? = H[i]? := List.getElem?_append_left h
theorem hp_get_len : (H ++ t)[H.length]? = t[0]? := by rw [List.getElem?_append_right (Nat.le_refl _), Nat.sub_self]
theorem hp_get_add : (H ++ t)[H.length + k]? = t[k]? := by rw [List.getElem?_append_right (Nat.le_add_right _ _), Nat.add_sub_cancel_left]
theorem hp_set (h : i < H.length) : (H ++ t).set i o = H.set i o ++ t := List.set_append_left _ _ h
theorem hp_set_len : (H ++ t).set H.length o = H ++ t.set 0 o := by rw [List.set_append_right _ _ (Nat.le_refl _), Nat.sub_self]
theorem hp_set_add : (H ++ t).set (H.length + k) o = H ++ t.set k o := by rw [List.set_append_right _ _ (Nat.le_add_right _ _), Nat.add_sub_cancel_left]
theorem hp_set_get (h : i < H.length) : (H.set i o)[i]? = some o := by simp [h]
theorem hp_set_ne (h : i ≠ j) : (H.set i o)[j]? = H[j]? := List.getElem?_set_ne h
theorem hp_set_set : (H.set i o).set i o' = H.set i o' := List.set_set ..
theorem hp_assoc (a b : Heap) : (H ++ a) ++ b = H ++ (a ++ b) := List.append_assoc ..
theorem hp_lt (h : H[i]? = some o) : i < H.length := (List.getElem?_eq_some_iff.1 h).1
end
theorem finish_live (H : Heap) (id sz n : Nat) (es : List D) (ts : List T) (hid : H[id]? = some (.arr sz false 0 es)) (hn : n = es.length) (hf : mapO (frz H 8) es = some ts) (ha : ∀ i ∈ es.flatMap (arrs H 8), i ≠ id) :
 finish 0 1 H [.ref id 0 n] = some (.ref 0 0 n, [.arr sz false 0 (ts.map .t)]) := by
 have hold : ([D.ref id 0 n].all (old 0 depth) && (H.take 0).all (fun o => o.ds.all (old 0 depth))) = false := by
  simp [old, depth]
 have hmap : ∀ {es : List D} {ts : List T}, mapO (frz H 8) es = some ts → mapO (fun d => (frz H 8 d).map D.t) es = some (ts.map .t) := by
  intro es
  induction es with
  | nil => intro ts h; simp [mapO] at h; subst h; rfl
  | cons e es ih =>
    intro ts h
    simp only [mapO, Option.bind_eq_some_iff, Option.map_eq_some_iff] at h
    obtain ⟨y, hy, r, hr, rfl⟩ := h
    simp only [mapO, hy, Option.map_some, Option.bind_some, ih hr, List.map_cons]
 have hnew : (addNew [] [id]).drop 0 = [id] := by simp [addNew]
 have hall : (es.flatMap (arrs H 8)).all (fun i => !([] ++ [id]).contains i) = true := by
  rw [List.all_eq_true]; intro i hi; simpa using ha i hi
 unfold finish
 rw [if_neg (by omega), Option.bind_some, hold, if_neg (by simp)]
 have hk : keepLv H (max 1 1) (List.range 0) ([D.ref id 0 n].flatMap (ids depth) ++ idsOf H (List.range 0)) = some ([id], [.arr sz false 0 (ts.map .t)]) := by
  have e1 : [D.ref id 0 n].flatMap (ids depth) ++ idsOf H (List.range 0) = [id] := by simp [ids, depth, idsOf]
  rw [e1]
  simp only [Nat.max_self, List.range_zero]
  unfold keepLv
  simp only [List.length_nil, hnew, pick, hid, Option.bind_some, Option.map_some, if_true, List.flatMap_cons, List.flatMap_nil, List.append_nil, Obj.ds, depth, hall, mapO, freezeArr, hmap hf]
  simp only [keepLv, Option.map_some, List.append_nil, Option.bind_some]
 rw [hk]
 simp only [Option.bind_some, List.range_zero, List.nil_append, List.take_zero, resArrs, Nat.succ_ne_zero, if_false, Nat.one_ne_zero, List.all_nil, if_true, mapO, ren, idxOf, Option.map_some, renObj, tupOf, depth]
 have := ren_map (fun i => if id = i then some 0 else Option.map (fun x => x + 1) none) ts
 simp only [depth] at this
 rw [this]; rfl
end Go.Ev
namespace Go.Ev.N
def law27_HeadsMore : Nat := 123
def law27_HeadsSplit : Nat := 124
def law27_HeadsAll : Nat := 125
def law27_HeadsTrue : Nat := 126
def law27_awake : Nat := 127
def heads_Count : Nat := 128
def ref27_Count : Nat := 129
def heads_Sure : Nat := 130
def ref27_Sure : Nat := 131
def heads_Maybe : Nat := 132
def ref27_Maybe : Nat := 133
def heads_Missing : Nat := 134
def ref27_Missing : Nat := 135
def heads_look : Nat := 136
def ref27_state : Nat := 137
def heads_persons : Nat := 138
def heads_Sure_1 : Nat := 139
def heads_Sure_1_1 : Nat := 140
def ref27_people : Nat := 141
def heads_Maybe_1 : Nat := 142
def heads_Maybe_1_1 : Nat := 143
def heads_Missing_1 : Nat := 144
def places_Possible : Nat := 145
def heads_look_1 : Nat := 146
def heads_look_2 : Nat := 147
def places_Possible_1 : Nat := 148
end Go.Ev.N
namespace Go.Ev.N
def law28_SmokeSources : Nat := 149
def law28_SmokeRuns : Nat := 150
def law28_SmokeMade : Nat := 151
def law28_SmokeGrows : Nat := 152
def law28_awake : Nat := 153
def smoke_Start : Nat := 154
def smoke_Travel : Nat := 155
def smoke_Change : Nat := 156
def law28_agree : Nat := 157
def smoke_Free : Nat := 158
def smoke_given : Nat := 159
def slices_Repeat_int_int : Nat := 160
def smoke_times_spread : Nat := 161
def smoke_Valid : Nat := 162
def ref28_Same : Nat := 163
def ref28_Filled : Nat := 164
def ref28_Free : Nat := 165
def smoke_Free_1 : Nat := 166
def plan_Valid : Nat := 167
def slices_ContainsFunc_api_Span_api_Span : Nat := 168
def smoke_given_1 : Nat := 169
def math_bits_Mul : Nat := 170
def smoke_times_reach : Nat := 171
def smoke_Valid_1 : Nat := 172
def plan_Check : Nat := 173
def slices_IndexFunc_api_Span_api_Span : Nat := 174
def math_bits_Mul32 : Nat := 175
def math_bits_Mul64 : Nat := 176
def plan_spanIn : Nat := 177
end Go.Ev.N
namespace Go.Ev.K
open Go.Ev
def slices_Repeat_int_int_l1b : C := (.seq (.ite [m v6, m v5, u (.ln l0), u (.bin .lss l2 l0)] [] 0 .skip (.exit 0)) (.blk 1 (.reg [m v6, m v5, m v6, u (.sc l1 (some l0) none 1), m v5, m v6, u (.sc l1 none (some l0) 1), u (.cp l3 l0 1), u (.bin .add l7 l0), w 6 (.mv l0)] [])))
def slices_Repeat_int_int_l1 : C := .loop true [0, 1, 2, 3, 4] K.slices_Repeat_int_int_l1b
def slices_Repeat_int_int : Fn := { nargs := 2, vars := [0, 1, 4, 5, 6, 7, 8], body := (.seq (.reg [w 2 (.mv (.c (.nil)))] []) (.seq (.ite [m v1, u (.bin .lss l0 (.i 0))] [] 0 .fail .skip) (.seq (.reg [m v0, u (.ln l0), u (.cv .u64 l0), m v1, u (.cv .u64 l0), u (.ca N.math_bits_Mul 0 [] [.l 2, .l 0]), m l0, u (.ex l0 0), u (.ex l1 1), w 3 (.mv l1), w 4 (.mv l1)] []) (.seq (.ite [m v3, u (.bin .gtr l0 (.c (.t (.int .u64 (0))))), m l0, y 0 false (.mv v4), y 1 false (.bin .gtr l0 (.c (.t (.int .u64 (9223372036854775807))))), u (.pk l2 (.b true) l0)] [] 0 .fail .skip) (.seq (.reg [m v4, u (.cv .i64 l0), u (.mk l0 (.t (.int .i64 (0))) 1), w 5 (.mv l0)] []) (.seq (.reg [m v5, m v0, u (.cp l1 l0 1), w 6 (.mv l0)] []) (.seq (.blk 0 K.slices_Repeat_int_int_l1) (.seq (.reg [m v5, w 2 (.mv l0)] []) .ret)))))))), res := [(2, none)] }
def plan_Valid : Fn := { nargs := 1, vars := [0, 1, 2], body := (.seq (.reg [w 1 (.bx v0 2), w 2 (.mv (.b false))] []) (.seq (.reg [h 2 v1, u (.ca N.plan_Check 0 [] [.l 0]), u (.bin .eql l0 (.i 0)), w 2 (.mv l0)] []) .ret)), res := [(2, none)] }
def math_bits_Mul : Fn := { nargs := 2, vars := [0, 1, 4, 5, 8, 9], body := (.seq (.reg [w 2 (.mv (.c (.t (.int .u64 (0))))), w 3 (.mv (.c (.t (.int .u64 (0)))))] []) (.seq (.cnd false .skip) (.seq (.reg [m v0, m v1, u (.ca N.math_bits_Mul64 0 [] [.l 1, .l 0]), m l0, u (.ex l0 0), u (.ex l1 1), w 4 (.mv l1), w 5 (.mv l1)] []) (.seq (.reg [m v4, m v5, w 2 (.mv l1), w 3 (.mv l1)] []) .ret)))), res := [(2, none), (3, none)] }
end Go.Ev.K
namespace Go.Ev
class Has6 [Lib] : Prop where
 t_slices_Repeat_int_int : Lib.fs N.slices_Repeat_int_int = some K.slices_Repeat_int_int
 t_plan_Valid : Lib.fs N.plan_Valid = some K.plan_Valid
 t_math_bits_Mul : Lib.fs N.math_bits_Mul = some K.math_bits_Mul
namespace K
variable [Lib] [Has6]
theorem t_slices_Repeat_int_int : Lib.fs N.slices_Repeat_int_int = some K.slices_Repeat_int_int := Has6.t_slices_Repeat_int_int
theorem t_plan_Valid : Lib.fs N.plan_Valid = some K.plan_Valid := Has6.t_plan_Valid
theorem t_math_bits_Mul : Lib.fs N.math_bits_Mul = some K.math_bits_Mul := Has6.t_math_bits_Mul
end K
end Go.Ev
namespace Go.Ev.K
open Go.Ev
def plan_Check_l1b : C := (.its  [u (.bin .lss v8 v7)] [] 0 .skip (.exit 0) (.seq (.blk 1 (.seq (.reg [a 2 v6 v8, h 2 l0, w 3 (.al [.t (.int .i64 (0)), .t (.bool false)] []), u (.st l0 l1 2 [])] []) (.ite [f 0 v3, g l0, u (.bin .lss l0 (.i (-10000))), m l0, y 0 false (.fa v3 0), y 1 false (.ld l0 1 false), y 2 false (.bin .gtr l0 (.i 10000)), u (.pk l3 (.b true) l0)] [] 0 (.seq (.reg [w 2 (.mv (.i 1))] []) .ret) .skip))) (.reg [u (.bin .add v8 (.i 1)), w 8 (.mv l0)] [])))
def plan_Check_l1 : C := .loop true [0, 2, 3, 4, 5, 9, 10, 11] K.plan_Check_l1b
def plan_Check_l2b : C := (.its  [u (.bin .lss v11 v10)] [] 0 .skip (.exit 2) (.seq (.blk 3 (.seq (.reg [a 10 v9 v11, h 10 l0, w 5 (.al [.t (.int .i64 (0)), .t (.int .i64 (0)), .t (.int .i64 (0)), .t (.int .i64 (0)), .t (.bool false), .t (.bool false), .t (.int .i64 (0)), .t (.int .i64 (0)), .t (.int .i64 (0)), .t (.int .i64 (0))] []), u (.st l0 l1 10 [])] []) (.seq (.ite [f 0 v5, g l0, u (.bin .lss l0 (.i 0)), m l0, y 0 false (.fa v5 0), y 1 false (.ld l0 1 false), y 2 false (.mv v4), y 3 false (.bin .geq l1 l0), u (.pk l4 (.b true) l0), m l0, y 0 false (.fa v5 1), y 1 false (.ld l0 1 false), y 2 false (.bin .lss l0 (.i 0)), u (.pk l3 (.b true) l0), m l0, y 0 false (.fa v5 1), y 1 false (.ld l0 1 false), y 2 false (.mv v4), y 3 false (.bin .geq l1 l0), u (.pk l4 (.b true) l0), m l0, y 0 false (.fa v5 0), y 1 false (.ld l0 1 false), y 2 false (.fa v5 1), y 3 false (.ld l0 1 false), y 4 false (.bin .eql l2 l0), u (.pk l5 (.b true) l0)] [] 0 (.seq (.reg [w 2 (.mv (.i 4))] []) .ret) .skip) (.seq (.ite [f 2 v5, g l0, u (.bin .lss l0 (.i 1)), m l0, y 0 false (.fa v5 2), y 1 false (.ld l0 1 false), y 2 false (.bin .gtr l0 (.i 100000)), u (.pk l3 (.b true) l0), m l0, y 0 false (.fa v5 3), y 1 false (.ld l0 1 false), y 2 false (.bin .lss l0 (.i 1)), u (.pk l3 (.b true) l0), m l0, y 0 false (.fa v5 3), y 1 false (.ld l0 1 false), y 2 false (.bin .gtr l0 (.i 1000)), u (.pk l3 (.b true) l0)] [] 0 (.seq (.reg [w 2 (.mv (.i 1))] []) .ret) .skip) (.ite [f 6 v5, h 2 l0, u (.ca N.plan_spanIn 0 [] [.l 0, .i 1, .i 262144]), u (.un .not l0), m l0, y 0 false (.fa v5 8), y 1 false (.ld l0 2 true), y 2 false (.ca N.plan_spanIn 0 [] [.l 0, .i (-2199023255552), .i 2199023255552]), y 3 false (.un .not l0), u (.pk l4 (.b true) l0)] [] 0 (.seq (.reg [w 2 (.mv (.i 1))] []) .ret) .skip))))) (.reg [u (.bin .add v11 (.i 1)), w 11 (.mv l0)] [])))
def plan_Check_l2 : C := .loop true [0, 1, 2, 3, 5, 6, 7, 8] K.plan_Check_l2b
def plan_Check : Fn := { nargs := 1, vars := [0, 1, 2, 4, 5, 7, 19, 20, 21, 38, 39, 40], body := (.seq (.reg [w 1 (.bx v0 2), w 2 (.mv (.i 0))] []) (.seq (.ite [f 0 v1, g l0, u (.ln l0), u (.bin .gtr l0 (.i 64)), m l0, y 0 false (.fa v1 1), y 1 false (.ld l0 1 false), y 2 false (.ln l0), y 3 false (.bin .gtr l0 (.i 128)), u (.pk l4 (.b true) l0)] [] 0 (.seq (.reg [w 2 (.mv (.i 2))] []) .ret) .skip) (.seq (.seq (.reg [f 0 v1, w 6 (.ld l0 1 false), w 7 (.ln l0), w 8 (.mv (.i 0))] []) (.blk 0 K.plan_Check_l1)) (.seq (.reg [f 0 v1, g l0, u (.ln l0), w 4 (.mv l0)] []) (.seq (.seq (.reg [f 1 v1, w 9 (.ld l0 1 false), w 10 (.ln l0), w 11 (.mv (.i 0))] []) (.blk 2 K.plan_Check_l2)) (.seq (.reg [w 2 (.mv (.i 0))] []) .ret)))))), res := [(2, none)] }
def math_bits_Mul64 : Fn := { nargs := 2, vars := [0, 1, 4, 5, 6, 7, 8, 9, 10, 11, 12, 13], body := (.seq (.reg [w 2 (.mv (.c (.t (.int .u64 (0))))), w 3 (.mv (.c (.t (.int .u64 (0)))))] []) (.seq (.reg [m v0, u (.bin .and l0 (.c (.t (.int .u64 (4294967295))))), w 4 (.mv l0)] []) (.seq (.reg [m v0, u (.bin .shr l0 (.c (.t (.int .u64 (32))))), w 5 (.mv l0)] []) (.seq (.reg [m v1, u (.bin .and l0 (.c (.t (.int .u64 (4294967295))))), w 6 (.mv l0)] []) (.seq (.reg [m v1, u (.bin .shr l0 (.c (.t (.int .u64 (32))))), w 7 (.mv l0)] []) (.seq (.reg [m v4, m v6, u (.bin .mul l1 l0), w 8 (.mv l0)] []) (.seq (.reg [m v5, m v6, u (.bin .mul l1 l0), m v8, u (.bin .shr l0 (.c (.t (.int .u64 (32))))), u (.bin .add l2 l0), w 9 (.mv l0)] []) (.seq (.reg [m v9, u (.bin .and l0 (.c (.t (.int .u64 (4294967295))))), w 10 (.mv l0)] []) (.seq (.reg [m v9, u (.bin .shr l0 (.c (.t (.int .u64 (32))))), w 11 (.mv l0)] []) (.seq (.reg [m v10, m v4, m v7, u (.bin .mul l1 l0), u (.bin .add l3 l0), w 10 (.mv l0)] []) (.seq (.reg [m v5, m v7, u (.bin .mul l1 l0), m v11, u (.bin .add l1 l0), m v10, u (.bin .shr l0 (.c (.t (.int .u64 (32))))), u (.bin .add l2 l0), w 2 (.mv l0)] []) (.seq (.reg [m v0, m v1, u (.bin .mul l1 l0), w 3 (.mv l0)] []) .ret)))))))))))), res := [(2, none), (3, none)] }
def plan_spanIn : Fn := { nargs := 3, vars := [0, 1, 2, 3, 6], body := (.seq (.reg [w 3 (.bx v0 2), w 4 (.mv (.b false))] []) (.seq (.reg [m v1, f 0 v3, g l0, u (.bin .leq l2 l0), m l0, y 0 true (.fa v3 0), y 1 true (.ld l0 1 false), y 2 true (.fa v3 1), y 3 true (.ld l0 1 false), y 4 true (.bin .leq l2 l0), u (.pk l5 l0 (.b false)), m l0, y 0 true (.fa v3 1), y 1 true (.ld l0 1 false), y 2 true (.mv v2), y 3 true (.bin .leq l1 l0), u (.pk l4 l0 (.b false)), w 4 (.mv l0)] []) .ret)), res := [(4, none)] }
end Go.Ev.K
namespace Go.Ev
class Has7 [Lib] : Prop where
 t_plan_Check : Lib.fs N.plan_Check = some K.plan_Check
 t_math_bits_Mul64 : Lib.fs N.math_bits_Mul64 = some K.math_bits_Mul64
 t_plan_spanIn : Lib.fs N.plan_spanIn = some K.plan_spanIn
namespace K
variable [Lib] [Has7]
theorem t_plan_Check : Lib.fs N.plan_Check = some K.plan_Check := Has7.t_plan_Check
theorem t_math_bits_Mul64 : Lib.fs N.math_bits_Mul64 = some K.math_bits_Mul64 := Has7.t_math_bits_Mul64
theorem t_plan_spanIn : Lib.fs N.plan_spanIn = some K.plan_spanIn := Has7.t_plan_spanIn
end K
end Go.Ev
namespace Go.Ev
open Go
variable [Lib] [Has1] [Has2] [Has6] [Has7]
section
variable (H : Heap) (sz : Nat)
def putO (id ep n lo hi : Nat) (ys : List D) : Option Obj → Option (D × Heap)
 | some (.arr sz' pin ep' es) => if ep = ep' ∧ n = es.length then putD H id ep (sz', pin, es) lo hi ys sz else none
 | _ => none
def cpD (x : D) (ys : List D) : Option (D × Heap) := if headSize sz ys = true then (match x with
 | .ref id ep n => putO H sz id ep n 0 n ys H[id]?
 | .sub id ep n lo hi => putO H sz id ep n lo hi ys H[id]?
 | _ => none) else none
def opCp (x y : Option D) : Option (D × Heap) := x.bind fun a => y.bind fun b => copyD H a b sz
@[go_sem] theorem ev_cp (call : Oracle) (get : X → Option D) (x y : X) : evO call get H (.cp x y sz) = opCp H sz (get x) (get y) := (rfl)
theorem copyD_is (x y : D) (ys : List D) (h : elems H y = some ys) : copyD H x y sz = cpD H sz x ys := by
 unfold copyD cpD
 rw [h, Option.bind_some]
 split
 · rename_i hh
   cases x with
   | ref id ep n =>
     simp only [arrAt, putO]
     cases H[id]? with
     | none => rfl
     | some o =>
       cases o with
       | box cs => rfl
       | arr sz' pin ep' es =>
         simp only
         by_cases c : ep = ep' ∧ n = es.length
         · rw [if_pos c, if_pos c]; rfl
         · rw [if_neg c, if_neg c]; rfl
   | sub id ep n lo hi =>
     simp only [arrAt, putO]
     cases H[id]? with
     | none => rfl
     | some o =>
       cases o with
       | box cs => rfl
       | arr sz' pin ep' es =>
         simp only
         by_cases c : ep = ep' ∧ n = es.length
         · rw [if_pos c, if_pos c]; rfl
         · rw [if_neg c, if_neg c]; rfl
   | _ => rfl
 · rfl
@[go_sem] theorem opCp_t (x : D) (ts : List T) : opCp H sz (some x) (some (.t (.sl ts))) = cpD H sz x (ts.map .t) := copyD_is H sz x (.t (.sl ts)) (ts.map .t) rfl
def cpE (x : D) (ep n lo hi : Nat) : Option Obj → Option (D × Heap)
 | some (.arr _ _ ep' es) => if ep = ep' ∧ n = es.length then cpD H sz x ((es.drop lo).take (hi - lo)) else none
 | _ => none
@[go_sem] theorem cpE_arr (x : D) (n lo hi sz' : Nat) (pin : Bool) (ep : Nat) (es : List D) : cpE H sz x ep n lo hi (some (.arr sz' pin ep es)) = if n = es.length then cpD H sz x ((es.drop lo).take (hi - lo)) else none := by simp [cpE]
@[go_sem] theorem opCp_sub (x : D) (id ep n lo hi : Nat) : opCp H sz (some x) (some (.sub id ep n lo hi)) = cpE H sz x ep n lo hi H[id]? := by
 unfold opCp
 simp only [Option.bind_some]
 cases h : H[id]? with
 | none => simp [copyD, elems, arrAt, h, cpE]
 | some o =>
   cases o with
   | box cs => simp [copyD, elems, arrAt, h, cpE]
   | arr sz' pin ep' es =>
     by_cases c : ep = ep' ∧ n = es.length
     · rw [copyD_is H sz x _ ((es.drop lo).take (hi - lo)) (by simp [elems, arrAt, h, c])]
       simp only [cpE, if_pos c]
     · simp [copyD, elems, arrAt, h, cpE, c]
@[go_sem] theorem cpD_ref (id ep n : Nat) (ys : List D) : cpD H sz (.ref id ep n) ys = if headSize sz ys = true then putO H sz id ep n 0 n ys H[id]? else none := (rfl)
@[go_sem] theorem cpD_sub (id ep n lo hi : Nat) (ys : List D) : cpD H sz (.sub id ep n lo hi) ys = if headSize sz ys = true then putO H sz id ep n lo hi ys H[id]? else none := (rfl)
@[go_sem] theorem putO_arr (id n lo hi : Nat) (ys : List D) (ep : Nat) (es : List D) : putO H sz id ep n lo hi ys (some (.arr sz false ep es)) =
 if n = es.length then (if min ys.length (hi - lo) = 0 then some (.t (.int .i64 0), H) else some (.t (.int .i64 ((min ys.length (hi - lo) : Nat) : Int)), H.set id (.arr sz false ep (es.take lo ++ ys.take (min ys.length (hi - lo)) ++ es.drop (lo + min ys.length (hi - lo)))))) else none := by
 simp [putO, putD]
end
theorem wrapU {n : Int} (h1 : 0 ≤ n) (h2 : n < 18446744073709551616) : IntKind.u64.wrap n = n := by
 have e : IntKind.u64.wrap n = n % 18446744073709551616 := by simp [IntKind.wrap, IntKind.signed, IntKind.bits]
 rw [e]; omega
theorem and32 {n : Nat} (h : n < 4294967296) : IntKind.u64.wrap ((BitVec.ofInt IntKind.u64.bits (n : Int) &&& BitVec.ofInt IntKind.u64.bits 4294967295).toNat : Nat) = (n : Int) := by
 have e : (BitVec.ofInt IntKind.u64.bits (n : Int) &&& BitVec.ofInt IntKind.u64.bits 4294967295).toNat = n := by
  rw [BitVec.toNat_and]
  have a : (BitVec.ofInt IntKind.u64.bits (n : Int)).toNat = n := by
   rw [BitVec.ofInt_natCast, BitVec.toNat_ofNat]
   exact Nat.mod_eq_of_lt (Nat.lt_of_lt_of_le h (by decide))
  have b : (BitVec.ofInt IntKind.u64.bits 4294967295).toNat = 2 ^ 32 - 1 := by decide
  rw [a, b, Nat.and_two_pow_sub_one_eq_mod]
  exact Nat.mod_eq_of_lt h
 rw [e]
 exact wrapU (by omega) (by omega)
theorem shr32 {n : Nat} (h : n < 4294967296) : (n : Int).fdiv (2 ^ min (32 : Int).toNat IntKind.u64.bits) = 0 := by
 have e : (2 ^ min (32 : Int).toNat IntKind.u64.bits : Int) = 4294967296 := by decide
 rw [e, Int.fdiv_eq_ediv_of_nonneg _ (by omega)]
 omega
theorem and32n {n : Nat} (h : n < 4294967296) : (((BitVec.ofInt IntKind.u64.bits (n : Int) &&& BitVec.ofInt IntKind.u64.bits 4294967295).toNat : Nat) : Int) = (n : Int) := by
 have e := and32 h
 rwa [wrapU (by omega) (by
  have : (BitVec.ofInt IntKind.u64.bits (n : Int) &&& BitVec.ofInt IntKind.u64.bits 4294967295).toNat < 2 ^ IntKind.u64.bits := BitVec.isLt _
  have : 2 ^ IntKind.u64.bits = 18446744073709551616 := by decide
  omega)] at e
theorem mul64_ok (a b : Nat) (ha : a < 4294967296) (hb : b < 4294967296) (h : a * b < 4294967296) : CALL 0 N.math_bits_Mul64 [.t (.int .u64 a), .t (.int .u64 b)] [] = some (.tup [.t (.int .u64 0), .t (.int .u64 ((a * b : Nat) : Int))], []) := by
 refine CALL_of K.t_math_bits_Mul64 rfl ?_
 have m : (a : Int) * (b : Int) = ((a * b : Nat) : Int) := (Int.natCast_mul a b).symm
 have z := and32 (n := 0) (by omega)
 have z2 := shr32 (n := 0) (by omega)
 have z3 := and32n (n := 0) (by omega)
 have g3 := fun (n : Nat) (h : n < 4294967296) => and32n (n := n) h
 have g4 := fun (n : Nat) (h : n < 4294967296) => shr32 (n := n) h
 simp only [Int.ofNat_zero, Int.natCast_zero] at z z2 z3
 simp only [go_sem] at z2 z3 g3 g4
 simp (disch := omega) only [go_sem, K.math_bits_Mul64, ↓reduceIte, g3, g4, m, z2, z3, wrapU, Int.zero_mul, Int.mul_zero, Int.add_zero, Int.zero_add, Nat.reduceAdd, Nat.reduceSub]
theorem mul_ok (a b : Nat) (ha : a < 4294967296) (hb : b < 4294967296) (h : a * b < 4294967296) : CALL 0 N.math_bits_Mul [.t (.int .u64 a), .t (.int .u64 b)] [] = some (.tup [.t (.int .u64 0), .t (.int .u64 ((a * b : Nat) : Int))], []) := by
 refine CALL_of K.t_math_bits_Mul rfl ?_
 have m := mul64_ok a b ha hb h
 simp (disch := omega) only [go_sem, K.math_bits_Mul, ↓reduceIte, m, Nat.reduceAdd, Nat.reduceSub]
def repD (v : Int) (n cur : Nat) : List D := List.replicate cur (I v) ++ List.replicate (n - cur) (I 0)
theorem repD_len (v : Int) {n cur : Nat} (h : cur ≤ n) : (repD v n cur).length = n := by simp [repD]; omega
theorem repD_step (v : Int) {n cur m : Nat} (h : cur + m ≤ n) (hm : m ≤ cur) : (repD v n cur).take cur ++ ((repD v n cur).take cur).take m ++ (repD v n cur).drop (cur + m) = repD v n (cur + m) := by
 unfold repD
 have e1 : (List.replicate cur (I v) ++ List.replicate (n - cur) (I 0)).take cur = List.replicate cur (I v) := by
  rw [List.take_append_of_le_length (by simp), List.take_of_length_le (by simp)]
 have e2 : (List.replicate cur (I v) ++ List.replicate (n - cur) (I 0)).drop (cur + m) = List.replicate (n - (cur + m)) (I 0) := by
  rw [List.drop_append, List.length_replicate]
  simp; omega
 rw [e1, e2, List.take_replicate, Nat.min_eq_left hm, List.replicate_append_replicate]
theorem repD_t (v : Int) (n cur : Nat) : ∃ ts : List T, repD v n cur = ts.map .t := ⟨List.replicate cur (tI v) ++ List.replicate (n - cur) (tI 0), by simp [repD]⟩
theorem headSize_rep (v : Int) (n cur : Nat) (lo k : Nat) : headSize 1 (((repD v n cur).drop lo).take k) = true := by
 cases h : ((repD v n cur).drop lo).take k with
 | nil => rfl
 | cons d r =>
   have hm : d ∈ repD v n cur := List.mem_of_mem_drop (List.mem_of_mem_take (h ▸ List.mem_cons_self))
   unfold repD at hm
   simp only [List.mem_append, List.mem_replicate] at hm
   rcases hm with ⟨-, rfl⟩ | ⟨-, rfl⟩ <;> rfl
theorem repeat_loop (v : Int) (n : Nat) (hn : n ≤ 1000000) : ∀ (k cur : Nat), n - cur ≤ k → 1 ≤ cur → cur ≤ n →
 loopC true [0, 1, 2, 3, 4] (exS CALL K.slices_Repeat_int_int_l1b) ⟨[.und, .und, .und, .und, .und, .ref 0 0 n, I cur], [.arr 1 false 0 (repD v n cur)]⟩ =
  some (.exit 0, ⟨[.und, .und, .und, .und, .und, .ref 0 0 n, I n], [.arr 1 false 0 (repD v n n)]⟩) := by
 intro k
 induction k with
 | zero =>
   intro cur h1 h2 h3
   have : cur = n := by omega
   subst this
   refine loopC_exit ?_ (by simp)
   have rl := repD_len v (Nat.le_refl cur)
   simp (disch := omega) only [go_sem, K.slices_Repeat_int_int_l1b, ↓reduceIte, Nat.reduceAdd, Nat.reduceSub]
 | succ k ih =>
   intro cur h1 h2 h3
   by_cases c : cur = n
   · subst c
     refine loopC_exit ?_ (by simp)
     simp (disch := omega) only [go_sem, K.slices_Repeat_int_int_l1b, ↓reduceIte, Nat.reduceAdd, Nat.reduceSub]
   · have rl := repD_len v (n := n) (cur := cur) (by omega)
     have st := repD_step v (n := n) (cur := cur) (m := min cur (n - cur)) (by omega) (by omega)
     have hs := headSize_rep v n cur 0 cur
     rw [List.drop_zero] at hs
     have tl : ((repD v n cur).take cur).length = cur := by rw [List.length_take]; omega
     refine loopC_step (st2 := ⟨[.und, .und, .und, .und, .und, .ref 0 0 n, I ((cur + min cur (n - cur) : Nat) : Int)], [.arr 1 false 0 (repD v n (cur + min cur (n - cur)))]⟩) ?_ (ih _ (by omega) (by omega) (by omega))
     rw [← st]
     obtain ⟨ts, hts⟩ := repD_t v n cur
     have ao : ∀ a b c : Nat, allOld 1 8 ((repD v n cur).take a) = true ∧ allOld 1 8 (((repD v n cur).take a).take b) = true ∧ allOld 1 8 ((repD v n cur).drop c) = true := fun a b c => by
      rw [hts, ← List.map_take, ← List.map_take, ← List.map_drop]
      simp only [go_sem, and_self]
     have ao1 := fun a => (ao a 0 0).1
     have ao2 := fun a b => (ao a b 0).2.1
     have ao3 := fun c => (ao 0 0 c).2.2
     clear ao hts
     generalize repD v n cur = es at *
     simp (disch := omega) only [go_sem, K.slices_Repeat_int_int_l1b, ↓reduceIte, rl, hs, tl, ao1, ao2, ao3, and_self, List.drop_zero, Nat.sub_zero, Nat.reduceAdd, Nat.reduceSub]
theorem repeat_ok (v : Int) (n : Nat) (h1 : 1 ≤ n) (hn : n ≤ 1000000) : CALL 1 N.slices_Repeat_int_int [.t (tL [v]), I n] [] = some (.ref 0 0 n, [.arr 1 false 0 (List.replicate n (I v))]) := by
 refine CALL_of K.t_slices_Repeat_int_int rfl ?_
 have m := mul_ok 1 n (by omega) (by omega) (by omega)
 rw [Nat.one_mul] at m
 change CALL 0 N.math_bits_Mul [.t (.int .u64 1), .t (.int .u64 n)] [] = _ at m
 have w1 : IntKind.u64.wrap 1 = 1 := by decide
 have w2 : IntKind.u64.wrap (n : Int) = n := wrapU (by omega) (by omega)
 have w3 : IntKind.i64.wrap (n : Int) = n := wrap_id (by omega) (by omega)
 have lp := repeat_loop v n hn n 1 (by omega) (by omega) h1
 have loop : ∀ z0 z1 z2 z3 z4 : D, exS CALL K.slices_Repeat_int_int_l1 ⟨[z0, z1, z2, z3, z4, .ref 0 0 n, I 1], [.arr 1 false 0 (I v :: List.replicate (n - 1) (I 0))]⟩ = some (.exit 0, ⟨[.und, .und, .und, .und, .und, .ref 0 0 n, I n], [.arr 1 false 0 (List.replicate n (I v))]⟩) := by
  intro z0 z1 z2 z3 z4
  have e1 : repD v n 1 = I v :: List.replicate (n - 1) (I 0) := rfl
  have e2 : repD v n n = List.replicate n (I v) := by simp [repD]
  rw [e1, e2] at lp
  exact lp
 have dr : (List.replicate n (D.t (.int .i64 0))).drop 1 = List.replicate (n - 1) (I 0) := List.drop_replicate ..
 have mn : min 1 n = 1 := by omega
 have ar : ∀ H : Heap, arrsL H 8 (List.replicate n (I v)) = [] := fun H => by
  have e : List.replicate n (I v) = (List.replicate n (tI v)).map D.t := by simp
  rw [e]
  unfold arrsL
  exact arrs_t ..
 simp (disch := omega) only [go_sem, K.slices_Repeat_int_int, ↓reduceIte, tL, List.map_cons, List.map_nil, m, w1, w2, w3, loop, dr, mn, ar, List.length_replicate, Nat.sub_zero, List.take_zero, List.nil_append, List.take_succ_cons, Nat.zero_add, Nat.reduceAdd, Nat.reduceSub]
end Go.Ev
namespace Go.Ev
open Go
variable [Lib] [Has1] [Has2] [Has6] [Has7]
theorem spanIn_ok (a b lo hi : Int) (h1 : lo ≤ a) (h2 : a ≤ b) (h3 : b ≤ hi) : CALL 0 N.plan_spanIn [.t (.agg [tI a, tI b]), I lo, I hi] [] = some (B true, []) := by
 refine CALL_of K.t_plan_spanIn rfl ?_
 simp (disch := omega) only [go_sem, K.plan_spanIn, ↓reduceIte, Nat.reduceAdd, Nat.reduceSub]
theorem planCheck_ok {m : Mine} (h : m.ok) : CALL 0 N.plan_Check [.t m.e] [] = some (I 0, []) := by
 refine CALL_of K.t_plan_Check rfl ?_
 have np := h.np
 have nr := h.nr
 have hs := h.hs
 have rs := h.rs
 obtain ⟨places, roads⟩ := m
 simp only at np nr hs rs
 have l1 : ∀ z0 z2 z3 z4 z5 z9 z10 z11 : D, exS CALL K.plan_Check_l1 ⟨[z0, .bp 0 0, z2, z3, z4, z5, .t (.sl (places.map Place.e)), I places.length, I 0, z9, z10, z11], [.box (mineCells ⟨places, roads⟩)]⟩ =
  some (.exit 0, ⟨[.und, .bp 0 0, .und, .und, .und, .und, .t (.sl (places.map Place.e)), I places.length, I places.length, .und, .und, .und], [.box (mineCells ⟨places, roads⟩)]⟩) := by
  intro z0 z2 z3 z4 z5 z9 z10 z11
  refine loop_up (fun j => ⟨[.und, .bp 0 0, .und, .und, .und, .und, .t (.sl (places.map Place.e)), I places.length, I j, .und, .und, .und], [.box (mineCells ⟨places, roads⟩)]⟩) places.length rfl ?_ ?_ (by simp)
  · intro j hj
    have g : (places.map Place.e)[j]? = some (nth places j).e := map_nth _ hj
    have q := hs _ (nth_mem hj)
    generalize nth places j = x at *
    obtain ⟨hh, sf⟩ := x
    simp only [mineCells] at *
    simp (disch := omega) only [go_sem, K.plan_Check_l1b, ↓reduceIte, g, Nat.reduceAdd, Nat.reduceSub]
  · simp (disch := omega) only [go_sem, K.plan_Check_l1b, ↓reduceIte, mineCells, Nat.reduceAdd, Nat.reduceSub]
 have l2 : ∀ z0 z1 z2 z3 z5 z6 z7 z8 : D, exS CALL K.plan_Check_l2 ⟨[z0, z1, z2, z3, I places.length, z5, z6, z7, z8, .t (.sl (roads.map Road.e)), I roads.length, I 0], [.box (mineCells ⟨places, roads⟩)]⟩ =
  some (.exit 2, ⟨[.und, .und, .und, .und, I places.length, .und, .und, .und, .und, .t (.sl (roads.map Road.e)), I roads.length, I roads.length], [.box (mineCells ⟨places, roads⟩)]⟩) := by
  intro z0 z1 z2 z3 z5 z6 z7 z8
  refine loop_up (fun j => ⟨[.und, .und, .und, .und, I places.length, .und, .und, .und, .und, .t (.sl (roads.map Road.e)), I roads.length, I j], [.box (mineCells ⟨places, roads⟩)]⟩) roads.length rfl ?_ ?_ (by simp)
  · intro j hj
    have g : (roads.map Road.e)[j]? = some (nth roads j).e := map_nth _ hj
    have q := rs _ (nth_mem hj)
    generalize nth roads j = x at *
    have f0 := q.f0; have f1 := q.f1; have t0 := q.t0; have t1 := q.t1; have ne := q.ne; have l0 := q.l0; have l1 := q.l1; have a0 := q.a0; have a1 := q.a1
    have r0 := q.r0; have r1 := q.r1; have r2 := q.r2; have i0 := q.i0; have i1 := q.i1; have i2 := q.i2
    clear q
    obtain ⟨frm, to, len, area, walk, closed, rl, rh, ll, lh⟩ := x
    simp only [mineCells] at *
    have s1 := spanIn_ok rl rh 1 262144 r0 r1 r2
    have s2 := spanIn_ok ll lh (-2199023255552) 2199023255552 i0 i1 i2
    simp (disch := omega) only [go_sem, K.plan_Check_l2b, ↓reduceIte, g, s1, s2, Nat.reduceAdd, Nat.reduceSub]
  · simp (disch := omega) only [go_sem, K.plan_Check_l2b, ↓reduceIte, mineCells, Nat.reduceAdd, Nat.reduceSub]
 simp only [mineCells] at l1 l2
 simp (disch := omega) only [go_sem, K.plan_Check, ↓reduceIte, l1, l2, Nat.reduceAdd, Nat.reduceSub]
theorem planValid_ok {m : Mine} (h : m.ok) : CALL 0 N.plan_Valid [.t m.e] [] = some (B true, []) := by
 refine CALL_of K.t_plan_Valid rfl ?_
 have c := planCheck_ok h
 obtain ⟨places, roads⟩ := m
 simp (disch := omega) only [go_sem, K.plan_Valid, ↓reduceIte, c, Nat.reduceAdd, Nat.reduceSub]
end Go.Ev
namespace Go.Ev.N
def law25_PlacesLeast : Nat := 178
def law25_PlacesJoins : Nat := 179
def law25_PlacesTrue : Nat := 180
def law25_PlacesShift : Nat := 181
def law25_PlacesLess : Nat := 182
def law25_PlacesRaw : Nat := 183
def law25_PlacesMade : Nat := 184
def law25_awake : Nat := 185
def places_Start : Nat := 186
def ref03_Least : Nat := 187
def made_Dice_Where : Nat := 188
def places_Join : Nat := 189
def places_Valid : Nat := 190
def law25_walker : Nat := 191
def places_See : Nat := 192
def places_Absent : Nat := 193
def places_Renew : Nat := 194
def law25_agree : Nat := 195
def ref25_Same : Nat := 196
def law25_row : Nat := 197
def places_nowhere : Nat := 198
def places_lowered : Nat := 199
def places_all : Nat := 200
def places_shaped : Nat := 201
def slices_Equal_int_int : Nat := 202
def places_given : Nat := 203
def slices_Clone_int_int : Nat := 204
def places_Absent_1 : Nat := 205
def ref25_Renew : Nat := 206
def places_Raise : Nat := 207
def places_arrivals : Nat := 208
def places_lowered_1 : Nat := 209
def places_shaped_1 : Nat := 210
def walk_Time : Nat := 211
def walk_step : Nat := 212
def walk_with : Nat := 213
def walk_quick : Nat := 214
end Go.Ev.N
namespace Go.Ev.K
open Go.Ev
def places_Start : Fn := { nargs := 3, vars := [0, 1, 2, 3, 6, 7, 8], body := (.seq (.reg [w 3 (.bx v0 2), w 4 (.al [.t (.int .i64 (0)), .nil] []), w 5 (.mv (.i 0))] []) (.seq (.blk 0 (.ite [h 2 v3, u (.ca N.plan_Valid 0 [] [.l 0]), u (.un .not l0), m l0] [] 0 (.seq (.reg [u (.bd [.t (.int .i64 (0)), .nil] []), u (.st v4 l0 2 []), w 5 (.mv (.i 6))] []) .ret) (.ite [m v1, f 0 v3, g l0, u (.ln l0), u (.bin .sub l0 (.i 1)), u (.ca N.lists_In 0 [] [.l 4, .i 0, .l 0]), u (.un .not l0), m l0] [] 0 (.seq (.reg [u (.bd [.t (.int .i64 (0)), .nil] []), u (.st v4 l0 2 []), w 5 (.mv (.i 3))] []) .ret) (.ite [m v2, u (.ca N.lists_In 0 [] [.l 0, .i 0, .i 2147483648]), u (.un .not l0), m l0] [] 0 (.seq (.reg [u (.bd [.t (.int .i64 (0)), .nil] []), u (.st v4 l0 2 []), w 5 (.mv (.i 8))] []) .ret) .skip)))) (.seq (.reg [h 2 v3, u (.ca N.places_nowhere 1 [] [.l 0]), w 6 (.mv l0)] []) (.seq (.reg [m v6, m v1, m v2, a 1 l2 l1, u (.st l0 l1 1 [])] []) (.seq (.reg [m v2, h 2 v3, m v6, m v2, u (.ca N.places_lowered 0 [] [.l 2, .l 1, .l 0, .c (.fn N.places_all [])]), u (.bd [.t (.int .i64 (0)), .nil] [(0, 1, .l 4), (1, 1, .l 0)]), u (.st v4 l0 2 []), w 5 (.mv (.i 0))] []) .ret))))), res := [(4, some (2, true)), (5, none)] }
def places_Join_l1b : C := (.its  [u (.bin .lss v11 v10)] [] 0 .skip (.exit 0) (.seq (.blk 1 (.seq (.reg [m v11, a 1 v9 v11, g l0, w 7 (.mv l2), w 8 (.mv l1)] []) (.reg [f 1 v6, g l0, m v8, f 1 v3, g l0, m v7, a 1 l1 l0, g l0, u (.mn [.l 5, .l 0]), u (.bs [.l 0] 1), u (.app l8 l0 true 1), f 1 v6, u (.st l0 l1 1 [])] [(1, 10)]))) (.reg [u (.bin .add v11 (.i 1)), w 11 (.mv l0)] [])))
def places_Join_l1 : C := .loop true [0, 1, 2, 5, 7, 8] K.places_Join_l1b
def places_Join : Fn := { nargs := 2, vars := [0, 1, 2, 3, 4, 5, 6, 7, 8, 24, 25, 26], body := (.seq (.reg [w 2 (.bx v0 2), w 3 (.bx v1 2), w 4 (.al [.t (.int .i64 (0)), .nil] []), w 5 (.mv (.i 0))] []) (.seq (.ite [f 1 v2, g l0, u (.ln l0), f 1 v3, g l0, u (.ln l0), u (.bin .neq l3 l0)] [] 0 (.seq (.reg [u (.bd [.t (.int .i64 (0)), .nil] []), u (.st v4 l0 2 []), w 5 (.mv (.i 6))] []) .ret) .skip) (.seq (.reg [f 0 v2, g l0, f 0 v3, g l0, u (.mx [.l 2, .l 0]), u (.bd [.t (.int .i64 (0)), .nil] [(0, 1, .l 0)]), w 6 (.al [.t (.int .i64 (0)), .nil] [(1, 1)]), u (.st l0 l1 2 [(1, 1)])] []) (.seq (.seq (.reg [f 1 v2, w 9 (.ld l0 1 false), w 10 (.ln l0), w 11 (.mv (.i 0))] []) (.blk 0 K.places_Join_l1)) (.seq (.reg [h 2 v6, u (.st v4 l0 2 []), w 5 (.mv (.i 0))] []) .ret))))), res := [(4, some (2, true)), (5, none)] }
def places_Valid : Fn := { nargs := 2, vars := [0, 1, 2, 3, 4], body := (.seq (.reg [w 2 (.bx v0 2), w 3 (.bx v1 2), w 4 (.mv (.b false))] []) (.seq (.reg [h 2 v2, u (.ca N.plan_Valid 0 [] [.l 0]), m l0, y 0 true (.ld v2 2 true), y 1 true (.ld v3 2 true), y 2 true (.ca N.places_shaped 0 [] [.l 1, .l 0]), u (.pk l3 l0 (.b false)), m l0, y 0 true (.ld v2 2 true), y 1 true (.fa v3 1), y 2 true (.ld l0 1 false), y 3 true (.fa v3 0), y 4 true (.ld l0 1 false), y 5 true (.ca N.places_lowered 0 [] [.l 4, .l 2, .l 0, .c (.fn N.places_all [])]), y 6 true (.fa v3 1), y 7 true (.ld l0 1 false), y 8 true (.ca N.slices_Equal_int_int 0 [] [.l 2, .l 0]), u (.pk l9 l0 (.b false)), w 4 (.mv l0)] [(15, 6)]) .ret)), res := [(4, none)] }
def places_See_l1b : C := (.its  [u (.bin .lss v15 v14)] [] 0 .skip (.exit 0) (.seq (.blk 1 (.seq (.reg [a 1 v13 v15, g l0, w 12 (.mv l0)] []) (.ite [f 1 v6, g l0, m v12, a 1 l1 l0, g l0, m v4, u (.bin .leq l1 l0)] [] 0 (.reg [m v10, m v12, f 1 v6, g l0, m v12, a 1 l1 l0, g l0, a 1 l6 l5, u (.st l0 l1 1 []), w 11 (.mv (.b true))] []) .skip))) (.reg [u (.bin .add v15 (.i 1)), w 15 (.mv l0)] [])))
def places_See_l1 : C := .loop true [0, 1, 2, 8, 9, 12] K.places_See_l1b
def places_See : Fn := { nargs := 5, vars := [0, 1, 2, 3, 4, 5, 6, 10, 11, 12, 13, 14, 16, 34, 35, 36], body := (.seq (.reg [w 5 (.bx v0 2), w 6 (.bx v1 2), w 7 (.al [.t (.int .i64 (0)), .nil] []), w 8 (.mv (.i 0))] []) (.seq (.seq (.reg [h 2 v5, h 2 v6, m v2, m v3, m v4, u (.ca N.places_given 0 [] [.l 4, .l 3, .l 2, .l 1, .l 0]), w 9 (.mv l0)] []) (.ite [m v9, u (.bin .neq l0 (.i 0))] [] 0 (.seq (.reg [h 2 v6, m v9, u (.st v7 l1 2 []), w 8 (.mv l1)] []) .ret) .skip)) (.seq (.ite [m v3, f 0 v6, g l0, u (.bin .lss l2 l0)] [] 0 (.seq (.reg [h 2 v6, u (.st v7 l0 2 []), w 8 (.mv (.i 42))] []) .ret) .skip) (.seq (.reg [h 2 v5, u (.ca N.places_nowhere 1 [] [.l 0]), w 10 (.mv l0), w 11 (.mv (.b false))] []) (.seq (.seq (.reg [w 13 (.mv v2), w 14 (.ln l0), w 15 (.mv (.i 0))] []) (.blk 0 K.places_See_l1)) (.seq (.ite [m v11, u (.un .not l0)] [] 0 (.seq (.reg [h 2 v6, u (.st v7 l0 2 []), w 8 (.mv (.i 43))] []) .ret) .skip) (.seq (.reg [m v4, h 2 v5, m v10, m v3, u (.ca N.places_lowered 0 [] [.l 2, .l 1, .l 0, .c (.fn N.places_all [])]), u (.bd [.t (.int .i64 (0)), .nil] [(0, 1, .l 4), (1, 1, .l 0)]), u (.st v7 l0 2 []), w 8 (.mv (.i 0))] []) .ret))))))), res := [(7, some (2, true)), (8, none)] }
end Go.Ev.K
namespace Go.Ev
class Has8 [Lib] : Prop where
 t_places_Start : Lib.fs N.places_Start = some K.places_Start
 t_places_Join : Lib.fs N.places_Join = some K.places_Join
 t_places_Valid : Lib.fs N.places_Valid = some K.places_Valid
 t_places_See : Lib.fs N.places_See = some K.places_See
namespace K
variable [Lib] [Has8]
theorem t_places_Start : Lib.fs N.places_Start = some K.places_Start := Has8.t_places_Start
theorem t_places_Join : Lib.fs N.places_Join = some K.places_Join := Has8.t_places_Join
theorem t_places_Valid : Lib.fs N.places_Valid = some K.places_Valid := Has8.t_places_Valid
theorem t_places_See : Lib.fs N.places_See = some K.places_See := Has8.t_places_See
end K
end Go.Ev
namespace Go.Ev.K
open Go.Ev
def places_Absent_l1b : C := (.its  [u (.bin .lss v16 v15)] [] 0 .skip (.exit 1) (.seq (.blk 2 (.seq (.reg [a 1 v14 v16, g l0, w 13 (.mv l0)] []) (.reg [m v12, m v13, a 1 l1 l0, u (.st l0 (.i 1099511627776) 1 [])] []))) (.reg [u (.bin .add v16 (.i 1)), w 16 (.mv l0)] [])))
def places_Absent_l1 : C := .loop true [0, 1, 2, 3, 7, 10, 11, 13] K.places_Absent_l1b
def places_Absent : Fn := { nargs := 6, vars := [0, 1, 2, 3, 4, 5, 6, 7, 8, 12, 13, 14, 15, 17, 53, 54, 55], body := (.seq (.reg [w 6 (.bx v0 2), w 7 (.bx v1 2), w 8 (.bx v2 1), w 9 (.al [.t (.int .i64 (0)), .nil] []), w 10 (.mv (.i 0))] []) (.seq (.seq (.reg [h 2 v6, h 2 v7, g v8, m v3, m v4, u (.ca N.places_given 0 [] [.l 4, .l 3, .l 2, .l 1, .l 0]), w 11 (.mv l0)] []) (.blk 0 (.ite [m v11, u (.bin .neq l0 (.i 0)), m l0] [] 0 (.seq (.reg [h 2 v7, m v11, u (.st v9 l1 2 []), w 10 (.mv l1)] []) .ret) (.ite [m v5, u (.ca N.lists_In 0 [] [.l 0, .i 0, .i 2147483648]), u (.un .not l0), m l0] [] 0 (.seq (.reg [h 2 v7, u (.st v9 l0 2 []), w 10 (.mv (.i 8))] []) .ret) (.ite [m v4, f 0 v7, g l0, u (.bin .lss l2 l0), m l0] [] 0 (.seq (.reg [h 2 v7, u (.st v9 l0 2 []), w 10 (.mv (.i 42))] []) .ret) (.ite [m v4, m v3, f 0 v7, g l0, u (.mx [.l 2, .l 0]), u (.bin .sub l4 l0), m v5, u (.bin .leq l1 l0), m l0] [] 0 (.seq (.reg [h 2 v7, u (.st v9 l0 2 []), w 10 (.mv (.i 0))] []) .ret) .skip)))))) (.seq (.reg [f 1 v7, g l0, u (.ca N.slices_Clone_int_int 1 [] [.l 0]), w 12 (.mv l0)] []) (.seq (.seq (.reg [w 14 (.ld v8 1 false), w 15 (.ln l0), w 16 (.mv (.i 0))] []) (.blk 1 K.places_Absent_l1)) (.seq (.reg [h 2 v6, m v12, m v4, m v5, u (.bin .sub l1 l0), u (.mf N.places_Absent_1 [.v 8]), u (.ca N.places_lowered 1 [] [.l 5, .l 4, .l 1, .l 0]), w 12 (.mv l0)] []) (.seq (.reg [m v4, h 2 v6, m v12, m v4, u (.ca N.places_lowered 0 [] [.l 2, .l 1, .l 0, .c (.fn N.places_all [])]), u (.bd [.t (.int .i64 (0)), .nil] [(0, 1, .l 4), (1, 1, .l 0)]), u (.st v9 l0 2 []), w 10 (.mv (.i 0))] []) .ret)))))), res := [(9, some (2, true)), (10, none)] }
def places_Renew : Fn := { nargs := 3, vars := [0, 1, 2, 3, 4, 6, 7], body := (.seq (.reg [w 3 (.bx v0 2), w 4 (.bx v1 2), w 5 (.al [.t (.int .i64 (0)), .nil] []), w 6 (.mv (.i 0))] []) (.seq (.ite [h 2 v3, u (.ca N.plan_Valid 0 [] [.l 0]), u (.un .not l0), m l0, y 0 false (.ld v3 2 true), y 1 false (.ld v4 2 true), y 2 false (.ca N.places_shaped 0 [] [.l 1, .l 0]), y 3 false (.un .not l0), u (.pk l4 (.b true) l0)] [] 0 (.seq (.reg [h 2 v4, u (.st v5 l0 2 []), w 6 (.mv (.i 6))] []) .ret) .skip) (.seq (.ite [m v2, f 0 v4, g l0, u (.bin .lss l2 l0), m l0, y 0 false (.mv v2), y 1 false (.bin .gtr l0 (.i 2147483648)), u (.pk l2 (.b true) l0)] [] 0 (.seq (.reg [h 2 v4, u (.st v5 l0 2 []), w 6 (.mv (.i 8))] []) .ret) .skip) (.seq (.reg [m v2, h 2 v3, f 1 v4, g l0, m v2, u (.ca N.places_lowered 0 [] [.l 3, .l 1, .l 0, .c (.fn N.places_all [])]), u (.bd [.t (.int .i64 (0)), .nil] [(0, 1, .l 5), (1, 1, .l 0)]), u (.st v5 l0 2 []), w 6 (.mv (.i 0))] []) .ret)))), res := [(5, some (2, true)), (6, none)] }
def ref25_Same : Fn := { nargs := 2, vars := [0, 1, 2, 3, 4], body := (.seq (.reg [w 2 (.bx v0 2), w 3 (.bx v1 2), w 4 (.mv (.b false))] []) (.seq (.reg [f 0 v2, g l0, f 0 v3, g l0, u (.bin .eql l2 l0), m l0, y 0 true (.fa v2 1), y 1 true (.ld l0 1 false), y 2 true (.fa v3 1), y 3 true (.ld l0 1 false), y 4 true (.ca N.ref23_SameInts 0 [] [.l 2, .l 0]), u (.pk l5 l0 (.b false)), w 4 (.mv l0)] []) .ret)), res := [(4, none)] }
def places_nowhere : Fn := { nargs := 1, vars := [0, 1, 2], body := (.seq (.reg [w 1 (.bx v0 2), w 2 (.mv (.c (.nil)))] []) (.seq (.reg [u (.bs [.i 1099511627776] 1), f 0 v1, g l0, u (.ln l0), u (.ca N.slices_Repeat_int_int 1 [] [.l 3, .l 0]), w 2 (.mv l0)] []) .ret)), res := [(2, none)] }
def places_lowered_l1b : C := (.seq (.ite [g v9] [] 0 .skip (.exit 0)) (.seq (.blk 1 (.seq (.reg [u (.st v9 (.b false) 1 [])] []) (.reg [h 2 v4, g v8, u (.mf N.places_lowered_1 [.v 5, .v 8, .v 6, .v 9]), u (.ca N.places_arrivals 0 [1] [.l 2, .l 1, .l 0])] []))) (.seq (.reg [w 10 (.ld v9 1 false)] []) (.reg [w 9 (.al [.t (.bool false)] []), u (.st l0 v10 1 [])] []))))
def places_lowered_l1 : C := .loop false [0, 1, 2, 3, 7, 10] K.places_lowered_l1b
def places_lowered : Fn := { nargs := 4, vars := [0, 1, 2, 3, 4, 6, 7, 8, 9, 10, 18], body := (.seq (.reg [w 4 (.bx v0 2), w 5 (.bx v2 1), w 6 (.bx v3 1), w 7 (.mv (.c (.nil)))] []) (.seq (.reg [m v1, u (.ca N.slices_Clone_int_int 1 [] [.l 0]), w 8 (.al [.nil] []), u (.st l0 l1 1 [])] []) (.seq (.seq (.reg [w 9 (.al [.t (.bool false)] []), u (.st l0 (.b true) 1 [])] []) (.blk 0 K.places_lowered_l1)) (.seq (.reg [g v8, w 7 (.mv l0)] []) .ret)))), res := [(7, none)] }
def places_all : Fn := { nargs := 1, vars := [2], body := (.seq (.reg [w 0 (.mv (.b false))] []) (.seq (.reg [w 0 (.mv (.b true))] []) .ret)), res := [(0, none)] }
def places_shaped : Fn := { nargs := 2, vars := [0, 1, 2, 3, 4], body := (.seq (.reg [w 2 (.bx v0 2), w 3 (.bx v1 2), w 4 (.mv (.b false))] []) (.seq (.reg [f 1 v3, g l0, u (.ln l0), f 0 v2, g l0, u (.ln l0), u (.bin .eql l3 l0), m l0, y 0 true (.fa v3 0), y 1 true (.ld l0 1 false), y 2 true (.ca N.lists_In 0 [] [.l 0, .i 0, .i 2147483648]), u (.pk l3 l0 (.b false)), m l0, y 0 true (.fa v3 1), y 1 true (.ld l0 1 false), y 2 true (.ca N.slices_ContainsFunc_int_int 0 [] [.l 0, .c (.fn N.places_shaped_1 [])]), y 3 true (.un .not l0), u (.pk l4 l0 (.b false)), w 4 (.mv l0)] []) .ret)), res := [(4, none)] }
def slices_Equal_int_int_l1b : C := (.its  [u (.bin .lss v5 v4)] [] 0 .skip (.exit 0) (.seq (.blk 1 (.seq (.reg [m v5, w 3 (.mv l0)] []) (.ite [m v0, m v3, a 1 l1 l0, g l0, m v1, m v3, a 1 l1 l0, g l0, u (.bin .neq l4 l0)] [] 0 (.seq (.reg [w 2 (.mv (.b false))] []) .ret) .skip))) (.reg [u (.bin .add v5 (.i 1)), w 5 (.mv l0)] [])))
def slices_Equal_int_int_l1 : C := .loop true [2, 3] K.slices_Equal_int_int_l1b
def slices_Equal_int_int : Fn := { nargs := 2, vars := [0, 1, 4, 5, 12, 13], body := (.seq (.reg [w 2 (.mv (.b false))] []) (.seq (.ite [m v0, u (.ln l0), m v1, u (.ln l0), u (.bin .neq l2 l0)] [] 0 (.seq (.reg [w 2 (.mv (.b false))] []) .ret) .skip) (.seq (.seq (.reg [m v0, w 4 (.ln l0), w 5 (.mv (.i 0))] []) (.blk 0 K.slices_Equal_int_int_l1)) (.seq (.reg [w 2 (.mv (.b true))] []) .ret)))), res := [(2, none)] }
def places_given : Fn := { nargs := 5, vars := [0, 1, 2, 3, 4, 5, 6, 10], body := (.seq (.reg [w 5 (.bx v0 2), w 6 (.bx v1 2), w 7 (.mv (.i 0))] []) (.seq (.blk 0 (.ite [h 2 v5, h 2 v6, u (.ca N.places_Valid 0 [] [.l 1, .l 0]), u (.un .not l0), m l0, y 0 false (.mv v2), y 1 false (.ln l0), y 2 false (.bin .eql l0 (.i 0)), u (.pk l3 (.b true) l0), m l0, y 0 false (.mv v2), y 1 false (.fa v5 0), y 2 false (.ld l0 1 false), y 3 false (.ln l0), y 4 false (.bin .sub l0 (.i 1)), y 5 false (.ca N.lists_Rising 0 [] [.l 4, .i 0, .l 0]), y 6 false (.un .not l0), u (.pk l7 (.b true) l0), m l0] [] 0 (.seq (.reg [w 7 (.mv (.i 6))] []) .ret) (.ite [m v3, u (.ca N.lists_In 0 [] [.l 0, .i 0, .i 2147483648]), u (.un .not l0), m l0, y 0 false (.mv v4), y 1 false (.ca N.lists_In 0 [] [.l 0, .i 0, .i 2147483648]), y 2 false (.un .not l0), u (.pk l3 (.b true) l0), m l0, y 0 false (.mv v3), y 1 false (.mv v4), y 2 false (.bin .gtr l1 l0), u (.pk l3 (.b true) l0), m l0] [] 0 (.seq (.reg [w 7 (.mv (.i 8))] []) .ret) .skip))) (.seq (.reg [w 7 (.mv (.i 0))] []) .ret))), res := [(7, none)] }
def slices_Clone_int_int : Fn := { nargs := 1, vars := [0, 2], body := (.seq (.reg [w 1 (.mv (.c (.nil)))] []) (.itk  [m v0, u (.eqk (.sl) false l0 (.c (.nil)))] [] 0 (.seq (.reg [w 1 (.nw 1)] []) .ret) .skip (.seq (.reg [u (.bsr [] 1), m v0, u (.app l1 l0 false 1), w 1 (.mv l0)] []) .ret))), res := [(1, none)] }
def places_Absent_1 : Fn := { nargs := 2, vars := [0, 1, 3], body := (.seq (.reg [w 2 (.mv (.b false))] []) (.seq (.reg [g v1, m v0, u (.ca N.slices_Contains_int_int 0 [] [.l 1, .l 0]), w 2 (.mv l0)] []) .ret)), res := [(2, none)] }
def ref25_Renew : Fn := { nargs := 3, vars := [0, 1, 2, 3, 4, 6, 7], body := (.seq (.reg [w 3 (.bx v0 2), w 4 (.bx v1 2), w 5 (.al [.t (.int .i64 (0)), .nil] []), w 6 (.mv (.i 0))] []) (.seq (.ite [h 2 v3, u (.ca N.ref01_Check 0 [] [.l 0]), u (.bin .neq l0 (.i 0)), m l0, y 0 false (.ld v4 2 true), y 1 false (.fa v3 0), y 2 false (.ld l0 1 false), y 3 false (.ln l0), y 4 false (.ca N.ref25_Plain 0 [] [.l 3, .l 0]), y 5 false (.un .not l0), u (.pk l6 (.b true) l0)] [] 0 (.seq (.reg [h 2 v4, u (.ca N.ref25_Copy 0 [] [.l 0]), u (.st v5 l0 2 []), w 6 (.mv (.i 6))] []) .ret) .skip) (.seq (.ite [m v2, f 0 v4, g l0, u (.bin .lss l2 l0), m l0, y 0 false (.mv v2), y 1 false (.bin .gtr l0 (.i 2147483648)), u (.pk l2 (.b true) l0)] [] 0 (.seq (.reg [h 2 v4, u (.ca N.ref25_Copy 0 [] [.l 0]), u (.st v5 l0 2 []), w 6 (.mv (.i 8))] []) .ret) .skip) (.seq (.reg [m v2, h 2 v3, f 1 v4, g l0, m v2, u (.ca N.ref25_Close 0 [] [.l 3, .l 1, .l 0]), u (.bd [.t (.int .i64 (0)), .nil] [(0, 1, .l 5), (1, 1, .l 0)]), u (.st v5 l0 2 []), w 6 (.mv (.i 0))] []) .ret)))), res := [(5, some (2, true)), (6, none)] }
def places_Raise : Fn := { nargs := 2, vars := [0, 1, 2, 4, 5], body := (.seq (.reg [w 2 (.bx v0 2), w 3 (.al [.t (.int .i64 (0)), .nil] []), w 4 (.mv (.i 0))] []) (.seq (.ite [m v1, f 0 v2, g l0, u (.bin .lss l2 l0), m l0, y 0 false (.mv v1), y 1 false (.bin .gtr l0 (.i 2147483648)), u (.pk l2 (.b true) l0)] [] 0 (.seq (.reg [h 2 v2, u (.st v3 l0 2 []), w 4 (.mv (.i 8))] []) .ret) .skip) (.seq (.reg [m v1, f 1 v2, g l0, u (.ca N.slices_Clone_int_int 0 [] [.l 0]), u (.bd [.t (.int .i64 (0)), .nil] [(0, 1, .l 3), (1, 1, .l 0)]), u (.st v3 l0 2 []), w 4 (.mv (.i 0))] []) .ret))), res := [(3, some (2, true)), (4, none)] }
def places_arrivals_l2b : C := (.its  [u (.bin .lss v14 (.i 2))] [] 0 .skip (.exit 2) (.seq (.blk 3 (.seq (.reg [u (.ix v13 v14 2 1 false), w 6 (.mv l0)] []) (.seq (.reg [f 0 v5, g l0, f 1 v5, g l0, w 7 (.mv l2), w 8 (.mv l1)] []) (.seq (.ite [m v6] [] 0 (.reg [m v8, m v7, w 7 (.mv l1), w 8 (.mv l1)] []) .skip) (.seq (.reg [h 2 v3, m v4, m v6, u (.ca N.walk_Time 0 [] [.l 2, .l 1, .l 0]), w 9 (.mv l0)] []) (.ite [m v9, u (.bin .geq l0 (.i 0)), m l0, y 0 true (.mv v1), y 1 true (.mv v7), y 2 true (.ia l1 l0 1), y 3 true (.ld l0 1 false), y 4 true (.bin .lss l0 (.i 1099511627776)), u (.pk l5 l0 (.b false))] [] 0 (.reg [m v2, m v7, m v8, m v1, m v7, a 1 l1 l0, g l0, m v9, u (.bin .add l1 l0), u (.cw l8 0 [] [.l 7, .l 6, .l 0])] []) .skip)))))) (.reg [u (.bin .add v14 (.i 1)), w 14 (.mv l0)] [])))
def places_arrivals_l2 : C := .loop true [0, 6, 7, 8, 9] K.places_arrivals_l2b
def places_arrivals_l1b : C := (.its  [u (.bin .lss v12 v11)] [] 0 .skip (.exit 0) (.seq (.blk 1 (.seq (.reg [m v12, a 10 v10 v12, h 10 l0, w 5 (.al [.t (.int .i64 (0)), .t (.int .i64 (0)), .t (.int .i64 (0)), .t (.int .i64 (0)), .t (.bool false), .t (.bool false), .t (.int .i64 (0)), .t (.int .i64 (0)), .t (.int .i64 (0)), .t (.int .i64 (0))] []), w 4 (.mv l3), u (.st l1 l2 10 [])] []) (.seq (.reg [w 13 (.bd [.t (.bool false), .t (.bool false)] [(0, 1, .b false), (1, 1, .b true)]), w 14 (.mv (.i 0))] []) (.blk 2 K.places_arrivals_l2)))) (.reg [u (.bin .add v12 (.i 1)), w 12 (.mv l0)] [])))
def places_arrivals_l1 : C := .loop true [0, 4, 5, 6, 7, 8, 9, 13, 14] K.places_arrivals_l1b
def places_arrivals : Fn := { nargs := 3, vars := [0, 1, 2, 3, 6, 7, 9, 10, 11, 12, 14, 15, 16, 21, 22], body := (.seq (.reg [w 3 (.bx v0 2)] []) (.seq (.reg [f 1 v3, w 10 (.ld l0 1 false), w 11 (.ln l0), w 12 (.mv (.i 0))] []) (.blk 0 K.places_arrivals_l1))), res := [] }
def places_lowered_1 : Fn := { nargs := 7, vars := [1, 2, 3, 4, 5, 6], body := (.seq (.reg [m v1, g v2, u (.mx [.l 1, .l 0]), w 1 (.mv l0)] []) (.ite [m v1, u (.bin .leq l0 (.i 2147483648)), m l0, y 0 true (.mv v1), y 1 true (.ld v3 1 false), y 2 true (.mv v0), y 3 true (.ia l1 l0 1), y 4 true (.ld l0 1 false), y 5 true (.bin .lss l4 l0), u (.pk l6 l0 (.b false)), m l0, y 0 true (.ld v4 1 false), y 1 true (.mv v0), y 2 true (.cw l1 0 [] [.l 0]), u (.pk l3 l0 (.b false))] [] 0 (.reg [g v3, m v0, m v1, a 1 l2 l1, u (.st l0 l1 1 []), u (.st v5 (.b true) 1 [])] []) .skip)), res := [] }
def places_shaped_1 : Fn := { nargs := 1, vars := [0, 2], body := (.seq (.reg [w 1 (.mv (.b false))] []) (.seq (.reg [m v0, u (.bin .neq l0 (.i 1099511627776)), m l0, y 0 true (.mv v0), y 1 true (.ca N.lists_In 0 [] [.l 0, .i 0, .i 2147483648]), y 2 true (.un .not l0), u (.pk l3 l0 (.b false)), w 1 (.mv l0)] []) .ret)), res := [(1, none)] }
def walk_Time : Fn := { nargs := 3, vars := [0, 1, 2, 3, 6], body := (.seq (.reg [w 3 (.bx v0 2), w 4 (.mv (.i 0))] []) (.seq (.ite [h 2 v3, u (.ca N.plan_Valid 0 [] [.l 0]), u (.un .not l0), m l0, y 0 false (.mv v1), y 1 false (.bin .lss l0 (.i 0)), u (.pk l2 (.b true) l0), m l0, y 0 false (.mv v1), y 1 false (.fa v3 1), y 2 false (.ld l0 1 false), y 3 false (.ln l0), y 4 false (.bin .geq l3 l0), u (.pk l5 (.b true) l0)] [] 0 (.seq (.reg [w 4 (.mv (.i (-1)))] []) .ret) .skip) (.seq (.reg [h 2 v3, m v1, m v2, u (.ca N.walk_step 0 [] [.l 2, .l 1, .l 0]), w 4 (.mv l0)] []) .ret))), res := [(4, none)] }
def walk_step : Fn := { nargs := 3, vars := [0, 1, 2, 3, 6], body := (.seq (.reg [w 3 (.bx v0 2), w 4 (.mv (.i 0))] []) (.seq (.reg [h 2 v3, m v1, m v2, u (.ca N.walk_quick 0 [] []), u (.ca N.walk_with 0 [] [.l 3, .l 2, .l 1, .l 0]), w 4 (.mv l0)] [(0, 4)]) .ret)), res := [(4, none)] }
def walk_with : Fn := { nargs := 4, vars := [0, 1, 2, 3, 4, 7, 8, 9, 10, 11], body := (.seq (.reg [w 4 (.bx v0 2), w 5 (.bx v3 3), w 6 (.mv (.i 0))] []) (.seq (.reg [f 1 v4, g l0, m v1, a 10 l1 l0, h 10 l0, w 7 (.al [.t (.int .i64 (0)), .t (.int .i64 (0)), .t (.int .i64 (0)), .t (.int .i64 (0)), .t (.bool false), .t (.bool false), .t (.int .i64 (0)), .t (.int .i64 (0)), .t (.int .i64 (0)), .t (.int .i64 (0))] []), u (.st l0 l1 10 [])] []) (.seq (.ite [f 5 v7, g l0, m l0, y 0 false (.fa v7 4), y 1 false (.ld l0 1 false), y 2 false (.un .not l0), u (.pk l3 (.b true) l0)] [] 0 (.seq (.reg [w 6 (.mv (.i (-1)))] []) .ret) .skip) (.seq (.reg [f 0 v4, g l0, f 1 v7, g l0, a 2 l2 l0, f 0 l0, g l0, f 0 v4, g l0, f 0 v7, g l0, a 2 l2 l0, f 0 l0, g l0, u (.bin .sub l7 l0), w 8 (.mv l0)] []) (.seq (.ite [m v2] [] 0 (.reg [m v8, u (.un .neg l0), w 8 (.mv l0)] []) .skip) (.seq (.reg [f 2 v5, g l0, w 9 (.mv l0)] []) (.seq (.blk 0 (.ite [m v8, u (.bin .mul (.i 10) l0), f 2 v7, g l0, u (.bin .gtr l2 l0), m l0] [] 0 (.reg [f 0 v5, g l0, w 9 (.mv l0)] []) (.ite [m v8, u (.bin .mul (.i (-10)) l0), f 2 v7, g l0, u (.bin .gtr l2 l0), m l0] [] 0 (.reg [f 1 v5, g l0, w 9 (.mv l0)] []) .skip))) (.seq (.reg [f 2 v7, g l0, u (.bin .mul (.i 10) l0), m v9, u (.bin .add l1 l0), u (.bin .sub l0 (.i 1)), m v9, u (.bin .quo l1 l0), w 6 (.mv l0)] []) .ret)))))))), res := [(6, none)] }
def walk_quick : Fn := { nargs := 0, vars := [0], body := (.seq (.reg [w 0 (.al [.t (.int .i64 (0)), .t (.int .i64 (0)), .t (.int .i64 (0))] [])] []) (.seq (.reg [u (.bd [.t (.int .i64 (0)), .t (.int .i64 (0)), .t (.int .i64 (0))] [(0, 1, .i 6), (1, 1, .i 9), (2, 1, .i 12)]), u (.st v0 l0 3 [])] []) .ret)), res := [(0, some (3, true))] }
end Go.Ev.K
namespace Go.Ev
class Has9 [Lib] : Prop where
 t_places_Absent : Lib.fs N.places_Absent = some K.places_Absent
 t_places_Renew : Lib.fs N.places_Renew = some K.places_Renew
 t_ref25_Same : Lib.fs N.ref25_Same = some K.ref25_Same
 t_places_nowhere : Lib.fs N.places_nowhere = some K.places_nowhere
 t_places_lowered : Lib.fs N.places_lowered = some K.places_lowered
 t_places_all : Lib.fs N.places_all = some K.places_all
 t_places_shaped : Lib.fs N.places_shaped = some K.places_shaped
 t_slices_Equal_int_int : Lib.fs N.slices_Equal_int_int = some K.slices_Equal_int_int
 t_places_given : Lib.fs N.places_given = some K.places_given
 t_slices_Clone_int_int : Lib.fs N.slices_Clone_int_int = some K.slices_Clone_int_int
 t_places_Absent_1 : Lib.fs N.places_Absent_1 = some K.places_Absent_1
 t_ref25_Renew : Lib.fs N.ref25_Renew = some K.ref25_Renew
 t_places_Raise : Lib.fs N.places_Raise = some K.places_Raise
 t_places_arrivals : Lib.fs N.places_arrivals = some K.places_arrivals
 t_places_lowered_1 : Lib.fs N.places_lowered_1 = some K.places_lowered_1
 t_places_shaped_1 : Lib.fs N.places_shaped_1 = some K.places_shaped_1
 t_walk_Time : Lib.fs N.walk_Time = some K.walk_Time
 t_walk_step : Lib.fs N.walk_step = some K.walk_step
 t_walk_with : Lib.fs N.walk_with = some K.walk_with
 t_walk_quick : Lib.fs N.walk_quick = some K.walk_quick
namespace K
variable [Lib] [Has9]
theorem t_places_Absent : Lib.fs N.places_Absent = some K.places_Absent := Has9.t_places_Absent
theorem t_places_Renew : Lib.fs N.places_Renew = some K.places_Renew := Has9.t_places_Renew
theorem t_ref25_Same : Lib.fs N.ref25_Same = some K.ref25_Same := Has9.t_ref25_Same
theorem t_places_nowhere : Lib.fs N.places_nowhere = some K.places_nowhere := Has9.t_places_nowhere
theorem t_places_lowered : Lib.fs N.places_lowered = some K.places_lowered := Has9.t_places_lowered
theorem t_places_all : Lib.fs N.places_all = some K.places_all := Has9.t_places_all
theorem t_places_shaped : Lib.fs N.places_shaped = some K.places_shaped := Has9.t_places_shaped
theorem t_slices_Equal_int_int : Lib.fs N.slices_Equal_int_int = some K.slices_Equal_int_int := Has9.t_slices_Equal_int_int
theorem t_places_given : Lib.fs N.places_given = some K.places_given := Has9.t_places_given
theorem t_slices_Clone_int_int : Lib.fs N.slices_Clone_int_int = some K.slices_Clone_int_int := Has9.t_slices_Clone_int_int
theorem t_places_Absent_1 : Lib.fs N.places_Absent_1 = some K.places_Absent_1 := Has9.t_places_Absent_1
theorem t_ref25_Renew : Lib.fs N.ref25_Renew = some K.ref25_Renew := Has9.t_ref25_Renew
theorem t_places_Raise : Lib.fs N.places_Raise = some K.places_Raise := Has9.t_places_Raise
theorem t_places_arrivals : Lib.fs N.places_arrivals = some K.places_arrivals := Has9.t_places_arrivals
theorem t_places_lowered_1 : Lib.fs N.places_lowered_1 = some K.places_lowered_1 := Has9.t_places_lowered_1
theorem t_places_shaped_1 : Lib.fs N.places_shaped_1 = some K.places_shaped_1 := Has9.t_places_shaped_1
theorem t_walk_Time : Lib.fs N.walk_Time = some K.walk_Time := Has9.t_walk_Time
theorem t_walk_step : Lib.fs N.walk_step = some K.walk_step := Has9.t_walk_step
theorem t_walk_with : Lib.fs N.walk_with = some K.walk_with := Has9.t_walk_with
theorem t_walk_quick : Lib.fs N.walk_quick = some K.walk_quick := Has9.t_walk_quick
end K
end Go.Ev
namespace Go.Ev
open Go
variable [Lib] [Has1] [Has2] [Has6] [Has7] [Has8] [Has9]
abbrev arr1 (l : List Int) : Obj := .arr 1 false 0 ((l.map (T.int .i64)).map .t)
theorem clone0_ok (l : List Int) (hl : l.length ≤ 1000000) : CALL 0 N.slices_Clone_int_int [.t (tL l)] [] = some (.t (tL l), []) := by
 refine CALL_of K.t_slices_Clone_int_int rfl ?_
 by_cases h0 : l = []
 · subst h0
   simp only [tL, List.map_nil]
   simp (disch := omega) only [go_sem, K.slices_Clone_int_int, ↓reduceIte, List.map_nil, Nat.reduceAdd, Nat.reduceSub]
 · have e := fun H => opEqk_sl H (l.map (T.int .i64)) (by simpa using h0)
   simp (disch := omega) only [go_sem, K.slices_Clone_int_int, ↓reduceIte, e, Nat.reduceAdd, Nat.reduceSub]
theorem clone1_ok (l : List Int) (hl : l.length ≤ 1000000) : CALL 1 N.slices_Clone_int_int [.t (tL l)] [] = some (.ref 0 0 l.length, [arr1 l]) := by
 refine CALL_of K.t_slices_Clone_int_int rfl ?_
 by_cases h0 : l = []
 · subst h0
   simp only [tL, List.map_nil]
   simp (disch := omega) only [go_sem, K.slices_Clone_int_int, ↓reduceIte, List.map_nil, List.length_nil, Nat.reduceAdd, Nat.reduceSub]
   rfl
 · have e := fun H => opEqk_sl H (l.map (T.int .i64)) (by simpa using h0)
   simp (disch := omega) only [go_sem, K.slices_Clone_int_int, ↓reduceIte, e, Nat.reduceAdd, Nat.reduceSub]
theorem equal_ok (a b : List Int) (hl : a.length ≤ 4294967296) (hl2 : b.length ≤ 4294967296) : CALL 0 N.slices_Equal_int_int [.t (tL a), .t (tL b)] [] = some (B (decide (a = b)), []) := by
 refine CALL_of K.t_slices_Equal_int_int rfl ?_
 by_cases hlen : a.length = b.length
 · have loop : ∀ z2 z3 : D, exS CALL K.slices_Equal_int_int_l1 ⟨[.t (tL a), .t (tL b), z2, z3, I a.length, I 0], []⟩ =
    some (match (List.range a.length).find? (fun j => decide (nth a j ≠ nth b j)) with
     | some j => (.ret, ⟨[.t (tL a), .t (tL b), B false, I j, I a.length, I j], []⟩)
     | none => (.exit 0, ⟨[.t (tL a), .t (tL b), .und, .und, I a.length, I a.length], []⟩)) := by
    intro z2 z3
    refine loop_first (fun j => ⟨[.t (tL a), .t (tL b), .und, .und, I a.length, I j], []⟩) a.length (fun j => decide (nth a j ≠ nth b j)) _ _ rfl ?_ ?_ ?_ (by simp)
    · intro j hj hp
      have hp : nth a j = nth b j := by simpa using hp
      simp (disch := omega) only [go_sem, K.slices_Equal_int_int_l1b, ↓reduceIte, Nat.reduceAdd, Nat.reduceSub]
    · intro j hj hp
      have hp : nth a j ≠ nth b j := by simpa using hp
      simp (disch := omega) only [go_sem, K.slices_Equal_int_int_l1b, ↓reduceIte, Nat.reduceAdd, Nat.reduceSub]
      simp
    · simp (disch := omega) only [go_sem, K.slices_Equal_int_int_l1b, ↓reduceIte, Nat.reduceAdd, Nat.reduceSub]
   have e : (a = b) ↔ (List.range a.length).find? (fun j => decide (nth a j ≠ nth b j)) = none := by
    rw [List.find?_eq_none]
    constructor
    · intro h j _; simp [h]
    · intro h
      apply List.ext_getElem?
      intro j
      by_cases hj : j < a.length
      · rw [nth_some hj, nth_some (by omega)]
        have := h j (List.mem_range.2 hj)
        simpa using this
      · rw [List.getElem?_eq_none (by omega), List.getElem?_eq_none (by omega)]
   cases hf : (List.range a.length).find? (fun j => decide (nth a j ≠ nth b j)) with
   | some j =>
     rw [hf] at e loop
     have e : ¬ a = b := fun h => by have := e.1 h; cases this
     simp (disch := omega) only [go_sem, K.slices_Equal_int_int, ↓reduceIte, loop, e, decide_false, Nat.reduceAdd, Nat.reduceSub]
   | none =>
     rw [hf] at e loop
     have e : a = b := e.2 rfl
     simp (disch := omega) only [go_sem, K.slices_Equal_int_int, ↓reduceIte, loop, decide_eq_true e, Nat.reduceAdd, Nat.reduceSub]
 · have hne : a ≠ b := fun h => hlen (by rw [h])
   simp (disch := omega) only [go_sem, K.slices_Equal_int_int, ↓reduceIte, hne, decide_false, Nat.reduceAdd, Nat.reduceSub]
theorem quick_ok : CALL 0 N.walk_quick [] [] = some (.t (.agg [tI 6, tI 9, tI 12]), []) := by
 refine CALL_of K.t_walk_quick rfl ?_
 simp (disch := omega) only [go_sem, K.walk_quick, ↓reduceIte, Nat.reduceAdd, Nat.reduceSub]
theorem with_ok {m : Mine} (h : m.ok) (k : Nat) (hk : k < m.roads.length) (back : Bool) (up down level : Int) (hu : 1 ≤ up) (hu2 : up ≤ 100) (hd : 1 ≤ down) (hd2 : down ≤ 100) (hl : 1 ≤ level) (hl2 : level ≤ 100) :
 CALL 0 N.walk_with [.t m.e, I k, B back, .t (.agg [tI up, tI down, tI level])] [] = some (I (walkT m k back up down level), []) := by
 refine CALL_of K.t_walk_with rfl ?_
 have nr := h.nr
 have np := h.np
 obtain ⟨f0, f1, t0, t1, -, l0, l1, -, -, -, -, -, -, -, -⟩ := h.rs _ (nth_mem hk)
 have b1 := h.hs _ (nth_mem (l := m.places) (j := (nth m.roads k).frm.toNat) (by omega))
 have b2 := h.hs _ (nth_mem (l := m.places) (j := (nth m.roads k).to.toNat) (by omega))
 have g : (m.roads.map Road.e)[k]? = some (nth m.roads k).e := map_nth _ hk
 have p1 : (m.places.map Place.e)[(nth m.roads k).frm.toNat]? = some (nth m.places (nth m.roads k).frm.toNat).e := map_nth _ (by omega)
 have p2 : (m.places.map Place.e)[(nth m.roads k).to.toNat]? = some (nth m.places (nth m.roads k).to.toNat).e := map_nth _ (by omega)
 have key : ∀ h1 h2 : Int, -10000 ≤ h1 → h1 ≤ 10000 → -10000 ≤ h2 → h2 ≤ 10000 → IntKind.i64.wrap (h1 - h2) = h1 - h2 ∧ IntKind.i64.wrap (-(h1 - h2)) = h2 - h1 := fun h1 h2 _ _ _ _ => ⟨wrap_id (by omega) (by omega), by rw [wrap_id (by omega) (by omega)]; omega⟩
 unfold walkT
 generalize nth m.roads k = x at *
 obtain ⟨frm, to, len, area, walk, closed, rl, rh, ll, lh⟩ := x
 simp only at f0 f1 t0 t1 l0 l1 b1 b2 p1 p2 ⊢
 cases closed with
 | true =>
   obtain ⟨places, roads⟩ := m
   simp (disch := omega) only [go_sem, K.walk_with, ↓reduceIte, g, Nat.reduceAdd, Nat.reduceSub]
 | false =>
   cases walk with
   | false =>
     obtain ⟨places, roads⟩ := m
     simp (disch := omega) only [go_sem, K.walk_with, ↓reduceIte, g, Nat.reduceAdd, Nat.reduceSub]
   | true =>
     have g1 := tdiv_bd (a := 10 * len + up - 1) (b := up) (by omega) hu
     have g2 := tdiv_bd (a := 10 * len + down - 1) (b := down) (by omega) hd
     have g3 := tdiv_bd (a := 10 * len + level - 1) (b := level) (by omega) hl
     cases back with
     | true =>
       simp only [↓reduceIte]
       generalize nth m.places frm.toNat = q1 at *
       generalize nth m.places to.toNat = q2 at *
       obtain ⟨h1, s1⟩ := q1
       obtain ⟨h2, s2⟩ := q2
       obtain ⟨places, roads⟩ := m
       simp only at *
       obtain ⟨w2, w3⟩ := key h2 h1 (by omega) (by omega) (by omega) (by omega)
       by_cases c2 : len < -10 * (h1 - h2)
       · simp (disch := omega) only [go_sem, K.walk_with, ↓reduceIte, g, p1, p2, w2, w3, gt_iff_lt, Int.zero_sub, Nat.reduceAdd, Nat.reduceSub]
       · by_cases c1 : len < 10 * (h1 - h2)
         · simp (disch := omega) only [go_sem, K.walk_with, ↓reduceIte, g, p1, p2, w2, w3, gt_iff_lt, Int.zero_sub, Nat.reduceAdd, Nat.reduceSub]
         · simp (disch := omega) only [go_sem, K.walk_with, ↓reduceIte, g, p1, p2, w2, w3, gt_iff_lt, Int.zero_sub, Nat.reduceAdd, Nat.reduceSub]
     | false =>
       simp only [Bool.false_eq_true, ↓reduceIte]
       generalize nth m.places frm.toNat = q1 at *
       generalize nth m.places to.toNat = q2 at *
       obtain ⟨h1, s1⟩ := q1
       obtain ⟨h2, s2⟩ := q2
       obtain ⟨places, roads⟩ := m
       simp only at *
       obtain ⟨w2, w3⟩ := key h2 h1 (by omega) (by omega) (by omega) (by omega)
       by_cases c2 : len < -10 * (h2 - h1)
       · simp (disch := omega) only [go_sem, K.walk_with, ↓reduceIte, g, p1, p2, w2, gt_iff_lt, Nat.reduceAdd, Nat.reduceSub]
       · by_cases c1 : len < 10 * (h2 - h1)
         · simp (disch := omega) only [go_sem, K.walk_with, ↓reduceIte, g, p1, p2, w2, gt_iff_lt, Nat.reduceAdd, Nat.reduceSub]
         · simp (disch := omega) only [go_sem, K.walk_with, ↓reduceIte, g, p1, p2, w2, gt_iff_lt, Nat.reduceAdd, Nat.reduceSub]
theorem wtime_ok {m : Mine} (h : m.ok) (k : Nat) (hk : k < m.roads.length) (back : Bool) : CALL 0 N.walk_Time [.t m.e, I k, B back] [] = some (I (walkT m k back 6 9 12), []) := by
 have q := quick_ok
 have w := with_ok h k hk back 6 9 12 (by omega) (by omega) (by omega) (by omega) (by omega) (by omega)
 have v := planValid_ok h
 have nr := h.nr
 have s : CALL 0 N.walk_step [.t m.e, I k, B back] [] = some (I (walkT m k back 6 9 12), []) := by
  refine CALL_of K.t_walk_step rfl ?_
  generalize walkT m k back 6 9 12 = r at *
  obtain ⟨places, roads⟩ := m
  simp (disch := omega) only [go_sem, K.walk_step, ↓reduceIte, q, w, Nat.reduceAdd, Nat.reduceSub]
 refine CALL_of K.t_walk_Time rfl ?_
 generalize walkT m k back 6 9 12 = r at *
 obtain ⟨places, roads⟩ := m
 simp only at *
 simp (disch := omega) only [go_sem, K.walk_Time, ↓reduceIte, v, s, Nat.reduceAdd, Nat.reduceSub]
theorem pall_ok (q : Int) : CALL 0 N.places_all [I q] [] = some (B true, []) := by
 refine CALL_of K.t_places_all rfl ?_
 simp (disch := omega) only [go_sem, K.places_all, ↓reduceIte, Nat.reduceAdd, Nat.reduceSub]
theorem pabs1_ok (q : Int) (l : List Int) (hl : l.length ≤ 4294967296) : CALL 0 N.places_Absent_1 [I q, .bp 0 0] [.box [.t (tL l)]] = some (B (decide (q ∈ l)), [.box [.t (tL l)]]) := by
 refine CALL_of K.t_places_Absent_1 rfl ?_
 have c := contains_ok l q hl
 simp (disch := omega) only [go_sem, K.places_Absent_1, ↓reduceIte, c, Nat.reduceAdd, Nat.reduceSub]
theorem nowhere1_ok {m : Mine} (h : m.ok) (h1 : 1 ≤ m.places.length) : CALL 1 N.places_nowhere [.t m.e] [] = some (.ref 0 0 m.places.length, [.arr 1 false 0 (((neverL m.places.length).map (T.int .i64)).map .t)]) := by
 refine CALL_of K.t_places_nowhere rfl ?_
 have np := h.np
 have r := repeat_ok 1099511627776 m.places.length h1 (by omega)
 have e : List.replicate m.places.length (I 1099511627776) = ((neverL m.places.length).map (T.int .i64)).map D.t := by simp [neverL]
 rw [e] at r
 simp only [tL, List.map_cons, List.map_nil] at r
 obtain ⟨places, roads⟩ := m
 simp only at *
 generalize neverL places.length = nl at *
 simp (disch := omega) only [go_sem, K.places_nowhere, ↓reduceIte, r, Nat.reduceAdd, Nat.reduceSub]
end Go.Ev
namespace Go.Ev.K
open Go.Ev
def places_Possible : Fn := { nargs := 2, vars := [0, 1, 2, 3, 4], body := (.seq (.reg [w 2 (.bx v0 2), w 3 (.bx v1 1), w 4 (.mv (.c (.nil)))] []) (.seq (.reg [f 1 v2, g l0, u (.ln l0), u (.mf N.places_Possible_1 [.v 2, .v 3]), u (.ca N.lists_Where 0 [] [.l 1, .l 0]), w 4 (.mv l0)] []) .ret)), res := [(4, none)] }
def places_Possible_1 : Fn := { nargs := 3, vars := [0, 1, 2, 4], body := (.seq (.reg [w 3 (.mv (.b false))] []) (.seq (.reg [f 1 v1, g l0, m v0, a 1 l1 l0, g l0, g v2, u (.bin .leq l1 l0), w 3 (.mv l0)] []) .ret)), res := [(3, none)] }
end Go.Ev.K
namespace Go.Ev
class Has5 [Lib] : Prop where
 t_places_Possible : Lib.fs N.places_Possible = some K.places_Possible
 t_places_Possible_1 : Lib.fs N.places_Possible_1 = some K.places_Possible_1
namespace K
variable [Lib] [Has5]
theorem t_places_Possible : Lib.fs N.places_Possible = some K.places_Possible := Has5.t_places_Possible
theorem t_places_Possible_1 : Lib.fs N.places_Possible_1 = some K.places_Possible_1 := Has5.t_places_Possible_1
end K
end Go.Ev
namespace Go.Ev.N
def law33_KeysMade : Nat := 215
def law33_KeysSafe : Nat := 216
def law33_KeysBack : Nat := 217
def law33_awake : Nat := 218
def ref33_Start : Nat := 219
def law33_agree : Nat := 220
def law33_step : Nat := 221
def ref33_Copy : Nat := 222
def keys_Start : Nat := 223
def keys_Lock : Nat := 224
def keys_Insert : Nat := 225
def keys_Remove : Nat := 226
def keys_Unlock : Nat := 227
def keys_Draw : Nat := 228
def keys_Return : Nat := 229
def keys_Locked : Nat := 230
def ref33_Same : Nat := 231
def ref33_Locked : Nat := 232
def ref33_Lock : Nat := 233
def ref33_Insert : Nat := 234
def ref33_Remove : Nat := 235
def ref33_Unlock : Nat := 236
def ref33_Draw : Nat := 237
def ref33_Return : Nat := 238
def keys_move : Nat := 239
def keys_turn : Nat := 240
def slices_Sort_int_int : Nat := 241
def ref33_move : Nat := 242
def keys_copied : Nat := 243
def keys_copied_v1 : Nat := 244
end Go.Ev.N
namespace Go.Ev.K
open Go.Ev
end Go.Ev.K
namespace Go.Ev
class Has10 [Lib] : Prop where
namespace K
variable [Lib] [Has10]
end K
end Go.Ev
namespace Go.Ev
open Go
variable [Lib] [Has1] [Has2] [Has3] [Has4] [Has5] [Has6] [Has7] [Has8] [Has9] [Has10]
end Go.Ev
namespace Go.Ev
open Go
theorem intOfD_some {d : D} {n : Int} (h : intOfD d = some n) : d = .t (.int .i64 n) := by
 unfold intOfD at h
 split at h
 · cases h; rfl
 · cases h
theorem intsOfD : ∀ {es : List D} {l : List Int}, mapO intOfD es = some l → es = l.map fun x => .t (.int .i64 x)
 | [], l, h => by simp [mapO] at h; subst h; rfl
 | e :: r, l, h => by
   simp only [mapO, Option.bind_eq_some_iff, Option.map_eq_some_iff] at h
   obtain ⟨x, hx, y, hy, rfl⟩ := h
   rw [intOfD_some hx, intsOfD hy]; rfl
theorem insI_perm (x : Int) : ∀ l, (insI x l).Perm (x :: l)
 | [] => .refl _
 | y :: r => by
   unfold insI
   split
   · exact .refl _
   · exact ((insI_perm x r).cons y).trans (.swap x y r)
theorem sortI_perm : ∀ l, (sortI l).Perm l
 | [] => .refl _
 | x :: r => (insI_perm x _).trans ((sortI_perm r).cons x)
theorem insI_up {x : Int} : ∀ {l : List Int}, l.Pairwise (· ≤ ·) → (insI x l).Pairwise (· ≤ ·)
 | [], _ => by simp [insI]
 | y :: r, h => by
   unfold insI
   split
   · rename_i hx
     refine List.pairwise_cons.2 ⟨fun z hz => ?_, h⟩
     rcases List.mem_cons.1 hz with rfl | hz
     · exact hx
     · have := (List.pairwise_cons.1 h).1 z hz; omega
   · rename_i hx
     have h' := List.pairwise_cons.1 h
     refine List.pairwise_cons.2 ⟨fun z hz => ?_, insI_up h'.2⟩
     have hz := (insI_perm x r).mem_iff.1 hz
     rcases List.mem_cons.1 hz with rfl | hz
     · omega
     · exact h'.1 z hz
theorem sortI_up : ∀ l, (sortI l).Pairwise (· ≤ ·)
 | [] => .nil
 | x :: r => insI_up (sortI_up r)
theorem sortI_len (l : List Int) : (sortI l).length = l.length := (sortI_perm l).length_eq
theorem sortI_is (l : List Int) : (l.mergeSort fun x y => decide (x ≤ y)) = sortI l := by
 refine List.Perm.eq_of_pairwise (le := (· ≤ ·)) (fun a b _ _ h1 h2 => by omega) ?_ (sortI_up l) ((List.mergeSort_perm _ _).trans (sortI_perm l).symm)
 have := List.pairwise_mergeSort (le := fun x y : Int => decide (x ≤ y)) (fun a b c => by simp; omega) (fun a b => by simp; omega) l
 exact this.imp (by simp)
end Go.Ev
namespace Go.Ev
open Go
variable [Lib] [Has1] [Has2] [Has3] [Has4] [Has5] [Has6] [Has7] [Has8] [Has9] [Has10]
section
variable (k : Keys) (hl : k.keys.length ≤ 1000000) (hr : k.roads.length ≤ 1000000)
include hl hr
end
end Go.Ev
namespace Go.Ev
open Go
variable [Lib] [Has1] [Has2] [Has3] [Has4] [Has5] [Has6] [Has7] [Has8] [Has9] [Has10]
theorem up_eq {a b : List Int} (ha : a.Pairwise (· ≤ ·)) (hb : b.Pairwise (· ≤ ·)) (p : a.Perm b) : a = b :=
 List.Perm.eq_of_pairwise (le := (· ≤ ·)) (fun a b _ _ h1 h2 => by omega) ha hb p
section
variable (b u v y : Obj) (ds : Heap)
end
end Go.Ev
namespace Go.Ev.N
def law40_FireRulesRaw : Nat := 245
def law40_FireRulesMade : Nat := 246
def law40_FireRulesMore : Nat := 247
def law40_agree : Nat := 248
def ref40_Command : Nat := 249
def ref40_Drawn : Nat := 250
def firerules_Commands : Nat := 251
def ref40_Commands : Nat := 252
def firerules_Valid : Nat := 253
def ref40_Valid : Nat := 254
def ref40_filled : Nat := 255
def ref40_near : Nat := 256
def swaps_Valid : Nat := 257
def firerules_Valid_1 : Nat := 258
def slices_ContainsFunc_api_Machine_api_Machine : Nat := 259
def slices_Sorted_int : Nat := 260
def slices_Values_int_int : Nat := 261
def swaps_tagged : Nat := 262
def slices_Compare_int_int : Nat := 263
def slices_ContainsFunc_api_Whereabouts_api_Whereabouts : Nat := 264
def swaps_Valid_1 : Nat := 265
def slices_IndexFunc_api_Machine_api_Machine : Nat := 266
def slices_Values_int_int_1 : Nat := 267
def cmp_Compare_int : Nat := 268
def slices_IndexFunc_api_Whereabouts_api_Whereabouts : Nat := 269
def cmp_isNaN_int : Nat := 270
end Go.Ev.N
namespace Go.Ev.K
open Go.Ev
def swaps_Valid_l1b : C := (.its  [u (.bin .lss v10 v9)] [] 0 .skip (.exit 0) (.seq (.blk 1 (.seq (.reg [m v10, a 2 v8 v10, h 2 l0, w 7 (.al [.nil, .nil] []), w 6 (.mv l3), u (.st l1 l2 2 [])] []) (.blk 2 (.ite [f 0 v7, g l0, u (.ln l0), u (.ca N.lists_In 0 [] [.l 0, .i 1, .i 12]), u (.un .not l0), m l0, y 0 false (.fa v7 1), y 1 false (.ld l0 1 false), y 2 false (.ln l0), y 3 false (.fa v7 0), y 4 false (.ld l0 1 false), y 5 false (.ln l0), y 6 false (.bin .neq l3 l0), u (.pk l7 (.b true) l0), m l0, y 0 false (.fa v7 0), y 1 false (.ld l0 1 false), y 2 false (.ca N.swaps_tagged 0 [] [.l 0]), y 3 false (.un .not l0), u (.pk l4 (.b true) l0), m l0] [] 0 (.seq (.reg [w 4 (.mv (.b false))] []) .ret) (.ite [f 0 v7, g l0, u (.ca N.slices_Values_int_int 0 [] [.l 0]), u (.ca N.slices_Sorted_int 0 [] [.l 0]), m v5, u (.ca N.slices_Equal_int_int 0 [] [.l 1, .l 0]), u (.un .not l0), m l0] [] 0 (.seq (.reg [w 4 (.mv (.b false))] []) .ret) (.ite [m v6, u (.bin .gtr l0 (.i 0)), m l0, y 0 true (.fa v3 0), y 1 true (.ld l0 1 false), y 2 true (.mv v6), y 3 true (.bin .sub l0 (.i 1)), y 4 true (.ia l2 l0 2), y 5 true (.fa l0 0), y 6 true (.ld l0 1 false), y 7 true (.fa v7 0), y 8 true (.ld l0 1 false), y 9 true (.ca N.slices_Compare_int_int 0 [] [.l 2, .l 0]), y 10 true (.bin .geq l0 (.i 0)), u (.pk l11 l0 (.b false)), m l0] [] 0 (.seq (.reg [w 4 (.mv (.b false))] []) .ret) (.ite [f 1 v7, g l0, u (.mf N.swaps_Valid_1 [.v 2]), u (.ca N.slices_ContainsFunc_api_Whereabouts_api_Whereabouts 0 [] [.l 1, .l 0]), m l0] [] 0 (.seq (.reg [w 4 (.mv (.b false))] []) .ret) .skip))))))) (.reg [u (.bin .add v10 (.i 1)), w 10 (.mv l0)] [])))
def swaps_Valid_l1 : C := .loop true [0, 1, 4, 6, 7] K.swaps_Valid_l1b
def swaps_Valid : Fn := { nargs := 2, vars := [0, 1, 2, 3, 4, 5, 6, 7, 26, 27, 28], body := (.seq (.reg [w 2 (.bx v0 2), w 3 (.bx v1 1), w 4 (.mv (.b false))] []) (.seq (.ite [h 2 v2, u (.ca N.plan_Valid 0 [] [.l 0]), u (.un .not l0), m l0, y 0 false (.fa v3 0), y 1 false (.ld l0 1 false), y 2 false (.ln l0), y 3 false (.ca N.lists_In 0 [] [.l 0, .i 1, .i 24]), y 4 false (.un .not l0), u (.pk l5 (.b true) l0)] [] 0 (.seq (.reg [w 4 (.mv (.b false))] []) .ret) .skip) (.seq (.reg [f 0 v3, g l0, a 2 l0 (.i 0), f 0 l0, g l0, u (.ca N.slices_Values_int_int 0 [] [.l 0]), u (.ca N.slices_Sorted_int 0 [] [.l 0]), w 5 (.mv l0)] []) (.seq (.seq (.reg [f 0 v3, w 8 (.ld l0 1 false), w 9 (.ln l0), w 10 (.mv (.i 0))] []) (.blk 0 K.swaps_Valid_l1)) (.seq (.reg [w 4 (.mv (.b true))] []) .ret))))), res := [(4, none)] }
def slices_Sorted_int : Fn := { nargs := 1, vars := [2], body := .fail, res := [(0, none)], prim := [2, N.slices_Values_int_int_1] }
def slices_Values_int_int : Fn := { nargs := 1, vars := [0, 1, 2], body := (.seq (.reg [w 1 (.bx v0 1), w 2 (.mv (.c (.und)))] []) (.seq (.reg [u (.mf N.slices_Values_int_int_1 [.v 1]), w 2 (.mv l0)] []) .ret)), res := [(2, none)] }
def swaps_tagged : Fn := { nargs := 1, vars := [0, 2, 3], body := (.seq (.reg [w 1 (.mv (.b false))] []) (.seq (.reg [m v0, u (.ca N.slices_Values_int_int 0 [] [.l 0]), u (.ca N.slices_Sorted_int 0 [] [.l 0]), w 2 (.mv l0)] []) (.seq (.reg [m v2, u (.ca N.lists_Rising 0 [] [.l 0, .i 1, .i 65535]), w 1 (.mv l0)] []) .ret))), res := [(1, none)] }
def slices_Compare_int_int_l1b : C := (.its  [u (.bin .lss v9 v8)] [] 0 .skip (.exit 0) (.seq (.blk 1 (.seq (.reg [m v9, a 1 v7 v9, g l0, w 3 (.mv l2), w 4 (.mv l1)] []) (.seq (.ite [m v3, m v1, u (.ln l0), u (.bin .geq l2 l0)] [] 0 (.seq (.reg [w 2 (.mv (.i 1))] []) .ret) .skip) (.seq (.reg [m v1, m v3, a 1 l1 l0, g l0, w 5 (.mv l0)] []) (.seq (.reg [m v4, m v5, u (.ca N.cmp_Compare_int 0 [] [.l 1, .l 0]), w 6 (.mv l0)] []) (.ite [m v6, u (.bin .neq l0 (.i 0))] [] 0 (.seq (.reg [m v6, w 2 (.mv l0)] []) .ret) .skip)))))) (.reg [u (.bin .add v9 (.i 1)), w 9 (.mv l0)] [])))
def slices_Compare_int_int_l1 : C := .loop true [2, 3, 4, 5, 6] K.slices_Compare_int_int_l1b
def slices_Compare_int_int : Fn := { nargs := 2, vars := [0, 1, 4, 5, 6, 7, 8, 9, 10, 11], body := (.seq (.reg [w 2 (.mv (.i 0))] []) (.seq (.seq (.reg [w 7 (.mv v0), w 8 (.ln l0), w 9 (.mv (.i 0))] []) (.blk 0 K.slices_Compare_int_int_l1)) (.seq (.ite [m v0, u (.ln l0), m v1, u (.ln l0), u (.bin .lss l2 l0)] [] 0 (.seq (.reg [w 2 (.mv (.i (-1)))] []) .ret) .skip) (.seq (.reg [w 2 (.mv (.i 0))] []) .ret)))), res := [(2, none)] }
def slices_ContainsFunc_api_Whereabouts_api_Whereabouts : Fn := { nargs := 2, vars := [0, 1, 4], body := (.seq (.reg [w 2 (.mv (.b false))] []) (.seq (.reg [m v0, m v1, u (.ca N.slices_IndexFunc_api_Whereabouts_api_Whereabouts 0 [] [.l 1, .l 0]), u (.bin .geq l0 (.i 0)), w 2 (.mv l0)] []) .ret)), res := [(2, none)] }
def swaps_Valid_1 : Fn := { nargs := 2, vars := [0, 1, 2, 3], body := (.seq (.reg [w 2 (.bx v0 2), w 3 (.mv (.b false))] []) (.seq (.reg [h 2 v1, h 2 v2, u (.ca N.places_Valid 0 [] [.l 1, .l 0]), u (.un .not l0), w 3 (.mv l0)] []) .ret)), res := [(3, none)] }
def slices_Values_int_int_1_l1b : C := (.its  [u (.bin .lss v5 v4)] [] 0 .skip (.exit 0) (.seq (.blk 1 (.seq (.reg [a 1 v3 v5, g l0, w 2 (.mv l0)] []) (.ite [m v0, m v2, u (.cw l1 0 [] [.l 0]), u (.un .not l0)] [] 0 .ret .skip))) (.reg [u (.bin .add v5 (.i 1)), w 5 (.mv l0)] [])))
def slices_Values_int_int_1_l1 : C := .loop true [1, 2] K.slices_Values_int_int_1_l1b
def slices_Values_int_int_1 : Fn := { nargs := 2, vars := [0, 1, 4, 5, 6, 7], body := (.seq (.reg [w 3 (.ld v1 1 false), w 4 (.ln l0), w 5 (.mv (.i 0))] []) (.blk 0 K.slices_Values_int_int_1_l1)), res := [] }
def cmp_Compare_int : Fn := { nargs := 2, vars := [0, 1, 4, 5, 6], body := (.seq (.reg [w 2 (.mv (.i 0))] []) (.seq (.reg [m v0, u (.ca N.cmp_isNaN_int 0 [] [.l 0]), w 3 (.mv l0)] []) (.seq (.reg [m v1, u (.ca N.cmp_isNaN_int 0 [] [.l 0]), w 4 (.mv l0)] []) (.seq (.ite [m v3] [] 0 (.seq (.ite [m v4] [] 0 (.seq (.reg [w 2 (.mv (.i 0))] []) .ret) .skip) (.seq (.reg [w 2 (.mv (.i (-1)))] []) .ret)) .skip) (.seq (.ite [m v4] [] 0 (.seq (.reg [w 2 (.mv (.i 1))] []) .ret) .skip) (.seq (.ite [m v0, m v1, u (.bin .lss l1 l0)] [] 0 (.seq (.reg [w 2 (.mv (.i (-1)))] []) .ret) .skip) (.seq (.ite [m v0, m v1, u (.bin .gtr l1 l0)] [] 0 (.seq (.reg [w 2 (.mv (.i 1))] []) .ret) .skip) (.seq (.reg [w 2 (.mv (.i 0))] []) .ret)))))))), res := [(2, none)] }
def slices_IndexFunc_api_Whereabouts_api_Whereabouts_l1b : C := (.its  [u (.bin .lss v5 v4)] [] 0 .skip (.exit 0) (.seq (.blk 1 (.seq (.reg [m v5, w 3 (.mv l0)] []) (.ite [m v1, m v0, m v3, a 2 l1 l0, h 2 l0, u (.cw l4 0 [] [.l 0])] [] 0 (.seq (.reg [m v3, w 2 (.mv l0)] []) .ret) .skip))) (.reg [u (.bin .add v5 (.i 1)), w 5 (.mv l0)] [])))
def slices_IndexFunc_api_Whereabouts_api_Whereabouts_l1 : C := .loop true [2, 3] K.slices_IndexFunc_api_Whereabouts_api_Whereabouts_l1b
def slices_IndexFunc_api_Whereabouts_api_Whereabouts : Fn := { nargs := 2, vars := [0, 1, 4, 5, 7, 8], body := (.seq (.reg [w 2 (.mv (.i 0))] []) (.seq (.seq (.reg [m v0, w 4 (.ln l0), w 5 (.mv (.i 0))] []) (.blk 0 K.slices_IndexFunc_api_Whereabouts_api_Whereabouts_l1)) (.seq (.reg [w 2 (.mv (.i (-1)))] []) .ret))), res := [(2, none)] }
def cmp_isNaN_int : Fn := { nargs := 1, vars := [0, 2], body := (.seq (.reg [w 1 (.mv (.b false))] []) (.seq (.reg [m v0, m v0, u (.bin .neq l1 l0), w 1 (.mv l0)] []) .ret)), res := [(1, none)] }
end Go.Ev.K
namespace Go.Ev
class Has11 [Lib] : Prop where
 t_swaps_Valid : Lib.fs N.swaps_Valid = some K.swaps_Valid
 t_slices_Sorted_int : Lib.fs N.slices_Sorted_int = some K.slices_Sorted_int
 t_slices_Values_int_int : Lib.fs N.slices_Values_int_int = some K.slices_Values_int_int
 t_swaps_tagged : Lib.fs N.swaps_tagged = some K.swaps_tagged
 t_slices_Compare_int_int : Lib.fs N.slices_Compare_int_int = some K.slices_Compare_int_int
 t_slices_ContainsFunc_api_Whereabouts_api_Whereabouts : Lib.fs N.slices_ContainsFunc_api_Whereabouts_api_Whereabouts = some K.slices_ContainsFunc_api_Whereabouts_api_Whereabouts
 t_swaps_Valid_1 : Lib.fs N.swaps_Valid_1 = some K.swaps_Valid_1
 t_slices_Values_int_int_1 : Lib.fs N.slices_Values_int_int_1 = some K.slices_Values_int_int_1
 t_cmp_Compare_int : Lib.fs N.cmp_Compare_int = some K.cmp_Compare_int
 t_slices_IndexFunc_api_Whereabouts_api_Whereabouts : Lib.fs N.slices_IndexFunc_api_Whereabouts_api_Whereabouts = some K.slices_IndexFunc_api_Whereabouts_api_Whereabouts
 t_cmp_isNaN_int : Lib.fs N.cmp_isNaN_int = some K.cmp_isNaN_int
namespace K
variable [Lib] [Has11]
theorem t_swaps_Valid : Lib.fs N.swaps_Valid = some K.swaps_Valid := Has11.t_swaps_Valid
theorem t_slices_Sorted_int : Lib.fs N.slices_Sorted_int = some K.slices_Sorted_int := Has11.t_slices_Sorted_int
theorem t_slices_Values_int_int : Lib.fs N.slices_Values_int_int = some K.slices_Values_int_int := Has11.t_slices_Values_int_int
theorem t_swaps_tagged : Lib.fs N.swaps_tagged = some K.swaps_tagged := Has11.t_swaps_tagged
theorem t_slices_Compare_int_int : Lib.fs N.slices_Compare_int_int = some K.slices_Compare_int_int := Has11.t_slices_Compare_int_int
theorem t_slices_ContainsFunc_api_Whereabouts_api_Whereabouts : Lib.fs N.slices_ContainsFunc_api_Whereabouts_api_Whereabouts = some K.slices_ContainsFunc_api_Whereabouts_api_Whereabouts := Has11.t_slices_ContainsFunc_api_Whereabouts_api_Whereabouts
theorem t_swaps_Valid_1 : Lib.fs N.swaps_Valid_1 = some K.swaps_Valid_1 := Has11.t_swaps_Valid_1
theorem t_slices_Values_int_int_1 : Lib.fs N.slices_Values_int_int_1 = some K.slices_Values_int_int_1 := Has11.t_slices_Values_int_int_1
theorem t_cmp_Compare_int : Lib.fs N.cmp_Compare_int = some K.cmp_Compare_int := Has11.t_cmp_Compare_int
theorem t_slices_IndexFunc_api_Whereabouts_api_Whereabouts : Lib.fs N.slices_IndexFunc_api_Whereabouts_api_Whereabouts = some K.slices_IndexFunc_api_Whereabouts_api_Whereabouts := Has11.t_slices_IndexFunc_api_Whereabouts_api_Whereabouts
theorem t_cmp_isNaN_int : Lib.fs N.cmp_isNaN_int = some K.cmp_isNaN_int := Has11.t_cmp_isNaN_int
end K
end Go.Ev
namespace Go.Ev
open Go
variable [Lib] [Has1] [Has2] [Has3] [Has4] [Has5] [Has6] [Has7] [Has8] [Has9] [Has10] [Has11]
theorem values_ok (l : List Int) : CALL 0 N.slices_Values_int_int [.t (tL l)] [] = some (.fn N.slices_Values_int_int_1 [.bp 0 0], [.box [.t (tL l)]]) := by
 refine CALL_of K.t_slices_Values_int_int rfl ?_
 simp (disch := omega) only [go_sem, K.slices_Values_int_int, ↓reduceIte, Nat.reduceAdd, Nat.reduceSub]
theorem intsOf_map (l : List Int) : intsOfT (tL l) = some l := by
 unfold intsOfT
 simp only
 induction l with
 | nil => rfl
 | cons x l ih =>
   simp only [List.map_cons, mapO] at ih ⊢
   rw [ih]; rfl
theorem sorted_ok (l : List Int) (hl : l.length ≤ 1000000) : CALL 0 N.slices_Sorted_int [.fn N.slices_Values_int_int_1 [.bp 0 0]] [.box [.t (tL l)]] = some (.t (tL (sortI l)), [.box [.t (tL l)]]) := by
 refine CALL_prim K.t_slices_Sorted_int (by decide) ?_
 show primF [2, N.slices_Values_int_int_1] _ _ = _
 simp only [primF, if_true, List.getElem?_cons_zero, argD, Option.bind_some, intsOf_map]
 rw [if_pos (by unfold lim; omega)]
theorem isNaN_ok (a : Int) : CALL 0 N.cmp_isNaN_int [I a] [] = some (B false, []) := by
 refine CALL_of K.t_cmp_isNaN_int rfl ?_
 simp (disch := omega) only [go_sem, K.cmp_isNaN_int, ↓reduceIte, decide_true, Bool.not_true, Nat.reduceAdd, Nat.reduceSub]
def cmpI (a b : Int) : Int := if a < b then -1 else if b < a then 1 else 0
theorem cmp_ok (a b : Int) : CALL 0 N.cmp_Compare_int [I a, I b] [] = some (I (cmpI a b), []) := by
 refine CALL_of K.t_cmp_Compare_int rfl ?_
 have h1 := isNaN_ok a
 have h2 := isNaN_ok b
 unfold cmpI
 by_cases c1 : a < b
 · simp (disch := omega) only [go_sem, K.cmp_Compare_int, ↓reduceIte, h1, h2, c1, Bool.false_eq_true, Nat.reduceAdd, Nat.reduceSub]
 · by_cases c2 : b < a
   · simp (disch := omega) only [go_sem, K.cmp_Compare_int, ↓reduceIte, h1, h2, c1, c2, Bool.false_eq_true, Nat.reduceAdd, Nat.reduceSub]
   · simp (disch := omega) only [go_sem, K.cmp_Compare_int, ↓reduceIte, h1, h2, c1, c2, Bool.false_eq_true, Nat.reduceAdd, Nat.reduceSub]
def cmpP (a b : List Int) (j : Nat) : Bool := decide (b.length ≤ j) || decide (nth a j ≠ nth b j)
def cmpL (a b : List Int) : Int := match (List.range a.length).find? (cmpP a b) with
 | some j => if b.length ≤ j then 1 else cmpI (nth a j) (nth b j)
 | none => if a.length < b.length then -1 else 0
theorem compare_ok (a b : List Int) (ha : a.length ≤ 1000000) (hb : b.length ≤ 1000000) : CALL 0 N.slices_Compare_int_int [.t (tL a), .t (tL b)] [] = some (I (cmpL a b), []) := by
 refine CALL_of K.t_slices_Compare_int_int rfl ?_
 have loop : ∀ z2 z3 z4 z5 z6 : D, exS CALL K.slices_Compare_int_int_l1 ⟨[.t (tL a), .t (tL b), z2, z3, z4, z5, z6, .t (tL a), I a.length, I 0], []⟩ =
  some (match (List.range a.length).find? (cmpP a b) with
   | some j => (.ret, ⟨[.t (tL a), .t (tL b), I (if b.length ≤ j then 1 else cmpI (nth a j) (nth b j)), I j, I (nth a j), if b.length ≤ j then .und else I (nth b j), if b.length ≤ j then .und else I (cmpI (nth a j) (nth b j)), .t (tL a), I a.length, I j], []⟩)
   | none => (.exit 0, ⟨[.t (tL a), .t (tL b), .und, .und, .und, .und, .und, .t (tL a), I a.length, I a.length], []⟩)) := by
  intro z2 z3 z4 z5 z6
  refine loop_first (fun j => ⟨[.t (tL a), .t (tL b), .und, .und, .und, .und, .und, .t (tL a), I a.length, I j], []⟩) a.length (cmpP a b) _ _ rfl ?_ ?_ ?_ (by simp)
  · intro j hj hp
    simp only [cmpP, Bool.or_eq_false_iff, decide_eq_false_iff_not, Decidable.not_not] at hp
    obtain ⟨h1, h2⟩ := hp
    have c := cmp_ok (nth a j) (nth b j)
    rw [h2] at c
    have e : cmpI (nth b j) (nth b j) = 0 := by unfold cmpI; rw [if_neg (by omega), if_neg (by omega)]
    rw [e] at c
    simp (disch := omega) only [go_sem, K.slices_Compare_int_int_l1b, ↓reduceIte, h2, c, Nat.reduceAdd, Nat.reduceSub]
  · intro j hj hp
    refine ⟨?_, by simp⟩
    by_cases h1 : b.length ≤ j
    · rw [if_pos h1, if_pos h1, if_pos h1]
      simp (disch := omega) only [go_sem, K.slices_Compare_int_int_l1b, ↓reduceIte, Nat.reduceAdd, Nat.reduceSub]
    · rw [if_neg h1, if_neg h1, if_neg h1]
      have h2 : nth a j ≠ nth b j := by simpa [cmpP, h1] using hp
      have c := cmp_ok (nth a j) (nth b j)
      have e : cmpI (nth a j) (nth b j) ≠ 0 := by
       unfold cmpI; split
       · omega
       · split <;> omega
      generalize cmpI (nth a j) (nth b j) = v at *
      simp (disch := omega) only [go_sem, K.slices_Compare_int_int_l1b, ↓reduceIte, c, e, Nat.reduceAdd, Nat.reduceSub]
  · simp (disch := omega) only [go_sem, K.slices_Compare_int_int_l1b, ↓reduceIte, Nat.reduceAdd, Nat.reduceSub]
 unfold cmpL
 cases hf : (List.range a.length).find? (cmpP a b) with
 | some j =>
   simp only [hf] at loop
   simp (disch := omega) only [go_sem, K.slices_Compare_int_int, ↓reduceIte, loop, Nat.reduceAdd, Nat.reduceSub]
 | none =>
   simp only [hf] at loop
   by_cases h : a.length < b.length
   · simp (disch := omega) only [go_sem, K.slices_Compare_int_int, ↓reduceIte, loop, h, Nat.reduceAdd, Nat.reduceSub]
   · simp (disch := omega) only [go_sem, K.slices_Compare_int_int, ↓reduceIte, loop, h, Nat.reduceAdd, Nat.reduceSub]
end Go.Ev
namespace Go.Ev
open Go
variable [Lib] [Has1] [Has2]
theorem nodup_sub_len : ∀ {l l' : List Int}, l.Nodup → (∀ x ∈ l, x ∈ l') → l.length ≤ l'.length
 | [], _, _, _ => by simp
 | a :: l, l', hn, hs => by
   obtain ⟨h1, h2⟩ := List.nodup_cons.1 hn
   have ha : a ∈ l' := hs a List.mem_cons_self
   have := nodup_sub_len (l := l) (l' := l'.erase a) h2 fun x hx => by
    have hne : x ≠ a := fun e => h1 (e ▸ hx)
    exact (List.mem_erase_of_ne hne).2 (hs x (List.mem_cons_of_mem _ hx))
   have h3 := List.length_erase_of_mem ha
   have h4 : 0 < l'.length := List.length_pos_of_mem ha
   simp only [List.length_cons]
   omega
theorem bearerF_mem {l : List Int} {x : Int} : 0 ≤ bearerF l x ↔ x ∈ l := by
 unfold bearerF
 cases hf : (List.range l.length).find? (fun j => decide (nth l j = x)) with
 | some j =>
   obtain ⟨h1, h2⟩ := find_lt hf
   have := nth_mem h1
   rw [of_decide_eq_true h2] at this
   simp [this]
 | none =>
   have := List.find?_eq_none.1 hf
   simp only [Int.reduceNeg]
   constructor
   · intro h; simp at h
   · intro h
     obtain ⟨j, hj⟩ := List.mem_iff_getElem?.1 h
     have hl := (List.getElem?_eq_some_iff.1 hj).1
     have := this j (List.mem_range.2 hl)
     rw [nth_eq hj] at this
     simp at this
theorem properB_nodup {l : List Int} (h : properB l = true) : l.Nodup := by
 simp only [properB, List.all_eq_true, List.mem_range, properN, decide_eq_true_eq] at h
 refine List.pairwise_iff_getElem.2 fun i j hi hj hij e => ?_
 obtain ⟨-, -, h3⟩ := h j hj
 have h4 : ¬ nth l j ∈ l.take j := fun hm => by have := bearerF_mem.2 hm; omega
 apply h4
 apply List.mem_iff_getElem?.2
 refine ⟨i, ?_⟩
 rw [List.getElem?_take_of_lt hij, List.getElem?_eq_getElem hi, e, ← List.getElem?_eq_getElem hj, nth_some hj]
theorem belB_spec {m : Mine} {b : Bel} (h : belB m b = true) : 1 ≤ b.worlds.length ∧ b.worlds.length ≤ 24 ∧ 1 ≤ (nth b.worlds 0).tags.length ∧ (nth b.worlds 0).tags.length ≤ 12 ∧
 ∀ i, i < b.worlds.length → worldB m b.worlds (nth b.worlds 0).tags i = true := by
 simp only [belB, Bool.and_eq_true, decide_eq_true_eq, List.all_eq_true, List.mem_range] at h
 exact ⟨h.1.1.1, h.1.1.2, h.1.2.1, h.1.2.2, h.2⟩
theorem worldB_spec {m : Mine} {ws : List World} {first : List Int} {i : Nat} (h : worldB m ws first i = true) : (nth ws i).tags.length = first.length ∧ (nth ws i).whr.length = first.length ∧ properB (nth ws i).tags = true ∧
 ∀ k, k < (nth ws i).tags.length → nth (nth ws i).tags k ∈ first ∧ validB m (nth (nth ws i).whr k) = true := by
 simp only [worldB, Bool.and_eq_true, decide_eq_true_eq, List.all_eq_true, List.mem_range, whoB] at h
 exact ⟨h.1.1.1.1, h.1.1.1.2, h.1.1.2, fun k hk => ⟨bearerF_mem.1 (h.2 k hk).1, (h.2 k hk).2⟩⟩
theorem belB_bearer {m : Mine} {b : Bel} (h : belB m b = true) {tag : Int} (ht : 0 ≤ bearerF (nth b.worlds 0).tags tag) {i : Nat} (hi : i < b.worlds.length) :
 0 ≤ bearerF (nth b.worlds i).tags tag := by
 obtain ⟨h1, h2, h3, h4, h5⟩ := belB_spec h
 obtain ⟨w1, w2, w3, w4⟩ := worldB_spec (h5 i hi)
 apply bearerF_mem.2
 apply Classical.byContradiction
 intro hn
 have := nodup_sub_len (l := tag :: (nth b.worlds i).tags) (l' := (nth b.worlds 0).tags) (List.nodup_cons.2 ⟨hn, properB_nodup w3⟩) (by
  intro x hx
  rcases List.mem_cons.1 hx with e | hx
  · rw [e]; exact bearerF_mem.1 ht
  · obtain ⟨j, hj⟩ := List.mem_iff_getElem?.1 hx
    have := (w4 j (List.getElem?_eq_some_iff.1 hj).1).1
    rwa [nth_eq hj] at this)
 simp only [List.length_cons] at this
 omega
def borneF (m : Mine) (b : Bel) (tag : Int) : Int := if belB m b = false then 6 else if bearerF (nth b.worlds 0).tags tag < 0 then 41 else 0
theorem borne_ok {m : Mine} (h : m.ok) (b : Bel) (hs : b.sz) (tag : Int) : CALL 0 N.ref26_borne [.t m.e, .t b.e, I tag] [] = some (I (borneF m b tag), []) := by
 refine CALL_of K.t_ref26_borne rfl ?_
 have v := belB_ok h b hs
 unfold borneF
 cases hv : belB m b with
 | false =>
   rw [hv] at v
   obtain ⟨ws⟩ := b
   simp (disch := omega) only [go_sem, K.ref26_borne, ↓reduceIte, v]
 | true =>
   rw [hv] at v
   obtain ⟨h1, h2, h3, h4, h5⟩ := belB_spec hv
   have br := bearer_ok (nth b.worlds 0).tags tag (by omega)
   obtain ⟨ws⟩ := b
   simp only at h1 br ⊢
   by_cases c : bearerF (nth ws 0).tags tag < 0
   · simp (disch := omega) only [go_sem, K.ref26_borne, ↓reduceIte, v, br, c, Bool.true_eq_false]
   · simp (disch := omega) only [go_sem, K.ref26_borne, ↓reduceIte, v, br, c, Bool.true_eq_false]
def meetB (a b : Wh) (t : Int) : Bool := (List.range (min a.frm.length b.frm.length)).any fun p => decide (nth a.frm p ≤ t ∧ nth b.frm p ≤ t)
theorem meet_ok (a b : Wh) (t : Int) (ha : a.frm.length ≤ 1000000) : CALL 0 N.ref26_meet [.t a.e, .t b.e, I t] [] = some (B (meetB a b t), []) := by
 refine CALL_of K.t_ref26_meet rfl ?_
 obtain ⟨t1, l1⟩ := a
 obtain ⟨t2, l2⟩ := b
 unfold meetB
 simp only at ha ⊢
 have loop : ∀ x y z : D, exS CALL K.ref26_meet_l1 ⟨[x, y, I t, .bp 0 0, .bp 1 0, z, I 0], [.box [I t1, .t (tL l1)], .box [I t2, .t (tL l2)]]⟩ =
  some (match (List.range (min l1.length l2.length)).find? (fun p => decide (nth l1 p ≤ t ∧ nth l2 p ≤ t)) with
   | some j => (.ret, ⟨[.und, .und, I t, .bp 0 0, .bp 1 0, B true, I j], [.box [I t1, .t (tL l1)], .box [I t2, .t (tL l2)]]⟩)
   | none => (.exit 0, ⟨[.und, .und, I t, .bp 0 0, .bp 1 0, .und, I (min l1.length l2.length : Nat)], [.box [I t1, .t (tL l1)], .box [I t2, .t (tL l2)]]⟩)) := by
  intro x y z
  refine loop_first (fun j => ⟨[.und, .und, I t, .bp 0 0, .bp 1 0, .und, I j], [.box [I t1, .t (tL l1)], .box [I t2, .t (tL l2)]]⟩) (min l1.length l2.length) (fun p => decide (nth l1 p ≤ t ∧ nth l2 p ≤ t)) _ _ rfl ?_ ?_ ?_ (by simp)
  · intro j hj hp
    have hp : ¬ (nth l1 j ≤ t ∧ nth l2 j ≤ t) := of_decide_eq_false hp
    by_cases c : nth l1 j ≤ t
    · simp (disch := omega) only [go_sem, K.ref26_meet_l1b, ↓reduceIte, c]
    · simp (disch := omega) only [go_sem, K.ref26_meet_l1b, ↓reduceIte, c]
  · intro j hj hp
    have hp : nth l1 j ≤ t ∧ nth l2 j ≤ t := of_decide_eq_true hp
    refine ⟨?_, by simp⟩
    simp (disch := omega) only [go_sem, K.ref26_meet_l1b, ↓reduceIte]
  · by_cases h1 : l1.length ≤ l2.length
    · have e : min l1.length l2.length = l1.length := by omega
      rw [e]
      simp (disch := omega) only [go_sem, K.ref26_meet_l1b, ↓reduceIte]
    · have e : min l1.length l2.length = l2.length := by omega
      rw [e]
      simp (disch := omega) only [go_sem, K.ref26_meet_l1b, ↓reduceIte]
 rw [← find_any]
 simp (disch := omega) only [go_sem, K.ref26_meet, ↓reduceIte, loop]
 cases hf : (List.range (min l1.length l2.length)).find? (fun p => decide (nth l1 p ≤ t ∧ nth l2 p ≤ t)) with
 | some j => simp (disch := omega) only [go_sem, ↓reduceIte, Option.isSome]
 | none => simp (disch := omega) only [go_sem, ↓reduceIte, Option.isSome]
def mayB (b : Bel) (person t : Int) (p : Nat) : Bool := (List.range b.worlds.length).any fun i => decide (0 ≤ person ∧ person < (nth b.worlds i).whr.length) && decide ((p : Int) ∈ possF (nth (nth b.worlds i).whr person.toNat) t)
def possB (b : Bel) (person t : Int) : List Int := whereF 64 (mayB b person t)
theorem possible26_ok (b : Bel) (hs : b.sz) (person t : Int) : CALL 0 N.ref26_Possible [.t b.e, I person, I t] [] = some (.t (tL (possB b person t)), []) := by
 refine CALL_of K.t_ref26_Possible rfl ?_
 obtain ⟨h1, h2⟩ := hs
 obtain ⟨ws⟩ := b
 simp only at h1 h2
 have hlen := fun k => whereF_len k (mayB ⟨ws⟩ person t)
 have inner : ∀ (j : Nat), j < 64 → ∀ a c : D, exS CALL K.ref26_Possible_l2 ⟨[a, I person, I t, .bp 0 0, c, .ref 1 0 (whereF j (mayB ⟨ws⟩ person t)).length, I j, I 0], [.box [.t (.sl (ws.map World.e))], .arr 1 false 0 (((whereF j (mayB ⟨ws⟩ person t)).map (T.int .i64)).map .t)]⟩ =
  some (match (List.range ws.length).find? (fun i => decide (0 ≤ person ∧ person < (nth ws i).whr.length) && decide ((j : Int) ∈ possF (nth (nth ws i).whr person.toNat) t)) with
   | some i => (.exit 2, ⟨[.und, I person, I t, .bp 0 0, .und, .ref 1 0 ((whereF j (mayB ⟨ws⟩ person t)).length + 1), I j, I i], [.box [.t (.sl (ws.map World.e))], .arr 1 false 0 (((whereF j (mayB ⟨ws⟩ person t) ++ [(j : Int)]).map (T.int .i64)).map .t)]⟩)
   | none => (.exit 2, ⟨[.und, I person, I t, .bp 0 0, .und, .ref 1 0 (whereF j (mayB ⟨ws⟩ person t)).length, I j, I ws.length], [.box [.t (.sl (ws.map World.e))], .arr 1 false 0 (((whereF j (mayB ⟨ws⟩ person t)).map (T.int .i64)).map .t)]⟩)) := by
  intro j hj a c
  have hlen := hlen j
  refine loop_first (fun i => ⟨[.und, I person, I t, .bp 0 0, .und, .ref 1 0 (whereF j (mayB ⟨ws⟩ person t)).length, I j, I i], [.box [.t (.sl (ws.map World.e))], .arr 1 false 0 (((whereF j (mayB ⟨ws⟩ person t)).map (T.int .i64)).map .t)]⟩) ws.length _ _ _ rfl ?_ ?_ ?_ (by simp)
  · intro i hi hp
    have sz := h2 _ (nth_mem hi)
    generalize hx : nth ws i = x at *
    obtain ⟨tags, whr⟩ := x
    obtain ⟨s1, s2, s3⟩ := sz
    simp only at s1 s2 s3 hp
    generalize whereF j (mayB ⟨ws⟩ person t) = L at *
    by_cases c1 : 0 ≤ person
    · by_cases c2 : person < whr.length
      · have ps := possible25_ok (nth whr person.toNat) t (s3 _ (nth_mem (by omega)))
        have hs := has_ok (possF (nth whr person.toNat) t) j (by
         have := whereF_len (nth whr person.toNat).frm.length (fun j => decide (nth (nth whr person.toNat).frm j ≤ t))
         have := s3 _ (nth_mem (l := whr) (j := person.toNat) (by omega))
         unfold possF; omega)
        simp only [c1, c2, and_self, decide_true, Bool.true_and, decide_eq_false_iff_not] at hp
        simp only [hp, decide_false] at hs
        generalize hy : nth whr person.toNat = y at *
        obtain ⟨time, frm⟩ := y
        simp (disch := omega) only [go_sem, K.ref26_Possible_l2b, ↓reduceIte, hx, hy, ps, hs]
      · simp (disch := omega) only [go_sem, K.ref26_Possible_l2b, ↓reduceIte, hx]
    · simp (disch := omega) only [go_sem, K.ref26_Possible_l2b, ↓reduceIte, hx]
  · intro i hi hp
    have sz := h2 _ (nth_mem hi)
    generalize hx : nth ws i = x at *
    obtain ⟨tags, whr⟩ := x
    obtain ⟨s1, s2, s3⟩ := sz
    simp only [Bool.and_eq_true, decide_eq_true_eq] at s1 s2 s3 hp
    obtain ⟨⟨c1, c2⟩, c3⟩ := hp
    generalize whereF j (mayB ⟨ws⟩ person t) = L at *
    have ps := possible25_ok (nth whr person.toNat) t (s3 _ (nth_mem (by omega)))
    have hs := has_ok (possF (nth whr person.toNat) t) j (by
     have := whereF_len (nth whr person.toNat).frm.length (fun j => decide (nth (nth whr person.toNat).frm j ≤ t))
     have := s3 _ (nth_mem (l := whr) (j := person.toNat) (by omega))
     unfold possF; omega)
    simp only [c3, decide_true] at hs
    generalize hy : nth whr person.toNat = y at *
    obtain ⟨time, frm⟩ := y
    refine ⟨?_, by simp⟩
    simp (disch := omega) only [go_sem, K.ref26_Possible_l2b, ↓reduceIte, hx, hy, ps, hs]
  · generalize whereF j (mayB ⟨ws⟩ person t) = L at *
    simp (disch := omega) only [go_sem, K.ref26_Possible_l2b, ↓reduceIte]
 have loop : ∀ a b c : D, exS CALL K.ref26_Possible_l1 ⟨[a, I person, I t, .bp 0 0, b, .ref 1 0 0, I 0, c], [.box [.t (.sl (ws.map World.e))], .arr 1 false 0 []]⟩ =
  some (.exit 0, ⟨[.und, I person, I t, .bp 0 0, .und, .ref 1 0 (whereF 64 (mayB ⟨ws⟩ person t)).length, I 64, .und], [.box [.t (.sl (ws.map World.e))], .arr 1 false 0 (((whereF 64 (mayB ⟨ws⟩ person t)).map (T.int .i64)).map .t)]⟩) := by
  intro a b c
  refine loop_up (fun j => ⟨[.und, I person, I t, .bp 0 0, .und, .ref 1 0 (whereF j (mayB ⟨ws⟩ person t)).length, I j, .und], [.box [.t (.sl (ws.map World.e))], .arr 1 false 0 (((whereF j (mayB ⟨ws⟩ person t)).map (T.int .i64)).map .t)]⟩) 64 rfl ?_ ?_ (by simp)
  · intro j hj
    have inner := inner j hj
    have hlen := hlen j
    rw [whereF_succ]
    have e : mayB ⟨ws⟩ person t j = ((List.range ws.length).find? (fun i => decide (0 ≤ person ∧ person < (nth ws i).whr.length) && decide ((j : Int) ∈ possF (nth (nth ws i).whr person.toNat) t))).isSome := by rw [find_any]; rfl
    cases hf : (List.range ws.length).find? (fun i => decide (0 ≤ person ∧ person < (nth ws i).whr.length) && decide ((j : Int) ∈ possF (nth (nth ws i).whr person.toNat) t)) with
    | some i =>
      rw [hf] at e inner
      simp only [Option.isSome] at e
      simp (disch := omega) only [go_sem, K.ref26_Possible_l1b, ↓reduceIte, inner, e]
    | none =>
      rw [hf] at e inner
      simp only [Option.isSome] at e
      simp (disch := omega) only [go_sem, K.ref26_Possible_l1b, ↓reduceIte, inner, e, Bool.false_eq_true]
  · simp (disch := omega) only [go_sem, K.ref26_Possible_l1b, ↓reduceIte]
    rfl
 have := hlen 64
 simp (disch := omega) only [go_sem, K.ref26_Possible, ↓reduceIte, loop, possB]
def startWs (m : Mine) (starts : List Int) (t : Int) (j : Nat) : List Wh := (List.range j).map fun i => (startF m (nth starts i) t).1
def startBel (m : Mine) (tags starts : List Int) (t : Int) : Bel × Int :=
 if tags.length = starts.length ∧ 1 ≤ tags.length ∧ tags.length ≤ 12 then
  if properB tags = true then match (List.range tags.length).find? (fun i => !decide ((startF m (nth starts i) t).2 = 0)) with
   | some i => (⟨[]⟩, (startF m (nth starts i) t).2)
   | none => (⟨[⟨tags, startWs m starts t tags.length⟩]⟩, 0)
  else (⟨[]⟩, 41)
 else (⟨[]⟩, 6)
@[go_sem] theorem allS_nil : ([] : List D).all scalarD = true := (rfl)
@[go_sem] theorem allS_cons (d : D) (r : List D) : (d :: r).all scalarD = (scalarD d && r.all scalarD) := (rfl)
@[go_sem] theorem scalarD_agg (cs : List T) : scalarD (.t (.agg cs)) = false := (rfl)
@[go_sem] theorem scalarD_int (k : IntKind) (n : Int) : scalarD (.t (.int k n)) = true := (rfl)
@[go_sem] theorem set_wh (l : List Wh) (k : Nat) (a : Int) (b : List Int) : (List.map D.t (List.map Wh.e l)).set k (D.t (T.agg [tI a, tL b])) = List.map D.t (List.map Wh.e (l.set k ⟨a, b⟩)) := by
 rw [List.map_set, List.map_set]
def seeW (m : Mine) (tag : Int) (l : List Int) (a b : Int) (x : World) : Wh × Int := seeF m (nth x.whr (bearerF x.tags tag).toNat) l a b
def putW (tag : Int) (x : World) (w : Wh) : World := ⟨x.tags, x.whr.set (bearerF x.tags tag).toNat w⟩
def stepW (tag : Int) (r : Wh × Int) (x : World) (out : List World) : List World :=
 if r.2 = 43 then out else out ++ [if r.2 = 0 then putW tag x r.1 else x]
def seeNb (m : Mine) (tag : Int) (l : List Int) (a b : Int) (ws : List World) : Nat → List World
 | 0 => []
 | j + 1 => stepW tag (seeW m tag l a b (nth ws j)) (nth ws j) (seeNb m tag l a b ws j)
theorem stepW_len (tag : Int) (r : Wh × Int) (x : World) (out : List World) : (stepW tag r x out).length ≤ out.length + 1 := by
 unfold stepW; split <;> simp
theorem seeNb_len (m : Mine) (tag : Int) (l : List Int) (a b : Int) (ws : List World) : ∀ j, (seeNb m tag l a b ws j).length ≤ j
 | 0 => by simp [seeNb]
 | j + 1 => by
   have := seeNb_len m tag l a b ws j
   have := stepW_len tag (seeW m tag l a b (nth ws j)) (nth ws j) (seeNb m tag l a b ws j)
   simp only [seeNb]; omega
abbrev seeH (m : Mine) (ws out : List World) : Heap := [.box (mineCells m), .box [.t (.sl (ws.map World.e))], .box [.nil], .box [.ref 4 0 out.length], .arr 2 false 0 ((out.map World.e).map .t)]
theorem see_round {m : Mine} (h : m.ok) (ws : List World) (hw : ws.length ≤ 1000000) (tag : Int) (l : List Int) (hp : l.length ≤ 1000000) (a b : Int) (i : Nat) (hi : i < ws.length) (hs : (nth ws i).sz)
 (hb : 0 ≤ bearerF (nth ws i).tags tag) (hb2 : bearerF (nth ws i).tags tag < (nth ws i).whr.length) (out : List World) (ho : out.length ≤ 1000000) :
 ((seeW m tag l a b (nth ws i)).2 ≠ 6 ∧ (seeW m tag l a b (nth ws i)).2 ≠ 8 → roundC true [0, 1, 9, 10, 13, 14, 15, 16, 17, 18] 5 (exS CALL K.ref26_See_l1b ⟨[.und, .und, I tag, .t (tL l), I a, I b, .bp 0 0, .bp 1 0, .bp 2 0, .und, .und, .bp 3 0, I i, .und, .und, .und, .und, .und, .und], seeH m ws out⟩) =
   some ⟨[.und, .und, I tag, .t (tL l), I a, I b, .bp 0 0, .bp 1 0, .bp 2 0, .und, .und, .bp 3 0, I (i + 1), .und, .und, .und, .und, .und, .und], seeH m ws (stepW tag (seeW m tag l a b (nth ws i)) (nth ws i) out)⟩) ∧
 ((seeW m tag l a b (nth ws i)).2 = 6 ∨ (seeW m tag l a b (nth ws i)).2 = 8 → ∃ vs H, exS CALL K.ref26_See_l1b ⟨[.und, .und, I tag, .t (tL l), I a, I b, .bp 0 0, .bp 1 0, .bp 2 0, .und, .und, .bp 3 0, I i, .und, .und, .und, .und, .und, .und], seeH m ws out⟩ =
   some (.ret, ⟨vs, H⟩) ∧ vs[8]? = some (.bp 2 0) ∧ vs[9]? = some (I (seeW m tag l a b (nth ws i)).2) ∧ H[2]? = some (.box [.t (.sl (ws.map World.e))])) := by
 unfold seeW stepW putW
 have c1 := copyWorld_ok1 (nth ws i) hs
 have br := bearer_ok (nth ws i).tags tag (by have := hs.1; omega)
 have s3 := hs.2.2 _ (nth_mem (l := (nth ws i).whr) (j := (bearerF (nth ws i).tags tag).toNat) (by omega))
 have se := see_ok h (nth (nth ws i).whr (bearerF (nth ws i).tags tag).toNat) s3 l hp a b
 generalize hx : nth ws i = x at *
 obtain ⟨tags, whr⟩ := x
 simp only at c1 br s3 se hb hb2 ⊢
 generalize bearerF tags tag = k at *
 generalize hy : nth whr k.toNat = y at *
 generalize seeF m y l a b = r at *
 obtain ⟨⟨time, frm⟩, e⟩ := r
 obtain ⟨t0, f0⟩ := y
 obtain ⟨s1, s2, -⟩ := hs
 simp only at s1 s2 s3 se ⊢
 constructor
 · rintro ⟨n6, n8⟩
   by_cases e43 : e = 43
   · subst e43
     simp (disch := omega) only [go_sem, K.ref26_See_l1b, ↓reduceIte, seeH, hx, hy, c1, br, se, Nat.reduceAdd, Nat.reduceSub]
   · by_cases e0 : e = 0
     · subst e0
       simp (disch := omega) only [go_sem, K.ref26_See_l1b, ↓reduceIte, seeH, hx, hy, c1, br, se, Nat.reduceAdd, Nat.reduceSub]
     · simp (disch := omega) only [go_sem, K.ref26_See_l1b, ↓reduceIte, seeH, hx, hy, c1, br, se, Nat.reduceAdd, Nat.reduceSub]
 · rintro (h68 | h68) <;> subst h68
   · simp (disch := omega) only [go_sem, K.ref26_See_l1b, ↓reduceIte, seeH, hx, hy, c1, br, se, Nat.reduceAdd, Nat.reduceSub]
     exact ⟨_, _, rfl, rfl, rfl, rfl⟩
   · simp (disch := omega) only [go_sem, K.ref26_See_l1b, ↓reduceIte, seeH, hx, hy, c1, br, se, Nat.reduceAdd, Nat.reduceSub]
     exact ⟨_, _, rfl, rfl, rfl, rfl⟩
def seeBad (m : Mine) (tag : Int) (l : List Int) (a b : Int) (ws : List World) (j : Nat) : Bool := decide ((seeW m tag l a b (nth ws j)).2 = 6 ∨ (seeW m tag l a b (nth ws j)).2 = 8)
def seeBel (m : Mine) (b : Bel) (tag : Int) (l : List Int) (a c : Int) : Bel × Int :=
 if borneF m b tag ≠ 0 then (b, borneF m b tag) else match (List.range b.worlds.length).find? (seeBad m tag l a c b.worlds) with
  | some i => (b, (seeW m tag l a c (nth b.worlds i)).2)
  | none => if (seeNb m tag l a c b.worlds b.worlds.length).length = 0 then (b, 43) else (⟨seeNb m tag l a c b.worlds b.worlds.length⟩, 0)
theorem seeBel_ok {m : Mine} (h : m.ok) (b : Bel) (hs : b.sz) (tag : Int) (l : List Int) (hp : l.length ≤ 1000000) (a c : Int) :
 CALL 0 N.ref26_See [.t m.e, .t b.e, I tag, .t (tL l), I a, I c] [] = some (.tup [.t (seeBel m b tag l a c).1.e, I (seeBel m b tag l a c).2], []) := by
 refine CALL_of K.t_ref26_See rfl ?_
 have cb := copyBel_ok b hs
 have bo := borne_ok h b hs tag
 unfold seeBel
 by_cases e0 : borneF m b tag = 0
 · have hb : belB m b = true := by
    unfold borneF at e0
    by_cases hb : belB m b = true
    · exact hb
    · rw [if_pos (by simpa using hb)] at e0; omega
   have ht : 0 ≤ bearerF (nth b.worlds 0).tags tag := by
    unfold borneF at e0
    rw [if_neg (by simp [hb])] at e0
    by_cases ht : bearerF (nth b.worlds 0).tags tag < 0
    · rw [if_pos ht] at e0; omega
    · omega
   have bb : ∀ i, i < b.worlds.length → 0 ≤ bearerF (nth b.worlds i).tags tag ∧ bearerF (nth b.worlds i).tags tag < (nth b.worlds i).whr.length := fun i hi => by
    obtain ⟨-, -, -, -, h5⟩ := belB_spec hb
    obtain ⟨w1, w2, -⟩ := worldB_spec (h5 i hi)
    have b1 := belB_bearer hb ht (i := i) hi
    have b2 := (bearerF_lt b1).1
    exact ⟨b1, by omega⟩
   rw [e0] at bo
   obtain ⟨ws⟩ := b
   obtain ⟨s1, s2⟩ := hs
   simp only at s1 s2 bb cb bo ⊢
   have ln := seeNb_len m tag l a c ws
   have loop := fun x y z u v w p q r => loop_find (gc := true) (dead := [0, 1, 9, 10, 13, 14, 15, 16, 17, 18]) (c := K.ref26_See_l1b)
    (vs := [x, y, I tag, .t (tL l), I a, I c, .bp 0 0, .bp 1 0, .bp 2 0, z, u, .bp 3 0, I 0, v, w, p, q, r, .und]) (H := seeH m ws [])
    (fun j => ⟨[.und, .und, I tag, .t (tL l), I a, I c, .bp 0 0, .bp 1 0, .bp 2 0, .und, .und, .bp 3 0, I j, .und, .und, .und, .und, .und, .und], seeH m ws (seeNb m tag l a c ws j)⟩) ws.length (seeBad m tag l a c ws)
    (fun j q => q.1 = .ret ∧ q.2.vs[8]? = some (.bp 2 0) ∧ q.2.vs[9]? = some (I (seeW m tag l a c (nth ws j)).2) ∧ q.2.H[2]? = some (.box [.t (.sl (ws.map World.e))]))
    (.exit 0, ⟨[.und, .und, I tag, .t (tL l), I a, I c, .bp 0 0, .bp 1 0, .bp 2 0, .und, .und, .bp 3 0, I ws.length, .und, .und, .und, .und, .und, .und], seeH m ws (seeNb m tag l a c ws ws.length)⟩) rfl
    (fun j hj hq => by
     have := ln j
     have hq : ¬ ((seeW m tag l a c (nth ws j)).2 = 6 ∨ (seeW m tag l a c (nth ws j)).2 = 8) := by simpa [seeBad] using hq
     obtain ⟨b1, b2⟩ := bb j hj
     exact (see_round h ws s1 tag l hp a c j hj (s2 _ (nth_mem hj)) b1 b2 (seeNb m tag l a c ws j) (by omega)).1 (by omega))
    (fun j hj hq => by
     have := ln j
     have hq : (seeW m tag l a c (nth ws j)).2 = 6 ∨ (seeW m tag l a c (nth ws j)).2 = 8 := by simpa [seeBad] using hq
     obtain ⟨b1, b2⟩ := bb j hj
     obtain ⟨vs, H, q1, q2⟩ := (see_round h ws s1 tag l hp a c j hj (s2 _ (nth_mem hj)) b1 b2 (seeNb m tag l a c ws j) (by omega)).2 hq
     exact ⟨_, q1, by simp, rfl, q2⟩)
    (by
     have := ln ws.length
     generalize seeNb m tag l a c ws ws.length = L at *
     simp (disch := omega) only [go_sem, K.ref26_See_l1b, ↓reduceIte, seeH, Nat.reduceAdd, Nat.reduceSub]) (by simp)
   have loop' : ∀ x y z u v w p q r, _ ∨ _ := loop
   clear loop
   rcases loop' (.t m.e) (.t (Bel.e ⟨ws⟩)) (I 0) (I 0) .und .und .und .und .und with ⟨e1, e2⟩ | ⟨j, ⟨x, vs, H⟩, e1, e2, e3, e4, e5, e6⟩
   · have e2 : exS CALL K.ref26_See_l1 _ = _ := e2
     simp only [seeH, List.map_nil, List.length_nil] at e2
     have := ln ws.length
     rw [e1]
     generalize seeNb m tag l a c ws ws.length = L at *
     by_cases L0 : L.length = 0
     · simp (disch := omega) only [go_sem, K.ref26_See, ↓reduceIte, cb, bo, e2, L0, Nat.reduceAdd, Nat.reduceSub, ne_eq, not_true_eq_false]
     · simp (disch := omega) only [go_sem, K.ref26_See, ↓reduceIte, cb, bo, e2, L0, Nat.reduceAdd, Nat.reduceSub, ne_eq, not_true_eq_false]
   · have e2 : exS CALL K.ref26_See_l1 _ = _ := e2
     simp only [seeH, List.map_nil, List.length_nil] at e2
     rw [e1]
     simp only at e3 e4 e5 e6
     subst e3
     simp (disch := omega) only [go_sem, K.ref26_See, ↓reduceIte, cb, bo, e2, Nat.reduceAdd, Nat.reduceSub, ne_eq, not_true_eq_false, e4, e5, e6, List.take_zero]
 · obtain ⟨ws⟩ := b
   simp (disch := omega) only [go_sem, K.ref26_See, ↓reduceIte, cb, bo, e0, ne_eq, not_false_eq_true]
def absW (m : Mine) (tag : Int) (l : List Int) (a b bl : Int) (x : World) : Wh × Int := absF m (nth x.whr (bearerF x.tags tag).toNat) l a b bl
def stepA (tag : Int) (r : Wh × Int) (x : World) (out : List World) : List World := out ++ [if r.2 = 0 then putW tag x r.1 else x]
def absNb (m : Mine) (tag : Int) (l : List Int) (a b bl : Int) (ws : List World) : Nat → List World
 | 0 => []
 | j + 1 => stepA tag (absW m tag l a b bl (nth ws j)) (nth ws j) (absNb m tag l a b bl ws j)
theorem absNb_len (m : Mine) (tag : Int) (l : List Int) (a b bl : Int) (ws : List World) : ∀ j, (absNb m tag l a b bl ws j).length = j
 | 0 => rfl
 | j + 1 => by
   simp only [absNb, stepA, List.length_append, absNb_len m tag l a b bl ws j, List.length_singleton]
theorem abs_round {m : Mine} (h : m.ok) (ws : List World) (hw : ws.length ≤ 1000000) (tag : Int) (l : List Int) (hp : l.length ≤ 1000000) (a b bl : Int) (i : Nat) (hi : i < ws.length) (hs : (nth ws i).sz)
 (hb : 0 ≤ bearerF (nth ws i).tags tag) (hb2 : bearerF (nth ws i).tags tag < (nth ws i).whr.length) (out : List World) (ho : out.length ≤ 1000000) :
 ((absW m tag l a b bl (nth ws i)).2 ≠ 6 ∧ (absW m tag l a b bl (nth ws i)).2 ≠ 8 → roundC true [0, 1, 10, 11, 14, 15, 16, 17] 5 (exS CALL K.ref26_Absent_l1b ⟨[.und, .und, I tag, .t (tL l), I a, I b, I bl, .bp 0 0, .bp 1 0, .bp 2 0, .und, .und, .bp 3 0, I i, .und, .und, .und, .und], seeH m ws out⟩) =
   some ⟨[.und, .und, I tag, .t (tL l), I a, I b, I bl, .bp 0 0, .bp 1 0, .bp 2 0, .und, .und, .bp 3 0, I (i + 1), .und, .und, .und, .und], seeH m ws (stepA tag (absW m tag l a b bl (nth ws i)) (nth ws i) out)⟩) ∧
 ((absW m tag l a b bl (nth ws i)).2 = 6 ∨ (absW m tag l a b bl (nth ws i)).2 = 8 → ∃ vs H, exS CALL K.ref26_Absent_l1b ⟨[.und, .und, I tag, .t (tL l), I a, I b, I bl, .bp 0 0, .bp 1 0, .bp 2 0, .und, .und, .bp 3 0, I i, .und, .und, .und, .und], seeH m ws out⟩ =
   some (.ret, ⟨vs, H⟩) ∧ vs[9]? = some (.bp 2 0) ∧ vs[10]? = some (I (absW m tag l a b bl (nth ws i)).2) ∧ H[2]? = some (.box [.t (.sl (ws.map World.e))])) := by
 unfold absW stepA putW
 have c1 := copyWorld_ok1 (nth ws i) hs
 have br := bearer_ok (nth ws i).tags tag (by have := hs.1; omega)
 have s3 := hs.2.2 _ (nth_mem (l := (nth ws i).whr) (j := (bearerF (nth ws i).tags tag).toNat) (by omega))
 have se := abs_ok h (nth (nth ws i).whr (bearerF (nth ws i).tags tag).toNat) s3 l hp a b bl
 generalize hx : nth ws i = x at *
 obtain ⟨tags, whr⟩ := x
 simp only at c1 br s3 se hb hb2 ⊢
 generalize bearerF tags tag = k at *
 generalize hy : nth whr k.toNat = y at *
 generalize absF m y l a b bl = r at *
 obtain ⟨⟨time, frm⟩, e⟩ := r
 obtain ⟨t0, f0⟩ := y
 obtain ⟨s1, s2, -⟩ := hs
 simp only at s1 s2 s3 se ⊢
 constructor
 · rintro ⟨n6, n8⟩
   by_cases e0 : e = 0
   · subst e0
     simp (disch := omega) only [go_sem, K.ref26_Absent_l1b, ↓reduceIte, seeH, hx, hy, c1, br, se, Nat.reduceAdd, Nat.reduceSub]
   · simp (disch := omega) only [go_sem, K.ref26_Absent_l1b, ↓reduceIte, seeH, hx, hy, c1, br, se, Nat.reduceAdd, Nat.reduceSub]
 · rintro (h68 | h68) <;> subst h68
   · simp (disch := omega) only [go_sem, K.ref26_Absent_l1b, ↓reduceIte, seeH, hx, hy, c1, br, se, Nat.reduceAdd, Nat.reduceSub]
     exact ⟨_, _, rfl, rfl, rfl, rfl⟩
   · simp (disch := omega) only [go_sem, K.ref26_Absent_l1b, ↓reduceIte, seeH, hx, hy, c1, br, se, Nat.reduceAdd, Nat.reduceSub]
     exact ⟨_, _, rfl, rfl, rfl, rfl⟩
def absBad (m : Mine) (tag : Int) (l : List Int) (a b bl : Int) (ws : List World) (j : Nat) : Bool := decide ((absW m tag l a b bl (nth ws j)).2 = 6 ∨ (absW m tag l a b bl (nth ws j)).2 = 8)
def absBel (m : Mine) (b : Bel) (tag : Int) (l : List Int) (a c bl : Int) : Bel × Int :=
 if borneF m b tag ≠ 0 then (b, borneF m b tag) else match (List.range b.worlds.length).find? (absBad m tag l a c bl b.worlds) with
  | some i => (b, (absW m tag l a c bl (nth b.worlds i)).2)
  | none => (⟨absNb m tag l a c bl b.worlds b.worlds.length⟩, 0)
theorem borne_0 {m : Mine} {b : Bel} {tag : Int} (e0 : borneF m b tag = 0) : belB m b = true ∧ ∀ i, i < b.worlds.length → 0 ≤ bearerF (nth b.worlds i).tags tag ∧ bearerF (nth b.worlds i).tags tag < (nth b.worlds i).whr.length := by
 have hb : belB m b = true := by
  unfold borneF at e0
  by_cases hb : belB m b = true
  · exact hb
  · rw [if_pos (by simpa using hb)] at e0; omega
 have ht : 0 ≤ bearerF (nth b.worlds 0).tags tag := by
  unfold borneF at e0
  rw [if_neg (by simp [hb])] at e0
  by_cases ht : bearerF (nth b.worlds 0).tags tag < 0
  · rw [if_pos ht] at e0; omega
  · omega
 refine ⟨hb, fun i hi => ?_⟩
 obtain ⟨-, -, -, -, h5⟩ := belB_spec hb
 obtain ⟨w1, w2, -⟩ := worldB_spec (h5 i hi)
 have b1 := belB_bearer hb ht (i := i) hi
 have b2 := (bearerF_lt b1).1
 exact ⟨b1, by omega⟩
theorem absBel_ok {m : Mine} (h : m.ok) (b : Bel) (hs : b.sz) (tag : Int) (l : List Int) (hp : l.length ≤ 1000000) (a c bl : Int) :
 CALL 0 N.ref26_Absent [.t m.e, .t b.e, I tag, .t (tL l), I a, I c, I bl] [] = some (.tup [.t (absBel m b tag l a c bl).1.e, I (absBel m b tag l a c bl).2], []) := by
 refine CALL_of K.t_ref26_Absent rfl ?_
 have cb := copyBel_ok b hs
 have bo := borne_ok h b hs tag
 unfold absBel
 by_cases e0 : borneF m b tag = 0
 · obtain ⟨hb, bb⟩ := borne_0 e0
   rw [e0] at bo
   obtain ⟨ws⟩ := b
   obtain ⟨s1, s2⟩ := hs
   simp only at s1 s2 bb cb bo ⊢
   have ln := absNb_len m tag l a c bl ws
   have loop := fun x y u v w p q r => loop_find (gc := true) (dead := [0, 1, 10, 11, 14, 15, 16, 17]) (c := K.ref26_Absent_l1b)
    (vs := [x, y, I tag, .t (tL l), I a, I c, I bl, .bp 0 0, .bp 1 0, .bp 2 0, u, v, .bp 3 0, I 0, w, p, q, r]) (H := seeH m ws [])
    (fun j => ⟨[.und, .und, I tag, .t (tL l), I a, I c, I bl, .bp 0 0, .bp 1 0, .bp 2 0, .und, .und, .bp 3 0, I j, .und, .und, .und, .und], seeH m ws (absNb m tag l a c bl ws j)⟩) ws.length (absBad m tag l a c bl ws)
    (fun j q => q.1 = .ret ∧ q.2.vs[9]? = some (.bp 2 0) ∧ q.2.vs[10]? = some (I (absW m tag l a c bl (nth ws j)).2) ∧ q.2.H[2]? = some (.box [.t (.sl (ws.map World.e))]))
    (.exit 0, ⟨[.und, .und, I tag, .t (tL l), I a, I c, I bl, .bp 0 0, .bp 1 0, .bp 2 0, .und, .und, .bp 3 0, I ws.length, .und, .und, .und, .und], seeH m ws (absNb m tag l a c bl ws ws.length)⟩) rfl
    (fun j hj hq => by
     have := ln j
     have hq : ¬ ((absW m tag l a c bl (nth ws j)).2 = 6 ∨ (absW m tag l a c bl (nth ws j)).2 = 8) := by simpa [absBad] using hq
     obtain ⟨b1, b2⟩ := bb j hj
     exact (abs_round h ws s1 tag l hp a c bl j hj (s2 _ (nth_mem hj)) b1 b2 (absNb m tag l a c bl ws j) (by omega)).1 (by omega))
    (fun j hj hq => by
     have := ln j
     have hq : (absW m tag l a c bl (nth ws j)).2 = 6 ∨ (absW m tag l a c bl (nth ws j)).2 = 8 := by simpa [absBad] using hq
     obtain ⟨b1, b2⟩ := bb j hj
     obtain ⟨vs, H, q1, q2⟩ := (abs_round h ws s1 tag l hp a c bl j hj (s2 _ (nth_mem hj)) b1 b2 (absNb m tag l a c bl ws j) (by omega)).2 hq
     exact ⟨_, q1, by simp, rfl, q2⟩)
    (by
     have := ln ws.length
     generalize absNb m tag l a c bl ws ws.length = L at *
     simp (disch := omega) only [go_sem, K.ref26_Absent_l1b, ↓reduceIte, seeH, Nat.reduceAdd, Nat.reduceSub]) (by simp)
   rcases loop (.t m.e) (.t (Bel.e ⟨ws⟩)) (I 0) (I 0) .und .und .und .und with ⟨e1, e2⟩ | ⟨j, ⟨x, vs, H⟩, e1, e2, e3, e4, e5, e6⟩
   · have e2 : exS CALL K.ref26_Absent_l1 _ = _ := e2
     simp only [seeH, List.map_nil, List.length_nil] at e2
     have := ln ws.length
     rw [e1]
     generalize absNb m tag l a c bl ws ws.length = L at *
     simp (disch := omega) only [go_sem, K.ref26_Absent, ↓reduceIte, cb, bo, e2, Nat.reduceAdd, Nat.reduceSub, ne_eq, not_true_eq_false]
   · have e2 : exS CALL K.ref26_Absent_l1 _ = _ := e2
     simp only [seeH, List.map_nil, List.length_nil] at e2
     rw [e1]
     simp only at e3 e4 e5 e6
     subst e3
     simp (disch := omega) only [go_sem, K.ref26_Absent, ↓reduceIte, cb, bo, e2, Nat.reduceAdd, Nat.reduceSub, ne_eq, not_true_eq_false, e4, e5, e6, List.take_zero]
 · obtain ⟨ws⟩ := b
   simp (disch := omega) only [go_sem, K.ref26_Absent, ↓reduceIte, cb, bo, e0, ne_eq, not_false_eq_true]
theorem loop_inv {gc : Bool} {dead : List Nat} {c : C} {vs : List D} {H : Heap} (P : Nat → St → Prop) (n : Nat) (Q : Ex × St → Prop) (h0 : P 0 ⟨dropV dead vs, H⟩)
 (hs : ∀ j st, j < n → P j st → ∃ st', roundC gc dead st.H.length (exS CALL c st) = some st' ∧ P (j + 1) st')
 (he : ∀ st, P n st → ∃ q, exS CALL c st = some q ∧ q.1 ≠ .normal ∧ Q q) : ∃ q, exS CALL (.loop gc dead c) ⟨vs, H⟩ = some q ∧ Q q := by
 have key : ∀ (k j : Nat) (st : St), j + k = n → P j st → ∃ q, loopC gc dead (exS CALL c) st = some q ∧ Q q := by
  intro k
  induction k with
  | zero =>
    intro j st hj hp
    obtain ⟨q, h1, h2, h3⟩ := he st (by rw [← hj]; exact hp)
    exact ⟨q, loopC_exit h1 h2, h3⟩
  | succ k ih =>
    intro j st hj hp
    obtain ⟨st', h1, h2⟩ := hs j st (by omega) hp
    obtain ⟨q, h3, h4⟩ := ih (j + 1) st' (by omega) h2
    exact ⟨q, loopC_step h1 h3, h4⟩
 exact key n 0 _ (by omega) h0
abbrev ints (l : List Int) : List D := (l.map (T.int .i64)).map .t
abbrev whs (l : List Wh) : List D := (l.map Wh.e).map .t
def tidyK (out : List World) (x : World) : Nat := match (List.range out.length).find? (fun k => !lessB (nth out k).tags x.tags) with
 | some k => k
 | none => out.length
theorem tidyK_le (out : List World) (x : World) : tidyK out x ≤ out.length := by
 unfold tidyK
 split
 · rename_i k h; exact Nat.le_of_lt (find_lt h).1
 · exact Nat.le_refl _
def joinN (a b : List Wh) : Nat → List Wh
 | 0 => a
 | p + 1 => (joinN a b p).set p (joinF (nth a p) (nth b p)).1
theorem joinN_len (a b : List Wh) : ∀ p, (joinN a b p).length = a.length
 | 0 => rfl
 | p + 1 => by simp only [joinN, List.length_set, joinN_len a b p]
theorem joinN_nth (a b : List Wh) : ∀ p q, p ≤ q → nth (joinN a b p) q = nth a q
 | 0, q, _ => rfl
 | p + 1, q, h => by
   have e : nth ((joinN a b p).set p (joinF (nth a p) (nth b p)).1) q = nth (joinN a b p) q := by
    unfold nth; rw [List.getD_eq_getElem?_getD, List.getElem?_set_ne (by omega), ← List.getD_eq_getElem?_getD]
   simp only [joinN, e]
   exact joinN_nth a b p q (by omega)
def joinWs (a b : List Wh) : List Wh := joinN a b (min a.length b.length)
def tidy1 (out : List World) (x : World) : List World :=
 if tidyK out x < out.length ∧ (nth out (tidyK out x)).tags = x.tags then out.set (tidyK out x) ⟨x.tags, joinWs (nth out (tidyK out x)).whr x.whr⟩
 else out.take (tidyK out x) ++ [x] ++ out.drop (tidyK out x)
def tidyN (l : List World) : Nat → List World
 | 0 => []
 | j + 1 => tidy1 (tidyN l j) (nth l j)
def tidyF (l : List World) : List World := tidyN l l.length
structure Rp (H : Heap) (id : Nat) (es : List D) (fa fb : Nat → Nat) (out : List World) : Prop where
 arr : H[id]? = some (.arr 2 false 0 es)
 len : es.length = out.length
 el : ∀ j, j < out.length → es[j]? = some (.agg [.ref (fa j) 0 (nth out j).tags.length, .ref (fb j) 0 (nth out j).whr.length])
 ha : ∀ j, j < out.length → H[fa j]? = some (.arr 1 false 0 (ints (nth out j).tags))
 hb : ∀ j, j < out.length → H[fb j]? = some (.arr 2 false 0 (whs (nth out j).whr))
 na : ∀ j, j < out.length → fa j ≠ id
 nb : ∀ j, j < out.length → fb j ≠ id
 nab : ∀ i j, i < out.length → j < out.length → fa i ≠ fb j
 nbb : ∀ i j, i < out.length → j < out.length → i ≠ j → fb i ≠ fb j
def Rep (H : Heap) (v : D) (out : List World) : Prop := (v = .nil ∧ out = []) ∨ ∃ id es fa fb, v = .ref id 0 out.length ∧ 0 < out.length ∧ Rp H id es fa fb out
theorem tidy_l2 (l : List World) (i : Nat) (hi : i < l.length) (out : List World) (ho : out.length ≤ 1000000) (hso : ∀ x ∈ out, x.sz) (hsx : (nth l i).sz) (H : Heap) (v : D) (hr : Rep H v out) (a b : D) :
 exS CALL K.ref26_Tidy_l2 ⟨[.t (.sl (l.map World.e)), a, v, I i, I 0, b], H⟩ = some (.exit 2, ⟨[.t (.sl (l.map World.e)), .und, v, I i, I (tidyK out (nth l i)), .und], H⟩) := by
 rcases hr with ⟨rfl, rfl⟩ | ⟨id, es, fa, fb, rfl, h0, hr⟩
 · have : tidyK [] (nth l i) = 0 := rfl
   rw [this]
   refine loop_is (loopC_exit ?_ (by simp))
   simp (disch := omega) only [go_sem, K.ref26_Tidy_l2b, ↓reduceIte, Nat.reduceAdd, Nat.reduceSub]
 · have key : exS CALL K.ref26_Tidy_l2 ⟨[.t (.sl (l.map World.e)), a, .ref id 0 out.length, I i, I 0, b], H⟩ = some (match (List.range out.length).find? (fun k => !lessB (nth out k).tags (nth l i).tags) with
    | some k => (.exit 2, ⟨[.t (.sl (l.map World.e)), .und, .ref id 0 out.length, I i, I k, .und], H⟩)
    | none => (.exit 2, ⟨[.t (.sl (l.map World.e)), .und, .ref id 0 out.length, I i, I out.length, .und], H⟩)) := by
    refine loop_first (fun k => ⟨[.t (.sl (l.map World.e)), .und, .ref id 0 out.length, I i, I k, .und], H⟩) out.length _ _ _ rfl ?_ ?_ ?_ (by simp)
    · intro k hk hp
      have hp : lessB (nth out k).tags (nth l i).tags = true := by simpa using hp
      have s1 := (hso _ (nth_mem hk)).1
      have s2 := hsx.1
      have ls := less_ok (nth out k).tags (nth l i).tags s1 s2
      have e1 := hr.arr
      have e2 := hr.len
      have e3 := hr.el k hk
      have e4 := hr.ha k hk
      generalize nth out k = y at *
      obtain ⟨ta, wa⟩ := y
      generalize hx : nth l i = x at *
      obtain ⟨tb, wb⟩ := x
      simp only at s1 s2 ls e3 e4 hp
      simp (disch := omega) only [go_sem, K.ref26_Tidy_l2b, ↓reduceIte, Nat.reduceAdd, Nat.reduceSub, e1, e2, e3, e4, hx, ls, hp]
      done
    · intro k hk hp
      have hp : lessB (nth out k).tags (nth l i).tags = false := by simpa using hp
      have s1 := (hso _ (nth_mem hk)).1
      have s2 := hsx.1
      have ls := less_ok (nth out k).tags (nth l i).tags s1 s2
      have e1 := hr.arr
      have e2 := hr.len
      have e3 := hr.el k hk
      have e4 := hr.ha k hk
      generalize nth out k = y at *
      obtain ⟨ta, wa⟩ := y
      generalize hx : nth l i = x at *
      obtain ⟨tb, wb⟩ := x
      simp only at s1 s2 ls e3 e4 hp
      refine ⟨?_, by simp⟩
      simp (disch := omega) only [go_sem, K.ref26_Tidy_l2b, ↓reduceIte, Nat.reduceAdd, Nat.reduceSub, e1, e2, e3, e4, hx, ls, hp]
      done
    · simp (disch := omega) only [go_sem, K.ref26_Tidy_l2b, ↓reduceIte, Nat.reduceAdd, Nat.reduceSub]
   rw [key]
   unfold tidyK
   cases (List.range out.length).find? (fun k => !lessB (nth out k).tags (nth l i).tags) <;> rfl
theorem tidy_l3 (l : List World) (i : Nat) (hi : i < l.length) (out : List World) (ho : out.length ≤ 1000000) (hso : ∀ x ∈ out, x.sz) (hsx : (nth l i).sz) (H : Heap) (id : Nat) (es : List D) (fa fb : Nat → Nat)
 (hr : Rp H id es fa fb out) (k : Nat) (hk : k < out.length) (a : D) :
 exS CALL K.ref26_Tidy_l3 ⟨[.t (.sl (l.map World.e)), a, .ref id 0 out.length, I i, I k, I 0], H⟩ =
 some (.exit 4, ⟨[.t (.sl (l.map World.e)), .und, .ref id 0 out.length, I i, I k, I ((min (nth out k).whr.length (nth l i).whr.length : Nat) : Int)], H.set (fb k) (.arr 2 false 0 (whs (joinWs (nth out k).whr (nth l i).whr)))⟩) := by
 have e1 := hr.arr
 have e2 := hr.len
 have e3 := hr.el k hk
 have e5 := hr.hb k hk
 have e6 := hr.nb k hk
 have e7 := hp_lt e5
 obtain ⟨s1, s2, s3⟩ := hso _ (nth_mem hk)
 obtain ⟨x1, x2, x3⟩ := hsx
 generalize nth out k = y at *
 obtain ⟨ta, wa⟩ := y
 generalize hx : nth l i = x at *
 obtain ⟨tb, wb⟩ := x
 simp only at s1 s2 s3 x1 x2 x3 e3 e5 ⊢
 have jl := joinN_len wa wb
 have q1 : ∀ o, (H.set (fb k) o)[id]? = H[id]? := fun o => hp_set_ne e6
 have q2 : ∀ o, (H.set (fb k) o)[fb k]? = some o := fun o => hp_set_get e7
 refine loop_up (fun p => ⟨[.t (.sl (l.map World.e)), .und, .ref id 0 out.length, I i, I k, I p], H.set (fb k) (.arr 2 false 0 (whs (joinN wa wb p)))⟩) (min wa.length wb.length) ?_ ?_ ?_ (by simp)
 · show (⟨_, H⟩ : St) = ⟨_, H.set (fb k) (.arr 2 false 0 (whs wa))⟩
   rw [set_self e5]; rfl
 · intro p hp
   have jp := jl p
   have jn := joinN_nth wa wb p p (Nat.le_refl _)
   have jo := join_ok (nth wa p) (nth wb p) (s3 _ (nth_mem (by omega)))
   have hj : joinN wa wb (p + 1) = (joinN wa wb p).set p (joinF (nth wa p) (nth wb p)).1 := rfl
   rw [hj]
   generalize joinN wa wb p = J at *
   generalize hu : nth wb p = u at *
   generalize nth wa p = w at *
   generalize joinF w u = r at *
   obtain ⟨⟨rt, rf⟩, re⟩ := r
   simp only at jo ⊢
   simp (disch := omega) only [go_sem, K.ref26_Tidy_l3b, ↓reduceIte, Nat.reduceAdd, Nat.reduceSub, q1, q2, e1, e2, e3, hp_set_set, hx, hu, jn, jo]
 · have jp := jl (min wa.length wb.length)
   have hj : joinWs wa wb = joinN wa wb (min wa.length wb.length) := rfl
   rw [hj]
   generalize joinN wa wb (min wa.length wb.length) = J at *
   by_cases c : wa.length ≤ wb.length
   · simp (disch := omega) only [go_sem, K.ref26_Tidy_l3b, ↓reduceIte, Nat.reduceAdd, Nat.reduceSub, q1, q2, e1, e2, e3, hp_set_set, hx, Nat.min_eq_left c]
   · have hm : min wa.length wb.length = wb.length := by omega
     simp (disch := omega) only [go_sem, K.ref26_Tidy_l3b, ↓reduceIte, Nat.reduceAdd, Nat.reduceSub, q1, q2, e1, e2, e3, hp_set_set, hx, hm]
theorem headSize_all {sz : Nat} {l : List D} (h : ∀ e ∈ l, e.cells.length = sz) : headSize sz l = true := by
 cases l with
 | nil => rfl
 | cons d r => rw [headSize_cons, lenIs_iff]; exact h d List.mem_cons_self
theorem Rp.size {H : Heap} {id : Nat} {es : List D} {fa fb : Nat → Nat} {out : List World} (hr : Rp H id es fa fb out) : ∀ e ∈ es, e.cells.length = 2 := by
 intro e he
 obtain ⟨j, hj⟩ := List.mem_iff_getElem?.1 he
 have hl := (List.getElem?_eq_some_iff.1 hj).1
 rw [hr.el j (by rw [← hr.len]; exact hl)] at hj
 cases hj; rfl
theorem ins_get {α : Type} (l : List α) (k : Nat) (hk : k ≤ l.length) (x : α) (j : Nat) : (l.take k ++ [x] ++ l.drop k)[j]? = if j < k then l[j]? else if j = k then some x else l[j - 1]? := by
 have hl : (l.take k).length = k := by rw [List.length_take]; omega
 rw [List.append_assoc]
 by_cases h1 : j < k
 · rw [if_pos h1, List.getElem?_append_left (by omega), List.getElem?_take_of_lt h1]
 · rw [if_neg h1, List.getElem?_append_right (by omega), hl]
   by_cases h2 : j = k
   · rw [if_pos h2, h2, Nat.sub_self]; rfl
   · rw [if_neg h2, List.getElem?_append_right (by simp; omega)]
     simp only [List.length_singleton, List.getElem?_drop]
     congr 1; omega
theorem ins_nth {α : Type} [Dat α] (l : List α) (k : Nat) (hk : k ≤ l.length) (x : α) (j : Nat) : nth (l.take k ++ [x] ++ l.drop k) j = if j < k then nth l j else if j = k then x else nth l (j - 1) := by
 unfold nth
 rw [List.getD_eq_getElem?_getD, ins_get l k hk]
 split
 · rw [List.getD_eq_getElem?_getD]
 · split
   · rfl
   · rw [List.getD_eq_getElem?_getD]
theorem set_nth {α : Type} [Dat α] (l : List α) (k : Nat) (hk : k < l.length) (x : α) (j : Nat) : nth (l.set k x) j = if j = k then x else nth l j := by
 unfold nth
 rw [List.getD_eq_getElem?_getD]
 by_cases h : j = k
 · rw [if_pos h, h, List.getElem?_set_self hk]; rfl
 · rw [if_neg h, List.getElem?_set_ne (fun e => h e.symm), List.getD_eq_getElem?_getD]
theorem Rp.ins {H : Heap} {id : Nat} {es : List D} {fa fb : Nat → Nat} {out : List World} (hr : Rp H id es fa fb out) {k : Nat} (hk : k ≤ out.length) (x : World) (o : Obj) :
 Rp (H ++ [.arr 2 false 0 (es.take k ++ [.agg [.ref (H.length + 1) 0 x.tags.length, .ref (H.length + 2) 0 x.whr.length]] ++ es.drop k), .arr 1 false 0 (ints x.tags), .arr 2 false 0 (whs x.whr), o]) H.length
  (es.take k ++ [.agg [.ref (H.length + 1) 0 x.tags.length, .ref (H.length + 2) 0 x.whr.length]] ++ es.drop k)
  (fun j => if j < k then fa j else if j = k then H.length + 1 else fa (j - 1)) (fun j => if j < k then fb j else if j = k then H.length + 2 else fb (j - 1)) (out.take k ++ [x] ++ out.drop k) := by
 have ol : (out.take k ++ [x] ++ out.drop k).length = out.length + 1 := by
  rw [List.length_append, List.length_append, List.length_take, List.length_drop, List.length_singleton]; omega
 have e2 := hr.len
 have ba : ∀ j, j < out.length → fa j < H.length := fun j hj => hp_lt (hr.ha j hj)
 have bb : ∀ j, j < out.length → fb j < H.length := fun j hj => hp_lt (hr.hb j hj)
 refine ⟨hp_get_len, ?_, ?_, ?_, ?_, ?_, ?_, ?_, ?_⟩
 · rw [ol, List.length_append, List.length_append, List.length_take, List.length_drop, List.length_singleton]; omega
 · intro j hj
   rw [ol] at hj
   simp only [ins_get es k (by omega), ins_nth out k hk]
   by_cases h1 : j < k
   · simp only [if_pos h1]; exact hr.el j (by omega)
   · by_cases h2 : j = k
     · simp only [if_neg h1, if_pos h2]
     · simp only [if_neg h1, if_neg h2]; exact hr.el (j - 1) (by omega)
 · intro j hj
   rw [ol] at hj
   simp only [ins_nth out k hk]
   by_cases h1 : j < k
   · simp only [if_pos h1]; rw [hp_get (ba j (by omega))]; exact hr.ha j (by omega)
   · by_cases h2 : j = k
     · simp only [if_neg h1, if_pos h2]; rw [hp_get_add]; rfl
     · simp only [if_neg h1, if_neg h2]; rw [hp_get (ba (j - 1) (by omega))]; exact hr.ha (j - 1) (by omega)
 · intro j hj
   rw [ol] at hj
   simp only [ins_nth out k hk]
   by_cases h1 : j < k
   · simp only [if_pos h1]; rw [hp_get (bb j (by omega))]; exact hr.hb j (by omega)
   · by_cases h2 : j = k
     · simp only [if_neg h1, if_pos h2]; rw [hp_get_add]; rfl
     · simp only [if_neg h1, if_neg h2]; rw [hp_get (bb (j - 1) (by omega))]; exact hr.hb (j - 1) (by omega)
 · intro j hj
   rw [ol] at hj
   have b1 := ba j
   have b2 := ba (j - 1)
   split
   · have := b1 (by omega); omega
   · split
     · omega
     · have := b2 (by omega); omega
 · intro j hj
   rw [ol] at hj
   have b1 := bb j
   have b2 := bb (j - 1)
   split
   · have := b1 (by omega); omega
   · split
     · omega
     · have := b2 (by omega); omega
 · intro i j hi hj
   rw [ol] at hi hj
   have a1 := ba i
   have a2 := ba (i - 1)
   have b1 := bb j
   have b2 := bb (j - 1)
   by_cases h1 : i < k
   · rw [if_pos h1]
     have := a1 (by omega)
     by_cases h2 : j < k
     · rw [if_pos h2]; exact hr.nab i j (by omega) (by omega)
     · rw [if_neg h2]
       by_cases h3 : j = k
       · rw [if_pos h3]; omega
       · rw [if_neg h3]; exact hr.nab i (j - 1) (by omega) (by omega)
   · rw [if_neg h1]
     by_cases h4 : i = k
     · rw [if_pos h4]
       split
       · have := b1 (by omega); omega
       · split
         · omega
         · have := b2 (by omega); omega
     · rw [if_neg h4]
       have := a2 (by omega)
       by_cases h2 : j < k
       · rw [if_pos h2]; exact hr.nab (i - 1) j (by omega) (by omega)
       · rw [if_neg h2]
         by_cases h3 : j = k
         · rw [if_pos h3]; omega
         · rw [if_neg h3]; exact hr.nab (i - 1) (j - 1) (by omega) (by omega)
 · intro i j hi hj hne
   rw [ol] at hi hj
   have a1 := bb i
   have a2 := bb (i - 1)
   have b1 := bb j
   have b2 := bb (j - 1)
   by_cases h1 : i < k
   · rw [if_pos h1]
     have := a1 (by omega)
     by_cases h2 : j < k
     · rw [if_pos h2]; exact hr.nbb i j (by omega) (by omega) hne
     · rw [if_neg h2]
       by_cases h3 : j = k
       · rw [if_pos h3]; omega
       · rw [if_neg h3]; exact hr.nbb i (j - 1) (by omega) (by omega) (by omega)
   · rw [if_neg h1]
     by_cases h4 : i = k
     · rw [if_pos h4]
       split
       · have := b1 (by omega); omega
       · split
         · omega
         · have := b2 (by omega); omega
     · rw [if_neg h4]
       have := a2 (by omega)
       by_cases h2 : j < k
       · rw [if_pos h2]; exact hr.nbb (i - 1) j (by omega) (by omega) (by omega)
       · rw [if_neg h2]
         by_cases h3 : j = k
         · rw [if_pos h3]; omega
         · rw [if_neg h3]; exact hr.nbb (i - 1) (j - 1) (by omega) (by omega) (by omega)
theorem Rp.merge {H : Heap} {id : Nat} {es : List D} {fa fb : Nat → Nat} {out : List World} (hr : Rp H id es fa fb out) {k : Nat} (hk : k < out.length) (x : World) (ht : (nth out k).tags = x.tags) (hw : x.whr.length = (nth out k).whr.length) :
 Rp (H.set (fb k) (.arr 2 false 0 (whs x.whr))) id es fa fb (out.set k x) := by
 have ol : (out.set k x).length = out.length := List.length_set
 have nk := hr.nb k hk
 have kl := hp_lt (hr.hb k hk)
 refine ⟨by rw [hp_set_ne nk]; exact hr.arr, by rw [ol]; exact hr.len, ?_, ?_, ?_, by rw [ol]; exact hr.na, by rw [ol]; exact hr.nb, by rw [ol]; exact hr.nab, by rw [ol]; exact hr.nbb⟩
 · intro j hj
   rw [ol] at hj
   rw [hr.el j hj, set_nth out k hk]
   by_cases h : j = k
   · rw [if_pos h, h, ht, hw]
   · rw [if_neg h]
 · intro j hj
   rw [ol] at hj
   rw [hp_set_ne (fun e => hr.nab j k hj hk e.symm), hr.ha j hj, set_nth out k hk]
   by_cases h : j = k
   · rw [if_pos h, h, ht]
   · rw [if_neg h]
 · intro j hj
   rw [ol] at hj
   rw [set_nth out k hk]
   by_cases h : j = k
   · rw [if_pos h, h, hp_set_get kl]
   · rw [if_neg h, hp_set_ne (fun e => hr.nbb j k hj hk h e.symm)]; exact hr.hb j hj
theorem tidy_round (l : List World) (i : Nat) (hi : i < l.length) (hl : l.length ≤ 1000000) (out : List World) (ho : out.length ≤ 999999) (hso : ∀ x ∈ out, x.sz) (hsx : (nth l i).sz) (H : Heap) (v : D) (hr : Rep H v out) :
 ∃ v' H', roundC false [1, 4, 5] H.length (exS CALL K.ref26_Tidy_l1b ⟨[.t (.sl (l.map World.e)), .und, v, I i, .und, .und], H⟩) = some ⟨[.t (.sl (l.map World.e)), .und, v', I (i + 1), .und, .und], H'⟩ ∧ Rep H' v' (tidy1 out (nth l i)) := by
 have l2 := tidy_l2 l i hi out (by omega) hso hsx H v hr
 have kl := tidyK_le out (nth l i)
 have cw := copyWorld_ok1 (nth l i) hsx
 rcases hr with ⟨rfl, rfl⟩ | ⟨id, es, fa, fb, rfl, h0, hr⟩
 · have k0 : tidyK [] (nth l i) = 0 := rfl
   rw [k0] at l2
   have t1 : tidy1 [] (nth l i) = [nth l i] := rfl
   rw [t1]
   generalize hx : nth l i = x at *
   obtain ⟨tb, wb⟩ := x
   simp only at cw
   have run : roundC false [1, 4, 5] H.length (exS CALL K.ref26_Tidy_l1b ⟨[.t (.sl (l.map World.e)), .und, .nil, I i, .und, .und], H⟩) =
    some ⟨[.t (.sl (l.map World.e)), .und, .ref H.length 0 1, I (i + 1), .und, .und], H ++ [.arr 2 false 0 [.agg [.ref (H.length + 1) 0 tb.length, .ref (H.length + 2) 0 wb.length]], .arr 1 false 0 (ints tb), .arr 2 false 0 (whs wb), .arr 2 false 0 [.agg [.ref (H.length + 1) 0 tb.length, .ref (H.length + 2) 0 wb.length]]]⟩ := by
    simp (disch := omega) only [go_sem, K.ref26_Tidy_l1b, ↓reduceIte, Nat.reduceAdd, Nat.reduceSub, l2, hx, cw, hp_get_len, hp_get_add, hp_set_len, hp_assoc, Nat.add_assoc]
   refine ⟨_, _, run, .inr ⟨H.length, _, fun _ => H.length + 1, fun _ => H.length + 2, rfl, by simp, ⟨hp_get_len, rfl, ?_, ?_, ?_, ?_, ?_, ?_, ?_⟩⟩⟩
   all_goals skip
   · intro j hj; obtain rfl : j = 0 := by simpa using hj
     rfl
   · intro j hj; obtain rfl : j = 0 := by simpa using hj
     rw [hp_get_add]; rfl
   · intro j hj; obtain rfl : j = 0 := by simpa using hj
     rw [hp_get_add]; rfl
   · intro j hj; omega
   · intro j hj; omega
   · intro i j hi hj; omega
   · intro i j hi hj hne
     have h1 : i = 0 := by simpa using hi
     have h2 : j = 0 := by simpa using hj
     omega
 · have e1 := hr.arr
   have e2 := hr.len
   have e7 := hp_lt e1
   by_cases c : tidyK out (nth l i) < out.length ∧ (nth out (tidyK out (nth l i))).tags = (nth l i).tags
   · obtain ⟨ck, ct⟩ := c
     have l3 := tidy_l3 l i hi out (by omega) hso hsx H id es fa fb hr (tidyK out (nth l i)) ck
     have s1 := (hso _ (nth_mem ck)).1
     have sm := same_ok (nth out (tidyK out (nth l i))).tags (nth l i).tags (by omega)
     have t1 : tidy1 out (nth l i) = out.set (tidyK out (nth l i)) ⟨(nth l i).tags, joinWs (nth out (tidyK out (nth l i))).whr (nth l i).whr⟩ := by unfold tidy1; rw [if_pos ⟨ck, ct⟩]
     rw [t1]
     simp only [ct, decide_true] at sm
     generalize tidyK out (nth l i) = k at *
     have e3 := hr.el k ck
     have e4 := hr.ha k ck
     have mg := hr.merge ck ⟨(nth l i).tags, joinWs (nth out k).whr (nth l i).whr⟩ ct (joinN_len _ _ _)
     refine ⟨.ref id 0 out.length, _, ?_, .inr ⟨id, es, fa, fb, by rw [List.length_set], by rw [List.length_set]; omega, mg⟩⟩
     generalize nth out k = y at *
     obtain ⟨ta, wa⟩ := y
     simp only at ct
     subst ct
     generalize hx : nth l i = x at *
     obtain ⟨tb, wb⟩ := x
     simp only at s1 sm e3 e4 cw l3 ⊢
     simp (disch := omega) only [go_sem, K.ref26_Tidy_l1b, ↓reduceIte, Nat.reduceAdd, Nat.reduceSub, l2, l3, hx, cw, sm, e1, e2, e3, e4]
   · have t1 : tidy1 out (nth l i) = out.take (tidyK out (nth l i)) ++ [nth l i] ++ out.drop (tidyK out (nth l i)) := by unfold tidy1; rw [if_neg c]
     rw [t1]
     generalize tidyK out (nth l i) = k at *
     have hs1 : headSize 2 (es.take k) = true := headSize_all fun e he => hr.size e (List.mem_of_mem_take he)
     have hs2 : headSize 2 (es.drop k) = true := headSize_all fun e he => hr.size e (List.mem_of_mem_drop he)
     have hs3 : (es.drop k).take (out.length - k) = es.drop k := List.take_of_length_le (by simp [e2])
     have hs4 : (es.take k).length = k := by rw [List.length_take]; omega
     have hs5 : (es.drop k).length = out.length - k := by rw [List.length_drop, e2]
     have hs6 : k + (1 + (out.length - k)) = out.length + 1 := by omega
     have s2 := hsx.1
     have run : roundC false [1, 4, 5] H.length (exS CALL K.ref26_Tidy_l1b ⟨[.t (.sl (l.map World.e)), .und, .ref id 0 out.length, I i, .und, .und], H⟩) =
      some ⟨[.t (.sl (l.map World.e)), .und, .ref H.length 0 (out.length + 1), I (i + 1), .und, .und], H ++ [.arr 2 false 0 (es.take k ++ [.agg [.ref (H.length + 1) 0 (nth l i).tags.length, .ref (H.length + 2) 0 (nth l i).whr.length]] ++ es.drop k), .arr 1 false 0 (ints (nth l i).tags), .arr 2 false 0 (whs (nth l i).whr), .arr 2 false 0 [.agg [.ref (H.length + 1) 0 (nth l i).tags.length, .ref (H.length + 2) 0 (nth l i).whr.length]]]⟩ := by
      by_cases ck : k < out.length
      · have s1 := (hso _ (nth_mem ck)).1
        have sm := same_ok (nth out k).tags (nth l i).tags (by omega)
        have ct : ¬ (nth out k).tags = (nth l i).tags := fun h => c ⟨ck, h⟩
        have e3 := hr.el k ck
        have e4 := hr.ha k ck
        generalize nth out k = y at *
        obtain ⟨ta, wa⟩ := y
        generalize hx : nth l i = x at *
        obtain ⟨tb, wb⟩ := x
        simp only at s1 s2 sm e3 e4 ct cw
        simp only [ct, decide_false] at sm
        simp (disch := omega) only [go_sem, K.ref26_Tidy_l1b, ↓reduceIte, Nat.reduceAdd, Nat.reduceSub, l2, hx, cw, sm, e1, e2, e3, e4, hs1, hs2, hs3, hs4, hs5, hs6, hp_get, hp_get_len, hp_get_add, hp_set_len, hp_assoc, Nat.add_assoc, Nat.sub_zero]
      · have ek : k = out.length := by omega
        subst ek
        generalize hx : nth l i = x at *
        obtain ⟨tb, wb⟩ := x
        simp only at s2 cw
        simp (disch := omega) only [go_sem, K.ref26_Tidy_l1b, ↓reduceIte, Nat.reduceAdd, Nat.reduceSub, l2, hx, cw, e1, e2, hs1, hs2, hs3, hs4, hs5, hs6, hp_get, hp_get_len, hp_get_add, hp_set_len, hp_assoc, Nat.add_assoc, Nat.sub_zero]
     exact ⟨_, _, run, .inr ⟨H.length, _, _, _, by rw [List.length_append, List.length_append, List.length_take, List.length_drop, List.length_singleton, Nat.min_eq_left kl]; congr 1; omega, by rw [List.length_append, List.length_append, List.length_singleton]; omega, hr.ins kl (nth l i) _⟩⟩
theorem tidy1_len (out : List World) (x : World) : (tidy1 out x).length ≤ out.length + 1 ∧ out.length ≤ (tidy1 out x).length ∧ 1 ≤ (tidy1 out x).length := by
 have kl := tidyK_le out x
 unfold tidy1
 split
 · rename_i h
   rw [List.length_set]; omega
 · rw [List.length_append, List.length_append, List.length_take, List.length_drop, List.length_singleton]; omega
theorem tidyN_len (l : List World) : ∀ j, (tidyN l j).length ≤ j
 | 0 => Nat.le_refl _
 | j + 1 => by
   have := tidyN_len l j
   have := (tidy1_len (tidyN l j) (nth l j)).1
   simp only [tidyN]; omega
theorem joinF_frm (a b : Wh) : (joinF a b).1.frm.length ≤ a.frm.length := by
 unfold joinF
 split
 · simp only [minN_len]; omega
 · simp
theorem joinN_sz (a b : List Wh) (n : Nat) (h : ∀ w ∈ a, w.frm.length ≤ n) : ∀ p, p ≤ a.length → ∀ w ∈ joinN a b p, w.frm.length ≤ n
 | 0, _, w, hw => h w hw
 | p + 1, hp, w, hw => by
   simp only [joinN] at hw
   rcases List.mem_or_eq_of_mem_set hw with hw | rfl
   · exact joinN_sz a b n h p (by omega) w hw
   · exact Nat.le_trans (joinF_frm _ _) (h _ (nth_mem (by omega)))
theorem tidy1_sz {out : List World} {x : World} (ho : ∀ y ∈ out, y.sz) (hx : x.sz) : ∀ y ∈ tidy1 out x, y.sz := by
 intro y hy
 unfold tidy1 at hy
 split at hy
 · rename_i h
   rcases List.mem_or_eq_of_mem_set hy with hy | rfl
   · exact ho y hy
   · obtain ⟨s1, s2, s3⟩ := ho _ (nth_mem h.1)
     refine ⟨hx.1, ?_, ?_⟩
     · show (joinN _ _ _).length ≤ _
       rw [joinN_len]; exact s2
     · exact joinN_sz _ _ _ s3 _ (Nat.min_le_left _ _)
 · rcases List.mem_append.1 hy with hy | hy
   · rcases List.mem_append.1 hy with hy | hy
     · exact ho y (List.mem_of_mem_take hy)
     · rw [List.mem_singleton.1 hy]; exact hx
   · exact ho y (List.mem_of_mem_drop hy)
theorem tidyN_sz {l : List World} (hl : ∀ x ∈ l, x.sz) : ∀ j, j ≤ l.length → ∀ y ∈ tidyN l j, y.sz
 | 0, _, y, hy => by simp [tidyN] at hy
 | j + 1, h, y, hy => tidy1_sz (tidyN_sz hl j (by omega)) (hl _ (nth_mem (by omega))) y hy
theorem Rp.frz {H : Heap} {id : Nat} {es : List D} {fa fb : Nat → Nat} {out : List World} (hr : Rp H id es fa fb out) :
 mapO (frz H 8) es = some (out.map World.e) ∧ ∀ i ∈ es.flatMap (arrs H 8), i ≠ id := by
 have hl := hr.len
 have key : ∀ (j : Nat) (hj : j < out.length), Go.Ev.frz H 8 (.agg [.ref (fa j) 0 (nth out j).tags.length, .ref (fb j) 0 (nth out j).whr.length]) = some (nth out j).e ∧
  arrs H 8 (.agg [.ref (fa j) 0 (nth out j).tags.length, .ref (fb j) 0 (nth out j).whr.length]) = [fa j, fb j] := by
  intro j hj
  have h1 := hr.ha j hj
  have h2 := hr.hb j hj
  simp (disch := omega) only [go_sem, h1, h2, ints, whs, ↓reduceIte]
 constructor
 · have : ∀ (es : List D) (ts : List T), es.length = ts.length → (∀ (j : Nat) e t, es[j]? = some e → ts[j]? = some t → Go.Ev.frz H 8 e = some t) → mapO (Go.Ev.frz H 8) es = some ts := by
    intro es
    induction es with
    | nil => intro ts h _; cases ts with
      | nil => rfl
      | cons => simp at h
    | cons e es ih =>
      intro ts h hh
      cases ts with
      | nil => simp at h
      | cons t ts =>
        have h1 := hh 0 e t rfl rfl
        have h2 := ih ts (by simpa using h) fun j e t he ht => hh (j + 1) e t (by simpa using he) (by simpa using ht)
        simp only [mapO, h1, Option.bind_some, h2, Option.map_some]
   refine this es _ (by rw [List.length_map, hl]) fun j e t he ht => ?_
   have hj : j < out.length := by rw [← hl]; exact (List.getElem?_eq_some_iff.1 he).1
   rw [hr.el j hj] at he
   rw [map_nth _ hj] at ht
   cases he; cases ht
   exact (key j hj).1
 · intro i hi
   obtain ⟨e, he, hi⟩ := List.mem_flatMap.1 hi
   obtain ⟨j, hj⟩ := List.mem_iff_getElem?.1 he
   have hjl : j < out.length := by rw [← hl]; exact (List.getElem?_eq_some_iff.1 hj).1
   rw [hr.el j hjl] at hj
   cases hj
   rw [(key j hjl).2] at hi
   simp only [List.mem_cons, List.not_mem_nil, or_false] at hi
   rcases hi with rfl | rfl
   · exact hr.na j hjl
   · exact hr.nb j hjl
theorem tidy_ok (l : List World) (h0 : 1 ≤ l.length) (hl : l.length ≤ 100000) (hs : ∀ x ∈ l, x.sz) :
 CALL 1 N.ref26_Tidy [.t (.sl (l.map World.e))] [] = some (.ref 0 0 (tidyF l).length, [.arr 2 false 0 (((tidyF l).map World.e).map .t)]) := by
 refine CALL_of K.t_ref26_Tidy rfl ?_
 have loop : ∀ a b c : D, ∃ q, exS CALL K.ref26_Tidy_l1 ⟨[.t (.sl (l.map World.e)), a, .nil, I 0, b, c], []⟩ = some q ∧ ∃ v H, q = (.exit 0, ⟨[.t (.sl (l.map World.e)), .und, v, I l.length, .und, .und], H⟩) ∧ Rep H v (tidyF l) := by
  intro a b c
  refine loop_inv (fun j st => ∃ v H, st = ⟨[.t (.sl (l.map World.e)), .und, v, I j, .und, .und], H⟩ ∧ Rep H v (tidyN l j)) l.length _ ⟨.nil, [], rfl, .inl ⟨rfl, rfl⟩⟩ ?_ ?_
  · rintro j st hj ⟨v, H, rfl, hr⟩
    have ln := tidyN_len l j
    obtain ⟨v', H', h1, h2⟩ := tidy_round l j hj (by omega) (tidyN l j) (by omega) (tidyN_sz hs j (by omega)) (hs _ (nth_mem hj)) H v hr
    exact ⟨_, h1, v', H', rfl, h2⟩
  · rintro st ⟨v, H, rfl, hr⟩
    refine ⟨(.exit 0, ⟨[.t (.sl (l.map World.e)), .und, v, I l.length, .und, .und], H⟩), ?_, by simp, v, H, rfl, hr⟩
    simp (disch := omega) only [go_sem, K.ref26_Tidy_l1b, ↓reduceIte, Nat.reduceAdd, Nat.reduceSub]
 obtain ⟨q, hq, v, H, rfl, hr⟩ := loop .nil .und .und
 have nz : 1 ≤ (tidyF l).length := by
  unfold tidyF
  cases hn : l.length with
  | zero => omega
  | succ n => exact (tidy1_len _ _).2.2
 rcases hr with ⟨rfl, he⟩ | ⟨id, es, fa, fb, rfl, h0, hr⟩
 · rw [he] at nz; simp at nz
 · obtain ⟨f1, f2⟩ := hr.frz
   have fin := finish_live H id 2 (tidyF l).length es _ hr.arr hr.len.symm f1 f2
   simp (disch := omega) only [go_sem, K.ref26_Tidy, ↓reduceIte, Nat.reduceAdd, Nat.reduceSub, hq, fin]
@[go_sem] theorem map2_nth_set {α β γ : Type} [Dat α] (f : β → γ) (g : α → β) {l : List α} {i j : Nat} {x : α} (h : j < l.length) : (((l.set i x).map g).map f)[j]? = some (f (g (nth (l.set i x) j))) := map2_nth f g (by rw [List.length_set]; exact h)
def swapL (l : List Int) (i j : Nat) : List Int := (l.set i (nth l j)).set j (nth l i)
def exchW (i j : Nat) (t : Int) (x : World) : World := ⟨swapL x.tags i j, (x.whr.set i (raiseF (nth x.whr i) t).1).set j (raiseF (nth x.whr j) t).1⟩
def exchS (i j : Nat) (t : Int) (x : World) (out : List World) : List World := if meetB (nth x.whr i) (nth x.whr j) t = true then out ++ [exchW i j t x] else out
def exchNb (i j : Nat) (t : Int) (ws : List World) : Nat → List World
 | 0 => ws
 | k + 1 => exchS i j t (nth ws k) (exchNb i j t ws k)
def exchBel (m : Mine) (b : Bel) (i j t : Int) : Bel × Int :=
 if belB m b = false then (b, 6) else if i < 0 ∨ ((nth b.worlds 0).tags.length : Int) ≤ i ∨ j < 0 ∨ ((nth b.worlds 0).tags.length : Int) ≤ j ∨ i = j then (b, 19)
 else if ¬ inT t then (b, 8) else if 24 < (tidyF (exchNb i.toNat j.toNat t b.worlds b.worlds.length)).length then (b, 44) else (⟨tidyF (exchNb i.toNat j.toNat t b.worlds b.worlds.length)⟩, 0)
theorem exchS_len (i j : Nat) (t : Int) (x : World) (out : List World) : out.length ≤ (exchS i j t x out).length ∧ (exchS i j t x out).length ≤ out.length + 1 := by
 unfold exchS; split <;> (try rw [List.length_append, List.length_singleton]) <;> omega
theorem exchNb_len (i j : Nat) (t : Int) (ws : List World) : ∀ k, ws.length ≤ (exchNb i j t ws k).length ∧ (exchNb i j t ws k).length ≤ ws.length + k
 | 0 => ⟨Nat.le_refl _, Nat.le_refl _⟩
 | k + 1 => by
   have h1 := exchNb_len i j t ws k
   have h2 := exchS_len i j t (nth ws k) (exchNb i j t ws k)
   simp only [exchNb]; omega
abbrev exH (m : Mine) (ws out : List World) : Heap := [.box (mineCells m), .box [.t (.sl (ws.map World.e))], .box [.nil], .arr 2 false 0 ((out.map World.e).map .t)]
theorem exch_round (m : Mine) (ws : List World) (hw : ws.length ≤ 100000) (i j : Nat) (hij : i ≠ j) (t : Int) (k : Nat) (hk : k < ws.length) (hs : (nth ws k).sz)
 (i1 : i < (nth ws k).tags.length) (j1 : j < (nth ws k).tags.length) (hl : (nth ws k).whr.length = (nth ws k).tags.length) (out : List World) (ho : out.length ≤ 1000000) :
 roundC true [0, 1, 5, 8, 9, 12] 4 (exS CALL K.ref26_Exchange_l1b ⟨[.und, .und, I i, I j, I t, .und, .bp 1 0, .bp 2 0, .und, .und, .ref 3 0 out.length, I k, .und], exH m ws out⟩) =
  some ⟨[.und, .und, I i, I j, I t, .und, .bp 1 0, .bp 2 0, .und, .und, .ref 3 0 (exchS i j t (nth ws k) out).length, I (k + 1), .und], exH m ws (exchS i j t (nth ws k) out)⟩ := by
 have c1 := copyWorld_ok1 (nth ws k) hs
 have mt := meet_ok (nth (nth ws k).whr i) (nth (nth ws k).whr j) t (hs.2.2 _ (nth_mem (by omega)))
 have r1 := raise_ok (nth (nth ws k).whr i) t (hs.2.2 _ (nth_mem (by omega)))
 have r2 := raise_ok (nth (nth ws k).whr j) t (hs.2.2 _ (nth_mem (by omega)))
 unfold exchS exchW swapL
 have n1 : ∀ w, nth ((nth ws k).whr.set i w) j = nth (nth ws k).whr j := fun w => by rw [set_nth _ _ (by omega), if_neg (fun e => hij e.symm)]
 generalize hx : nth ws k = x at *
 obtain ⟨tags, whr⟩ := x
 obtain ⟨s1, s2, s3⟩ := hs
 simp only at *
 generalize hwi : nth whr i = wi at *
 generalize hwj : nth whr j = wj at *
 generalize raiseF wi t = ri at *
 obtain ⟨⟨t1, f1⟩, e1⟩ := ri
 generalize raiseF wj t = rj at *
 obtain ⟨⟨t2, f2⟩, e2⟩ := rj
 obtain ⟨ti, fi⟩ := wi
 obtain ⟨tj, fj⟩ := wj
 simp only at *
 cases hm : meetB ⟨ti, fi⟩ ⟨tj, fj⟩ t with
 | true =>
   rw [hm] at mt
   simp (disch := omega) only [go_sem, K.ref26_Exchange_l1b, ↓reduceIte, exH, hx, hwi, hwj, n1, c1, mt, r1, r2, Nat.reduceAdd, Nat.reduceSub]
 | false =>
   rw [hm] at mt
   simp (disch := omega) only [go_sem, K.ref26_Exchange_l1b, ↓reduceIte, exH, hx, hwi, hwj, n1, c1, mt, r1, r2, Nat.reduceAdd, Nat.reduceSub, Bool.false_eq_true]
theorem raiseF_frm (w : Wh) (t : Int) : (raiseF w t).1.frm = w.frm := by unfold raiseF; split <;> rfl
theorem exchW_sz {i j : Nat} {t : Int} {x : World} (h : x.sz) (hi : i < x.whr.length) (hj : j < x.whr.length) : (exchW i j t x).sz := by
 obtain ⟨s1, s2, s3⟩ := h
 refine ⟨by simpa [exchW, swapL] using s1, by simpa [exchW] using s2, fun w hw => ?_⟩
 simp only [exchW] at hw
 rcases List.mem_or_eq_of_mem_set hw with hw | rfl
 · rcases List.mem_or_eq_of_mem_set hw with hw | rfl
   · exact s3 w hw
   · rw [raiseF_frm]; exact s3 _ (nth_mem hi)
 · rw [raiseF_frm]; exact s3 _ (nth_mem hj)
theorem exchNb_sz {ws : List World} (h : ∀ x ∈ ws, x.sz) {i j : Nat} {t : Int} (hi : ∀ k, k < ws.length → i < (nth ws k).whr.length) (hj : ∀ k, k < ws.length → j < (nth ws k).whr.length) : ∀ k, k ≤ ws.length → ∀ x ∈ exchNb i j t ws k, x.sz
 | 0, _, x, hx => h x hx
 | k + 1, hk, x, hx => by
   simp only [exchNb, exchS] at hx
   split at hx
   · rcases List.mem_append.1 hx with hx | hx
     · exact exchNb_sz h hi hj k (by omega) x hx
     · rw [List.mem_singleton.1 hx]; exact exchW_sz (h _ (nth_mem (by omega))) (hi k (by omega)) (hj k (by omega))
   · exact exchNb_sz h hi hj k (by omega) x hx
theorem exchBel_ok {m : Mine} (h : m.ok) (b : Bel) (hs : b.sz) (i j t : Int) :
 CALL 0 N.ref26_Exchange [.t m.e, .t b.e, I i, I j, I t] [] = some (.tup [.t (exchBel m b i j t).1.e, I (exchBel m b i j t).2], []) := by
 refine CALL_of K.t_ref26_Exchange rfl ?_
 have cb := copyBel_ok b hs
 have cb1 := copyBel_ok1 b hs
 have vb := belB_ok h b hs
 unfold exchBel
 cases hb : belB m b with
 | false =>
   rw [hb] at vb
   obtain ⟨ws⟩ := b
   simp (disch := omega) only [go_sem, K.ref26_Exchange, ↓reduceIte, cb, vb, Nat.reduceAdd, Nat.reduceSub]
 | true =>
   rw [hb] at vb
   obtain ⟨w1, w2, f1, f2, w5⟩ := belB_spec hb
   obtain ⟨ws⟩ := b
   obtain ⟨s1, s2⟩ := hs
   simp only at s1 s2 w1 w2 w5 f1 f2 cb cb1 vb ⊢
   have g0 : (ws.map World.e)[0]? = some (nth ws 0).e := map_nth _ (by omega)
   have wl : ∀ k, k < ws.length → (nth ws k).tags.length = (nth ws 0).tags.length ∧ (nth ws k).whr.length = (nth ws 0).tags.length := fun k hk => by
    obtain ⟨q1, q2, -⟩ := worldB_spec (w5 k hk)
    exact ⟨q1, q2⟩
   generalize hx : nth ws 0 = x at *
   obtain ⟨first, whr⟩ := x
   simp only at f1 f2 wl g0 ⊢
   rw [if_neg (by simp)]
   by_cases c1 : i < 0
   · rw [if_pos (by omega)]
     simp (disch := omega) only [go_sem, K.ref26_Exchange, ↓reduceIte, cb, vb, hx, g0, c1, Nat.reduceAdd, Nat.reduceSub]
   · by_cases c2 : (first.length : Int) ≤ i
     · rw [if_pos (by omega)]
       simp (disch := omega) only [go_sem, K.ref26_Exchange, ↓reduceIte, cb, vb, hx, g0, c1, c2, Nat.reduceAdd, Nat.reduceSub]
     · by_cases c3 : j < 0
       · rw [if_pos (by omega)]
         simp (disch := omega) only [go_sem, K.ref26_Exchange, ↓reduceIte, cb, vb, hx, g0, c1, c2, c3, Nat.reduceAdd, Nat.reduceSub]
       · by_cases c4 : (first.length : Int) ≤ j
         · rw [if_pos (by omega)]
           simp (disch := omega) only [go_sem, K.ref26_Exchange, ↓reduceIte, cb, vb, hx, g0, c1, c2, c3, c4, Nat.reduceAdd, Nat.reduceSub]
         · by_cases c5 : i = j
           · rw [if_pos (by omega)]
             simp (disch := omega) only [go_sem, K.ref26_Exchange, ↓reduceIte, cb, vb, hx, g0, c1, c2, c3, c4, c5, Nat.reduceAdd, Nat.reduceSub]
           · rw [if_neg (by omega)]
             by_cases ct : inT t
             · have ct' := ct
               unfold inT at ct'
               rw [if_neg (fun h => h ct)]
               obtain ⟨i', rfl⟩ := Int.eq_ofNat_of_zero_le (show 0 ≤ i by omega)
               obtain ⟨j', rfl⟩ := Int.eq_ofNat_of_zero_le (show 0 ≤ j by omega)
               simp only [Int.toNat_natCast]
               have ln := exchNb_len i' j' t ws
               have loop : ∀ a b c d e f : D, exS CALL K.ref26_Exchange_l1 ⟨[a, b, I i', I j', I t, c, .bp 1 0, .bp 2 0, d, e, .ref 3 0 ws.length, I 0, f], exH m ws ws⟩ =
                some (.exit 0, ⟨[.und, .und, I i', I j', I t, .und, .bp 1 0, .bp 2 0, .und, .und, .ref 3 0 (exchNb i' j' t ws ws.length).length, I ws.length, .und], exH m ws (exchNb i' j' t ws ws.length)⟩) := by
                intro a b c d e f
                refine loop_up (fun k => ⟨[.und, .und, I i', I j', I t, .und, .bp 1 0, .bp 2 0, .und, .und, .ref 3 0 (exchNb i' j' t ws k).length, I k, .und], exH m ws (exchNb i' j' t ws k)⟩) ws.length rfl ?_ ?_ (by simp)
                · intro k hk
                  obtain ⟨q1, q2⟩ := wl k hk
                  have := ln k
                  exact exch_round m ws (by omega) i' j' (by omega) t k hk (s2 _ (nth_mem hk)) (by omega) (by omega) (by omega) _ (by omega)
                · have := ln ws.length
                  generalize exchNb i' j' t ws ws.length = L at *
                  simp (disch := omega) only [go_sem, K.ref26_Exchange_l1b, ↓reduceIte, exH, Nat.reduceAdd, Nat.reduceSub]
               have ln := ln ws.length
               have sz := exchNb_sz (t := t) s2 (i := i') (j := j') (fun k hk => by obtain ⟨q1, q2⟩ := wl k hk; omega) (fun k hk => by obtain ⟨q1, q2⟩ := wl k hk; omega) ws.length (Nat.le_refl _)
               have ty := tidy_ok (exchNb i' j' t ws ws.length) (by omega) (by omega) sz
               generalize exchNb i' j' t ws ws.length = L at *
               generalize tidyF L = Z at *
               simp only [exH] at loop
               by_cases c6 : 24 < Z.length
               · simp (disch := omega) only [go_sem, K.ref26_Exchange, ↓reduceIte, cb, cb1, vb, hx, g0, c1, c2, c3, c4, c5, c6, loop, ty, Nat.reduceAdd, Nat.reduceSub]
               · simp (disch := omega) only [go_sem, K.ref26_Exchange, ↓reduceIte, cb, cb1, vb, hx, g0, c1, c2, c3, c4, c5, c6, loop, ty, Nat.reduceAdd, Nat.reduceSub]
             · rw [if_pos ct]
               unfold inT at ct
               by_cases c6 : t < 0
               · simp (disch := omega) only [go_sem, K.ref26_Exchange, ↓reduceIte, cb, vb, hx, g0, c1, c2, c3, c4, c5, c6, Nat.reduceAdd, Nat.reduceSub]
               · simp (disch := omega) only [go_sem, K.ref26_Exchange, ↓reduceIte, cb, vb, hx, g0, c1, c2, c3, c4, c5, c6, Nat.reduceAdd, Nat.reduceSub]
end Go.Ev
