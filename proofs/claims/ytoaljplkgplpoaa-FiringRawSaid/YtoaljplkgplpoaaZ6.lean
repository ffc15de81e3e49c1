/- Parts of the proof: see the text that holds the theorem. -/
import Derived.Test.YtoaljplkgplpoaaZ5
set_option linter.all false
/- Sealed beliefs. -/
namespace Go.Ev
open Go
variable [Lib] [Has1] [Has2] [Has3] [Has4]

def sealWs (bm : Mine) (t : Int) (ws : List Wh) : Nat → List Wh
  | 0 => ws
  | k + 1 => (sealWs bm t ws k).set k (sealF bm (nth ws k) t)
theorem sealWs_len (bm : Mine) (t : Int) (ws : List Wh) : ∀ k, (sealWs bm t ws k).length = ws.length
  | 0 => rfl
  | k + 1 => by simp only [sealWs, List.length_set, sealWs_len bm t ws k]
theorem sealWs_nth (bm : Mine) (t : Int) (ws : List Wh) : ∀ k j, k ≤ ws.length → nth (sealWs bm t ws k) j = if j < k then sealF bm (nth ws j) t else nth ws j
  | 0, j, _ => by simp [sealWs]
  | k + 1, j, hk => by
    have ih := sealWs_nth bm t ws k j (by omega)
    simp only [sealWs]
    rw [set_nth _ _ (by rw [sealWs_len]; omega), ih]
    by_cases h1 : j = k
    · subst h1; rw [if_pos rfl, if_pos (by omega)]
    · rw [if_neg h1]
      by_cases h2 : j < k
      · rw [if_pos h2, if_pos (by omega)]
      · rw [if_neg h2, if_neg (by omega)]
def sealW (bm : Mine) (t : Int) (x : World) (k : Nat) : World := ⟨x.tags, sealWs bm t x.whr k⟩
def sealXs (bm : Mine) (t : Int) (xs : List World) : Nat → List World
  | 0 => xs
  | i + 1 => (sealXs bm t xs i).set i (sealW bm t (nth xs i) (nth xs i).whr.length)
theorem sealXs_len (bm : Mine) (t : Int) (xs : List World) : ∀ k, (sealXs bm t xs k).length = xs.length
  | 0 => rfl
  | k + 1 => by simp only [sealXs, List.length_set, sealXs_len bm t xs k]
theorem sealXs_nth (bm : Mine) (t : Int) (xs : List World) : ∀ k j, k ≤ xs.length → nth (sealXs bm t xs k) j = if j < k then sealW bm t (nth xs j) (nth xs j).whr.length else nth xs j
  | 0, j, _ => by simp [sealXs]
  | k + 1, j, hk => by
    have ih := sealXs_nth bm t xs k j (by omega)
    simp only [sealXs]
    rw [set_nth _ _ (by rw [sealXs_len]; omega), ih]
    by_cases h1 : j = k
    · subst h1; rw [if_pos rfl, if_pos (by omega)]
    · rw [if_neg h1]
      by_cases h2 : j < k
      · rw [if_pos h2, if_pos (by omega)]
      · rw [if_neg h2, if_neg (by omega)]

abbrev slDead2 : List Nat := [0, 1, 2, 4, 7, 9, 13]
abbrev slDead1 : List Nat := [0, 1, 2, 4, 7, 9, 12, 13]
abbrev slV (t : Int) (iB iO : Nat) (i k : D) : List D := [.und, .und, .und, I t, .und, .bp 1 0, .bp 2 0, .und, .bp iB 0, .und, .bp iO 0, i, k, .und]

section
variable {bm : Mine} (hm : bm.ok) {t : Int} (i : Nat) {H : Heap} {io iB iO n a fbi tl : Nat} {es : List D} {whr : List Wh} (e1 : H[iO]? = some (.box [.ref io 0 n])) (e2 : H[io]? = some (.arr 2 false 0 es)) (e3 : es.length = n)
  (e4 : es[i]? = some (.agg [.ref a 0 tl, .ref fbi 0 whr.length])) (e5 : H[fbi]? = some (.arr 2 false 0 (whs whr))) (e6 : H[iB]? = some (.box (mineCells bm))) (hi : i < n) (hn : n ≤ 1000000) (hl : whr.length ≤ 1000000)
include hm e1 e2 e3 e4 e5 e6 hi hn hl

theorem sl_round (k : Nat) (hk : k < whr.length) (w : Wh) (hw : nth whr k = w) (h1 : w.time ≤ t) (h2 : t ≤ 2147483648) (h3 : 0 ≤ w.time) (hf : w.frm.length = bm.places.length) (hb : bnd w.frm) :
    roundC false slDead2 H.length (exS CALL K.ref32_Seal_l2b ⟨slV t iB iO (I i) (I k), H⟩) = some ⟨slV t iB iO (I i) (I (k + 1)), H.set fbi (.arr 2 false 0 (whs (whr.set k (sealF bm w t)))) ++ [w.box]⟩ := by
  have g : ((whr.map Wh.e).map D.t)[k]? = some (.t w.e) := by rw [← hw]; exact map2_nth _ _ hk
  have hs : (whr.set k (sealF bm w t)).map Wh.e = (whr.map Wh.e).set k (sealF bm w t).e := List.map_set
  have sl := seal1_ok hm w hf hb t (by unfold inT; omega)
  have l1 := hp_lt e1
  have l2 := hp_lt e2
  have l3 := hp_lt e5
  have l4 := hp_lt e6
  generalize sealF bm w t = w' at *
  obtain ⟨t', f'⟩ := w'
  obtain ⟨time, frm⟩ := w
  obtain ⟨places, roads⟩ := bm
  simp only [mineCells, whs, Wh.box] at *
  rw [hs]
  simp (disch := omega) only [go_sem, K.ref32_Seal_l2b, ↓reduceIte, e1, e2, e3, e4, e5, e6, g, sl, mapt_set, hp_get, hp_get_len, hp_set, hp_set_len, List.set_cons_zero, Nat.reduceAdd, Nat.reduceSub]
theorem sl_late (k : Nat) (hk : k < whr.length) (w : Wh) (hw : nth whr k = w) (h1 : t < w.time ∨ 2147483648 < t) {nb : Nat} (f1 : H[1]? = some (.box [.ref 3 0 nb])) (f2 : H[2]? = some (.box [.nil])) :
    exS CALL K.ref32_Seal_l2b ⟨slV t iB iO (I i) (I k), H⟩ = some (.ret, ⟨[.und, .und, .und, I t, .und, .bp 1 0, .bp 2 0, I 8, .bp iB 0, .und, .bp iO 0, I i, I k, .bp H.length 0], H.set 2 (.box [.ref 3 0 nb]) ++ [w.box]⟩) := by
  have g : ((whr.map Wh.e).map D.t)[k]? = some (.t w.e) := by rw [← hw]; exact map2_nth _ _ hk
  have l1 := hp_lt e1
  have l2 := hp_lt e2
  have l3 := hp_lt e5
  have l4 := hp_lt e6
  have l5 := hp_lt f2
  obtain ⟨time, frm⟩ := w
  obtain ⟨places, roads⟩ := bm
  simp only [mineCells, whs, Wh.box] at *
  by_cases c : t < time
  · simp (disch := omega) only [go_sem, K.ref32_Seal_l2b, ↓reduceIte, e1, e2, e3, e4, e5, e6, f1, f2, g, mapt_set, hp_get, hp_get_len, hp_set, hp_set_len, List.set_cons_zero, Nat.reduceAdd, Nat.reduceSub]
  · simp (disch := omega) only [go_sem, K.ref32_Seal_l2b, ↓reduceIte, e1, e2, e3, e4, e5, e6, f1, f2, g, mapt_set, hp_get, hp_get_len, hp_set, hp_set_len, List.set_cons_zero, Nat.reduceAdd, Nat.reduceSub]
theorem sl_end :
    exS CALL K.ref32_Seal_l2b ⟨slV t iB iO (I i) (I whr.length), H⟩ = some (.exit 2, ⟨slV t iB iO (I i) (I whr.length), H⟩) := by
  obtain ⟨places, roads⟩ := bm
  simp only [mineCells, whs, Wh.box] at *
  simp (disch := omega) only [go_sem, K.ref32_Seal_l2b, ↓reduceIte, e1, e2, e3, e4, e5, e6, Nat.reduceAdd, Nat.reduceSub]
end

theorem loop_invS {gc : Bool} {dead : List Nat} {c : C} {vs : List D} {H : Heap} (P : Nat → St → Prop) (n : Nat) (p : Nat → Bool) (Q : Bool → Ex × St → Prop) (h0 : P 0 ⟨dropV dead vs, H⟩)
    (hs : ∀ j st, j < n → p j = false → P j st → ∃ st', roundC gc dead st.H.length (exS CALL c st) = some st' ∧ P (j + 1) st')
    (he : ∀ j st, j < n → p j = true → P j st → ∃ q, exS CALL c st = some q ∧ q.1 ≠ .normal ∧ Q true q)
    (hN : ∀ st, P n st → ∃ q, exS CALL c st = some q ∧ q.1 ≠ .normal ∧ Q false q) : ∃ q, exS CALL (.loop gc dead c) ⟨vs, H⟩ = some q ∧ Q ((List.range n).any p) q := by
  have key : ∀ (k j : Nat) (st : St), j + k = n → (∀ i, i < j → p i = false) → P j st → ∃ q, loopC gc dead (exS CALL c) st = some q ∧ Q ((List.range n).any p) q := by
    intro k
    induction k with
    | zero =>
      intro j st hj hlt hp
      obtain ⟨q, h1, h2, h3⟩ := hN st (by rw [← hj]; exact hp)
      have : (List.range n).any p = false := by
        rw [List.any_eq_false]
        intro x hx
        rw [hlt x (by have := List.mem_range.1 hx; omega)]; simp
      rw [this]
      exact ⟨q, loopC_exit h1 h2, h3⟩
    | succ k ih =>
      intro j st hj hlt hp
      cases hpj : p j with
      | true =>
        obtain ⟨q, h1, h2, h3⟩ := he j st (by omega) hpj hp
        have : (List.range n).any p = true := List.any_eq_true.2 ⟨j, List.mem_range.2 (by omega), hpj⟩
        rw [this]
        exact ⟨q, loopC_exit h1 h2, h3⟩
      | false =>
        obtain ⟨st', h1, h2⟩ := hs j st (by omega) hpj hp
        obtain ⟨q, h3, h4⟩ := ih (j + 1) st' (by omega) (fun i hi => by
          by_cases e : i = j
          · rw [e]; exact hpj
          · exact hlt i (by omega)) h2
        exact ⟨q, loopC_step h1 h3, h4⟩
  exact key n 0 _ (by omega) (fun i hi => by omega) h0

theorem Rp.app {H : Heap} {id : Nat} {es : List D} {fa fb : Nat → Nat} {out : List World} (hr : Rp H id es fa fb out) (t : Heap) : Rp (H ++ t) id es fa fb out :=
  ⟨by rw [hp_get (hp_lt hr.arr)]; exact hr.arr, hr.len, hr.el, fun j hj => by rw [hp_get (hp_lt (hr.ha j hj))]; exact hr.ha j hj, fun j hj => by rw [hp_get (hp_lt (hr.hb j hj))]; exact hr.hb j hj, hr.na, hr.nb, hr.nab, hr.nbb⟩

structure SlH (H : Heap) (b : List World) (bm : Mine) (iB iO io : Nat) (es : List D) (fa fb : Nat → Nat) (A : List Nat) (O : List World) : Prop where
  h1 : H[1]? = some (.box [.ref 3 0 b.length])
  h2 : H[2]? = some (.box [.nil])
  hB : H[iB]? = some (.box (mineCells bm))
  hO : H[iO]? = some (.box [.ref io 0 O.length])
  rp : Rp H io es fa fb O
  ar : ∀ i ∈ A, ∃ sz pin ep es, H[i]? = some (.arr sz pin ep es)
  nA : ∀ i ∈ A, ∀ j, j < O.length → i ≠ fb j
  eA : arrs H 7 (.ref 3 0 b.length) = A
  fr : frz H 7 (.ref 3 0 b.length) = some (.sl (b.map World.e))

theorem SlH.step {H : Heap} {b : List World} {bm : Mine} {iB iO io : Nat} {es : List D} {fa fb : Nat → Nat} {A : List Nat} {O : List World} (h : SlH H b bm iB iO io es fa fb A O) {i : Nat} (hi : i < O.length) (x : World) (ht : (nth O i).tags = x.tags)
    (hw : x.whr.length = (nth O i).whr.length) (o : Obj) : SlH (H.set (fb i) (.arr 2 false 0 (whs x.whr)) ++ [o]) b bm iB iO io es fa fb A (O.set i x) := by
  have hb := h.rp.hb i hi
  have nb : ∀ {k : Nat} {cs : List D}, H[k]? = some (.box cs) → (H.set (fb i) (.arr 2 false 0 (whs x.whr)) ++ [o])[k]? = some (.box cs) := fun {k cs} hk => by
    have ne : fb i ≠ k := fun e => by rw [e, hk] at hb; cases hb
    rw [hp_get (by rw [List.length_set]; exact hp_lt hk), hp_set_ne ne]; exact hk
  have na : ∀ k ∈ A, (H.set (fb i) (.arr 2 false 0 (whs x.whr)) ++ [o])[k]? = H[k]? := fun k hk => by
    obtain ⟨sz, pin, ep, es', e⟩ := h.ar k hk
    rw [hp_get (by rw [List.length_set]; exact hp_lt e), hp_set_ne (fun e => h.nA k hk i hi e.symm)]
  have fc := frz_congr (H := H) (H' := H.set (fb i) (.arr 2 false 0 (whs x.whr)) ++ [o]) 7 (.ref 3 0 b.length) (fun k hk => by
    rw [h.eA] at hk
    obtain ⟨sz, pin, ep, es', e⟩ := h.ar k hk
    exact ⟨sz, pin, pin, ep, es', e, by rw [na k hk]; exact e⟩)
  refine ⟨nb h.h1, nb h.h2, nb h.hB, by rw [List.length_set]; exact nb h.hO, (h.rp.merge hi x ht hw).app _, fun k hk => ?_, by rw [List.length_set]; exact h.nA, by rw [fc.2]; exact h.eA, by rw [fc.1]; exact h.fr⟩
  obtain ⟨sz, pin, ep, es', e⟩ := h.ar k hk
  exact ⟨sz, pin, ep, es', by rw [na k hk]; exact e⟩

/-- What a refusal leaves. -/
def SlE (b : List World) (H : Heap) : Prop := H[2]? = some (.box [.ref 3 0 b.length]) ∧ frz H 7 (.ref 3 0 b.length) = some (.sl (b.map World.e))
theorem SlH.late {H : Heap} {b : List World} {bm : Mine} {iB iO io : Nat} {es : List D} {fa fb : Nat → Nat} {A : List Nat} {O : List World} (h : SlH H b bm iB iO io es fa fb A O) (o : Obj) : SlE b (H.set 2 (.box [.ref 3 0 b.length]) ++ [o]) := by
  have l2 := hp_lt h.h2
  have fc := frz_congr (H := H) (H' := H.set 2 (.box [.ref 3 0 b.length]) ++ [o]) 7 (.ref 3 0 b.length) (fun k hk => by
    rw [h.eA] at hk
    obtain ⟨sz, pin, ep, es', e⟩ := h.ar k hk
    have ne : 2 ≠ k := fun e2 => by rw [← e2, h.h2] at e; cases e
    exact ⟨sz, pin, pin, ep, es', e, by rw [hp_get (by rw [List.length_set]; exact hp_lt e), hp_set_ne ne]; exact e⟩)
  exact ⟨by rw [hp_get (by rw [List.length_set]; exact l2), hp_set_get l2], by rw [fc.1]; exact h.fr⟩

def lateP (t : Int) (ws : List Wh) (k : Nat) : Bool := decide (t < (nth ws k).time ∨ 2147483648 < t)
/-- What can be sealed. -/
def whOk (np : Nat) (w : Wh) : Prop := 0 ≤ w.time ∧ w.frm.length = np ∧ bnd w.frm

theorem sl_l2 {bm : Mine} (hm : bm.ok) {t : Int} {H : Heap} {b : List World} {iB iO io : Nat} {es : List D} {fa fb : Nat → Nat} {A : List Nat} {O : List World} (h : SlH H b bm iB iO io es fa fb A O) (hn : O.length ≤ 1000000)
    (i : Nat) (hi : i < O.length) (x : World) (hx : nth O i = x) (hl : x.whr.length ≤ 1000000) (hw : ∀ w ∈ x.whr, whOk bm.places.length w) (z0 z1 z2 z4 z7 z9 z13 : D) :
    ∃ q, exS CALL K.ref32_Seal_l2 ⟨[z0, z1, z2, I t, z4, .bp 1 0, .bp 2 0, z7, .bp iB 0, z9, .bp iO 0, I i, I 0, z13], H⟩ = some q ∧
      (if (List.range x.whr.length).any (lateP t x.whr) = true then ∃ vs H', q = (.ret, ⟨[.und, .und, .und, I t, .und, .bp 1 0, .bp 2 0, I 8] ++ vs, H'⟩) ∧ SlE b H'
       else ∃ H', q = (.exit 2, ⟨slV t iB iO (I i) (I x.whr.length), H'⟩) ∧ SlH H' b bm iB iO io es fa fb A (O.set i (sealW bm t x x.whr.length))) := by
  refine loop_invS (fun k st => ∃ H', st = ⟨slV t iB iO (I i) (I k), H'⟩ ∧ SlH H' b bm iB iO io es fa fb A (O.set i (sealW bm t x k))) x.whr.length (lateP t x.whr)
    (fun late q => if late = true then ∃ vs H', q = (.ret, ⟨[.und, .und, .und, I t, .und, .bp 1 0, .bp 2 0, I 8] ++ vs, H'⟩) ∧ SlE b H'
       else ∃ H', q = (.exit 2, ⟨slV t iB iO (I i) (I x.whr.length), H'⟩) ∧ SlH H' b bm iB iO io es fa fb A (O.set i (sealW bm t x x.whr.length))) ?_ ?_ ?_ ?_
  · refine ⟨H, rfl, ?_⟩
    have : O.set i (sealW bm t x 0) = O := by
      have e : sealW bm t x 0 = nth O i := by rw [hx]; rfl
      rw [e]
      refine List.ext_getElem? fun j => ?_
      rw [List.getElem?_set]
      split
      · rename_i e; subst e; exact (nth_some hi).symm
      · rfl
    rw [this]; exact h
  · rintro k st hk hp ⟨H', rfl, h'⟩
    simp only [lateP, decide_eq_false_iff_not] at hp
    have ol : (O.set i (sealW bm t x k)).length = O.length := List.length_set
    have hn' : nth (O.set i (sealW bm t x k)) i = sealW bm t x k := by rw [set_nth _ _ hi, if_pos rfl]
    have sl : (sealWs bm t x.whr k).length = x.whr.length := sealWs_len bm t x.whr k
    have hwk := hw _ (nth_mem hk)
    have e4 := h'.rp.el i (by omega)
    have e5 := h'.rp.hb i (by omega)
    rw [hn'] at e4 e5
    simp only [sealW] at e4 e5
    have nk : nth (sealWs bm t x.whr k) k = nth x.whr k := by rw [sealWs_nth _ _ _ _ _ (by omega), if_neg (by omega)]
    have r := sl_round hm (t := t) i h'.hO h'.rp.arr h'.rp.len e4 e5 h'.hB (by omega) (by omega) (by omega) k (by omega) _ nk (by omega) (by omega) hwk.1 hwk.2.1 hwk.2.2
    refine ⟨_, r, _, rfl, ?_⟩
    have st := h'.step (by omega : i < _) (sealW bm t x (k + 1)) (by rw [hn']; rfl) (by rw [hn']; simp only [sealW, sealWs, List.length_set]) (nth x.whr k).box
    rw [List.set_set] at st
    exact st
  · rintro k st hk hp ⟨H', rfl, h'⟩
    simp only [lateP, decide_eq_true_eq] at hp
    have ol : (O.set i (sealW bm t x k)).length = O.length := List.length_set
    have hn' : nth (O.set i (sealW bm t x k)) i = sealW bm t x k := by rw [set_nth _ _ hi, if_pos rfl]
    have sl : (sealWs bm t x.whr k).length = x.whr.length := sealWs_len bm t x.whr k
    have e4 := h'.rp.el i (by omega)
    have e5 := h'.rp.hb i (by omega)
    rw [hn'] at e4 e5
    simp only [sealW] at e4 e5
    have nk : nth (sealWs bm t x.whr k) k = nth x.whr k := by rw [sealWs_nth _ _ _ _ _ (by omega), if_neg (by omega)]
    have r := sl_late hm (t := t) i h'.hO h'.rp.arr h'.rp.len e4 e5 h'.hB (by omega) (by omega) (by omega) k (by omega) _ nk hp h'.h1 h'.h2
    refine ⟨_, r, by simp, ?_⟩
    rw [if_pos rfl]
    exact ⟨_, _, rfl, h'.late _⟩
  · rintro st ⟨H', rfl, h'⟩
    have ol : (O.set i (sealW bm t x x.whr.length)).length = O.length := List.length_set
    have hn' : nth (O.set i (sealW bm t x x.whr.length)) i = sealW bm t x x.whr.length := by rw [set_nth _ _ hi, if_pos rfl]
    have sl : (sealWs bm t x.whr x.whr.length).length = x.whr.length := sealWs_len bm t x.whr _
    have e4 := h'.rp.el i (by omega)
    have e5 := h'.rp.hb i (by omega)
    rw [hn'] at e4 e5
    simp only [sealW] at e4 e5
    have r := sl_end hm (t := t) i h'.hO h'.rp.arr h'.rp.len e4 e5 h'.hB (by omega) (by omega) (by omega)
    rw [sl] at r
    refine ⟨_, r, by simp, ?_⟩
    rw [if_neg (by simp)]
    exact ⟨_, rfl, h'⟩

theorem any_len {n m : Nat} (h : n = m) (p : Nat → Bool) : (List.range n).any p = (List.range m).any p := by rw [h]
def lateX (t : Int) (xs : List World) (i : Nat) : Bool := (List.range (nth xs i).whr.length).any (lateP t (nth xs i).whr)

theorem sl_l1 {bm : Mine} (hm : bm.ok) {t : Int} {H : Heap} {b : List World} {iB iO io : Nat} {es : List D} {fa fb : Nat → Nat} {A : List Nat} (h : SlH H b bm iB iO io es fa fb A b) (hn : b.length ≤ 1000000)
    (hl : ∀ x ∈ b, x.sz) (hw : ∀ x ∈ b, ∀ w ∈ x.whr, whOk bm.places.length w) (z0 z1 z2 z4 z7 z9 z12 z13 : D) :
    ∃ q, exS CALL K.ref32_Seal_l1 ⟨[z0, z1, z2, I t, z4, .bp 1 0, .bp 2 0, z7, .bp iB 0, z9, .bp iO 0, I 0, z12, z13], H⟩ = some q ∧
      (if (List.range b.length).any (lateX t b) = true then ∃ vs H', q = (.ret, ⟨[.und, .und, .und, I t, .und, .bp 1 0, .bp 2 0, I 8] ++ vs, H'⟩) ∧ SlE b H'
       else ∃ H', q = (.exit 0, ⟨slV t iB iO (I b.length) .und, H'⟩) ∧ SlH H' b bm iB iO io es fa fb A (sealXs bm t b b.length)) := by
  refine loop_invS (fun i st => ∃ H', st = ⟨slV t iB iO (I i) .und, H'⟩ ∧ SlH H' b bm iB iO io es fa fb A (sealXs bm t b i)) b.length (lateX t b)
    (fun late q => if late = true then ∃ vs H', q = (.ret, ⟨[.und, .und, .und, I t, .und, .bp 1 0, .bp 2 0, I 8] ++ vs, H'⟩) ∧ SlE b H'
       else ∃ H', q = (.exit 0, ⟨slV t iB iO (I b.length) .und, H'⟩) ∧ SlH H' b bm iB iO io es fa fb A (sealXs bm t b b.length)) ?_ ?_ ?_ ?_
  · exact ⟨H, rfl, h⟩
  · rintro i st hi hp ⟨H', rfl, h'⟩
    have ol := sealXs_len bm t b i
    have hx : nth (sealXs bm t b i) i = nth b i := by rw [sealXs_nth _ _ _ _ _ (by omega), if_neg (by omega)]
    have s := hl _ (nth_mem hi)
    obtain ⟨q, hq, hQ⟩ := sl_l2 hm (t := t) h' (by omega) i (by omega) (nth b i) hx s.2.1 (hw _ (nth_mem hi)) .und .und .und .und .und .und .und
    unfold lateX at hp
    rw [if_neg (by rw [hp]; simp)] at hQ
    obtain ⟨H2, rfl, h2⟩ := hQ
    have e1 := h'.hO
    have e2 := h'.rp.arr
    have e3 := h'.rp.len
    refine ⟨⟨slV t iB iO (I (i + 1)) .und, H2⟩, ?_, H2, rfl, h2⟩
    simp (disch := omega) only [go_sem, K.ref32_Seal_l1b, ↓reduceIte, e1, e2, e3, hq, Nat.reduceAdd, Nat.reduceSub]
  · rintro i st hi hp ⟨H', rfl, h'⟩
    have ol := sealXs_len bm t b i
    have hx : nth (sealXs bm t b i) i = nth b i := by rw [sealXs_nth _ _ _ _ _ (by omega), if_neg (by omega)]
    have s := hl _ (nth_mem hi)
    obtain ⟨q, hq, hQ⟩ := sl_l2 hm (t := t) h' (by omega) i (by omega) (nth b i) hx s.2.1 (hw _ (nth_mem hi)) .und .und .und .und .und .und .und
    unfold lateX at hp
    rw [if_pos hp] at hQ
    obtain ⟨vs, H2, rfl, h2⟩ := hQ
    have e1 := h'.hO
    have e2 := h'.rp.arr
    have e3 := h'.rp.len
    refine ⟨(.ret, ⟨[.und, .und, .und, I t, .und, .bp 1 0, .bp 2 0, I 8] ++ vs, H2⟩), ?_, by simp, ?_⟩
    · simp (disch := omega) only [go_sem, K.ref32_Seal_l1b, ↓reduceIte, e1, e2, e3, hq, Nat.reduceAdd, Nat.reduceSub]
    · rw [if_pos rfl]; exact ⟨vs, H2, rfl, h2⟩
  · rintro st ⟨H', rfl, h'⟩
    have ol := sealXs_len bm t b b.length
    have e1 := h'.hO
    have e2 := h'.rp.arr
    have e3 := h'.rp.len
    refine ⟨(.exit 0, ⟨slV t iB iO (I b.length) .und, H'⟩), ?_, by simp, ?_⟩
    · simp (disch := omega) only [go_sem, K.ref32_Seal_l1b, ↓reduceIte, e1, e2, e3, ol, Nat.reduceAdd, Nat.reduceSub]
    · rw [if_neg (by simp)]; exact ⟨H', rfl, h'⟩
end Go.Ev

/- Seal. -/
namespace Go.Ev
open Go
variable [Lib] [Has1] [Has2] [Has3] [Has4]

theorem backP_cp (H : Heap) (ws : List World) (n : Nat) : backP H (.agg [.ref 0 0 n], cpH 0 ws) = some (.agg [.ref H.length 0 n], H ++ cpH H.length ws) := by
  have e : backP H (.agg [.ref 0 0 n], cpH 0 ws) = (ren (backTo [] H.length) depth (.agg [.ref 0 0 n])).bind fun r' => (mapO (renObj (backTo [] H.length)) (cpH 0 ws)).map fun os => (r', H ++ os) := by
    unfold backP
    rw [if_neg (by simp [cpH])]
  rw [e, cp_ren]
  simp [ren, depth, mapO, backTo]

theorem callW_cp (H H1 : Heap) (ws : List World) (n : Nat) : callW H H1 [] (.agg [.ref 0 0 n], cpH 0 ws) = some (.agg [.ref H.length 0 n], H1 ++ cpH H.length ws) := by
  have e : callW H H1 [] (.agg [.ref 0 0 n], cpH 0 ws) = callB H1 H.length [] (.agg [.ref 0 0 n], cpH 0 ws) := by
    unfold callW
    rw [if_neg (by simp [cpH])]
  have e2 : ren (backTo [] H.length) 8 (.agg [.ref 0 0 n]) = some (.agg [.ref H.length 0 n]) := by simp [ren, mapO, backTo]
  rw [e, callB_eq, e2, Option.bind_some]
  unfold callZ
  rw [cp_ren]
  simp [callY, putBack]

def C.snd : C → C
  | .seq _ b => b
  | c => c

theorem hp2_get {a b t : Heap} : (a ++ b ++ t)[a.length + b.length]? = t[0]? := by
  rw [List.getElem?_append_right (by simp)]; simp
theorem hp2_set {a b t : Heap} {o : Obj} : (a ++ b ++ t).set (a.length + b.length) o = a ++ b ++ t.set 0 o := by
  rw [List.set_append_right _ _ (by simp)]; simp

def rpA (fa fb : Nat → Nat) (n : Nat) : List Nat := (List.range n).flatMap (fun j => [fa j, fb j])
theorem Rp.in6 {H : Heap} {id : Nat} {es : List D} {fa fb : Nat → Nat} {out : List World} (hr : Rp H id es fa fb out) : mapO (Go.Ev.frz H 6) es = some (out.map World.e) ∧ arrsL H 6 es = rpA fa fb out.length := by
  obtain ⟨h1, h2⟩ := hr.frzK 3
  constructor
  · simp only [Go.Ev.frz, arrAt, hr.arr] at h1
    rw [if_pos (by simp [hr.len]), Option.bind_some] at h1
    obtain ⟨x, hx, he⟩ := Option.map_eq_some_iff.1 h1
    cases he
    exact hx
  · simp only [arrs, hr.arr] at h2
    exact (List.cons.inj h2).2

theorem cp_len (s : Nat) (ws : List World) : (cpH s ws).length = 2 * ws.length + 1 := by simp [cpH]
theorem cpOb_get {X : Heap} {s : Nat} (hs : X.length = s) (ws : List World) (t : Heap) {k : Nat} (hk : k < 2 * ws.length) : (X ++ cpH s ws ++ t)[s + k + 1]? = some (cpOb ws k) := by
  subst hs
  rw [List.append_assoc, List.getElem?_append_right (by omega), show X.length + k + 1 - X.length = k + 1 by omega, List.getElem?_append_left (by rw [cp_len]; omega)]
  unfold cpH
  rw [List.getElem?_cons_succ, List.getElem?_map, List.getElem?_range hk]; rfl
theorem cp_Rp {X : Heap} {s : Nat} (hs : X.length = s) (ws : List World) (t : Heap) : Rp (X ++ cpH s ws ++ t) s ((List.range ws.length).map (cpEl s ws)) (fun j => s + 2 * j + 1) (fun j => s + 2 * j + 2) ws where
  arr := by
    subst hs
    rw [List.append_assoc, List.getElem?_append_right (Nat.le_refl _), Nat.sub_self]; rfl
  len := by simp
  el := fun j hj => by rw [List.getElem?_map, List.getElem?_range hj]; rfl
  ha := fun j hj => by
    have := cpOb_get hs ws t (k := 2 * j) (by omega)
    rw [this]
    unfold cpOb
    rw [if_pos (by omega), show 2 * j / 2 = j by omega]
  hb := fun j hj => by
    have := cpOb_get hs ws t (k := 2 * j + 1) (by omega)
    rw [show s + 2 * j + 2 = s + (2 * j + 1) + 1 by omega, this]
    unfold cpOb
    rw [if_neg (by omega), show (2 * j + 1) / 2 = j by omega]
  na := fun j _ => by omega
  nb := fun j _ => by omega
  nab := fun i j _ _ => by omega
  nbb := fun i j _ _ h => by omega

abbrev slP (H : Heap) (es : List D) (A : List Nat) (bm : Mine) : Heap := pins (H.set 3 (.arr 2 true 0 es) ++ [.box (mineCells bm)]) A
theorem slP_len (H : Heap) (es : List D) (A : List Nat) (bm : Mine) : (slP H es A bm).length = H.length + 1 := by
  have key : ∀ (A : List Nat) (H : Heap), (pins H A).length = H.length := by
    intro A
    induction A with
    | nil => intro H; rfl
    | cons a A ih => intro H; rw [pins, ih]; simp
  simp [key]

theorem slP_ok {H : Heap} {ws : List World} {fa fb : Nat → Nat} {es : List D} (rp : Rp H 3 es fa fb ws) {m bm : Mine} (h1 : H[1]? = some (.box [.ref 3 0 ws.length])) (h2 : H[2]? = some (.box [.nil])) :
    SlH (slP H es (rpA fa fb ws.length) bm ++ cpH (H.length + 1) ws ++ [.box [.ref (H.length + 1) 0 ws.length]]) ws bm H.length ((slP H es (rpA fa fb ws.length) bm).length + (cpH (H.length + 1) ws).length) (H.length + 1)
      ((List.range ws.length).map (cpEl (H.length + 1) ws)) (fun j => H.length + 1 + 2 * j + 1) (fun j => H.length + 1 + 2 * j + 2) (3 :: rpA fa fb ws.length) ws := by
  have pl := slP_len H es (rpA fa fb ws.length) bm
  have l3 := hp_lt rp.arr
  have low : ∀ {k : Nat}, k < H.length + 1 → (slP H es (rpA fa fb ws.length) bm ++ cpH (H.length + 1) ws ++ [.box [.ref (H.length + 1) 0 ws.length]])[k]? = (slP H es (rpA fa fb ws.length) bm)[k]? := fun {k} hk => by
    rw [List.append_assoc, hp_get (by omega)]
  have bx : ∀ {k : Nat} {cs : List D}, H[k]? = some (.box cs) → (slP H es (rpA fa fb ws.length) bm ++ cpH (H.length + 1) ws ++ [.box [.ref (H.length + 1) 0 ws.length]])[k]? = some (.box cs) := fun {k cs} hk => by
    have := hp_lt hk
    rw [low (by omega)]
    refine pins_box ?_
    have ne : 3 ≠ k := fun e => by rw [← e, rp.arr] at hk; cases hk
    rw [hp_get (by rw [List.length_set]; exact this), hp_set_ne ne]; exact hk
  have ar : ∀ {k sz ep : Nat} {pin : Bool} {es' : List D}, H[k]? = some (.arr sz pin ep es') → ∃ pin', (slP H es (rpA fa fb ws.length) bm ++ cpH (H.length + 1) ws ++ [.box [.ref (H.length + 1) 0 ws.length]])[k]? = some (.arr sz pin' ep es') := fun {k sz ep pin es'} hk => by
    have := hp_lt hk
    rw [low (by omega)]
    by_cases e : k = 3
    · subst e
      rw [rp.arr] at hk; cases hk
      exact pins_arr (pin := true) (by rw [hp_get (by rw [List.length_set]; exact this), hp_set_get l3])
    · exact pins_arr (pin := pin) (by rw [hp_get (by rw [List.length_set]; exact this), hp_set_ne (fun x => e x.symm)]; exact hk)
  obtain ⟨f1, f2⟩ := rp.frzK 3
  have inA : ∀ i ∈ (3 :: rpA fa fb ws.length), ∃ sz ep es', H[i]? = some (.arr sz false ep es') := by
    intro i hi
    rcases List.mem_cons.1 hi with rfl | hi
    · exact ⟨_, _, _, rp.arr⟩
    · obtain ⟨j, hj, hi⟩ := List.mem_flatMap.1 hi
      have hj := List.mem_range.1 hj
      simp only [List.mem_cons, List.not_mem_nil, or_false] at hi
      rcases hi with rfl | rfl
      · exact ⟨_, _, _, rp.ha j hj⟩
      · exact ⟨_, _, _, rp.hb j hj⟩
  have fc := frz_congr (H := H) (H' := slP H es (rpA fa fb ws.length) bm ++ cpH (H.length + 1) ws ++ [.box [.ref (H.length + 1) 0 ws.length]]) 7 (.ref 3 0 ws.length) (fun i hi => by
    rw [f2] at hi
    obtain ⟨sz, ep, es', e⟩ := inA i hi
    obtain ⟨pin', e'⟩ := ar e
    exact ⟨sz, false, pin', ep, es', e, e'⟩)
  refine ⟨bx h1, bx h2, ?_, ?_, cp_Rp pl ws _, fun i hi => ?_, fun i hi j hj => ?_, by rw [fc.2, f2]; rfl, by rw [fc.1, f1]⟩
  · rw [low (by omega)]
    refine pins_box ?_
    rw [List.getElem?_append_right (by simp)]; simp
  · rw [hp2_get]; rfl
  · obtain ⟨sz, ep, es', e⟩ := inA i hi
    obtain ⟨pin', e'⟩ := ar e
    exact ⟨sz, pin', ep, es', e'⟩
  · obtain ⟨sz, ep, es', e⟩ := inA i hi
    have := hp_lt e
    omega
theorem tidy_ok0 (l : List World) (h0 : 1 ≤ l.length) (hl : l.length ≤ 100000) (hs : ∀ x ∈ l, x.sz) :
    CALL 0 N.ref26_Tidy [.t (.sl (l.map World.e))] [] = some (.t (.sl ((tidyF l).map World.e)), []) := by
  refine CALL_of K.t_ref26_Tidy rfl ?_
  have loop : ∀ a b c : D, ∃ q, exS CALL K.ref26_Tidy_l1 ⟨[.t (.sl (l.map World.e)), a, .nil, I 0, b, c], []⟩ = some q ∧ ∃ v H, q = (.exit 0, ⟨[.t (.sl (l.map World.e)), .und, v, I l.length, .und, .und], H⟩) ∧ Rep H v (tidyF l) := by
    intro a b c
    refine loop_inv (fun j st => ∃ v H, st = ⟨[.t (.sl (l.map World.e)), .und, v, I j, .und, .und], H⟩ ∧ Rep H v (tidyN l j)) l.length _ ⟨.nil, [], rfl, .inl ⟨rfl, rfl⟩⟩ ?_ ?_
    · rintro j st hj ⟨v, H, rfl, hr⟩
      have ln := tidyN_len l j
      obtain ⟨v', H', h1, h2⟩ := tidy_round l j hj (by omega) (tidyN l j) (by omega) (tidyN_sz hs j (by omega)) (hs _ (nth_mem hj)) H v hr
      exact ⟨_, h1, v', H', rfl, h2⟩
    · rintro st ⟨v, H, rfl, hr⟩
      refine ⟨(.exit 0, ⟨[.t (.sl (l.map World.e)), .und, v, I l.length, .und, .und], H⟩), ?_, by simp, v, H, rfl, hr⟩
      simp (disch := omega) only [go_sem, K.ref26_Tidy_l1b, ↓reduceIte, Nat.reduceAdd, Nat.reduceSub]
  obtain ⟨q, hq, v, H, rfl, hr⟩ := loop .nil .und .und
  have nz : 1 ≤ (tidyF l).length := by
    unfold tidyF
    cases hn : l.length with
    | zero => omega
    | succ n => exact (tidy1_len _ _).2.2
  rcases hr with ⟨rfl, he⟩ | ⟨id, es, fa, fb, rfl, h0, hr⟩
  · rw [he] at nz; simp at nz
  · obtain ⟨f1, f2⟩ := hr.frzK 4
    have fin : finish 0 0 H [.ref id 0 (tidyF l).length] = some (.t (.sl ((tidyF l).map World.e)), []) := by
      unfold finish
      simp only [argD, depth, f1, mapO, Option.map_some, Option.bind_some, if_true, List.all_cons, List.all_nil, old, List.take_zero, Bool.and_true, Nat.zero_le, decide_true, tupOf]
      simp
    simp (disch := omega) only [go_sem, K.ref26_Tidy, ↓reduceIte, Nat.reduceAdd, Nat.reduceSub, hq, fin]


/-- A belief behind barriers. -/
def sealBel (m : Mine) (b : Bel) (bars : List Int) (t : Int) : Bel × Int :=
  if belB m b = false then (b, 6) else if (barredF m bars).2 ≠ 0 then (b, (barredF m bars).2) else if (List.range b.worlds.length).any (lateX t b.worlds) = true then (b, 8)
  else (⟨tidyF (sealXs (barredF m bars).1 t b.worlds b.worlds.length)⟩, 0)

theorem bel_whOk {m : Mine} {b : Bel} (h : belB m b = true) : ∀ x ∈ b.worlds, ∀ w ∈ x.whr, whOk m.places.length w := by
  obtain ⟨w1, w2, f1, f2, w5⟩ := belB_spec h
  intro x hx w hw
  obtain ⟨i, hi, rfl⟩ := List.getElem_of_mem hx
  have e : nth b.worlds i = b.worlds[i] := nth_eq (List.getElem?_eq_getElem hi)
  have q := w5 i hi
  have q' := q
  unfold worldB at q
  obtain ⟨q1, q2, -⟩ := worldB_spec q'
  simp only [Bool.and_eq_true, List.all_eq_true, List.mem_range] at q
  rw [← e] at hw
  obtain ⟨k, hk, rfl⟩ := List.getElem_of_mem hw
  have e2 : nth (nth b.worlds i).whr k = (nth b.worlds i).whr[k] := nth_eq (List.getElem?_eq_getElem hk)
  have := q.2 k (by omega)
  unfold whoB at this
  rw [Bool.and_eq_true] at this
  obtain ⟨p1, p2, p3, -⟩ := validB_spec this.2
  rw [e2] at p1 p2 p3
  exact ⟨p2.1, p1, fun y hy => plT_bnd (p3 y hy)⟩

theorem Rp.in7 {H : Heap} {id : Nat} {es : List D} {fa fb : Nat → Nat} {out : List World} (hr : Rp H id es fa fb out) : mapO (Go.Ev.frz H 7) es = some (out.map World.e) ∧ arrsL H 7 es = rpA fa fb out.length := by
  obtain ⟨h1, h2⟩ := hr.frzK 4
  constructor
  · simp only [Go.Ev.frz, arrAt, hr.arr] at h1
    rw [if_pos (by simp [hr.len]), Option.bind_some] at h1
    obtain ⟨x, hx, he⟩ := Option.map_eq_some_iff.1 h1
    cases he
    exact hx
  · simp only [arrs, hr.arr] at h2
    exact (List.cons.inj h2).2

/-- The part behind the first copy. -/
theorem seal_A {m : Mine} (hm : m.ok) (ws : List World) (hs : (Bel.mk ws).sz) (bars : List Int) (hb : bars.length ≤ 1000000) (t : Int) (H : Heap) (es : List D) (fa fb : Nat → Nat) (h0 : H[0]? = some (.box (mineCells m))) (h1 : H[1]? = some (.box [.ref 3 0 ws.length]))
    (h2 : H[2]? = some (.box [.nil])) (rp : Rp H 3 es fa fb ws) (v0 v1 v8 v9 v10 v11 v12 v13 : D) :
    ∃ vs' H', exS CALL K.ref32_Seal.body.snd.snd ⟨[v0, v1, .t (tL bars), I t, .bp 0 0, .bp 1 0, .bp 2 0, I 0, v8, v9, v10, v11, v12, v13], H⟩ = some (.ret, ⟨vs', H'⟩) ∧ vs'[6]? = some (.bp 2 0) ∧ vs'[7]? = some (I (sealBel m ⟨ws⟩ bars t).2) ∧
      ∃ c, H'[2]? = some (.box [c]) ∧ frz H' 7 c = some (.sl ((sealBel m ⟨ws⟩ bars t).1.worlds.map World.e)) := by
  have vb := belB_ok hm ⟨ws⟩ hs
  have l3 := hp_lt rp.arr
  have h3 := rp.arr
  have el := rp.len
  obtain ⟨f6, a6⟩ := rp.in6
  obtain ⟨fz, -⟩ := rp.frzK 3
  have hs1 := hs.1
  simp only at hs1
  -- what is returned unchanged
  have back : ∀ tt : Heap, SlE ws (H.set 2 (.box [.ref 3 0 ws.length]) ++ tt) := fun tt => by
    have fc := frz_congr (H := H) (H' := H.set 2 (.box [.ref 3 0 ws.length]) ++ tt) 7 (.ref 3 0 ws.length) (fun i hi => by
      rw [(rp.frzK 3).2] at hi
      have : ∃ sz ep es', H[i]? = some (.arr sz false ep es') := by
        rcases List.mem_cons.1 hi with rfl | hi
        · exact ⟨_, _, _, rp.arr⟩
        · obtain ⟨j, hj, hi⟩ := List.mem_flatMap.1 hi
          have hj := List.mem_range.1 hj
          simp only [List.mem_cons, List.not_mem_nil, or_false] at hi
          rcases hi with rfl | rfl
          · exact ⟨_, _, _, rp.ha j hj⟩
          · exact ⟨_, _, _, rp.hb j hj⟩
      obtain ⟨sz, ep, es', e⟩ := this
      have ne : 2 ≠ i := fun x => by rw [← x, h2] at e; cases e
      exact ⟨sz, false, false, ep, es', e, by rw [hp_get (by rw [List.length_set]; exact hp_lt e), hp_set_ne ne]; exact e⟩)
    exact ⟨by rw [hp_get (by rw [List.length_set]; exact hp_lt h2)]; exact hp_set_get (hp_lt h2), by rw [fc.1, fz]⟩
  have back0 := back []
  rw [List.append_nil] at back0
  unfold sealBel
  cases hv : belB m ⟨ws⟩ with
  | false =>
    rw [hv] at vb
    refine ⟨[v0, v1, .t (tL bars), I t, .bp 0 0, .bp 1 0, .bp 2 0, I 6, v8, v9, v10, v11, v12, v13], H.set 2 (.box [.ref 3 0 ws.length]), ?_, rfl, by rw [if_pos rfl]; rfl, .ref 3 0 ws.length, back0.1, by rw [if_pos rfl]; exact back0.2⟩
    obtain ⟨places, roads⟩ := m
    simp only [mineCells] at *
    simp (disch := omega) only [go_sem, K.ref32_Seal, C.snd, ↓reduceIte, h0, h1, h2, h3, el, f6, a6, vb, Nat.reduceAdd, Nat.reduceSub]
  | true =>
    rw [hv] at vb
    rw [if_neg (by simp)]
    have br := barred_ok hm bars hb
    by_cases e0 : (barredF m bars).2 = 0
    rotate_left
    · rw [if_pos e0]
      generalize (barredF m bars).2 = ee at *
      generalize (barredF m bars).1 = bm at *
      refine ⟨[v0, v1, .t (tL bars), I t, .bp 0 0, .bp 1 0, .bp 2 0, I ee, .bp H.length 0, I ee, v10, v11, v12, v13], H.set 2 (.box [.ref 3 0 ws.length]) ++ [.box (mineCells bm)], ?_, rfl, rfl, .ref 3 0 ws.length, (back _).1, (back _).2⟩
      · obtain ⟨places, roads⟩ := m
        obtain ⟨bp, brd⟩ := bm
        simp only [mineCells] at *
        simp (disch := omega) only [go_sem, K.ref32_Seal, C.snd, ↓reduceIte, h0, h1, h2, h3, el, f6, a6, vb, br, e0, hp_set, hp_get, hp_get_len, hp_set_len, List.set_cons_zero, Nat.reduceAdd, Nat.reduceSub]
    · rw [if_neg (fun h => h e0)]
      have sb : setB bars m.roads.length = true := by
        unfold barredF at e0
        split at e0
        · cases e0
        · rename_i h; simpa using h
      have eb : barredF m bars = (barMine m bars, 0) := by unfold barredF; rw [if_neg (by rw [sb]; simp)]
      have bmo := barMine_ok hm sb
      have bpl : (barMine m bars).places.length = m.places.length := rfl
      rw [eb] at br ⊢
      simp only at br ⊢
      have wok := bel_whOk hv
      rw [← bpl] at wok
      generalize barMine m bars = bm at *
      have sl := slP_ok rp (bm := bm) (m := m) h1 h2
      have f6' := fun tt => (rp.app tt).in6.1
      have a6' := fun tt => (rp.app tt).in6.2
      have cb := copyBel_ok2 ⟨ws⟩ hs
      have loop := fun z0 z1 z12 z13 => sl_l1 bmo (t := t) sl hs1 hs.2 wok z0 z1 (.t (tL bars)) (.bp 0 0) (I 0) (I 0) z12 z13
      obtain ⟨q, hq, hQ⟩ := loop v0 v1 v12 v13
      by_cases la : (List.range ws.length).any (lateX t ws) = true
      · rw [if_pos la] at hQ ⊢
        obtain ⟨vs, H', rfl, g1, g2⟩ := hQ
        refine ⟨[.und, .und, .und, I t, .und, .bp 1 0, .bp 2 0, I 8] ++ vs, H', ?_, rfl, rfl, _, g1, g2⟩
        clear loop wok sl back back0
        obtain ⟨places, roads⟩ := m
        obtain ⟨bp, brd⟩ := bm
        simp only [mineCells, slP] at *
        simp (disch := omega) only [go_sem, K.ref32_Seal, C.snd, ↓reduceIte, h0, h1, h2, h3, el, f6, a6, f6', a6', vb, br, cb, callW_cp, hp_set, hp_get, hp_get_len, hp_set_len, hp2_get, hp2_set, List.set_cons_zero, hq, Nat.reduceAdd, Nat.reduceSub]
      · rw [if_neg la] at hQ ⊢
        obtain ⟨H', rfl, h'⟩ := hQ
        have ol := sealXs_len bm t ws ws.length
        have szs : ∀ x ∈ sealXs bm t ws ws.length, x.sz := by
          intro x hx
          obtain ⟨i, hi, rfl⟩ := List.getElem_of_mem hx
          have e : nth (sealXs bm t ws ws.length) i = (sealXs bm t ws ws.length)[i] := nth_eq (List.getElem?_eq_getElem hi)
          rw [← e, sealXs_nth _ _ _ _ _ (Nat.le_refl _), if_pos (by omega)]
          have hi' : i < ws.length := by omega
          obtain ⟨y1, y2, y3⟩ := hs.2 _ (nth_mem hi')
          refine ⟨y1, by simp only [sealW, sealWs_len]; exact y2, fun w hw => ?_⟩
          simp only [sealW] at hw
          obtain ⟨k, hk, rfl⟩ := List.getElem_of_mem hw
          have e2 : nth (sealWs bm t (nth ws i).whr (nth ws i).whr.length) k = (sealWs bm t (nth ws i).whr (nth ws i).whr.length)[k] := nth_eq (List.getElem?_eq_getElem hk)
          rw [sealWs_len] at hk
          rw [← e2, sealWs_nth _ _ _ _ _ (Nat.le_refl _), if_pos hk]
          have wk : whOk bm.places.length (nth (nth ws i).whr k) := wok _ (nth_mem hi') _ (nth_mem hk)
          obtain ⟨q1, q2, q3⟩ := wk
          have nl : ¬ lateP t (nth ws i).whr k = true := fun hc => la (List.any_eq_true.2 ⟨i, List.mem_range.2 hi', List.any_eq_true.2 ⟨k, List.mem_range.2 hk, hc⟩⟩)
          simp only [lateP, decide_eq_true_eq] at nl
          have cl := closeF_len bmo t (by unfold inT; omega) none (by simp) (l := sealN (nth (nth ws i).whr k).frm t (nth (nth ws i).whr k).frm.length) (by rw [sealN_len]; exact q2) (sealN_bnd q3 t _)
          simp only [sealF]
          have := bmo.np
          omega
        obtain ⟨w1, w2, f1, f2, w5⟩ := belB_spec hv
        have ty := tidy_ok0 (sealXs bm t ws ws.length) (by rw [ol]; exact w1) (by rw [ol]; simp only at w2; omega) szs
        have e1 := h'.hO
        have e2 := h'.rp.arr
        have e3 := h'.rp.len
        have g2 := h'.h2
        obtain ⟨f7, a7⟩ := h'.rp.in7
        rw [ol] at e3 a7 e1
        have pl := slP_len H es (rpA fa fb ws.length) bm
        have ne2 : (slP H es (rpA fa fb ws.length) bm).length + (cpH (H.length + 1) ws).length ≠ 2 := by rw [pl, cp_len]; omega
        have px : ∀ {k : Nat} {cs : List D}, H'[k]? = some (.box cs) → (pins (H'.set (H.length + 1) (.arr 2 true 0 ((List.range ws.length).map (cpEl (H.length + 1) ws)))) (rpA (fun j => H.length + 1 + 2 * j + 1) (fun j => H.length + 1 + 2 * j + 2) ws.length))[k]? = some (.box cs) := fun {k cs} hk => by
          have ne : H.length + 1 ≠ k := fun e => by rw [← e, e2] at hk; cases hk
          exact pins_box (by rw [hp_set_ne ne]; exact hk)
        have p1 := px e1
        have p2 := px g2
        have l1 := hp_lt p1
        have l2 := hp_lt p2
        generalize tidyF (sealXs bm t ws ws.length) = Z at *
        generalize sealXs bm t ws ws.length = Y at *
        refine ⟨[.und, .und, .und, I t, .und, .bp 1 0, .bp 2 0, I 0, .bp H.length 0, .und, .bp ((slP H es (rpA fa fb ws.length) bm).length + (cpH (H.length + 1) ws).length) 0, I ws.length, .und, .und], (((pins (H'.set (H.length + 1) (.arr 2 true 0 ((List.range ws.length).map (cpEl (H.length + 1) ws)))) (rpA (fun j => H.length + 1 + 2 * j + 1) (fun j => H.length + 1 + 2 * j + 2) ws.length)).set ((slP H es (rpA fa fb ws.length) bm).length + (cpH (H.length + 1) ws).length) (.box [.t (.sl (Z.map World.e))])).set 2 (.box [.t (.sl (Z.map World.e))])), ?_, rfl, rfl, .t (.sl (Z.map World.e)), ?_, by simp only [frz_t]⟩
        rotate_left
        · exact hp_set_get (by rw [List.length_set]; exact l2)
        clear loop wok sl back back0 px h'
        obtain ⟨places, roads⟩ := m
        obtain ⟨bp, brd⟩ := bm
        simp only [mineCells, slP] at *
        simp (disch := omega) only [go_sem, K.ref32_Seal, C.snd, ↓reduceIte, h0, h1, h2, h3, el, f6, a6, f6', a6', vb, br, cb, callW_cp, hp_set, hp_get, hp_get_len, hp_set_len, hp2_get, hp2_set, List.set_cons_zero, hq, e1, e2, e3, f7, a7, ty, p1, p2, hp_set_get, hp_set_ne, Nat.reduceAdd, Nat.reduceSub]

theorem argD_one {H : Heap} {c : D} {x : T} (h : frz H 7 c = some x) : argD H (mkA [c] (allT [c])) = some (.t (.agg [x])) := by
  have key : argD H (.agg [c]) = some (.t (.agg [x])) := by
    show ((mapO (frz H 7) [c]).map T.agg).map D.t = _
    simp only [mapO, h, Option.map_some, Option.bind_some]
  cases c with
  | t y =>
    rw [frz_t] at h; cases h; rfl
  | _ => exact key
theorem allGe_0 (l : List Nat) : allGe 0 l = true := by
  rw [← allGe_eq]; simp

theorem seal_ok {m : Mine} (hm : m.ok) (b : Bel) (hs : b.sz) (bars : List Int) (hb : bars.length ≤ 1000000) (t : Int) :
    CALL 0 N.ref32_Seal [.t m.e, .t b.e, .t (tL bars), I t] [] = some (.tup [.t (sealBel m b bars t).1.e, I (sealBel m b bars t).2], []) := by
  refine CALL_of K.t_ref32_Seal rfl ?_
  obtain ⟨ws⟩ := b
  have cb := copyBel_ok2 ⟨ws⟩ hs
  have rp := cp_Rp (X := [.box (mineCells m), .box [.ref 3 0 ws.length], .box [.nil]]) (s := 3) rfl ws []
  rw [List.append_nil] at rp
  obtain ⟨vs', H', hA, g6, g7, c, g2, gf⟩ := seal_A hm ws hs bars hb t ([.box (mineCells m), .box [.ref 3 0 ws.length], .box [.nil]] ++ cpH 3 ws) _ _ _ rfl rfl rfl rp (.t m.e) (.t (Bel.mk ws).e) .und .und .und .und .und .und
  generalize sealBel m ⟨ws⟩ bars t = R at *
  obtain ⟨⟨rw_⟩, e⟩ := R
  obtain ⟨places, roads⟩ := m
  simp only [mineCells, K.ref32_Seal, C.snd, List.cons_append, List.nil_append] at *
  clear rp
  simp (disch := omega) only [go_sem, K.ref32_Seal, ↓reduceIte, cb, backP_cp, ↓hA, g6, g7, g2, argD_one gf, allGe_0, Nat.reduceAdd, Nat.reduceSub, List.cons_append, List.nil_append]

end Go.Ev

/- Shots: the steps. -/
namespace Go.Ev
open Go
variable [Lib] [Has1] [Has2] [Has3] [Has4]

def safeF (x : Blast) (k : Keys) (b : Bel) : Bool := shotF x ⟨0, 0, 0, 0⟩ && keysF k && k.out && decide (0 < b.worlds.length) && clearF b x.area
theorem safe_ok (x : Blast) (k : Keys) (b : Bel) (hx : x.area.length ≤ 1000000) (hk : k.roads.length ≤ 1000000) (hk2 : k.keys.length ≤ 1000000) (hb : b.sz) : CALL 0 N.firing_Safe [.t x.e, .t k.e, .t b.e] [] = some (B (safeF x k b), []) := by
  refine CALL_of K.t_firing_Safe rfl ?_
  have v := fvalid_ok x (by omega) ⟨0, 0, 0, 0⟩
  have kv := kvalid_ok k (by omega) (by omega)
  have cl := clear_ok b hb x.area (by omega)
  unfold safeF
  generalize shotF x ⟨0, 0, 0, 0⟩ = r1 at *
  generalize keysF k = r2 at *
  generalize clearF b x.area = r3 at *
  have b1 := hb.1
  clear hb
  obtain ⟨area, hold, mis⟩ := x
  obtain ⟨roads, keys, out⟩ := k
  obtain ⟨xs⟩ := b
  simp only [Shot.e] at *
  cases r1
  · simp (disch := omega) only [go_sem, K.firing_Safe, ↓reduceIte, v, Nat.reduceAdd, Nat.reduceSub]
  cases r2
  · simp (disch := omega) only [go_sem, K.firing_Safe, ↓reduceIte, v, kv, Nat.reduceAdd, Nat.reduceSub]
  cases out
  · simp (disch := omega) only [go_sem, K.firing_Safe, ↓reduceIte, v, kv, Nat.reduceAdd, Nat.reduceSub]
  by_cases c : 0 < xs.length
  · simp (disch := omega) only [go_sem, K.firing_Safe, ↓reduceIte, v, kv, cl, Nat.reduceAdd, Nat.reduceSub]
  · simp (disch := omega) only [go_sem, K.firing_Safe, ↓reduceIte, v, kv, Nat.reduceAdd, Nat.reduceSub]

theorem shotF_b {x : Blast} {s : Shot} (h : shotF x s = true) : 1 ≤ x.hold ∧ x.hold ≤ 100000 ∧ 1 ≤ x.mis ∧ x.mis ≤ 100000 ∧ 0 ≤ s.ti ∧ s.ti ≤ 2147483648 := by
  simp only [shotF, Bool.and_eq_true, decide_eq_true_eq] at h
  omega

structure Req where
  x : Blast
  s : Shot
  k : Keys
  b : Bel
  t : Int
  from_ : Int
abbrev Req.e (r : Req) : T := .agg [tL r.x.area, tI r.x.hold, tI r.x.mis, tI r.s.st, tI r.s.fi, tI r.s.se, tI r.s.ti, tL r.k.roads, tL r.k.keys, .bool r.k.out, .sl (r.b.worlds.map World.e), tI r.t, tI r.from_]
def checkF (r : Req) (odd : Bool) : Int :=
  if shotF r.x r.s = false then 6 else if r.s.st ≠ r.from_ then 10 else if r.t < 0 ∨ ¬ (r.s.ti ≤ r.t ∧ r.t ≤ 2147483648) then 8 else if odd = true then 19 else
  if r.from_ ≠ 0 ∧ r.x.hold < r.t - r.s.ti then 10 else if keysF r.k = false ∨ r.k.out = false then 48 else if safeF r.x r.k r.b = false then 49 else 0
structure Req.sz (r : Req) : Prop where
  hx : r.x.area.length ≤ 1000000
  hk : r.k.roads.length ≤ 1000000
  hk2 : r.k.keys.length ≤ 1000000
  hb : r.b.sz
theorem fcheck_ok (r : Req) (hr : r.sz) (odd : Bool) : CALL 0 N.firing_request_check [.t r.e, B odd] [] = some (I (checkF r odd), []) := by
  refine CALL_of K.t_firing_request_check rfl ?_
  have v := fvalid_ok r.x (by have := hr.hx; omega) r.s
  have kv := kvalid_ok r.k (by have := hr.hk2; omega) (by have := hr.hk; omega)
  have sv := safe_ok r.x r.k r.b hr.hx hr.hk hr.hk2 hr.hb
  have tm := timely_ok r.s r.t
  have sb := shotF_b (x := r.x) (s := r.s)
  unfold checkF
  clear hr
  generalize shotF r.x r.s = r1 at *
  generalize keysF r.k = r2 at *
  generalize safeF r.x r.k r.b = r3 at *
  obtain ⟨⟨area, hold, mis⟩, ⟨st, fi, se, ti⟩, ⟨roads, keys, out⟩, ⟨xs⟩, t, fr⟩ := r
  simp only [Shot.e] at *
  cases r1
  · simp (disch := omega) only [go_sem, K.firing_request_check, ↓reduceIte, v, Nat.reduceAdd, Nat.reduceSub]
  have sb := sb rfl
  by_cases c1 : st = fr
  rotate_left
  · simp (disch := omega) only [go_sem, K.firing_request_check, ↓reduceIte, v, c1, Nat.reduceAdd, Nat.reduceSub, ne_eq, not_false_eq_true, reduceCtorEq]
  by_cases c2 : t < 0
  · simp (disch := omega) only [go_sem, K.firing_request_check, ↓reduceIte, v, c2, Nat.reduceAdd, Nat.reduceSub, ne_eq, not_true_eq_false, not_false_eq_true, reduceCtorEq, true_or]
  by_cases c3 : ti ≤ t ∧ t ≤ 2147483648
  rotate_left
  · simp only [c3, decide_false] at tm
    simp (disch := omega) only [go_sem, K.firing_request_check, ↓reduceIte, v, c2, c3, tm, Nat.reduceAdd, Nat.reduceSub, ne_eq, not_true_eq_false, not_false_eq_true, reduceCtorEq, or_true]
  simp only [c3, and_self, decide_true] at tm
  cases odd
  rotate_left
  · simp (disch := omega) only [go_sem, K.firing_request_check, ↓reduceIte, v, c2, c3, tm, Nat.reduceAdd, Nat.reduceSub, ne_eq, not_true_eq_false, not_false_eq_true, reduceCtorEq, and_self, or_self]
  by_cases c4 : fr = 0
  · subst c4
    cases r2
    · simp (disch := omega) only [go_sem, K.firing_request_check, ↓reduceIte, v, c2, c3, tm, kv, Nat.reduceAdd, Nat.reduceSub, ne_eq, not_true_eq_false, not_false_eq_true, reduceCtorEq, and_self, or_self, false_and, true_or]
    cases out
    · simp (disch := omega) only [go_sem, K.firing_request_check, ↓reduceIte, v, c2, c3, tm, kv, Nat.reduceAdd, Nat.reduceSub, ne_eq, not_true_eq_false, not_false_eq_true, reduceCtorEq, and_self, or_self, false_and, or_true]
    cases r3 <;> simp (disch := omega) only [go_sem, K.firing_request_check, ↓reduceIte, v, c2, c3, tm, kv, sv, Nat.reduceAdd, Nat.reduceSub, ne_eq, not_true_eq_false, not_false_eq_true, reduceCtorEq, and_self, or_self, false_and]
  · by_cases c5 : hold < t - ti
    · simp (disch := omega) only [go_sem, K.firing_request_check, ↓reduceIte, v, c2, c3, tm, c4, c5, Nat.reduceAdd, Nat.reduceSub, ne_eq, not_true_eq_false, not_false_eq_true, reduceCtorEq, and_self, or_self]
    cases r2
    · simp (disch := omega) only [go_sem, K.firing_request_check, ↓reduceIte, v, c2, c3, tm, kv, c4, c5, Nat.reduceAdd, Nat.reduceSub, ne_eq, not_true_eq_false, not_false_eq_true, reduceCtorEq, and_self, or_self, and_false, true_or]
    cases out
    · simp (disch := omega) only [go_sem, K.firing_request_check, ↓reduceIte, v, c2, c3, tm, kv, c4, c5, Nat.reduceAdd, Nat.reduceSub, ne_eq, not_true_eq_false, not_false_eq_true, reduceCtorEq, and_self, or_self, and_false, or_true]
    cases r3 <;> simp (disch := omega) only [go_sem, K.firing_request_check, ↓reduceIte, v, c2, c3, tm, kv, sv, c4, c5, Nat.reduceAdd, Nat.reduceSub, ne_eq, not_true_eq_false, not_false_eq_true, reduceCtorEq, and_self, or_self, and_false]
def armF (x : Blast) (s : Shot) (k : Keys) (b : Bel) (role t : Int) : Shot × Int :=
  if checkF ⟨x, s, k, b, t, 0⟩ (decide (role ≤ 0)) ≠ 0 then (s, checkF ⟨x, s, k, b, t, 0⟩ (decide (role ≤ 0))) else (⟨1, role, 0, t⟩, 0)
def agreeF (x : Blast) (s : Shot) (k : Keys) (b : Bel) (role t : Int) : Shot × Int :=
  if checkF ⟨x, s, k, b, t, 1⟩ (decide (role ≤ 0) || decide (role = s.fi)) ≠ 0 then (s, checkF ⟨x, s, k, b, t, 1⟩ (decide (role ≤ 0) || decide (role = s.fi))) else (⟨2, s.fi, role, t⟩, 0)
def fireF (x : Blast) (s : Shot) (k : Keys) (b : Bel) (t : Int) (fails : Bool) : Shot × Int :=
  if checkF ⟨x, s, k, b, t, 2⟩ false ≠ 0 then (s, checkF ⟨x, s, k, b, t, 2⟩ false) else (⟨if fails = true then 4 else 3, s.fi, s.se, t⟩, 0)
def abortF (x : Blast) (s : Shot) (t : Int) : Shot × Int :=
  if shotF x s = false then (s, 6) else if s.st = 0 then (s, 10) else if ¬ (s.ti ≤ t ∧ t ≤ 2147483648) then (s, 8) else if s.st = 4 ∧ t - s.ti < x.mis then (s, 10) else (⟨0, 0, 0, 0⟩, 0)
def dueF (x : Blast) (s : Shot) (t : Int) : Int :=
  if shotF x s = false ∨ t < s.ti then 0 else if s.st = 1 ∨ s.st = 2 then max 0 (x.hold - (t - s.ti)) else if s.st = 4 then max 0 (x.mis - (t - s.ti)) else 0

section
variable (x : Blast) (s : Shot) (k : Keys) (b : Bel) (hx : x.area.length ≤ 1000000) (hk : k.roads.length ≤ 1000000) (hk2 : k.keys.length ≤ 1000000) (hb : b.sz)
include hx hk hk2 hb
theorem arm_ok (role t : Int) : CALL 0 N.firing_Arm [.t x.e, .t s.e, .t k.e, .t b.e, I role, I t] [] = some (.tup [.t (armF x s k b role t).1.e, I (armF x s k b role t).2], []) := by
  refine CALL_of K.t_firing_Arm rfl ?_
  have c := fcheck_ok ⟨x, s, k, b, t, 0⟩ ⟨hx, hk, hk2, hb⟩ (decide (role ≤ 0))
  unfold armF
  generalize checkF ⟨x, s, k, b, t, 0⟩ (decide (role ≤ 0)) = e at *
  obtain ⟨area, hold, mis⟩ := x
  obtain ⟨st, fi, se, ti⟩ := s
  obtain ⟨roads, keys, out⟩ := k
  obtain ⟨xs⟩ := b
  simp only [Req.e] at *
  by_cases h : e = 0 <;> by_cases h2 : role ≤ 0 <;> simp only [h2, decide_true, decide_false] at c <;> simp (disch := omega) only [go_sem, K.firing_Arm, ↓reduceIte, h, c, Nat.reduceAdd, Nat.reduceSub, ne_eq, not_true_eq_false, not_false_eq_true, reduceCtorEq, Shot.e]
theorem agree_ok (role t : Int) : CALL 0 N.firing_Agree [.t x.e, .t s.e, .t k.e, .t b.e, I role, I t] [] = some (.tup [.t (agreeF x s k b role t).1.e, I (agreeF x s k b role t).2], []) := by
  refine CALL_of K.t_firing_Agree rfl ?_
  have c := fcheck_ok ⟨x, s, k, b, t, 1⟩ ⟨hx, hk, hk2, hb⟩ (decide (role ≤ 0) || decide (role = s.fi))
  unfold agreeF
  generalize checkF ⟨x, s, k, b, t, 1⟩ (decide (role ≤ 0) || decide (role = s.fi)) = e at *
  obtain ⟨area, hold, mis⟩ := x
  obtain ⟨st, fi, se, ti⟩ := s
  obtain ⟨roads, keys, out⟩ := k
  obtain ⟨xs⟩ := b
  simp only [Req.e] at *
  by_cases h : e = 0 <;> by_cases h2 : role ≤ 0 <;> by_cases h3 : role = fi <;> simp only [h2, h3, decide_true, decide_false, Bool.or_true, Bool.or_false] at c <;> simp (disch := omega) only [go_sem, K.firing_Agree, ↓reduceIte, h, c, Nat.reduceAdd, Nat.reduceSub, ne_eq, not_true_eq_false, not_false_eq_true, reduceCtorEq, Shot.e]
theorem fire_ok (t : Int) (fails : Bool) : CALL 0 N.firing_Fire [.t x.e, .t s.e, .t k.e, .t b.e, I t, B fails] [] = some (.tup [.t (fireF x s k b t fails).1.e, I (fireF x s k b t fails).2], []) := by
  refine CALL_of K.t_firing_Fire rfl ?_
  have c := fcheck_ok ⟨x, s, k, b, t, 2⟩ ⟨hx, hk, hk2, hb⟩ false
  unfold fireF
  generalize checkF ⟨x, s, k, b, t, 2⟩ false = e at *
  obtain ⟨area, hold, mis⟩ := x
  obtain ⟨st, fi, se, ti⟩ := s
  obtain ⟨roads, keys, out⟩ := k
  obtain ⟨xs⟩ := b
  simp only [Req.e] at *
  by_cases h : e = 0 <;> cases fails <;> simp (disch := omega) only [go_sem, K.firing_Fire, ↓reduceIte, h, c, Nat.reduceAdd, Nat.reduceSub, ne_eq, not_true_eq_false, not_false_eq_true, reduceCtorEq, Shot.e]
end
theorem abort_ok (x : Blast) (s : Shot) (hx : x.area.length ≤ 1000000) (t : Int) : CALL 0 N.firing_Abort [.t x.e, .t s.e, I t] [] = some (.tup [.t (abortF x s t).1.e, I (abortF x s t).2], []) := by
  refine CALL_of K.t_firing_Abort rfl ?_
  have v := fvalid_ok x (by omega) s
  have tm := timely_ok s t
  have sb := shotF_b (x := x) (s := s)
  unfold abortF
  generalize shotF x s = r1 at *
  obtain ⟨area, hold, mis⟩ := x
  obtain ⟨st, fi, se, ti⟩ := s
  simp only [Shot.e] at *
  cases r1
  · simp (disch := omega) only [go_sem, K.firing_Abort, ↓reduceIte, v, Nat.reduceAdd, Nat.reduceSub]
  have sb := sb rfl
  by_cases c1 : st = 0
  · subst c1
    simp (disch := omega) only [go_sem, K.firing_Abort, ↓reduceIte, v, Nat.reduceAdd, Nat.reduceSub, reduceCtorEq]
  by_cases c3 : ti ≤ t ∧ t ≤ 2147483648
  rotate_left
  · simp only [c3, decide_false] at tm
    simp (disch := omega) only [go_sem, K.firing_Abort, ↓reduceIte, v, c1, c3, tm, Nat.reduceAdd, Nat.reduceSub, not_false_eq_true, reduceCtorEq]
  simp only [c3, and_self, decide_true] at tm
  by_cases c4 : st = 4
  · subst c4
    by_cases c5 : t - ti < mis
    · simp (disch := omega) only [go_sem, K.firing_Abort, ↓reduceIte, v, c1, c3, tm, c5, Nat.reduceAdd, Nat.reduceSub, not_false_eq_true, not_true_eq_false, reduceCtorEq, and_self]
    · simp (disch := omega) only [go_sem, K.firing_Abort, ↓reduceIte, v, c1, c3, tm, c5, Nat.reduceAdd, Nat.reduceSub, not_false_eq_true, not_true_eq_false, reduceCtorEq, and_self, and_false]
  · simp (disch := omega) only [go_sem, K.firing_Abort, ↓reduceIte, v, c1, c3, tm, c4, Nat.reduceAdd, Nat.reduceSub, not_false_eq_true, not_true_eq_false, reduceCtorEq, and_self, false_and]
end Go.Ev

/- Shots: the reference, and both agree. -/
namespace Go.Ev
open Go
variable [Lib] [Has1] [Has2] [Has3] [Has4]

def blastF (x : Blast) : Bool := decide (0 < x.area.length) && setB x.area 64 && decide (1 ≤ x.hold ∧ x.hold ≤ 100000) && decide (1 ≤ x.mis ∧ x.mis ≤ 100000)
theorem blast_ok (x : Blast) (hx : x.area.length ≤ 1000000) : CALL 0 N.ref34_blast [.t x.e] [] = some (B (blastF x), []) := by
  refine CALL_of K.t_ref34_blast rfl ?_
  have s := set_ok x.area 64 (by omega)
  unfold blastF
  generalize setB x.area 64 = r at *
  obtain ⟨area, hold, mis⟩ := x
  simp only at *
  by_cases c1 : 0 < area.length
  · cases r
    · simp (disch := omega) only [go_sem, K.ref34_blast, ↓reduceIte, s, c1]
    · by_cases h1 : 1 ≤ hold <;> by_cases h2 : hold ≤ 100000 <;> by_cases h3 : 1 ≤ mis <;> by_cases h4 : mis ≤ 100000 <;> simp (disch := omega) only [go_sem, K.ref34_blast, ↓reduceIte, s, c1, h1, h2, h3, h4]
  · simp (disch := omega) only [go_sem, K.ref34_blast, ↓reduceIte, c1]
theorem shotF_ref (x : Blast) (s : Shot) : shotF x s = (blastF x && (decide (0 ≤ s.st ∧ s.st ≤ 4) && decide (0 ≤ s.ti ∧ s.ti ≤ 2147483648)) && stateF s) := by
  have e := ris_set x.area 64
  have e : risB x.area 0 63 = setB x.area 64 := e
  unfold shotF blastF
  rw [e]
  generalize setB x.area 64 = r
  have e2 : (!decide (x.area.length = 0)) = decide (0 < x.area.length) := by
    by_cases h : x.area.length = 0
    · simp [h]
    · simp [h]; omega
  rw [e2]
  have e3 : stateF s = true → 0 ≤ s.st ∧ s.st ≤ 4 := by
    unfold stateF
    intro h
    split at h; · omega
    split at h; · omega
    split at h; · omega
    cases h
  cases hs : stateF s with
  | false => simp
  | true =>
    have := e3 hs
    simp only [this, and_self, decide_true, Bool.true_and, Bool.and_true]

theorem rvalid_ok (x : Blast) (hx : x.area.length ≤ 1000000) (s : Shot) : CALL 0 N.ref34_Valid [.t x.e, .t s.e] [] = some (B (shotF x s), []) := by
  refine CALL_of K.t_ref34_Valid rfl ?_
  have b := blast_ok x hx
  rw [shotF_ref]
  generalize blastF x = r at *
  obtain ⟨area, hold, mis⟩ := x
  obtain ⟨st, fi, se, ti⟩ := s
  simp only at *
  cases r
  · simp (disch := omega) only [go_sem, K.ref34_Valid, ↓reduceIte, b]
  by_cases h1 : 0 ≤ st
  rotate_left
  · simp (disch := omega) only [go_sem, K.ref34_Valid, ↓reduceIte, b, h1, false_and, decide_false, Bool.false_and, Bool.and_false]
  by_cases h2 : st ≤ 4
  rotate_left
  · simp (disch := omega) only [go_sem, K.ref34_Valid, ↓reduceIte, b, h1, h2, and_false, decide_false, Bool.false_and, Bool.and_false]
  by_cases h3 : 0 ≤ ti
  rotate_left
  · simp (disch := omega) only [go_sem, K.ref34_Valid, ↓reduceIte, b, h1, h2, h3, false_and, decide_false, Bool.false_and, Bool.and_false]
  by_cases h4 : ti ≤ 2147483648
  rotate_left
  · simp (disch := omega) only [go_sem, K.ref34_Valid, ↓reduceIte, b, h1, h2, h3, h4, and_false, decide_false, Bool.false_and, Bool.and_false]
  unfold stateF
  simp only [h1, h2, h3, h4, and_self, decide_true, Bool.true_and]
  by_cases s0 : st = 0
  · subst s0
    by_cases c1 : fi = 0 <;> by_cases c2 : se = 0 <;> by_cases c3 : ti = 0 <;> simp (disch := omega) only [go_sem, K.ref34_Valid, ↓reduceIte, b]
  by_cases s1 : st = 1
  · subst s1
    by_cases c1 : 0 < fi <;> by_cases c2 : se = 0 <;> simp (disch := omega) only [go_sem, K.ref34_Valid, ↓reduceIte, b, s0]
  have s2 : st = 2 ∨ st = 3 ∨ st = 4 := by omega
  rw [if_neg s0, if_neg s1, if_pos s2]
  by_cases c1 : 0 < fi <;> by_cases c2 : 0 < se <;> by_cases c3 : fi = se <;> simp (disch := omega) only [go_sem, K.ref34_Valid, ↓reduceIte, b]

/- keys -/
def rkP (k : Keys) (j : Nat) : Bool := decide (nth k.keys j < 0) || decide (2 < nth k.keys j) || (k.out && !decide (nth k.keys j = 2))
theorem rkP_any (k : Keys) : (!(List.range k.keys.length).any (rkP k)) = (!(k.keys.any fun x => !decide (0 ≤ x ∧ x ≤ 2)) && (!k.out || boxedF k.keys)) := by
  have ea : (List.range k.keys.length).any (rkP k) = k.keys.any (fun x => decide (x < 0) || decide (2 < x) || (k.out && !decide (x = 2))) := any_rng k.keys (fun x => decide (x < 0) || decide (2 < x) || (k.out && !decide (x = 2)))
  rw [ea]
  unfold boxedF
  rw [Bool.eq_iff_iff]
  cases k.out <;> simp
  constructor
  · intro h
    exact ⟨fun x hx => (h x hx).1, fun x hx => (h x hx).2⟩
  · rintro ⟨h1, h2⟩ x hx
    exact ⟨h1 x hx, h2 x hx⟩
theorem rkeys_ok (k : Keys) (hl : k.keys.length ≤ 1000000) (hr : k.roads.length ≤ 1000000) : CALL 0 N.ref33_Valid [.t k.e] [] = some (B (keysF k), []) := by
  refine CALL_of K.t_ref33_Valid rfl ?_
  have s := set_ok k.roads 128 (by omega)
  have e := rkP_any k
  have e2 : risB k.roads 0 127 = setB k.roads 128 := ris_set k.roads 128
  have e3 : keysF k = (kroadsF k.roads && decide (k.keys.length = k.roads.length) && !(List.range k.keys.length).any (rkP k)) := by rw [e]; unfold keysF; simp only [Bool.and_assoc]
  rw [e3]
  unfold kroadsF
  rw [e2]
  have loop : ∀ a : D, exS CALL K.ref33_Valid_l1 ⟨[a, .bp 0 0, B false, I 0], [.box [.t (tL k.roads), .t (tL k.keys), B k.out]]⟩ =
      some (if (List.range k.keys.length).any (rkP k) = true
        then (.ret, ⟨[.und, .bp 0 0, B false, I (firstN k.keys.length (rkP k))], [.box [.t (tL k.roads), .t (tL k.keys), B k.out]]⟩)
        else (.exit 0, ⟨[.und, .bp 0 0, .und, I k.keys.length], [.box [.t (tL k.roads), .t (tL k.keys), B k.out]]⟩)) := by
    intro a
    refine loop_srch (fun j => ⟨[.und, .bp 0 0, .und, I j], [.box [.t (tL k.roads), .t (tL k.keys), B k.out]]⟩) k.keys.length (rkP k) (fun j => (.ret, ⟨[.und, .bp 0 0, B false, I j], [.box [.t (tL k.roads), .t (tL k.keys), B k.out]]⟩)) _ rfl ?_ ?_ ?_ (by simp)
    · intro j hj hp
      simp only [rkP, Bool.or_eq_false_iff, decide_eq_false_iff_not, Bool.and_eq_false_imp] at hp
      obtain ⟨⟨h1, h2⟩, h3⟩ := hp
      cases ho : k.out with
      | false => simp (disch := omega) only [go_sem, K.ref33_Valid_l1b, ↓reduceIte]
      | true =>
        have h3 := h3 ho
        simp only [Bool.not_eq_false', decide_eq_true_eq] at h3
        simp (disch := omega) only [go_sem, K.ref33_Valid_l1b, ↓reduceIte]
    · intro j hj hp
      refine ⟨?_, by simp⟩
      unfold rkP at hp
      by_cases h1 : nth k.keys j < 0
      · simp (disch := omega) only [go_sem, K.ref33_Valid_l1b, ↓reduceIte]
      by_cases h2 : 2 < nth k.keys j
      · simp (disch := omega) only [go_sem, K.ref33_Valid_l1b, ↓reduceIte]
      simp only [h1, h2, decide_false, Bool.false_or, Bool.and_eq_true, Bool.not_eq_true', decide_eq_false_iff_not] at hp
      obtain ⟨h3, h4⟩ := hp
      simp (disch := omega) only [go_sem, K.ref33_Valid_l1b, ↓reduceIte, h3]
    · simp (disch := omega) only [go_sem, K.ref33_Valid_l1b, ↓reduceIte]
  generalize setB k.roads 128 = r at *
  generalize (List.range k.keys.length).any (rkP k) = r2 at *
  generalize firstN k.keys.length (rkP k) = r3 at *
  obtain ⟨roads, keys, out⟩ := k
  simp only at *
  clear e e2 e3
  by_cases c1 : 1 ≤ roads.length
  rotate_left
  · simp (disch := omega) only [go_sem, K.ref33_Valid, ↓reduceIte]
  by_cases c2 : roads.length ≤ 12
  rotate_left
  · simp (disch := omega) only [go_sem, K.ref33_Valid, ↓reduceIte]
  cases r
  · simp (disch := omega) only [go_sem, K.ref33_Valid, ↓reduceIte, s]
  have c3 : decide (1 ≤ (roads.length : Int) ∧ (roads.length : Int) ≤ 12) = true := by simp; omega
  rw [c3]
  by_cases c4 : keys.length = roads.length
  rotate_left
  · simp (disch := omega) only [go_sem, K.ref33_Valid, ↓reduceIte, s, c4]
  cases r2
  · simp only [Bool.false_eq_true, if_false] at loop
    simp (disch := omega) only [go_sem, K.ref33_Valid, ↓reduceIte, s, c4, loop]
  · simp only [if_true] at loop
    simp (disch := omega) only [go_sem, K.ref33_Valid, ↓reduceIte, s, c4, loop]

/- clear areas -/
def rcP (area : List Int) (w : Wh) (p : Nat) : Bool := decide ((p : Int) ∈ area) && !decide (nth w.frm p = never)
theorem rcP_any (area : List Int) (w : Wh) : (List.range w.frm.length).any (rcP area w) = area.any (clrP w) := by
  rw [Bool.eq_iff_iff, List.any_eq_true, List.any_eq_true]
  constructor
  · rintro ⟨p, hp, h⟩
    simp only [rcP, Bool.and_eq_true, decide_eq_true_eq, Bool.not_eq_true', decide_eq_false_iff_not] at h
    have hp := List.mem_range.1 hp
    refine ⟨_, h.1, ?_⟩
    simp only [clrP, Bool.and_eq_true, decide_eq_true_eq, Bool.not_eq_true', decide_eq_false_iff_not, Int.toNat_natCast]
    exact ⟨by omega, h.2⟩
  · rintro ⟨p, hp, h⟩
    simp only [clrP, Bool.and_eq_true, decide_eq_true_eq, Bool.not_eq_true', decide_eq_false_iff_not] at h
    refine ⟨p.toNat, List.mem_range.2 (by omega), ?_⟩
    simp only [rcP, Bool.and_eq_true, decide_eq_true_eq, Bool.not_eq_true', decide_eq_false_iff_not]
    have e : ((p.toNat : Nat) : Int) = p := by omega
    rw [e]
    exact ⟨hp, h.2⟩

section
variable (area : List Int) (ha : area.length ≤ 1000000) (xs : List World) (hx : xs.length ≤ 1000000)
include ha hx
theorem rclear3_ok (i k : Nat) (w : Wh) (hw : w.frm.length ≤ 1000000) (a b : D) :
    exS CALL K.ref32_Clear_l3 ⟨[a, .t (tL area), .bp 0 0, b, I i, I k, .t (tL w.frm), I 0], [.box [.t (tX xs)]]⟩ =
    some (if area.any (clrP w) = true
      then (.ret, ⟨[.und, .t (tL area), .bp 0 0, B false, I i, I k, .t (tL w.frm), I (firstN w.frm.length (rcP area w))], [.box [.t (tX xs)]]⟩)
      else (.exit 4, ⟨[.und, .t (tL area), .bp 0 0, .und, I i, I k, .t (tL w.frm), I w.frm.length], [.box [.t (tX xs)]]⟩)) := by
  rw [← rcP_any]
  refine loop_srch (fun p => ⟨[.und, .t (tL area), .bp 0 0, .und, I i, I k, .t (tL w.frm), I p], [.box [.t (tX xs)]]⟩) w.frm.length (rcP area w) (fun p => (.ret, ⟨[.und, .t (tL area), .bp 0 0, B false, I i, I k, .t (tL w.frm), I p], [.box [.t (tX xs)]]⟩)) _ rfl ?_ ?_ ?_ (by simp)
  · intro p hp h
    have hs := has_ok area p (by omega)
    unfold rcP at h
    by_cases c : (p : Int) ∈ area
    · simp only [c, decide_true, Bool.true_and, Bool.not_eq_false', decide_eq_true_eq] at h hs
      simp (disch := omega) only [go_sem, K.ref32_Clear_l3b, ↓reduceIte, hs]
    · simp only [c, decide_false] at hs
      simp (disch := omega) only [go_sem, K.ref32_Clear_l3b, ↓reduceIte, hs]
  · intro p hp h
    refine ⟨?_, by simp⟩
    have hs := has_ok area p (by omega)
    simp only [rcP, Bool.and_eq_true, decide_eq_true_eq, Bool.not_eq_true', decide_eq_false_iff_not] at h
    obtain ⟨h1, h2⟩ := h
    simp only [h1, decide_true] at hs
    simp (disch := omega) only [go_sem, K.ref32_Clear_l3b, ↓reduceIte, hs]
  · simp (disch := omega) only [go_sem, K.ref32_Clear_l3b, ↓reduceIte]
theorem rclear2_ok (i : Nat) (hi : i < xs.length) (hw : (nth xs i).whr.length ≤ 1000000) (hf : ∀ w ∈ (nth xs i).whr, w.frm.length ≤ 1000000) (a b c d : D) :
    exS CALL K.ref32_Clear_l2 ⟨[a, .t (tL area), .bp 0 0, b, I i, I 0, c, d], [.box [.t (tX xs)]]⟩ =
    some (if (List.range (nth xs i).whr.length).any (clrW area (nth xs i).whr) = true
      then (.ret, ⟨[.und, .t (tL area), .bp 0 0, B false, I i, I (firstN (nth xs i).whr.length (clrW area (nth xs i).whr)), .t (tL (nth (nth xs i).whr (firstN (nth xs i).whr.length (clrW area (nth xs i).whr))).frm),
          I (firstN (nth (nth xs i).whr (firstN (nth xs i).whr.length (clrW area (nth xs i).whr))).frm.length (rcP area (nth (nth xs i).whr (firstN (nth xs i).whr.length (clrW area (nth xs i).whr)))))], [.box [.t (tX xs)]]⟩)
      else (.exit 2, ⟨[.und, .t (tL area), .bp 0 0, .und, I i, I (nth xs i).whr.length, .und, .und], [.box [.t (tX xs)]]⟩)) := by
  have g : (xs.map World.e)[i]? = some (nth xs i).e := map_nth _ hi
  have e := fun k => rclear3_ok area ha xs hx i k
  generalize nth xs i = x at *
  refine loop_srch (fun k => ⟨[.und, .t (tL area), .bp 0 0, .und, I i, I k, .und, .und], [.box [.t (tX xs)]]⟩) x.whr.length (clrW area x.whr)
    (fun k => (.ret, ⟨[.und, .t (tL area), .bp 0 0, B false, I i, I k, .t (tL (nth x.whr k).frm), I (firstN (nth x.whr k).frm.length (rcP area (nth x.whr k)))], [.box [.t (tX xs)]]⟩)) _ rfl ?_ ?_ ?_ (by simp)
  · intro k hk h
    have g2 : (x.whr.map Wh.e)[k]? = some (nth x.whr k).e := map_nth _ hk
    have f := hf _ (nth_mem hk)
    have l3 := fun a b => e k (nth x.whr k) (by omega) a b
    have h : area.any (clrP (nth x.whr k)) = false := h
    simp only [h, Bool.false_eq_true, if_false] at l3
    clear h e hf
    generalize nth x.whr k = w at *
    obtain ⟨time, frm⟩ := w
    obtain ⟨tags, whr⟩ := x
    simp only at *
    simp (disch := omega) only [go_sem, K.ref32_Clear_l2b, ↓reduceIte, g, g2, l3]
  · intro k hk h
    refine ⟨?_, by simp⟩
    have g2 : (x.whr.map Wh.e)[k]? = some (nth x.whr k).e := map_nth _ hk
    have f := hf _ (nth_mem hk)
    have l3 := fun a b => e k (nth x.whr k) (by omega) a b
    have h : area.any (clrP (nth x.whr k)) = true := h
    simp only [h, if_true] at l3
    clear h e hf
    generalize nth x.whr k = w at *
    obtain ⟨time, frm⟩ := w
    obtain ⟨tags, whr⟩ := x
    simp only at *
    simp (disch := omega) only [go_sem, K.ref32_Clear_l2b, ↓reduceIte, g, g2, l3]
  · clear e hf
    obtain ⟨tags, whr⟩ := x
    simp only at *
    simp (disch := omega) only [go_sem, K.ref32_Clear_l2b, ↓reduceIte, g]
end
theorem rclear_ok (b : Bel) (hb : b.sz) (area : List Int) (ha : area.length ≤ 1000000) : CALL 0 N.ref32_Clear [.t b.e, .t (tL area)] [] = some (B (clearF b area), []) := by
  refine CALL_of K.t_ref32_Clear rfl ?_
  obtain ⟨xs⟩ := b
  obtain ⟨hb1, hb2⟩ := hb
  simp only at hb1 hb2
  have loop : ∀ a e f g : D, ∃ vs, exS CALL K.ref32_Clear_l1 ⟨[a, .t (tL area), .bp 0 0, B false, I 0, e, f, g], [.box [.t (tX xs)]]⟩ =
      some (if (List.range xs.length).any (clrB area xs) = true
        then (.ret, ⟨.und :: .t (tL area) :: .bp 0 0 :: B false :: vs, [.box [.t (tX xs)]]⟩)
        else (.exit 0, ⟨[.und, .t (tL area), .bp 0 0, .und, I xs.length, .und, .und, .und], [.box [.t (tX xs)]]⟩)) := by
    intro a e f g
    refine ⟨_, loop_srch (fun j => ⟨[.und, .t (tL area), .bp 0 0, .und, I j, .und, .und, .und], [.box [.t (tX xs)]]⟩) xs.length (clrB area xs)
      (fun i => (.ret, ⟨.und :: .t (tL area) :: .bp 0 0 :: B false :: [I i, I (firstN (nth xs i).whr.length (clrW area (nth xs i).whr)), .t (tL (nth (nth xs i).whr (firstN (nth xs i).whr.length (clrW area (nth xs i).whr))).frm),
          I (firstN (nth (nth xs i).whr (firstN (nth xs i).whr.length (clrW area (nth xs i).whr))).frm.length (rcP area (nth (nth xs i).whr (firstN (nth xs i).whr.length (clrW area (nth xs i).whr)))))], [.box [.t (tX xs)]]⟩)) _ rfl ?_ ?_ ?_ (by simp)⟩
    · intro j hj hp
      obtain ⟨s1, s2, s3⟩ := hb2 _ (nth_mem hj)
      have l2 := fun a b c d => rclear2_ok area ha xs hb1 j hj s2 s3 a b c d
      unfold clrB at hp
      rw [hp] at l2
      simp only [Bool.false_eq_true, ↓reduceIte] at l2
      simp (disch := omega) only [go_sem, K.ref32_Clear_l1b, ↓reduceIte, l2]
    · intro j hj hp
      refine ⟨?_, by simp⟩
      obtain ⟨s1, s2, s3⟩ := hb2 _ (nth_mem hj)
      have l2 := fun a b c d => rclear2_ok area ha xs hb1 j hj s2 s3 a b c d
      unfold clrB at hp
      rw [hp] at l2
      simp only [↓reduceIte] at l2
      simp (disch := omega) only [go_sem, K.ref32_Clear_l1b, ↓reduceIte, l2]
    · simp (disch := omega) only [go_sem, K.ref32_Clear_l1b, ↓reduceIte]
  unfold clearF
  obtain ⟨vs, loop⟩ := loop (.t (Bel.mk xs).e) .und .und .und
  simp only
  generalize (List.range xs.length).any (clrB area xs) = r at *
  cases r
  · simp only [Bool.false_eq_true, if_false] at loop
    simp (disch := omega) only [go_sem, K.ref32_Clear, ↓reduceIte, loop]
  · simp only [if_true] at loop
    simp (disch := omega) only [go_sem, K.ref32_Clear, ↓reduceIte, loop]
end Go.Ev

/- Shots: the reference's steps; both agree. -/
namespace Go.Ev
open Go
variable [Lib] [Has1] [Has2] [Has3] [Has4]

theorem safeF_ref (x : Blast) (k : Keys) (b : Bel) : safeF x k b = (blastF x && keysF k && k.out && decide (0 < b.worlds.length) && clearF b x.area) := by
  unfold safeF
  have e : shotF x ⟨0, 0, 0, 0⟩ = blastF x := by rw [shotF_ref]; have h : stateF ⟨0, 0, 0, 0⟩ = true := by decide
                                                 rw [h]; simp
  rw [e]
theorem rsafe_ok (x : Blast) (k : Keys) (b : Bel) (hx : x.area.length ≤ 1000000) (hk : k.roads.length ≤ 1000000) (hk2 : k.keys.length ≤ 1000000) (hb : b.sz) : CALL 0 N.ref34_Safe [.t x.e, .t k.e, .t b.e] [] = some (B (safeF x k b), []) := by
  refine CALL_of K.t_ref34_Safe rfl ?_
  have v := blast_ok x hx
  have kv := rkeys_ok k hk2 hk
  have cl := rclear_ok b hb x.area hx
  rw [safeF_ref]
  generalize blastF x = r1 at *
  generalize keysF k = r2 at *
  generalize clearF b x.area = r3 at *
  have b1 := hb.1
  clear hb
  obtain ⟨area, hold, mis⟩ := x
  obtain ⟨roads, keys, out⟩ := k
  obtain ⟨xs⟩ := b
  simp only at *
  cases r1
  · simp (disch := omega) only [go_sem, K.ref34_Safe, ↓reduceIte, v, Nat.reduceAdd, Nat.reduceSub]
  cases r2
  · simp (disch := omega) only [go_sem, K.ref34_Safe, ↓reduceIte, v, kv, Nat.reduceAdd, Nat.reduceSub]
  cases out
  · simp (disch := omega) only [go_sem, K.ref34_Safe, ↓reduceIte, v, kv, Nat.reduceAdd, Nat.reduceSub]
  by_cases c : 0 < xs.length
  · simp (disch := omega) only [go_sem, K.ref34_Safe, ↓reduceIte, v, kv, cl, Nat.reduceAdd, Nat.reduceSub]
  · simp (disch := omega) only [go_sem, K.ref34_Safe, ↓reduceIte, v, kv, Nat.reduceAdd, Nat.reduceSub]

theorem rstep_ok (r : Req) (hr : r.sz) (role : Int) : CALL 0 N.ref34_step [.t r.x.e, .t r.s.e, .t r.k.e, .t r.b.e, I r.from_, I role, I r.t] [] = some (I (checkF r (decide (role ≤ 0) || (decide (r.from_ = 1) && decide (role = r.s.fi)))), []) := by
  refine CALL_of K.t_ref34_step rfl ?_
  have v := rvalid_ok r.x hr.hx r.s
  have kv := rkeys_ok r.k hr.hk2 hr.hk
  have sv := rsafe_ok r.x r.k r.b hr.hx hr.hk hr.hk2 hr.hb
  have sb := shotF_b (x := r.x) (s := r.s)
  unfold checkF
  clear hr
  generalize shotF r.x r.s = r1 at *
  generalize keysF r.k = r2 at *
  generalize safeF r.x r.k r.b = r3 at *
  obtain ⟨⟨area, hold, mis⟩, ⟨st, fi, se, ti⟩, ⟨roads, keys, out⟩, ⟨xs⟩, t, fr⟩ := r
  simp only [Shot.e] at *
  cases r1
  · simp (disch := omega) only [go_sem, K.ref34_step, ↓reduceIte, v, Nat.reduceAdd, Nat.reduceSub]
  have sb := sb rfl
  by_cases c1 : st = fr
  rotate_left
  · simp (disch := omega) only [go_sem, K.ref34_step, ↓reduceIte, v, c1, Nat.reduceAdd, Nat.reduceSub, ne_eq, not_false_eq_true, reduceCtorEq]
  by_cases c2 : t < 0
  · simp (disch := omega) only [go_sem, K.ref34_step, ↓reduceIte, v, c2, Nat.reduceAdd, Nat.reduceSub, ne_eq, not_true_eq_false, not_false_eq_true, reduceCtorEq, true_or]
  by_cases c3 : ti ≤ t ∧ t ≤ 2147483648
  rotate_left
  · by_cases c3' : t ≤ 2147483648
    · simp (disch := omega) only [go_sem, K.ref34_step, ↓reduceIte, v, c2, c3, Nat.reduceAdd, Nat.reduceSub, ne_eq, not_true_eq_false, not_false_eq_true, reduceCtorEq, or_true]
    · simp (disch := omega) only [go_sem, K.ref34_step, ↓reduceIte, v, c2, c3, Nat.reduceAdd, Nat.reduceSub, ne_eq, not_true_eq_false, not_false_eq_true, reduceCtorEq, or_true]
  have c3a : (t < 0 ∨ ¬(ti ≤ t ∧ t ≤ 2147483648)) = False := by simp; omega
  by_cases o1 : role ≤ 0
  · simp (disch := omega) only [go_sem, K.ref34_step, ↓reduceIte, v, c3a, o1, decide_true, Bool.true_or, Nat.reduceAdd, Nat.reduceSub, ne_eq, not_true_eq_false, not_false_eq_true, reduceCtorEq]
  by_cases o2 : fr = 1 ∧ role = fi
  · obtain ⟨rfl, rfl⟩ := o2
    simp (disch := omega) only [go_sem, K.ref34_step, ↓reduceIte, v, c3a, o1, decide_true, decide_false, Bool.false_or, Bool.and_self, Nat.reduceAdd, Nat.reduceSub, ne_eq, not_true_eq_false, not_false_eq_true, reduceCtorEq]
  have o3 : (decide (role ≤ 0) || (decide (fr = 1) && decide (role = fi))) = false := by simp only [o1, decide_false, Bool.false_or]; simp; exact fun h h2 => o2 ⟨h, h2⟩
  simp only [o3]
  by_cases c4 : fr = 0
  · subst c4
    cases r2
    · simp (disch := omega) only [go_sem, K.ref34_step, ↓reduceIte, v, c3a, o1, kv, Nat.reduceAdd, Nat.reduceSub, ne_eq, not_true_eq_false, not_false_eq_true, reduceCtorEq, and_self, or_self, false_and, true_or, or_true, and_false, Bool.false_eq_true]
    cases out
    · simp (disch := omega) only [go_sem, K.ref34_step, ↓reduceIte, v, c3a, o1, kv, Nat.reduceAdd, Nat.reduceSub, ne_eq, not_true_eq_false, not_false_eq_true, reduceCtorEq, and_self, or_self, false_and, true_or, or_true, and_false, Bool.false_eq_true]
    cases r3 <;> simp (disch := omega) only [go_sem, K.ref34_step, ↓reduceIte, v, c3a, o1, kv, sv, Nat.reduceAdd, Nat.reduceSub, ne_eq, not_true_eq_false, not_false_eq_true, reduceCtorEq, and_self, or_self, false_and, true_or, or_true, and_false, Bool.false_eq_true]
  have hd : fr ≠ 1 ∨ (fr = 1 ∧ role ≠ fi) := by omega
  rcases hd with hd | ⟨hd1, hd⟩
  · by_cases c5 : hold < t - ti
    · simp (disch := omega) only [go_sem, K.ref34_step, ↓reduceIte, v, c3a, o1, c4, c5, Nat.reduceAdd, Nat.reduceSub, ne_eq, not_true_eq_false, not_false_eq_true, reduceCtorEq, and_self, or_self, false_and, true_or, or_true, and_false, Bool.false_eq_true]
    cases r2
    · simp (disch := omega) only [go_sem, K.ref34_step, ↓reduceIte, v, c3a, o1, c4, c5, kv, Nat.reduceAdd, Nat.reduceSub, ne_eq, not_true_eq_false, not_false_eq_true, reduceCtorEq, and_self, or_self, false_and, true_or, or_true, and_false, Bool.false_eq_true]
    cases out
    · simp (disch := omega) only [go_sem, K.ref34_step, ↓reduceIte, v, c3a, o1, c4, c5, kv, Nat.reduceAdd, Nat.reduceSub, ne_eq, not_true_eq_false, not_false_eq_true, reduceCtorEq, and_self, or_self, false_and, true_or, or_true, and_false, Bool.false_eq_true]
    cases r3 <;> simp (disch := omega) only [go_sem, K.ref34_step, ↓reduceIte, v, c3a, o1, c4, c5, kv, sv, Nat.reduceAdd, Nat.reduceSub, ne_eq, not_true_eq_false, not_false_eq_true, reduceCtorEq, and_self, or_self, false_and, true_or, or_true, and_false, Bool.false_eq_true]
  · subst hd1
    by_cases c5 : hold < t - ti
    · simp (disch := omega) only [go_sem, K.ref34_step, ↓reduceIte, v, c3a, o1, c4, c5, Nat.reduceAdd, Nat.reduceSub, ne_eq, not_true_eq_false, not_false_eq_true, reduceCtorEq, and_self, or_self, false_and, true_or, or_true, and_false, Bool.false_eq_true]
    cases r2
    · simp (disch := omega) only [go_sem, K.ref34_step, ↓reduceIte, v, c3a, o1, c4, c5, kv, Nat.reduceAdd, Nat.reduceSub, ne_eq, not_true_eq_false, not_false_eq_true, reduceCtorEq, and_self, or_self, false_and, true_or, or_true, and_false, Bool.false_eq_true]
    cases out
    · simp (disch := omega) only [go_sem, K.ref34_step, ↓reduceIte, v, c3a, o1, c4, c5, kv, Nat.reduceAdd, Nat.reduceSub, ne_eq, not_true_eq_false, not_false_eq_true, reduceCtorEq, and_self, or_self, false_and, true_or, or_true, and_false, Bool.false_eq_true]
    cases r3 <;> simp (disch := omega) only [go_sem, K.ref34_step, ↓reduceIte, v, c3a, o1, c4, c5, kv, sv, Nat.reduceAdd, Nat.reduceSub, ne_eq, not_true_eq_false, not_false_eq_true, reduceCtorEq, and_self, or_self, false_and, true_or, or_true, and_false, Bool.false_eq_true]

section
variable (x : Blast) (s : Shot) (k : Keys) (b : Bel) (hx : x.area.length ≤ 1000000) (hk : k.roads.length ≤ 1000000) (hk2 : k.keys.length ≤ 1000000) (hb : b.sz)
include hx hk hk2 hb
theorem rarm_ok (role t : Int) : CALL 0 N.ref34_Arm [.t x.e, .t s.e, .t k.e, .t b.e, I role, I t] [] = some (.tup [.t (armF x s k b role t).1.e, I (armF x s k b role t).2], []) := by
  refine CALL_of K.t_ref34_Arm rfl ?_
  have c := rstep_ok ⟨x, s, k, b, t, 0⟩ ⟨hx, hk, hk2, hb⟩ role
  have e0 : (decide (role ≤ 0) || (decide ((0 : Int) = 1) && decide (role = s.fi))) = decide (role ≤ 0) := by simp
  simp only [e0] at c
  unfold armF
  generalize checkF ⟨x, s, k, b, t, 0⟩ (decide (role ≤ 0)) = e at *
  clear e0
  obtain ⟨area, hold, mis⟩ := x
  obtain ⟨st, fi, se, ti⟩ := s
  obtain ⟨roads, keys, out⟩ := k
  obtain ⟨xs⟩ := b
  simp only [Req.e] at *
  by_cases h : e = 0 <;> simp (disch := omega) only [go_sem, K.ref34_Arm, ↓reduceIte, h, c, Nat.reduceAdd, Nat.reduceSub, ne_eq, not_true_eq_false, not_false_eq_true, reduceCtorEq, Shot.e]
theorem ragree_ok (role t : Int) : CALL 0 N.ref34_Agree [.t x.e, .t s.e, .t k.e, .t b.e, I role, I t] [] = some (.tup [.t (agreeF x s k b role t).1.e, I (agreeF x s k b role t).2], []) := by
  refine CALL_of K.t_ref34_Agree rfl ?_
  have c := rstep_ok ⟨x, s, k, b, t, 1⟩ ⟨hx, hk, hk2, hb⟩ role
  have e0 : (decide (role ≤ 0) || (decide ((1 : Int) = 1) && decide (role = s.fi))) = (decide (role ≤ 0) || decide (role = s.fi)) := by simp
  change _ = some (I (checkF ⟨x, s, k, b, t, 1⟩ (decide (role ≤ 0) || (decide ((1 : Int) = 1) && decide (role = s.fi)))), []) at c
  rw [e0] at c
  unfold agreeF
  generalize checkF ⟨x, s, k, b, t, 1⟩ (decide (role ≤ 0) || decide (role = s.fi)) = e at *
  clear e0
  obtain ⟨area, hold, mis⟩ := x
  obtain ⟨st, fi, se, ti⟩ := s
  obtain ⟨roads, keys, out⟩ := k
  obtain ⟨xs⟩ := b
  simp only [Req.e] at *
  by_cases h : e = 0 <;> simp (disch := omega) only [go_sem, K.ref34_Agree, ↓reduceIte, h, c, Nat.reduceAdd, Nat.reduceSub, ne_eq, not_true_eq_false, not_false_eq_true, reduceCtorEq, Shot.e]
theorem rfire_ok (t : Int) (fails : Bool) : CALL 0 N.ref34_Fire [.t x.e, .t s.e, .t k.e, .t b.e, I t, B fails] [] = some (.tup [.t (fireF x s k b t fails).1.e, I (fireF x s k b t fails).2], []) := by
  refine CALL_of K.t_ref34_Fire rfl ?_
  have c := rstep_ok ⟨x, s, k, b, t, 2⟩ ⟨hx, hk, hk2, hb⟩ 1
  have e0 : (decide ((1 : Int) ≤ 0) || (decide ((2 : Int) = 1) && decide (1 = s.fi))) = false := by simp
  simp only [e0] at c
  unfold fireF
  generalize checkF ⟨x, s, k, b, t, 2⟩ false = e at *
  clear e0
  obtain ⟨area, hold, mis⟩ := x
  obtain ⟨st, fi, se, ti⟩ := s
  obtain ⟨roads, keys, out⟩ := k
  obtain ⟨xs⟩ := b
  simp only [Req.e] at *
  by_cases h : e = 0 <;> cases fails <;> simp (disch := omega) only [go_sem, K.ref34_Fire, ↓reduceIte, h, c, Nat.reduceAdd, Nat.reduceSub, ne_eq, not_true_eq_false, not_false_eq_true, reduceCtorEq, Shot.e]
end
theorem rabort_ok (x : Blast) (s : Shot) (hx : x.area.length ≤ 1000000) (t : Int) : CALL 0 N.ref34_Abort [.t x.e, .t s.e, I t] [] = some (.tup [.t (abortF x s t).1.e, I (abortF x s t).2], []) := by
  refine CALL_of K.t_ref34_Abort rfl ?_
  have v := rvalid_ok x hx s
  have sb := shotF_b (x := x) (s := s)
  unfold abortF
  generalize shotF x s = r1 at *
  obtain ⟨area, hold, mis⟩ := x
  obtain ⟨st, fi, se, ti⟩ := s
  simp only [Shot.e] at *
  cases r1
  · simp (disch := omega) only [go_sem, K.ref34_Abort, ↓reduceIte, v, Nat.reduceAdd, Nat.reduceSub]
  have sb := sb rfl
  by_cases c1 : st = 0
  · subst c1
    simp (disch := omega) only [go_sem, K.ref34_Abort, ↓reduceIte, v, Nat.reduceAdd, Nat.reduceSub, reduceCtorEq]
  by_cases c3 : ti ≤ t ∧ t ≤ 2147483648
  rotate_left
  · by_cases d1 : t < 0
    · simp (disch := omega) only [go_sem, K.ref34_Abort, ↓reduceIte, v, c1, c3, Nat.reduceAdd, Nat.reduceSub, not_false_eq_true, reduceCtorEq]
    by_cases d2 : t ≤ 2147483648
    · simp (disch := omega) only [go_sem, K.ref34_Abort, ↓reduceIte, v, c1, c3, Nat.reduceAdd, Nat.reduceSub, not_false_eq_true, reduceCtorEq]
    · simp (disch := omega) only [go_sem, K.ref34_Abort, ↓reduceIte, v, c1, c3, Nat.reduceAdd, Nat.reduceSub, not_false_eq_true, reduceCtorEq]
  by_cases c4 : st = 4
  · subst c4
    by_cases c5 : t - ti < mis
    · simp (disch := omega) only [go_sem, K.ref34_Abort, ↓reduceIte, v, c1, c3, c5, Nat.reduceAdd, Nat.reduceSub, not_false_eq_true, not_true_eq_false, reduceCtorEq, and_self]
    · simp (disch := omega) only [go_sem, K.ref34_Abort, ↓reduceIte, v, c1, c3, c5, Nat.reduceAdd, Nat.reduceSub, not_false_eq_true, not_true_eq_false, reduceCtorEq, and_self, and_false]
  · simp (disch := omega) only [go_sem, K.ref34_Abort, ↓reduceIte, v, c1, c3, c4, Nat.reduceAdd, Nat.reduceSub, not_false_eq_true, not_true_eq_false, reduceCtorEq, and_self, false_and]

theorem fdue_ok (x : Blast) (s : Shot) (hx : x.area.length ≤ 1000000) (t : Int) (ht : t ≤ 9223372036854775807) : CALL 0 N.firing_Due [.t x.e, .t s.e, I t] [] = some (I (dueF x s t), []) := by
  refine CALL_of K.t_firing_Due rfl ?_
  have v := fvalid_ok x (by omega) s
  have sb := shotF_b (x := x) (s := s)
  unfold dueF
  generalize shotF x s = r1 at *
  obtain ⟨area, hold, mis⟩ := x
  obtain ⟨st, fi, se, ti⟩ := s
  simp only [Shot.e] at *
  cases r1
  · simp (disch := omega) only [go_sem, K.firing_Due, ↓reduceIte, v, Nat.reduceMul, Nat.reduceAdd, Nat.reduceSub, reduceCtorEq, or_true, true_or, or_self, false_or, or_false, Bool.true_eq_false]
  have sb := sb rfl
  by_cases c1 : t < ti
  · simp (disch := omega) only [go_sem, K.firing_Due, ↓reduceIte, v, c1, Nat.reduceAdd, Nat.reduceSub, reduceCtorEq, or_true, true_or, or_self, false_or, or_false, Bool.true_eq_false]
  by_cases s1 : st = 1
  · subst s1
    simp (disch := omega) only [go_sem, K.firing_Due, ↓reduceIte, v, c1, Nat.reduceAdd, Nat.reduceSub, reduceCtorEq, or_true, true_or, or_self, false_or, or_false, Bool.true_eq_false]
  by_cases s2 : st = 2
  · subst s2
    simp (disch := omega) only [go_sem, K.firing_Due, ↓reduceIte, v, c1, Nat.reduceAdd, Nat.reduceSub, reduceCtorEq, or_true, true_or, or_self, false_or, or_false, Bool.true_eq_false]
  by_cases s4 : st = 4
  · subst s4
    simp (disch := omega) only [go_sem, K.firing_Due, ↓reduceIte, v, c1, Nat.reduceAdd, Nat.reduceSub, reduceCtorEq, or_true, true_or, or_self, false_or, or_false, Bool.true_eq_false]
  · simp (disch := omega) only [go_sem, K.firing_Due, ↓reduceIte, v, c1, s1, s2, s4, Nat.reduceAdd, Nat.reduceSub, reduceCtorEq, or_true, true_or, or_self, false_or, or_false, Bool.true_eq_false]

theorem rdue_ok (x : Blast) (s : Shot) (hx : x.area.length ≤ 1000000) (t : Int) (ht : t ≤ 9223372036854775807) : CALL 0 N.ref34_Due [.t x.e, .t s.e, I t] [] = some (I (dueF x s t), []) := by
  refine CALL_of K.t_ref34_Due rfl ?_
  have v := rvalid_ok x hx s
  have sb := shotF_b (x := x) (s := s)
  unfold dueF
  generalize shotF x s = r1 at *
  obtain ⟨area, hold, mis⟩ := x
  obtain ⟨st, fi, se, ti⟩ := s
  simp only [Shot.e] at *
  cases r1
  · simp (disch := omega) only [go_sem, K.ref34_Due, ↓reduceIte, v, Nat.reduceMul, Nat.reduceAdd, Nat.reduceSub, reduceCtorEq, or_true, true_or, or_self, false_or, or_false, Bool.true_eq_false]
  have sb := sb rfl
  by_cases c1 : t < ti
  · simp (disch := omega) only [go_sem, K.ref34_Due, ↓reduceIte, v, c1, Nat.reduceAdd, Nat.reduceSub, reduceCtorEq, or_true, true_or, or_self, false_or, or_false, Bool.true_eq_false]
  by_cases s1 : st = 1
  · subst s1
    simp (disch := omega) only [go_sem, K.ref34_Due, ↓reduceIte, v, c1, Nat.reduceAdd, Nat.reduceSub, reduceCtorEq, or_true, true_or, or_self, false_or, or_false, Bool.true_eq_false]
  by_cases s2 : st = 2
  · subst s2
    simp (disch := omega) only [go_sem, K.ref34_Due, ↓reduceIte, v, c1, Nat.reduceAdd, Nat.reduceSub, reduceCtorEq, or_true, true_or, or_self, false_or, or_false, Bool.true_eq_false]
  by_cases s4 : st = 4
  · subst s4
    simp (disch := omega) only [go_sem, K.ref34_Due, ↓reduceIte, v, c1, Nat.reduceAdd, Nat.reduceSub, reduceCtorEq, or_true, true_or, or_self, false_or, or_false, Bool.true_eq_false]
  · simp (disch := omega) only [go_sem, K.ref34_Due, ↓reduceIte, v, c1, s1, s2, s4, Nat.reduceAdd, Nat.reduceSub, reduceCtorEq, or_true, true_or, or_self, false_or, or_false, Bool.true_eq_false]

def int64 (t : Int) : Prop := -9223372036854775808 ≤ t ∧ t ≤ 9223372036854775807
theorem fagree_ok (x : Blast) (s : Shot) (k : Keys) (b : Bel) (hx : x.area.length ≤ 1000000) (hk : k.roads.length ≤ 1000000) (hk2 : k.keys.length ≤ 1000000) (hb : b.sz) (role t : Int) (ht : t ≤ 9223372036854775807) (fails : Bool) :
    CALL 0 N.law34_agree [.t x.e, .t s.e, .t k.e, .t b.e, I role, I t, B fails] [] = some (B true, []) := by
  refine CALL_of K.t_law34_agree rfl ?_
  have a1 := arm_ok x s k b hx hk hk2 hb role t
  have a2 := rarm_ok x s k b hx hk hk2 hb role t
  have b1 := agree_ok x s k b hx hk hk2 hb role t
  have b2 := ragree_ok x s k b hx hk hk2 hb role t
  have c1 := fire_ok x s k b hx hk hk2 hb t fails
  have c2 := rfire_ok x s k b hx hk hk2 hb t fails
  have d1 := abort_ok x s hx t
  have d2 := rabort_ok x s hx t
  have e1 := fvalid_ok x (by omega) s
  have e2 := rvalid_ok x hx s
  have f1 := safe_ok x k b hx hk hk2 hb
  have f2 := rsafe_ok x k b hx hk hk2 hb
  have g1 := fdue_ok x s hx t ht
  have g2 := rdue_ok x s hx t ht
  generalize armF x s k b role t = u1 at *
  generalize agreeF x s k b role t = u2 at *
  generalize fireF x s k b t fails = u3 at *
  generalize abortF x s t = u4 at *
  generalize shotF x s = v1 at *
  generalize safeF x k b = v2 at *
  generalize dueF x s t = v3 at *
  clear hx hk hk2 hb
  obtain ⟨⟨p1, p2, p3, p4⟩, q1⟩ := u1
  obtain ⟨⟨r1, r2, r3, r4⟩, q2⟩ := u2
  obtain ⟨⟨s1, s2, s3, s4⟩, q3⟩ := u3
  obtain ⟨⟨t1, t2, t3, t4⟩, q4⟩ := u4
  obtain ⟨area, hold, mis⟩ := x
  obtain ⟨st, fi, se, ti⟩ := s
  obtain ⟨roads, keys, out⟩ := k
  obtain ⟨xs⟩ := b
  simp only [Shot.e] at *
  cases v1 <;> cases v2 <;> simp (disch := omega) only [go_sem, K.law34_agree, ↓reduceIte, a1, a2, b1, b2, c1, c2, d1, d2, e1, e2, f1, f2, g1, g2, Nat.reduceAdd, Nat.reduceSub]
end Go.Ev

/- FiringNeeds. -/
namespace Go.Ev
open Go
variable [Lib] [Has1] [Has2] [Has3] [Has4]

def rdX : Blast := ⟨[1], 300, 1800⟩
def rdK (out : Bool) : Keys := ⟨[0], [2], out⟩
def rdB (a : Int) : Bel := ⟨[⟨[1], [⟨0, [0, a]⟩]⟩]⟩
theorem rd_safe (out : Bool) : safeF rdX (rdK out) (rdB never) = out := by cases out <;> decide
theorem rd_unsafe (out : Bool) : safeF rdX (rdK out) (rdB 5000) = false := by cases out <;> decide
theorem rdB_sz (a : Int) : (rdB a).sz := by
  refine ⟨by simp [rdB], fun x hx => ?_⟩
  simp only [rdB, List.mem_cons, List.not_mem_nil, or_false] at hx
  subst hx
  refine ⟨by simp, by simp, fun w hw => ?_⟩
  simp only [List.mem_cons, List.not_mem_nil, or_false] at hw
  subst hw; simp

abbrev fnBT (a : Int) : T := .sl [.agg [.sl [.int .i64 1], .sl [.agg [.int .i64 0, .sl [.int .i64 0, .int .i64 a]]]]]
abbrev fnH (d : Dice) (p : Bool) (st fi se ti : Int) : Heap := [d.obj, .box [.t (.sl [.int .i64 1]), I 300, I 1800], .box [.t (.sl [.int .i64 0]), .t (.sl [.int .i64 2]), B true], .box [.t (fnBT 1099511627776)],
  .arr 2 p 0 [.agg [.ref 5 0 1, .ref 6 0 1]], .arr 1 p 0 [I 1], .arr 2 p 0 [.agg [I 0, .ref 7 0 2]], .arr 1 p 0 [I 0, I 5000], .box [.ref 4 0 1], .box [I st, I fi, I se, I ti]]
abbrev fnS (d : Dice) (p : Bool) (st fi se ti now ar ag f1 f2 : Int) (n : Nat) : St :=
  ⟨[.und, .und, .bp 0 0, .bp 1 0, .bp 2 0, .bp 3 0, .bp 8 0, .bp 9 0, I now, I ar, I ag, I f1, I f2, I n, .und, .und, .und, .und, .und, .und, .und, .und, .und, .und, .und, .und, .und], fnH d p st fi se ti⟩


theorem rd_shot (s : Shot) : shotF rdX s = (decide (0 ≤ s.ti ∧ s.ti ≤ 2147483648) && stateF s) := by
  have h : (!decide (rdX.area.length = 0) && risB rdX.area 0 63 && decide (1 ≤ rdX.hold ∧ rdX.hold ≤ 100000) && decide (1 ≤ rdX.mis ∧ rdX.mis ≤ 100000)) = true := by decide
  simp only [shotF, h, Bool.true_and]
theorem stateF_1 (r t : Int) (h : 0 < r) : stateF ⟨1, r, 0, t⟩ = true := by simp [stateF, h]
theorem stateF_2 (a r t : Int) (h : 0 < r) (h2 : 0 < a) (h3 : a ≠ r) : stateF ⟨2, a, r, t⟩ = true := by simp [stateF, h, h2, h3]
theorem stateF_d {s : Shot} (h : stateF s = true) : (s.st = 1 → 0 < s.fi) ∧ (s.st = 2 → 0 < s.fi ∧ 0 < s.se ∧ s.fi ≠ s.se) := by
  unfold stateF at h
  constructor
  · intro e; simp [e] at h; exact h.1
  · intro e; simp [e] at h; exact h
theorem stateF_3 (a r t st : Int) (h : 0 < r) (h2 : 0 < a) (h3 : a ≠ r) (h4 : st = 3 ∨ st = 4) : stateF ⟨st, a, r, t⟩ = true := by rcases h4 with rfl | rfl <;> simp [stateF, h, h2, h3]

theorem checkF_z {r : Req} {odd : Bool} (h : checkF r odd = 0) : shotF r.x r.s = true ∧ r.s.st = r.from_ ∧ 0 ≤ r.t ∧ r.s.ti ≤ r.t ∧ r.t ≤ 2147483648 ∧ odd = false ∧ (r.from_ ≠ 0 → r.t - r.s.ti ≤ r.x.hold) ∧ safeF r.x r.k r.b = true := by
  unfold checkF at h
  split at h; · omega
  split at h; · omega
  split at h; · omega
  split at h; · omega
  split at h; · omega
  split at h; · omega
  split at h; · omega
  rename_i h1 h2 h3 h4 h5 h6 h7
  refine ⟨by simpa using h1, by omega, by omega, by omega, by omega, by simpa using h4, by omega, by simpa using h7⟩

def fnInv (st fi se ti now ar ag f1 f2 : Int) : Prop := shotF rdX ⟨st, fi, se, ti⟩ = true ∧ (st = 1 → ar = ti ∧ f1 = fi) ∧ (st = 2 → ag = ti ∧ f1 = fi ∧ f2 = se)

def fnB (a3 : Bool) : Bel := rdB (if a3 = true then 5000 else never)
theorem fn_safe (out a3 : Bool) : safeF rdX (rdK out) (fnB a3) = (out && !a3) := by cases out <;> cases a3 <;> decide
abbrev fnDead : List Nat := [0, 1, 14, 15, 16, 17, 18, 19, 20, 21, 22, 23, 24, 25, 26]
noncomputable abbrev fnRound (S : St) : Option St := roundC true fnDead 10 (exS CALL K.law34_FiringNeeds_l1b S)
def fnP (n : Nat) (b : Int) (S : St) : Prop := ∃ d p st fi se ti now ar ag f1 f2, S = fnS d p st fi se ti now ar ag f1 f2 n ∧ d.light ∧ 0 ≤ now ∧ now ≤ b ∧ fnInv st fi se ti now ar ag f1 f2

section
variable (d d1 d2 d3 d4 d5 : Dice) (p a3 : Bool) (st fi se ti now ar ag f1 f2 a1 a2 a4 : Int) (n : Nat) (b : Int) (h0 : 0 ≤ now) (h1 : now ≤ b) (hb : b ≤ 100000) (e5 : d5.light) (l2 : 0 ≤ a2) (m1 : 0 ≤ a1 ∧ a1 ≤ 301) (l4 : 0 ≤ a4) (h4 : a4 < 3) (hn : n ≤ 30)
  (o1 : CALL 0 N.made_Dice_Of [.bp 0 0, .t (.sl [.int .i64 0, .int .i64 10, .int .i64 200, .int .i64 301])] [d.obj] = some (I a1, [d1.obj])) (o2 : CALL 0 N.made_Dice_Next [.bp 0 0, I 6] [d1.obj] = some (I a2, [d2.obj]))
  (o3 : CALL 0 N.made_Dice_One [.bp 0 0, I 6] [d2.obj] = some (B a3, [d3.obj])) (o4 : CALL 0 N.made_Dice_Next [.bp 0 0, I 3] [d3.obj] = some (I a4, [d4.obj]))
include h0 h1 hb e5 l2 m1 l4 h4 hn o1 o2 o3 o4


theorem fn_arm (o5 : CALL 0 N.made_Dice_Next [.bp 0 0, I 4] [d4.obj] = some (I 0, [d5.obj])) (iv : fnInv st fi se ti now ar ag f1 f2) :
    ∃ S, fnRound (fnS d p st fi se ti now ar ag f1 f2 (n + 1)) = some S ∧ fnP n (b + 301) S := by
  obtain ⟨sf, i1, i2⟩ := iv
  have r1 := arm_ok rdX ⟨st, fi, se, ti⟩ (rdK (decide (0 < a2))) (fnB a3) (by simp [rdX]) (by simp [rdK]) (by simp [rdK]) (rdB_sz _) (1 + a4) (now + a1)
  have v1 := fvalid_ok rdX (by simp [rdX]) ⟨st, fi, se, ti⟩
  rw [sf] at v1
  by_cases e : checkF ⟨rdX, ⟨st, fi, se, ti⟩, rdK (decide (0 < a2)), fnB a3, now + a1, 0⟩ (decide (1 + a4 ≤ 0)) = 0
  · have z := checkF_z e
    simp only [fn_safe, Bool.and_eq_true, Bool.not_eq_true', decide_eq_true_eq] at z
    obtain ⟨z1, z2, z3, z4, z5, z6, z7, z8, rfl⟩ := z
    have hu : armF rdX ⟨st, fi, se, ti⟩ (rdK (decide (0 < a2))) (fnB false) (1 + a4) (now + a1) = (⟨1, 1 + a4, 0, now + a1⟩, 0) := by unfold armF; rw [if_neg (by simpa using e)]
    rw [hu] at r1
    change _ = _ at z2
    subst z2
    have sf2 : shotF rdX ⟨1, 1 + a4, 0, now + a1⟩ = true := by rw [rd_shot, stateF_1 _ _ (by omega)]; simp; omega
    have v2 := fvalid_ok rdX (by simp [rdX]) ⟨1, 1 + a4, 0, now + a1⟩
    rw [sf2] at v2
    simp only [z8, decide_true, rdX, rdK, fnB, rdB, Blast.e, Keys.e, Bel.e, World.e, Wh.e, tL, never, List.map_cons, List.map_nil, Shot.e, Bool.false_eq_true, if_false] at r1 v1 v2
    refine ⟨fnS d5 p 1 (1 + a4) 0 (now + a1) (now + a1) (now + a1) ag (1 + a4) f2 n, ?_, d5, p, 1, 1 + a4, 0, now + a1, now + a1, now + a1, ag, 1 + a4, f2, rfl, e5, by omega, by omega, sf2, fun _ => ⟨rfl, rfl⟩, fun h => absurd h (by omega)⟩
    unfold fnRound
    simp (disch := omega) only [go_sem, K.law34_FiringNeeds_l1b, ↓reduceIte, o1, o2, o3, o4, o5, r1, v2, Nat.reduceAdd, Nat.reduceSub, Nat.reduceMul]
  · have hu : armF rdX ⟨st, fi, se, ti⟩ (rdK (decide (0 < a2))) (fnB a3) (1 + a4) (now + a1) = (⟨st, fi, se, ti⟩, checkF ⟨rdX, ⟨st, fi, se, ti⟩, rdK (decide (0 < a2)), fnB a3, now + a1, 0⟩ (decide (1 + a4 ≤ 0))) := by unfold armF; rw [if_pos e]
    rw [hu] at r1
    generalize checkF ⟨rdX, ⟨st, fi, se, ti⟩, rdK (decide (0 < a2)), fnB a3, now + a1, 0⟩ (decide (1 + a4 ≤ 0)) = er at *
    cases a3 <;> by_cases c : 0 < a2 <;> simp only [c, decide_true, decide_false, rdX, rdK, fnB, rdB, Blast.e, Keys.e, Bel.e, World.e, Wh.e, tL, never, List.map_cons, List.map_nil, Shot.e, Bool.false_eq_true, if_false, if_true] at r1 v1
    · refine ⟨fnS d5 p st fi se ti (now + a1) ar ag f1 f2 n, ?_, d5, p, st, fi, se, ti, now + a1, ar, ag, f1, f2, rfl, e5, by omega, by omega, sf, i1, i2⟩
      unfold fnRound
      simp (disch := omega) only [go_sem, K.law34_FiringNeeds_l1b, ↓reduceIte, o1, o2, o3, o4, o5, r1, v1, Nat.reduceAdd, Nat.reduceSub, Nat.reduceMul]
    · refine ⟨fnS d5 p st fi se ti (now + a1) ar ag f1 f2 n, ?_, d5, p, st, fi, se, ti, now + a1, ar, ag, f1, f2, rfl, e5, by omega, by omega, sf, i1, i2⟩
      unfold fnRound
      simp (disch := omega) only [go_sem, K.law34_FiringNeeds_l1b, ↓reduceIte, o1, o2, o3, o4, o5, r1, v1, Nat.reduceAdd, Nat.reduceSub, Nat.reduceMul]
    · refine ⟨fnS d5 true st fi se ti (now + a1) ar ag f1 f2 n, ?_, d5, true, st, fi, se, ti, now + a1, ar, ag, f1, f2, rfl, e5, by omega, by omega, sf, i1, i2⟩
      unfold fnRound
      simp (disch := omega) only [go_sem, K.law34_FiringNeeds_l1b, ↓reduceIte, o1, o2, o3, o4, o5, r1, v1, Nat.reduceAdd, Nat.reduceSub, Nat.reduceMul]
    · refine ⟨fnS d5 true st fi se ti (now + a1) ar ag f1 f2 n, ?_, d5, true, st, fi, se, ti, now + a1, ar, ag, f1, f2, rfl, e5, by omega, by omega, sf, i1, i2⟩
      unfold fnRound
      simp (disch := omega) only [go_sem, K.law34_FiringNeeds_l1b, ↓reduceIte, o1, o2, o3, o4, o5, r1, v1, Nat.reduceAdd, Nat.reduceSub, Nat.reduceMul]

theorem fn_agree (o5 : CALL 0 N.made_Dice_Next [.bp 0 0, I 4] [d4.obj] = some (I 1, [d5.obj])) (iv : fnInv st fi se ti now ar ag f1 f2) :
    ∃ S, fnRound (fnS d p st fi se ti now ar ag f1 f2 (n + 1)) = some S ∧ fnP n (b + 301) S := by
  obtain ⟨sf, i1, i2⟩ := iv
  have r1 := agree_ok rdX ⟨st, fi, se, ti⟩ (rdK (decide (0 < a2))) (fnB a3) (by simp [rdX]) (by simp [rdK]) (by simp [rdK]) (rdB_sz _) (1 + a4) (now + a1)
  have v1 := fvalid_ok rdX (by simp [rdX]) ⟨st, fi, se, ti⟩
  rw [sf] at v1
  by_cases e : checkF ⟨rdX, ⟨st, fi, se, ti⟩, rdK (decide (0 < a2)), fnB a3, now + a1, 1⟩ (decide (1 + a4 ≤ 0) || decide (1 + a4 = fi)) = 0
  · have z := checkF_z e
    simp only [fn_safe, Bool.and_eq_true, Bool.not_eq_true', decide_eq_true_eq] at z
    obtain ⟨z1, z2, z3, z4, z5, z6, z7, z8, rfl⟩ := z
    have hu : agreeF rdX ⟨st, fi, se, ti⟩ (rdK (decide (0 < a2))) (fnB false) (1 + a4) (now + a1) = (⟨2, fi, 1 + a4, now + a1⟩, 0) := by unfold agreeF; rw [if_neg (by simpa using e)]
    rw [hu] at r1
    change _ = _ at z2
    subst z2
    simp only [Bool.or_eq_false_iff, decide_eq_false_iff_not] at z6
    obtain ⟨j1, j2⟩ := i1 rfl
    simp only [rd_shot, Bool.and_eq_true] at sf
    have sd : 0 < fi := (stateF_d sf.2).1 rfl
    have sti : 0 ≤ ti ∧ ti ≤ 2147483648 := of_decide_eq_true sf.1
    have z3 : 0 ≤ now + a1 := z3
    have z5 : now + a1 ≤ 2147483648 := z5
    have sf2 : shotF rdX ⟨2, fi, 1 + a4, now + a1⟩ = true := by rw [rd_shot, stateF_2 _ _ _ (by omega) sd (by omega)]; simp; omega
    have z7 : now + a1 - ti ≤ 300 := z7 (by simp)
    clear z1
    have v2 := fvalid_ok rdX (by simp [rdX]) ⟨2, fi, 1 + a4, now + a1⟩
    rw [sf2] at v2
    simp only [z8, decide_true, rdX, rdK, fnB, rdB, Blast.e, Keys.e, Bel.e, World.e, Wh.e, tL, never, List.map_cons, List.map_nil, Shot.e, Bool.false_eq_true, if_false] at r1 v1 v2
    refine ⟨fnS d5 p 2 fi (1 + a4) (now + a1) (now + a1) ar (now + a1) f1 (1 + a4) n, ?_, d5, p, 2, fi, 1 + a4, now + a1, now + a1, ar, now + a1, f1, 1 + a4, rfl, e5, by omega, by omega, sf2, fun h => absurd h (by omega), fun _ => ⟨rfl, j2, rfl⟩⟩
    unfold fnRound
    simp (disch := omega) only [go_sem, K.law34_FiringNeeds_l1b, ↓reduceIte, o1, o2, o3, o4, o5, r1, v2, Nat.reduceAdd, Nat.reduceSub, Nat.reduceMul]
  · have hu : agreeF rdX ⟨st, fi, se, ti⟩ (rdK (decide (0 < a2))) (fnB a3) (1 + a4) (now + a1) = (⟨st, fi, se, ti⟩, checkF ⟨rdX, ⟨st, fi, se, ti⟩, rdK (decide (0 < a2)), fnB a3, now + a1, 1⟩ (decide (1 + a4 ≤ 0) || decide (1 + a4 = fi))) := by unfold agreeF; rw [if_pos e]
    rw [hu] at r1
    generalize checkF ⟨rdX, ⟨st, fi, se, ti⟩, rdK (decide (0 < a2)), fnB a3, now + a1, 1⟩ (decide (1 + a4 ≤ 0) || decide (1 + a4 = fi)) = er at *
    cases a3 <;> by_cases c : 0 < a2 <;> simp only [c, decide_true, decide_false, rdX, rdK, fnB, rdB, Blast.e, Keys.e, Bel.e, World.e, Wh.e, tL, never, List.map_cons, List.map_nil, Shot.e, Bool.false_eq_true, if_false, if_true] at r1 v1
    · refine ⟨fnS d5 p st fi se ti (now + a1) ar ag f1 f2 n, ?_, d5, p, st, fi, se, ti, now + a1, ar, ag, f1, f2, rfl, e5, by omega, by omega, sf, i1, i2⟩
      unfold fnRound
      simp (disch := omega) only [go_sem, K.law34_FiringNeeds_l1b, ↓reduceIte, o1, o2, o3, o4, o5, r1, v1, Nat.reduceAdd, Nat.reduceSub, Nat.reduceMul]
    · refine ⟨fnS d5 p st fi se ti (now + a1) ar ag f1 f2 n, ?_, d5, p, st, fi, se, ti, now + a1, ar, ag, f1, f2, rfl, e5, by omega, by omega, sf, i1, i2⟩
      unfold fnRound
      simp (disch := omega) only [go_sem, K.law34_FiringNeeds_l1b, ↓reduceIte, o1, o2, o3, o4, o5, r1, v1, Nat.reduceAdd, Nat.reduceSub, Nat.reduceMul]
    · refine ⟨fnS d5 true st fi se ti (now + a1) ar ag f1 f2 n, ?_, d5, true, st, fi, se, ti, now + a1, ar, ag, f1, f2, rfl, e5, by omega, by omega, sf, i1, i2⟩
      unfold fnRound
      simp (disch := omega) only [go_sem, K.law34_FiringNeeds_l1b, ↓reduceIte, o1, o2, o3, o4, o5, r1, v1, Nat.reduceAdd, Nat.reduceSub, Nat.reduceMul]
    · refine ⟨fnS d5 true st fi se ti (now + a1) ar ag f1 f2 n, ?_, d5, true, st, fi, se, ti, now + a1, ar, ag, f1, f2, rfl, e5, by omega, by omega, sf, i1, i2⟩
      unfold fnRound
      simp (disch := omega) only [go_sem, K.law34_FiringNeeds_l1b, ↓reduceIte, o1, o2, o3, o4, o5, r1, v1, Nat.reduceAdd, Nat.reduceSub, Nat.reduceMul]

theorem fn_fire (d6 : Dice) (e6 : d6.light) (fails : Bool) (o5 : CALL 0 N.made_Dice_Next [.bp 0 0, I 4] [d4.obj] = some (I 2, [d5.obj])) (o6 : CALL 0 N.made_Dice_One [.bp 0 0, I 3] [d5.obj] = some (B fails, [d6.obj])) (iv : fnInv st fi se ti now ar ag f1 f2) :
    ∃ S, fnRound (fnS d p st fi se ti now ar ag f1 f2 (n + 1)) = some S ∧ fnP n (b + 301) S := by
  obtain ⟨sf, i1, i2⟩ := iv
  have r1 := fire_ok rdX ⟨st, fi, se, ti⟩ (rdK (decide (0 < a2))) (fnB a3) (by simp [rdX]) (by simp [rdK]) (by simp [rdK]) (rdB_sz _) (now + a1) fails
  have v1 := fvalid_ok rdX (by simp [rdX]) ⟨st, fi, se, ti⟩
  rw [sf] at v1
  by_cases e : checkF ⟨rdX, ⟨st, fi, se, ti⟩, rdK (decide (0 < a2)), fnB a3, now + a1, 2⟩ false = 0
  · have z := checkF_z e
    simp only [fn_safe, Bool.and_eq_true, Bool.not_eq_true', decide_eq_true_eq] at z
    obtain ⟨z1, z2, z3, z4, z5, z6, z7, z8, rfl⟩ := z
    have hu : fireF rdX ⟨st, fi, se, ti⟩ (rdK (decide (0 < a2))) (fnB false) (now + a1) fails = (⟨if fails = true then 4 else 3, fi, se, now + a1⟩, 0) := by unfold fireF; rw [if_neg (by simpa using e)]
    rw [hu] at r1
    change _ = _ at z2
    subst z2
    obtain ⟨rfl, rfl, rfl⟩ := i2 rfl
    simp only [rd_shot, Bool.and_eq_true] at sf
    have sd : 0 < f1 ∧ 0 < f2 ∧ f1 ≠ f2 := (stateF_d sf.2).2 rfl
    have sti : 0 ≤ ag ∧ ag ≤ 2147483648 := of_decide_eq_true sf.1
    have z3 : 0 ≤ now + a1 := z3
    have z5 : now + a1 ≤ 2147483648 := z5
    have z7 : now + a1 - ag ≤ 300 := z7 (by simp)
    clear z1 z6 sf i1 i2
    cases fails
    · have sf2 : shotF rdX ⟨3, f1, f2, now + a1⟩ = true := by rw [rd_shot, stateF_3 _ _ _ _ (by omega) (by omega) (by omega) (.inl rfl)]; simp; omega
      have v2 := fvalid_ok rdX (by simp [rdX]) ⟨3, f1, f2, now + a1⟩
      rw [sf2] at v2
      simp only [z8, decide_true, rdX, rdK, fnB, rdB, Blast.e, Keys.e, Bel.e, World.e, Wh.e, tL, never, List.map_cons, List.map_nil, Shot.e, Bool.false_eq_true, if_false] at r1 v1 v2
      refine ⟨fnS d6 p 3 f1 f2 (now + a1) (now + a1) ar ag f1 f2 n, ?_, d6, p, 3, f1, f2, now + a1, now + a1, ar, ag, f1, f2, rfl, e6, by omega, by omega, sf2, fun h => absurd h (by omega), fun h => absurd h (by omega)⟩
      unfold fnRound
      simp (disch := omega) only [go_sem, K.law34_FiringNeeds_l1b, ↓reduceIte, o1, o2, o3, o4, o5, o6, r1, v2, Nat.reduceAdd, Nat.reduceSub, Nat.reduceMul]
    · have sf2 : shotF rdX ⟨4, f1, f2, now + a1⟩ = true := by rw [rd_shot, stateF_3 _ _ _ _ (by omega) (by omega) (by omega) (.inr rfl)]; simp; omega
      have v2 := fvalid_ok rdX (by simp [rdX]) ⟨4, f1, f2, now + a1⟩
      rw [sf2] at v2
      simp only [z8, decide_true, rdX, rdK, fnB, rdB, Blast.e, Keys.e, Bel.e, World.e, Wh.e, tL, never, List.map_cons, List.map_nil, Shot.e, Bool.false_eq_true, if_false, if_true] at r1 v1 v2
      refine ⟨fnS d6 p 4 f1 f2 (now + a1) (now + a1) ar ag f1 f2 n, ?_, d6, p, 4, f1, f2, now + a1, now + a1, ar, ag, f1, f2, rfl, e6, by omega, by omega, sf2, fun h => absurd h (by omega), fun h => absurd h (by omega)⟩
      unfold fnRound
      simp (disch := omega) only [go_sem, K.law34_FiringNeeds_l1b, ↓reduceIte, o1, o2, o3, o4, o5, o6, r1, v2, Nat.reduceAdd, Nat.reduceSub, Nat.reduceMul]
  · have hu : fireF rdX ⟨st, fi, se, ti⟩ (rdK (decide (0 < a2))) (fnB a3) (now + a1) fails = (⟨st, fi, se, ti⟩, checkF ⟨rdX, ⟨st, fi, se, ti⟩, rdK (decide (0 < a2)), fnB a3, now + a1, 2⟩ false) := by unfold fireF; rw [if_pos e]
    rw [hu] at r1
    generalize checkF ⟨rdX, ⟨st, fi, se, ti⟩, rdK (decide (0 < a2)), fnB a3, now + a1, 2⟩ false = er at *
    cases a3 <;> by_cases c : 0 < a2 <;> simp only [c, decide_true, decide_false, rdX, rdK, fnB, rdB, Blast.e, Keys.e, Bel.e, World.e, Wh.e, tL, never, List.map_cons, List.map_nil, Shot.e, Bool.false_eq_true, if_false, if_true] at r1 v1
    · refine ⟨fnS d6 p st fi se ti (now + a1) ar ag f1 f2 n, ?_, d6, p, st, fi, se, ti, now + a1, ar, ag, f1, f2, rfl, e6, by omega, by omega, sf, i1, i2⟩
      unfold fnRound
      simp (disch := omega) only [go_sem, K.law34_FiringNeeds_l1b, ↓reduceIte, o1, o2, o3, o4, o5, o6, r1, v1, Nat.reduceAdd, Nat.reduceSub, Nat.reduceMul]
    · refine ⟨fnS d6 p st fi se ti (now + a1) ar ag f1 f2 n, ?_, d6, p, st, fi, se, ti, now + a1, ar, ag, f1, f2, rfl, e6, by omega, by omega, sf, i1, i2⟩
      unfold fnRound
      simp (disch := omega) only [go_sem, K.law34_FiringNeeds_l1b, ↓reduceIte, o1, o2, o3, o4, o5, o6, r1, v1, Nat.reduceAdd, Nat.reduceSub, Nat.reduceMul]
    · refine ⟨fnS d6 true st fi se ti (now + a1) ar ag f1 f2 n, ?_, d6, true, st, fi, se, ti, now + a1, ar, ag, f1, f2, rfl, e6, by omega, by omega, sf, i1, i2⟩
      unfold fnRound
      simp (disch := omega) only [go_sem, K.law34_FiringNeeds_l1b, ↓reduceIte, o1, o2, o3, o4, o5, o6, r1, v1, Nat.reduceAdd, Nat.reduceSub, Nat.reduceMul]
    · refine ⟨fnS d6 true st fi se ti (now + a1) ar ag f1 f2 n, ?_, d6, true, st, fi, se, ti, now + a1, ar, ag, f1, f2, rfl, e6, by omega, by omega, sf, i1, i2⟩
      unfold fnRound
      simp (disch := omega) only [go_sem, K.law34_FiringNeeds_l1b, ↓reduceIte, o1, o2, o3, o4, o5, o6, r1, v1, Nat.reduceAdd, Nat.reduceSub, Nat.reduceMul]

theorem fn_abort (a5 : Int) (h5 : 3 ≤ a5) (o5 : CALL 0 N.made_Dice_Next [.bp 0 0, I 4] [d4.obj] = some (I a5, [d5.obj])) (iv : fnInv st fi se ti now ar ag f1 f2) :
    ∃ S, fnRound (fnS d p st fi se ti now ar ag f1 f2 (n + 1)) = some S ∧ fnP n (b + 301) S := by
  obtain ⟨sf, i1, i2⟩ := iv
  have r1 := abort_ok rdX ⟨st, fi, se, ti⟩ (by simp [rdX]) (now + a1)
  have v1 := fvalid_ok rdX (by simp [rdX]) ⟨st, fi, se, ti⟩
  rw [sf] at v1
  have key : abortF rdX ⟨st, fi, se, ti⟩ (now + a1) = (⟨0, 0, 0, 0⟩, 0) ∨ ∃ e, e ≠ 0 ∧ abortF rdX ⟨st, fi, se, ti⟩ (now + a1) = (⟨st, fi, se, ti⟩, e) := by
    unfold abortF
    split; · exact .inr ⟨6, by omega, rfl⟩
    split; · exact .inr ⟨10, by omega, rfl⟩
    split; · exact .inr ⟨8, by omega, rfl⟩
    split; · exact .inr ⟨10, by omega, rfl⟩
    exact .inl rfl
  rcases key with hu | ⟨e, e0, hu⟩
  · rw [hu] at r1
    have sf2 : shotF rdX ⟨0, 0, 0, 0⟩ = true := by decide
    have v2 := fvalid_ok rdX (by simp [rdX]) ⟨0, 0, 0, 0⟩
    rw [sf2] at v2
    simp only [rdX, rdK, fnB, rdB, Blast.e, Keys.e, Bel.e, World.e, Wh.e, tL, never, List.map_cons, List.map_nil, Shot.e, Bool.false_eq_true, if_false] at r1 v1 v2
    cases a3 <;> by_cases c : 0 < a2
    · refine ⟨fnS d5 p 0 0 0 0 (now + a1) (-1) (-1) 0 0 n, ?_, d5, p, 0, 0, 0, 0, now + a1, -1, -1, 0, 0, rfl, e5, by omega, by omega, sf2, fun h => absurd h (by omega), fun h => absurd h (by omega)⟩
      unfold fnRound
      simp (disch := omega) only [go_sem, K.law34_FiringNeeds_l1b, ↓reduceIte, o1, o2, o3, o4, o5, r1, v2, Nat.reduceAdd, Nat.reduceSub, Nat.reduceMul]
    · refine ⟨fnS d5 p 0 0 0 0 (now + a1) (-1) (-1) 0 0 n, ?_, d5, p, 0, 0, 0, 0, now + a1, -1, -1, 0, 0, rfl, e5, by omega, by omega, sf2, fun h => absurd h (by omega), fun h => absurd h (by omega)⟩
      unfold fnRound
      simp (disch := omega) only [go_sem, K.law34_FiringNeeds_l1b, ↓reduceIte, o1, o2, o3, o4, o5, r1, v2, Nat.reduceAdd, Nat.reduceSub, Nat.reduceMul]
    · refine ⟨fnS d5 p 0 0 0 0 (now + a1) (-1) (-1) 0 0 n, ?_, d5, p, 0, 0, 0, 0, now + a1, -1, -1, 0, 0, rfl, e5, by omega, by omega, sf2, fun h => absurd h (by omega), fun h => absurd h (by omega)⟩
      unfold fnRound
      simp (disch := omega) only [go_sem, K.law34_FiringNeeds_l1b, ↓reduceIte, o1, o2, o3, o4, o5, r1, v2, Nat.reduceAdd, Nat.reduceSub, Nat.reduceMul]
    · refine ⟨fnS d5 p 0 0 0 0 (now + a1) (-1) (-1) 0 0 n, ?_, d5, p, 0, 0, 0, 0, now + a1, -1, -1, 0, 0, rfl, e5, by omega, by omega, sf2, fun h => absurd h (by omega), fun h => absurd h (by omega)⟩
      unfold fnRound
      simp (disch := omega) only [go_sem, K.law34_FiringNeeds_l1b, ↓reduceIte, o1, o2, o3, o4, o5, r1, v2, Nat.reduceAdd, Nat.reduceSub, Nat.reduceMul]
  · rw [hu] at r1
    simp only [rdX, rdK, fnB, rdB, Blast.e, Keys.e, Bel.e, World.e, Wh.e, tL, never, List.map_cons, List.map_nil, Shot.e, Bool.false_eq_true, if_false] at r1 v1
    cases a3 <;> by_cases c : 0 < a2
    · refine ⟨fnS d5 p st fi se ti (now + a1) ar ag f1 f2 n, ?_, d5, p, st, fi, se, ti, now + a1, ar, ag, f1, f2, rfl, e5, by omega, by omega, sf, i1, i2⟩
      unfold fnRound
      simp (disch := omega) only [go_sem, K.law34_FiringNeeds_l1b, ↓reduceIte, o1, o2, o3, o4, o5, r1, v1, Nat.reduceAdd, Nat.reduceSub, Nat.reduceMul]
    · refine ⟨fnS d5 p st fi se ti (now + a1) ar ag f1 f2 n, ?_, d5, p, st, fi, se, ti, now + a1, ar, ag, f1, f2, rfl, e5, by omega, by omega, sf, i1, i2⟩
      unfold fnRound
      simp (disch := omega) only [go_sem, K.law34_FiringNeeds_l1b, ↓reduceIte, o1, o2, o3, o4, o5, r1, v1, Nat.reduceAdd, Nat.reduceSub, Nat.reduceMul]
    · refine ⟨fnS d5 p st fi se ti (now + a1) ar ag f1 f2 n, ?_, d5, p, st, fi, se, ti, now + a1, ar, ag, f1, f2, rfl, e5, by omega, by omega, sf, i1, i2⟩
      unfold fnRound
      simp (disch := omega) only [go_sem, K.law34_FiringNeeds_l1b, ↓reduceIte, o1, o2, o3, o4, o5, r1, v1, Nat.reduceAdd, Nat.reduceSub, Nat.reduceMul]
    · refine ⟨fnS d5 p st fi se ti (now + a1) ar ag f1 f2 n, ?_, d5, p, st, fi, se, ti, now + a1, ar, ag, f1, f2, rfl, e5, by omega, by omega, sf, i1, i2⟩
      unfold fnRound
      simp (disch := omega) only [go_sem, K.law34_FiringNeeds_l1b, ↓reduceIte, o1, o2, o3, o4, o5, r1, v1, Nat.reduceAdd, Nat.reduceSub, Nat.reduceMul]
end
theorem fn_round (n : Nat) (hn : n ≤ 30) (b : Int) (hb : b ≤ 100000) (S : St) (h : fnP (n + 1) b S) : ∃ S', fnRound S = some S' ∧ fnP n (b + 301) S' := by
  obtain ⟨d, p, st, fi, se, ti, now, ar, ag, f1, f2, rfl, d0, h0, h1, iv⟩ := h
  have o1 := of_ok d [0, 10, 200, 301] (by simp) (by simp) d0
  have m1 := Dice.of_mem d (l := [0, 10, 200, 301]) (by simp)
  have e1 := Dice.of_light d0 [0, 10, 200, 301]
  generalize d.of [0, 10, 200, 301] = r1 at *
  obtain ⟨a1, d1⟩ := r1
  simp only [List.mem_cons, List.not_mem_nil, or_false] at o1 m1 e1
  have m1 : 0 ≤ a1 ∧ a1 ≤ 301 := by omega
  have o2 := next_ok d1 6 (by omega) e1
  have l2 := d1.next_lo 6
  have e2 := d1.next_light e1 6
  generalize d1.next 6 = r2 at *
  obtain ⟨a2, d2⟩ := r2
  simp only at o2 l2 e2
  have o3 := one_ok d2 6 (by omega) (by omega) e2
  have e3 := d2.one_light e2 6
  generalize d2.one 6 = r3 at *
  obtain ⟨a3, d3⟩ := r3
  simp only at o3 e3
  have o4 := next_ok d3 3 (by omega) e3
  have l4 := d3.next_lo 3
  have h4 := d3.next_hi (n := 3) (by omega)
  have e4 := d3.next_light e3 3
  generalize d3.next 3 = r4 at *
  obtain ⟨a4, d4⟩ := r4
  simp only at o4 l4 h4 e4
  have o5 := next_ok d4 4 (by omega) e4
  have l5 := d4.next_lo 4
  have h5 := d4.next_hi (n := 4) (by omega)
  have e5 := d4.next_light e4 4
  generalize d4.next 4 = r5 at *
  obtain ⟨a5, d5⟩ := r5
  simp only at o5 l5 h5 e5
  simp only [tL, List.map_cons, List.map_nil] at o1
  by_cases c0 : a5 = 0
  · subst c0
    exact fn_arm d d1 d2 d3 d4 d5 p a3 st fi se ti now ar ag f1 f2 a1 a2 a4 n b h0 h1 hb e5 l2 m1 l4 h4 hn o1 o2 o3 o4 o5 iv
  by_cases c1 : a5 = 1
  · subst c1
    exact fn_agree d d1 d2 d3 d4 d5 p a3 st fi se ti now ar ag f1 f2 a1 a2 a4 n b h0 h1 hb e5 l2 m1 l4 h4 hn o1 o2 o3 o4 o5 iv
  by_cases c2 : a5 = 2
  · subst c2
    have o6 := one_ok d5 3 (by omega) (by omega) e5
    have e6 := d5.one_light e5 3
    exact fn_fire d d1 d2 d3 d4 d5 p a3 st fi se ti now ar ag f1 f2 a1 a2 a4 n b h0 h1 hb e5 l2 m1 l4 h4 hn o1 o2 o3 o4 (d5.one 3).2 e6 (d5.one 3).1 o5 o6 iv
  · exact fn_abort d d1 d2 d3 d4 d5 p a3 st fi se ti now ar ag f1 f2 a1 a2 a4 n b h0 h1 hb e5 l2 m1 l4 h4 hn o1 o2 o3 o4 a5 (by omega) o5 iv

theorem roll2_ok (l : List Int) : CALL 0 N.made_Roll [.t (tL l)] [] = some (.bp 0 0, [Dice.obj ⟨l, 0⟩]) := by
  refine CALL_of K.t_made_Roll rfl ?_
  simp (disch := omega) only [go_sem, K.made_Roll, ↓reduceIte, Dice.obj, Nat.reduceAdd, Nat.reduceSub]

theorem FiringNeeds_law (aw : CALL 0 N.law34_awake [] [] = some (B true, []))
    (rd : CALL 0 N.law34_ready [] [] = some (.tup [.t (.agg [.sl [.int .i64 1], .int .i64 300, .int .i64 1800]), .t (.agg [.sl [.int .i64 0], .sl [.int .i64 2], .bool true]), .t (.agg [fnBT 1099511627776])], []))
    (cp : CALL 3 N.ref26_Copy_v2 [.t (.agg [fnBT 1099511627776])] [] = some (.agg [.ref 0 0 1], [.arr 2 false 0 [.agg [.ref 1 0 1, .ref 2 0 1]], .arr 1 false 0 [I 1], .arr 2 false 0 [.agg [I 0, .ref 3 0 2]], .arr 1 false 0 [I 0, I 1099511627776]]))
    (t : List Int) : CALL 0 N.law34_FiringNeeds [.t (tL t)] [] = some (B true, []) := by
  refine CALL_of K.t_law34_FiringNeeds rfl ?_
  have lo := light_ok t
  by_cases c : t.length ≤ 400
  · simp only [c, decide_true] at lo
    have ro := roll2_ok t
    have d0 : (Dice.mk t 0).light := c
    generalize (Dice.mk t 0) = d at *
    have o1 := next_ok d 30 (by omega) d0
    have l1 := d.next_lo 30
    have h1 := d.next_hi (n := 30) (by omega)
    have e1 := d.next_light d0 30
    generalize d.next 30 = r1 at *
    obtain ⟨a1, d1⟩ := r1
    simp only at o1 l1 h1 e1
    obtain ⟨n, rfl⟩ := Int.eq_ofNat_of_zero_le l1
    have loop : ∀ x v1 v2 v3 v4 v5 v6 v7 v8 v9 v10 v11 v12 v13 : D, ∃ q, exS CALL K.law34_FiringNeeds_l1 ⟨[x, v1, .bp 0 0, .bp 1 0, .bp 2 0, .bp 3 0, .bp 8 0, .bp 9 0, I 0, I (-1), I (-1), I 0, I 0, I n, v2, v3, v4, v5, v6, v7, v8, v9, v10, v11, v12, v13, .und], fnH d1 false 0 0 0 0⟩ = some q ∧
        ∃ d' p' st' fi' se' ti' vs', q = (.exit 0, ⟨.und :: .und :: vs', fnH d' p' st' fi' se' ti'⟩) ∧ vs'.length = 25 := by
      intro x v1 v2 v3 v4 v5 v6 v7 v8 v9 v10 v11 v12 v13
      refine loop_inv (fun j st => fnP (n - j) (301 * j) st) n _ ?_ ?_ ?_
      · exact ⟨d1, false, 0, 0, 0, 0, 0, -1, -1, 0, 0, rfl, e1, by omega, by omega, by decide, fun h => absurd h (by omega), fun h => absurd h (by omega)⟩
      · intro j st hj hp
        obtain ⟨m, hm⟩ : ∃ m, n - j = m + 1 := ⟨n - j - 1, by omega⟩
        simp only [hm] at hp
        obtain ⟨S', h1, h2⟩ := fn_round m (by omega) (301 * j) (by omega) st hp
        refine ⟨S', ?_, ?_⟩
        · obtain ⟨d', p', st', fi', se', ti', now', ar', ag', f1', f2', rfl, h3⟩ := hp
          exact h1
        · have e1 : n - (j + 1) = m := by omega
          have e2 : (301 : Int) * ((j + 1 : Nat) : Int) = 301 * (j : Int) + 301 := by omega
          simp only [e1, e2]; exact h2
      · intro st hp
        simp only [Nat.sub_self] at hp
        obtain ⟨d', p', st', fi', se', ti', now', ar', ag', f1', f2', rfl, h3⟩ := hp
        refine ⟨(.exit 0, fnS d' p' st' fi' se' ti' now' ar' ag' f1' f2' 0), ?_, by simp, d', p', st', fi', se', ti', _, rfl, rfl⟩
        simp (disch := omega) only [go_sem, K.law34_FiringNeeds_l1b, ↓reduceIte, Nat.reduceAdd, Nat.reduceSub, Nat.reduceMul]
        rfl
    obtain ⟨q, hq, d', p', st', fi', se', ti', vs', rfl, hv⟩ := loop (.t (tL t)) (B false) .und .und .und .und .und .und .und .und .und .und .und .und
    simp (disch := omega) only [go_sem, K.law34_FiringNeeds, ↓reduceIte, lo, ro, rd, cp, o1, hq, aw, Nat.reduceAdd, Nat.reduceSub, Nat.reduceMul]
  · simp only [c, decide_false] at lo
    simp (disch := omega) only [go_sem, K.law34_FiringNeeds, ↓reduceIte, lo, aw, Nat.reduceAdd, Nat.reduceSub, Nat.reduceMul]
end Go.Ev

/- Chapter 26 of the references: exchanges. -/
namespace Go.Ev
open Go
variable [Lib] [Has1] [Has2]

@[go_sem] theorem map2_nth_set {α β γ : Type} [Dat α] (f : β → γ) (g : α → β) {l : List α} {i j : Nat} {x : α} (h : j < l.length) : (((l.set i x).map g).map f)[j]? = some (f (g (nth (l.set i x) j))) := map2_nth f g (by rw [List.length_set]; exact h)

def swapL (l : List Int) (i j : Nat) : List Int := (l.set i (nth l j)).set j (nth l i)
def exchW (i j : Nat) (t : Int) (x : World) : World := ⟨swapL x.tags i j, (x.whr.set i (raiseF (nth x.whr i) t).1).set j (raiseF (nth x.whr j) t).1⟩
def exchS (i j : Nat) (t : Int) (x : World) (out : List World) : List World := if meetB (nth x.whr i) (nth x.whr j) t = true then out ++ [exchW i j t x] else out
def exchNb (i j : Nat) (t : Int) (ws : List World) : Nat → List World
  | 0 => ws
  | k + 1 => exchS i j t (nth ws k) (exchNb i j t ws k)
def exchBel (m : Mine) (b : Bel) (i j t : Int) : Bel × Int :=
  if belB m b = false then (b, 6) else if i < 0 ∨ ((nth b.worlds 0).tags.length : Int) ≤ i ∨ j < 0 ∨ ((nth b.worlds 0).tags.length : Int) ≤ j ∨ i = j then (b, 19)
  else if ¬ inT t then (b, 8) else if 24 < (tidyF (exchNb i.toNat j.toNat t b.worlds b.worlds.length)).length then (b, 44) else (⟨tidyF (exchNb i.toNat j.toNat t b.worlds b.worlds.length)⟩, 0)

theorem exchS_len (i j : Nat) (t : Int) (x : World) (out : List World) : out.length ≤ (exchS i j t x out).length ∧ (exchS i j t x out).length ≤ out.length + 1 := by
  unfold exchS; split <;> (try rw [List.length_append, List.length_singleton]) <;> omega
theorem exchNb_len (i j : Nat) (t : Int) (ws : List World) : ∀ k, ws.length ≤ (exchNb i j t ws k).length ∧ (exchNb i j t ws k).length ≤ ws.length + k
  | 0 => ⟨Nat.le_refl _, Nat.le_refl _⟩
  | k + 1 => by
    have h1 := exchNb_len i j t ws k
    have h2 := exchS_len i j t (nth ws k) (exchNb i j t ws k)
    simp only [exchNb]; omega

abbrev exH (m : Mine) (ws out : List World) : Heap := [.box (mineCells m), .box [.t (.sl (ws.map World.e))], .box [.nil], .arr 2 false 0 ((out.map World.e).map .t)]

theorem exch_round (m : Mine) (ws : List World) (hw : ws.length ≤ 100000) (i j : Nat) (hij : i ≠ j) (t : Int) (k : Nat) (hk : k < ws.length) (hs : (nth ws k).sz)
    (i1 : i < (nth ws k).tags.length) (j1 : j < (nth ws k).tags.length) (hl : (nth ws k).whr.length = (nth ws k).tags.length) (out : List World) (ho : out.length ≤ 1000000) :
    roundC true [0, 1, 5, 8, 9, 12] 4 (exS CALL K.ref26_Exchange_l1b ⟨[.und, .und, I i, I j, I t, .und, .bp 1 0, .bp 2 0, .und, .und, .ref 3 0 out.length, I k, .und], exH m ws out⟩) =
      some ⟨[.und, .und, I i, I j, I t, .und, .bp 1 0, .bp 2 0, .und, .und, .ref 3 0 (exchS i j t (nth ws k) out).length, I (k + 1), .und], exH m ws (exchS i j t (nth ws k) out)⟩ := by
  have c1 := copyWorld_ok1 (nth ws k) hs
  have mt := meet_ok (nth (nth ws k).whr i) (nth (nth ws k).whr j) t (hs.2.2 _ (nth_mem (by omega)))
  have r1 := raise_ok (nth (nth ws k).whr i) t (hs.2.2 _ (nth_mem (by omega)))
  have r2 := raise_ok (nth (nth ws k).whr j) t (hs.2.2 _ (nth_mem (by omega)))
  unfold exchS exchW swapL
  have n1 : ∀ w, nth ((nth ws k).whr.set i w) j = nth (nth ws k).whr j := fun w => by rw [set_nth _ _ (by omega), if_neg (fun e => hij e.symm)]
  generalize hx : nth ws k = x at *
  obtain ⟨tags, whr⟩ := x
  obtain ⟨s1, s2, s3⟩ := hs
  simp only at *
  generalize hwi : nth whr i = wi at *
  generalize hwj : nth whr j = wj at *
  generalize raiseF wi t = ri at *
  obtain ⟨⟨t1, f1⟩, e1⟩ := ri
  generalize raiseF wj t = rj at *
  obtain ⟨⟨t2, f2⟩, e2⟩ := rj
  obtain ⟨ti, fi⟩ := wi
  obtain ⟨tj, fj⟩ := wj
  simp only at *
  cases hm : meetB ⟨ti, fi⟩ ⟨tj, fj⟩ t with
  | true =>
    rw [hm] at mt
    simp (disch := omega) only [go_sem, K.ref26_Exchange_l1b, ↓reduceIte, exH, hx, hwi, hwj, n1, c1, mt, r1, r2, Nat.reduceAdd, Nat.reduceSub]
  | false =>
    rw [hm] at mt
    simp (disch := omega) only [go_sem, K.ref26_Exchange_l1b, ↓reduceIte, exH, hx, hwi, hwj, n1, c1, mt, r1, r2, Nat.reduceAdd, Nat.reduceSub, Bool.false_eq_true]

theorem raiseF_frm (w : Wh) (t : Int) : (raiseF w t).1.frm = w.frm := by unfold raiseF; split <;> rfl
theorem exchW_sz {i j : Nat} {t : Int} {x : World} (h : x.sz) (hi : i < x.whr.length) (hj : j < x.whr.length) : (exchW i j t x).sz := by
  obtain ⟨s1, s2, s3⟩ := h
  refine ⟨by simpa [exchW, swapL] using s1, by simpa [exchW] using s2, fun w hw => ?_⟩
  simp only [exchW] at hw
  rcases List.mem_or_eq_of_mem_set hw with hw | rfl
  · rcases List.mem_or_eq_of_mem_set hw with hw | rfl
    · exact s3 w hw
    · rw [raiseF_frm]; exact s3 _ (nth_mem hi)
  · rw [raiseF_frm]; exact s3 _ (nth_mem hj)
theorem exchNb_sz {ws : List World} (h : ∀ x ∈ ws, x.sz) {i j : Nat} {t : Int} (hi : ∀ k, k < ws.length → i < (nth ws k).whr.length) (hj : ∀ k, k < ws.length → j < (nth ws k).whr.length) : ∀ k, k ≤ ws.length → ∀ x ∈ exchNb i j t ws k, x.sz
  | 0, _, x, hx => h x hx
  | k + 1, hk, x, hx => by
    simp only [exchNb, exchS] at hx
    split at hx
    · rcases List.mem_append.1 hx with hx | hx
      · exact exchNb_sz h hi hj k (by omega) x hx
      · rw [List.mem_singleton.1 hx]; exact exchW_sz (h _ (nth_mem (by omega))) (hi k (by omega)) (hj k (by omega))
    · exact exchNb_sz h hi hj k (by omega) x hx

theorem exchBel_ok {m : Mine} (h : m.ok) (b : Bel) (hs : b.sz) (i j t : Int) :
    CALL 0 N.ref26_Exchange [.t m.e, .t b.e, I i, I j, I t] [] = some (.tup [.t (exchBel m b i j t).1.e, I (exchBel m b i j t).2], []) := by
  refine CALL_of K.t_ref26_Exchange rfl ?_
  have cb := copyBel_ok b hs
  have cb1 := copyBel_ok1 b hs
  have vb := belB_ok h b hs
  unfold exchBel
  cases hb : belB m b with
  | false =>
    rw [hb] at vb
    obtain ⟨ws⟩ := b
    simp (disch := omega) only [go_sem, K.ref26_Exchange, ↓reduceIte, cb, vb, Nat.reduceAdd, Nat.reduceSub]
  | true =>
    rw [hb] at vb
    obtain ⟨w1, w2, f1, f2, w5⟩ := belB_spec hb
    obtain ⟨ws⟩ := b
    obtain ⟨s1, s2⟩ := hs
    simp only at s1 s2 w1 w2 w5 f1 f2 cb cb1 vb ⊢
    have g0 : (ws.map World.e)[0]? = some (nth ws 0).e := map_nth _ (by omega)
    have wl : ∀ k, k < ws.length → (nth ws k).tags.length = (nth ws 0).tags.length ∧ (nth ws k).whr.length = (nth ws 0).tags.length := fun k hk => by
      obtain ⟨q1, q2, -⟩ := worldB_spec (w5 k hk)
      exact ⟨q1, q2⟩
    generalize hx : nth ws 0 = x at *
    obtain ⟨first, whr⟩ := x
    simp only at f1 f2 wl g0 ⊢
    rw [if_neg (by simp)]
    by_cases c1 : i < 0
    · rw [if_pos (by omega)]
      simp (disch := omega) only [go_sem, K.ref26_Exchange, ↓reduceIte, cb, vb, hx, g0, c1, Nat.reduceAdd, Nat.reduceSub]
    · by_cases c2 : (first.length : Int) ≤ i
      · rw [if_pos (by omega)]
        simp (disch := omega) only [go_sem, K.ref26_Exchange, ↓reduceIte, cb, vb, hx, g0, c1, c2, Nat.reduceAdd, Nat.reduceSub]
      · by_cases c3 : j < 0
        · rw [if_pos (by omega)]
          simp (disch := omega) only [go_sem, K.ref26_Exchange, ↓reduceIte, cb, vb, hx, g0, c1, c2, c3, Nat.reduceAdd, Nat.reduceSub]
        · by_cases c4 : (first.length : Int) ≤ j
          · rw [if_pos (by omega)]
            simp (disch := omega) only [go_sem, K.ref26_Exchange, ↓reduceIte, cb, vb, hx, g0, c1, c2, c3, c4, Nat.reduceAdd, Nat.reduceSub]
          · by_cases c5 : i = j
            · rw [if_pos (by omega)]
              simp (disch := omega) only [go_sem, K.ref26_Exchange, ↓reduceIte, cb, vb, hx, g0, c1, c2, c3, c4, c5, Nat.reduceAdd, Nat.reduceSub]
            · rw [if_neg (by omega)]
              by_cases ct : inT t
              · have ct' := ct
                unfold inT at ct'
                rw [if_neg (fun h => h ct)]
                obtain ⟨i', rfl⟩ := Int.eq_ofNat_of_zero_le (show 0 ≤ i by omega)
                obtain ⟨j', rfl⟩ := Int.eq_ofNat_of_zero_le (show 0 ≤ j by omega)
                simp only [Int.toNat_natCast]
                have ln := exchNb_len i' j' t ws
                have loop : ∀ a b c d e f : D, exS CALL K.ref26_Exchange_l1 ⟨[a, b, I i', I j', I t, c, .bp 1 0, .bp 2 0, d, e, .ref 3 0 ws.length, I 0, f], exH m ws ws⟩ =
                    some (.exit 0, ⟨[.und, .und, I i', I j', I t, .und, .bp 1 0, .bp 2 0, .und, .und, .ref 3 0 (exchNb i' j' t ws ws.length).length, I ws.length, .und], exH m ws (exchNb i' j' t ws ws.length)⟩) := by
                  intro a b c d e f
                  refine loop_up (fun k => ⟨[.und, .und, I i', I j', I t, .und, .bp 1 0, .bp 2 0, .und, .und, .ref 3 0 (exchNb i' j' t ws k).length, I k, .und], exH m ws (exchNb i' j' t ws k)⟩) ws.length rfl ?_ ?_ (by simp)
                  · intro k hk
                    obtain ⟨q1, q2⟩ := wl k hk
                    have := ln k
                    exact exch_round m ws (by omega) i' j' (by omega) t k hk (s2 _ (nth_mem hk)) (by omega) (by omega) (by omega) _ (by omega)
                  · have := ln ws.length
                    generalize exchNb i' j' t ws ws.length = L at *
                    simp (disch := omega) only [go_sem, K.ref26_Exchange_l1b, ↓reduceIte, exH, Nat.reduceAdd, Nat.reduceSub]
                have ln := ln ws.length
                have sz := exchNb_sz (t := t) s2 (i := i') (j := j') (fun k hk => by obtain ⟨q1, q2⟩ := wl k hk; omega) (fun k hk => by obtain ⟨q1, q2⟩ := wl k hk; omega) ws.length (Nat.le_refl _)
                have ty := tidy_ok (exchNb i' j' t ws ws.length) (by omega) (by omega) sz
                generalize exchNb i' j' t ws ws.length = L at *
                generalize tidyF L = Z at *
                simp only [exH] at loop
                by_cases c6 : 24 < Z.length
                · simp (disch := omega) only [go_sem, K.ref26_Exchange, ↓reduceIte, cb, cb1, vb, hx, g0, c1, c2, c3, c4, c5, c6, loop, ty, Nat.reduceAdd, Nat.reduceSub]
                · simp (disch := omega) only [go_sem, K.ref26_Exchange, ↓reduceIte, cb, cb1, vb, hx, g0, c1, c2, c3, c4, c5, c6, loop, ty, Nat.reduceAdd, Nat.reduceSub]
              · rw [if_pos ct]
                unfold inT at ct
                by_cases c6 : t < 0
                · simp (disch := omega) only [go_sem, K.ref26_Exchange, ↓reduceIte, cb, vb, hx, g0, c1, c2, c3, c4, c5, c6, Nat.reduceAdd, Nat.reduceSub]
                · simp (disch := omega) only [go_sem, K.ref26_Exchange, ↓reduceIte, cb, vb, hx, g0, c1, c2, c3, c4, c5, c6, Nat.reduceAdd, Nat.reduceSub]

end Go.Ev

/- Made inputs: beliefs. -/
namespace Go.Ev
open Go
variable [Lib] [Has1] [Has2]

def tagsN : Nat → List Int
  | 0 => []
  | k + 1 => tagsN k ++ [3 + (k : Int) * 2]
def Dice.nextsN (d : Dice) (n : Int) : Nat → List Int × Dice
  | 0 => ([], d)
  | k + 1 => ((d.nextsN n k).1 ++ [((d.nextsN n k).2.next n).1], ((d.nextsN n k).2.next n).2)
theorem tagsN_len : ∀ k, (tagsN k).length = k
  | 0 => rfl
  | k + 1 => by simp [tagsN, tagsN_len k]
theorem Dice.nextsN_len (d : Dice) (n : Int) : ∀ k, (d.nextsN n k).1.length = k
  | 0 => rfl
  | k + 1 => by simp [Dice.nextsN, d.nextsN_len n k]
theorem Dice.nextsN_light {d : Dice} (h : d.light) (n : Int) : ∀ k, (d.nextsN n k).2.light
  | 0 => h
  | k + 1 => Dice.next_light (Dice.nextsN_light h n k) n

structure BSt where
  b : Bel
  t : Int
  d : Dice

def Dice.belStep (m : Mine) (n : Int) (s : BSt) : BSt :=
  let a := s.d.next 60
  let c := a.2.next 3
  if c.1 = 0 then
    let i := c.2.next n
    let j := i.2.next n
    let r := exchBel m s.b i.1 j.1 (s.t + a.1)
    ⟨if r.2 = 0 then r.1 else s.b, s.t + a.1, j.2⟩
  else if c.1 = 1 then
    let g := c.2.next n
    let l := g.2.someN m.places.length
    let e := l.2.next 9
    let r := seeBel m s.b (3 + 2 * g.1) l.1 (s.t + a.1) (s.t + a.1 + e.1)
    ⟨if r.2 = 0 then r.1 else s.b, s.t + a.1, e.2⟩
  else
    let g := c.2.next n
    let l := g.2.someN m.places.length
    let e := l.2.next 40
    let r := absBel m s.b (3 + 2 * g.1) l.1 (s.t + a.1) (s.t + a.1 + 50) e.1
    ⟨if r.2 = 0 then r.1 else s.b, s.t + a.1, e.2⟩
def Dice.belN (m : Mine) (n : Int) (s : BSt) : Nat → BSt
  | 0 => s
  | k + 1 => Dice.belStep m n (Dice.belN m n s k)

def Dice.belP (d : Dice) : Nat := (1 + (d.next 3).1).toNat
def Dice.belS (d : Dice) (m : Mine) : List Int × Dice := (d.next 3).2.nextsN m.places.length d.belP
def Dice.bel0 (d : Dice) (m : Mine) : BSt := ⟨(startBel m (tagsN d.belP) (d.belS m).1 ((d.belS m).2.next 100).1).1, 100, (((d.belS m).2.next 100).2.next 5).2⟩
def Dice.belK (d : Dice) (m : Mine) : Nat := (((d.belS m).2.next 100).2.next 5).1.toNat
def Dice.belF (d : Dice) (m : Mine) : BSt := Dice.belN m d.belP (d.bel0 m) (d.belK m)
def Dice.belief (d : Dice) (m : Mine) : Bel × Dice := ((d.belF m).b, (d.belF m).d)

/-- What beliefs keep: sizes. -/
structure WOk (m : Mine) (N : Nat) (x : World) : Prop where
  tg : x.tags.length = N
  wh : x.whr.length = N
  fr : ∀ w ∈ x.whr, w.frm.length = m.places.length
  ti : ∀ w ∈ x.whr, inT w.time
structure BOk (m : Mine) (N : Nat) (b : Bel) : Prop where
  w1 : 1 ≤ b.worlds.length
  w2 : b.worlds.length ≤ 24
  n1 : 1 ≤ N
  n2 : N ≤ 12
  ws : ∀ x ∈ b.worlds, WOk m N x

theorem WOk.sz {m : Mine} {N : Nat} {x : World} (h : WOk m N x) (hm : m.ok) (hn : N ≤ 12) : x.sz := by
  have np := hm.np
  obtain ⟨t1, t2, t3, -⟩ := h
  exact ⟨by omega, by omega, fun w hw => by rw [t3 w hw]; omega⟩
theorem BOk.sz {m : Mine} {N : Nat} {b : Bel} (h : BOk m N b) (hm : m.ok) : b.sz :=
  ⟨by have := h.w2; omega, fun x hx => (h.ws x hx).sz hm h.n2⟩

theorem belStep_light {m : Mine} {n : Int} {s : BSt} (h : s.d.light) : (Dice.belStep m n s).d.light := by
  unfold Dice.belStep
  simp only
  have l1 := Dice.next_light h 60
  generalize s.d.next 60 = a at *
  obtain ⟨a1, d1⟩ := a
  simp only at l1 ⊢
  have l2 := Dice.next_light l1 3
  generalize d1.next 3 = c at *
  obtain ⟨c1, d2⟩ := c
  simp only at l2 ⊢
  split
  · exact Dice.next_light (Dice.next_light l2 n) n
  · split
    · exact Dice.next_light (Dice.someN_light (Dice.next_light l2 n) _) 9
    · exact Dice.next_light (Dice.someN_light (Dice.next_light l2 n) _) 40

abbrev blH (m : Mine) (p1 p2 : Bool) (tags starts : List Int) (s : BSt) : Heap := [s.d.obj, .box (mineCells m), .box [.nil], .arr 1 p1 0 (ints tags), .arr 1 p2 0 (ints starts), .box [.t (.sl (s.b.worlds.map World.e))]]

theorem bel_round {m : Mine} (hm : m.ok) (n : Int) (n1 : 1 ≤ n) (n2 : n ≤ 12) (tags starts : List Int) (s : BSt) (hd : s.d.light) (hb : s.b.sz) (ht : 0 ≤ s.t) (ht2 : s.t ≤ 1000000) (k : Nat) (hk : k ≤ 100) (p1 p2 : Bool) :
    roundC true [1, 5, 6, 7, 11, 12, 13, 14, 15, 16, 17] 6 (exS CALL K.made_Dice_Belief_l2b ⟨[.bp 0 0, .und, .bp 1 0, .bp 2 0, I n, .und, .und, .und, .bp 5 0, I s.t, I (k + 1), .und, .und, .und, .und, .und, .und, .und], blH m p1 p2 tags starts s⟩) =
    some ⟨[.bp 0 0, .und, .bp 1 0, .bp 2 0, I n, .und, .und, .und, .bp 5 0, I (Dice.belStep m n s).t, I k, .und, .und, .und, .und, .und, .und, .und], blH m p1 p2 tags starts (Dice.belStep m n s)⟩ := by
  obtain ⟨b, t, d⟩ := s
  simp only at hd hb ht ht2
  unfold Dice.belStep
  simp only
  have np := hm.np
  have h1 := next_ok d 60 (by omega) hd
  have l1 := Dice.next_light hd 60
  have a0 := d.next_lo 60
  have a9 := d.next_hi (n := 60) (by omega)
  generalize d.next 60 = a at *
  obtain ⟨x1, d1⟩ := a
  simp only at h1 l1 a0 a9 ⊢
  have h2 := next_ok d1 3 (by omega) l1
  have l2 := Dice.next_light l1 3
  have c0 := d1.next_lo 3
  have c9 := d1.next_hi (n := 3) (by omega)
  generalize d1.next 3 = c at *
  obtain ⟨x2, d2⟩ := c
  simp only at h2 l2 c0 c9 ⊢
  have h3 := next_ok d2 n (by omega) l2
  have l3 := Dice.next_light l2 n
  have g0 := d2.next_lo n
  have g9 := d2.next_hi (n := n) n1
  generalize d2.next n = g at *
  obtain ⟨x3, d3⟩ := g
  simp only at h3 l3 g0 g9 ⊢
  by_cases e0 : x2 = 0
  · simp only [if_pos e0]
    have h4 := next_ok d3 n (by omega) l3
    generalize d3.next n = g at *
    obtain ⟨x4, d4⟩ := g
    simp only at h4 ⊢
    have ex := exchBel_ok hm b hb x3 x4 (t + x1)
    generalize exchBel m b x3 x4 (t + x1) = r at *
    obtain ⟨⟨ws'⟩, er⟩ := r
    obtain ⟨ws⟩ := b
    simp only at ex ⊢
    subst e0
    by_cases e : er = 0
    · simp (disch := omega) only [go_sem, K.made_Dice_Belief_l2b, ↓reduceIte, blH, h1, h2, h3, h4, ex, e, Nat.reduceAdd, Nat.reduceSub]
    · simp (disch := omega) only [go_sem, K.made_Dice_Belief_l2b, ↓reduceIte, blH, h1, h2, h3, h4, ex, e, Nat.reduceAdd, Nat.reduceSub]
  · simp only [if_neg e0]
    have h4 := some_ok d3 m.places.length (by omega) l3
    have l4 := Dice.someN_light l3 m.places.length
    have ln := d3.someN_len m.places.length
    generalize d3.someN m.places.length = q at *
    obtain ⟨l, d4⟩ := q
    simp only at h4 l4 ln ⊢
    by_cases e1 : x2 = 1
    · simp only [if_pos e1]
      have h5 := next_ok d4 9 (by omega) l4
      have f0 := d4.next_lo 9
      have f9 := d4.next_hi (n := 9) (by omega)
      generalize d4.next 9 = g at *
      obtain ⟨x5, d5⟩ := g
      simp only at h5 f0 f9 ⊢
      have ex := seeBel_ok hm b hb (3 + 2 * x3) l (by omega) (t + x1) (t + x1 + x5)
      generalize seeBel m b (3 + 2 * x3) l (t + x1) (t + x1 + x5) = r at *
      obtain ⟨⟨ws'⟩, er⟩ := r
      obtain ⟨ws⟩ := b
      simp only at ex ⊢
      subst e1
      by_cases e : er = 0
      · simp (disch := omega) only [go_sem, K.made_Dice_Belief_l2b, ↓reduceIte, blH, h1, h2, h3, h4, h5, ex, e, Nat.reduceAdd, Nat.reduceSub]
      · simp (disch := omega) only [go_sem, K.made_Dice_Belief_l2b, ↓reduceIte, blH, h1, h2, h3, h4, h5, ex, e, Nat.reduceAdd, Nat.reduceSub]
    · simp only [if_neg e1]
      have h5 := next_ok d4 40 (by omega) l4
      have f0 := d4.next_lo 40
      have f9 := d4.next_hi (n := 40) (by omega)
      generalize d4.next 40 = g at *
      obtain ⟨x5, d5⟩ := g
      simp only at h5 f0 f9 ⊢
      have ex := absBel_ok hm b hb (3 + 2 * x3) l (by omega) (t + x1) (t + x1 + 50) x5
      generalize absBel m b (3 + 2 * x3) l (t + x1) (t + x1 + 50) x5 = r at *
      obtain ⟨⟨ws'⟩, er⟩ := r
      obtain ⟨ws⟩ := b
      simp only at ex ⊢
      by_cases e : er = 0
      · simp (disch := omega) only [go_sem, K.made_Dice_Belief_l2b, ↓reduceIte, blH, h1, h2, h3, h4, h5, ex, e, e0, e1, Nat.reduceAdd, Nat.reduceSub]
      · simp (disch := omega) only [go_sem, K.made_Dice_Belief_l2b, ↓reduceIte, blH, h1, h2, h3, h4, h5, ex, e, e0, e1, Nat.reduceAdd, Nat.reduceSub]

theorem startF_ok {m : Mine} (hm : m.ok) {p t : Int} (p0 : 0 ≤ p) (p1 : p < m.places.length) (ht : inT t) : (startF m p t).2 = 0 ∧ (startF m p t).1.frm.length = m.places.length := by
  unfold startF
  rw [if_neg (by omega), if_pos ht]
  refine ⟨rfl, ?_⟩
  exact closeF_len hm t ht none (fun l h => by cases h) (by simp) (bnd_set (neverL_bnd _) ht.1 (by have := ht.2; omega))
theorem startF_ti {m : Mine} {p t : Int} (ht : inT t) : inT (startF m p t).1.time := by
  unfold startF
  split
  · unfold inT; simp
  · exact ht
theorem seeF_ti {m : Mine} (w : Wh) (l : List Int) (a b : Int) (hw : inT w.time) : inT (seeF m w l a b).1.time := by
  unfold seeF
  split
  · exact hw
  · rename_i h
    have h0 : askedF m w l a b = 0 := by simpa using h
    obtain ⟨v1, v2, v3, v4, v5, v6⟩ := askedF_0 h0
    split
    · exact hw
    · split
      · exact v5
      · exact hw
theorem absF_ti {m : Mine} (w : Wh) (l : List Int) (a b bl : Int) (hw : inT w.time) : inT (absF m w l a b bl).1.time := by
  unfold absF
  split
  · exact hw
  · rename_i h
    have h0 : askedF m w l a b = 0 := by simpa using h
    obtain ⟨v1, v2, v3, v4, v5, v6⟩ := askedF_0 h0
    split
    · exact hw
    · split
      · exact hw
      · split
        · exact hw
        · exact v5
theorem joinF_ti {a b : Wh} (ha : inT a.time) (hb : inT b.time) : inT (joinF a b).1.time := by
  unfold joinF
  split
  · unfold inT at *; simp only; omega
  · unfold inT; simp
theorem raiseF_ti {w : Wh} {t : Int} (h : inT w.time) : inT (raiseF w t).1.time := by
  unfold raiseF
  split
  · exact h
  · unfold inT at *; simp only; omega
theorem joinN_ti (a b : List Wh) (ha : ∀ w ∈ a, inT w.time) (hb : ∀ w ∈ b, inT w.time) : ∀ p, p ≤ a.length → p ≤ b.length → ∀ w ∈ joinN a b p, inT w.time
  | 0, _, _, w, hw => ha w hw
  | p + 1, h1, h2, w, hw => by
    simp only [joinN] at hw
    rcases List.mem_or_eq_of_mem_set hw with hw | rfl
    · exact joinN_ti a b ha hb p (by omega) (by omega) w hw
    · exact joinF_ti (ha _ (nth_mem (by omega))) (hb _ (nth_mem (by omega)))
theorem seeF_len {m : Mine} (hm : m.ok) (w : Wh) (l : List Int) (a b : Int) (hw : w.frm.length = m.places.length) : (seeF m w l a b).1.frm.length = m.places.length := by
  unfold seeF
  split
  · exact hw
  · rename_i h
    have h0 : askedF m w l a b = 0 := by simpa using h
    obtain ⟨v1, v2, v3, v4, v5, v6⟩ := askedF_0 h0
    obtain ⟨w1, w2, w3, w4⟩ := validB_spec v1
    have hb : bnd w.frm := fun x hx => plT_bnd (w3 x hx)
    split
    · exact hw
    · split
      · refine closeF_len hm a v4 none (fun l h => by cases h) (seeN_len _ _ _ _ _) (seeN_bnd hb _ _ ?_ _ (Nat.le_refl _))
        intro p hp
        obtain ⟨j, hj⟩ := List.mem_iff_getElem?.1 hp
        have hjl := (List.getElem?_eq_some_iff.1 hj).1
        obtain ⟨q1, q2, -⟩ := setB_nth v3 hjl
        rw [nth_eq hj] at q1 q2
        omega
      · exact hw
theorem absF_len {m : Mine} (hm : m.ok) (w : Wh) (l : List Int) (a b bl : Int) (hw : w.frm.length = m.places.length) : (absF m w l a b bl).1.frm.length = m.places.length := by
  unfold absF
  split
  · exact hw
  · rename_i h
    have h0 : askedF m w l a b = 0 := by simpa using h
    obtain ⟨v1, v2, v3, v4, v5, v6⟩ := askedF_0 h0
    obtain ⟨w1, w2, w3, w4⟩ := validB_spec v1
    have hb : bnd w.frm := fun x hx => plT_bnd (w3 x hx)
    split
    · exact hw
    · split
      · exact hw
      · split
        · exact hw
        · rename_i h1 h2 h3
          have hlen := setB_len v3
          have np := hm.np
          have h1 : inT bl := by simpa using h1
          unfold inT at v4 v5 w2 h1
          have t1 : inT (b - bl) := by unfold inT; omega
          have hi : ∀ s, some l = some s → s ≠ [] ∧ s.length ≤ 64 := by
            intro s hs; cases hs; exact ⟨v2, by omega⟩
          have ln := absN_len w.frm l l.length
          have lb := absN_bnd hb l l.length
          exact closeF_len hm b v5 none (fun l h => by cases h) (closeF_len hm _ t1 _ hi (by omega) lb) (closeF_bnd hm _ t1 _ hi (by omega) lb)

theorem putW_ok {m : Mine} {N : Nat} {tag : Int} {x : World} {w : Wh} (hx : WOk m N x) (hw : w.frm.length = m.places.length) (hw2 : inT w.time) : WOk m N (putW tag x w) := by
  obtain ⟨t1, t2, t3, t4⟩ := hx
  refine ⟨t1, by simpa [putW] using t2, fun y hy => ?_, fun y hy => ?_⟩
  · simp only [putW] at hy
    rcases List.mem_or_eq_of_mem_set hy with hy | rfl
    · exact t3 y hy
    · exact hw
  · simp only [putW] at hy
    rcases List.mem_or_eq_of_mem_set hy with hy | rfl
    · exact t4 y hy
    · exact hw2

theorem seeBel_good {m : Mine} (hm : m.ok) {N : Nat} {b : Bel} (hb : BOk m N b) (tag : Int) (l : List Int) (a c : Int) : BOk m N (if (seeBel m b tag l a c).2 = 0 then (seeBel m b tag l a c).1 else b) := by
  split
  · rename_i h0
    unfold seeBel at h0 ⊢
    by_cases e0 : borneF m b tag = 0
    · simp only [e0, ne_eq, not_true_eq_false, if_false] at h0 ⊢
      obtain ⟨_, bb⟩ := borne_0 e0
      cases hf : (List.range b.worlds.length).find? (seeBad m tag l a c b.worlds) with
      | some i => simp only [hf]; exact hb
      | none =>
        simp only [hf] at h0 ⊢
        split at h0
        · simp at h0
        · rename_i hl
          rw [if_neg hl]
          have ln := seeNb_len m tag l a c b.worlds b.worlds.length
          refine ⟨by simp only; omega, by have := hb.w2; simp only; omega, hb.n1, hb.n2, ?_⟩
          have key : ∀ j, j ≤ b.worlds.length → ∀ x ∈ seeNb m tag l a c b.worlds j, WOk m N x := by
            intro j
            induction j with
            | zero => intro _ x hx; simp [seeNb] at hx
            | succ j ih =>
              intro hj x hx
              have wj := hb.ws _ (nth_mem (l := b.worlds) (j := j) (by omega))
              obtain ⟨b1, b2⟩ := bb j (by omega)
              simp only [seeNb, stepW] at hx
              split at hx
              · exact ih (by omega) x hx
              · rcases List.mem_append.1 hx with hx | hx
                · exact ih (by omega) x hx
                · rw [List.mem_singleton.1 hx]
                  split
                  · exact putW_ok wj (seeF_len hm _ l a c (wj.fr _ (nth_mem (by omega)))) (seeF_ti _ l a c (wj.ti _ (nth_mem (by omega))))
                  · exact wj
          exact key _ (Nat.le_refl _)
    · rw [if_pos e0] at h0 ⊢
      exact hb
  · exact hb

theorem absBel_good {m : Mine} (hm : m.ok) {N : Nat} {b : Bel} (hb : BOk m N b) (tag : Int) (l : List Int) (a c bl : Int) : BOk m N (if (absBel m b tag l a c bl).2 = 0 then (absBel m b tag l a c bl).1 else b) := by
  split
  · rename_i h0
    unfold absBel at h0 ⊢
    by_cases e0 : borneF m b tag = 0
    · simp only [e0, ne_eq, not_true_eq_false, if_false] at h0 ⊢
      obtain ⟨_, bb⟩ := borne_0 e0
      cases hf : (List.range b.worlds.length).find? (absBad m tag l a c bl b.worlds) with
      | some i => simp only [hf]; exact hb
      | none =>
        simp only [hf]
        have ln := absNb_len m tag l a c bl b.worlds b.worlds.length
        refine ⟨by have := hb.w1; simp only; omega, by have := hb.w2; simp only; omega, hb.n1, hb.n2, ?_⟩
        have key : ∀ j, j ≤ b.worlds.length → ∀ x ∈ absNb m tag l a c bl b.worlds j, WOk m N x := by
          intro j
          induction j with
          | zero => intro _ x hx; simp [absNb] at hx
          | succ j ih =>
            intro hj x hx
            have wj := hb.ws _ (nth_mem (l := b.worlds) (j := j) (by omega))
            obtain ⟨b1, b2⟩ := bb j (by omega)
            simp only [absNb, stepA] at hx
            rcases List.mem_append.1 hx with hx | hx
            · exact ih (by omega) x hx
            · rw [List.mem_singleton.1 hx]
              split
              · exact putW_ok wj (absF_len hm _ l a c bl (wj.fr _ (nth_mem (by omega)))) (absF_ti _ l a c bl (wj.ti _ (nth_mem (by omega))))
              · exact wj
        exact key _ (Nat.le_refl _)
    · rw [if_pos e0] at h0 ⊢
      exact hb
  · exact hb

theorem joinF_len {m : Mine} {a b : Wh} (ha : a.frm.length = m.places.length) (hb : b.frm.length = m.places.length) : (joinF a b).1.frm.length = m.places.length := by
  unfold joinF
  rw [if_pos (by omega)]
  simp only [minN_len]; exact ha
theorem joinN_fr {m : Mine} (a b : List Wh) (ha : ∀ w ∈ a, w.frm.length = m.places.length) (hb : ∀ w ∈ b, w.frm.length = m.places.length) : ∀ p, p ≤ a.length → p ≤ b.length → ∀ w ∈ joinN a b p, w.frm.length = m.places.length
  | 0, _, _, w, hw => ha w hw
  | p + 1, h1, h2, w, hw => by
    simp only [joinN] at hw
    rcases List.mem_or_eq_of_mem_set hw with hw | rfl
    · exact joinN_fr a b ha hb p (by omega) (by omega) w hw
    · exact joinF_len (ha _ (nth_mem (by omega))) (hb _ (nth_mem (by omega)))
theorem tidy1_good {m : Mine} {N : Nat} {out : List World} {x : World} (ho : ∀ y ∈ out, WOk m N y) (hx : WOk m N x) : ∀ y ∈ tidy1 out x, WOk m N y := by
  intro y hy
  unfold tidy1 at hy
  split at hy
  · rename_i h
    rcases List.mem_or_eq_of_mem_set hy with hy | rfl
    · exact ho y hy
    · obtain ⟨s1, s2, s3, s4⟩ := ho _ (nth_mem h.1)
      refine ⟨hx.tg, ?_, joinN_fr _ _ s3 hx.fr _ (Nat.min_le_left _ _) (Nat.min_le_right _ _), joinN_ti _ _ s4 hx.ti _ (Nat.min_le_left _ _) (Nat.min_le_right _ _)⟩
      show (joinN _ _ _).length = _
      rw [joinN_len]; exact s2
  · rcases List.mem_append.1 hy with hy | hy
    · rcases List.mem_append.1 hy with hy | hy
      · exact ho y (List.mem_of_mem_take hy)
      · rw [List.mem_singleton.1 hy]; exact hx
    · exact ho y (List.mem_of_mem_drop hy)
theorem tidyN_good {m : Mine} {N : Nat} {l : List World} (hl : ∀ x ∈ l, WOk m N x) : ∀ j, j ≤ l.length → ∀ y ∈ tidyN l j, WOk m N y
  | 0, _, y, hy => by simp [tidyN] at hy
  | j + 1, h, y, hy => tidy1_good (tidyN_good hl j (by omega)) (hl _ (nth_mem (by omega))) y hy

theorem exchW_good {m : Mine} {N : Nat} {i j : Nat} {t : Int} {x : World} (h : WOk m N x) (hi : i < N) (hj : j < N) : WOk m N (exchW i j t x) := by
  obtain ⟨s1, s2, s3, s4⟩ := h
  refine ⟨by simpa [exchW, swapL] using s1, by simpa [exchW] using s2, fun w hw => ?_, fun w hw => ?_⟩
  · simp only [exchW] at hw
    rcases List.mem_or_eq_of_mem_set hw with hw | rfl
    · rcases List.mem_or_eq_of_mem_set hw with hw | rfl
      · exact s3 w hw
      · rw [raiseF_frm]; exact s3 _ (nth_mem (by omega))
    · rw [raiseF_frm]; exact s3 _ (nth_mem (by omega))
  · simp only [exchW] at hw
    rcases List.mem_or_eq_of_mem_set hw with hw | rfl
    · rcases List.mem_or_eq_of_mem_set hw with hw | rfl
      · exact s4 w hw
      · exact raiseF_ti (s4 _ (nth_mem (by omega)))
    · exact raiseF_ti (s4 _ (nth_mem (by omega)))
theorem exchNb_good {m : Mine} {N : Nat} {ws : List World} (h : ∀ x ∈ ws, WOk m N x) {i j : Nat} {t : Int} (hi : i < N) (hj : j < N) : ∀ k, k ≤ ws.length → ∀ x ∈ exchNb i j t ws k, WOk m N x
  | 0, _, x, hx => h x hx
  | k + 1, hk, x, hx => by
    simp only [exchNb, exchS] at hx
    split at hx
    · rcases List.mem_append.1 hx with hx | hx
      · exact exchNb_good h hi hj k (by omega) x hx
      · rw [List.mem_singleton.1 hx]; exact exchW_good (h _ (nth_mem (by omega))) hi hj
    · exact exchNb_good h hi hj k (by omega) x hx

theorem exchBel_good {m : Mine} {N : Nat} {b : Bel} (hb : BOk m N b) (i j t : Int) : BOk m N (if (exchBel m b i j t).2 = 0 then (exchBel m b i j t).1 else b) := by
  split
  · rename_i h0
    unfold exchBel at h0 ⊢
    split at h0
    · simp at h0
    · rename_i c1
      rw [if_neg c1]
      split at h0
      · simp at h0
      · rename_i c2
        rw [if_neg c2]
        split at h0
        · simp at h0
        · rename_i c3
          rw [if_neg c3]
          split at h0
          · simp at h0
          · rename_i c4
            rw [if_neg c4]
            have t0 := (hb.ws _ (nth_mem (l := b.worlds) (j := 0) (by have := hb.w1; omega))).tg
            have ln := exchNb_len i.toNat j.toNat t b.worlds b.worlds.length
            have w1 := hb.w1
            refine ⟨?_, by simp only; omega, hb.n1, hb.n2, ?_⟩
            · simp only [tidyF]
              cases hn : (exchNb i.toNat j.toNat t b.worlds b.worlds.length).length with
              | zero => omega
              | succ n => exact (tidy1_len _ _).2.2
            · exact tidyN_good (exchNb_good hb.ws (by omega) (by omega) _ (Nat.le_refl _)) _ (Nat.le_refl _)
  · exact hb

theorem belStep_good {m : Mine} (hm : m.ok) {N : Nat} {n : Int} {s : BSt} (hb : BOk m N s.b) : BOk m N (Dice.belStep m n s).b := by
  unfold Dice.belStep
  simp only
  split
  · exact exchBel_good hb _ _ _
  · split
    · exact seeBel_good hm hb _ _ _ _
    · exact absBel_good hm hb _ _ _ _ _

theorem belStep_t {m : Mine} {n : Int} {s : BSt} : s.t ≤ (Dice.belStep m n s).t ∧ (Dice.belStep m n s).t ≤ s.t + 60 := by
  have h1 := s.d.next_lo 60
  have h2 := s.d.next_hi (n := 60) (by omega)
  unfold Dice.belStep
  simp only
  split
  · simp only; omega
  · split <;> (simp only; omega)

theorem belN_good {m : Mine} (hm : m.ok) {N : Nat} {n : Int} {s : BSt} (hb : BOk m N s.b) (hd : s.d.light) (ht : s.t = 100) : ∀ k, BOk m N (Dice.belN m n s k).b ∧ (Dice.belN m n s k).d.light ∧ 100 ≤ (Dice.belN m n s k).t ∧ (Dice.belN m n s k).t ≤ 100 + 60 * k
  | 0 => ⟨hb, hd, by simp [Dice.belN, ht], by simp [Dice.belN, ht]⟩
  | k + 1 => by
    obtain ⟨h1, h2, h3, h4⟩ := belN_good hm hb hd ht k
    have ht := belStep_t (m := m) (n := n) (s := Dice.belN m n s k)
    exact ⟨belStep_good hm h1, belStep_light h2, by simp only [Dice.belN]; omega, by simp only [Dice.belN]; omega⟩

theorem tagsN_proper {n : Nat} (h : n ≤ 3) : properB (tagsN n) = true := by
  match n, h with
  | 0, _ => decide
  | 1, _ => decide
  | 2, _ => decide
  | 3, _ => decide

theorem nextsN_in (d : Dice) {n : Int} (hn : 1 ≤ n) : ∀ k, ∀ x ∈ (d.nextsN n k).1, 0 ≤ x ∧ x < n
  | 0, x, hx => by simp [Dice.nextsN] at hx
  | k + 1, x, hx => by
    simp only [Dice.nextsN, List.mem_append, List.mem_singleton] at hx
    rcases hx with hx | rfl
    · exact nextsN_in d hn k x hx
    · exact ⟨Dice.next_lo _ _, Dice.next_hi _ hn⟩

theorem belP_bd (d : Dice) : 1 ≤ d.belP ∧ d.belP ≤ 3 := by
  have h1 := d.next_lo 3
  have h2 := d.next_hi (n := 3) (by omega)
  unfold Dice.belP; omega

theorem bel0_is {m : Mine} (hm : m.ok) (h1 : 1 ≤ m.places.length) (d : Dice) :
    (startBel m (tagsN d.belP) (d.belS m).1 ((d.belS m).2.next 100).1) = (⟨[⟨tagsN d.belP, startWs m (d.belS m).1 ((d.belS m).2.next 100).1 (tagsN d.belP).length⟩]⟩, 0) := by
  have pb := belP_bd d
  have tl := tagsN_len d.belP
  have sl : (d.belS m).1.length = d.belP := Dice.nextsN_len _ _ _
  have t0 := (d.belS m).2.next_lo 100
  have t9 := (d.belS m).2.next_hi (n := 100) (by omega)
  have np := hm.np
  unfold startBel
  rw [if_pos (by omega), if_pos (tagsN_proper (by omega))]
  have : (List.range (tagsN d.belP).length).find? (fun i => !decide ((startF m (nth (d.belS m).1 i) ((d.belS m).2.next 100).1).2 = 0)) = none := by
    rw [List.find?_eq_none]
    intro i hi
    have hi : i < (d.belS m).1.length := by rw [sl, ← tl]; exact List.mem_range.1 hi
    have := nextsN_in (d.next 3).2 (n := m.places.length) (by omega) d.belP _ (nth_mem hi)
    have := (startF_ok hm this.1 this.2 (t := ((d.belS m).2.next 100).1) ⟨by omega, by omega⟩).1
    have e : (startF m (nth (d.belS m).1 i) ((d.belS m).2.next 100).1).2 = 0 := this
    simp [e]
  rw [this]

theorem bel0_good {m : Mine} (hm : m.ok) (h1 : 1 ≤ m.places.length) (d : Dice) : BOk m d.belP (d.bel0 m).b := by
  have pb := belP_bd d
  have tl := tagsN_len d.belP
  have sl : (d.belS m).1.length = d.belP := Dice.nextsN_len _ _ _
  have t0 := (d.belS m).2.next_lo 100
  have t9 := (d.belS m).2.next_hi (n := 100) (by omega)
  have np := hm.np
  unfold Dice.bel0
  rw [bel0_is hm h1]
  refine ⟨by simp, by simp, by omega, by omega, fun x hx => ?_⟩
  rw [List.mem_singleton.1 hx]
  refine ⟨tl, by simp [tl], fun w hw => ?_, fun w hw => by
    simp only [startWs, List.mem_map, List.mem_range] at hw
    obtain ⟨i, hi, rfl⟩ := hw
    exact startF_ti ⟨by omega, by omega⟩⟩
  simp only [startWs, List.mem_map, List.mem_range] at hw
  obtain ⟨i, hi, rfl⟩ := hw
  have hi : i < (d.belS m).1.length := by rw [sl, ← tl]; exact hi
  have := nextsN_in (d.next 3).2 (n := m.places.length) (by omega) d.belP _ (nth_mem hi)
  exact (startF_ok hm this.1 this.2 ⟨by omega, by omega⟩).2

theorem belF_good {m : Mine} (hm : m.ok) (h1 : 1 ≤ m.places.length) {d : Dice} (hd : d.light) : BOk m d.belP (d.belief m).1 ∧ (d.belief m).2.light := by
  have l0 : (d.bel0 m).d.light := Dice.next_light (Dice.next_light (Dice.nextsN_light (Dice.next_light hd 3) _ _) _) _
  obtain ⟨h1, h2, -⟩ := belN_good hm (bel0_good hm h1 d) l0 rfl (n := d.belP) (d.belK m)
  exact ⟨h1, h2⟩

end Go.Ev

/- Made inputs: flows of the air. -/
namespace Go.Ev
open Go
variable [Lib] [Has1] [Has2]

@[go_sem] theorem appOK_spn (l : List Spn) : appOK 2 (l.map Spn.e) = true := by cases l <;> rfl
@[go_sem] theorem set_spn (l : List Spn) (k : Nat) (a b : Int) : (List.map D.t (List.map Spn.e l)).set k (D.t (T.agg [tI a, tI b])) = List.map D.t (List.map Spn.e (l.set k ⟨a, b⟩)) := by
  rw [List.map_set, List.map_set]

@[go_sem] theorem opBs_6 (H : Heap) (sz : Nat) (a b c d e f : T) : opBs H sz [.t a, .t b, .t c, .t d, .t e, .t f] = if cellsAre sz [a, b, c, d, e, f] = true then some (.t (.sl [a, b, c, d, e, f]), H) else none := opBs_if H sz [a, b, c, d, e, f]
@[go_sem] theorem opBs_7 (H : Heap) (sz : Nat) (a b c d e f g : T) : opBs H sz [.t a, .t b, .t c, .t d, .t e, .t f, .t g] = if cellsAre sz [a, b, c, d, e, f, g] = true then some (.t (.sl [a, b, c, d, e, f, g]), H) else none := opBs_if H sz [a, b, c, d, e, f, g]
@[go_sem] theorem opBs_8 (H : Heap) (sz : Nat) (a b c d e f g h : T) : opBs H sz [.t a, .t b, .t c, .t d, .t e, .t f, .t g, .t h] = if cellsAre sz [a, b, c, d, e, f, g, h] = true then some (.t (.sl [a, b, c, d, e, f, g, h]), H) else none := opBs_if H sz [a, b, c, d, e, f, g, h]

@[go_sem] theorem app2_last {α β γ : Type} {l : List α} {g : α → β} {f : β → γ} {x : γ} {j : Nat} (h : j = l.length) : (List.map f (List.map g l) ++ [x])[j]? = some x := by
  rw [List.getElem?_append_right (by simp; omega)]; simp [h]
@[go_sem] theorem app2_set {α β γ : Type} {l : List α} {g : α → β} {f : β → γ} {x y : γ} {j : Nat} (h : j = l.length) : (List.map f (List.map g l) ++ [x]).set j y = List.map f (List.map g l) ++ [y] := by
  rw [List.set_append_right _ _ (by simp; omega)]; simp [h]

def Dice.flow1 (d : Dice) : Spn × Dice :=
  let a := d.of [0, 1000, 5000, 20000, -5000, -20000, 4999, 100]
  let b := a.2.of [0, 1, 1000, 6000]
  let c := b.2.of [0, 1, 500]
  let w := c.2.one 9
  (if w.1 = true then ⟨-1125899906842624, 1125899906842624⟩ else ⟨a.1 - b.1, a.1 + c.1⟩, w.2)
def Dice.flowsN (d : Dice) : Nat → List Spn × Dice
  | 0 => ([], d)
  | k + 1 => ((d.flowsN k).1 ++ [((d.flowsN k).2.flow1).1], ((d.flowsN k).2.flow1).2)
def Dice.flows (d : Dice) (m : Mine) : List Spn × Dice := d.flowsN m.roads.length

theorem Dice.flow1_light {d : Dice} (h : d.light) : d.flow1.2.light := by
  unfold Dice.flow1; simp only
  exact Dice.one_light (Dice.of_light (Dice.of_light (Dice.of_light h [0, 1000, 5000, 20000, -5000, -20000, 4999, 100]) [0, 1, 1000, 6000]) [0, 1, 500]) 9
theorem Dice.flowsN_light {d : Dice} (h : d.light) : ∀ n, (d.flowsN n).2.light
  | 0 => h
  | n + 1 => by simp only [Dice.flowsN]; exact Dice.flow1_light (Dice.flowsN_light h n)
theorem Dice.flowsN_len (d : Dice) : ∀ n, (d.flowsN n).1.length = n
  | 0 => rfl
  | n + 1 => by simp [Dice.flowsN, d.flowsN_len n]

theorem flow1_good (d : Dice) : d.flow1.1.ok := by
  unfold Dice.flow1; simp only
  have m1 := d.of_mem (l := [0, 1000, 5000, 20000, -5000, -20000, 4999, 100]) (by simp)
  generalize d.of [0, 1000, 5000, 20000, -5000, -20000, 4999, 100] = a at *
  obtain ⟨x, d1⟩ := a
  have m2 := d1.of_mem (l := [0, 1, 1000, 6000]) (by simp)
  simp only
  generalize d1.of [0, 1, 1000, 6000] = b at *
  obtain ⟨y, d2⟩ := b
  have m3 := d2.of_mem (l := [0, 1, 500]) (by simp)
  simp only
  generalize d2.of [0, 1, 500] = c at *
  obtain ⟨z, d3⟩ := c
  simp only [List.mem_cons, List.not_mem_nil, or_false] at m1 m2 m3 ⊢
  unfold Spn.ok
  split <;> (simp only; omega)

theorem Dice.flowsN_good (d : Dice) : ∀ n, ∀ x ∈ (d.flowsN n).1, x.ok
  | 0, x, hx => by simp [Dice.flowsN] at hx
  | n + 1, x, hx => by
    simp only [Dice.flowsN, List.mem_append, List.mem_singleton] at hx
    rcases hx with hx | rfl
    · exact d.flowsN_good n x hx
    · exact flow1_good _

theorem flows_round (d : Dice) (hd : d.light) (m : Mine) (hm : m.roads.length ≤ 1000) (j : Nat) (hj : j < m.roads.length) (l : List Spn) (hl : l.length = j) :
    roundC true [1, 3, 6] 3 (exS CALL K.made_Dice_Flows_l1b ⟨[.bp 0 0, .und, .bp 1 0, .und, .ref 2 0 l.length, I j, .und], [d.obj, .box [.t (.sl (m.places.map Place.e)), .t (.sl (m.roads.map Road.e))], .arr 2 false 0 ((l.map Spn.e).map .t)]⟩) =
    some ⟨[.bp 0 0, .und, .bp 1 0, .und, .ref 2 0 (l ++ [d.flow1.1]).length, I (j + 1), .und], [d.flow1.2.obj, .box [.t (.sl (m.places.map Place.e)), .t (.sl (m.roads.map Road.e))], .arr 2 false 0 (((l ++ [d.flow1.1]).map Spn.e).map .t)]⟩ := by
  unfold Dice.flow1; simp only
  have h1 := of_ok d [0, 1000, 5000, 20000, -5000, -20000, 4999, 100] (by simp) (by simp) hd
  have l1 := Dice.of_light hd [0, 1000, 5000, 20000, -5000, -20000, 4999, 100]
  have m1 := d.of_mem (l := [0, 1000, 5000, 20000, -5000, -20000, 4999, 100]) (by simp)
  generalize d.of [0, 1000, 5000, 20000, -5000, -20000, 4999, 100] = a at *
  obtain ⟨x, d1⟩ := a
  simp only [tL, List.map_cons, List.map_nil] at h1 l1 ⊢
  have h2 := of_ok d1 [0, 1, 1000, 6000] (by simp) (by simp) l1
  have l2 := Dice.of_light l1 [0, 1, 1000, 6000]
  have m2 := d1.of_mem (l := [0, 1, 1000, 6000]) (by simp)
  generalize d1.of [0, 1, 1000, 6000] = b at *
  obtain ⟨y, d2⟩ := b
  simp only [tL, List.map_cons, List.map_nil] at h2 l2 ⊢
  have h3 := of_ok d2 [0, 1, 500] (by simp) (by simp) l2
  have l3 := Dice.of_light l2 [0, 1, 500]
  have m3 := d2.of_mem (l := [0, 1, 500]) (by simp)
  generalize d2.of [0, 1, 500] = c at *
  obtain ⟨z, d3⟩ := c
  simp only [tL, List.map_cons, List.map_nil] at h3 l3 ⊢
  have h4 := one_ok d3 9 (by omega) (by omega) l3
  generalize d3.one 9 = e at *
  obtain ⟨w, d4⟩ := e
  simp only [List.mem_cons, List.not_mem_nil, or_false] at m1 m2 m3 h4 ⊢
  have st : (l ++ [(⟨x - y, x + z⟩ : Spn)]).set j ⟨-1125899906842624, 1125899906842624⟩ = l ++ [⟨-1125899906842624, 1125899906842624⟩] := by
    rw [List.set_append_right _ _ (by omega), hl, Nat.sub_self]; rfl
  cases w with
  | true =>
    simp (disch := omega) only [go_sem, K.made_Dice_Flows_l1b, ↓reduceIte, h1, h2, h3, h4, Nat.reduceAdd, Nat.reduceSub]
  | false =>
    simp (disch := omega) only [go_sem, K.made_Dice_Flows_l1b, ↓reduceIte, h1, h2, h3, h4, Nat.reduceAdd, Nat.reduceSub]

theorem flowsD_ok (d : Dice) (hd : d.light) (m : Mine) (hm : m.roads.length ≤ 1000) : CALL 0 N.made_Dice_Flows [.bp 0 0, .t m.e] [d.obj] = some (.t (tS (d.flows m).1), [(d.flows m).2.obj]) := by
  refine CALL_of K.t_made_Dice_Flows rfl ?_
  unfold Dice.flows
  have ln := d.flowsN_len
  have loop : ∀ a b c : D, exS CALL K.made_Dice_Flows_l1 ⟨[.bp 0 0, a, .bp 1 0, b, .ref 2 0 0, I 0, c], [d.obj, .box [.t (.sl (m.places.map Place.e)), .t (.sl (m.roads.map Road.e))], .arr 2 false 0 []]⟩ =
      some (.exit 0, ⟨[.bp 0 0, .und, .bp 1 0, .und, .ref 2 0 (d.flowsN m.roads.length).1.length, I m.roads.length, .und], [(d.flowsN m.roads.length).2.obj, .box [.t (.sl (m.places.map Place.e)), .t (.sl (m.roads.map Road.e))], .arr 2 false 0 (((d.flowsN m.roads.length).1.map Spn.e).map .t)]⟩) := by
    intro a b c
    refine loop_up (fun j => ⟨[.bp 0 0, .und, .bp 1 0, .und, .ref 2 0 (d.flowsN j).1.length, I j, .und], [(d.flowsN j).2.obj, .box [.t (.sl (m.places.map Place.e)), .t (.sl (m.roads.map Road.e))], .arr 2 false 0 (((d.flowsN j).1.map Spn.e).map .t)]⟩) m.roads.length rfl ?_ ?_ (by simp)
    · intro j hj
      exact flows_round (d.flowsN j).2 (Dice.flowsN_light hd j) m hm j hj (d.flowsN j).1 (ln j)
    · simp (disch := omega) only [go_sem, K.made_Dice_Flows_l1b, ↓reduceIte]
  have ln := ln m.roads.length
  generalize d.flowsN m.roads.length = r at *
  obtain ⟨l, d1⟩ := r
  simp only at ln loop ⊢
  simp (disch := omega) only [go_sem, K.made_Dice_Flows, ↓reduceIte, loop]

end Go.Ev

/- Made inputs: beliefs and smoke, by the code. -/
namespace Go.Ev
open Go
variable [Lib] [Has1] [Has2]

theorem bel_loop1 {m : Mine} (hm : m.ok) (d : Dice) (hd : d.light) (n : Nat) (hn : n ≤ 12) (a b c e f g h i j k : D) :
    exS CALL K.made_Dice_Belief_l1 ⟨[.bp 0 0, a, .bp 1 0, .bp 2 0, I n, .ref 3 0 0, .ref 4 0 0, I 0, b, c, e, f, g, h, i, j, k, .und], [d.obj, .box (mineCells m), .box [.nil], .arr 1 false 0 [], .arr 1 false 0 []]⟩ =
    some (.exit 0, ⟨[.bp 0 0, .und, .bp 1 0, .bp 2 0, I n, .ref 3 0 n, .ref 4 0 n, I n, .und, .und, .und, .und, .und, .und, .und, .und, .und, .und], [(d.nextsN m.places.length n).2.obj, .box (mineCells m), .box [.nil], .arr 1 false 0 (ints (tagsN n)), .arr 1 false 0 (ints (d.nextsN m.places.length n).1)]⟩) := by
  refine loop_up (fun k => ⟨[.bp 0 0, .und, .bp 1 0, .bp 2 0, I n, .ref 3 0 k, .ref 4 0 k, I k, .und, .und, .und, .und, .und, .und, .und, .und, .und, .und], [(d.nextsN m.places.length k).2.obj, .box (mineCells m), .box [.nil], .arr 1 false 0 (ints (tagsN k)), .arr 1 false 0 (ints (d.nextsN m.places.length k).1)]⟩) n rfl ?_ ?_ (by simp)
  · intro j hj
    have np := hm.np
    have tl := tagsN_len j
    have sl := d.nextsN_len m.places.length j
    have lt := Dice.nextsN_light hd m.places.length j
    simp only [tagsN, Dice.nextsN]
    generalize tagsN j = ts at *
    generalize d.nextsN m.places.length j = s at *
    obtain ⟨ss, d1⟩ := s
    simp only at sl lt ⊢
    have h1 := next_ok d1 m.places.length (by omega) lt
    generalize d1.next m.places.length = r at *
    obtain ⟨x, d2⟩ := r
    simp only at h1 ⊢
    simp (disch := omega) only [go_sem, K.made_Dice_Belief_l1b, ↓reduceIte, ints, h1, Nat.reduceAdd, Nat.reduceSub]
  · have tl := tagsN_len n
    have sl := d.nextsN_len m.places.length n
    simp (disch := omega) only [go_sem, K.made_Dice_Belief_l1b, ↓reduceIte, ints, Nat.reduceAdd, Nat.reduceSub]

theorem bel_loop2 {m : Mine} (hm : m.ok) {N : Nat} (n : Int) (n1 : 1 ≤ n) (n2 : n ≤ 12) (tags starts : List Int) (s : BSt) (hd : s.d.light) (hb : BOk m N s.b) (ht : s.t = 100) (p1 p2 : Bool) (kk : Nat) (hK : kk ≤ 100) :
    loopC true [1, 5, 6, 7, 11, 12, 13, 14, 15, 16, 17] (exS CALL K.made_Dice_Belief_l2b) ⟨[.bp 0 0, .und, .bp 1 0, .bp 2 0, I n, .und, .und, .und, .bp 5 0, I s.t, I kk, .und, .und, .und, .und, .und, .und, .und], blH m p1 p2 tags starts s⟩ =
    some (.exit 2, ⟨[.bp 0 0, .und, .bp 1 0, .bp 2 0, I n, .und, .und, .und, .bp 5 0, I (Dice.belN m n s kk).t, I 0, .und, .und, .und, .und, .und, .und, .und], blH m p1 p2 tags starts (Dice.belN m n s kk)⟩) := by
  have key := loopC_up (gc := true) (dead := [1, 5, 6, 7, 11, 12, 13, 14, 15, 16, 17]) (body := exS CALL K.made_Dice_Belief_l2b)
    (fun k => ⟨[.bp 0 0, .und, .bp 1 0, .bp 2 0, I n, .und, .und, .und, .bp 5 0, I (Dice.belN m n s k).t, I ((kk - k : Nat) : Int), .und, .und, .und, .und, .und, .und, .und], blH m p1 p2 tags starts (Dice.belN m n s k)⟩)
    (p := (.exit 2, ⟨[.bp 0 0, .und, .bp 1 0, .bp 2 0, I n, .und, .und, .und, .bp 5 0, I (Dice.belN m n s kk).t, I 0, .und, .und, .und, .und, .und, .und, .und], blH m p1 p2 tags starts (Dice.belN m n s kk)⟩)) kk ?_ ?_
  · exact key
  · intro k hk
    obtain ⟨g1, g2, g3, g4⟩ := belN_good hm (n := n) hb hd ht k
    have := bel_round hm n n1 n2 tags starts (Dice.belN m n s k) g2 (g1.sz hm) (by omega) (by omega) (kk - (k + 1)) (by omega) p1 p2
    rw [show (((kk - (k + 1) : Nat) : Int) + 1) = ((kk - k : Nat) : Int) by omega] at this
    exact this
  · refine loopC_exit ?_ (by simp)
    simp only [Nat.sub_self]
    simp (disch := omega) only [go_sem, K.made_Dice_Belief_l2b, ↓reduceIte, blH, Nat.reduceAdd, Nat.reduceSub]

theorem belief_ok {m : Mine} (hm : m.ok) (h1 : 1 ≤ m.places.length) (d : Dice) (hd : d.light) : CALL 0 N.made_Dice_Belief [.bp 0 0, .t m.e] [d.obj] = some (.t (d.belief m).1.e, [(d.belief m).2.obj]) := by
  refine CALL_of K.t_made_Dice_Belief rfl ?_
  have np := hm.np
  have pb := belP_bd d
  have eP : (d.belP : Int) = 1 + (d.next 3).1 := by have := d.next_lo 3; unfold Dice.belP; omega
  have g0 := bel0_good hm h1 d
  have e0 := bel0_is hm h1 d
  have a1 := next_ok d 3 (by omega) hd
  have l1 := Dice.next_light hd 3
  have q1 := fun a b c e f g h i j k => bel_loop1 hm (d.next 3).2 l1 d.belP (by omega) a b c e f g h i j k
  have eS : (d.next 3).2.nextsN m.places.length d.belP = d.belS m := rfl
  rw [eS] at q1
  have lS : (d.belS m).2.light := Dice.nextsN_light l1 _ _
  have a2 := next_ok (d.belS m).2 100 (by omega) lS
  have l2 := Dice.next_light lS 100
  have a3 := next_ok ((d.belS m).2.next 100).2 5 (by omega) l2
  have l3 := Dice.next_light l2 5
  have k0 := ((d.belS m).2.next 100).2.next_lo 5
  have k9 := ((d.belS m).2.next 100).2.next_hi (n := 5) (by omega)
  have eK : (d.belK m : Int) = (((d.belS m).2.next 100).2.next 5).1 := by unfold Dice.belK; omega
  have st := startBel_ok hm (tagsN d.belP) (d.belS m).1 (by rw [tagsN_len]; omega) ((d.belS m).2.next 100).1
  have tl := tagsN_len d.belP
  have sl : (d.belS m).1.length = d.belP := Dice.nextsN_len _ _ _
  rw [e0] at st
  have b0 : d.bel0 m = ⟨⟨[⟨tagsN d.belP, startWs m (d.belS m).1 ((d.belS m).2.next 100).1 (tagsN d.belP).length⟩]⟩, 100, (((d.belS m).2.next 100).2.next 5).2⟩ := by unfold Dice.bel0; rw [e0]
  have q2 := fun p1 p2 => bel_loop2 hm d.belP (by omega) (by omega) (tagsN d.belP) (d.belS m).1 (d.bel0 m) (by rw [b0]; exact l3) g0 rfl p1 p2 (d.belK m) (by omega)
  have q2 := fun p1 p2 a b c e f g h i j k l => loop_is (vs := [.bp 0 0, a, .bp 1 0, .bp 2 0, I d.belP, b, c, e, .bp 5 0, I 100, I (d.belK m), f, g, h, i, j, k, l]) (q2 p1 p2)
  have eF : Dice.belN m d.belP (d.bel0 m) (d.belK m) = d.belF m := rfl
  rw [eF] at q2
  unfold Dice.belief
  rw [b0] at q2
  generalize d.belF m = F at *
  generalize (tagsN d.belP) = tags at *
  generalize startWs m (d.belS m).1 ((d.belS m).2.next 100).1 tags.length = sw at *
  generalize d.belK m = kk at *
  generalize (((d.belS m).2.next 100).2.next 5) = z3 at *
  generalize ((d.belS m).2.next 100) = z2 at *
  generalize d.belS m = z1 at *
  generalize d.next 3 = z0 at *
  generalize d.belP = n at *
  obtain ⟨x3, d3⟩ := z3
  obtain ⟨x2, d2⟩ := z2
  obtain ⟨ss, d1⟩ := z1
  obtain ⟨x0, d0⟩ := z0
  obtain ⟨⟨wf⟩, tf, df⟩ := F
  simp only [List.map_cons, List.map_nil, blH] at *
  have q2 : ∀ p1 p2 a b c e f g h i j k l, exS CALL K.made_Dice_Belief_l2 _ = _ := q2
  simp (disch := omega) only [go_sem, K.made_Dice_Belief, ↓reduceIte, ints, a1, eP.symm, q1, a2, a3, st, eK.symm, tl, sl, q2, Nat.reduceAdd, Nat.reduceSub]

end Go.Ev

/- The last time of a belief. -/
namespace Go.Ev
open Go
variable [Lib] [Has1] [Has2] [Has3]

/- the last time -/
def lastW (l : List Wh) (t : Int) : Nat → Int
  | 0 => t
  | j + 1 => max (lastW l t j) (nth l j).time
def lastN (ws : List World) : Nat → Int
  | 0 => 0
  | i + 1 => lastW (nth ws i).whr (lastN ws i) (nth ws i).whr.length
def lastF (b : Bel) : Int := lastN b.worlds b.worlds.length

theorem lastW_in {l : List Wh} (h : ∀ w ∈ l, inT w.time) {t : Int} (ht : inT t) : ∀ j, j ≤ l.length → inT (lastW l t j)
  | 0, _ => ht
  | j + 1, hj => by
    have h1 := lastW_in h ht j (by omega)
    have h2 := h _ (nth_mem (l := l) (j := j) (by omega))
    unfold inT at *; simp only [lastW]; omega
theorem lastN_in {m : Mine} {n : Nat} {ws : List World} (h : ∀ x ∈ ws, WOk m n x) : ∀ i, i ≤ ws.length → inT (lastN ws i)
  | 0, _ => by unfold inT; simp [lastN]
  | i + 1, hi => by
    simp only [lastN]
    exact lastW_in (h _ (nth_mem (by omega))).ti (lastN_in h i (by omega)) _ (Nat.le_refl _)

theorem last_ok (b : Bel) (hb : b.sz) : CALL 0 N.made_Last [.t b.e] [] = some (I (lastF b), []) := by
  refine CALL_of K.t_made_Last rfl ?_
  unfold lastF
  obtain ⟨ws⟩ := b
  obtain ⟨s1, s2⟩ := hb
  simp only at s1 s2 ⊢
  have inner : ∀ i, i < ws.length → ∀ (t : Int) (a b : D), exS CALL K.made_Last_l2 ⟨[a, .bp 0 0, b, I t, I i, I 0], [.box [.t (.sl (ws.map World.e))]]⟩ =
      some (.exit 2, ⟨[.und, .bp 0 0, .und, I (lastW (nth ws i).whr t (nth ws i).whr.length), I i, I (nth ws i).whr.length], [.box [.t (.sl (ws.map World.e))]]⟩) := by
    intro i hi t a b
    have g1 : (ws.map World.e)[i]? = some (nth ws i).e := map_nth _ hi
    have sz := (s2 _ (nth_mem hi)).2.1
    refine loop_up (fun j => ⟨[.und, .bp 0 0, .und, I (lastW (nth ws i).whr t j), I i, I j], [.box [.t (.sl (ws.map World.e))]]⟩) (nth ws i).whr.length rfl ?_ ?_ (by simp)
    · intro j hj
      have g2 : ((nth ws i).whr.map Wh.e)[j]? = some (nth (nth ws i).whr j).e := map_nth _ hj
      simp only [lastW]
      generalize lastW (nth ws i).whr t j = q at *
      generalize nth (nth ws i).whr j = w at *
      generalize nth ws i = x at *
      obtain ⟨tags, whr⟩ := x
      obtain ⟨time, frm⟩ := w
      simp only at *
      simp (disch := omega) only [go_sem, K.made_Last_l2b, ↓reduceIte, g1, g2, Nat.reduceAdd, Nat.reduceSub]
    · generalize lastW (nth ws i).whr t (nth ws i).whr.length = q at *
      generalize nth ws i = x at *
      obtain ⟨tags, whr⟩ := x
      simp only at *
      simp (disch := omega) only [go_sem, K.made_Last_l2b, ↓reduceIte, g1, Nat.reduceAdd, Nat.reduceSub]
  have loop : ∀ a b c : D, exS CALL K.made_Last_l1 ⟨[a, .bp 0 0, b, I 0, I 0, c], [.box [.t (.sl (ws.map World.e))]]⟩ =
      some (.exit 0, ⟨[.und, .bp 0 0, .und, I (lastN ws ws.length), I ws.length, .und], [.box [.t (.sl (ws.map World.e))]]⟩) := by
    intro a b c
    refine loop_up (fun i => ⟨[.und, .bp 0 0, .und, I (lastN ws i), I i, .und], [.box [.t (.sl (ws.map World.e))]]⟩) ws.length rfl ?_ ?_ (by simp)
    · intro i hi
      have inner := fun t a b => inner i hi t a b
      simp (disch := omega) only [go_sem, K.made_Last_l1b, ↓reduceIte, inner, lastN, Nat.reduceAdd, Nat.reduceSub]
    · simp (disch := omega) only [go_sem, K.made_Last_l1b, ↓reduceIte, Nat.reduceAdd, Nat.reduceSub]
  simp (disch := omega) only [go_sem, K.made_Last, ↓reduceIte, loop, Nat.reduceAdd, Nat.reduceSub]

end Go.Ev

/- FiringRaw and FiringMade. -/
namespace Go.Ev
open Go
variable [Lib] [Has1] [Has2] [Has3] [Has4]

/- some numbers -/
def Dice.intsN (d : Dice) : Nat → List Int × Dice
  | 0 => ([], d)
  | j + 1 => ((d.intsN j).1 ++ [((d.intsN j).2.next 9).1 - 1], ((d.intsN j).2.next 9).2)
theorem Dice.intsN_len (d : Dice) : ∀ j, (d.intsN j).1.length = j
  | 0 => rfl
  | j + 1 => by simp only [Dice.intsN, List.length_append, List.length_singleton, Dice.intsN_len d j]
theorem Dice.intsN_light {d : Dice} (h : d.light) : ∀ j, (d.intsN j).2.light
  | 0 => h
  | j + 1 => Dice.next_light (Dice.intsN_light h j) 9
def Dice.intsF (d : Dice) : List Int × Dice := (d.next 5).2.intsN (d.next 5).1.toNat
theorem Dice.intsF_light {d : Dice} (h : d.light) : d.intsF.2.light := Dice.intsN_light (Dice.next_light h 5) _
theorem Dice.intsF_len (d : Dice) : d.intsF.1.length ≤ 4 := by
  have := d.next_hi (n := 5) (by omega)
  unfold Dice.intsF
  rw [Dice.intsN_len]; omega
theorem ints_ok (d : Dice) (hd : d.light) : CALL 0 N.made_Dice_Ints [.bp 0 0] [d.obj] = some (.t (tL d.intsF.1), [d.intsF.2.obj]) := by
  refine CALL_of K.t_made_Dice_Ints rfl ?_
  have o1 := next_ok d 5 (by omega) hd
  have l1 := d.next_lo 5
  have h1 := d.next_hi (n := 5) (by omega)
  have e1 := d.next_light hd 5
  unfold Dice.intsF
  generalize d.next 5 = r at *
  obtain ⟨a, d1⟩ := r
  simp only at o1 l1 h1 e1 ⊢
  obtain ⟨n, rfl⟩ := Int.eq_ofNat_of_zero_le l1
  simp only [Int.toNat_natCast]
  have loop : ∀ z : D, exS CALL K.made_Dice_Ints_l1 ⟨[.bp 0 0, z, .ref 1 0 0, I n], [d1.obj, .arr 1 false 0 []]⟩ = some (.exit 0, ⟨[.bp 0 0, .und, .ref 1 0 (d1.intsN n).1.length, I 0], [(d1.intsN n).2.obj, .arr 1 false 0 (ints (d1.intsN n).1)]⟩) := by
    intro z
    refine loop_up (fun j => ⟨[.bp 0 0, .und, .ref 1 0 (d1.intsN j).1.length, I ((n - j : Nat) : Int)], [(d1.intsN j).2.obj, .arr 1 false 0 (ints (d1.intsN j).1)]⟩) n rfl ?_ ?_ (by simp)
    · intro j hj
      have il := d1.intsN_len j
      have lt := Dice.intsN_light e1 j
      simp only [Dice.intsN]
      generalize d1.intsN j = s at *
      obtain ⟨out, dj⟩ := s
      simp only at il lt ⊢
      have o2 := next_ok dj 9 (by omega) lt
      have l2 := dj.next_lo 9
      have h2 := dj.next_hi (n := 9) (by omega)
      generalize dj.next 9 = s at *
      obtain ⟨x, dk⟩ := s
      obtain ⟨k, hk⟩ : ∃ k, n - j = k + 1 := ⟨n - j - 1, by omega⟩
      have hk2 : n - (j + 1) = k := by omega
      have wk : IntKind.i64.wrap (k : Int) = k := wrap_id (by omega) (by omega)
      simp only [ints, hk, hk2] at *
      simp (disch := omega) only [go_sem, K.made_Dice_Ints_l1b, ↓reduceIte, o2, wk, Nat.reduceAdd, Nat.reduceSub]
    · simp only [Nat.sub_self]
      simp (disch := omega) only [go_sem, K.made_Dice_Ints_l1b, ↓reduceIte, ints, Nat.reduceAdd, Nat.reduceSub]
  have il := d1.intsN_len n
  generalize d1.intsN n = s at *
  obtain ⟨out, dj⟩ := s
  simp only [ints] at *
  simp (disch := omega) only [go_sem, K.made_Dice_Ints, ↓reduceIte, o1, loop, Nat.reduceAdd, Nat.reduceSub]

theorem sealXs_sz {m bm : Mine} (bmo : bm.ok) {t : Int} {ws : List World} (hs : ∀ x ∈ ws, x.sz) (wok : ∀ x ∈ ws, ∀ w ∈ x.whr, whOk bm.places.length w) (la : ¬ (List.range ws.length).any (lateX t ws) = true) : ∀ x ∈ sealXs bm t ws ws.length, x.sz := by
  have ol := sealXs_len bm t ws ws.length
  intro x hx
  obtain ⟨i, hi, rfl⟩ := List.getElem_of_mem hx
  have e : nth (sealXs bm t ws ws.length) i = (sealXs bm t ws ws.length)[i] := nth_eq (List.getElem?_eq_getElem hi)
  rw [← e, sealXs_nth _ _ _ _ _ (Nat.le_refl _), if_pos (by omega)]
  have hi' : i < ws.length := by omega
  obtain ⟨y1, y2, y3⟩ := hs _ (nth_mem hi')
  refine ⟨y1, by simp only [sealW, sealWs_len]; exact y2, fun w hw => ?_⟩
  simp only [sealW] at hw
  obtain ⟨k, hk, rfl⟩ := List.getElem_of_mem hw
  have e2 : nth (sealWs bm t (nth ws i).whr (nth ws i).whr.length) k = (sealWs bm t (nth ws i).whr (nth ws i).whr.length)[k] := nth_eq (List.getElem?_eq_getElem hk)
  rw [sealWs_len] at hk
  rw [← e2, sealWs_nth _ _ _ _ _ (Nat.le_refl _), if_pos hk]
  have wk : whOk bm.places.length (nth (nth ws i).whr k) := wok _ (nth_mem hi') _ (nth_mem hk)
  obtain ⟨q1, q2, q3⟩ := wk
  have nl : ¬ lateP t (nth ws i).whr k = true := fun hc => la (List.any_eq_true.2 ⟨i, List.mem_range.2 hi', List.any_eq_true.2 ⟨k, List.mem_range.2 hk, hc⟩⟩)
  simp only [lateP, decide_eq_true_eq] at nl
  have cl := closeF_len bmo t (by unfold inT; omega) none (by simp) (l := sealN (nth (nth ws i).whr k).frm t (nth (nth ws i).whr k).frm.length) (by rw [sealN_len]; exact q2) (sealN_bnd q3 t _)
  simp only [sealF]
  have := bmo.np
  omega
theorem sealBel_sz {m : Mine} (hm : m.ok) {b : Bel} (hs : b.sz) (bars : List Int) (t : Int) : (sealBel m b bars t).1.sz := by
  unfold sealBel
  split
  · exact hs
  split
  · exact hs
  split
  · exact hs
  rename_i h1 h2 h3
  have hv : belB m b = true := by simpa using h1
  have e0 : (barredF m bars).2 = 0 := by simpa using h2
  have sb : setB bars m.roads.length = true := by
    unfold barredF at e0
    split at e0
    · cases e0
    · rename_i h; simpa using h
  have eb : barredF m bars = (barMine m bars, 0) := by unfold barredF; rw [if_neg (by rw [sb]; simp)]
  rw [eb]
  simp only
  have sx := sealXs_sz (m := m) (barMine_ok hm sb) hs.2 (fun x hx w hw => (bel_whOk hv x hx w hw : whOk m.places.length w)) h3
  refine ⟨?_, tidyN_sz sx _ (Nat.le_refl _)⟩
  have := tidyN_len (sealXs (barMine m bars) t b.worlds b.worlds.length) (sealXs (barMine m bars) t b.worlds b.worlds.length).length
  have ol := sealXs_len (barMine m bars) t b.worlds b.worlds.length
  have := hs.1
  show (tidyN _ _).length ≤ _
  omega

/-- What a scene is. -/
structure Scn (x : Blast) (k : Keys) (c : Bel) (d : Dice) : Prop where
  hx : x.area.length ≤ 64
  h1 : 0 ≤ x.hold
  h2 : x.hold ≤ 1000
  m1 : 0 ≤ x.mis
  m2 : x.mis ≤ 10000
  hk : k.roads.length ≤ 64
  hk2 : k.keys.length ≤ 64
  hc : c.sz
  light : d.light
theorem scene_ok (d : Dice) (hd : d.light) : ∃ x k c d', CALL 0 N.law34_scene [.bp 0 0] [d.obj] = some (.tup [.t x.e, .t k.e, .t c.e], [d'.obj]) ∧ Scn x k c d' := by
  have mo := mine_ok d hd
  have hm := d.mine_good
  have mp := d.mine_places
  have mb := d.mineN_bd
  have d1 := Dice.mine_light hd
  generalize d.mineN = n at *
  generalize d.mine = r1 at *
  obtain ⟨m, e1⟩ := r1
  simp only at mo hm mp d1
  have o2 := of_ok e1 [299, 9] (by simp) (by simp) d1
  have p2 := Dice.of_mem e1 (l := [299, 9]) (by simp)
  have d2 := Dice.of_light d1 [299, 9]
  generalize e1.of [299, 9] = r2 at *
  obtain ⟨a2, e2⟩ := r2
  simp only [List.mem_cons, List.not_mem_nil, or_false] at o2 p2 d2
  have o3 := of_ok e2 [1799, 9] (by simp) (by simp) d2
  have p3 := Dice.of_mem e2 (l := [1799, 9]) (by simp)
  have d3 := Dice.of_light d2 [1799, 9]
  generalize e2.of [1799, 9] = r3 at *
  obtain ⟨a3, e3⟩ := r3
  simp only [List.mem_cons, List.not_mem_nil, or_false] at o3 p3 d3
  have bo := belief_ok hm (by omega) e3 d3
  obtain ⟨bg, d4⟩ := belF_good hm (by omega) d3
  generalize e3.belP = NN at *
  generalize e3.belief m = r4 at *
  obtain ⟨b, e4⟩ := r4
  simp only at bo bg d4
  have bsz := bg.sz hm
  have la := last_ok b bsz
  have li := lastN_in bg.ws b.worlds.length (Nat.le_refl _)
  have le : lastN b.worlds b.worlds.length = lastF b := rfl
  rw [le] at li
  unfold inT at li
  generalize lastF b = tl at *
  have o5 := next_ok e4 50 (by omega) d4
  have l5 := e4.next_lo 50
  have h5 := e4.next_hi (n := 50) (by omega)
  have d5 := e4.next_light d4 50
  generalize e4.next 50 = r5 at *
  obtain ⟨a5, e5⟩ := r5
  simp only at o5 l5 h5 d5
  have o6 := next_ok e5 6 (by omega) d5
  have d6 := e5.next_light d5 6
  have l6 := e5.next_lo 6
  generalize e5.next 6 = r6 at *
  obtain ⟨a6, e6⟩ := r6
  simp only at o6 d6 l6
  have bd := border_ok hm [((m.places.length : Int) - 1)] (by simp)
  have bdl : (bordF m [((m.places.length : Int) - 1)]).length ≤ m.roads.length := whereF_len _ _
  have nr := hm.nr
  generalize bordF m [((m.places.length : Int) - 1)] = bars at *
  have so := seal_ok hm b bsz bars (by omega) (tl + a5)
  have ssz : (sealBel m b bars (tl + a5)).1.sz := sealBel_sz hm bsz bars (tl + a5)
  generalize sealBel m b bars (tl + a5) = r7 at *
  obtain ⟨c, er⟩ := r7
  simp only at so ssz
  simp only [tL, List.map_cons, List.map_nil] at o2 o3 bd
  by_cases ce : er = 0
  · refine ⟨⟨[(m.places.length : Int) - 1], 1 + a2, 1 + a3⟩, ⟨[1], [2], decide (0 < a6)⟩, c, e6, ?_, by simp, by simp only; omega, by simp only; omega, by simp only; omega, by simp only; omega, by simp, by simp, ssz, d6⟩
    refine CALL_of K.t_law34_scene rfl ?_
    obtain ⟨places, roads⟩ := m
    obtain ⟨xs⟩ := b
    obtain ⟨cs⟩ := c
    simp only at *
    by_cases c6 : 0 < a6
    · simp (disch := omega) only [go_sem, K.law34_scene, ↓reduceIte, mo, o2, o3, bo, bd, la, o5, so, o6, ce, c6, Nat.reduceAdd, Nat.reduceSub]
      rfl
    · simp (disch := omega) only [go_sem, K.law34_scene, ↓reduceIte, mo, o2, o3, bo, bd, la, o5, so, o6, ce, c6, Nat.reduceAdd, Nat.reduceSub]
      rfl
  · refine ⟨⟨[(m.places.length : Int) - 1], 1 + a2, 1 + a3⟩, ⟨[1], [2], decide (0 < a6)⟩, b, e6, ?_, by simp, by simp only; omega, by simp only; omega, by simp only; omega, by simp only; omega, by simp, by simp, bsz, d6⟩
    refine CALL_of K.t_law34_scene rfl ?_
    obtain ⟨places, roads⟩ := m
    obtain ⟨xs⟩ := b
    obtain ⟨cs⟩ := c
    simp only at *
    by_cases c6 : 0 < a6
    · simp (disch := omega) only [go_sem, K.law34_scene, ↓reduceIte, mo, o2, o3, bo, bd, la, o5, so, o6, ce, c6, Nat.reduceAdd, Nat.reduceSub]
      rfl
    · simp (disch := omega) only [go_sem, K.law34_scene, ↓reduceIte, mo, o2, o3, bo, bd, la, o5, so, o6, ce, c6, Nat.reduceAdd, Nat.reduceSub]
      rfl

theorem tdiv2_bd {a : Int} (h : -9223372036854775808 ≤ a ∧ a ≤ 9223372036854775807) : -9223372036854775808 ≤ a.tdiv 2 ∧ a.tdiv 2 ≤ 9223372036854775807 := by
  rw [Int.tdiv_eq_ediv]
  have hs : (2 : Int).sign = 1 := by decide
  rw [hs]
  split <;> omega
theorem FiringRaw_law (aw : CALL 0 N.law34_awake [] [] = some (B true, [])) (t : List Int) (x : Blast) (hx : int64 x.hold) (s : Shot) (hs : int64 s.ti) : CALL 0 N.law34_FiringRaw [.t (tL t), .t x.e, .t s.e] [] = some (B true, []) := by
  refine CALL_of K.t_law34_FiringRaw rfl ?_
  have lo := light_ok t
  unfold int64 at hs
  by_cases c : t.length ≤ 400
  rotate_left
  · simp only [c, decide_false] at lo
    obtain ⟨area, hold, mis⟩ := x
    obtain ⟨st, fi, se, ti⟩ := s
    simp (disch := omega) only [go_sem, K.law34_FiringRaw, ↓reduceIte, lo, aw, Nat.reduceAdd, Nat.reduceSub]
  simp only [c, decide_true] at lo
  by_cases ca : x.area.length ≤ 80
  rotate_left
  · obtain ⟨area, hold, mis⟩ := x
    obtain ⟨st, fi, se, ti⟩ := s
    simp only at ca
    simp (disch := omega) only [go_sem, K.law34_FiringRaw, ↓reduceIte, lo, aw, Nat.reduceAdd, Nat.reduceSub]
  have ro := roll2_ok t
  have d0 : (Dice.mk t 0).light := c
  generalize (Dice.mk t 0) = d at *
  have o1 := of_ok d [1, 2, 3, 0, -1] (by simp) (by simp) d0
  have d1 := Dice.of_light d0 [1, 2, 3, 0, -1]
  generalize d.of [1, 2, 3, 0, -1] = r1 at *
  obtain ⟨a1, e1⟩ := r1
  simp only at o1 d1
  have o2 := of_ok e1 [s.ti, 50, s.ti.tdiv 2, -1, 2147483648, 2147483649] (by simp) (by simp) d1
  have p2 := Dice.of_mem e1 (l := [s.ti, 50, s.ti.tdiv 2, -1, 2147483648, 2147483649]) (by simp)
  have d2 := Dice.of_light d1 [s.ti, 50, s.ti.tdiv 2, -1, 2147483648, 2147483649]
  generalize e1.of [s.ti, 50, s.ti.tdiv 2, -1, 2147483648, 2147483649] = r2 at *
  obtain ⟨a2, e2⟩ := r2
  simp only [List.mem_cons, List.not_mem_nil, or_false] at o2 p2 d2
  obtain ⟨tb1, tb2⟩ := tdiv2_bd hs
  have wr : IntKind.i64.wrap (s.ti.tdiv 2) = s.ti.tdiv 2 := wrap_id tb1 tb2
  have q2 : a2 ≤ 9223372036854775807 := by omega
  have o3 := some_ok e2 4 (by omega) d2
  change CALL 0 N.made_Dice_Some [.bp 0 0, I 4] [e2.obj] = _ at o3
  have d3 := e2.someN_light d2 4
  have l3 := e2.someN_len 4
  generalize e2.someN 4 = r3 at *
  obtain ⟨a3, e3⟩ := r3
  simp only at o3 d3 l3
  have o4 := ints_ok e3 d3
  have d4 := Dice.intsF_light d3
  have l4 := e3.intsF_len
  generalize e3.intsF = r4 at *
  obtain ⟨a4, e4⟩ := r4
  simp only at o4 d4 l4
  have o5 := one_ok e4 2 (by omega) (by omega) d4
  have d5 := e4.one_light d4 2
  generalize e4.one 2 = r5 at *
  obtain ⟨a5, e5⟩ := r5
  simp only at o5 d5
  obtain ⟨y, l, b, e6, o6, scn⟩ := scene_ok e5 d5
  have o7 := one_ok e6 2 (by omega) (by omega) scn.light
  have d7 := e6.one_light scn.light 2
  generalize e6.one 2 = r7 at *
  obtain ⟨a7, e7⟩ := r7
  simp only at o7 d7
  have g1 := fagree_ok x s ⟨a3, a4, a5⟩ b (by omega) (by simp only; omega) (by simp only; omega) scn.hc a1 a2 q2 a7
  have g2 := fagree_ok y s l b (by have := scn.hx; omega) (by have := scn.hk; omega) (by have := scn.hk2; omega) scn.hc a1 a2 q2 false
  have g3 := fagree_ok x ⟨0, 0, 0, 0⟩ l b (by omega) (by have := scn.hk; omega) (by have := scn.hk2; omega) scn.hc a1 a2 q2 true
  have g4 := fagree_ok y s ⟨a3, a4, a5⟩ ⟨[]⟩ (by have := scn.hx; omega) (by simp only; omega) (by simp only; omega) ⟨by simp, fun x hx => by cases hx⟩ a1 a2 q2 true
  clear scn
  simp only [tL, List.map_cons, List.map_nil] at o1 o2
  obtain ⟨area, hold, mis⟩ := x
  obtain ⟨st, fi, se, ti⟩ := s
  obtain ⟨y1, y2, y3⟩ := y
  obtain ⟨l1, l2, l3'⟩ := l
  obtain ⟨xs⟩ := b
  simp only [Shot.e, Bel.e, List.map_nil] at *
  simp (disch := omega) only [go_sem, K.law34_FiringRaw, ↓reduceIte, lo, ro, o1, wr, o2, o3, o4, o5, o6, o7, g1, g2, g3, g4, aw, Nat.reduceAdd, Nat.reduceSub]
end Go.Ev

