/- Parts of the proof: see the text that holds the theorem. -/
import Derived.Test.YtljlbkjecjloaaaGreatZ3
set_option linter.all false
set_option maxRecDepth 100000
namespace Go.Ev
open Go
variable [Lib] [Has1] [Has2]
def ofR (r : Road) (q : List Int × Bool) : List Int × Bool :=
  if r.closed = true then q
  else if nth q.1 r.frm.toNat + r.len < nth q.1 r.to.toNat then (q.1.set r.to.toNat (nth q.1 r.frm.toNat + r.len), true)
  else if nth q.1 r.to.toNat + r.len < nth q.1 r.frm.toNat then (q.1.set r.frm.toNat (nth q.1 r.to.toNat + r.len), true)
  else q
def ofN (m : Mine) (l : List Int) : Nat → List Int × Bool
  | 0 => (l, false)
  | k + 1 => ofR (nth m.roads k) (ofN m l k)
def ofG (m : Mine) (l : List Int) : List Int × Bool := ofN m l m.roads.length
def ofB (m : Mine) (p : Nat) : List Int := (neverL m.places.length).set p 0
def ofD (m : Mine) (p : Nat) : List Int := closeN (ofG m) (sumN (ofB m p) + 1) (ofB m p)
def ofL (m : Mine) (p : Nat) (r : Int) : List Int := whereF m.places.length fun q => decide (nth (ofD m p) q < 1099511627776) && decide (nth (ofD m p) q ≤ r)
structure OfI (m : Mine) (p : Nat) (l : List Int) : Prop where
  ln : l.length = m.places.length
  bd : bnd l
  z : nth l p = 0
theorem ofR_is {n : Nat} {r : Road} (h : r.ok n) {l : List Int} (hl : l.length = n) (hb : bnd l) (b : Bool) :
    (∃ q x, q < l.length ∧ 0 < x ∧ x < nth l q ∧ ofR r (l, b) = (l.set q x, true)) ∨
    (ofR r (l, b) = (l, b) ∧ (r.closed = false → nth l r.to.toNat ≤ nth l r.frm.toNat + r.len ∧ nth l r.frm.toNat ≤ nth l r.to.toNat + r.len)) := by
  obtain ⟨f0, f1, t0, t1, ne, l0, -⟩ := h
  have b1 := hb _ (nth_mem (l := l) (j := r.frm.toNat) (by omega))
  have b2 := hb _ (nth_mem (l := l) (j := r.to.toNat) (by omega))
  unfold ofR
  simp only
  split
  · rename_i c; right; exact ⟨rfl, fun e => by rw [e] at c; cases c⟩
  · split
    · rename_i c; left; exact ⟨_, _, by omega, by omega, c, rfl⟩
    · split
      · rename_i c; left; exact ⟨_, _, by omega, by omega, c, rfl⟩
      · right; exact ⟨rfl, fun _ => by omega⟩
theorem OfI.set {m : Mine} {p : Nat} {l : List Int} (h : OfI m p l) {q : Nat} {x : Int} (hq : q < l.length) (h0 : 0 < x) (hx : x < nth l q) : OfI m p (l.set q x) := by
  have b1 := h.bd _ (nth_mem hq)
  refine ⟨by rw [List.length_set]; exact h.ln, bnd_set h.bd (by omega) (by omega), ?_⟩
  rw [set_nthW _ _ hq]
  split
  · rename_i e; subst e; have := h.z; omega
  · exact h.z
theorem ofN_is {m : Mine} (hm : m.ok) {p : Nat} {l : List Int} (h : OfI m p l) : ∀ k, k ≤ m.roads.length → OfI m p (ofN m l k).1 ∧ ((ofN m l k).2 = true → sumN (ofN m l k).1 < sumN l) ∧ ((ofN m l k).2 = false → (ofN m l k).1 = l)
  | 0, _ => ⟨h, ⟨fun e => (by cases e), fun _ => rfl⟩⟩
  | k + 1, hk => by
    obtain ⟨i1, i2, i3⟩ := ofN_is hm h k (by omega)
    simp only [ofN]
    generalize ofN m l k = q at *
    obtain ⟨l', b⟩ := q
    simp only at i1 i2 i3
    rcases ofR_is (hm.rs _ (nth_mem hk)) i1.ln i1.bd b with ⟨q, x, h1, h2, h3, e⟩ | ⟨e, -⟩
    · rw [e]
      refine ⟨i1.set h1 h2 h3, fun _ => ?_, fun e => (by cases e)⟩
      have s := sumN_set h1 (by omega) h3
      cases b with
      | true => have := i2 rfl; simp only; omega
      | false => rw [i3 rfl] at s ⊢; exact s
    · rw [e]; exact ⟨i1, i2, i3⟩
theorem ofB_I {m : Mine} {p : Nat} (hp : p < m.places.length) : OfI m p (ofB m p) := by
  have ln : (neverL m.places.length).length = m.places.length := by simp [neverL]
  refine ⟨by unfold ofB; rw [List.length_set, ln], bnd_set (fun x hx => ?_) (by omega) (by omega), ?_⟩
  · have := List.eq_of_mem_replicate hx; omega
  · unfold ofB; rw [set_nthW _ _ (by omega), if_pos rfl]
theorem ofD_I {m : Mine} (hm : m.ok) {p : Nat} (hp : p < m.places.length) : (ofG m (ofD m p)).2 = false ∧ OfI m p (ofD m p) :=
  closeN_fixW (OfI m p) sumN (fun l hl => ofN_is hm hl _ (Nat.le_refl _)) _ _ (ofB_I hp) (by omega)
theorem ofN_no {m : Mine} (hm : m.ok) {p : Nat} {l : List Int} (h : OfI m p l) : ∀ k, k ≤ m.roads.length → (ofN m l k).2 = false → ∀ i, i < k → (nth m.roads i).closed = false →
    nth l (nth m.roads i).to.toNat ≤ nth l (nth m.roads i).frm.toNat + (nth m.roads i).len ∧ nth l (nth m.roads i).frm.toNat ≤ nth l (nth m.roads i).to.toNat + (nth m.roads i).len
  | 0, _, _, i, hi => by omega
  | k + 1, hk, hf, i, hi => by
    obtain ⟨i1, i2, i3⟩ := ofN_is hm h k (by omega)
    simp only [ofN] at hf
    have ih := ofN_no hm h k (by omega)
    generalize ofN m l k = q at *
    obtain ⟨l', b⟩ := q
    simp only at i1 i2 i3 ih
    rcases ofR_is (hm.rs _ (nth_mem hk)) i1.ln i1.bd b with ⟨q, x, h1, h2, h3, e⟩ | ⟨e, c⟩
    · rw [e] at hf; cases hf
    · rw [e] at hf
      simp only at hf
      have e2 := i3 hf
      subst e2
      by_cases hik : i = k
      · subst hik; exact c
      · exact ih hf i (by omega)
theorem ofD_no {m : Mine} (hm : m.ok) {p : Nat} (hp : p < m.places.length) {i : Nat} (hi : i < m.roads.length) (hc : (nth m.roads i).closed = false) :
    nth (ofD m p) (nth m.roads i).to.toNat ≤ nth (ofD m p) (nth m.roads i).frm.toNat + (nth m.roads i).len ∧ nth (ofD m p) (nth m.roads i).frm.toNat ≤ nth (ofD m p) (nth m.roads i).to.toNat + (nth m.roads i).len :=
  ofN_no hm (ofD_I hm hp).2 _ (Nat.le_refl _) (ofD_I hm hp).1 i hi hc
theorem mem_ofL {m : Mine} {p : Nat} {r x : Int} : x ∈ ofL m p r ↔ ∃ q : Nat, x = q ∧ q < m.places.length ∧ nth (ofD m p) q < 1099511627776 ∧ nth (ofD m p) q ≤ r := by
  unfold ofL whereF
  simp only [List.mem_map, List.mem_filter, List.mem_range, Bool.and_eq_true, decide_eq_true_eq]
  constructor
  · rintro ⟨q, ⟨h1, h2, h3⟩, rfl⟩; exact ⟨q, rfl, h1, h2, h3⟩
  · rintro ⟨q, rfl, h1, h2, h3⟩; exact ⟨q, ⟨h1, h2, h3⟩, rfl⟩
theorem ofL_mid {m : Mine} (hm : m.ok) {p : Nat} (hp : p < m.places.length) {r : Int} (hr : 0 ≤ r) : (p : Int) ∈ ofL m p r := by
  have z := (ofD_I hm hp).2.z
  exact mem_ofL.2 ⟨p, rfl, hp, by omega, by omega⟩
theorem ofL_up {m : Mine} {p : Nat} {r r' : Int} (h : r ≤ r') : ∀ x ∈ ofL m p r, x ∈ ofL m p r' := by
  intro x hx
  obtain ⟨q, e, h1, h2, h3⟩ := mem_ofL.1 hx
  exact mem_ofL.2 ⟨q, e, h1, h2, by omega⟩
theorem ofL_ends {m : Mine} (hm : m.ok) {p : Nat} (hp : p < m.places.length) {r : Int} {i : Nat} (hi : i < m.roads.length) (hc : (nth m.roads i).closed = false) (he : (nth m.roads i).frm = p ∨ (nth m.roads i).to = p) (hl : (nth m.roads i).len ≤ r) :
    (nth m.roads i).frm ∈ ofL m p r ∧ (nth m.roads i).to ∈ ofL m p r := by
  have z := (ofD_I hm hp).2.z
  obtain ⟨f0, f1, t0, t1, ne, l0, l1, -⟩ := hm.rs _ (nth_mem hi)
  have d := ofD_no hm hp hi hc
  generalize nth m.roads i = x at *
  obtain ⟨frm, to, len, area, walk, closed, rl, rh, ll, lh⟩ := x
  simp only at *
  rcases he with rfl | rfl
  · simp only [Int.toNat_natCast] at d
    exact ⟨mem_ofL.2 ⟨p, rfl, hp, by omega, by omega⟩, mem_ofL.2 ⟨to.toNat, by omega, by omega, by omega, by omega⟩⟩
  · simp only [Int.toNat_natCast] at d
    exact ⟨mem_ofL.2 ⟨frm.toNat, by omega, by omega, by omega, by omega⟩, mem_ofL.2 ⟨p, rfl, hp, by omega, by omega⟩⟩
theorem mem_whereF0 {n : Nat} {p : Nat → Bool} {x : Int} (h : x ∈ whereF n p) : ∃ k : Nat, x = k ∧ k < n ∧ p k = true := by
  unfold whereF at h
  simp only [List.mem_map, List.mem_filter, List.mem_range] at h
  obtain ⟨k, ⟨h1, h2⟩, rfl⟩ := h
  exact ⟨k, rfl, h1, h2⟩
theorem whereF_setB (n : Nat) (p : Nat → Bool) : setB (whereF n p) n = true := by
  unfold setB
  rw [List.all_eq_true]
  intro j hj
  rw [List.mem_range] at hj
  simp only [decide_eq_true_eq]
  have pw : (whereF n p).Pairwise (· < ·) := by
    unfold whereF
    rw [List.pairwise_map]
    exact (List.pairwise_lt_range.filter _).imp fun h => by omega
  obtain ⟨k, e, hk, -⟩ := mem_whereF0 (nth_mem hj)
  refine ⟨by omega, by omega, fun h0 => ?_⟩
  have := List.pairwise_iff_getElem.1 pw (j - 1) j (by omega) hj (by omega)
  rwa [nth_eq (List.getElem?_eq_getElem (by omega : j - 1 < _)), nth_eq (List.getElem?_eq_getElem hj)]
end Go.Ev

namespace Go.Ev
open Go
variable [Lib] [Has1] [Has2]
@[go_sem] theorem opBs_3n (H : Heap) (a b : List T) : opBs H 1 [.t (.sl a), .t (.sl b), .nil] = some (.t (.sl [.sl a, .sl b, .sl []]), H) := by
  simp only [opBs, List.all_cons, List.all_nil, D.cells, T.cells, List.map_cons, List.map_nil, List.length_cons, List.length_nil, mapO, frz, depth, arrs, List.flatMap_cons, List.flatMap_nil, pins]
  rfl
def eqAnd (c : Bool) : Option Bool → Option Bool
  | some d => some (c && d)
  | none => none
@[go_sem] theorem eqAnd_some (c d : Bool) : eqAnd c (some d) = some (c && d) := (rfl)
@[go_sem] theorem eqInts_nil : eqInts [] [] = some true := (rfl)
@[go_sem] theorem eqInts_cons (k : IntKind) (a b : Int) (xs ys : List T) : eqInts (.int k a :: xs) (.int k b :: ys) = eqAnd (decide (a = b)) (eqInts xs ys) := by
  simp only [eqInts, if_true, beqI]
  cases eqInts xs ys <;> rfl
def eqOut (H : Heap) (neg : Bool) : Option Bool → Option (D × Heap)
  | some r => some (.t (.bool (bif neg then !r else r)), H)
  | none => none
@[go_sem] theorem eqOut_true (H : Heap) (r : Bool) : eqOut H true (some r) = some (.t (.bool (!r)), H) := (rfl)
@[go_sem] theorem eqOut_false (H : Heap) (r : Bool) : eqOut H false (some r) = some (.t (.bool r), H) := (rfl)
@[go_sem] theorem opEqk_intsG (H : Heap) (n : Nat) (neg : Bool) (xs ys : List T) : opEqk H (.ints n) neg (some (.t (.agg xs))) (some (.t (.agg ys))) = if xs.length = n then eqOut H neg (eqInts xs ys) else none := by
  simp only [opEqk, Option.bind_some, eqkD, eqD]
  by_cases h : xs.length = n
  · simp only [if_pos h]
    cases eqInts xs ys with
    | none => rfl
    | some r => cases neg <;> rfl
  · simp only [if_neg h]; rfl
@[go_sem] theorem q_cast_two : ((2 : Nat) : Int) = 2 := (rfl)
@[go_sem] theorem q_cast_three : ((3 : Nat) : Int) = 3 := (rfl)
end Go.Ev

namespace Go.Ev
open Go
variable [Lib] [Has1] [Has2]
@[go_sem] theorem eqScs_nil : eqScs [] [] [] = some true := (rfl)
@[go_sem] theorem eqScs_int (ks : List Bool) (k : IntKind) (a b : Int) (xs ys : List T) : eqScs (true :: ks) (.int k a :: xs) (.int k b :: ys) = eqAnd (decide (a = b)) (eqScs ks xs ys) := by
  simp only [eqScs, if_true, beqI]
  cases eqScs ks xs ys <;> rfl
@[go_sem] theorem eqScs_bool (ks : List Bool) (a b : Bool) (xs ys : List T) : eqScs (false :: ks) (.bool a :: xs) (.bool b :: ys) = eqAnd (decide (a = b)) (eqScs ks xs ys) := by
  simp only [eqScs, show (a == b) = decide (a = b) from rfl]
  cases eqScs ks xs ys <;> rfl
@[go_sem] theorem opEqk_sc (H : Heap) (ks : List Bool) (neg : Bool) (xs ys : List T) : opEqk H (.sc ks) neg (some (.t (.agg xs))) (some (.t (.agg ys))) = eqOut H neg (eqScs ks xs ys) := by
  simp only [opEqk, Option.bind_some, eqkD, eqD]
  cases eqScs ks xs ys with
  | none => rfl
  | some r => cases neg <;> rfl
end Go.Ev

namespace Go.Ev
open Go
section
variable (H : Heap) (sz id ep n lo hi : Nat) (i j : Int) (fz : Bool)
def scO (r : D) : Option Obj → Option (D × Heap)
  | some (.arr sz' _ ep' es) => if ep = ep' ∧ n = es.length then (if sz' = sz then some (r, H) else none) else none
  | _ => none
@[go_sem] theorem scO_arr (r : D) (sz' : Nat) (pin : Bool) (es : List D) : scO H sz ep n r (some (.arr sz' pin ep es)) = if n = es.length then (if sz' = sz then some (r, H) else none) else none := by simp [scO]
theorem scR {l h : Nat} : ((arrAt H id ep n).bind fun a => if l ≤ h ∧ h ≤ n ∧ a.1 = sz then some (D.sub id ep n l h) else none).map (fun d => (d, H)) = if l ≤ h then (if h ≤ n then scO H sz ep n (.sub id ep n l h) H[id]? else none) else none := by
  simp only [arrAt]
  generalize H[id]? = o
  by_cases h1 : l ≤ h
  · by_cases h2 : h ≤ n
    · rw [if_pos h1, if_pos h2]
      rcases o with _ | (_ | ⟨sz', pin, ep', es⟩)
      · rfl
      · rfl
      · simp only [scO]
        by_cases h3 : ep = ep' ∧ n = es.length
        · rw [if_pos h3, if_pos h3, Option.bind_some]
          by_cases h4 : sz' = sz
          · rw [if_pos h4, if_pos ⟨h1, h2, h4⟩]; rfl
          · rw [if_neg h4, if_neg fun h => h4 h.2.2]; rfl
        · rw [if_neg h3, if_neg h3]; rfl
    · rw [if_pos h1, if_neg h2]
      rcases o with _ | (_ | ⟨sz', pin, ep', es⟩)
      · rfl
      · rfl
      · by_cases h3 : ep = ep' ∧ n = es.length
        · simp only [if_pos h3, Option.bind_some]; rw [if_neg fun h => h2 h.2.1]; rfl
        · simp only [if_neg h3]; rfl
  · rw [if_neg h1]
    rcases o with _ | (_ | ⟨sz', pin, ep', es⟩)
    · rfl
    · rfl
    · by_cases h3 : ep = ep' ∧ n = es.length
      · simp only [if_pos h3, Option.bind_some]; rw [if_neg fun h => h1 h.1]; rfl
      · simp only [if_neg h3]; rfl
@[go_sem] theorem opSc_ref_hi : opSc H sz (some (.ref id ep n)) (some none) (some (some i)) = if 0 ≤ i then (if i ≤ n then scO H sz ep n (.sub id ep n 0 i.toNat) H[id]? else none) else none := by
  simp only [opSc, Option.bind_some, sliceD, bound, idx]
  by_cases h1 : 0 ≤ i
  · rw [if_pos h1, if_pos h1, Option.bind_some, scR, if_pos (Nat.zero_le _)]
    by_cases h2 : i ≤ n
    · rw [if_pos h2, if_pos (by omega)]
    · rw [if_neg h2, if_neg (by omega)]
  · rw [if_neg h1, if_neg h1]; rfl
@[go_sem] theorem opSc_ref_lo : opSc H sz (some (.ref id ep n)) (some (some i)) (some none) = if 0 ≤ i then (if i ≤ n then scO H sz ep n (.sub id ep n i.toNat n) H[id]? else none) else none := by
  simp only [opSc, Option.bind_some, sliceD, bound, idx]
  by_cases h1 : 0 ≤ i
  · rw [if_pos h1, if_pos h1, Option.bind_some, scR]
    by_cases h2 : i ≤ n
    · rw [if_pos h2, if_pos (by omega), if_pos (by omega)]
    · rw [if_neg h2, if_neg (by omega)]
  · rw [if_neg h1, if_neg h1]; rfl
@[go_sem] theorem opSc_ref_lohi : opSc H sz (some (.ref id ep n)) (some (some i)) (some (some j)) = if 0 ≤ i then (if i ≤ j then (if j ≤ n then scO H sz ep n (.sub id ep n i.toNat j.toNat) H[id]? else none) else none) else none := by
  simp only [opSc, Option.bind_some, sliceD, bound, idx]
  by_cases h1 : 0 ≤ i
  · rw [if_pos h1, if_pos h1, Option.bind_some]
    by_cases h0 : i ≤ j
    · rw [if_pos h0, if_pos (by omega), Option.bind_some, scR, if_pos (by omega)]
      by_cases h2 : j ≤ n
      · rw [if_pos h2, if_pos (by omega)]
      · rw [if_neg h2, if_neg (by omega)]
    · rw [if_neg h0]
      by_cases h2 : 0 ≤ j
      · rw [if_pos h2, Option.bind_some, scR, if_neg (by omega)]
      · rw [if_neg h2]; rfl
  · rw [if_neg h1, if_neg h1]; rfl
@[go_sem] theorem opSc_nil_hi : opSc H sz (some .nil) (some none) (some (some i)) = if i = 0 then some (.nil, H) else none := by
  simp only [opSc, Option.bind_some, sliceD, bound, idx]
  by_cases h1 : 0 ≤ i
  · rw [if_pos h1, Option.bind_some]
    by_cases h2 : i = 0
    · rw [if_pos h2, if_pos (by omega)]; rfl
    · rw [if_neg h2, if_neg (by omega)]; rfl
  · rw [if_neg h1, if_neg (by omega)]; rfl
@[go_sem] theorem opSc_nil_lo : opSc H sz (some .nil) (some (some i)) (some none) = if i = 0 then some (.nil, H) else none := by
  simp only [opSc, Option.bind_some, sliceD, bound, idx]
  by_cases h1 : 0 ≤ i
  · rw [if_pos h1, Option.bind_some]
    by_cases h2 : i = 0
    · rw [if_pos h2, if_pos (by omega)]; rfl
    · rw [if_neg h2, if_neg (by omega)]; rfl
  · rw [if_neg h1, if_neg (by omega)]; rfl
def appD (x : D) (ys : List D) : Option (D × Heap) := if headSize sz ys = true then (match x with
    | .nil => if ys.length ≤ 4294967296 then some (.ref H.length 0 ys.length, H ++ [.arr sz false 0 ys]) else none
    | .ref id ep n => appRef H sz id ep n ys H[id]?
    | _ => none) else none
@[go_sem] theorem appD_nil (ys : List D) : appD H sz .nil ys = if headSize sz ys = true then (if ys.length ≤ 4294967296 then some (.ref H.length 0 ys.length, H ++ [.arr sz false 0 ys]) else none) else none := (rfl)
@[go_sem] theorem appD_ref (ys : List D) : appD H sz (.ref id ep n) ys = if headSize sz ys = true then appRef H sz id ep n ys H[id]? else none := (rfl)
@[go_sem] theorem headSize_nil : headSize sz [] = true := (rfl)
@[go_sem] theorem headSize_cons (d : D) (r : List D) : headSize sz (d :: r) = lenIs sz d.cells := by
  rw [Bool.eq_iff_iff, lenIs_iff]; simp [headSize]
def elsO (x : D) : Option Obj → Option (D × Heap)
  | some (.arr _ _ ep' es) => if ep = ep' ∧ n = es.length then appD H sz x ((es.drop lo).take (hi - lo)) else none
  | _ => none
def elsR (x : D) : Option Obj → Option (D × Heap)
  | some (.arr _ _ ep' es) => if ep = ep' ∧ n = es.length then appD H sz x es else none
  | _ => none
@[go_sem] theorem elsO_arr (x : D) (sz' : Nat) (pin : Bool) (es : List D) : elsO H sz ep n lo hi x (some (.arr sz' pin ep es)) = if n = es.length then appD H sz x ((es.drop lo).take (hi - lo)) else none := by simp [elsO]
@[go_sem] theorem elsR_arr (x : D) (sz' : Nat) (pin : Bool) (es : List D) : elsR H sz ep n x (some (.arr sz' pin ep es)) = if n = es.length then appD H sz x es else none := by simp [elsR]
theorem appD_is (x : D) (ys : List D) : (if headSize sz ys = true then (match x with
    | .nil => if ys.length ≤ lim then some (D.ref H.length 0 ys.length, H ++ [.arr sz false 0 ys]) else none
    | .ref id ep n => (arrAt H id ep n).bind fun a => if a.1 = sz ∧ n + ys.length ≤ lim then some (.ref id ep (n + ys.length), H.set id (.arr sz a.2.1 ep (a.2.2 ++ ys))) else none
    | _ => none) else none) = appD H sz x ys := by
  unfold appD
  split
  · cases x with
    | ref id ep n =>
      simp only [arrAt]
      generalize H[id]? = o
      rcases o with _ | (_ | ⟨sz', pin, ep', es⟩)
      · rfl
      · rfl
      · simp only [appRef]
        by_cases h1 : ep = ep' ∧ n = es.length
        · rw [if_pos h1, Option.bind_some]
          by_cases h2 : sz' = sz ∧ n + ys.length ≤ lim
          · rw [if_pos h2, if_pos ⟨h1.1, h1.2, h2⟩]
          · rw [if_neg h2, if_neg fun h => h2 h.2.2]
        · rw [if_neg h1, if_neg fun h => h1 ⟨h.1, h.2.1⟩]; rfl
    | _ => rfl
  · rfl
theorem opApp_live (x y : D) (ys : List D) (h : elems H y = some ys) : opApp H sz false (some x) (some y) = appD H sz x ys := by
  simp only [opApp, Option.bind_some, appendD, h, Bool.false_eq_true, if_false]
  exact appD_is H sz x ys
@[go_sem] theorem opApp_live_nil (x : D) : opApp H sz false (some x) (some .nil) = appD H sz x [] := opApp_live H sz x .nil [] rfl
@[go_sem] theorem opApp_live_ref (x : D) : opApp H sz false (some x) (some (.ref id ep n)) = elsR H sz ep n x H[id]? := by
  cases he : elems H (.ref id ep n) with
  | some ys =>
    rw [opApp_live H sz x _ ys he]
    simp only [elems, arrAt] at he
    generalize H[id]? = o at he
    rcases o with _ | (_ | ⟨sz', pin, ep', es⟩)
    · cases he
    · cases he
    · simp only [elsR]
      by_cases h1 : ep = ep' ∧ n = es.length
      · simp only [if_pos h1] at he ⊢; cases he; rfl
      · simp only [if_neg h1] at he; cases he
  | none =>
    have : opApp H sz false (some x) (some (.ref id ep n)) = none := by simp only [opApp, Option.bind_some, appendD, he]; rfl
    rw [this]
    simp only [elems, arrAt] at he
    generalize H[id]? = o at he
    rcases o with _ | (_ | ⟨sz', pin, ep', es⟩)
    · rfl
    · rfl
    · simp only [elsR]
      by_cases h1 : ep = ep' ∧ n = es.length
      · simp only [if_pos h1] at he; cases he
      · simp only [if_neg h1]
@[go_sem] theorem opApp_live_sub (x : D) : opApp H sz false (some x) (some (.sub id ep n lo hi)) = elsO H sz ep n lo hi x H[id]? := by
  cases he : elems H (.sub id ep n lo hi) with
  | some ys =>
    rw [opApp_live H sz x _ ys he]
    simp only [elems, arrAt] at he
    generalize H[id]? = o at he
    rcases o with _ | (_ | ⟨sz', pin, ep', es⟩)
    · cases he
    · cases he
    · simp only [elsO]
      by_cases h1 : ep = ep' ∧ n = es.length
      · simp only [if_pos h1] at he ⊢; cases he; rfl
      · simp only [if_neg h1] at he; cases he
  | none =>
    have : opApp H sz false (some x) (some (.sub id ep n lo hi)) = none := by simp only [opApp, Option.bind_some, appendD, he]; rfl
    rw [this]
    simp only [elems, arrAt] at he
    generalize H[id]? = o at he
    rcases o with _ | (_ | ⟨sz', pin, ep', es⟩)
    · rfl
    · rfl
    · simp only [elsO]
      by_cases h1 : ep = ep' ∧ n = es.length
      · simp only [if_pos h1] at he; cases he
      · simp only [if_neg h1]
def subE (ep n lo hi : Nat) : Option Obj → Option (List D)
  | some (.arr _ _ ep' es) => if ep = ep' ∧ n = es.length then some ((es.drop lo).take (hi - lo)) else none
  | _ => none
def appF (x : D) : Option (List D) → Option (D × Heap)
  | some ys0 => (mapO (fun d => (frz H depth d).map .t) ys0).bind fun ys => if headSize sz ys then appD (pins H (ys0.flatMap (arrs H depth))) sz x ys else none
  | none => none
@[go_sem] theorem appF_t (x : D) (ts : List T) : appF H sz x (some (ts.map .t)) = appD H sz x (ts.map .t) := by
  simp only [appF, mapO_frz, Option.bind_some, arrs_t, pins]
  by_cases h : headSize sz (ts.map D.t) = true
  · rw [if_pos h]
  · rw [if_neg h]; unfold appD; rw [if_neg h]
@[go_sem] theorem opApp_frz_sub (x : D) : opApp H sz true (some x) (some (.sub id ep n lo hi)) = appF H sz x (subE ep n lo hi H[id]?) := by
  have e : elems H (.sub id ep n lo hi) = subE ep n lo hi H[id]? := by
    simp only [elems, arrAt]
    generalize H[id]? = o
    rcases o with _ | (_ | ⟨sz', pin, ep', es⟩)
    · rfl
    · rfl
    · simp only [subE]
      by_cases h1 : ep = ep' ∧ n = es.length
      · simp only [if_pos h1]; rfl
      · simp only [if_neg h1]; rfl
  simp only [opApp, Option.bind_some, appendD, e]
  cases subE ep n lo hi H[id]? with
  | none => rfl
  | some ys0 =>
    simp only [Option.bind_some, appF, if_true]
    cases hm : mapO (fun d => (frz H depth d).map D.t) ys0 with
    | none => rfl
    | some ys =>
      simp only [Option.bind_some]
      refine (appD_is _ _ _ _).trans ?_
      by_cases h : headSize sz ys = true
      · rw [if_pos h]
      · rw [if_neg h]; unfold appD; rw [if_neg h]
@[go_sem] theorem subE_map (ep n lo hi sz : Nat) (pin : Bool) (ts : List T) : subE ep n lo hi (some (.arr sz pin ep (ts.map .t))) = if n = ts.length then some (((ts.drop lo).take (hi - lo)).map .t) else none := by
  simp only [subE, true_and, List.length_map, List.map_take, List.map_drop]
def opBsr (ds : List D) : Option (D × Heap) := if ds.all (fun d => d.cells.length == sz && d.solid) then some (.ref H.length 0 ds.length, H ++ [.arr sz false 0 ds]) else none
@[go_sem] theorem ev_bsr (call : Oracle) (get : X → Option D) (xs : List X) : evO call get H (.bsr xs sz) = (mapO get xs).bind (opBsr H sz) := (rfl)
@[go_sem] theorem opBsr_nil : opBsr H sz [] = some (.ref H.length 0 0, H ++ [.arr sz false 0 []]) := (rfl)
@[go_sem] theorem opBsr_int (k : IntKind) (n : Int) : opBsr H 1 [.t (.int k n)] = some (.ref H.length 0 1, H ++ [.arr 1 false 0 [.t (.int k n)]]) := (rfl)
@[go_sem] theorem opBsr_agg (cs : List D) : opBsr H sz [.agg cs] = if lenIs sz cs = true then some (.ref H.length 0 1, H ++ [.arr sz false 0 [.agg cs]]) else none := by
  simp only [opBsr, List.all_cons, List.all_nil, Bool.and_true, D.cells, D.solid]
  by_cases h : lenIs sz cs = true
  · rw [if_pos h, if_pos (by simpa using lenIs_iff.1 h)]; rfl
  · rw [if_neg h, if_neg (by intro e; exact h (lenIs_iff.2 (by simpa using e)))]
end
@[go_sem] theorem q_toNat_one' : (1 : Int).toNat = 1 := (rfl)
@[go_sem] theorem q_toNat_two : (2 : Int).toNat = 2 := (rfl)
@[go_sem] theorem q_toNat_three : (3 : Int).toNat = 3 := (rfl)
section
variable {H t : Heap} {i j k : Nat} {o o' : Obj}
theorem hp_set_get (h : i < H.length) : (H.set i o)[i]? = some o := by simp [h]
theorem hp_set_ne (h : i ≠ j) : (H.set i o)[j]? = H[j]? := List.getElem?_set_ne h
theorem hp_lt (h : H[i]? = some o) : i < H.length := (List.getElem?_eq_some_iff.1 h).1
end
end Go.Ev

namespace Go.Ev.N
def law34_FiringRaw : Nat := 78
def law34_FiringMade : Nat := 79
def law34_FiringNeeds : Nat := 80
def law34_awake : Nat := 81
def made_Dice_Ints : Nat := 82
def law34_scene : Nat := 83
def law34_agree : Nat := 84
def law34_ready : Nat := 85
def firing_Arm : Nat := 86
def firing_Agree : Nat := 87
def firing_Fire : Nat := 88
def firing_Abort : Nat := 89
def firing_Valid : Nat := 90
def firing_Due : Nat := 91
def ref32_Border : Nat := 92
def ref32_Seal : Nat := 93
def made_Last : Nat := 94
def ref34_Arm : Nat := 95
def ref34_Agree : Nat := 96
def ref34_Fire : Nat := 97
def ref34_Abort : Nat := 98
def ref34_Valid : Nat := 99
def firing_Safe : Nat := 100
def ref34_Safe : Nat := 101
def ref34_Due : Nat := 102
def firing_request_check : Nat := 103
def firing_timely : Nat := 104
def lists_Rising : Nat := 105
def ref32_Barred : Nat := 106
def ref32_seal : Nat := 107
def ref34_step : Nat := 108
def ref34_blast : Nat := 109
def keys_Valid : Nat := 110
def area_Clear : Nat := 111
def ref33_Valid : Nat := 112
def ref32_Clear : Nat := 113
def ref31_Copy : Nat := 114
def keys_Valid_1 : Nat := 115
def keys_roads : Nat := 116
def keys_boxed : Nat := 117
def area_Clear_1 : Nat := 118
def keys_boxed_1 : Nat := 119
def ref26_Copy_v1 : Nat := 120
def ref26_Copy_v2 : Nat := 121
def ref26_CopyWorld_v2 : Nat := 122
end Go.Ev.N

namespace Go.Ev.N
def law27_HeadsMore : Nat := 123
def law27_HeadsSplit : Nat := 124
def law27_HeadsAll : Nat := 125
def law27_HeadsTrue : Nat := 126
def law27_awake : Nat := 127
def heads_Count : Nat := 128
def ref27_Count : Nat := 129
def heads_Sure : Nat := 130
def ref27_Sure : Nat := 131
def heads_Maybe : Nat := 132
def ref27_Maybe : Nat := 133
def heads_Missing : Nat := 134
def ref27_Missing : Nat := 135
def heads_look : Nat := 136
def ref27_state : Nat := 137
def heads_persons : Nat := 138
def heads_Sure_1 : Nat := 139
def heads_Sure_1_1 : Nat := 140
def ref27_people : Nat := 141
def heads_Maybe_1 : Nat := 142
def heads_Maybe_1_1 : Nat := 143
def heads_Missing_1 : Nat := 144
def places_Possible : Nat := 145
def heads_look_1 : Nat := 146
def heads_look_2 : Nat := 147
def places_Possible_1 : Nat := 148
end Go.Ev.N

namespace Go.Ev.N
def law28_SmokeSources : Nat := 149
def law28_SmokeRuns : Nat := 150
def law28_SmokeMade : Nat := 151
def law28_SmokeGrows : Nat := 152
def law28_awake : Nat := 153
def smoke_Start : Nat := 154
def smoke_Travel : Nat := 155
def smoke_Change : Nat := 156
def law28_agree : Nat := 157
def smoke_Free : Nat := 158
def smoke_given : Nat := 159
def slices_Repeat_int_int : Nat := 160
def smoke_times_spread : Nat := 161
def smoke_Valid : Nat := 162
def ref28_Same : Nat := 163
def ref28_Filled : Nat := 164
def ref28_Free : Nat := 165
def smoke_Free_1 : Nat := 166
def plan_Valid : Nat := 167
def slices_ContainsFunc_api_Span_api_Span : Nat := 168
def smoke_given_1 : Nat := 169
def math_bits_Mul : Nat := 170
def smoke_times_reach : Nat := 171
def smoke_Valid_1 : Nat := 172
def plan_Check : Nat := 173
def slices_IndexFunc_api_Span_api_Span : Nat := 174
def math_bits_Mul32 : Nat := 175
def math_bits_Mul64 : Nat := 176
def plan_spanIn : Nat := 177
end Go.Ev.N

namespace Go.Ev.K
open Go.Ev
def slices_Repeat_int_int_l1b : C := (.seq (.ite [{ o := .mv (.v 6) }, { o := .mv (.v 5) }, { o := .ln (.l 0) }, { o := .bin .lss (.l 2) (.l 0) }] [] 0 .skip (.exit 0)) (.blk 1 (.reg [{ o := .mv (.v 6) }, { o := .mv (.v 5) }, { o := .mv (.v 6) }, { o := .sc (.l 1) (some (.l 0)) none 1 }, { o := .mv (.v 5) }, { o := .mv (.v 6) }, { o := .sc (.l 1) none (some (.l 0)) 1 }, { o := .cp (.l 3) (.l 0) 1 }, { o := .bin .add (.l 7) (.l 0) }, { o := .mv (.l 0), d := some 6 }] [])))
def slices_Repeat_int_int_l1 : C := .loop true [0, 1, 2, 3, 4] K.slices_Repeat_int_int_l1b
def slices_Repeat_int_int : Fn := { nargs := 2, vars := [0, 1, 4, 5, 6, 7, 8], body := (.seq (.reg [{ o := .mv (.c (.nil)), d := some 2 }] []) (.seq (.ite [{ o := .mv (.v 1) }, { o := .bin .lss (.l 0) (.i 0) }] [] 0 .fail .skip) (.seq (.reg [{ o := .mv (.v 0) }, { o := .ln (.l 0) }, { o := .cv .u64 (.l 0) }, { o := .mv (.v 1) }, { o := .cv .u64 (.l 0) }, { o := .ca N.math_bits_Mul 0 [] [.l 2, .l 0] }, { o := .mv (.l 0) }, { o := .ex (.l 0) 0 }, { o := .ex (.l 1) 1 }, { o := .mv (.l 1), d := some 3 }, { o := .mv (.l 1), d := some 4 }] []) (.seq (.ite [{ o := .mv (.v 3) }, { o := .bin .gtr (.l 0) (.c (.t (.int .u64 (0)))) }, { o := .mv (.l 0) }, { o := .mv (.v 4), g := some (0, false) }, { o := .bin .gtr (.l 0) (.c (.t (.int .u64 (9223372036854775807)))), g := some (1, false) }, { o := .pk (.l 2) (.b true) (.l 0) }] [] 0 .fail .skip) (.seq (.reg [{ o := .mv (.v 4) }, { o := .cv .i64 (.l 0) }, { o := .mk (.l 0) (.t (.int .i64 (0))) 1 }, { o := .mv (.l 0), d := some 5 }] []) (.seq (.reg [{ o := .mv (.v 5) }, { o := .mv (.v 0) }, { o := .cp (.l 1) (.l 0) 1 }, { o := .mv (.l 0), d := some 6 }] []) (.seq (.blk 0 K.slices_Repeat_int_int_l1) (.seq (.reg [{ o := .mv (.v 5) }, { o := .mv (.l 0), d := some 2 }] []) .ret)))))))), res := [(2, none)] }
def plan_Valid : Fn := { nargs := 1, vars := [0, 1, 2], body := (.seq (.reg [{ o := .bx (.v 0) 2, d := some 1 }, { o := .mv (.b false), d := some 2 }] []) (.seq (.reg [{ o := .ld (.v 1) 2 true }, { o := .ca N.plan_Check 0 [] [.l 0] }, { o := .bin .eql (.l 0) (.i 0) }, { o := .mv (.l 0), d := some 2 }] []) .ret)), res := [(2, none)] }
def math_bits_Mul : Fn := { nargs := 2, vars := [0, 1, 4, 5, 8, 9], body := (.seq (.reg [{ o := .mv (.c (.t (.int .u64 (0)))), d := some 2 }, { o := .mv (.c (.t (.int .u64 (0)))), d := some 3 }] []) (.seq (.cnd false .skip) (.seq (.reg [{ o := .mv (.v 0) }, { o := .mv (.v 1) }, { o := .ca N.math_bits_Mul64 0 [] [.l 1, .l 0] }, { o := .mv (.l 0) }, { o := .ex (.l 0) 0 }, { o := .ex (.l 1) 1 }, { o := .mv (.l 1), d := some 4 }, { o := .mv (.l 1), d := some 5 }] []) (.seq (.reg [{ o := .mv (.v 4) }, { o := .mv (.v 5) }, { o := .mv (.l 1), d := some 2 }, { o := .mv (.l 1), d := some 3 }] []) .ret)))), res := [(2, none), (3, none)] }
end Go.Ev.K
namespace Go.Ev
class Has6 [Lib] : Prop where
  t_slices_Repeat_int_int : Lib.fs N.slices_Repeat_int_int = some K.slices_Repeat_int_int
  t_plan_Valid : Lib.fs N.plan_Valid = some K.plan_Valid
  t_math_bits_Mul : Lib.fs N.math_bits_Mul = some K.math_bits_Mul
namespace K
variable [Lib] [Has6]
theorem t_slices_Repeat_int_int : Lib.fs N.slices_Repeat_int_int = some K.slices_Repeat_int_int := Has6.t_slices_Repeat_int_int
theorem t_plan_Valid : Lib.fs N.plan_Valid = some K.plan_Valid := Has6.t_plan_Valid
theorem t_math_bits_Mul : Lib.fs N.math_bits_Mul = some K.math_bits_Mul := Has6.t_math_bits_Mul
end K
end Go.Ev

namespace Go.Ev.K
open Go.Ev
def plan_Check_l1b : C := (.its  [{ o := .bin .lss (.v 8) (.v 7) }] [] 0 .skip (.exit 0) (.seq (.blk 1 (.seq (.reg [{ o := .ia (.v 6) (.v 8) 2 }, { o := .ld (.l 0) 2 true }, { o := .al [.t (.int .i64 (0)), .t (.bool false)] [], d := some 3 }, { o := .st (.l 0) (.l 1) 2 [] }] []) (.ite [{ o := .fa (.v 3) 0 }, { o := .ld (.l 0) 1 false }, { o := .bin .lss (.l 0) (.i (-10000)) }, { o := .mv (.l 0) }, { o := .fa (.v 3) 0, g := some (0, false) }, { o := .ld (.l 0) 1 false, g := some (1, false) }, { o := .bin .gtr (.l 0) (.i 10000), g := some (2, false) }, { o := .pk (.l 3) (.b true) (.l 0) }] [] 0 (.seq (.reg [{ o := .mv (.i 1), d := some 2 }] []) .ret) .skip))) (.reg [{ o := .bin .add (.v 8) (.i 1) }, { o := .mv (.l 0), d := some 8 }] [])))
def plan_Check_l1 : C := .loop true [0, 2, 3, 4, 5, 9, 10, 11] K.plan_Check_l1b
def plan_Check_l2b : C := (.its  [{ o := .bin .lss (.v 11) (.v 10) }] [] 0 .skip (.exit 2) (.seq (.blk 3 (.seq (.reg [{ o := .ia (.v 9) (.v 11) 10 }, { o := .ld (.l 0) 10 true }, { o := .al [.t (.int .i64 (0)), .t (.int .i64 (0)), .t (.int .i64 (0)), .t (.int .i64 (0)), .t (.bool false), .t (.bool false), .t (.int .i64 (0)), .t (.int .i64 (0)), .t (.int .i64 (0)), .t (.int .i64 (0))] [], d := some 5 }, { o := .st (.l 0) (.l 1) 10 [] }] []) (.seq (.ite [{ o := .fa (.v 5) 0 }, { o := .ld (.l 0) 1 false }, { o := .bin .lss (.l 0) (.i 0) }, { o := .mv (.l 0) }, { o := .fa (.v 5) 0, g := some (0, false) }, { o := .ld (.l 0) 1 false, g := some (1, false) }, { o := .mv (.v 4), g := some (2, false) }, { o := .bin .geq (.l 1) (.l 0), g := some (3, false) }, { o := .pk (.l 4) (.b true) (.l 0) }, { o := .mv (.l 0) }, { o := .fa (.v 5) 1, g := some (0, false) }, { o := .ld (.l 0) 1 false, g := some (1, false) }, { o := .bin .lss (.l 0) (.i 0), g := some (2, false) }, { o := .pk (.l 3) (.b true) (.l 0) }, { o := .mv (.l 0) }, { o := .fa (.v 5) 1, g := some (0, false) }, { o := .ld (.l 0) 1 false, g := some (1, false) }, { o := .mv (.v 4), g := some (2, false) }, { o := .bin .geq (.l 1) (.l 0), g := some (3, false) }, { o := .pk (.l 4) (.b true) (.l 0) }, { o := .mv (.l 0) }, { o := .fa (.v 5) 0, g := some (0, false) }, { o := .ld (.l 0) 1 false, g := some (1, false) }, { o := .fa (.v 5) 1, g := some (2, false) }, { o := .ld (.l 0) 1 false, g := some (3, false) }, { o := .bin .eql (.l 2) (.l 0), g := some (4, false) }, { o := .pk (.l 5) (.b true) (.l 0) }] [] 0 (.seq (.reg [{ o := .mv (.i 4), d := some 2 }] []) .ret) .skip) (.seq (.ite [{ o := .fa (.v 5) 2 }, { o := .ld (.l 0) 1 false }, { o := .bin .lss (.l 0) (.i 1) }, { o := .mv (.l 0) }, { o := .fa (.v 5) 2, g := some (0, false) }, { o := .ld (.l 0) 1 false, g := some (1, false) }, { o := .bin .gtr (.l 0) (.i 100000), g := some (2, false) }, { o := .pk (.l 3) (.b true) (.l 0) }, { o := .mv (.l 0) }, { o := .fa (.v 5) 3, g := some (0, false) }, { o := .ld (.l 0) 1 false, g := some (1, false) }, { o := .bin .lss (.l 0) (.i 1), g := some (2, false) }, { o := .pk (.l 3) (.b true) (.l 0) }, { o := .mv (.l 0) }, { o := .fa (.v 5) 3, g := some (0, false) }, { o := .ld (.l 0) 1 false, g := some (1, false) }, { o := .bin .gtr (.l 0) (.i 1000), g := some (2, false) }, { o := .pk (.l 3) (.b true) (.l 0) }] [] 0 (.seq (.reg [{ o := .mv (.i 1), d := some 2 }] []) .ret) .skip) (.ite [{ o := .fa (.v 5) 6 }, { o := .ld (.l 0) 2 true }, { o := .ca N.plan_spanIn 0 [] [.l 0, .i 1, .i 262144] }, { o := .un .not (.l 0) }, { o := .mv (.l 0) }, { o := .fa (.v 5) 8, g := some (0, false) }, { o := .ld (.l 0) 2 true, g := some (1, false) }, { o := .ca N.plan_spanIn 0 [] [.l 0, .i (-2199023255552), .i 2199023255552], g := some (2, false) }, { o := .un .not (.l 0), g := some (3, false) }, { o := .pk (.l 4) (.b true) (.l 0) }] [] 0 (.seq (.reg [{ o := .mv (.i 1), d := some 2 }] []) .ret) .skip))))) (.reg [{ o := .bin .add (.v 11) (.i 1) }, { o := .mv (.l 0), d := some 11 }] [])))
def plan_Check_l2 : C := .loop true [0, 1, 2, 3, 5, 6, 7, 8] K.plan_Check_l2b
def plan_Check : Fn := { nargs := 1, vars := [0, 1, 2, 4, 5, 7, 19, 20, 21, 38, 39, 40], body := (.seq (.reg [{ o := .bx (.v 0) 2, d := some 1 }, { o := .mv (.i 0), d := some 2 }] []) (.seq (.ite [{ o := .fa (.v 1) 0 }, { o := .ld (.l 0) 1 false }, { o := .ln (.l 0) }, { o := .bin .gtr (.l 0) (.i 64) }, { o := .mv (.l 0) }, { o := .fa (.v 1) 1, g := some (0, false) }, { o := .ld (.l 0) 1 false, g := some (1, false) }, { o := .ln (.l 0), g := some (2, false) }, { o := .bin .gtr (.l 0) (.i 128), g := some (3, false) }, { o := .pk (.l 4) (.b true) (.l 0) }] [] 0 (.seq (.reg [{ o := .mv (.i 2), d := some 2 }] []) .ret) .skip) (.seq (.seq (.reg [{ o := .fa (.v 1) 0 }, { o := .ld (.l 0) 1 false, d := some 6 }, { o := .ln (.l 0), d := some 7 }, { o := .mv (.i 0), d := some 8 }] []) (.blk 0 K.plan_Check_l1)) (.seq (.reg [{ o := .fa (.v 1) 0 }, { o := .ld (.l 0) 1 false }, { o := .ln (.l 0) }, { o := .mv (.l 0), d := some 4 }] []) (.seq (.seq (.reg [{ o := .fa (.v 1) 1 }, { o := .ld (.l 0) 1 false, d := some 9 }, { o := .ln (.l 0), d := some 10 }, { o := .mv (.i 0), d := some 11 }] []) (.blk 2 K.plan_Check_l2)) (.seq (.reg [{ o := .mv (.i 0), d := some 2 }] []) .ret)))))), res := [(2, none)] }
def math_bits_Mul64 : Fn := { nargs := 2, vars := [0, 1, 4, 5, 6, 7, 8, 9, 10, 11, 12, 13], body := (.seq (.reg [{ o := .mv (.c (.t (.int .u64 (0)))), d := some 2 }, { o := .mv (.c (.t (.int .u64 (0)))), d := some 3 }] []) (.seq (.reg [{ o := .mv (.v 0) }, { o := .bin .and (.l 0) (.c (.t (.int .u64 (4294967295)))) }, { o := .mv (.l 0), d := some 4 }] []) (.seq (.reg [{ o := .mv (.v 0) }, { o := .bin .shr (.l 0) (.c (.t (.int .u64 (32)))) }, { o := .mv (.l 0), d := some 5 }] []) (.seq (.reg [{ o := .mv (.v 1) }, { o := .bin .and (.l 0) (.c (.t (.int .u64 (4294967295)))) }, { o := .mv (.l 0), d := some 6 }] []) (.seq (.reg [{ o := .mv (.v 1) }, { o := .bin .shr (.l 0) (.c (.t (.int .u64 (32)))) }, { o := .mv (.l 0), d := some 7 }] []) (.seq (.reg [{ o := .mv (.v 4) }, { o := .mv (.v 6) }, { o := .bin .mul (.l 1) (.l 0) }, { o := .mv (.l 0), d := some 8 }] []) (.seq (.reg [{ o := .mv (.v 5) }, { o := .mv (.v 6) }, { o := .bin .mul (.l 1) (.l 0) }, { o := .mv (.v 8) }, { o := .bin .shr (.l 0) (.c (.t (.int .u64 (32)))) }, { o := .bin .add (.l 2) (.l 0) }, { o := .mv (.l 0), d := some 9 }] []) (.seq (.reg [{ o := .mv (.v 9) }, { o := .bin .and (.l 0) (.c (.t (.int .u64 (4294967295)))) }, { o := .mv (.l 0), d := some 10 }] []) (.seq (.reg [{ o := .mv (.v 9) }, { o := .bin .shr (.l 0) (.c (.t (.int .u64 (32)))) }, { o := .mv (.l 0), d := some 11 }] []) (.seq (.reg [{ o := .mv (.v 10) }, { o := .mv (.v 4) }, { o := .mv (.v 7) }, { o := .bin .mul (.l 1) (.l 0) }, { o := .bin .add (.l 3) (.l 0) }, { o := .mv (.l 0), d := some 10 }] []) (.seq (.reg [{ o := .mv (.v 5) }, { o := .mv (.v 7) }, { o := .bin .mul (.l 1) (.l 0) }, { o := .mv (.v 11) }, { o := .bin .add (.l 1) (.l 0) }, { o := .mv (.v 10) }, { o := .bin .shr (.l 0) (.c (.t (.int .u64 (32)))) }, { o := .bin .add (.l 2) (.l 0) }, { o := .mv (.l 0), d := some 2 }] []) (.seq (.reg [{ o := .mv (.v 0) }, { o := .mv (.v 1) }, { o := .bin .mul (.l 1) (.l 0) }, { o := .mv (.l 0), d := some 3 }] []) .ret)))))))))))), res := [(2, none), (3, none)] }
def plan_spanIn : Fn := { nargs := 3, vars := [0, 1, 2, 3, 6], body := (.seq (.reg [{ o := .bx (.v 0) 2, d := some 3 }, { o := .mv (.b false), d := some 4 }] []) (.seq (.reg [{ o := .mv (.v 1) }, { o := .fa (.v 3) 0 }, { o := .ld (.l 0) 1 false }, { o := .bin .leq (.l 2) (.l 0) }, { o := .mv (.l 0) }, { o := .fa (.v 3) 0, g := some (0, true) }, { o := .ld (.l 0) 1 false, g := some (1, true) }, { o := .fa (.v 3) 1, g := some (2, true) }, { o := .ld (.l 0) 1 false, g := some (3, true) }, { o := .bin .leq (.l 2) (.l 0), g := some (4, true) }, { o := .pk (.l 5) (.l 0) (.b false) }, { o := .mv (.l 0) }, { o := .fa (.v 3) 1, g := some (0, true) }, { o := .ld (.l 0) 1 false, g := some (1, true) }, { o := .mv (.v 2), g := some (2, true) }, { o := .bin .leq (.l 1) (.l 0), g := some (3, true) }, { o := .pk (.l 4) (.l 0) (.b false) }, { o := .mv (.l 0), d := some 4 }] []) .ret)), res := [(4, none)] }
end Go.Ev.K
namespace Go.Ev
class Has7 [Lib] : Prop where
  t_plan_Check : Lib.fs N.plan_Check = some K.plan_Check
  t_math_bits_Mul64 : Lib.fs N.math_bits_Mul64 = some K.math_bits_Mul64
  t_plan_spanIn : Lib.fs N.plan_spanIn = some K.plan_spanIn
namespace K
variable [Lib] [Has7]
theorem t_plan_Check : Lib.fs N.plan_Check = some K.plan_Check := Has7.t_plan_Check
theorem t_math_bits_Mul64 : Lib.fs N.math_bits_Mul64 = some K.math_bits_Mul64 := Has7.t_math_bits_Mul64
theorem t_plan_spanIn : Lib.fs N.plan_spanIn = some K.plan_spanIn := Has7.t_plan_spanIn
end K
end Go.Ev

namespace Go.Ev
open Go
variable [Lib] [Has1] [Has2] [Has6] [Has7]
section
variable (H : Heap) (sz : Nat)
def putO (id ep n lo hi : Nat) (ys : List D) : Option Obj → Option (D × Heap)
  | some (.arr sz' pin ep' es) => if ep = ep' ∧ n = es.length then putD H id ep (sz', pin, es) lo hi ys sz else none
  | _ => none
def cpD (x : D) (ys : List D) : Option (D × Heap) := if headSize sz ys = true then (match x with
  | .ref id ep n => putO H sz id ep n 0 n ys H[id]?
  | .sub id ep n lo hi => putO H sz id ep n lo hi ys H[id]?
  | _ => none) else none
def opCp (x y : Option D) : Option (D × Heap) := x.bind fun a => y.bind fun b => copyD H a b sz
@[go_sem] theorem ev_cp (call : Oracle) (get : X → Option D) (x y : X) : evO call get H (.cp x y sz) = opCp H sz (get x) (get y) := (rfl)
theorem copyD_is (x y : D) (ys : List D) (h : elems H y = some ys) : copyD H x y sz = cpD H sz x ys := by
  unfold copyD cpD
  rw [h, Option.bind_some]
  split
  · rename_i hh
    cases x with
    | ref id ep n =>
      simp only [arrAt, putO]
      cases H[id]? with
      | none => rfl
      | some o =>
        cases o with
        | box cs => rfl
        | arr sz' pin ep' es =>
          simp only
          by_cases c : ep = ep' ∧ n = es.length
          · rw [if_pos c, if_pos c]; rfl
          · rw [if_neg c, if_neg c]; rfl
    | sub id ep n lo hi =>
      simp only [arrAt, putO]
      cases H[id]? with
      | none => rfl
      | some o =>
        cases o with
        | box cs => rfl
        | arr sz' pin ep' es =>
          simp only
          by_cases c : ep = ep' ∧ n = es.length
          · rw [if_pos c, if_pos c]; rfl
          · rw [if_neg c, if_neg c]; rfl
    | _ => rfl
  · rfl
@[go_sem] theorem opCp_t (x : D) (ts : List T) : opCp H sz (some x) (some (.t (.sl ts))) = cpD H sz x (ts.map .t) := copyD_is H sz x (.t (.sl ts)) (ts.map .t) rfl
def cpE (x : D) (ep n lo hi : Nat) : Option Obj → Option (D × Heap)
  | some (.arr _ _ ep' es) => if ep = ep' ∧ n = es.length then cpD H sz x ((es.drop lo).take (hi - lo)) else none
  | _ => none
@[go_sem] theorem cpE_arr (x : D) (n lo hi sz' : Nat) (pin : Bool) (ep : Nat) (es : List D) : cpE H sz x ep n lo hi (some (.arr sz' pin ep es)) = if n = es.length then cpD H sz x ((es.drop lo).take (hi - lo)) else none := by simp [cpE]
@[go_sem] theorem opCp_sub (x : D) (id ep n lo hi : Nat) : opCp H sz (some x) (some (.sub id ep n lo hi)) = cpE H sz x ep n lo hi H[id]? := by
  unfold opCp
  simp only [Option.bind_some]
  cases h : H[id]? with
  | none => simp [copyD, elems, arrAt, h, cpE]
  | some o =>
    cases o with
    | box cs => simp [copyD, elems, arrAt, h, cpE]
    | arr sz' pin ep' es =>
      by_cases c : ep = ep' ∧ n = es.length
      · rw [copyD_is H sz x _ ((es.drop lo).take (hi - lo)) (by simp [elems, arrAt, h, c])]
        simp only [cpE, if_pos c]
      · simp [copyD, elems, arrAt, h, cpE, c]
@[go_sem] theorem cpD_ref (id ep n : Nat) (ys : List D) : cpD H sz (.ref id ep n) ys = if headSize sz ys = true then putO H sz id ep n 0 n ys H[id]? else none := (rfl)
@[go_sem] theorem cpD_sub (id ep n lo hi : Nat) (ys : List D) : cpD H sz (.sub id ep n lo hi) ys = if headSize sz ys = true then putO H sz id ep n lo hi ys H[id]? else none := (rfl)
@[go_sem] theorem putO_arr (id n lo hi : Nat) (ys : List D) (ep : Nat) (es : List D) : putO H sz id ep n lo hi ys (some (.arr sz false ep es)) =
    if n = es.length then (if min ys.length (hi - lo) = 0 then some (.t (.int .i64 0), H) else some (.t (.int .i64 ((min ys.length (hi - lo) : Nat) : Int)), H.set id (.arr sz false ep (es.take lo ++ ys.take (min ys.length (hi - lo)) ++ es.drop (lo + min ys.length (hi - lo)))))) else none := by
  simp [putO, putD]
end
theorem wrapU {n : Int} (h1 : 0 ≤ n) (h2 : n < 18446744073709551616) : IntKind.u64.wrap n = n := by
  have e : IntKind.u64.wrap n = n % 18446744073709551616 := by simp [IntKind.wrap, IntKind.signed, IntKind.bits]
  rw [e]; omega
theorem and32 {n : Nat} (h : n < 4294967296) : IntKind.u64.wrap ((BitVec.ofInt IntKind.u64.bits (n : Int) &&& BitVec.ofInt IntKind.u64.bits 4294967295).toNat : Nat) = (n : Int) := by
  have e : (BitVec.ofInt IntKind.u64.bits (n : Int) &&& BitVec.ofInt IntKind.u64.bits 4294967295).toNat = n := by
    rw [BitVec.toNat_and]
    have a : (BitVec.ofInt IntKind.u64.bits (n : Int)).toNat = n := by
      rw [BitVec.ofInt_natCast, BitVec.toNat_ofNat]
      exact Nat.mod_eq_of_lt (Nat.lt_of_lt_of_le h (by decide))
    have b : (BitVec.ofInt IntKind.u64.bits 4294967295).toNat = 2 ^ 32 - 1 := by decide
    rw [a, b, Nat.and_two_pow_sub_one_eq_mod]
    exact Nat.mod_eq_of_lt h
  rw [e]
  exact wrapU (by omega) (by omega)
theorem shr32 {n : Nat} (h : n < 4294967296) : (n : Int).fdiv (2 ^ min (32 : Int).toNat IntKind.u64.bits) = 0 := by
  have e : (2 ^ min (32 : Int).toNat IntKind.u64.bits : Int) = 4294967296 := by decide
  rw [e, Int.fdiv_eq_ediv_of_nonneg _ (by omega)]
  omega
theorem and32n {n : Nat} (h : n < 4294967296) : (((BitVec.ofInt IntKind.u64.bits (n : Int) &&& BitVec.ofInt IntKind.u64.bits 4294967295).toNat : Nat) : Int) = (n : Int) := by
  have e := and32 h
  rwa [wrapU (by omega) (by
    have : (BitVec.ofInt IntKind.u64.bits (n : Int) &&& BitVec.ofInt IntKind.u64.bits 4294967295).toNat < 2 ^ IntKind.u64.bits := BitVec.isLt _
    have : 2 ^ IntKind.u64.bits = 18446744073709551616 := by decide
    omega)] at e
theorem mul64_ok (a b : Nat) (ha : a < 4294967296) (hb : b < 4294967296) (h : a * b < 4294967296) : CALL 0 N.math_bits_Mul64 [.t (.int .u64 a), .t (.int .u64 b)] [] = some (.tup [.t (.int .u64 0), .t (.int .u64 ((a * b : Nat) : Int))], []) := by
  refine CALL_of K.t_math_bits_Mul64 rfl ?_
  have m : (a : Int) * (b : Int) = ((a * b : Nat) : Int) := (Int.natCast_mul a b).symm
  have z := and32 (n := 0) (by omega)
  have z2 := shr32 (n := 0) (by omega)
  have z3 := and32n (n := 0) (by omega)
  have g3 := fun (n : Nat) (h : n < 4294967296) => and32n (n := n) h
  have g4 := fun (n : Nat) (h : n < 4294967296) => shr32 (n := n) h
  simp only [Int.ofNat_zero, Int.natCast_zero] at z z2 z3
  simp only [go_sem] at z2 z3 g3 g4
  simp (disch := omega) only [go_sem, K.math_bits_Mul64, ↓reduceIte, g3, g4, m, z2, z3, wrapU, Int.zero_mul, Int.mul_zero, Int.add_zero, Int.zero_add, Nat.reduceAdd, Nat.reduceSub]
theorem mul_ok (a b : Nat) (ha : a < 4294967296) (hb : b < 4294967296) (h : a * b < 4294967296) : CALL 0 N.math_bits_Mul [.t (.int .u64 a), .t (.int .u64 b)] [] = some (.tup [.t (.int .u64 0), .t (.int .u64 ((a * b : Nat) : Int))], []) := by
  refine CALL_of K.t_math_bits_Mul rfl ?_
  have m := mul64_ok a b ha hb h
  simp (disch := omega) only [go_sem, K.math_bits_Mul, ↓reduceIte, m, Nat.reduceAdd, Nat.reduceSub]
def repD (v : Int) (n cur : Nat) : List D := List.replicate cur (I v) ++ List.replicate (n - cur) (I 0)
theorem repD_len (v : Int) {n cur : Nat} (h : cur ≤ n) : (repD v n cur).length = n := by simp [repD]; omega
theorem repD_step (v : Int) {n cur m : Nat} (h : cur + m ≤ n) (hm : m ≤ cur) : (repD v n cur).take cur ++ ((repD v n cur).take cur).take m ++ (repD v n cur).drop (cur + m) = repD v n (cur + m) := by
  unfold repD
  have e1 : (List.replicate cur (I v) ++ List.replicate (n - cur) (I 0)).take cur = List.replicate cur (I v) := by
    rw [List.take_append_of_le_length (by simp), List.take_of_length_le (by simp)]
  have e2 : (List.replicate cur (I v) ++ List.replicate (n - cur) (I 0)).drop (cur + m) = List.replicate (n - (cur + m)) (I 0) := by
    rw [List.drop_append, List.length_replicate]
    simp; omega
  rw [e1, e2, List.take_replicate, Nat.min_eq_left hm, List.replicate_append_replicate]
theorem repD_t (v : Int) (n cur : Nat) : ∃ ts : List T, repD v n cur = ts.map .t := ⟨List.replicate cur (tI v) ++ List.replicate (n - cur) (tI 0), by simp [repD]⟩
theorem headSize_rep (v : Int) (n cur : Nat) (lo k : Nat) : headSize 1 (((repD v n cur).drop lo).take k) = true := by
  cases h : ((repD v n cur).drop lo).take k with
  | nil => rfl
  | cons d r =>
    have hm : d ∈ repD v n cur := List.mem_of_mem_drop (List.mem_of_mem_take (h ▸ List.mem_cons_self))
    unfold repD at hm
    simp only [List.mem_append, List.mem_replicate] at hm
    rcases hm with ⟨-, rfl⟩ | ⟨-, rfl⟩ <;> rfl
theorem repeat_loop (v : Int) (n : Nat) (hn : n ≤ 1000000) : ∀ (k cur : Nat), n - cur ≤ k → 1 ≤ cur → cur ≤ n →
    loopC true [0, 1, 2, 3, 4] (exS CALL K.slices_Repeat_int_int_l1b) ⟨[.und, .und, .und, .und, .und, .ref 0 0 n, I cur], [.arr 1 false 0 (repD v n cur)]⟩ =
      some (.exit 0, ⟨[.und, .und, .und, .und, .und, .ref 0 0 n, I n], [.arr 1 false 0 (repD v n n)]⟩) := by
  intro k
  induction k with
  | zero =>
    intro cur h1 h2 h3
    have : cur = n := by omega
    subst this
    refine loopC_exit ?_ (by simp)
    have rl := repD_len v (Nat.le_refl cur)
    simp (disch := omega) only [go_sem, K.slices_Repeat_int_int_l1b, ↓reduceIte, Nat.reduceAdd, Nat.reduceSub]
  | succ k ih =>
    intro cur h1 h2 h3
    by_cases c : cur = n
    · subst c
      refine loopC_exit ?_ (by simp)
      simp (disch := omega) only [go_sem, K.slices_Repeat_int_int_l1b, ↓reduceIte, Nat.reduceAdd, Nat.reduceSub]
    · have rl := repD_len v (n := n) (cur := cur) (by omega)
      have st := repD_step v (n := n) (cur := cur) (m := min cur (n - cur)) (by omega) (by omega)
      have hs := headSize_rep v n cur 0 cur
      rw [List.drop_zero] at hs
      have tl : ((repD v n cur).take cur).length = cur := by rw [List.length_take]; omega
      refine loopC_step (st2 := ⟨[.und, .und, .und, .und, .und, .ref 0 0 n, I ((cur + min cur (n - cur) : Nat) : Int)], [.arr 1 false 0 (repD v n (cur + min cur (n - cur)))]⟩) ?_ (ih _ (by omega) (by omega) (by omega))
      rw [← st]
      obtain ⟨ts, hts⟩ := repD_t v n cur
      have ao : ∀ a b c : Nat, allOld 1 8 ((repD v n cur).take a) = true ∧ allOld 1 8 (((repD v n cur).take a).take b) = true ∧ allOld 1 8 ((repD v n cur).drop c) = true := fun a b c => by
        rw [hts, ← List.map_take, ← List.map_take, ← List.map_drop]
        simp only [go_sem, and_self]
      have ao1 := fun a => (ao a 0 0).1
      have ao2 := fun a b => (ao a b 0).2.1
      have ao3 := fun c => (ao 0 0 c).2.2
      clear ao hts
      generalize repD v n cur = es at *
      simp (disch := omega) only [go_sem, K.slices_Repeat_int_int_l1b, ↓reduceIte, rl, hs, tl, ao1, ao2, ao3, and_self, List.drop_zero, Nat.sub_zero, Nat.reduceAdd, Nat.reduceSub]
theorem repeat_ok (v : Int) (n : Nat) (h1 : 1 ≤ n) (hn : n ≤ 1000000) : CALL 1 N.slices_Repeat_int_int [.t (tL [v]), I n] [] = some (.ref 0 0 n, [.arr 1 false 0 (List.replicate n (I v))]) := by
  refine CALL_of K.t_slices_Repeat_int_int rfl ?_
  have m := mul_ok 1 n (by omega) (by omega) (by omega)
  rw [Nat.one_mul] at m
  change CALL 0 N.math_bits_Mul [.t (.int .u64 1), .t (.int .u64 n)] [] = _ at m
  have w1 : IntKind.u64.wrap 1 = 1 := by decide
  have w2 : IntKind.u64.wrap (n : Int) = n := wrapU (by omega) (by omega)
  have w3 : IntKind.i64.wrap (n : Int) = n := wrap_id (by omega) (by omega)
  have lp := repeat_loop v n hn n 1 (by omega) (by omega) h1
  have loop : ∀ z0 z1 z2 z3 z4 : D, exS CALL K.slices_Repeat_int_int_l1 ⟨[z0, z1, z2, z3, z4, .ref 0 0 n, I 1], [.arr 1 false 0 (I v :: List.replicate (n - 1) (I 0))]⟩ = some (.exit 0, ⟨[.und, .und, .und, .und, .und, .ref 0 0 n, I n], [.arr 1 false 0 (List.replicate n (I v))]⟩) := by
    intro z0 z1 z2 z3 z4
    have e1 : repD v n 1 = I v :: List.replicate (n - 1) (I 0) := rfl
    have e2 : repD v n n = List.replicate n (I v) := by simp [repD]
    rw [e1, e2] at lp
    exact lp
  have dr : (List.replicate n (D.t (.int .i64 0))).drop 1 = List.replicate (n - 1) (I 0) := List.drop_replicate ..
  have mn : min 1 n = 1 := by omega
  have ar : ∀ H : Heap, arrsL H 8 (List.replicate n (I v)) = [] := fun H => by
    have e : List.replicate n (I v) = (List.replicate n (tI v)).map D.t := by simp
    rw [e]
    unfold arrsL
    exact arrs_t ..
  simp (disch := omega) only [go_sem, K.slices_Repeat_int_int, ↓reduceIte, tL, List.map_cons, List.map_nil, m, w1, w2, w3, loop, dr, mn, ar, List.length_replicate, Nat.sub_zero, List.take_zero, List.nil_append, List.take_succ_cons, Nat.zero_add, Nat.reduceAdd, Nat.reduceSub]
end Go.Ev

namespace Go.Ev
open Go
variable [Lib] [Has1] [Has2]
structure Spn where
  low : Int
  high : Int
instance : Dat Spn := ⟨⟨0, 0⟩⟩
abbrev Spn.e (f : Spn) : T := .agg [tI f.low, tI f.high]
def Spn.ok (f : Spn) : Prop := -1125899906842624 ≤ f.low ∧ f.high ≤ 1125899906842624 ∧ f.low ≤ f.high
instance (f : Spn) : Decidable f.ok := by unfold Spn.ok; infer_instance
def flowsB (m : Mine) (l : List Spn) : Bool := (List.range l.length).all (fun j => decide (nth l j).ok) && decide (l.length = m.roads.length)
def travelF (x : Road) (f : Spn) (back : Bool) : Int :=
  if x.closed = true then -1 else
  let g := if back then -f.low else f.high
  let out := if 0 < g then (x.len * x.area * 1000).tdiv g else -1
  if (if back then f.low < 500 * x.area else -500 * x.area < f.high) ∧ (out < 0 ∨ x.len < out) then x.len else out
end Go.Ev

namespace Go.Ev
open Go
variable [Lib] [Has1] [Has2]
def downC (l : List Int) (p q : Nat) (t : Int) : Bool := decide (0 ≤ t ∧ nth l p + t < nth l q)
def downF (l : List Int) (p q : Nat) (t : Int) : List Int := if downC l p q t = true then l.set q (nth l p + t) else l
def smHalf (m : Mine) (fl : List Spn) (k : Nat) (back : Bool) (l : List Int) : List Int × Bool :=
  (downF l ((nth m.roads k).src back).toNat ((nth m.roads k).dst back).toNat (travelF (nth m.roads k) (nth fl k) back), downC l ((nth m.roads k).src back).toNat ((nth m.roads k).dst back).toNat (travelF (nth m.roads k) (nth fl k) back))
def smStep (m : Mine) (fl : List Spn) (k : Nat) (s : List Int × Bool) : List Int × Bool :=
  let a := smHalf m fl k false s.1
  let b := smHalf m fl k true a.1
  (b.1, s.2 || a.2 || b.2)
def smSteps (m : Mine) (fl : List Spn) (l : List Int) : Nat → List Int × Bool
  | 0 => (l, false)
  | k + 1 => smStep m fl k (smSteps m fl l k)
def smRound (m : Mine) (fl : List Spn) (l : List Int) : List Int × Bool := smSteps m fl l m.roads.length
section
variable {m : Mine} (h : m.ok) {fl : List Spn}
include h
end
def capN (l : List Int) : Nat → List Int
  | 0 => l
  | j + 1 => if 2147483648 < nth (capN l j) j then (capN l j).set j 1099511627776 else capN l j
def closeS (m : Mine) (fl : List Spn) (l : List Int) : List Int := capN (closeN (smRound m fl) (sumN l + 1) l) m.places.length
end Go.Ev

namespace Go.Ev
open Go
variable [Lib] [Has1] [Has2]
def plS (t x : Int) : Prop := x = 1099511627776 ∨ (t ≤ x ∧ x ≤ 2147483648)
instance (t x : Int) : Decidable (plS t x) := by unfold plS; infer_instance
def validS (m : Mine) (s : Wh) : Bool := (List.range s.frm.length).all (fun j => decide (plS s.time (nth s.frm j))) && decide (s.frm.length = m.places.length ∧ inT s.time)
def initS (l : List Int) (t : Int) (n : Nat) : List Int := (List.range n).map fun (p : Nat) => if (p : Int) ∈ l then t else 1099511627776
@[simp] theorem initS_len (l : List Int) (t : Int) (n : Nat) : (initS l t n).length = n := by simp [initS]
def startS (m : Mine) (fl : List Spn) (l : List Int) (t : Int) : Wh × Int :=
  if flowsB m fl = false then (⟨0, []⟩, 6) else if setB l m.places.length = false then (⟨0, []⟩, 3) else if ¬ inT t then (⟨0, []⟩, 8) else
  (⟨t, closeS m fl (initS l t m.places.length)⟩, 0)
end Go.Ev

namespace Go.Ev
open Go
variable [Lib] [Has1] [Has2]
def chHalf (m : Mine) (fl : List Spn) (frm : List Int) (t : Int) (k : Nat) (back : Bool) (l : List Int) : List Int :=
  if nth frm ((nth m.roads k).src back).toNat ≤ t ∧ 0 ≤ travelF (nth m.roads k) (nth fl k) back then l.set ((nth m.roads k).dst back).toNat (min (nth l ((nth m.roads k).dst back).toNat) t) else l
def chStep (m : Mine) (fl : List Spn) (frm : List Int) (t : Int) (k : Nat) (l : List Int) : List Int := chHalf m fl frm t k true (chHalf m fl frm t k false l)
def chN (m : Mine) (fl : List Spn) (frm : List Int) (t : Int) : Nat → List Int
  | 0 => frm
  | k + 1 => chStep m fl frm t k (chN m fl frm t k)
def maxN (t : Int) (l : List Int) : Nat → List Int
  | 0 => l
  | k + 1 => (maxN t l k).set k (max (nth (maxN t l k) k) t)
def changeS (m : Mine) (old : List Spn) (next : Mine) (fl : List Spn) (s : Wh) (t : Int) : Wh × Int :=
  if validS m s = false ∨ flowsB m old = false ∨ flowsB next fl = false ∨ next.places.length ≠ m.places.length then (s, 6) else
  if t < s.time ∨ 2147483648 < t then (s, 8) else (⟨t, closeS next fl (maxN t (chN m old s.frm t m.roads.length) m.places.length)⟩, 0)
end Go.Ev

namespace Go.Ev
open Go
variable [Lib] [Has1] [Has2] [Has6] [Has7]
theorem spanIn_ok (a b lo hi : Int) (h1 : lo ≤ a) (h2 : a ≤ b) (h3 : b ≤ hi) : CALL 0 N.plan_spanIn [.t (.agg [tI a, tI b]), I lo, I hi] [] = some (B true, []) := by
  refine CALL_of K.t_plan_spanIn rfl ?_
  simp (disch := omega) only [go_sem, K.plan_spanIn, ↓reduceIte, Nat.reduceAdd, Nat.reduceSub]
theorem planCheck_ok {m : Mine} (h : m.ok) : CALL 0 N.plan_Check [.t m.e] [] = some (I 0, []) := by
  refine CALL_of K.t_plan_Check rfl ?_
  have np := h.np
  have nr := h.nr
  have hs := h.hs
  have rs := h.rs
  obtain ⟨places, roads⟩ := m
  simp only at np nr hs rs
  have l1 : ∀ z0 z2 z3 z4 z5 z9 z10 z11 : D, exS CALL K.plan_Check_l1 ⟨[z0, .bp 0 0, z2, z3, z4, z5, .t (.sl (places.map Place.e)), I places.length, I 0, z9, z10, z11], [.box (mineCells ⟨places, roads⟩)]⟩ =
      some (.exit 0, ⟨[.und, .bp 0 0, .und, .und, .und, .und, .t (.sl (places.map Place.e)), I places.length, I places.length, .und, .und, .und], [.box (mineCells ⟨places, roads⟩)]⟩) := by
    intro z0 z2 z3 z4 z5 z9 z10 z11
    refine loop_up (fun j => ⟨[.und, .bp 0 0, .und, .und, .und, .und, .t (.sl (places.map Place.e)), I places.length, I j, .und, .und, .und], [.box (mineCells ⟨places, roads⟩)]⟩) places.length rfl ?_ ?_ (by simp)
    · intro j hj
      have g : (places.map Place.e)[j]? = some (nth places j).e := map_nth _ hj
      have q := hs _ (nth_mem hj)
      generalize nth places j = x at *
      obtain ⟨hh, sf⟩ := x
      simp only [mineCells] at *
      simp (disch := omega) only [go_sem, K.plan_Check_l1b, ↓reduceIte, g, Nat.reduceAdd, Nat.reduceSub]
    · simp (disch := omega) only [go_sem, K.plan_Check_l1b, ↓reduceIte, mineCells, Nat.reduceAdd, Nat.reduceSub]
  have l2 : ∀ z0 z1 z2 z3 z5 z6 z7 z8 : D, exS CALL K.plan_Check_l2 ⟨[z0, z1, z2, z3, I places.length, z5, z6, z7, z8, .t (.sl (roads.map Road.e)), I roads.length, I 0], [.box (mineCells ⟨places, roads⟩)]⟩ =
      some (.exit 2, ⟨[.und, .und, .und, .und, I places.length, .und, .und, .und, .und, .t (.sl (roads.map Road.e)), I roads.length, I roads.length], [.box (mineCells ⟨places, roads⟩)]⟩) := by
    intro z0 z1 z2 z3 z5 z6 z7 z8
    refine loop_up (fun j => ⟨[.und, .und, .und, .und, I places.length, .und, .und, .und, .und, .t (.sl (roads.map Road.e)), I roads.length, I j], [.box (mineCells ⟨places, roads⟩)]⟩) roads.length rfl ?_ ?_ (by simp)
    · intro j hj
      have g : (roads.map Road.e)[j]? = some (nth roads j).e := map_nth _ hj
      have q := rs _ (nth_mem hj)
      generalize nth roads j = x at *
      have f0 := q.f0; have f1 := q.f1; have t0 := q.t0; have t1 := q.t1; have ne := q.ne; have l0 := q.l0; have l1 := q.l1; have a0 := q.a0; have a1 := q.a1
      have r0 := q.r0; have r1 := q.r1; have r2 := q.r2; have i0 := q.i0; have i1 := q.i1; have i2 := q.i2
      clear q
      obtain ⟨frm, to, len, area, walk, closed, rl, rh, ll, lh⟩ := x
      simp only [mineCells] at *
      have s1 := spanIn_ok rl rh 1 262144 r0 r1 r2
      have s2 := spanIn_ok ll lh (-2199023255552) 2199023255552 i0 i1 i2
      simp (disch := omega) only [go_sem, K.plan_Check_l2b, ↓reduceIte, g, s1, s2, Nat.reduceAdd, Nat.reduceSub]
    · simp (disch := omega) only [go_sem, K.plan_Check_l2b, ↓reduceIte, mineCells, Nat.reduceAdd, Nat.reduceSub]
  simp only [mineCells] at l1 l2
  simp (disch := omega) only [go_sem, K.plan_Check, ↓reduceIte, l1, l2, Nat.reduceAdd, Nat.reduceSub]
theorem planValid_ok {m : Mine} (h : m.ok) : CALL 0 N.plan_Valid [.t m.e] [] = some (B true, []) := by
  refine CALL_of K.t_plan_Valid rfl ?_
  have c := planCheck_ok h
  obtain ⟨places, roads⟩ := m
  simp (disch := omega) only [go_sem, K.plan_Valid, ↓reduceIte, c, Nat.reduceAdd, Nat.reduceSub]
end Go.Ev

namespace Go.Ev.N
def law25_PlacesLeast : Nat := 178
def law25_PlacesJoins : Nat := 179
def law25_PlacesTrue : Nat := 180
def law25_PlacesShift : Nat := 181
def law25_PlacesLess : Nat := 182
def law25_PlacesRaw : Nat := 183
def law25_PlacesMade : Nat := 184
def law25_awake : Nat := 185
def places_Start : Nat := 186
def ref03_Least : Nat := 187
def made_Dice_Where : Nat := 188
def places_Join : Nat := 189
def places_Valid : Nat := 190
def law25_walker : Nat := 191
def places_See : Nat := 192
def places_Absent : Nat := 193
def places_Renew : Nat := 194
def law25_agree : Nat := 195
def ref25_Same : Nat := 196
def law25_row : Nat := 197
def places_nowhere : Nat := 198
def places_lowered : Nat := 199
def places_all : Nat := 200
def places_shaped : Nat := 201
def slices_Equal_int_int : Nat := 202
def places_given : Nat := 203
def slices_Clone_int_int : Nat := 204
def places_Absent_1 : Nat := 205
def ref25_Renew : Nat := 206
def places_Raise : Nat := 207
def places_arrivals : Nat := 208
def places_lowered_1 : Nat := 209
def places_shaped_1 : Nat := 210
def walk_Time : Nat := 211
def walk_step : Nat := 212
def walk_with : Nat := 213
def walk_quick : Nat := 214
end Go.Ev.N

namespace Go.Ev.K
open Go.Ev
def places_Join_l1b : C := (.its  [{ o := .bin .lss (.v 11) (.v 10) }] [] 0 .skip (.exit 0) (.seq (.blk 1 (.seq (.reg [{ o := .mv (.v 11) }, { o := .ia (.v 9) (.v 11) 1 }, { o := .ld (.l 0) 1 false }, { o := .mv (.l 2), d := some 7 }, { o := .mv (.l 1), d := some 8 }] []) (.reg [{ o := .fa (.v 6) 1 }, { o := .ld (.l 0) 1 false }, { o := .mv (.v 8) }, { o := .fa (.v 3) 1 }, { o := .ld (.l 0) 1 false }, { o := .mv (.v 7) }, { o := .ia (.l 1) (.l 0) 1 }, { o := .ld (.l 0) 1 false }, { o := .mn [.l 5, .l 0] }, { o := .bs [.l 0] 1 }, { o := .app (.l 8) (.l 0) true 1 }, { o := .fa (.v 6) 1 }, { o := .st (.l 0) (.l 1) 1 [] }] [(1, 10)]))) (.reg [{ o := .bin .add (.v 11) (.i 1) }, { o := .mv (.l 0), d := some 11 }] [])))
def places_Join_l1 : C := .loop true [0, 1, 2, 5, 7, 8] K.places_Join_l1b
def places_Join : Fn := { nargs := 2, vars := [0, 1, 2, 3, 4, 5, 6, 7, 8, 24, 25, 26], body := (.seq (.reg [{ o := .bx (.v 0) 2, d := some 2 }, { o := .bx (.v 1) 2, d := some 3 }, { o := .al [.t (.int .i64 (0)), .nil] [], d := some 4 }, { o := .mv (.i 0), d := some 5 }] []) (.seq (.ite [{ o := .fa (.v 2) 1 }, { o := .ld (.l 0) 1 false }, { o := .ln (.l 0) }, { o := .fa (.v 3) 1 }, { o := .ld (.l 0) 1 false }, { o := .ln (.l 0) }, { o := .bin .neq (.l 3) (.l 0) }] [] 0 (.seq (.reg [{ o := .bd [.t (.int .i64 (0)), .nil] [] }, { o := .st (.v 4) (.l 0) 2 [] }, { o := .mv (.i 6), d := some 5 }] []) .ret) .skip) (.seq (.reg [{ o := .fa (.v 2) 0 }, { o := .ld (.l 0) 1 false }, { o := .fa (.v 3) 0 }, { o := .ld (.l 0) 1 false }, { o := .mx [.l 2, .l 0] }, { o := .bd [.t (.int .i64 (0)), .nil] [(0, 1, .l 0)] }, { o := .al [.t (.int .i64 (0)), .nil] [(1, 1)], d := some 6 }, { o := .st (.l 0) (.l 1) 2 [(1, 1)] }] []) (.seq (.seq (.reg [{ o := .fa (.v 2) 1 }, { o := .ld (.l 0) 1 false, d := some 9 }, { o := .ln (.l 0), d := some 10 }, { o := .mv (.i 0), d := some 11 }] []) (.blk 0 K.places_Join_l1)) (.seq (.reg [{ o := .ld (.v 6) 2 true }, { o := .st (.v 4) (.l 0) 2 [] }, { o := .mv (.i 0), d := some 5 }] []) .ret))))), res := [(4, some (2, true)), (5, none)] }
def places_Valid : Fn := { nargs := 2, vars := [0, 1, 2, 3, 4], body := (.seq (.reg [{ o := .bx (.v 0) 2, d := some 2 }, { o := .bx (.v 1) 2, d := some 3 }, { o := .mv (.b false), d := some 4 }] []) (.seq (.reg [{ o := .ld (.v 2) 2 true }, { o := .ca N.plan_Valid 0 [] [.l 0] }, { o := .mv (.l 0) }, { o := .ld (.v 2) 2 true, g := some (0, true) }, { o := .ld (.v 3) 2 true, g := some (1, true) }, { o := .ca N.places_shaped 0 [] [.l 1, .l 0], g := some (2, true) }, { o := .pk (.l 3) (.l 0) (.b false) }, { o := .mv (.l 0) }, { o := .ld (.v 2) 2 true, g := some (0, true) }, { o := .fa (.v 3) 1, g := some (1, true) }, { o := .ld (.l 0) 1 false, g := some (2, true) }, { o := .fa (.v 3) 0, g := some (3, true) }, { o := .ld (.l 0) 1 false, g := some (4, true) }, { o := .ca N.places_lowered 0 [] [.l 4, .l 2, .l 0, .c (.fn N.places_all [])], g := some (5, true) }, { o := .fa (.v 3) 1, g := some (6, true) }, { o := .ld (.l 0) 1 false, g := some (7, true) }, { o := .ca N.slices_Equal_int_int 0 [] [.l 2, .l 0], g := some (8, true) }, { o := .pk (.l 9) (.l 0) (.b false) }, { o := .mv (.l 0), d := some 4 }] [(15, 6)]) .ret)), res := [(4, none)] }
end Go.Ev.K
namespace Go.Ev
class Has8 [Lib] : Prop where
  t_places_Join : Lib.fs N.places_Join = some K.places_Join
  t_places_Valid : Lib.fs N.places_Valid = some K.places_Valid
namespace K
variable [Lib] [Has8]
theorem t_places_Join : Lib.fs N.places_Join = some K.places_Join := Has8.t_places_Join
theorem t_places_Valid : Lib.fs N.places_Valid = some K.places_Valid := Has8.t_places_Valid
end K
end Go.Ev

namespace Go.Ev.K
open Go.Ev
def places_Renew : Fn := { nargs := 3, vars := [0, 1, 2, 3, 4, 6, 7], body := (.seq (.reg [{ o := .bx (.v 0) 2, d := some 3 }, { o := .bx (.v 1) 2, d := some 4 }, { o := .al [.t (.int .i64 (0)), .nil] [], d := some 5 }, { o := .mv (.i 0), d := some 6 }] []) (.seq (.ite [{ o := .ld (.v 3) 2 true }, { o := .ca N.plan_Valid 0 [] [.l 0] }, { o := .un .not (.l 0) }, { o := .mv (.l 0) }, { o := .ld (.v 3) 2 true, g := some (0, false) }, { o := .ld (.v 4) 2 true, g := some (1, false) }, { o := .ca N.places_shaped 0 [] [.l 1, .l 0], g := some (2, false) }, { o := .un .not (.l 0), g := some (3, false) }, { o := .pk (.l 4) (.b true) (.l 0) }] [] 0 (.seq (.reg [{ o := .ld (.v 4) 2 true }, { o := .st (.v 5) (.l 0) 2 [] }, { o := .mv (.i 6), d := some 6 }] []) .ret) .skip) (.seq (.ite [{ o := .mv (.v 2) }, { o := .fa (.v 4) 0 }, { o := .ld (.l 0) 1 false }, { o := .bin .lss (.l 2) (.l 0) }, { o := .mv (.l 0) }, { o := .mv (.v 2), g := some (0, false) }, { o := .bin .gtr (.l 0) (.i 2147483648), g := some (1, false) }, { o := .pk (.l 2) (.b true) (.l 0) }] [] 0 (.seq (.reg [{ o := .ld (.v 4) 2 true }, { o := .st (.v 5) (.l 0) 2 [] }, { o := .mv (.i 8), d := some 6 }] []) .ret) .skip) (.seq (.reg [{ o := .mv (.v 2) }, { o := .ld (.v 3) 2 true }, { o := .fa (.v 4) 1 }, { o := .ld (.l 0) 1 false }, { o := .mv (.v 2) }, { o := .ca N.places_lowered 0 [] [.l 3, .l 1, .l 0, .c (.fn N.places_all [])] }, { o := .bd [.t (.int .i64 (0)), .nil] [(0, 1, .l 5), (1, 1, .l 0)] }, { o := .st (.v 5) (.l 0) 2 [] }, { o := .mv (.i 0), d := some 6 }] []) .ret)))), res := [(5, some (2, true)), (6, none)] }
def places_lowered_l1b : C := (.seq (.ite [{ o := .ld (.v 9) 1 false }] [] 0 .skip (.exit 0)) (.seq (.blk 1 (.seq (.reg [{ o := .st (.v 9) (.b false) 1 [] }] []) (.reg [{ o := .ld (.v 4) 2 true }, { o := .ld (.v 8) 1 false }, { o := .mf N.places_lowered_1 [.v 5, .v 8, .v 6, .v 9] }, { o := .ca N.places_arrivals 0 [1] [.l 2, .l 1, .l 0] }] []))) (.seq (.reg [{ o := .ld (.v 9) 1 false, d := some 10 }] []) (.reg [{ o := .al [.t (.bool false)] [], d := some 9 }, { o := .st (.l 0) (.v 10) 1 [] }] []))))
def places_lowered_l1 : C := .loop false [0, 1, 2, 3, 7, 10] K.places_lowered_l1b
def places_lowered : Fn := { nargs := 4, vars := [0, 1, 2, 3, 4, 6, 7, 8, 9, 10, 18], body := (.seq (.reg [{ o := .bx (.v 0) 2, d := some 4 }, { o := .bx (.v 2) 1, d := some 5 }, { o := .bx (.v 3) 1, d := some 6 }, { o := .mv (.c (.nil)), d := some 7 }] []) (.seq (.reg [{ o := .mv (.v 1) }, { o := .ca N.slices_Clone_int_int 1 [] [.l 0] }, { o := .al [.nil] [], d := some 8 }, { o := .st (.l 0) (.l 1) 1 [] }] []) (.seq (.seq (.reg [{ o := .al [.t (.bool false)] [], d := some 9 }, { o := .st (.l 0) (.b true) 1 [] }] []) (.blk 0 K.places_lowered_l1)) (.seq (.reg [{ o := .ld (.v 8) 1 false }, { o := .mv (.l 0), d := some 7 }] []) .ret)))), res := [(7, none)] }
def places_all : Fn := { nargs := 1, vars := [2], body := (.seq (.reg [{ o := .mv (.b false), d := some 0 }] []) (.seq (.reg [{ o := .mv (.b true), d := some 0 }] []) .ret)), res := [(0, none)] }
def places_shaped : Fn := { nargs := 2, vars := [0, 1, 2, 3, 4], body := (.seq (.reg [{ o := .bx (.v 0) 2, d := some 2 }, { o := .bx (.v 1) 2, d := some 3 }, { o := .mv (.b false), d := some 4 }] []) (.seq (.reg [{ o := .fa (.v 3) 1 }, { o := .ld (.l 0) 1 false }, { o := .ln (.l 0) }, { o := .fa (.v 2) 0 }, { o := .ld (.l 0) 1 false }, { o := .ln (.l 0) }, { o := .bin .eql (.l 3) (.l 0) }, { o := .mv (.l 0) }, { o := .fa (.v 3) 0, g := some (0, true) }, { o := .ld (.l 0) 1 false, g := some (1, true) }, { o := .ca N.lists_In 0 [] [.l 0, .i 0, .i 2147483648], g := some (2, true) }, { o := .pk (.l 3) (.l 0) (.b false) }, { o := .mv (.l 0) }, { o := .fa (.v 3) 1, g := some (0, true) }, { o := .ld (.l 0) 1 false, g := some (1, true) }, { o := .ca N.slices_ContainsFunc_int_int 0 [] [.l 0, .c (.fn N.places_shaped_1 [])], g := some (2, true) }, { o := .un .not (.l 0), g := some (3, true) }, { o := .pk (.l 4) (.l 0) (.b false) }, { o := .mv (.l 0), d := some 4 }] []) .ret)), res := [(4, none)] }
def slices_Equal_int_int_l1b : C := (.its  [{ o := .bin .lss (.v 5) (.v 4) }] [] 0 .skip (.exit 0) (.seq (.blk 1 (.seq (.reg [{ o := .mv (.v 5) }, { o := .mv (.l 0), d := some 3 }] []) (.ite [{ o := .mv (.v 0) }, { o := .mv (.v 3) }, { o := .ia (.l 1) (.l 0) 1 }, { o := .ld (.l 0) 1 false }, { o := .mv (.v 1) }, { o := .mv (.v 3) }, { o := .ia (.l 1) (.l 0) 1 }, { o := .ld (.l 0) 1 false }, { o := .bin .neq (.l 4) (.l 0) }] [] 0 (.seq (.reg [{ o := .mv (.b false), d := some 2 }] []) .ret) .skip))) (.reg [{ o := .bin .add (.v 5) (.i 1) }, { o := .mv (.l 0), d := some 5 }] [])))
def slices_Equal_int_int_l1 : C := .loop true [2, 3] K.slices_Equal_int_int_l1b
def slices_Equal_int_int : Fn := { nargs := 2, vars := [0, 1, 4, 5, 12, 13], body := (.seq (.reg [{ o := .mv (.b false), d := some 2 }] []) (.seq (.ite [{ o := .mv (.v 0) }, { o := .ln (.l 0) }, { o := .mv (.v 1) }, { o := .ln (.l 0) }, { o := .bin .neq (.l 2) (.l 0) }] [] 0 (.seq (.reg [{ o := .mv (.b false), d := some 2 }] []) .ret) .skip) (.seq (.seq (.reg [{ o := .mv (.v 0) }, { o := .ln (.l 0), d := some 4 }, { o := .mv (.i 0), d := some 5 }] []) (.blk 0 K.slices_Equal_int_int_l1)) (.seq (.reg [{ o := .mv (.b true), d := some 2 }] []) .ret)))), res := [(2, none)] }
def slices_Clone_int_int : Fn := { nargs := 1, vars := [0, 2], body := (.seq (.reg [{ o := .mv (.c (.nil)), d := some 1 }] []) (.itk  [{ o := .mv (.v 0) }, { o := .eqk (.sl) false (.l 0) (.c (.nil)) }] [] 0 (.seq (.reg [{ o := .nw 1, d := some 1 }] []) .ret) .skip (.seq (.reg [{ o := .bsr [] 1 }, { o := .mv (.v 0) }, { o := .app (.l 1) (.l 0) false 1 }, { o := .mv (.l 0), d := some 1 }] []) .ret))), res := [(1, none)] }
def places_arrivals_l2b : C := (.its  [{ o := .bin .lss (.v 14) (.i 2) }] [] 0 .skip (.exit 2) (.seq (.blk 3 (.seq (.reg [{ o := .ix (.v 13) (.v 14) 2 1 false }, { o := .mv (.l 0), d := some 6 }] []) (.seq (.reg [{ o := .fa (.v 5) 0 }, { o := .ld (.l 0) 1 false }, { o := .fa (.v 5) 1 }, { o := .ld (.l 0) 1 false }, { o := .mv (.l 2), d := some 7 }, { o := .mv (.l 1), d := some 8 }] []) (.seq (.ite [{ o := .mv (.v 6) }] [] 0 (.reg [{ o := .mv (.v 8) }, { o := .mv (.v 7) }, { o := .mv (.l 1), d := some 7 }, { o := .mv (.l 1), d := some 8 }] []) .skip) (.seq (.reg [{ o := .ld (.v 3) 2 true }, { o := .mv (.v 4) }, { o := .mv (.v 6) }, { o := .ca N.walk_Time 0 [] [.l 2, .l 1, .l 0] }, { o := .mv (.l 0), d := some 9 }] []) (.ite [{ o := .mv (.v 9) }, { o := .bin .geq (.l 0) (.i 0) }, { o := .mv (.l 0) }, { o := .mv (.v 1), g := some (0, true) }, { o := .mv (.v 7), g := some (1, true) }, { o := .ia (.l 1) (.l 0) 1, g := some (2, true) }, { o := .ld (.l 0) 1 false, g := some (3, true) }, { o := .bin .lss (.l 0) (.i 1099511627776), g := some (4, true) }, { o := .pk (.l 5) (.l 0) (.b false) }] [] 0 (.reg [{ o := .mv (.v 2) }, { o := .mv (.v 7) }, { o := .mv (.v 8) }, { o := .mv (.v 1) }, { o := .mv (.v 7) }, { o := .ia (.l 1) (.l 0) 1 }, { o := .ld (.l 0) 1 false }, { o := .mv (.v 9) }, { o := .bin .add (.l 1) (.l 0) }, { o := .cw (.l 8) 0 [] [.l 7, .l 6, .l 0] }] []) .skip)))))) (.reg [{ o := .bin .add (.v 14) (.i 1) }, { o := .mv (.l 0), d := some 14 }] [])))
def places_arrivals_l2 : C := .loop true [0, 6, 7, 8, 9] K.places_arrivals_l2b
def places_arrivals_l1b : C := (.its  [{ o := .bin .lss (.v 12) (.v 11) }] [] 0 .skip (.exit 0) (.seq (.blk 1 (.seq (.reg [{ o := .mv (.v 12) }, { o := .ia (.v 10) (.v 12) 10 }, { o := .ld (.l 0) 10 true }, { o := .al [.t (.int .i64 (0)), .t (.int .i64 (0)), .t (.int .i64 (0)), .t (.int .i64 (0)), .t (.bool false), .t (.bool false), .t (.int .i64 (0)), .t (.int .i64 (0)), .t (.int .i64 (0)), .t (.int .i64 (0))] [], d := some 5 }, { o := .mv (.l 3), d := some 4 }, { o := .st (.l 1) (.l 2) 10 [] }] []) (.seq (.reg [{ o := .bd [.t (.bool false), .t (.bool false)] [(0, 1, .b false), (1, 1, .b true)], d := some 13 }, { o := .mv (.i 0), d := some 14 }] []) (.blk 2 K.places_arrivals_l2)))) (.reg [{ o := .bin .add (.v 12) (.i 1) }, { o := .mv (.l 0), d := some 12 }] [])))
def places_arrivals_l1 : C := .loop true [0, 4, 5, 6, 7, 8, 9, 13, 14] K.places_arrivals_l1b
def places_arrivals : Fn := { nargs := 3, vars := [0, 1, 2, 3, 6, 7, 9, 10, 11, 12, 14, 15, 16, 21, 22], body := (.seq (.reg [{ o := .bx (.v 0) 2, d := some 3 }] []) (.seq (.reg [{ o := .fa (.v 3) 1 }, { o := .ld (.l 0) 1 false, d := some 10 }, { o := .ln (.l 0), d := some 11 }, { o := .mv (.i 0), d := some 12 }] []) (.blk 0 K.places_arrivals_l1))), res := [] }
def places_lowered_1 : Fn := { nargs := 7, vars := [1, 2, 3, 4, 5, 6], body := (.seq (.reg [{ o := .mv (.v 1) }, { o := .ld (.v 2) 1 false }, { o := .mx [.l 1, .l 0] }, { o := .mv (.l 0), d := some 1 }] []) (.ite [{ o := .mv (.v 1) }, { o := .bin .leq (.l 0) (.i 2147483648) }, { o := .mv (.l 0) }, { o := .mv (.v 1), g := some (0, true) }, { o := .ld (.v 3) 1 false, g := some (1, true) }, { o := .mv (.v 0), g := some (2, true) }, { o := .ia (.l 1) (.l 0) 1, g := some (3, true) }, { o := .ld (.l 0) 1 false, g := some (4, true) }, { o := .bin .lss (.l 4) (.l 0), g := some (5, true) }, { o := .pk (.l 6) (.l 0) (.b false) }, { o := .mv (.l 0) }, { o := .ld (.v 4) 1 false, g := some (0, true) }, { o := .mv (.v 0), g := some (1, true) }, { o := .cw (.l 1) 0 [] [.l 0], g := some (2, true) }, { o := .pk (.l 3) (.l 0) (.b false) }] [] 0 (.reg [{ o := .ld (.v 3) 1 false }, { o := .mv (.v 0) }, { o := .mv (.v 1) }, { o := .ia (.l 2) (.l 1) 1 }, { o := .st (.l 0) (.l 1) 1 [] }, { o := .st (.v 5) (.b true) 1 [] }] []) .skip)), res := [] }
def places_shaped_1 : Fn := { nargs := 1, vars := [0, 2], body := (.seq (.reg [{ o := .mv (.b false), d := some 1 }] []) (.seq (.reg [{ o := .mv (.v 0) }, { o := .bin .neq (.l 0) (.i 1099511627776) }, { o := .mv (.l 0) }, { o := .mv (.v 0), g := some (0, true) }, { o := .ca N.lists_In 0 [] [.l 0, .i 0, .i 2147483648], g := some (1, true) }, { o := .un .not (.l 0), g := some (2, true) }, { o := .pk (.l 3) (.l 0) (.b false) }, { o := .mv (.l 0), d := some 1 }] []) .ret)), res := [(1, none)] }
def walk_Time : Fn := { nargs := 3, vars := [0, 1, 2, 3, 6], body := (.seq (.reg [{ o := .bx (.v 0) 2, d := some 3 }, { o := .mv (.i 0), d := some 4 }] []) (.seq (.ite [{ o := .ld (.v 3) 2 true }, { o := .ca N.plan_Valid 0 [] [.l 0] }, { o := .un .not (.l 0) }, { o := .mv (.l 0) }, { o := .mv (.v 1), g := some (0, false) }, { o := .bin .lss (.l 0) (.i 0), g := some (1, false) }, { o := .pk (.l 2) (.b true) (.l 0) }, { o := .mv (.l 0) }, { o := .mv (.v 1), g := some (0, false) }, { o := .fa (.v 3) 1, g := some (1, false) }, { o := .ld (.l 0) 1 false, g := some (2, false) }, { o := .ln (.l 0), g := some (3, false) }, { o := .bin .geq (.l 3) (.l 0), g := some (4, false) }, { o := .pk (.l 5) (.b true) (.l 0) }] [] 0 (.seq (.reg [{ o := .mv (.i (-1)), d := some 4 }] []) .ret) .skip) (.seq (.reg [{ o := .ld (.v 3) 2 true }, { o := .mv (.v 1) }, { o := .mv (.v 2) }, { o := .ca N.walk_step 0 [] [.l 2, .l 1, .l 0] }, { o := .mv (.l 0), d := some 4 }] []) .ret))), res := [(4, none)] }
def walk_step : Fn := { nargs := 3, vars := [0, 1, 2, 3, 6], body := (.seq (.reg [{ o := .bx (.v 0) 2, d := some 3 }, { o := .mv (.i 0), d := some 4 }] []) (.seq (.reg [{ o := .ld (.v 3) 2 true }, { o := .mv (.v 1) }, { o := .mv (.v 2) }, { o := .ca N.walk_quick 0 [] [] }, { o := .ca N.walk_with 0 [] [.l 3, .l 2, .l 1, .l 0] }, { o := .mv (.l 0), d := some 4 }] [(0, 4)]) .ret)), res := [(4, none)] }
def walk_with : Fn := { nargs := 4, vars := [0, 1, 2, 3, 4, 7, 8, 9, 10, 11], body := (.seq (.reg [{ o := .bx (.v 0) 2, d := some 4 }, { o := .bx (.v 3) 3, d := some 5 }, { o := .mv (.i 0), d := some 6 }] []) (.seq (.reg [{ o := .fa (.v 4) 1 }, { o := .ld (.l 0) 1 false }, { o := .mv (.v 1) }, { o := .ia (.l 1) (.l 0) 10 }, { o := .ld (.l 0) 10 true }, { o := .al [.t (.int .i64 (0)), .t (.int .i64 (0)), .t (.int .i64 (0)), .t (.int .i64 (0)), .t (.bool false), .t (.bool false), .t (.int .i64 (0)), .t (.int .i64 (0)), .t (.int .i64 (0)), .t (.int .i64 (0))] [], d := some 7 }, { o := .st (.l 0) (.l 1) 10 [] }] []) (.seq (.ite [{ o := .fa (.v 7) 5 }, { o := .ld (.l 0) 1 false }, { o := .mv (.l 0) }, { o := .fa (.v 7) 4, g := some (0, false) }, { o := .ld (.l 0) 1 false, g := some (1, false) }, { o := .un .not (.l 0), g := some (2, false) }, { o := .pk (.l 3) (.b true) (.l 0) }] [] 0 (.seq (.reg [{ o := .mv (.i (-1)), d := some 6 }] []) .ret) .skip) (.seq (.reg [{ o := .fa (.v 4) 0 }, { o := .ld (.l 0) 1 false }, { o := .fa (.v 7) 1 }, { o := .ld (.l 0) 1 false }, { o := .ia (.l 2) (.l 0) 2 }, { o := .fa (.l 0) 0 }, { o := .ld (.l 0) 1 false }, { o := .fa (.v 4) 0 }, { o := .ld (.l 0) 1 false }, { o := .fa (.v 7) 0 }, { o := .ld (.l 0) 1 false }, { o := .ia (.l 2) (.l 0) 2 }, { o := .fa (.l 0) 0 }, { o := .ld (.l 0) 1 false }, { o := .bin .sub (.l 7) (.l 0) }, { o := .mv (.l 0), d := some 8 }] []) (.seq (.ite [{ o := .mv (.v 2) }] [] 0 (.reg [{ o := .mv (.v 8) }, { o := .un .neg (.l 0) }, { o := .mv (.l 0), d := some 8 }] []) .skip) (.seq (.reg [{ o := .fa (.v 5) 2 }, { o := .ld (.l 0) 1 false }, { o := .mv (.l 0), d := some 9 }] []) (.seq (.blk 0 (.ite [{ o := .mv (.v 8) }, { o := .bin .mul (.i 10) (.l 0) }, { o := .fa (.v 7) 2 }, { o := .ld (.l 0) 1 false }, { o := .bin .gtr (.l 2) (.l 0) }, { o := .mv (.l 0) }] [] 0 (.reg [{ o := .fa (.v 5) 0 }, { o := .ld (.l 0) 1 false }, { o := .mv (.l 0), d := some 9 }] []) (.ite [{ o := .mv (.v 8) }, { o := .bin .mul (.i (-10)) (.l 0) }, { o := .fa (.v 7) 2 }, { o := .ld (.l 0) 1 false }, { o := .bin .gtr (.l 2) (.l 0) }, { o := .mv (.l 0) }] [] 0 (.reg [{ o := .fa (.v 5) 1 }, { o := .ld (.l 0) 1 false }, { o := .mv (.l 0), d := some 9 }] []) .skip))) (.seq (.reg [{ o := .fa (.v 7) 2 }, { o := .ld (.l 0) 1 false }, { o := .bin .mul (.i 10) (.l 0) }, { o := .mv (.v 9) }, { o := .bin .add (.l 1) (.l 0) }, { o := .bin .sub (.l 0) (.i 1) }, { o := .mv (.v 9) }, { o := .bin .quo (.l 1) (.l 0) }, { o := .mv (.l 0), d := some 6 }] []) .ret)))))))), res := [(6, none)] }
def walk_quick : Fn := { nargs := 0, vars := [0], body := (.seq (.reg [{ o := .al [.t (.int .i64 (0)), .t (.int .i64 (0)), .t (.int .i64 (0))] [], d := some 0 }] []) (.seq (.reg [{ o := .bd [.t (.int .i64 (0)), .t (.int .i64 (0)), .t (.int .i64 (0))] [(0, 1, .i 6), (1, 1, .i 9), (2, 1, .i 12)] }, { o := .st (.v 0) (.l 0) 3 [] }] []) .ret)), res := [(0, some (3, true))] }
end Go.Ev.K
namespace Go.Ev
class Has9 [Lib] : Prop where
  t_places_Renew : Lib.fs N.places_Renew = some K.places_Renew
  t_places_lowered : Lib.fs N.places_lowered = some K.places_lowered
  t_places_all : Lib.fs N.places_all = some K.places_all
  t_places_shaped : Lib.fs N.places_shaped = some K.places_shaped
  t_slices_Equal_int_int : Lib.fs N.slices_Equal_int_int = some K.slices_Equal_int_int
  t_slices_Clone_int_int : Lib.fs N.slices_Clone_int_int = some K.slices_Clone_int_int
  t_places_arrivals : Lib.fs N.places_arrivals = some K.places_arrivals
  t_places_lowered_1 : Lib.fs N.places_lowered_1 = some K.places_lowered_1
  t_places_shaped_1 : Lib.fs N.places_shaped_1 = some K.places_shaped_1
  t_walk_Time : Lib.fs N.walk_Time = some K.walk_Time
  t_walk_step : Lib.fs N.walk_step = some K.walk_step
  t_walk_with : Lib.fs N.walk_with = some K.walk_with
  t_walk_quick : Lib.fs N.walk_quick = some K.walk_quick
namespace K
variable [Lib] [Has9]
theorem t_places_Renew : Lib.fs N.places_Renew = some K.places_Renew := Has9.t_places_Renew
theorem t_places_lowered : Lib.fs N.places_lowered = some K.places_lowered := Has9.t_places_lowered
theorem t_places_all : Lib.fs N.places_all = some K.places_all := Has9.t_places_all
theorem t_places_shaped : Lib.fs N.places_shaped = some K.places_shaped := Has9.t_places_shaped
theorem t_slices_Equal_int_int : Lib.fs N.slices_Equal_int_int = some K.slices_Equal_int_int := Has9.t_slices_Equal_int_int
theorem t_slices_Clone_int_int : Lib.fs N.slices_Clone_int_int = some K.slices_Clone_int_int := Has9.t_slices_Clone_int_int
theorem t_places_arrivals : Lib.fs N.places_arrivals = some K.places_arrivals := Has9.t_places_arrivals
theorem t_places_lowered_1 : Lib.fs N.places_lowered_1 = some K.places_lowered_1 := Has9.t_places_lowered_1
theorem t_places_shaped_1 : Lib.fs N.places_shaped_1 = some K.places_shaped_1 := Has9.t_places_shaped_1
theorem t_walk_Time : Lib.fs N.walk_Time = some K.walk_Time := Has9.t_walk_Time
theorem t_walk_step : Lib.fs N.walk_step = some K.walk_step := Has9.t_walk_step
theorem t_walk_with : Lib.fs N.walk_with = some K.walk_with := Has9.t_walk_with
theorem t_walk_quick : Lib.fs N.walk_quick = some K.walk_quick := Has9.t_walk_quick
end K
end Go.Ev

namespace Go.Ev
open Go
variable [Lib] [Has1] [Has2] [Has6] [Has7] [Has8] [Has9]
end Go.Ev

namespace Go.Ev
open Go
variable [Lib] [Has1] [Has2] [Has6] [Has7] [Has8] [Has9]
@[go_sem] theorem ixAt_1 (H : Heap) (len j : Nat) (ts : List T) (h : j < len) : ixAt H len 1 false (.t (.agg ts)) j = (ts[j]?).map fun t => (.t t, H) := by
  have h0 : len ≠ 0 := by omega
  unfold ixAt indexD
  rw [if_neg h0, if_pos h]
  unfold fieldD cut
  simp only [D.isAgg, D.cells, T.cells, if_true, Nat.mul_one, List.length_map]
  by_cases hj : j < ts.length
  · rw [if_pos (by omega), List.getElem?_eq_getElem hj]
    have e : ((ts.map D.t).drop j).take 1 = [D.t ts[j]] := by
      rw [List.drop_eq_getElem_cons (by simpa using hj)]; simp
    rw [e]; rfl
  · rw [if_neg (by omega), List.getElem?_eq_none (by omega)]; rfl
end Go.Ev

namespace Go.Ev
open Go
variable [Lib] [Has1] [Has2] [Has6] [Has7] [Has8] [Has9]
end Go.Ev

namespace Go.Ev
open Go
variable [Lib] [Has1] [Has2] [Has6] [Has7] [Has8] [Has9]
end Go.Ev

namespace Go.Ev
open Go
variable [Lib] [Has1] [Has2] [Has6] [Has7] [Has8] [Has9]
section
variable (a0 a1 a2 a3 a4 a5 x y : Obj) (ds : Heap)
end
@[go_sem] theorem eqB_self (n : Nat) : eqB n n = true := by
  induction n with
  | zero => rfl
  | succ n ih => exact ih
end Go.Ev

namespace Go.Ev
open Go
variable [Lib] [Has1] [Has2]
end Go.Ev

namespace Go.Ev
open Go
variable [Lib] [Has1] [Has2]
structure World where
  tags : List Int
  whr : List Wh
instance : Dat World := ⟨⟨[], []⟩⟩
abbrev World.e (x : World) : T := .agg [tL x.tags, .sl (x.whr.map Wh.e)]
structure Bel where
  worlds : List World
instance : Dat Bel := ⟨⟨[]⟩⟩
abbrev Bel.e (b : Bel) : T := .agg [.sl (b.worlds.map World.e)]
def World.sz (x : World) : Prop := x.tags.length ≤ 1000000 ∧ x.whr.length ≤ 1000000 ∧ ∀ w ∈ x.whr, w.frm.length ≤ 1000000
def Bel.sz (b : Bel) : Prop := b.worlds.length ≤ 1000000 ∧ ∀ x ∈ b.worlds, x.sz
@[go_sem] theorem cellsAre_wh (l : List Wh) : cellsAre 2 (l.map Wh.e) = true := cellsAre_map 2 _ (fun _ => rfl) l
@[go_sem] theorem cellsAre_world (l : List World) : cellsAre 2 (l.map World.e) = true := cellsAre_map 2 _ (fun _ => rfl) l
@[go_sem] theorem appOK_wh (l : List Wh) : appOK 2 (l.map Wh.e) = true := by cases l <;> rfl
@[go_sem] theorem appOK_world (l : List World) : appOK 2 (l.map World.e) = true := by cases l <;> rfl
end Go.Ev

namespace Go.Ev.K
open Go.Ev
end Go.Ev.K
namespace Go.Ev
class Has3 [Lib] : Prop where
namespace K
variable [Lib] [Has3]
end K
end Go.Ev

namespace Go.Ev.K
open Go.Ev
def lists_Rising_l1b : C := (.its  [{ o := .bin .lss (.v 8) (.v 7) }] [] 0 .skip (.exit 0) (.seq (.blk 1 (.seq (.reg [{ o := .mv (.v 8) }, { o := .ia (.v 6) (.v 8) 1 }, { o := .ld (.l 0) 1 false }, { o := .mv (.l 2), d := some 4 }, { o := .mv (.l 1), d := some 5 }] []) (.ite [{ o := .mv (.v 5) }, { o := .mv (.v 1) }, { o := .bin .lss (.l 1) (.l 0) }, { o := .mv (.l 0) }, { o := .mv (.v 5), g := some (0, false) }, { o := .mv (.v 2), g := some (1, false) }, { o := .bin .gtr (.l 1) (.l 0), g := some (2, false) }, { o := .pk (.l 3) (.b true) (.l 0) }, { o := .mv (.l 0) }, { o := .mv (.v 4), g := some (0, false) }, { o := .bin .gtr (.l 0) (.i 0), g := some (1, false) }, { o := .mv (.l 0), g := some (2, false) }, { o := .mv (.v 5), g := some (0, true) }, { o := .mv (.v 0), g := some (1, true) }, { o := .mv (.v 4), g := some (2, true) }, { o := .bin .sub (.l 0) (.i 1), g := some (3, true) }, { o := .ia (.l 2) (.l 0) 1, g := some (4, true) }, { o := .ld (.l 0) 1 false, g := some (5, true) }, { o := .bin .leq (.l 5) (.l 0), g := some (6, true) }, { o := .pk (.l 7) (.l 0) (.b false), g := some (10, false) }, { o := .pk (.l 11) (.b true) (.l 0) }] [] 0 (.seq (.reg [{ o := .mv (.b false), d := some 3 }] []) .ret) .skip))) (.reg [{ o := .bin .add (.v 8) (.i 1) }, { o := .mv (.l 0), d := some 8 }] [])))
def lists_Rising_l1 : C := .loop true [3, 4, 5] K.lists_Rising_l1b
def lists_Rising : Fn := { nargs := 3, vars := [0, 1, 2, 6, 7, 8, 9, 10, 11], body := (.seq (.reg [{ o := .mv (.b false), d := some 3 }] []) (.seq (.seq (.reg [{ o := .mv (.v 0), d := some 6 }, { o := .ln (.l 0), d := some 7 }, { o := .mv (.i 0), d := some 8 }] []) (.blk 0 K.lists_Rising_l1)) (.seq (.reg [{ o := .mv (.b true), d := some 3 }] []) .ret))), res := [(3, none)] }
def area_Clear_l2b : C := (.its  [{ o := .bin .lss (.v 11) (.v 10) }] [] 0 .skip (.exit 2) (.seq (.blk 3 (.seq (.reg [{ o := .ia (.v 9) (.v 11) 2 }, { o := .ld (.l 0) 2 true }, { o := .al [.t (.int .i64 (0)), .nil] [], d := some 5 }, { o := .st (.l 0) (.l 1) 2 [] }] []) (.ite [{ o := .mv (.v 1) }, { o := .mf N.area_Clear_1 [.v 5] }, { o := .ca N.slices_ContainsFunc_int_int 0 [] [.l 1, .l 0] }] [] 0 (.seq (.reg [{ o := .mv (.b false), d := some 3 }] []) .ret) .skip))) (.reg [{ o := .bin .add (.v 11) (.i 1) }, { o := .mv (.l 0), d := some 11 }] [])))
def area_Clear_l2 : C := .loop true [0, 2, 3, 4, 5] K.area_Clear_l2b
def area_Clear_l1b : C := (.its  [{ o := .bin .lss (.v 8) (.v 7) }] [] 0 .skip (.exit 0) (.seq (.blk 1 (.seq (.reg [{ o := .ia (.v 6) (.v 8) 2 }, { o := .ld (.l 0) 2 true }, { o := .al [.nil, .nil] [], d := some 4 }, { o := .st (.l 0) (.l 1) 2 [] }] []) (.seq (.reg [{ o := .fa (.v 4) 1 }, { o := .ld (.l 0) 1 false, d := some 9 }, { o := .ln (.l 0), d := some 10 }, { o := .mv (.i 0), d := some 11 }] []) (.blk 2 K.area_Clear_l2)))) (.reg [{ o := .bin .add (.v 8) (.i 1) }, { o := .mv (.l 0), d := some 8 }] [])))
def area_Clear_l1 : C := .loop true [0, 2, 3, 4, 5, 9, 10, 11] K.area_Clear_l1b
def area_Clear : Fn := { nargs := 2, vars := [0, 1, 2, 4, 6, 8, 10, 11, 12, 17, 18, 19], body := (.seq (.reg [{ o := .bx (.v 0) 1, d := some 2 }, { o := .mv (.b false), d := some 3 }] []) (.seq (.seq (.reg [{ o := .fa (.v 2) 0 }, { o := .ld (.l 0) 1 false, d := some 6 }, { o := .ln (.l 0), d := some 7 }, { o := .mv (.i 0), d := some 8 }] []) (.blk 0 K.area_Clear_l1)) (.seq (.reg [{ o := .mv (.b true), d := some 3 }] []) .ret))), res := [(3, none)] }
def area_Clear_1 : Fn := { nargs := 2, vars := [0, 1, 3], body := (.seq (.reg [{ o := .mv (.b false), d := some 2 }] []) (.seq (.reg [{ o := .mv (.v 0) }, { o := .fa (.v 1) 1 }, { o := .ld (.l 0) 1 false }, { o := .ln (.l 0) }, { o := .bin .sub (.l 0) (.i 1) }, { o := .ca N.lists_In 0 [] [.l 4, .i 0, .l 0] }, { o := .mv (.l 0) }, { o := .fa (.v 1) 1, g := some (0, true) }, { o := .ld (.l 0) 1 false, g := some (1, true) }, { o := .mv (.v 0), g := some (2, true) }, { o := .ia (.l 1) (.l 0) 1, g := some (3, true) }, { o := .ld (.l 0) 1 false, g := some (4, true) }, { o := .bin .neq (.l 0) (.i 1099511627776), g := some (5, true) }, { o := .pk (.l 6) (.l 0) (.b false) }, { o := .mv (.l 0), d := some 2 }] []) .ret)), res := [(2, none)] }
end Go.Ev.K
namespace Go.Ev
class Has4 [Lib] : Prop where
  t_lists_Rising : Lib.fs N.lists_Rising = some K.lists_Rising
  t_area_Clear : Lib.fs N.area_Clear = some K.area_Clear
  t_area_Clear_1 : Lib.fs N.area_Clear_1 = some K.area_Clear_1
namespace K
variable [Lib] [Has4]
theorem t_lists_Rising : Lib.fs N.lists_Rising = some K.lists_Rising := Has4.t_lists_Rising
theorem t_area_Clear : Lib.fs N.area_Clear = some K.area_Clear := Has4.t_area_Clear
theorem t_area_Clear_1 : Lib.fs N.area_Clear_1 = some K.area_Clear_1 := Has4.t_area_Clear_1
end K
end Go.Ev

namespace Go.Ev
open Go
variable [Lib] [Has1] [Has2] [Has3] [Has4]
structure Shot where
  st : Int
  fi : Int
  se : Int
  ti : Int
abbrev Shot.e (s : Shot) : T := .agg [tI s.st, tI s.fi, tI s.se, tI s.ti]
structure Blast where
  area : List Int
  hold : Int
  mis : Int
abbrev Blast.e (x : Blast) : T := .agg [tL x.area, tI x.hold, tI x.mis]
structure Keys where
  roads : List Int
  keys : List Int
  out : Bool
abbrev Keys.e (k : Keys) : T := .agg [tL k.roads, tL k.keys, .bool k.out]
end Go.Ev

namespace Go.Ev
open Go
variable [Lib] [Has1] [Has2] [Has3] [Has4] [Has6] [Has7] [Has8] [Has9]
end Go.Ev

namespace Go.Ev.N
def law33_KeysMade : Nat := 215
def law33_KeysSafe : Nat := 216
def law33_KeysBack : Nat := 217
def law33_awake : Nat := 218
def ref33_Start : Nat := 219
def law33_agree : Nat := 220
def law33_step : Nat := 221
def ref33_Copy : Nat := 222
def keys_Start : Nat := 223
def keys_Lock : Nat := 224
def keys_Insert : Nat := 225
def keys_Remove : Nat := 226
def keys_Unlock : Nat := 227
def keys_Draw : Nat := 228
def keys_Return : Nat := 229
def keys_Locked : Nat := 230
def ref33_Same : Nat := 231
def ref33_Locked : Nat := 232
def ref33_Lock : Nat := 233
def ref33_Insert : Nat := 234
def ref33_Remove : Nat := 235
def ref33_Unlock : Nat := 236
def ref33_Draw : Nat := 237
def ref33_Return : Nat := 238
def keys_move : Nat := 239
def keys_turn : Nat := 240
def slices_Sort_int_int : Nat := 241
def ref33_move : Nat := 242
def keys_copied : Nat := 243
def keys_copied_v1 : Nat := 244
end Go.Ev.N

namespace Go.Ev.N
def law40_FireRulesRaw : Nat := 245
def law40_FireRulesMade : Nat := 246
def law40_FireRulesMore : Nat := 247
def law40_agree : Nat := 248
def ref40_Command : Nat := 249
def ref40_Drawn : Nat := 250
def firerules_Commands : Nat := 251
def ref40_Commands : Nat := 252
def firerules_Valid : Nat := 253
def ref40_Valid : Nat := 254
def ref40_filled : Nat := 255
def ref40_near : Nat := 256
def swaps_Valid : Nat := 257
def firerules_Valid_1 : Nat := 258
def slices_ContainsFunc_api_Machine_api_Machine : Nat := 259
def slices_Sorted_int : Nat := 260
def slices_Values_int_int : Nat := 261
def swaps_tagged : Nat := 262
def slices_Compare_int_int : Nat := 263
def slices_ContainsFunc_api_Whereabouts_api_Whereabouts : Nat := 264
def swaps_Valid_1 : Nat := 265
def slices_IndexFunc_api_Machine_api_Machine : Nat := 266
def slices_Values_int_int_1 : Nat := 267
def cmp_Compare_int : Nat := 268
def slices_IndexFunc_api_Whereabouts_api_Whereabouts : Nat := 269
def cmp_isNaN_int : Nat := 270
end Go.Ev.N

namespace Go.Ev.N
def law26_SwapsStarts : Nat := 271
def law26_SwapsMany : Nat := 272
def law26_SwapsTrue : Nat := 273
def law26_SwapsAlone : Nat := 274
def law26_SwapsRaw : Nat := 275
def law26_SwapsMade : Nat := 276
def law26_awake : Nat := 277
def swaps_Start : Nat := 278
def law26_same : Nat := 279
def law26_pair : Nat := 280
def swaps_Exchange : Nat := 281
def swaps_See : Nat := 282
def swaps_Absent : Nat := 283
def law26_light : Nat := 284
def law26_agree : Nat := 285
def ref26_Same : Nat := 286
def slices_Clone_api_World_api_World : Nat := 287
def swaps_meet : Nat := 288
def worlds_Copy : Nat := 289
def worlds_Tidy : Nat := 290
def swaps_apply : Nat := 291
def swaps_See_1 : Nat := 292
def swaps_Absent_1 : Nat := 293
def swaps_Renew : Nat := 294
def ref26_Renew : Nat := 295
def swaps_meet_1 : Nat := 296
def slices_SortedStableFunc_api_World : Nat := 297
def slices_Values_api_World_api_World : Nat := 298
def worlds_Tidy_1 : Nat := 299
def slices_Collect_api_World : Nat := 300
def slices_SortStableFunc_api_World_api_World : Nat := 301
def slices_Values_api_World_api_World_1 : Nat := 302
def slices_stableCmpFunc_api_World : Nat := 303
def slices_insertionSortCmpFunc_api_World : Nat := 304
def slices_symMergeCmpFunc_api_World : Nat := 305
def slices_rotateCmpFunc_api_World : Nat := 306
def slices_swapRangeCmpFunc_api_World : Nat := 307
def worlds_Copy_v1 : Nat := 308
end Go.Ev.N

namespace Go.Ev.N
def law32_AreaOf : Nat := 309
def law32_AreaHolds : Nat := 310
def law32_AreaMore : Nat := 311
def law32_AreaMade : Nat := 312
def law32_AreaSeals : Nat := 313
def law32_awake : Nat := 314
def area_Of : Nat := 315
def area_Seal : Nat := 316
def law32_agree : Nat := 317
def area_Border : Nat := 318
def area_Barred : Nat := 319
def area_Inside : Nat := 320
def law32_row : Nat := 321
def area_Of_1 : Nat := 322
def area_Seal_1 : Nat := 323
def area_Seal_1_1 : Nat := 324
def area_seal : Nat := 325
def ref32_Of : Nat := 326
def ref31_SameMine : Nat := 327
def ref32_Inside : Nat := 328
def area_Border_1 : Nat := 329
def slices_Clone_api_Place_api_Place : Nat := 330
def slices_Clone_api_Road_api_Road : Nat := 331
def area_Inside_1 : Nat := 332
def area_Inside_1_1 : Nat := 333
end Go.Ev.N

namespace Go.Ev.K
open Go.Ev
def law32_AreaOf_l1b : C := (.seq (.ite [{ o := .mv (.v 11) }, { o := .mv (.v 7) }, { o := .ln (.l 0) }, { o := .bin .lss (.l 2) (.l 0) }] [] 0 .skip (.exit 0)) (.seq (.blk 1 (.ite [{ o := .mv (.v 9) }, { o := .mv (.v 7) }, { o := .mv (.v 11) }, { o := .ia (.l 1) (.l 0) 1 }, { o := .ld (.l 0) 1 false }, { o := .ca N.ref23_Has 0 [] [.l 4, .l 0] }, { o := .un .not (.l 0) }] [] 0 (.seq (.reg [{ o := .mv (.b false), d := some 2 }] []) .ret) .skip)) (.reg [{ o := .mv (.v 11) }, { o := .bin .add (.l 0) (.i 1) }, { o := .mv (.l 0), d := some 11 }] [])))
def law32_AreaOf_l1 : C := .loop true [0, 1, 2, 3, 8, 10, 12, 13] K.law32_AreaOf_l1b
def law32_AreaOf_l2b : C := (.seq (.ite [{ o := .mv (.v 12) }, { o := .fa (.v 4) 1 }, { o := .ld (.l 0) 1 false }, { o := .ln (.l 0) }, { o := .bin .lss (.l 3) (.l 0) }] [] 0 .skip (.exit 2)) (.seq (.blk 3 (.seq (.reg [{ o := .fa (.v 4) 1 }, { o := .ld (.l 0) 1 false }, { o := .mv (.v 12) }, { o := .ia (.l 1) (.l 0) 10 }, { o := .ld (.l 0) 10 true }, { o := .al [.t (.int .i64 (0)), .t (.int .i64 (0)), .t (.int .i64 (0)), .t (.int .i64 (0)), .t (.bool false), .t (.bool false), .t (.int .i64 (0)), .t (.int .i64 (0)), .t (.int .i64 (0)), .t (.int .i64 (0))] [], d := some 13 }, { o := .st (.l 0) (.l 1) 10 [] }] []) (.ite [{ o := .fa (.v 13) 5 }, { o := .ld (.l 0) 1 false }, { o := .un .not (.l 0) }, { o := .mv (.l 0) }, { o := .fa (.v 13) 0, g := some (0, true) }, { o := .ld (.l 0) 1 false, g := some (1, true) }, { o := .mv (.v 5), g := some (2, true) }, { o := .bin .eql (.l 1) (.l 0), g := some (3, true) }, { o := .mv (.l 0), g := some (4, true) }, { o := .fa (.v 13) 1, g := some (0, false) }, { o := .ld (.l 0) 1 false, g := some (1, false) }, { o := .mv (.v 5), g := some (2, false) }, { o := .bin .eql (.l 1) (.l 0), g := some (3, false) }, { o := .pk (.l 4) (.b true) (.l 0), g := some (9, true) }, { o := .pk (.l 10) (.l 0) (.b false) }, { o := .mv (.l 0) }, { o := .fa (.v 13) 2, g := some (0, true) }, { o := .ld (.l 0) 1 false, g := some (1, true) }, { o := .mv (.v 6), g := some (2, true) }, { o := .bin .leq (.l 1) (.l 0), g := some (3, true) }, { o := .pk (.l 4) (.l 0) (.b false) }, { o := .mv (.l 0) }, { o := .mv (.v 7), g := some (0, true) }, { o := .fa (.v 13) 0, g := some (1, true) }, { o := .ld (.l 0) 1 false, g := some (2, true) }, { o := .ca N.ref23_Has 0 [] [.l 2, .l 0], g := some (3, true) }, { o := .un .not (.l 0), g := some (4, true) }, { o := .mv (.l 0), g := some (5, true) }, { o := .mv (.v 7), g := some (0, false) }, { o := .fa (.v 13) 1, g := some (1, false) }, { o := .ld (.l 0) 1 false, g := some (2, false) }, { o := .ca N.ref23_Has 0 [] [.l 2, .l 0], g := some (3, false) }, { o := .un .not (.l 0), g := some (4, false) }, { o := .pk (.l 5) (.b true) (.l 0), g := some (11, true) }, { o := .pk (.l 12) (.l 0) (.b false) }] [] 0 (.seq (.reg [{ o := .mv (.b false), d := some 2 }] []) .ret) .skip))) (.reg [{ o := .mv (.v 12) }, { o := .bin .add (.l 0) (.i 1) }, { o := .mv (.l 0), d := some 12 }] [])))
def law32_AreaOf_l2 : C := .loop true [0, 1, 2, 3, 8, 9, 10, 11, 13] K.law32_AreaOf_l2b
def law32_AreaOf : Fn := { nargs := 2, vars := [0, 1, 4, 5, 6, 7, 8, 9, 10, 11, 12, 13, 14, 15], body := (.seq (.reg [{ o := .mv (.b false), d := some 2 }] []) (.seq (.ite [{ o := .mv (.v 0) }, { o := .ca N.made_Light 0 [] [.l 0] }, { o := .un .not (.l 0) }] [] 0 (.seq (.reg [{ o := .ca N.law32_awake 0 [] [] }, { o := .mv (.l 0), d := some 2 }] []) .ret) .skip) (.seq (.reg [{ o := .mv (.v 0) }, { o := .ca N.made_Roll 0 [] [.l 0] }, { o := .mv (.l 0), d := some 3 }] []) (.seq (.reg [{ o := .mv (.v 3) }, { o := .ca N.made_Dice_Mine 0 [] [.l 0] }, { o := .al [.nil, .nil] [], d := some 4 }, { o := .st (.l 0) (.l 1) 2 [] }] []) (.seq (.reg [{ o := .mv (.v 3) }, { o := .fa (.v 4) 0 }, { o := .ld (.l 0) 1 false }, { o := .ln (.l 0) }, { o := .ca N.made_Dice_Next 0 [] [.l 3, .l 0] }, { o := .mv (.v 1) }, { o := .ca N.made_Mod 0 [] [.l 0, .i 200] }, { o := .mv (.l 2), d := some 5 }, { o := .mv (.l 1), d := some 6 }] []) (.seq (.reg [{ o := .ld (.v 4) 2 true }, { o := .mv (.v 5) }, { o := .mv (.v 6) }, { o := .ca N.area_Of 0 [] [.l 2, .l 1, .l 0] }, { o := .mv (.l 0) }, { o := .ex (.l 0) 0 }, { o := .ex (.l 1) 1 }, { o := .mv (.l 1), d := some 7 }, { o := .mv (.l 1), d := some 8 }] []) (.seq (.reg [{ o := .ld (.v 4) 2 true }, { o := .mv (.v 5) }, { o := .mv (.v 6) }, { o := .mv (.v 3) }, { o := .ca N.made_Dice_Next 0 [] [.l 0, .i 50] }, { o := .bin .add (.l 2) (.l 0) }, { o := .ca N.area_Of 0 [] [.l 5, .l 4, .l 0] }, { o := .mv (.l 0) }, { o := .ex (.l 0) 0 }, { o := .ex (.l 1) 1 }, { o := .mv (.l 1), d := some 9 }, { o := .mv (.l 1), d := some 10 }] [(0, 5)]) (.seq (.ite [{ o := .mv (.v 8) }, { o := .bin .neq (.l 0) (.i 0) }, { o := .mv (.l 0) }, { o := .mv (.v 10), g := some (0, false) }, { o := .bin .neq (.l 0) (.i 0), g := some (1, false) }, { o := .pk (.l 2) (.b true) (.l 0) }, { o := .mv (.l 0) }, { o := .mv (.v 7), g := some (0, false) }, { o := .mv (.v 5), g := some (1, false) }, { o := .ca N.ref23_Has 0 [] [.l 1, .l 0], g := some (2, false) }, { o := .un .not (.l 0), g := some (3, false) }, { o := .pk (.l 4) (.b true) (.l 0) }, { o := .mv (.l 0) }, { o := .mv (.v 7), g := some (0, false) }, { o := .fa (.v 4) 0, g := some (1, false) }, { o := .ld (.l 0) 1 false, g := some (2, false) }, { o := .ln (.l 0), g := some (3, false) }, { o := .ca N.ref23_Set 0 [] [.l 3, .l 0], g := some (4, false) }, { o := .un .not (.l 0), g := some (5, false) }, { o := .pk (.l 6) (.b true) (.l 0) }] [] 0 (.seq (.reg [{ o := .mv (.b false), d := some 2 }] []) .ret) .skip) (.seq (.seq (.reg [{ o := .mv (.i 0), d := some 11 }] []) (.blk 0 K.law32_AreaOf_l1)) (.seq (.seq (.reg [{ o := .mv (.i 0), d := some 12 }] []) (.blk 2 K.law32_AreaOf_l2)) (.seq (.reg [{ o := .ca N.law32_awake 0 [] [] }, { o := .mv (.l 0), d := some 2 }] []) .ret))))))))))), res := [(2, none)] }
def law32_awake : Fn := { nargs := 0, vars := [0, 1, 2, 4, 5, 6, 7, 8], body := (.seq (.reg [{ o := .mv (.b false), d := some 0 }] []) (.seq (.reg [{ o := .ca N.law32_row 0 [] [] }, { o := .al [.nil, .nil] [], d := some 1 }, { o := .st (.l 0) (.l 1) 2 [] }] []) (.seq (.reg [{ o := .ld (.v 1) 2 true }, { o := .bs [.i 4] 1 }, { o := .bs [.i 0] 1 }, { o := .ca N.ref26_Start 0 [] [.l 2, .l 1, .l 0, .i 0] }, { o := .mv (.l 0) }, { o := .ex (.l 0) 0 }, { o := .ex (.l 1) 1 }, { o := .al [.nil] [], d := some 2 }, { o := .st (.l 0) (.l 2) 1 [] }, { o := .mv (.l 2) }] []) (.seq (.reg [{ o := .ld (.v 1) 2 true }, { o := .ld (.v 2) 1 true }, { o := .bs [.i 1] 1 }, { o := .ca N.area_Seal 0 [] [.l 2, .l 1, .l 0, .i 15] }, { o := .mv (.l 0) }, { o := .ex (.l 0) 0 }, { o := .ex (.l 1) 1 }, { o := .al [.nil] [], d := some 3 }, { o := .st (.l 0) (.l 2) 1 [] }, { o := .mv (.l 2), d := some 4 }] []) (.seq (.reg [{ o := .ld (.v 1) 2 true }, { o := .ca N.area_Of 0 [] [.l 0, .i 2, .i 12] }, { o := .mv (.l 0) }, { o := .ex (.l 0) 0 }, { o := .ex (.l 1) 1 }, { o := .mv (.l 1), d := some 5 }, { o := .mv (.l 1), d := some 6 }] []) (.seq (.reg [{ o := .ld (.v 1) 2 true }, { o := .bs [.i 2] 1 }, { o := .ca N.area_Border 0 [] [.l 1, .l 0] }, { o := .mv (.l 0), d := some 7 }] []) (.seq (.reg [{ o := .mv (.v 4) }, { o := .bin .eql (.l 0) (.i 0) }, { o := .mv (.l 0) }, { o := .ld (.v 3) 1 true, g := some (0, true) }, { o := .bs [.i 2] 1, g := some (1, true) }, { o := .ca N.area_Clear 0 [] [.l 1, .l 0], g := some (2, true) }, { o := .pk (.l 3) (.l 0) (.b false) }, { o := .mv (.l 0) }, { o := .ld (.v 3) 1 true, g := some (0, true) }, { o := .bs [.i 1] 1, g := some (1, true) }, { o := .ca N.area_Clear 0 [] [.l 1, .l 0], g := some (2, true) }, { o := .un .not (.l 0), g := some (3, true) }, { o := .pk (.l 4) (.l 0) (.b false) }, { o := .mv (.l 0) }, { o := .mv (.v 6), g := some (0, true) }, { o := .bin .eql (.l 0) (.i 0), g := some (1, true) }, { o := .pk (.l 2) (.l 0) (.b false) }, { o := .mv (.l 0) }, { o := .mv (.v 5), g := some (0, true) }, { o := .ln (.l 0), g := some (1, true) }, { o := .bin .eql (.l 0) (.i 2), g := some (2, true) }, { o := .pk (.l 3) (.l 0) (.b false) }, { o := .mv (.l 0) }, { o := .mv (.v 5), g := some (0, true) }, { o := .ia (.l 0) (.i 0) 1, g := some (1, true) }, { o := .ld (.l 0) 1 false, g := some (2, true) }, { o := .bin .eql (.l 0) (.i 1), g := some (3, true) }, { o := .pk (.l 4) (.l 0) (.b false) }, { o := .mv (.l 0) }, { o := .mv (.v 7), g := some (0, true) }, { o := .ln (.l 0), g := some (1, true) }, { o := .bin .eql (.l 0) (.i 1), g := some (2, true) }, { o := .pk (.l 3) (.l 0) (.b false) }, { o := .mv (.l 0) }, { o := .mv (.v 7), g := some (0, true) }, { o := .ia (.l 0) (.i 0) 1, g := some (1, true) }, { o := .ld (.l 0) 1 false, g := some (2, true) }, { o := .bin .eql (.l 0) (.i 1), g := some (3, true) }, { o := .pk (.l 4) (.l 0) (.b false) }, { o := .mv (.l 0), d := some 0 }] []) .ret))))))), res := [(0, none)] }
def area_Of_l2b : C := (.its  [{ o := .bin .lss (.v 13) (.v 12) }] [] 0 .skip (.exit 3) (.seq (.blk 4 (.seq (.reg [{ o := .ia (.v 11) (.v 13) 10 }, { o := .ld (.l 0) 10 true }, { o := .al [.t (.int .i64 (0)), .t (.int .i64 (0)), .t (.int .i64 (0)), .t (.int .i64 (0)), .t (.bool false), .t (.bool false), .t (.int .i64 (0)), .t (.int .i64 (0)), .t (.int .i64 (0)), .t (.int .i64 (0))] [], d := some 9 }, { o := .st (.l 0) (.l 1) 10 [] }] []) (.seq (.reg [{ o := .ld (.v 7) 1 false }, { o := .fa (.v 9) 0 }, { o := .ld (.l 0) 1 false }, { o := .ia (.l 2) (.l 0) 1 }, { o := .ld (.l 0) 1 false }, { o := .ld (.v 7) 1 false }, { o := .fa (.v 9) 1 }, { o := .ld (.l 0) 1 false }, { o := .ia (.l 2) (.l 0) 1 }, { o := .ld (.l 0) 1 false }, { o := .mn [.l 5, .l 0] }, { o := .fa (.v 9) 2 }, { o := .ld (.l 0) 1 false }, { o := .bin .add (.l 2) (.l 0) }, { o := .mv (.l 0), d := some 10 }] []) (.ite [{ o := .fa (.v 9) 5 }, { o := .ld (.l 0) 1 false }, { o := .un .not (.l 0) }, { o := .mv (.l 0) }, { o := .mv (.v 10), g := some (0, true) }, { o := .ld (.v 7) 1 false, g := some (1, true) }, { o := .fa (.v 9) 0, g := some (2, true) }, { o := .ld (.l 0) 1 false, g := some (3, true) }, { o := .ia (.l 2) (.l 0) 1, g := some (4, true) }, { o := .ld (.l 0) 1 false, g := some (5, true) }, { o := .ld (.v 7) 1 false, g := some (6, true) }, { o := .fa (.v 9) 1, g := some (7, true) }, { o := .ld (.l 0) 1 false, g := some (8, true) }, { o := .ia (.l 2) (.l 0) 1, g := some (9, true) }, { o := .ld (.l 0) 1 false, g := some (10, true) }, { o := .mx [.l 5, .l 0], g := some (11, true) }, { o := .bin .lss (.l 11) (.l 0), g := some (12, true) }, { o := .pk (.l 13) (.l 0) (.b false) }] [] 0 (.seq (.reg [{ o := .ld (.v 7) 1 false }, { o := .fa (.v 9) 0 }, { o := .ld (.l 0) 1 false }, { o := .ld (.v 7) 1 false }, { o := .fa (.v 9) 1 }, { o := .ld (.l 0) 1 false }, { o := .ld (.v 7) 1 false }, { o := .fa (.v 9) 0 }, { o := .ld (.l 0) 1 false }, { o := .ia (.l 2) (.l 0) 1 }, { o := .ld (.l 0) 1 false }, { o := .mv (.v 10) }, { o := .mn [.l 1, .l 0] }, { o := .ld (.v 7) 1 false }, { o := .fa (.v 9) 1 }, { o := .ld (.l 0) 1 false }, { o := .ia (.l 2) (.l 0) 1 }, { o := .ld (.l 0) 1 false }, { o := .mv (.v 10) }, { o := .mn [.l 1, .l 0] }, { o := .ia (.l 19) (.l 17) 1 }, { o := .st (.l 0) (.l 8) 1 [] }, { o := .ia (.l 18) (.l 16) 1 }, { o := .st (.l 0) (.l 3) 1 [] }] [(3, 22), (5, 22)]) (.reg [{ o := .mv (.b true), d := some 8 }] [])) .skip)))) (.reg [{ o := .bin .add (.v 13) (.i 1) }, { o := .mv (.l 0), d := some 13 }] [])))
def area_Of_l2 : C := .loop true [0, 1, 2, 5, 6, 9, 10] K.area_Of_l2b
def area_Of_l1b : C := (.seq (.ite [{ o := .mv (.v 8) }] [] 0 .skip (.exit 1)) (.blk 2 (.seq (.reg [{ o := .mv (.b false), d := some 8 }] []) (.seq (.reg [{ o := .fa (.v 3) 1 }, { o := .ld (.l 0) 1 false, d := some 11 }, { o := .ln (.l 0), d := some 12 }, { o := .mv (.i 0), d := some 13 }] []) (.blk 3 K.area_Of_l2)))))
def area_Of_l1 : C := .loop true [0, 1, 2, 5, 6, 9, 10, 11, 12, 13] K.area_Of_l1b
def area_Of : Fn := { nargs := 3, vars := [0, 1, 2, 3, 5, 6, 7, 8, 9, 11, 12, 38, 39, 40], body := (.seq (.reg [{ o := .bx (.v 0) 2, d := some 3 }, { o := .bx (.v 2) 1, d := some 4 }, { o := .mv (.c (.nil)), d := some 5 }, { o := .mv (.i 0), d := some 6 }] []) (.seq (.blk 0 (.ite [{ o := .ld (.v 3) 2 true }, { o := .ca N.plan_Valid 0 [] [.l 0] }, { o := .un .not (.l 0) }, { o := .mv (.l 0) }] [] 0 (.seq (.reg [{ o := .mv (.c (.nil)), d := some 5 }, { o := .mv (.i 6), d := some 6 }] []) .ret) (.ite [{ o := .mv (.v 1) }, { o := .fa (.v 3) 0 }, { o := .ld (.l 0) 1 false }, { o := .ln (.l 0) }, { o := .bin .sub (.l 0) (.i 1) }, { o := .ca N.lists_In 0 [] [.l 4, .i 0, .l 0] }, { o := .un .not (.l 0) }, { o := .mv (.l 0) }] [] 0 (.seq (.reg [{ o := .mv (.c (.nil)), d := some 5 }, { o := .mv (.i 3), d := some 6 }] []) .ret) (.ite [{ o := .ld (.v 4) 1 false }, { o := .bin .lss (.l 0) (.i 0) }, { o := .mv (.l 0) }] [] 0 (.seq (.reg [{ o := .mv (.c (.nil)), d := some 5 }, { o := .mv (.i 1), d := some 6 }] []) .ret) .skip)))) (.seq (.reg [{ o := .bs [.i 1099511627776] 1 }, { o := .fa (.v 3) 0 }, { o := .ld (.l 0) 1 false }, { o := .ln (.l 0) }, { o := .ca N.slices_Repeat_int_int 1 [] [.l 3, .l 0] }, { o := .al [.nil] [], d := some 7 }, { o := .st (.l 0) (.l 1) 1 [] }] []) (.seq (.reg [{ o := .ld (.v 7) 1 false }, { o := .mv (.v 1) }, { o := .ia (.l 1) (.l 0) 1 }, { o := .st (.l 0) (.i 0) 1 [] }] []) (.seq (.seq (.reg [{ o := .mv (.b true), d := some 8 }] []) (.blk 1 K.area_Of_l1)) (.seq (.reg [{ o := .ld (.v 7) 1 false }, { o := .ln (.l 0) }, { o := .mf N.area_Of_1 [.v 7, .v 4] }, { o := .ca N.lists_Where 0 [] [.l 1, .l 0] }, { o := .mv (.l 0), d := some 5 }, { o := .mv (.i 0), d := some 6 }] []) .ret)))))), res := [(5, none), (6, none)] }
def area_Seal_l2b : C := (.its  [{ o := .bin .lss (.v 24) (.v 23) }] [] 0 .skip (.exit 2) (.seq (.blk 3 (.seq (.reg [{ o := .mv (.v 24) }, { o := .ia (.v 22) (.v 24) 2 }, { o := .ld (.l 0) 2 true }, { o := .al [.t (.int .i64 (0)), .nil] [], d := some 16 }, { o := .mv (.l 3), d := some 15 }, { o := .st (.l 1) (.l 2) 2 [] }] []) (.seq (.reg [{ o := .ld (.v 9) 2 true }, { o := .ld (.v 16) 2 true }, { o := .ld (.v 6) 1 false }, { o := .ca N.area_seal 0 [] [.l 2, .l 1, .l 0] }, { o := .mv (.l 0) }, { o := .ex (.l 0) 0 }, { o := .ex (.l 1) 1 }, { o := .al [.t (.int .i64 (0)), .nil] [], d := some 17 }, { o := .st (.l 0) (.l 2) 2 [] }, { o := .mv (.l 2), d := some 18 }] []) (.seq (.ite [{ o := .mv (.v 18) }, { o := .bin .neq (.l 0) (.i 0) }] [] 0 (.seq (.reg [{ o := .ld (.v 5) 1 true }, { o := .mv (.v 18) }, { o := .st (.v 7) (.l 1) 1 [] }, { o := .mv (.l 1), d := some 8 }] []) .ret) .skip) (.reg [{ o := .fa (.v 14) 1 }, { o := .ld (.l 0) 1 false }, { o := .mv (.v 15) }, { o := .ld (.v 17) 2 true }, { o := .ia (.l 2) (.l 1) 2 }, { o := .st (.l 0) (.l 1) 2 [] }] []))))) (.reg [{ o := .bin .add (.v 24) (.i 1) }, { o := .mv (.l 0), d := some 24 }] [])))
def area_Seal_l2 : C := .loop true [0, 1, 2, 3, 4, 8, 10, 11, 13, 15, 16, 17, 18] K.area_Seal_l2b
def area_Seal_l1b : C := (.its  [{ o := .bin .lss (.v 21) (.v 20) }] [] 0 .skip (.exit 0) (.seq (.blk 1 (.seq (.reg [{ o := .ia (.v 19) (.v 21) 2 }, { o := .ld (.l 0) 2 true }, { o := .al [.nil, .nil] [], d := some 13 }, { o := .st (.l 0) (.l 1) 2 [] }] []) (.seq (.reg [{ o := .ld (.v 13) 2 true }, { o := .ca N.worlds_Copy_v1 1 [] [.l 0] }, { o := .al [.nil, .nil] [], d := some 14 }, { o := .st (.l 0) (.l 1) 2 [] }] []) (.seq (.seq (.reg [{ o := .fa (.v 13) 1 }, { o := .ld (.l 0) 1 false, d := some 22 }, { o := .ln (.l 0), d := some 23 }, { o := .mv (.i 0), d := some 24 }] []) (.blk 2 K.area_Seal_l2)) (.reg [{ o := .mv (.v 12) }, { o := .ld (.v 14) 2 true }, { o := .bs [.l 0] 2 }, { o := .app (.l 2) (.l 0) true 2 }, { o := .mv (.l 0), d := some 12 }] []))))) (.reg [{ o := .bin .add (.v 21) (.i 1) }, { o := .mv (.l 0), d := some 21 }] [])))
def area_Seal_l1 : C := .loop true [0, 1, 2, 3, 4, 8, 10, 11, 13, 14, 15, 16, 17, 18, 22, 23, 24] K.area_Seal_l1b
def area_Seal : Fn := { nargs := 4, vars := [0, 1, 2, 3, 4, 5, 7, 8, 9, 10, 11, 12, 13, 15, 16, 17, 18, 19, 20, 47, 48, 49, 56, 57, 58], body := (.seq (.reg [{ o := .bx (.v 0) 2, d := some 4 }, { o := .bx (.v 1) 1, d := some 5 }, { o := .bx (.v 3) 1, d := some 6 }, { o := .al [.nil] [], d := some 7 }, { o := .mv (.i 0), d := some 8 }] []) (.seq (.ite [{ o := .ld (.v 4) 2 true }, { o := .ld (.v 5) 1 true }, { o := .ca N.swaps_Valid 0 [] [.l 1, .l 0] }, { o := .un .not (.l 0) }] [] 0 (.seq (.reg [{ o := .ld (.v 5) 1 true }, { o := .st (.v 7) (.l 0) 1 [] }, { o := .mv (.i 6), d := some 8 }] []) .ret) .skip) (.seq (.reg [{ o := .ld (.v 4) 2 true }, { o := .mv (.v 2) }, { o := .ca N.area_Barred 0 [] [.l 1, .l 0] }, { o := .mv (.l 0) }, { o := .ex (.l 0) 0 }, { o := .ex (.l 1) 1 }, { o := .al [.nil, .nil] [], d := some 9 }, { o := .st (.l 0) (.l 2) 2 [] }, { o := .mv (.l 2), d := some 10 }] []) (.seq (.ite [{ o := .mv (.v 10) }, { o := .bin .neq (.l 0) (.i 0) }] [] 0 (.seq (.reg [{ o := .ld (.v 5) 1 true }, { o := .mv (.v 10) }, { o := .st (.v 7) (.l 1) 1 [] }, { o := .mv (.l 1), d := some 8 }] []) .ret) .skip) (.seq (.reg [{ o := .mf N.area_Seal_1 [.v 6] }, { o := .mv (.l 0), d := some 11 }] []) (.seq (.ite [{ o := .ld (.v 6) 1 false }, { o := .bin .gtr (.l 0) (.i 2147483648) }, { o := .mv (.l 0) }, { o := .fa (.v 5) 0, g := some (0, false) }, { o := .ld (.l 0) 1 false, g := some (1, false) }, { o := .mv (.v 11), g := some (2, false) }, { o := .ca N.slices_ContainsFunc_api_World_api_World 0 [] [.l 1, .l 0], g := some (3, false) }, { o := .pk (.l 4) (.b true) (.l 0) }] [] 0 (.seq (.reg [{ o := .ld (.v 5) 1 true }, { o := .st (.v 7) (.l 0) 1 [] }, { o := .mv (.i 8), d := some 8 }] []) .ret) .skip) (.seq (.reg [{ o := .nw 2, d := some 12 }] []) (.seq (.seq (.reg [{ o := .fa (.v 5) 0 }, { o := .ld (.l 0) 1 false, d := some 19 }, { o := .ln (.l 0), d := some 20 }, { o := .mv (.i 0), d := some 21 }] []) (.blk 0 K.area_Seal_l1)) (.seq (.reg [{ o := .mv (.v 12) }, { o := .ca N.worlds_Tidy 0 [] [.l 0] }, { o := .bd [.nil] [(0, 1, .l 0)] }, { o := .st (.v 7) (.l 0) 1 [] }, { o := .mv (.i 0), d := some 8 }] []) .ret))))))))), res := [(7, some (1, true)), (8, none)] }
def area_Border : Fn := { nargs := 2, vars := [0, 1, 2, 3, 4], body := (.seq (.reg [{ o := .bx (.v 0) 2, d := some 2 }, { o := .bx (.v 1) 1, d := some 3 }, { o := .mv (.c (.nil)), d := some 4 }] []) (.seq (.reg [{ o := .fa (.v 2) 1 }, { o := .ld (.l 0) 1 false }, { o := .ln (.l 0) }, { o := .mf N.area_Border_1 [.v 2, .v 3] }, { o := .ca N.lists_Where 0 [] [.l 1, .l 0] }, { o := .mv (.l 0), d := some 4 }] []) .ret)), res := [(4, none)] }
def area_Barred_l1b : C := (.its  [{ o := .bin .lss (.v 9) (.v 8) }] [] 0 .skip (.exit 1) (.seq (.blk 2 (.seq (.reg [{ o := .ia (.v 7) (.v 9) 1 }, { o := .ld (.l 0) 1 false }, { o := .mv (.l 0), d := some 6 }] []) (.reg [{ o := .fa (.v 5) 1 }, { o := .ld (.l 0) 1 false }, { o := .mv (.v 6) }, { o := .ia (.l 1) (.l 0) 10 }, { o := .fa (.l 0) 4 }, { o := .st (.l 0) (.b false) 1 [] }] []))) (.reg [{ o := .bin .add (.v 9) (.i 1) }, { o := .mv (.l 0), d := some 9 }] [])))
def area_Barred_l1 : C := .loop true [0, 1, 2, 4, 6] K.area_Barred_l1b
def area_Barred : Fn := { nargs := 2, vars := [0, 1, 2, 4, 5, 6, 8, 30, 31, 32], body := (.seq (.reg [{ o := .bx (.v 0) 2, d := some 2 }, { o := .al [.nil, .nil] [], d := some 3 }, { o := .mv (.i 0), d := some 4 }] []) (.seq (.blk 0 (.ite [{ o := .ld (.v 2) 2 true }, { o := .ca N.plan_Valid 0 [] [.l 0] }, { o := .un .not (.l 0) }, { o := .mv (.l 0) }] [] 0 (.seq (.reg [{ o := .bd [.nil, .nil] [] }, { o := .st (.v 3) (.l 0) 2 [] }, { o := .mv (.i 6), d := some 4 }] []) .ret) (.ite [{ o := .mv (.v 1) }, { o := .fa (.v 2) 1 }, { o := .ld (.l 0) 1 false }, { o := .ln (.l 0) }, { o := .bin .sub (.l 0) (.i 1) }, { o := .ca N.lists_Rising 0 [] [.l 4, .i 0, .l 0] }, { o := .un .not (.l 0) }, { o := .mv (.l 0) }] [] 0 (.seq (.reg [{ o := .bd [.nil, .nil] [] }, { o := .st (.v 3) (.l 0) 2 [] }, { o := .mv (.i 4), d := some 4 }] []) .ret) .skip))) (.seq (.reg [{ o := .al [.nil, .nil] [], d := some 5 }, { o := .fa (.v 2) 0 }, { o := .ld (.l 0) 1 false }, { o := .ca N.slices_Clone_api_Place_api_Place 0 [] [.l 0] }, { o := .fa (.v 2) 1 }, { o := .ld (.l 0) 1 false }, { o := .ca N.slices_Clone_api_Road_api_Road 1 [] [.l 0] }, { o := .bd [.nil, .nil] [(0, 1, .l 3), (1, 1, .l 0)] }, { o := .st (.l 7) (.l 0) 2 [] }] [(0, 4), (0, 7), (5, 1)]) (.seq (.seq (.reg [{ o := .mv (.v 1), d := some 7 }, { o := .ln (.l 0), d := some 8 }, { o := .mv (.i 0), d := some 9 }] []) (.blk 1 K.area_Barred_l1)) (.seq (.reg [{ o := .ld (.v 5) 2 true }, { o := .st (.v 3) (.l 0) 2 [] }, { o := .mv (.i 0), d := some 4 }] []) .ret))))), res := [(3, some (2, true)), (4, none)] }
def law32_row : Fn := { nargs := 0, vars := [0, 1, 2, 3], body := (.seq (.reg [{ o := .al [.nil, .nil] [], d := some 0 }] []) (.seq (.reg [{ o := .bd [.t (.int .i64 (0)), .t (.int .i64 (0))] [(0, 1, .i 1), (1, 1, .i 1)] }, { o := .bd [.t (.int .i64 (0)), .t (.int .i64 (0)), .t (.int .i64 (0)), .t (.int .i64 (0)), .t (.bool false), .t (.bool false), .t (.int .i64 (0)), .t (.int .i64 (0)), .t (.int .i64 (0)), .t (.int .i64 (0))] [(2, 1, .i 12), (3, 1, .i 1), (4, 1, .b true), (6, 2, .l 0)] }, { o := .al [.t (.int .i64 (0)), .t (.int .i64 (0)), .t (.int .i64 (0)), .t (.int .i64 (0)), .t (.bool false), .t (.bool false), .t (.int .i64 (0)), .t (.int .i64 (0)), .t (.int .i64 (0)), .t (.int .i64 (0))] [], d := some 1 }, { o := .st (.l 0) (.l 1) 10 [] }] []) (.seq (.reg [{ o := .al [.t (.int .i64 (0)), .t (.int .i64 (0)), .t (.int .i64 (0)), .t (.int .i64 (0)), .t (.bool false), .t (.bool false), .t (.int .i64 (0)), .t (.int .i64 (0)), .t (.int .i64 (0)), .t (.int .i64 (0))] [], d := some 2 }, { o := .al [.t (.int .i64 (0)), .t (.int .i64 (0)), .t (.int .i64 (0)), .t (.int .i64 (0)), .t (.bool false), .t (.bool false), .t (.int .i64 (0)), .t (.int .i64 (0)), .t (.int .i64 (0)), .t (.int .i64 (0))] [], d := some 3 }, { o := .ld (.v 1) 10 true }, { o := .ld (.v 1) 10 true }, { o := .st (.l 3) (.l 1) 10 [] }, { o := .st (.l 3) (.l 1) 10 [] }] [(3, 5)]) (.seq (.reg [{ o := .fa (.v 2) 1 }, { o := .st (.l 0) (.i 1) 1 [] }, { o := .fa (.v 3) 0 }, { o := .st (.l 0) (.i 1) 1 [] }, { o := .fa (.v 3) 1 }, { o := .st (.l 0) (.i 2) 1 [] }] []) (.seq (.reg [{ o := .bd [.t (.int .i64 (0)), .t (.bool false)] [(1, 1, .b true)] }, { o := .bd [.t (.int .i64 (0)), .t (.bool false)] [] }, { o := .bd [.t (.int .i64 (0)), .t (.bool false)] [] }, { o := .bs [.l 2, .l 1, .l 0] 2 }, { o := .ld (.v 2) 10 true }, { o := .ld (.v 3) 10 true }, { o := .bs [.l 1, .l 0] 10 }, { o := .bd [.nil, .nil] [(0, 1, .l 3), (1, 1, .l 0)] }, { o := .st (.v 0) (.l 0) 2 [] }] []) .ret))))), res := [(0, some (2, true))] }
def area_Of_1 : Fn := { nargs := 3, vars := [0, 1, 2, 4], body := (.seq (.reg [{ o := .mv (.b false), d := some 3 }] []) (.seq (.reg [{ o := .ld (.v 1) 1 false }, { o := .mv (.v 0) }, { o := .ia (.l 1) (.l 0) 1 }, { o := .ld (.l 0) 1 false }, { o := .bin .lss (.l 0) (.i 1099511627776) }, { o := .mv (.l 0) }, { o := .ld (.v 1) 1 false, g := some (0, true) }, { o := .mv (.v 0), g := some (1, true) }, { o := .ia (.l 1) (.l 0) 1, g := some (2, true) }, { o := .ld (.l 0) 1 false, g := some (3, true) }, { o := .ld (.v 2) 1 false, g := some (4, true) }, { o := .bin .leq (.l 1) (.l 0), g := some (5, true) }, { o := .pk (.l 6) (.l 0) (.b false) }, { o := .mv (.l 0), d := some 3 }] []) .ret)), res := [(3, none)] }
def area_Seal_1 : Fn := { nargs := 2, vars := [0, 1, 2, 3], body := (.seq (.reg [{ o := .bx (.v 0) 2, d := some 2 }, { o := .mv (.b false), d := some 3 }] []) (.seq (.reg [{ o := .fa (.v 2) 1 }, { o := .ld (.l 0) 1 false }, { o := .mf N.area_Seal_1_1 [.v 1] }, { o := .ca N.slices_ContainsFunc_api_Whereabouts_api_Whereabouts 0 [] [.l 1, .l 0] }, { o := .mv (.l 0), d := some 3 }] []) .ret)), res := [(3, none)] }
def area_Seal_1_1 : Fn := { nargs := 2, vars := [0, 1, 2, 3], body := (.seq (.reg [{ o := .bx (.v 0) 2, d := some 2 }, { o := .mv (.b false), d := some 3 }] []) (.seq (.reg [{ o := .ld (.v 1) 1 false }, { o := .fa (.v 2) 0 }, { o := .ld (.l 0) 1 false }, { o := .bin .lss (.l 2) (.l 0) }, { o := .mv (.l 0), d := some 3 }] []) .ret)), res := [(3, none)] }
def area_seal_l1b : C := (.its  [{ o := .bin .lss (.v 11) (.v 10) }] [] 0 .skip (.exit 0) (.seq (.blk 1 (.seq (.reg [{ o := .ia (.v 9) (.v 11) 1 }, { o := .ld (.l 0) 1 false }, { o := .mv (.l 0), d := some 8 }] []) (.reg [{ o := .mv (.v 7) }, { o := .mv (.v 8) }, { o := .fa (.v 4) 1 }, { o := .ld (.l 0) 1 false }, { o := .mv (.v 8) }, { o := .ia (.l 1) (.l 0) 1 }, { o := .ld (.l 0) 1 false }, { o := .ia (.l 6) (.l 5) 1 }, { o := .st (.l 0) (.l 1) 1 [] }] []))) (.reg [{ o := .bin .add (.v 11) (.i 1) }, { o := .mv (.l 0), d := some 11 }] [])))
def area_seal_l1 : C := .loop true [0, 1, 6, 8] K.area_seal_l1b
def area_seal : Fn := { nargs := 3, vars := [0, 1, 2, 3, 4, 6, 7, 8, 10, 18, 19, 20], body := (.seq (.reg [{ o := .bx (.v 0) 2, d := some 3 }, { o := .bx (.v 1) 2, d := some 4 }, { o := .al [.t (.int .i64 (0)), .nil] [], d := some 5 }, { o := .mv (.i 0), d := some 6 }] []) (.seq (.reg [{ o := .bs [.i 1099511627776] 1 }, { o := .fa (.v 4) 1 }, { o := .ld (.l 0) 1 false }, { o := .ln (.l 0) }, { o := .ca N.slices_Repeat_int_int 1 [] [.l 3, .l 0] }, { o := .mv (.l 0), d := some 7 }] []) (.seq (.seq (.reg [{ o := .ld (.v 4) 2 true }, { o := .mv (.v 2) }, { o := .ca N.places_Possible 0 [] [.l 1, .l 0], d := some 9 }, { o := .ln (.l 0), d := some 10 }, { o := .mv (.i 0), d := some 11 }] []) (.blk 0 K.area_seal_l1)) (.seq (.reg [{ o := .ld (.v 3) 2 true }, { o := .fa (.v 4) 0 }, { o := .ld (.l 0) 1 false }, { o := .mv (.v 7) }, { o := .bd [.t (.int .i64 (0)), .nil] [(0, 1, .l 1), (1, 1, .l 0)] }, { o := .mv (.v 2) }, { o := .ca N.places_Renew 0 [] [.l 5, .l 1, .l 0] }, { o := .ex (.l 0) 0 }, { o := .ex (.l 1) 1 }, { o := .st (.v 5) (.l 1) 2 [] }, { o := .mv (.l 1), d := some 6 }] []) .ret)))), res := [(5, some (2, true)), (6, none)] }
end Go.Ev.K
namespace Go.Ev
class Has14 [Lib] : Prop where
  t_law32_AreaOf : Lib.fs N.law32_AreaOf = some K.law32_AreaOf
  t_law32_awake : Lib.fs N.law32_awake = some K.law32_awake
  t_area_Of : Lib.fs N.area_Of = some K.area_Of
  t_area_Seal : Lib.fs N.area_Seal = some K.area_Seal
  t_area_Border : Lib.fs N.area_Border = some K.area_Border
  t_area_Barred : Lib.fs N.area_Barred = some K.area_Barred
  t_law32_row : Lib.fs N.law32_row = some K.law32_row
  t_area_Of_1 : Lib.fs N.area_Of_1 = some K.area_Of_1
  t_area_Seal_1 : Lib.fs N.area_Seal_1 = some K.area_Seal_1
  t_area_Seal_1_1 : Lib.fs N.area_Seal_1_1 = some K.area_Seal_1_1
  t_area_seal : Lib.fs N.area_seal = some K.area_seal
namespace K
variable [Lib] [Has14]
theorem t_law32_AreaOf : Lib.fs N.law32_AreaOf = some K.law32_AreaOf := Has14.t_law32_AreaOf
theorem t_law32_awake : Lib.fs N.law32_awake = some K.law32_awake := Has14.t_law32_awake
theorem t_area_Of : Lib.fs N.area_Of = some K.area_Of := Has14.t_area_Of
theorem t_area_Seal : Lib.fs N.area_Seal = some K.area_Seal := Has14.t_area_Seal
theorem t_area_Border : Lib.fs N.area_Border = some K.area_Border := Has14.t_area_Border
theorem t_area_Barred : Lib.fs N.area_Barred = some K.area_Barred := Has14.t_area_Barred
theorem t_law32_row : Lib.fs N.law32_row = some K.law32_row := Has14.t_law32_row
theorem t_area_Of_1 : Lib.fs N.area_Of_1 = some K.area_Of_1 := Has14.t_area_Of_1
theorem t_area_Seal_1 : Lib.fs N.area_Seal_1 = some K.area_Seal_1 := Has14.t_area_Seal_1
theorem t_area_Seal_1_1 : Lib.fs N.area_Seal_1_1 = some K.area_Seal_1_1 := Has14.t_area_Seal_1_1
theorem t_area_seal : Lib.fs N.area_seal = some K.area_seal := Has14.t_area_seal
end K
end Go.Ev

namespace Go.Ev.K
open Go.Ev
def area_Border_1 : Fn := { nargs := 3, vars := [0, 1, 2, 4, 5], body := (.seq (.reg [{ o := .mv (.b false), d := some 3 }] []) (.seq (.reg [{ o := .fa (.v 1) 1 }, { o := .ld (.l 0) 1 false }, { o := .mv (.v 0) }, { o := .ia (.l 1) (.l 0) 10 }, { o := .ld (.l 0) 10 true }, { o := .al [.t (.int .i64 (0)), .t (.int .i64 (0)), .t (.int .i64 (0)), .t (.int .i64 (0)), .t (.bool false), .t (.bool false), .t (.int .i64 (0)), .t (.int .i64 (0)), .t (.int .i64 (0)), .t (.int .i64 (0))] [], d := some 4 }, { o := .st (.l 0) (.l 1) 10 [] }] []) (.seq (.reg [{ o := .ld (.v 2) 1 false }, { o := .fa (.v 4) 0 }, { o := .ld (.l 0) 1 false }, { o := .ca N.slices_Contains_int_int 0 [] [.l 2, .l 0] }, { o := .ld (.v 2) 1 false }, { o := .fa (.v 4) 1 }, { o := .ld (.l 0) 1 false }, { o := .ca N.slices_Contains_int_int 0 [] [.l 2, .l 0] }, { o := .eqk (.bool) true (.l 4) (.l 0) }, { o := .mv (.l 0) }, { o := .ld (.v 1) 2 true, g := some (0, true) }, { o := .mv (.v 0), g := some (1, true) }, { o := .ca N.walk_Time 0 [] [.l 1, .l 0, .b false], g := some (2, true) }, { o := .bin .geq (.l 0) (.i 0), g := some (3, true) }, { o := .mv (.l 0), g := some (4, true) }, { o := .ld (.v 1) 2 true, g := some (0, false) }, { o := .mv (.v 0), g := some (1, false) }, { o := .ca N.walk_Time 0 [] [.l 1, .l 0, .b true], g := some (2, false) }, { o := .bin .geq (.l 0) (.i 0), g := some (3, false) }, { o := .pk (.l 4) (.b true) (.l 0), g := some (9, true) }, { o := .pk (.l 10) (.l 0) (.b false) }, { o := .mv (.l 0), d := some 3 }] [(4, 0), (6, 0)]) .ret))), res := [(3, none)] }
def slices_Clone_api_Place_api_Place : Fn := { nargs := 1, vars := [0, 2], body := (.seq (.reg [{ o := .mv (.c (.nil)), d := some 1 }] []) (.itk  [{ o := .mv (.v 0) }, { o := .eqk (.sl) false (.l 0) (.c (.nil)) }] [] 0 (.seq (.reg [{ o := .nw 2, d := some 1 }] []) .ret) .skip (.seq (.reg [{ o := .bsr [] 2 }, { o := .mv (.v 0) }, { o := .app (.l 1) (.l 0) false 2 }, { o := .mv (.l 0), d := some 1 }] []) .ret))), res := [(1, none)] }
def slices_Clone_api_Road_api_Road : Fn := { nargs := 1, vars := [0, 2], body := (.seq (.reg [{ o := .mv (.c (.nil)), d := some 1 }] []) (.itk  [{ o := .mv (.v 0) }, { o := .eqk (.sl) false (.l 0) (.c (.nil)) }] [] 0 (.seq (.reg [{ o := .nw 10, d := some 1 }] []) .ret) .skip (.seq (.reg [{ o := .bsr [] 10 }, { o := .mv (.v 0) }, { o := .app (.l 1) (.l 0) false 10 }, { o := .mv (.l 0), d := some 1 }] []) .ret))), res := [(1, none)] }
end Go.Ev.K
namespace Go.Ev
class Has15 [Lib] : Prop where
  t_area_Border_1 : Lib.fs N.area_Border_1 = some K.area_Border_1
  t_slices_Clone_api_Place_api_Place : Lib.fs N.slices_Clone_api_Place_api_Place = some K.slices_Clone_api_Place_api_Place
  t_slices_Clone_api_Road_api_Road : Lib.fs N.slices_Clone_api_Road_api_Road = some K.slices_Clone_api_Road_api_Road
namespace K
variable [Lib] [Has15]
theorem t_area_Border_1 : Lib.fs N.area_Border_1 = some K.area_Border_1 := Has15.t_area_Border_1
theorem t_slices_Clone_api_Place_api_Place : Lib.fs N.slices_Clone_api_Place_api_Place = some K.slices_Clone_api_Place_api_Place := Has15.t_slices_Clone_api_Place_api_Place
theorem t_slices_Clone_api_Road_api_Road : Lib.fs N.slices_Clone_api_Road_api_Road = some K.slices_Clone_api_Road_api_Road := Has15.t_slices_Clone_api_Road_api_Road
end K
end Go.Ev

namespace Go.Ev
open Go
variable [Lib] [Has1] [Has2] [Has3] [Has4] [Has6] [Has7] [Has8] [Has9] [Has14] [Has15]
abbrev ints1 (l : List Int) : Obj := .arr 1 false 0 ((l.map (T.int .i64)).map .t)
def ofP (l : List Int) (r : Int) (q : Nat) : Bool := decide (nth l q < 1099511627776) && decide (nth l q ≤ r)
abbrev ofH (l : List Int) (r : Int) : Heap := [.box [.ref 2 0 l.length], .box [I r], ints1 l]
theorem ofC_ok (l : List Int) (r : Int) (k : Nat) (hk : k < l.length) : CALL 0 N.area_Of_1 [I k, .bp 0 0, .bp 1 0] (ofH l r) = some (B (ofP l r k), ofH l r) := by
  refine CALL_of K.t_area_Of_1 rfl ?_
  unfold ofP
  by_cases c1 : nth l k < 1099511627776 <;> by_cases c2 : nth l k ≤ r
  · simp (disch := omega) only [go_sem, K.area_Of_1, ↓reduceIte, c1, c2, decide_true, Bool.and_self, Nat.reduceAdd, Nat.reduceSub]
  · simp (disch := omega) only [go_sem, K.area_Of_1, ↓reduceIte, c1, c2, decide_true, decide_false, Bool.and_false, Nat.reduceAdd, Nat.reduceSub]
  · simp (disch := omega) only [go_sem, K.area_Of_1, ↓reduceIte, c1, c2, decide_true, decide_false, Bool.false_and, Nat.reduceAdd, Nat.reduceSub]
  · simp (disch := omega) only [go_sem, K.area_Of_1, ↓reduceIte, c1, c2, decide_true, decide_false, Bool.and_self, Nat.reduceAdd, Nat.reduceSub]
theorem ofW_ok (l : List Int) (hl : l.length ≤ 64) (r : Int) : CALL 0 N.lists_Where [I l.length, .fn N.area_Of_1 [.bp 0 0, .bp 1 0]] (ofH l r) = some (.t (tL (whereF l.length (ofP l r))), ofH l r) := by
  refine CALL_of K.t_lists_Where rfl ?_
  have hlen := fun k => whereF_len k (ofP l r)
  have loop : ∀ z2 z4 : D, exS CALL K.lists_Where_l1 ⟨[I l.length, .fn N.area_Of_1 [.bp 0 0, .bp 1 0], z2, .ref 3 0 0, z4, I l.length, I 0], ofH l r ++ [.arr 1 false 0 []]⟩ =
      some (.exit 0, ⟨[.und, .fn N.area_Of_1 [.bp 0 0, .bp 1 0], .und, .ref 3 0 (whereF l.length (ofP l r)).length, .und, I l.length, I l.length], ofH l r ++ [ints1 (whereF l.length (ofP l r))]⟩) := by
    intro z2 z4
    refine loop_up (fun j => ⟨[.und, .fn N.area_Of_1 [.bp 0 0, .bp 1 0], .und, .ref 3 0 (whereF j (ofP l r)).length, .und, I l.length, I j], ofH l r ++ [ints1 (whereF j (ofP l r))]⟩) l.length rfl ?_ ?_ (by simp)
    · intro j hj
      have hc := ofC_ok l r j hj
      have := hlen j
      have ws := whereF_succ j (ofP l r)
      generalize ofP l r j = b at *
      generalize whereF j (ofP l r) = out at *
      generalize whereF (j + 1) (ofP l r) = out2 at *
      cases b with
      | true =>
        simp only [if_true] at ws; subst ws
        simp only [List.cons_append, List.nil_append]
        simp (disch := omega) only [go_sem, K.lists_Where_l1b, ↓reduceIte, hc, ints1, Nat.reduceAdd, Nat.reduceSub]
      | false =>
        simp only [Bool.false_eq_true, if_false] at ws; subst ws
        simp only [List.cons_append, List.nil_append]
        simp (disch := omega) only [go_sem, K.lists_Where_l1b, ↓reduceIte, hc, Nat.reduceAdd, Nat.reduceSub]
    · simp only [List.cons_append, List.nil_append]
      simp (disch := omega) only [go_sem, K.lists_Where_l1b, ↓reduceIte, Nat.reduceAdd, Nat.reduceSub]
  have := hlen l.length
  generalize whereF l.length (ofP l r) = out at *
  simp only [List.cons_append, List.nil_append] at loop
  simp (disch := omega) only [go_sem, K.lists_Where, ↓reduceIte, loop, Nat.reduceAdd, Nat.reduceSub]
theorem set_nth_id' (l : List Int) (i : Nat) (h : i < l.length) : l.set i (nth l i) = l := ext_nthW (by simp) fun j hj => by rw [set_nthW _ _ h]; split <;> simp_all
abbrev aoV (r : Int) (ch : D) (i : D) (n : D) (rs : D) : List D := [.und, .und, .und, .bp 0 0, .bp 1 0, .und, .und, .bp 3 0, ch, .und, .und, rs, n, i]
abbrev aoH (m : Mine) (r : Int) (l : List Int) : Heap := [.box (mineCells m), .box [I r], ints1 l, .box [.ref 2 0 l.length]]
theorem ao_step {m : Mine} (h : m.ok) (r : Int) (l : List Int) (hl : l.length = m.places.length) (hb : bnd l) (k : Nat) (hk : k < m.roads.length) (ch : Bool) :
    roundC true [0, 1, 2, 5, 6, 9, 10] 4 (exS CALL K.area_Of_l2b ⟨aoV r (B ch) (I k) (I m.roads.length) (.t (.sl (m.roads.map Road.e))), aoH m r l⟩) =
    some ⟨aoV r (B (ofR (nth m.roads k) (l, ch)).2) (I (k + 1)) (I m.roads.length) (.t (.sl (m.roads.map Road.e))), aoH m r (ofR (nth m.roads k) (l, ch)).1⟩ := by
  have np := h.np
  have nr := h.nr
  have ex : (m.roads.map Road.e)[k]? = some (nth m.roads k).e := map_nth _ hk
  obtain ⟨f0, f1, t0, t1, ne, l0, l1, -⟩ := h.rs _ (nth_mem hk)
  unfold ofR
  simp only
  generalize nth m.roads k = x at *
  obtain ⟨frm, to, len, area, walk, closed, rl, rh, ll, lh⟩ := x
  simp only at *
  have b1 := hb _ (nth_mem (l := l) (j := frm.toNat) (by omega))
  have b2 := hb _ (nth_mem (l := l) (j := to.toNat) (by omega))
  have s1 := set_nth_id' l frm.toNat (by omega)
  have s2 := set_nth_id' l to.toNat (by omega)
  obtain ⟨places, roads⟩ := m
  simp only [mineCells, aoV, aoH] at *
  cases closed with
  | true =>
    simp only [if_true]
    simp (disch := omega) only [go_sem, K.area_Of_l2b, ↓reduceIte, ex, Nat.reduceAdd, Nat.reduceSub]
  | false =>
    simp only [Bool.false_eq_true, if_false]
    by_cases c : nth l frm.toNat + len < nth l to.toNat
    · rw [if_pos c]
      have m1 : min (nth l frm.toNat) (nth l to.toNat) = nth l frm.toNat := by omega
      have m2 : max (nth l frm.toNat) (nth l to.toNat) = nth l to.toNat := by omega
      have m3 : min (nth l frm.toNat) (nth l frm.toNat + len) = nth l frm.toNat := by omega
      have m4 : min (nth l to.toNat) (nth l frm.toNat + len) = nth l frm.toNat + len := by omega
      simp (disch := omega) only [go_sem, K.area_Of_l2b, ↓reduceIte, ex, c, m1, m2, m3, m4, s1, List.length_set, Nat.reduceAdd, Nat.reduceSub]
    · rw [if_neg c]
      by_cases c2 : nth l to.toNat + len < nth l frm.toNat
      · rw [if_pos c2]
        have m1 : min (nth l frm.toNat) (nth l to.toNat) = nth l to.toNat := by omega
        have m2 : max (nth l frm.toNat) (nth l to.toNat) = nth l frm.toNat := by omega
        have m3 : min (nth l frm.toNat) (nth l to.toNat + len) = nth l to.toNat + len := by omega
        have m4 : min (nth l to.toNat) (nth l to.toNat + len) = nth l to.toNat := by omega
        have g1 : nth (l.set frm.toNat (nth l to.toNat + len)) to.toNat = nth l to.toNat := by rw [set_nthW _ _ (by omega), if_neg (by omega)]
        have g2 : (((l.set frm.toNat (nth l to.toNat + len)).map (T.int .i64)).map D.t)[to.toNat]? = some (D.t (T.int .i64 (nth l to.toNat))) := by rw [map2_nth _ _ (by rw [List.length_set]; omega), g1]
        have g3 := set_nth_id' (l.set frm.toNat (nth l to.toNat + len)) to.toNat (by rw [List.length_set]; omega)
        rw [g1] at g3
        simp (disch := omega) only [go_sem, K.area_Of_l2b, ↓reduceIte, ex, c2, m1, m2, m3, m4, g2, g3, List.length_set, Nat.reduceAdd, Nat.reduceSub]
      · rw [if_neg c2]
        have c3 : ¬ (min (nth l frm.toNat) (nth l to.toNat) + len < max (nth l frm.toNat) (nth l to.toNat)) := by omega
        simp (disch := omega) only [go_sem, K.area_Of_l2b, ↓reduceIte, ex, c3, Nat.reduceAdd, Nat.reduceSub]
theorem ao_in {m : Mine} (h : m.ok) {p : Nat} (r : Int) {l : List Int} (hi : OfI m p l) : ∀ z0 z1 z2 z5 z6 z9 z10 : D,
    exS CALL K.area_Of_l2 ⟨[z0, z1, z2, .bp 0 0, .bp 1 0, z5, z6, .bp 3 0, B false, z9, z10, .t (.sl (m.roads.map Road.e)), I m.roads.length, I 0], aoH m r l⟩ =
    some (.exit 3, ⟨aoV r (B (ofG m l).2) (I m.roads.length) (I m.roads.length) (.t (.sl (m.roads.map Road.e))), aoH m r (ofG m l).1⟩) := by
  intro z0 z1 z2 z5 z6 z9 z10
  refine loop_up (fun k => ⟨aoV r (B (ofN m l k).2) (I k) (I m.roads.length) (.t (.sl (m.roads.map Road.e))), aoH m r (ofN m l k).1⟩) m.roads.length rfl ?_ ?_ (by simp)
  · intro k hk
    obtain ⟨i1, -⟩ := ofN_is h hi k (by omega)
    exact ao_step h r (ofN m l k).1 i1.ln i1.bd k hk (ofN m l k).2
  · have nr := h.nr
    unfold ofG
    generalize ofN m l m.roads.length = q
    obtain ⟨l', b⟩ := q
    obtain ⟨places, roads⟩ := m
    simp only [mineCells, aoV, aoH]
    simp (disch := omega) only [go_sem, K.area_Of_l2b, ↓reduceIte, Nat.reduceAdd, Nat.reduceSub]
theorem area_Of_ok {m : Mine} (h : m.ok) {p : Nat} (hp : p < m.places.length) (r : Int) (hr : 0 ≤ r) : CALL 0 N.area_Of [.t m.e, I p, I r] [] = some (.tup [.t (tL (ofL m p r)), I 0], []) := by
  refine CALL_of K.t_area_Of rfl ?_
  have np := h.np
  have pv := planValid_ok h
  have li := in_ok p 0 ((m.places.length : Int) - 1)
  rw [show decide ((0 : Int) ≤ p ∧ (p : Int) ≤ (m.places.length : Int) - 1) = true by rw [decide_eq_true_eq]; omega] at li
  have rp : CALL 1 N.slices_Repeat_int_int [.t (.sl [.int .i64 1099511627776]), I m.places.length] [] = _ := repeat_ok 1099511627776 m.places.length (by omega) (by omega)
  have fi := ofD_I h hp
  have lp := fun z0 z1 z2 z5 z6 z9 z10 z11 z12 z13 : D => loop_again (gc := true) (dead := [0, 1, 2, 5, 6, 9, 10, 11, 12, 13]) (c := K.area_Of_l1b) (vs := [z0, z1, z2, .bp 0 0, .bp 1 0, z5, z6, .bp 3 0, B true, z9, z10, z11, z12, z13]) (H := aoH m r (ofB m p))
    (fun l ch => ⟨[.und, .und, .und, .bp 0 0, .bp 1 0, .und, .und, .bp 3 0, B ch, .und, .und, .und, .und, .und], aoH m r l⟩)
    (fun l => (.exit 1, ⟨[.und, .und, .und, .bp 0 0, .bp 1 0, .und, .und, .bp 3 0, B false, .und, .und, .und, .und, .und], aoH m r l⟩))
    (ofG m) (OfI m p) sumN (fun l hl => ⟨(ofN_is h hl _ (Nat.le_refl _)).1, (ofN_is h hl _ (Nat.le_refl _)).2.1⟩)
    (by
      intro l hl
      have := ao_in h r hl
      have ln := (ofN_is h hl _ (Nat.le_refl _)).1.ln
      have ln0 := hl.ln
      unfold ofG at *
      generalize ofN m l m.roads.length = q at *
      obtain ⟨l', b⟩ := q
      obtain ⟨places, roads⟩ := m
      simp only [mineCells, aoV, aoH] at *
      simp (disch := omega) only [go_sem, K.area_Of_l1b, ↓reduceIte, this, Nat.reduceAdd, Nat.reduceSub]
      )
    (by
      intro l hl
      obtain ⟨places, roads⟩ := m
      simp only [mineCells, aoH]
      simp (disch := omega) only [go_sem, K.area_Of_l1b, ↓reduceIte, reduceCtorEq, ne_eq, not_false_eq_true, and_self, Nat.reduceAdd, Nat.reduceSub]
      )
    (ofB m p) (ofB_I hp) rfl
  have o1 : ∀ z0 z1 z2 z5 z6 z9 z10 z11 z12 z13 : D, exS CALL K.area_Of_l1 ⟨[z0, z1, z2, .bp 0 0, .bp 1 0, z5, z6, .bp 3 0, B true, z9, z10, z11, z12, z13], aoH m r (ofB m p)⟩ = _ := fun z0 z1 z2 z5 z6 z9 z10 z11 z12 z13 => (lp z0 z1 z2 z5 z6 z9 z10 z11 z12 z13).1
  clear lp
  have wh := ofW_ok (ofD m p) (by rw [fi.2.ln]; exact np) r
  rw [fi.2.ln] at wh
  rw [show List.replicate m.places.length (I 1099511627776) = (((neverL m.places.length).map (T.int .i64)).map .t) by simp [neverL]] at rp
  have dl := fi.2.ln
  have nl := neverL_len m.places.length
  have e : ofL m p r = whereF m.places.length (ofP (ofD m p) r) := rfl
  rw [e]
  clear e fi
  have wl := whereF_len m.places.length (ofP (ofD m p) r)
  unfold ofD ofB at *
  generalize closeN (ofG m) (sumN ((neverL m.places.length).set p 0) + 1) ((neverL m.places.length).set p 0) = F at *
  generalize whereF m.places.length (ofP F r) = out at *
  generalize neverL m.places.length = ne at *
  obtain ⟨places, roads⟩ := m
  simp only [mineCells, aoH] at *
  simp only [ofH, ints1, List.length_set, nl, dl] at o1 wh
  simp (disch := omega) only [go_sem, K.area_Of, ↓reduceIte, pv, li, rp, o1, wh, Bool.not_true, List.length_set, Nat.reduceAdd, Nat.reduceSub]
end Go.Ev

namespace Go.Ev
open Go
variable [Lib] [Has1] [Has2] [Has6] [Has7]
end Go.Ev

namespace Go.Ev
open Go
variable [Lib] [Has1] [Has2] [Has6] [Has7]
abbrev smMax : Int := 2147483648
end Go.Ev

namespace Go.Ev
open Go
variable [Lib] [Has1] [Has2] [Has6] [Has7]
section
variable {m : Mine} (h : m.ok) {fl : List Spn}
include h
end
end Go.Ev

namespace Go.Ev
open Go
def clP (m : Mine) (fl : List Spn) (y : List Int) : Prop := ∀ k, k < m.roads.length → ∀ back, 0 ≤ travelF (nth m.roads k) (nth fl k) back →
  nth y ((nth m.roads k).src back).toNat + travelF (nth m.roads k) (nth fl k) back ≤ smMax →
  nth y ((nth m.roads k).dst back).toNat ≤ nth y ((nth m.roads k).src back).toNat + travelF (nth m.roads k) (nth fl k) back
variable [Lib] [Has1] [Has2] [Has6] [Has7]
end Go.Ev

namespace Go.Ev
open Go
variable [Lib] [Has1] [Has2] [Has6] [Has7]
end Go.Ev

namespace Go.Ev
open Go
variable [Lib] [Has1] [Has2] [Has6] [Has7]
end Go.Ev

namespace Go.Ev
open Go
variable [Lib] [Has1] [Has2] [Has6] [Has7]
def tmOk (l : List Int) : Prop := ∀ x ∈ l, 0 ≤ x ∧ (x ≤ smMax ∨ x = 1099511627776)
theorem tmOk.bnd {l : List Int} (h : tmOk l) : bnd l := fun x hx => by have := h x hx; simp only [smMax] at this; omega
end Go.Ev

namespace Go.Ev
open Go
variable [Lib] [Has1] [Has2] [Has3] [Has4] [Has6] [Has7]
end Go.Ev

namespace Go.Ev
open Go
variable [Lib] [Has1] [Has2] [Has3] [Has4] [Has6] [Has7]
end Go.Ev

namespace Go.Ev
open Go
variable [Lib] [Has1] [Has2] [Has3] [Has4] [Has6] [Has7]
end Go.Ev

namespace Go.Ev
open Go
variable [Lib] [Has1] [Has2]
@[go_sem] theorem appOK_place (l : List Place) : appOK 2 (l.map Place.e) = true := by cases l <;> rfl
@[go_sem] theorem appOK_road (l : List Road) : appOK 10 (l.map Road.e) = true := by cases l <;> rfl
@[go_sem] theorem ldBox_dice (H : Heap) (d : Dice) : ldBox H 0 1 false (some d.obj) = some (.t (tL d.L), H) := by simp only [Dice.obj, go_sem]
def Dice.placesN (d : Dice) : Nat → List Place × Dice
  | 0 => ([], d)
  | k + 1 => if k = 0 then ((d.placesN k).1 ++ [⟨-10 * ((d.placesN k).2.next 4).1, true⟩], ((d.placesN k).2.next 4).2)
    else ((d.placesN k).1 ++ [⟨-10 * ((d.placesN k).2.next 4).1, (((d.placesN k).2.next 4).2.one 6).1⟩], (((d.placesN k).2.next 4).2.one 6).2)
def Dice.road1 (d : Dice) (i : Int) : Road × Dice :=
  (⟨i - 1 - (d.next (min i 2)).1, i, 1 + ((d.next (min i 2)).2.of [11, 59, 119, 4]).1, 1 + (((d.next (min i 2)).2.of [11, 59, 119, 4]).2.of [9, 3, 19]).1, true, false, 1, 1, 0, 0⟩,
    (((d.next (min i 2)).2.of [11, 59, 119, 4]).2.of [9, 3, 19]).2)
def Dice.roadsN (d : Dice) : Nat → List Road × Dice
  | 0 => ([], d)
  | k + 1 => ((d.roadsN k).1 ++ [((d.roadsN k).2.road1 (k + 1)).1], ((d.roadsN k).2.road1 (k + 1)).2)
def Dice.road2 (d : Dice) (n : Int) : Road × Dice :=
  let a := d.next n
  let b := a.2.next n
  let l := b.2.of [11, 59, 199]
  let r := l.2.of [9, 3]
  let w := r.2.next 5
  let c := w.2.one 6
  (⟨a.1, b.1, 1 + l.1, 1 + r.1, decide (0 < w.1), c.1, 1, 1, 0, 0⟩, c.2)
def Dice.more (n : Int) (l : List Road) (d : Dice) : Nat → List Road × Dice
  | 0 => (l, d)
  | k + 1 => if l.length < 10 then Dice.more n (if (d.road2 n).1.frm = (d.road2 n).1.to then l else l ++ [(d.road2 n).1]) (d.road2 n).2 k else (l, d)
def Dice.mineN (d : Dice) : Nat := if d.L.length = 0 then 4 else (2 + (d.next 6).1).toNat
def Dice.mineP (d : Dice) : List Place × Dice := (d.next 6).2.placesN d.mineN
def Dice.mineR (d : Dice) : List Road × Dice := d.mineP.2.roadsN (d.mineN - 1)
def Dice.mineX (d : Dice) : List Road × Dice := Dice.more d.mineN d.mineR.1 (d.mineR.2.next 4).2 (d.mineR.2.next 4).1.toNat
def Dice.mine (d : Dice) : Mine × Dice := (⟨d.mineP.1, d.mineX.1⟩, d.mineX.2)
theorem Dice.placesN_light {d : Dice} (h : d.light) : ∀ n, (d.placesN n).2.light
  | 0 => h
  | n + 1 => by
    unfold Dice.placesN
    split
    · exact Dice.next_light (Dice.placesN_light h n) 4
    · exact Dice.one_light (Dice.next_light (Dice.placesN_light h n) 4) 6
theorem Dice.placesN_len (d : Dice) : ∀ n, (d.placesN n).1.length = n
  | 0 => rfl
  | n + 1 => by
    unfold Dice.placesN
    split <;> simp [d.placesN_len n]
theorem Dice.road1_light {d : Dice} (h : d.light) (i : Int) : (d.road1 i).2.light := Dice.of_light (Dice.of_light (Dice.next_light h _) _) _
theorem Dice.roadsN_light {d : Dice} (h : d.light) : ∀ n, (d.roadsN n).2.light
  | 0 => h
  | n + 1 => Dice.road1_light (Dice.roadsN_light h n) _
theorem Dice.roadsN_len (d : Dice) : ∀ n, (d.roadsN n).1.length = n
  | 0 => rfl
  | n + 1 => by simp [Dice.roadsN, d.roadsN_len n]
theorem Dice.road2_light {d : Dice} (h : d.light) (n : Int) : (d.road2 n).2.light := by
  unfold Dice.road2; simp only
  exact Dice.one_light (Dice.next_light (Dice.of_light (Dice.of_light (Dice.next_light (Dice.next_light h _) _) _) _) _) _
theorem Dice.more_light (n : Int) : ∀ (k : Nat) (l : List Road) {d : Dice}, d.light → (Dice.more n l d k).2.light
  | 0, l, d, h => h
  | k + 1, l, d, h => by
    unfold Dice.more
    split
    · exact Dice.more_light n k _ (Dice.road2_light h n)
    · exact h
theorem Dice.mine_light {d : Dice} (h : d.light) : d.mine.2.light :=
  Dice.more_light _ _ _ (Dice.next_light (Dice.roadsN_light (Dice.placesN_light (Dice.next_light h _) _) _) _)
abbrev roadBox : List D := [I 0, I 0, I 12, I 10, B true, B false, I 1, I 1, I 0, I 0]
theorem mine_loop1 (d : Dice) (hd : d.light) (n : Nat) (hn : n ≤ 8) (a b c e f : D) :
    exS CALL K.made_Dice_Mine_l1 ⟨[.bp 0 0, .bp 1 0, .bp 2 0, I n, I 0, a, b, c, e, f], [d.obj, .box [.nil, .nil], .box [.ref 3 0 0, .ref 4 0 0], .arr 2 false 0 [], .arr 10 false 0 []]⟩ =
    some (.exit 0, ⟨[.bp 0 0, .bp 1 0, .bp 2 0, I n, I n, .und, .und, .und, .und, .und], [(d.placesN n).2.obj, .box [.nil, .nil], .box [.ref 3 0 (d.placesN n).1.length, .ref 4 0 0], .arr 2 false 0 (((d.placesN n).1.map Place.e).map .t), .arr 10 false 0 []]⟩) := by
  refine loop_up (fun j => ⟨[.bp 0 0, .bp 1 0, .bp 2 0, I n, I j, .und, .und, .und, .und, .und], [(d.placesN j).2.obj, .box [.nil, .nil], .box [.ref 3 0 (d.placesN j).1.length, .ref 4 0 0], .arr 2 false 0 (((d.placesN j).1.map Place.e).map .t), .arr 10 false 0 []]⟩) n rfl ?_ ?_ (by simp)
  · intro j hj
    have ln := d.placesN_len j
    have lt := Dice.placesN_light hd j
    simp only [Dice.placesN]
    generalize d.placesN j = s at *
    obtain ⟨l, d1⟩ := s
    simp only at ln lt ⊢
    have h1 := next_ok d1 4 (by omega) lt
    have b1 := d1.next_lo 4
    have b2 := d1.next_hi (n := 4) (by omega)
    have l1 := Dice.next_light lt 4
    generalize d1.next 4 = a1 at *
    obtain ⟨x, d2⟩ := a1
    simp only at h1 b1 b2 l1 ⊢
    by_cases j0 : j = 0
    · subst j0
      simp (disch := omega) only [go_sem, K.made_Dice_Mine_l1b, h1, ↓reduceIte, Nat.reduceAdd, Nat.reduceSub]
    · have h2 := one_ok d2 6 (by omega) (by omega) l1
      simp (disch := omega) only [go_sem, K.made_Dice_Mine_l1b, h1, h2, j0, ↓reduceIte, Nat.reduceAdd, Nat.reduceSub]
  · simp (disch := omega) only [go_sem, K.made_Dice_Mine_l1b, ↓reduceIte]
theorem mine_loop2 (d : Dice) (hd : d.light) (n : Nat) (hn : n ≤ 8) (h1 : 1 ≤ n) (ps : List Place) (a b c e : D) :
    exS CALL K.made_Dice_Mine_l2 ⟨[.bp 0 0, .bp 1 0, .bp 2 0, I n, a, .bp 5 0, I 1, b, c, e], [d.obj, .box [.nil, .nil], .box [.ref 3 0 ps.length, .ref 4 0 0], .arr 2 false 0 ((ps.map Place.e).map .t), .arr 10 false 0 [], .box roadBox]⟩ =
    some (.exit 2, ⟨[.bp 0 0, .bp 1 0, .bp 2 0, I n, .und, .bp 5 0, I n, .und, .und, .und], [(d.roadsN (n - 1)).2.obj, .box [.nil, .nil], .box [.ref 3 0 ps.length, .ref 4 0 (d.roadsN (n - 1)).1.length], .arr 2 false 0 ((ps.map Place.e).map .t), .arr 10 false 0 (((d.roadsN (n - 1)).1.map Road.e).map .t), .box roadBox]⟩) := by
  refine loop_up (fun j => ⟨[.bp 0 0, .bp 1 0, .bp 2 0, I n, .und, .bp 5 0, I (j + 1), .und, .und, .und], [(d.roadsN j).2.obj, .box [.nil, .nil], .box [.ref 3 0 ps.length, .ref 4 0 (d.roadsN j).1.length], .arr 2 false 0 ((ps.map Place.e).map .t), .arr 10 false 0 (((d.roadsN j).1.map Road.e).map .t), .box roadBox]⟩) (n - 1) rfl ?_ ?_ (by simp)
  · intro j hj
    have ln := d.roadsN_len j
    have lt := Dice.roadsN_light hd j
    simp only [Dice.roadsN]
    generalize d.roadsN j = s at *
    obtain ⟨l, d1⟩ := s
    simp only [Dice.road1] at ln lt ⊢
    have h1 := next_ok d1 (min ((j : Int) + 1) 2) (by omega) lt
    have b1 := d1.next_lo (min ((j : Int) + 1) 2)
    have b2 := d1.next_hi (n := min ((j : Int) + 1) 2) (by omega)
    have l1 := Dice.next_light lt (min ((j : Int) + 1) 2)
    generalize d1.next (min ((j : Int) + 1) 2) = a1 at *
    obtain ⟨x, d2⟩ := a1
    simp only at h1 b1 b2 l1 ⊢
    have h2 := of_ok d2 [11, 59, 119, 4] (by simp) (by simp) l1
    have m2 := d2.of_mem (l := [11, 59, 119, 4]) (by simp)
    have l2 := Dice.of_light l1 [11, 59, 119, 4]
    generalize d2.of [11, 59, 119, 4] = a2 at *
    obtain ⟨y, d3⟩ := a2
    simp only [tL, List.map_cons, List.map_nil] at h2 m2 l2 ⊢
    have h3 := of_ok d3 [9, 3, 19] (by simp) (by simp) l2
    have m3 := d3.of_mem (l := [9, 3, 19]) (by simp)
    generalize d3.of [9, 3, 19] = a3 at *
    obtain ⟨z, d4⟩ := a3
    simp only [tL, List.map_cons, List.map_nil, List.mem_cons, List.not_mem_nil, or_false] at h3 m2 m3 ⊢
    simp (disch := omega) only [go_sem, K.made_Dice_Mine_l2b, h1, h2, h3, ↓reduceIte, Nat.reduceAdd, Nat.reduceSub]
  · simp (disch := omega) only [go_sem, K.made_Dice_Mine_l2b, ↓reduceIte]
    rw [show ((n - 1 : Nat) : Int) + 1 = n by omega]
abbrev mineH (d : Dice) (ps : List Place) (l : List Road) : Heap := [d.obj, .box [.nil, .nil], .box [.ref 3 0 ps.length, .ref 4 0 l.length], .arr 2 false 0 ((ps.map Place.e).map .t), .arr 10 false 0 ((l.map Road.e).map .t), .box roadBox]
theorem mine_round (d : Dice) (hd : d.light) (n : Int) (hn : 1 ≤ n) (hn2 : n ≤ 8) (ps : List Place) (l : List Road) (hl : l.length < 10) (k : Nat) (hk : k ≤ 10) :
    roundC true [4, 6, 7, 9] 6 (exS CALL K.made_Dice_Mine_l3b ⟨[.bp 0 0, .bp 1 0, .bp 2 0, I n, .und, .bp 5 0, .und, .und, I (k + 1), .und], mineH d ps l⟩) =
    some ⟨[.bp 0 0, .bp 1 0, .bp 2 0, I n, .und, .bp 5 0, .und, .und, I k, .und], mineH (d.road2 n).2 ps (if (d.road2 n).1.frm = (d.road2 n).1.to then l else l ++ [(d.road2 n).1])⟩ := by
  unfold Dice.road2 mineH
  simp only
  have h1 := next_ok d n (by omega) hd
  have l1 := Dice.next_light hd n
  generalize d.next n = a1 at *
  obtain ⟨x1, d1⟩ := a1
  simp only at h1 l1 ⊢
  have h2 := next_ok d1 n (by omega) l1
  have l2 := Dice.next_light l1 n
  generalize d1.next n = a2 at *
  obtain ⟨x2, d2⟩ := a2
  simp only at h2 l2 ⊢
  have h3 := of_ok d2 [11, 59, 199] (by simp) (by simp) l2
  have m3 := d2.of_mem (l := [11, 59, 199]) (by simp)
  have l3 := Dice.of_light l2 [11, 59, 199]
  generalize d2.of [11, 59, 199] = a3 at *
  obtain ⟨x3, d3⟩ := a3
  simp only [tL, List.map_cons, List.map_nil] at h3 m3 l3 ⊢
  have h4 := of_ok d3 [9, 3] (by simp) (by simp) l3
  have m4 := d3.of_mem (l := [9, 3]) (by simp)
  have l4 := Dice.of_light l3 [9, 3]
  generalize d3.of [9, 3] = a4 at *
  obtain ⟨x4, d4⟩ := a4
  simp only [tL, List.map_cons, List.map_nil] at h4 m4 l4 ⊢
  have h5 := next_ok d4 5 (by omega) l4
  have l5 := Dice.next_light l4 5
  generalize d4.next 5 = a5 at *
  obtain ⟨x5, d5⟩ := a5
  simp only at h5 l5 ⊢
  have h6 := one_ok d5 6 (by omega) (by omega) l5
  generalize d5.one 6 = a6 at *
  obtain ⟨x6, d6⟩ := a6
  simp only [List.mem_cons, List.not_mem_nil, or_false] at h6 m3 m4 ⊢
  by_cases e : x1 = x2
  · simp (disch := omega) only [go_sem, K.made_Dice_Mine_l3b, h1, h2, h3, h4, h5, h6, e, ↓reduceIte, Nat.reduceAdd, Nat.reduceSub]
  · simp (disch := omega) only [go_sem, K.made_Dice_Mine_l3b, h1, h2, h3, h4, h5, h6, e, ↓reduceIte, Nat.reduceAdd, Nat.reduceSub]
theorem mine_loop3 (n : Int) (hn : 1 ≤ n) (hn2 : n ≤ 8) (ps : List Place) : ∀ (k : Nat) (d : Dice) (l : List Road), d.light → l.length ≤ 10 → k ≤ 10 →
    ∃ z : Int, loopC true [4, 6, 7, 9] (exS CALL K.made_Dice_Mine_l3b) ⟨[.bp 0 0, .bp 1 0, .bp 2 0, I n, .und, .bp 5 0, .und, .und, I k, .und], mineH d ps l⟩ =
    some (.exit 4, ⟨[.bp 0 0, .bp 1 0, .bp 2 0, I n, .und, .bp 5 0, .und, .und, I z, .und], mineH (Dice.more n l d k).2 ps (Dice.more n l d k).1⟩)
  | 0, d, l, hd, hl, hk => by
    refine ⟨0, loopC_exit ?_ (by simp)⟩
    simp (disch := omega) only [go_sem, K.made_Dice_Mine_l3b, Dice.more, ↓reduceIte, Nat.reduceAdd, Nat.reduceSub]
  | k + 1, d, l, hd, hl, hk => by
    by_cases h : l.length < 10
    · have hr := mine_round d hd n hn hn2 ps l h k (by omega)
      obtain ⟨z, hz⟩ := mine_loop3 n hn hn2 ps k (d.road2 n).2 (if (d.road2 n).1.frm = (d.road2 n).1.to then l else l ++ [(d.road2 n).1]) (Dice.road2_light hd n) (by split <;> (try rw [List.length_append, List.length_singleton]) <;> omega) (by omega)
      refine ⟨z, loopC_step hr ?_⟩
      rw [hz]
      simp only [Dice.more, if_pos h]
    · refine ⟨(k : Int) + 1, loopC_exit ?_ (by simp)⟩
      simp (disch := omega) only [go_sem, K.made_Dice_Mine_l3b, Dice.more, ↓reduceIte, Nat.reduceAdd, Nat.reduceSub]
theorem Dice.more_len (n : Int) : ∀ (k : Nat) (l : List Road) (d : Dice), l.length ≤ 10 → (Dice.more n l d k).1.length ≤ 10
  | 0, l, d, h => h
  | k + 1, l, d, h => by
    unfold Dice.more
    split
    · exact Dice.more_len n k _ _ (by split <;> (try rw [List.length_append, List.length_singleton]) <;> omega)
    · exact h
theorem Dice.mineN_bd (d : Dice) : 2 ≤ d.mineN ∧ d.mineN ≤ 7 := by
  unfold Dice.mineN
  have := d.next_lo 6
  have := d.next_hi (n := 6) (by omega)
  split <;> omega
theorem mine_ok (d : Dice) (hd : d.light) : CALL 0 N.made_Dice_Mine [.bp 0 0] [d.obj] = some (.t d.mine.1.e, [d.mine.2.obj]) := by
  refine CALL_of K.t_made_Dice_Mine rfl ?_
  have nb := d.mineN_bd
  unfold Dice.mine
  have h0 := next_ok d 6 (by omega) hd
  have l0 := Dice.next_light hd 6
  have b1 := d.next_lo 6
  have b2 := d.next_hi (n := 6) (by omega)
  have hL := d.next_L 6
  have hN : (d.mineN : Int) = if d.L.length = 0 then 4 else 2 + (d.next 6).1 := by unfold Dice.mineN; split <;> omega
  have e1 : d.mineX = Dice.more d.mineN d.mineR.1 (d.mineR.2.next 4).2 (d.mineR.2.next 4).1.toNat := rfl
  have e2 : d.mineR = d.mineP.2.roadsN (d.mineN - 1) := rfl
  have e3 : d.mineP = (d.next 6).2.placesN d.mineN := rfl
  generalize d.mineX = X at *
  generalize d.mineR = R at *
  generalize d.mineP = P at *
  generalize d.mineN = n at *
  generalize d.next 6 = a at *
  obtain ⟨x, d1⟩ := a
  simp only at h0 l0 b1 b2 hL hN e3 ⊢
  have q1 := mine_loop1 d1 l0 n (by omega)
  have lP := Dice.placesN_light l0 n
  have nP := d1.placesN_len n
  rw [← e3] at q1 lP nP
  obtain ⟨ps, d2⟩ := P
  simp only at q1 lP nP e2 ⊢
  have q2 := mine_loop2 d2 lP n (by omega) (by omega) ps
  have lR := Dice.roadsN_light lP (n - 1)
  have nR := d2.roadsN_len (n - 1)
  rw [← e2] at q2 lR nR
  obtain ⟨rs, d3⟩ := R
  simp only at q2 lR nR e1 ⊢
  have h4 := next_ok d3 4 (by omega) lR
  have l4 := Dice.next_light lR 4
  have b3 := d3.next_lo 4
  have b4 := d3.next_hi (n := 4) (by omega)
  generalize d3.next 4 = c at *
  obtain ⟨y, d4⟩ := c
  simp only at h4 l4 b3 b4 e1 ⊢
  obtain ⟨z, q3⟩ := mine_loop3 n (by omega) (by omega) ps y.toNat d4 rs l4 (by omega) (by omega)
  rw [← e1] at q3
  have q3 := loop_is (vs := [.bp 0 0, .bp 1 0, .bp 2 0, I n, .und, .bp 5 0, I n, .und, I y.toNat, .und]) q3
  have ey : (y.toNat : Int) = y := by omega
  rw [ey] at q3
  obtain ⟨xs, d5⟩ := X
  have fin : ∀ k : Int, (exS CALL K.made_Dice_Mine_l3 ⟨[.bp 0 0, .bp 1 0, .bp 2 0, I n, .und, .bp 5 0, I n, .und, I y, .und], mineH d4 ps rs⟩) =
      some (.exit 4, ⟨[.bp 0 0, .bp 1 0, .bp 2 0, I n, .und, .bp 5 0, .und, .und, I z, .und], mineH d5 ps xs⟩) := fun _ => q3
  clear q3
  have q3 := fin 0
  clear fin
  simp only [mineH] at q3
  by_cases c0 : d.L.length = 0
  · rw [if_pos c0] at hN
    obtain rfl : n = 4 := by omega
    have e4 : ((4 : Nat) : Int) = 4 := rfl
    simp only [e4] at q1 q2 q3
    simp (disch := omega) only [go_sem, K.made_Dice_Mine, ↓reduceIte, h0, c0, q1, q2, q3, h4, hL, Nat.reduceAdd, Nat.reduceSub]
  · rw [if_neg c0] at hN
    simp (disch := omega) only [go_sem, K.made_Dice_Mine, ↓reduceIte, h0, c0, q1, q2, q3, h4, hL, hN.symm, Nat.reduceAdd, Nat.reduceSub]
theorem Dice.road1_ok (d : Dice) {n : Nat} {i : Int} (h1 : 1 ≤ i) (h2 : i < n) : (d.road1 i).1.ok n := by
  have b1 := d.next_lo (min i 2)
  have b2 := d.next_hi (n := min i 2) (by omega)
  have m2 := (d.next (min i 2)).2.of_mem (l := [11, 59, 119, 4]) (by simp)
  have m3 := ((d.next (min i 2)).2.of [11, 59, 119, 4]).2.of_mem (l := [9, 3, 19]) (by simp)
  simp only [List.mem_cons, List.not_mem_nil, or_false] at m2 m3
  unfold Dice.road1
  constructor <;> (simp only; omega)
theorem Dice.roadsN_ok (d : Dice) {n : Nat} : ∀ k, k + 1 ≤ n → ∀ r ∈ (d.roadsN k).1, r.ok n
  | 0, _, r, hr => by simp [Dice.roadsN] at hr
  | k + 1, h, r, hr => by
    simp only [Dice.roadsN, List.mem_append, List.mem_singleton] at hr
    rcases hr with hr | rfl
    · exact d.roadsN_ok k (by omega) r hr
    · exact Dice.road1_ok _ (by omega) (by omega)
theorem Dice.road2_ok (d : Dice) {n : Nat} (hn : 1 ≤ n) (hne : (d.road2 n).1.frm ≠ (d.road2 n).1.to) : (d.road2 n).1.ok n := by
  unfold Dice.road2 at hne ⊢
  simp only at hne ⊢
  have b1 := d.next_lo n
  have b2 := d.next_hi (n := (n : Int)) (by omega)
  generalize d.next n = a1 at *
  obtain ⟨x1, d1⟩ := a1
  simp only at *
  have c1 := d1.next_lo n
  have c2 := d1.next_hi (n := (n : Int)) (by omega)
  generalize d1.next n = a2 at *
  obtain ⟨x2, d2⟩ := a2
  simp only at *
  have m3 := d2.of_mem (l := [11, 59, 199]) (by simp)
  generalize d2.of [11, 59, 199] = a3 at *
  obtain ⟨x3, d3⟩ := a3
  simp only at *
  have m4 := d3.of_mem (l := [9, 3]) (by simp)
  generalize d3.of [9, 3] = a4 at *
  obtain ⟨x4, d4⟩ := a4
  simp only [List.mem_cons, List.not_mem_nil, or_false] at m3 m4 ⊢
  constructor <;> (simp only; omega)
theorem Dice.more_ok {n : Nat} (hn : 1 ≤ n) : ∀ (k : Nat) (l : List Road) (d : Dice), (∀ r ∈ l, r.ok n) → ∀ r ∈ (Dice.more n l d k).1, r.ok n
  | 0, l, d, h => h
  | k + 1, l, d, h => by
    unfold Dice.more
    split
    · refine Dice.more_ok hn k _ _ ?_
      split
      · exact h
      · rename_i hne
        intro r hr
        rcases List.mem_append.1 hr with hr | hr
        · exact h r hr
        · rw [List.mem_singleton.1 hr]; exact d.road2_ok hn hne
    · exact h
theorem Dice.more_len2 (n : Int) : ∀ (k : Nat) (l : List Road) (d : Dice), l.length ≤ (Dice.more n l d k).1.length
  | 0, l, d => Nat.le_refl _
  | k + 1, l, d => by
    unfold Dice.more
    split
    · refine Nat.le_trans ?_ (Dice.more_len2 n k _ _)
      split <;> (try rw [List.length_append]) <;> omega
    · exact Nat.le_refl _
theorem Dice.placesN_h (d : Dice) : ∀ k, ∀ p ∈ (d.placesN k).1, -30 ≤ p.h ∧ p.h ≤ 0
  | 0, p, hp => by simp [Dice.placesN] at hp
  | k + 1, p, hp => by
    have b1 := (d.placesN k).2.next_lo 4
    have b2 := (d.placesN k).2.next_hi (n := 4) (by omega)
    unfold Dice.placesN at hp
    split at hp
    all_goals
      simp only [List.mem_append, List.mem_singleton] at hp
      rcases hp with hp | rfl
      · exact d.placesN_h k p hp
      · simp only; omega
theorem Dice.mine_places (d : Dice) : d.mine.1.places.length = d.mineN := Dice.placesN_len _ _
theorem Dice.mine_roads (d : Dice) : d.mineN - 1 ≤ d.mine.1.roads.length ∧ d.mine.1.roads.length ≤ 10 := by
  have nb := d.mineN_bd
  have e : d.mineR.1.length = d.mineN - 1 := Dice.roadsN_len _ _
  constructor
  · rw [← e]; exact Dice.more_len2 _ _ _ _
  · exact Dice.more_len _ _ _ _ (by omega)
theorem Dice.mine_good (d : Dice) : d.mine.1.ok := by
  have nb := d.mineN_bd
  have h1 := d.mine_places
  have h2 := d.mine_roads
  refine ⟨by omega, by omega, fun p hp => ?_, ?_⟩
  · have := Dice.placesN_h _ _ p hp; omega
  · rw [h1]
    exact Dice.more_ok (by omega) _ _ _ (Dice.roadsN_ok _ _ (by omega))
end Go.Ev

namespace Go.Ev
open Go
variable [Lib] [Has1] [Has2]
@[go_sem] theorem appOK_spn (l : List Spn) : appOK 2 (l.map Spn.e) = true := by cases l <;> rfl
@[go_sem] theorem set_spn (l : List Spn) (k : Nat) (a b : Int) : (List.map D.t (List.map Spn.e l)).set k (D.t (T.agg [tI a, tI b])) = List.map D.t (List.map Spn.e (l.set k ⟨a, b⟩)) := by
  rw [List.map_set, List.map_set]
@[go_sem] theorem opBs_6 (H : Heap) (sz : Nat) (a b c d e f : T) : opBs H sz [.t a, .t b, .t c, .t d, .t e, .t f] = if cellsAre sz [a, b, c, d, e, f] = true then some (.t (.sl [a, b, c, d, e, f]), H) else none := opBs_if H sz [a, b, c, d, e, f]
@[go_sem] theorem opBs_7 (H : Heap) (sz : Nat) (a b c d e f g : T) : opBs H sz [.t a, .t b, .t c, .t d, .t e, .t f, .t g] = if cellsAre sz [a, b, c, d, e, f, g] = true then some (.t (.sl [a, b, c, d, e, f, g]), H) else none := opBs_if H sz [a, b, c, d, e, f, g]
@[go_sem] theorem opBs_8 (H : Heap) (sz : Nat) (a b c d e f g h : T) : opBs H sz [.t a, .t b, .t c, .t d, .t e, .t f, .t g, .t h] = if cellsAre sz [a, b, c, d, e, f, g, h] = true then some (.t (.sl [a, b, c, d, e, f, g, h]), H) else none := opBs_if H sz [a, b, c, d, e, f, g, h]
@[go_sem] theorem app2_last {α β γ : Type} {l : List α} {g : α → β} {f : β → γ} {x : γ} {j : Nat} (h : j = l.length) : (List.map f (List.map g l) ++ [x])[j]? = some x := by
  rw [List.getElem?_append_right (by simp; omega)]; simp [h]
@[go_sem] theorem app2_set {α β γ : Type} {l : List α} {g : α → β} {f : β → γ} {x y : γ} {j : Nat} (h : j = l.length) : (List.map f (List.map g l) ++ [x]).set j y = List.map f (List.map g l) ++ [y] := by
  rw [List.set_append_right _ _ (by simp; omega)]; simp [h]
def Dice.flow1 (d : Dice) : Spn × Dice :=
  let a := d.of [0, 1000, 5000, 20000, -5000, -20000, 4999, 100]
  let b := a.2.of [0, 1, 1000, 6000]
  let c := b.2.of [0, 1, 500]
  let w := c.2.one 9
  (if w.1 = true then ⟨-1125899906842624, 1125899906842624⟩ else ⟨a.1 - b.1, a.1 + c.1⟩, w.2)
def Dice.flowsN (d : Dice) : Nat → List Spn × Dice
  | 0 => ([], d)
  | k + 1 => ((d.flowsN k).1 ++ [((d.flowsN k).2.flow1).1], ((d.flowsN k).2.flow1).2)
def Dice.flows (d : Dice) (m : Mine) : List Spn × Dice := d.flowsN m.roads.length
end Go.Ev

namespace Go.Ev
open Go
variable [Lib] [Has1] [Has2]
theorem roll_x (l : List Int) : CALL 0 N.made_Roll [.t (tL l)] [] = some (.bp 0 0, [Dice.obj ⟨l, 0⟩]) := by
  refine CALL_of K.t_made_Roll rfl ?_
  simp (disch := omega) only [go_sem, K.made_Roll, ↓reduceIte, Dice.obj, Nat.reduceAdd, Nat.reduceSub]
theorem next_x {d : Dice} (hd : d.light) (n : Int) (h1 : 1 ≤ n) (hn : n ≤ 4611686018427387904) :
    ∃ (v : Int) (e : Dice), CALL 0 N.made_Dice_Next [.bp 0 0, I n] [d.obj] = some (I v, [e.obj]) ∧ e.light ∧ 0 ≤ v ∧ v < n :=
  ⟨_, _, next_ok d n hn hd, Dice.next_light hd n, d.next_lo n, d.next_hi h1⟩
theorem mine_x {d : Dice} (hd : d.light) :
    ∃ (m : Mine) (e : Dice), CALL 0 N.made_Dice_Mine [.bp 0 0] [d.obj] = some (.t m.e, [e.obj]) ∧ e.light ∧ m.ok ∧ 2 ≤ m.places.length ∧ m.places.length ≤ 7 ∧ 1 ≤ m.roads.length ∧ m.roads.length ≤ 10 := by
  have b := d.mineN_bd
  have p := d.mine_places
  have r := d.mine_roads
  exact ⟨_, _, mine_ok d hd, Dice.mine_light hd, d.mine_good, by omega, by omega, by omega, by omega⟩
end Go.Ev

namespace Go.Ev
open Go
variable [Lib] [Has1] [Has2] [Has3] [Has4] [Has6] [Has7]
end Go.Ev

namespace Go.Ev
open Go
variable [Lib] [Has1] [Has2] [Has3] [Has4] [Has6] [Has7]
structure SGood (m : Mine) (fl : List Spn) (s : Wh) : Prop where
  ln : s.frm.length = m.places.length
  ti : inT s.time
  tm : tmOk s.frm
  lo : ∀ x ∈ s.frm, s.time ≤ x
  cl : clP m fl s.frm
theorem SGood.valid {m : Mine} {fl : List Spn} {s : Wh} (h : SGood m fl s) : validS m s = true := by
  simp only [validS, Bool.and_eq_true, decide_eq_true_eq, List.all_eq_true, List.mem_range]
  refine ⟨fun j hj => ?_, h.ln, h.ti⟩
  have a := h.tm _ (nth_mem hj)
  have b := h.lo _ (nth_mem hj)
  unfold plS
  simp only [smMax] at a
  omega
end Go.Ev

namespace Go.Ev
open Go
variable [Lib] [Has1] [Has2]
end Go.Ev

namespace Go.Ev
open Go
variable [Lib] [Has1] [Has2]
def startWs (m : Mine) (starts : List Int) (t : Int) (j : Nat) : List Wh := (List.range j).map fun i => (startF m (nth starts i) t).1
@[simp] theorem startWs_len (m : Mine) (starts : List Int) (t : Int) (j : Nat) : (startWs m starts t j).length = j := by simp [startWs]
end Go.Ev

namespace Go.Ev
open Go
variable [Lib] [Has1] [Has2]
@[go_sem] theorem allS_nil : ([] : List D).all scalarD = true := (rfl)
@[go_sem] theorem allS_cons (d : D) (r : List D) : (d :: r).all scalarD = (scalarD d && r.all scalarD) := (rfl)
@[go_sem] theorem scalarD_agg (cs : List T) : scalarD (.t (.agg cs)) = false := (rfl)
@[go_sem] theorem scalarD_sl (cs : List T) : scalarD (.t (.sl cs)) = false := (rfl)
@[go_sem] theorem scalarD_int (k : IntKind) (n : Int) : scalarD (.t (.int k n)) = true := (rfl)
@[go_sem] theorem scalarD_bool (b : Bool) : scalarD (.t (.bool b)) = true := (rfl)
@[go_sem] theorem set_wh (l : List Wh) (k : Nat) (a : Int) (b : List Int) : (List.map D.t (List.map Wh.e l)).set k (D.t (T.agg [tI a, tL b])) = List.map D.t (List.map Wh.e (l.set k ⟨a, b⟩)) := by
  rw [List.map_set, List.map_set]
end Go.Ev

namespace Go.Ev
open Go
variable [Lib] [Has1] [Has2]
end Go.Ev

namespace Go.Ev
open Go
variable [Lib] [Has1] [Has2]
abbrev ints (l : List Int) : List D := (l.map (T.int .i64)).map .t
abbrev whs (l : List Wh) : List D := (l.map Wh.e).map .t
structure Rp (H : Heap) (id : Nat) (es : List D) (fa fb : Nat → Nat) (out : List World) : Prop where
  arr : H[id]? = some (.arr 2 false 0 es)
  len : es.length = out.length
  el : ∀ j, j < out.length → es[j]? = some (.agg [.ref (fa j) 0 (nth out j).tags.length, .ref (fb j) 0 (nth out j).whr.length])
  ha : ∀ j, j < out.length → H[fa j]? = some (.arr 1 false 0 (ints (nth out j).tags))
  hb : ∀ j, j < out.length → H[fb j]? = some (.arr 2 false 0 (whs (nth out j).whr))
  na : ∀ j, j < out.length → fa j ≠ id
  nb : ∀ j, j < out.length → fb j ≠ id
  nab : ∀ i j, i < out.length → j < out.length → fa i ≠ fb j
  nbb : ∀ i j, i < out.length → j < out.length → i ≠ j → fb i ≠ fb j
@[go_sem] theorem joinT_eq (a b : Wh) : (joinF a b).1.e = .agg [tI (joinF a b).1.time, tL (joinF a b).1.frm] := rfl
theorem Rp.size {H : Heap} {id : Nat} {es : List D} {fa fb : Nat → Nat} {out : List World} (hr : Rp H id es fa fb out) : ∀ e ∈ es, e.cells.length = 2 := by
  intro e he
  obtain ⟨j, hj⟩ := List.mem_iff_getElem?.1 he
  have hl := (List.getElem?_eq_some_iff.1 hj).1
  rw [hr.el j (by rw [← hr.len]; exact hl)] at hj
  cases hj; rfl
theorem set_nth {α : Type} [Dat α] (l : List α) (k : Nat) (hk : k < l.length) (x : α) (j : Nat) : nth (l.set k x) j = if j = k then x else nth l j := by
  unfold nth
  rw [List.getD_eq_getElem?_getD]
  by_cases h : j = k
  · rw [if_pos h, h, List.getElem?_set_self hk]; rfl
  · rw [if_neg h, List.getElem?_set_ne (fun e => h e.symm), List.getD_eq_getElem?_getD]
theorem Rp.merge {H : Heap} {id : Nat} {es : List D} {fa fb : Nat → Nat} {out : List World} (hr : Rp H id es fa fb out) {k : Nat} (hk : k < out.length) (x : World) (ht : (nth out k).tags = x.tags) (hw : x.whr.length = (nth out k).whr.length) :
    Rp (H.set (fb k) (.arr 2 false 0 (whs x.whr))) id es fa fb (out.set k x) := by
  have ol : (out.set k x).length = out.length := List.length_set
  have nk := hr.nb k hk
  have kl := hp_lt (hr.hb k hk)
  refine ⟨by rw [hp_set_ne nk]; exact hr.arr, by rw [ol]; exact hr.len, ?_, ?_, ?_, by rw [ol]; exact hr.na, by rw [ol]; exact hr.nb, by rw [ol]; exact hr.nab, by rw [ol]; exact hr.nbb⟩
  · intro j hj
    rw [ol] at hj
    rw [hr.el j hj, set_nth out k hk]
    by_cases h : j = k
    · rw [if_pos h, h, ht, hw]
    · rw [if_neg h]
  · intro j hj
    rw [ol] at hj
    rw [hp_set_ne (fun e => hr.nab j k hj hk e.symm), hr.ha j hj, set_nth out k hk]
    by_cases h : j = k
    · rw [if_pos h, h, ht]
    · rw [if_neg h]
  · intro j hj
    rw [ol] at hj
    rw [set_nth out k hk]
    by_cases h : j = k
    · rw [if_pos h, h, hp_set_get kl]
    · rw [if_neg h, hp_set_ne (fun e => hr.nbb j k hj hk h e.symm)]; exact hr.hb j hj
theorem Rp.frz {H : Heap} {id : Nat} {es : List D} {fa fb : Nat → Nat} {out : List World} (hr : Rp H id es fa fb out) :
    mapO (frz H 8) es = some (out.map World.e) ∧ ∀ i ∈ es.flatMap (arrs H 8), i ≠ id := by
  have hl := hr.len
  have key : ∀ (j : Nat) (hj : j < out.length), Go.Ev.frz H 8 (.agg [.ref (fa j) 0 (nth out j).tags.length, .ref (fb j) 0 (nth out j).whr.length]) = some (nth out j).e ∧
      arrs H 8 (.agg [.ref (fa j) 0 (nth out j).tags.length, .ref (fb j) 0 (nth out j).whr.length]) = [fa j, fb j] := by
    intro j hj
    have h1 := hr.ha j hj
    have h2 := hr.hb j hj
    simp (disch := omega) only [go_sem, h1, h2, ints, whs, ↓reduceIte]
  constructor
  · have : ∀ (es : List D) (ts : List T), es.length = ts.length → (∀ (j : Nat) e t, es[j]? = some e → ts[j]? = some t → Go.Ev.frz H 8 e = some t) → mapO (Go.Ev.frz H 8) es = some ts := by
      intro es
      induction es with
      | nil => intro ts h _; cases ts with
        | nil => rfl
        | cons => simp at h
      | cons e es ih =>
        intro ts h hh
        cases ts with
        | nil => simp at h
        | cons t ts =>
          have h1 := hh 0 e t rfl rfl
          have h2 := ih ts (by simpa using h) fun j e t he ht => hh (j + 1) e t (by simpa using he) (by simpa using ht)
          simp only [mapO, h1, Option.bind_some, h2, Option.map_some]
    refine this es _ (by rw [List.length_map, hl]) fun j e t he ht => ?_
    have hj : j < out.length := by rw [← hl]; exact (List.getElem?_eq_some_iff.1 he).1
    rw [hr.el j hj] at he
    rw [map_nth _ hj] at ht
    cases he; cases ht
    exact (key j hj).1
  · intro i hi
    obtain ⟨e, he, hi⟩ := List.mem_flatMap.1 hi
    obtain ⟨j, hj⟩ := List.mem_iff_getElem?.1 he
    have hjl : j < out.length := by rw [← hl]; exact (List.getElem?_eq_some_iff.1 hj).1
    rw [hr.el j hjl] at hj
    cases hj
    rw [(key j hjl).2] at hi
    simp only [List.mem_cons, List.not_mem_nil, or_false] at hi
    rcases hi with rfl | rfl
    · exact hr.na j hjl
    · exact hr.nb j hjl
end Go.Ev

namespace Go.Ev
open Go
variable [Lib] [Has1] [Has2]
@[go_sem] theorem map2_nth_set {α β γ : Type} [Dat α] (f : β → γ) (g : α → β) {l : List α} {i j : Nat} {x : α} (h : j < l.length) : (((l.set i x).map g).map f)[j]? = some (f (g (nth (l.set i x) j))) := map2_nth f g (by rw [List.length_set]; exact h)
end Go.Ev

namespace Go.Ev
open Go
variable [Lib] [Has1] [Has2]
structure BSt where
  b : Bel
  t : Int
  d : Dice
structure WOk (m : Mine) (N : Nat) (x : World) : Prop where
  tg : x.tags.length = N
  wh : x.whr.length = N
  fr : ∀ w ∈ x.whr, w.frm.length = m.places.length
  ti : ∀ w ∈ x.whr, inT w.time
structure BOk (m : Mine) (N : Nat) (b : Bel) : Prop where
  w1 : 1 ≤ b.worlds.length
  w2 : b.worlds.length ≤ 24
  n1 : 1 ≤ N
  n2 : N ≤ 12
  ws : ∀ x ∈ b.worlds, WOk m N x
theorem WOk.sz {m : Mine} {N : Nat} {x : World} (h : WOk m N x) (hm : m.ok) (hn : N ≤ 12) : x.sz := by
  have np := hm.np
  obtain ⟨t1, t2, t3, -⟩ := h
  exact ⟨by omega, by omega, fun w hw => by rw [t3 w hw]; omega⟩
theorem BOk.sz {m : Mine} {N : Nat} {b : Bel} (h : BOk m N b) (hm : m.ok) : b.sz :=
  ⟨by have := h.w2; omega, fun x hx => (h.ws x hx).sz hm h.n2⟩
end Go.Ev

namespace Go.Ev
open Go
variable [Lib] [Has1] [Has2]
end Go.Ev

namespace Go.Ev
open Go
variable [Lib] [Has1] [Has2]
def Dice.spread (d : Dice) (m : Mine) (fl : List Spn) : Wh × Dice :=
  let p := d.next m.places.length
  let t := p.2.next 200
  let s := startS m fl [p.1] t.1
  let o := t.2.one 2
  if o.1 = true then
    let f := o.2.flows m
    let a := f.2.next 100
    let r := changeS m fl m f.1 s.1 (s.1.time + a.1)
    if r.2 = 0 then (r.1, a.2) else (s.1, a.2)
  else (s.1, o.2)
structure Mch where
  kind : Int
  num : Int
  pl : List Int
instance : Dat Mch := ⟨⟨0, 0, []⟩⟩
abbrev Mch.e (x : Mch) : T := .agg [tI x.kind, tI x.num, tL x.pl]
@[go_sem] theorem appOK_mch (l : List Mch) : appOK 3 (l.map Mch.e) = true := by cases l <;> rfl
end Go.Ev

namespace Go.Ev
open Go
variable [Lib] [Has1] [Has2]
end Go.Ev

namespace Go.Ev
open Go
variable [Lib] [Has1] [Has2] [Has3] [Has4] [Has6] [Has7]
end Go.Ev

namespace Go.Ev
open Go
variable [Lib] [Has1] [Has2] [Has3] [Has4] [Has6] [Has7]
end Go.Ev

namespace Go.Ev
open Go
variable [Lib] [Has1] [Has2] [Has3] [Has4] [Has6] [Has7]
end Go.Ev

namespace Go.Ev
open Go
variable [Lib] [Has1] [Has2] [Has3] [Has4] [Has6] [Has7]
end Go.Ev

namespace Go.Ev
open Go
variable [Lib] [Has1] [Has2] [Has3] [Has4] [Has6] [Has7] [Has8] [Has9] [Has14] [Has15]
theorem AreaOf_law (aw : CALL 0 N.law32_awake [] [] = some (B true, [])) (li : List Int) (rad : Int) : CALL 0 N.law32_AreaOf [.t (tL li), I rad] [] = some (B true, []) := by
  refine CALL_of K.t_law32_AreaOf rfl ?_
  have lo := light_ok li
  by_cases c : li.length ≤ 400
  · simp only [c, decide_true] at lo
    have ro := roll_x li
    have d0 : (Dice.mk li 0).light := c
    generalize (Dice.mk li 0) = d at *
    obtain ⟨m, e1, mo, l1, hm, p1, p2, r1, r2⟩ := mine_x d0
    obtain ⟨p, e2, po, l2, q0, q1⟩ := next_x l1 m.places.length (by omega) (by omega)
    obtain ⟨g, e3, go, l3, g0, g1⟩ := next_x l2 50 (by omega) (by omega)
    have md := mod_ok rad 200 (by omega)
    have d1 := Mod_lo rad 200
    have d2 := Mod_hi rad 200 (by omega)
    generalize Mod rad 200 = r at *
    obtain ⟨p, rfl⟩ := Int.eq_ofNat_of_zero_le q0
    have hp : p < m.places.length := by omega
    have a1 := area_Of_ok hm hp r d1
    have a2 := area_Of_ok hm hp (r + g) (by omega)
    have w1 : (ofL m p r).length ≤ m.places.length := whereF_len _ _
    have w2 : (ofL m p (r + g)).length ≤ m.places.length := whereF_len _ _
    have h1 := has_ok (ofL m p r) p (by omega)
    rw [decide_eq_true (ofL_mid hm hp d1)] at h1
    have s1 := set_ok (ofL m p r) m.places.length (by omega)
    rw [show setB (ofL m p r) m.places.length = true from whereF_setB _ _] at s1
    have up : ∀ x ∈ ofL m p r, x ∈ ofL m p (r + g) := ofL_up (by omega)
    have en := fun i (hi : i < m.roads.length) => ofL_ends hm hp (r := r) hi
    generalize ofL m p r = a at *
    generalize ofL m p (r + g) = b at *
    have lp1 : ∀ z0 z1 z2 z3 z8 z10 z12 z13 : D, exS CALL K.law32_AreaOf_l1 ⟨[z0, z1, z2, z3, .bp 1 0, I p, I r, .t (tL a), z8, .t (tL b), z10, I 0, z12, z13], [e3.obj, .box (mineCells m)]⟩ =
        some (.exit 0, ⟨[.und, .und, .und, .und, .bp 1 0, I p, I r, .t (tL a), .und, .t (tL b), .und, I a.length, .und, .und], [e3.obj, .box (mineCells m)]⟩) := by
      intro z0 z1 z2 z3 z8 z10 z12 z13
      refine loop_up (fun i => ⟨[.und, .und, .und, .und, .bp 1 0, I p, I r, .t (tL a), .und, .t (tL b), .und, I i, .und, .und], [e3.obj, .box (mineCells m)]⟩) a.length rfl ?_ ?_ (by simp)
      · intro i hi
        have hh := has_ok b (nth a i) (by omega)
        rw [decide_eq_true (up _ (nth_mem hi))] at hh
        obtain ⟨places, roads⟩ := m
        simp only [mineCells] at *
        simp (disch := omega) only [go_sem, K.law32_AreaOf_l1b, ↓reduceIte, hh, Nat.reduceAdd, Nat.reduceSub]
      · obtain ⟨places, roads⟩ := m
        simp only [mineCells] at *
        simp (disch := omega) only [go_sem, K.law32_AreaOf_l1b, ↓reduceIte, Nat.reduceAdd, Nat.reduceSub]
    have lp2 : ∀ z0 z1 z2 z3 z8 z9 z10 z11 z13 : D, exS CALL K.law32_AreaOf_l2 ⟨[z0, z1, z2, z3, .bp 1 0, I p, I r, .t (tL a), z8, z9, z10, z11, I 0, z13], [e3.obj, .box (mineCells m)]⟩ =
        some (.exit 2, ⟨[.und, .und, .und, .und, .bp 1 0, I p, I r, .t (tL a), .und, .und, .und, .und, I m.roads.length, .und], [e3.obj, .box (mineCells m)]⟩) := by
      intro z0 z1 z2 z3 z8 z9 z10 z11 z13
      refine loop_up (fun i => ⟨[.und, .und, .und, .und, .bp 1 0, I p, I r, .t (tL a), .und, .und, .und, .und, I i, .und], [e3.obj, .box (mineCells m)]⟩) m.roads.length rfl ?_ ?_ (by simp)
      · intro i hi
        have e := en i hi
        have ex : (m.roads.map Road.e)[i]? = some (nth m.roads i).e := map_nth _ hi
        have ha := has_ok a (nth m.roads i).frm (by omega)
        have hb := has_ok a (nth m.roads i).to (by omega)
        generalize nth m.roads i = x at *
        obtain ⟨frm, to, len, area, walk, closed, rl, rh, ll, lh⟩ := x
        simp only at *
        clear up lp1 en
        obtain ⟨places, roads⟩ := m
        simp only [mineCells] at *
        cases closed with
        | true => simp (disch := omega) only [go_sem, K.law32_AreaOf_l2b, ↓reduceIte, ex, Nat.reduceAdd, Nat.reduceSub]
        | false =>
          by_cases c1 : frm = p
          · by_cases c3 : len ≤ r
            · obtain ⟨x1, x2⟩ := e rfl (.inl c1) c3
              rw [decide_eq_true x1] at ha
              rw [decide_eq_true x2] at hb
              subst c1
              simp (disch := omega) only [go_sem, K.law32_AreaOf_l2b, ↓reduceIte, ex, c3, ha, hb, decide_true, Nat.reduceAdd, Nat.reduceSub]
            · subst c1
              simp (disch := omega) only [go_sem, K.law32_AreaOf_l2b, ↓reduceIte, ex, c3, decide_true, decide_false, Nat.reduceAdd, Nat.reduceSub]
          · by_cases c2 : to = p
            · by_cases c3 : len ≤ r
              · obtain ⟨x1, x2⟩ := e rfl (.inr c2) c3
                rw [decide_eq_true x1] at ha
                rw [decide_eq_true x2] at hb
                subst c2
                simp (disch := omega) only [go_sem, K.law32_AreaOf_l2b, ↓reduceIte, ex, c1, c3, ha, hb, decide_true, decide_false, Nat.reduceAdd, Nat.reduceSub]
              · subst c2
                simp (disch := omega) only [go_sem, K.law32_AreaOf_l2b, ↓reduceIte, ex, c1, c3, decide_true, decide_false, Nat.reduceAdd, Nat.reduceSub]
            · simp (disch := omega) only [go_sem, K.law32_AreaOf_l2b, ↓reduceIte, ex, c1, c2, decide_true, decide_false, Nat.reduceAdd, Nat.reduceSub]
      · obtain ⟨places, roads⟩ := m
        simp only [mineCells] at *
        simp (disch := omega) only [go_sem, K.law32_AreaOf_l2b, ↓reduceIte, Nat.reduceAdd, Nat.reduceSub]
    clear up en
    obtain ⟨places, roads⟩ := m
    simp only [mineCells] at *
    simp (disch := omega) only [go_sem, K.law32_AreaOf, ↓reduceIte, lo, ro, mo, po, go, md, a1, a2, h1, s1, lp1, lp2, aw, Nat.reduceAdd, Nat.reduceSub]
  · simp only [c, decide_false] at lo
    simp (disch := omega) only [go_sem, K.law32_AreaOf, ↓reduceIte, lo, aw, Nat.reduceAdd, Nat.reduceSub]
end Go.Ev

namespace Go.Ev
open Go
theorem intOfD_some {d : D} {n : Int} (h : intOfD d = some n) : d = .t (.int .i64 n) := by
  unfold intOfD at h
  split at h
  · cases h; rfl
  · cases h
theorem intsOfD : ∀ {es : List D} {l : List Int}, mapO intOfD es = some l → es = l.map fun x => .t (.int .i64 x)
  | [], l, h => by simp [mapO] at h; subst h; rfl
  | e :: r, l, h => by
    simp only [mapO, Option.bind_eq_some_iff, Option.map_eq_some_iff] at h
    obtain ⟨x, hx, y, hy, rfl⟩ := h
    rw [intOfD_some hx, intsOfD hy]; rfl
theorem insI_perm (x : Int) : ∀ l, (insI x l).Perm (x :: l)
  | [] => .refl _
  | y :: r => by
    unfold insI
    split
    · exact .refl _
    · exact ((insI_perm x r).cons y).trans (.swap x y r)
theorem sortI_perm : ∀ l, (sortI l).Perm l
  | [] => .refl _
  | x :: r => (insI_perm x _).trans ((sortI_perm r).cons x)
theorem insI_up {x : Int} : ∀ {l : List Int}, l.Pairwise (· ≤ ·) → (insI x l).Pairwise (· ≤ ·)
  | [], _ => by simp [insI]
  | y :: r, h => by
    unfold insI
    split
    · rename_i hx
      refine List.pairwise_cons.2 ⟨fun z hz => ?_, h⟩
      rcases List.mem_cons.1 hz with rfl | hz
      · exact hx
      · have := (List.pairwise_cons.1 h).1 z hz; omega
    · rename_i hx
      have h' := List.pairwise_cons.1 h
      refine List.pairwise_cons.2 ⟨fun z hz => ?_, insI_up h'.2⟩
      have hz := (insI_perm x r).mem_iff.1 hz
      rcases List.mem_cons.1 hz with rfl | hz
      · omega
      · exact h'.1 z hz
theorem sortI_up : ∀ l, (sortI l).Pairwise (· ≤ ·)
  | [] => .nil
  | x :: r => insI_up (sortI_up r)
theorem sortI_len (l : List Int) : (sortI l).length = l.length := (sortI_perm l).length_eq
theorem sortI_is (l : List Int) : (l.mergeSort fun x y => decide (x ≤ y)) = sortI l := by
  refine List.Perm.eq_of_pairwise (le := (· ≤ ·)) (fun a b _ _ h1 h2 => by omega) ?_ (sortI_up l) ((List.mergeSort_perm _ _).trans (sortI_perm l).symm)
  have := List.pairwise_mergeSort (le := fun x y : Int => decide (x ≤ y)) (fun a b c => by simp; omega) (fun a b => by simp; omega) l
  exact this.imp (by simp)
end Go.Ev

namespace Go.Ev.K
open Go.Ev
def places_Possible : Fn := { nargs := 2, vars := [0, 1, 2, 3, 4], body := (.seq (.reg [{ o := .bx (.v 0) 2, d := some 2 }, { o := .bx (.v 1) 1, d := some 3 }, { o := .mv (.c (.nil)), d := some 4 }] []) (.seq (.reg [{ o := .fa (.v 2) 1 }, { o := .ld (.l 0) 1 false }, { o := .ln (.l 0) }, { o := .mf N.places_Possible_1 [.v 2, .v 3] }, { o := .ca N.lists_Where 0 [] [.l 1, .l 0] }, { o := .mv (.l 0), d := some 4 }] []) .ret)), res := [(4, none)] }
def places_Possible_1 : Fn := { nargs := 3, vars := [0, 1, 2, 4], body := (.seq (.reg [{ o := .mv (.b false), d := some 3 }] []) (.seq (.reg [{ o := .fa (.v 1) 1 }, { o := .ld (.l 0) 1 false }, { o := .mv (.v 0) }, { o := .ia (.l 1) (.l 0) 1 }, { o := .ld (.l 0) 1 false }, { o := .ld (.v 2) 1 false }, { o := .bin .leq (.l 1) (.l 0) }, { o := .mv (.l 0), d := some 3 }] []) .ret)), res := [(3, none)] }
end Go.Ev.K
namespace Go.Ev
class Has5 [Lib] : Prop where
  t_places_Possible : Lib.fs N.places_Possible = some K.places_Possible
  t_places_Possible_1 : Lib.fs N.places_Possible_1 = some K.places_Possible_1
namespace K
variable [Lib] [Has5]
theorem t_places_Possible : Lib.fs N.places_Possible = some K.places_Possible := Has5.t_places_Possible
theorem t_places_Possible_1 : Lib.fs N.places_Possible_1 = some K.places_Possible_1 := Has5.t_places_Possible_1
end K
end Go.Ev

namespace Go.Ev.K
open Go.Ev
def swaps_Valid_l1b : C := (.its  [{ o := .bin .lss (.v 10) (.v 9) }] [] 0 .skip (.exit 0) (.seq (.blk 1 (.seq (.reg [{ o := .mv (.v 10) }, { o := .ia (.v 8) (.v 10) 2 }, { o := .ld (.l 0) 2 true }, { o := .al [.nil, .nil] [], d := some 7 }, { o := .mv (.l 3), d := some 6 }, { o := .st (.l 1) (.l 2) 2 [] }] []) (.blk 2 (.ite [{ o := .fa (.v 7) 0 }, { o := .ld (.l 0) 1 false }, { o := .ln (.l 0) }, { o := .ca N.lists_In 0 [] [.l 0, .i 1, .i 12] }, { o := .un .not (.l 0) }, { o := .mv (.l 0) }, { o := .fa (.v 7) 1, g := some (0, false) }, { o := .ld (.l 0) 1 false, g := some (1, false) }, { o := .ln (.l 0), g := some (2, false) }, { o := .fa (.v 7) 0, g := some (3, false) }, { o := .ld (.l 0) 1 false, g := some (4, false) }, { o := .ln (.l 0), g := some (5, false) }, { o := .bin .neq (.l 3) (.l 0), g := some (6, false) }, { o := .pk (.l 7) (.b true) (.l 0) }, { o := .mv (.l 0) }, { o := .fa (.v 7) 0, g := some (0, false) }, { o := .ld (.l 0) 1 false, g := some (1, false) }, { o := .ca N.swaps_tagged 0 [] [.l 0], g := some (2, false) }, { o := .un .not (.l 0), g := some (3, false) }, { o := .pk (.l 4) (.b true) (.l 0) }, { o := .mv (.l 0) }] [] 0 (.seq (.reg [{ o := .mv (.b false), d := some 4 }] []) .ret) (.ite [{ o := .fa (.v 7) 0 }, { o := .ld (.l 0) 1 false }, { o := .ca N.slices_Values_int_int 0 [] [.l 0] }, { o := .ca N.slices_Sorted_int 0 [] [.l 0] }, { o := .mv (.v 5) }, { o := .ca N.slices_Equal_int_int 0 [] [.l 1, .l 0] }, { o := .un .not (.l 0) }, { o := .mv (.l 0) }] [] 0 (.seq (.reg [{ o := .mv (.b false), d := some 4 }] []) .ret) (.ite [{ o := .mv (.v 6) }, { o := .bin .gtr (.l 0) (.i 0) }, { o := .mv (.l 0) }, { o := .fa (.v 3) 0, g := some (0, true) }, { o := .ld (.l 0) 1 false, g := some (1, true) }, { o := .mv (.v 6), g := some (2, true) }, { o := .bin .sub (.l 0) (.i 1), g := some (3, true) }, { o := .ia (.l 2) (.l 0) 2, g := some (4, true) }, { o := .fa (.l 0) 0, g := some (5, true) }, { o := .ld (.l 0) 1 false, g := some (6, true) }, { o := .fa (.v 7) 0, g := some (7, true) }, { o := .ld (.l 0) 1 false, g := some (8, true) }, { o := .ca N.slices_Compare_int_int 0 [] [.l 2, .l 0], g := some (9, true) }, { o := .bin .geq (.l 0) (.i 0), g := some (10, true) }, { o := .pk (.l 11) (.l 0) (.b false) }, { o := .mv (.l 0) }] [] 0 (.seq (.reg [{ o := .mv (.b false), d := some 4 }] []) .ret) (.ite [{ o := .fa (.v 7) 1 }, { o := .ld (.l 0) 1 false }, { o := .mf N.swaps_Valid_1 [.v 2] }, { o := .ca N.slices_ContainsFunc_api_Whereabouts_api_Whereabouts 0 [] [.l 1, .l 0] }, { o := .mv (.l 0) }] [] 0 (.seq (.reg [{ o := .mv (.b false), d := some 4 }] []) .ret) .skip))))))) (.reg [{ o := .bin .add (.v 10) (.i 1) }, { o := .mv (.l 0), d := some 10 }] [])))
def swaps_Valid_l1 : C := .loop true [0, 1, 4, 6, 7] K.swaps_Valid_l1b
def swaps_Valid : Fn := { nargs := 2, vars := [0, 1, 2, 3, 4, 5, 6, 7, 26, 27, 28], body := (.seq (.reg [{ o := .bx (.v 0) 2, d := some 2 }, { o := .bx (.v 1) 1, d := some 3 }, { o := .mv (.b false), d := some 4 }] []) (.seq (.ite [{ o := .ld (.v 2) 2 true }, { o := .ca N.plan_Valid 0 [] [.l 0] }, { o := .un .not (.l 0) }, { o := .mv (.l 0) }, { o := .fa (.v 3) 0, g := some (0, false) }, { o := .ld (.l 0) 1 false, g := some (1, false) }, { o := .ln (.l 0), g := some (2, false) }, { o := .ca N.lists_In 0 [] [.l 0, .i 1, .i 24], g := some (3, false) }, { o := .un .not (.l 0), g := some (4, false) }, { o := .pk (.l 5) (.b true) (.l 0) }] [] 0 (.seq (.reg [{ o := .mv (.b false), d := some 4 }] []) .ret) .skip) (.seq (.reg [{ o := .fa (.v 3) 0 }, { o := .ld (.l 0) 1 false }, { o := .ia (.l 0) (.i 0) 2 }, { o := .fa (.l 0) 0 }, { o := .ld (.l 0) 1 false }, { o := .ca N.slices_Values_int_int 0 [] [.l 0] }, { o := .ca N.slices_Sorted_int 0 [] [.l 0] }, { o := .mv (.l 0), d := some 5 }] []) (.seq (.seq (.reg [{ o := .fa (.v 3) 0 }, { o := .ld (.l 0) 1 false, d := some 8 }, { o := .ln (.l 0), d := some 9 }, { o := .mv (.i 0), d := some 10 }] []) (.blk 0 K.swaps_Valid_l1)) (.seq (.reg [{ o := .mv (.b true), d := some 4 }] []) .ret))))), res := [(4, none)] }
def slices_Sorted_int : Fn := { nargs := 1, vars := [2], body := .fail, res := [(0, none)], prim := [2, N.slices_Values_int_int_1] }
def slices_Values_int_int : Fn := { nargs := 1, vars := [0, 1, 2], body := (.seq (.reg [{ o := .bx (.v 0) 1, d := some 1 }, { o := .mv (.c (.und)), d := some 2 }] []) (.seq (.reg [{ o := .mf N.slices_Values_int_int_1 [.v 1] }, { o := .mv (.l 0), d := some 2 }] []) .ret)), res := [(2, none)] }
def swaps_tagged : Fn := { nargs := 1, vars := [0, 2, 3], body := (.seq (.reg [{ o := .mv (.b false), d := some 1 }] []) (.seq (.reg [{ o := .mv (.v 0) }, { o := .ca N.slices_Values_int_int 0 [] [.l 0] }, { o := .ca N.slices_Sorted_int 0 [] [.l 0] }, { o := .mv (.l 0), d := some 2 }] []) (.seq (.reg [{ o := .mv (.v 2) }, { o := .ca N.lists_Rising 0 [] [.l 0, .i 1, .i 65535] }, { o := .mv (.l 0), d := some 1 }] []) .ret))), res := [(1, none)] }
def slices_Compare_int_int_l1b : C := (.its  [{ o := .bin .lss (.v 9) (.v 8) }] [] 0 .skip (.exit 0) (.seq (.blk 1 (.seq (.reg [{ o := .mv (.v 9) }, { o := .ia (.v 7) (.v 9) 1 }, { o := .ld (.l 0) 1 false }, { o := .mv (.l 2), d := some 3 }, { o := .mv (.l 1), d := some 4 }] []) (.seq (.ite [{ o := .mv (.v 3) }, { o := .mv (.v 1) }, { o := .ln (.l 0) }, { o := .bin .geq (.l 2) (.l 0) }] [] 0 (.seq (.reg [{ o := .mv (.i 1), d := some 2 }] []) .ret) .skip) (.seq (.reg [{ o := .mv (.v 1) }, { o := .mv (.v 3) }, { o := .ia (.l 1) (.l 0) 1 }, { o := .ld (.l 0) 1 false }, { o := .mv (.l 0), d := some 5 }] []) (.seq (.reg [{ o := .mv (.v 4) }, { o := .mv (.v 5) }, { o := .ca N.cmp_Compare_int 0 [] [.l 1, .l 0] }, { o := .mv (.l 0), d := some 6 }] []) (.ite [{ o := .mv (.v 6) }, { o := .bin .neq (.l 0) (.i 0) }] [] 0 (.seq (.reg [{ o := .mv (.v 6) }, { o := .mv (.l 0), d := some 2 }] []) .ret) .skip)))))) (.reg [{ o := .bin .add (.v 9) (.i 1) }, { o := .mv (.l 0), d := some 9 }] [])))
def slices_Compare_int_int_l1 : C := .loop true [2, 3, 4, 5, 6] K.slices_Compare_int_int_l1b
def slices_Compare_int_int : Fn := { nargs := 2, vars := [0, 1, 4, 5, 6, 7, 8, 9, 10, 11], body := (.seq (.reg [{ o := .mv (.i 0), d := some 2 }] []) (.seq (.seq (.reg [{ o := .mv (.v 0), d := some 7 }, { o := .ln (.l 0), d := some 8 }, { o := .mv (.i 0), d := some 9 }] []) (.blk 0 K.slices_Compare_int_int_l1)) (.seq (.ite [{ o := .mv (.v 0) }, { o := .ln (.l 0) }, { o := .mv (.v 1) }, { o := .ln (.l 0) }, { o := .bin .lss (.l 2) (.l 0) }] [] 0 (.seq (.reg [{ o := .mv (.i (-1)), d := some 2 }] []) .ret) .skip) (.seq (.reg [{ o := .mv (.i 0), d := some 2 }] []) .ret)))), res := [(2, none)] }
def slices_ContainsFunc_api_Whereabouts_api_Whereabouts : Fn := { nargs := 2, vars := [0, 1, 4], body := (.seq (.reg [{ o := .mv (.b false), d := some 2 }] []) (.seq (.reg [{ o := .mv (.v 0) }, { o := .mv (.v 1) }, { o := .ca N.slices_IndexFunc_api_Whereabouts_api_Whereabouts 0 [] [.l 1, .l 0] }, { o := .bin .geq (.l 0) (.i 0) }, { o := .mv (.l 0), d := some 2 }] []) .ret)), res := [(2, none)] }
def swaps_Valid_1 : Fn := { nargs := 2, vars := [0, 1, 2, 3], body := (.seq (.reg [{ o := .bx (.v 0) 2, d := some 2 }, { o := .mv (.b false), d := some 3 }] []) (.seq (.reg [{ o := .ld (.v 1) 2 true }, { o := .ld (.v 2) 2 true }, { o := .ca N.places_Valid 0 [] [.l 1, .l 0] }, { o := .un .not (.l 0) }, { o := .mv (.l 0), d := some 3 }] []) .ret)), res := [(3, none)] }
def slices_Values_int_int_1_l1b : C := (.its  [{ o := .bin .lss (.v 5) (.v 4) }] [] 0 .skip (.exit 0) (.seq (.blk 1 (.seq (.reg [{ o := .ia (.v 3) (.v 5) 1 }, { o := .ld (.l 0) 1 false }, { o := .mv (.l 0), d := some 2 }] []) (.ite [{ o := .mv (.v 0) }, { o := .mv (.v 2) }, { o := .cw (.l 1) 0 [] [.l 0] }, { o := .un .not (.l 0) }] [] 0 .ret .skip))) (.reg [{ o := .bin .add (.v 5) (.i 1) }, { o := .mv (.l 0), d := some 5 }] [])))
def slices_Values_int_int_1_l1 : C := .loop true [1, 2] K.slices_Values_int_int_1_l1b
def slices_Values_int_int_1 : Fn := { nargs := 2, vars := [0, 1, 4, 5, 6, 7], body := (.seq (.reg [{ o := .ld (.v 1) 1 false, d := some 3 }, { o := .ln (.l 0), d := some 4 }, { o := .mv (.i 0), d := some 5 }] []) (.blk 0 K.slices_Values_int_int_1_l1)), res := [] }
def cmp_Compare_int : Fn := { nargs := 2, vars := [0, 1, 4, 5, 6], body := (.seq (.reg [{ o := .mv (.i 0), d := some 2 }] []) (.seq (.reg [{ o := .mv (.v 0) }, { o := .ca N.cmp_isNaN_int 0 [] [.l 0] }, { o := .mv (.l 0), d := some 3 }] []) (.seq (.reg [{ o := .mv (.v 1) }, { o := .ca N.cmp_isNaN_int 0 [] [.l 0] }, { o := .mv (.l 0), d := some 4 }] []) (.seq (.ite [{ o := .mv (.v 3) }] [] 0 (.seq (.ite [{ o := .mv (.v 4) }] [] 0 (.seq (.reg [{ o := .mv (.i 0), d := some 2 }] []) .ret) .skip) (.seq (.reg [{ o := .mv (.i (-1)), d := some 2 }] []) .ret)) .skip) (.seq (.ite [{ o := .mv (.v 4) }] [] 0 (.seq (.reg [{ o := .mv (.i 1), d := some 2 }] []) .ret) .skip) (.seq (.ite [{ o := .mv (.v 0) }, { o := .mv (.v 1) }, { o := .bin .lss (.l 1) (.l 0) }] [] 0 (.seq (.reg [{ o := .mv (.i (-1)), d := some 2 }] []) .ret) .skip) (.seq (.ite [{ o := .mv (.v 0) }, { o := .mv (.v 1) }, { o := .bin .gtr (.l 1) (.l 0) }] [] 0 (.seq (.reg [{ o := .mv (.i 1), d := some 2 }] []) .ret) .skip) (.seq (.reg [{ o := .mv (.i 0), d := some 2 }] []) .ret)))))))), res := [(2, none)] }
def slices_IndexFunc_api_Whereabouts_api_Whereabouts_l1b : C := (.its  [{ o := .bin .lss (.v 5) (.v 4) }] [] 0 .skip (.exit 0) (.seq (.blk 1 (.seq (.reg [{ o := .mv (.v 5) }, { o := .mv (.l 0), d := some 3 }] []) (.ite [{ o := .mv (.v 1) }, { o := .mv (.v 0) }, { o := .mv (.v 3) }, { o := .ia (.l 1) (.l 0) 2 }, { o := .ld (.l 0) 2 true }, { o := .cw (.l 4) 0 [] [.l 0] }] [] 0 (.seq (.reg [{ o := .mv (.v 3) }, { o := .mv (.l 0), d := some 2 }] []) .ret) .skip))) (.reg [{ o := .bin .add (.v 5) (.i 1) }, { o := .mv (.l 0), d := some 5 }] [])))
def slices_IndexFunc_api_Whereabouts_api_Whereabouts_l1 : C := .loop true [2, 3] K.slices_IndexFunc_api_Whereabouts_api_Whereabouts_l1b
def slices_IndexFunc_api_Whereabouts_api_Whereabouts : Fn := { nargs := 2, vars := [0, 1, 4, 5, 7, 8], body := (.seq (.reg [{ o := .mv (.i 0), d := some 2 }] []) (.seq (.seq (.reg [{ o := .mv (.v 0) }, { o := .ln (.l 0), d := some 4 }, { o := .mv (.i 0), d := some 5 }] []) (.blk 0 K.slices_IndexFunc_api_Whereabouts_api_Whereabouts_l1)) (.seq (.reg [{ o := .mv (.i (-1)), d := some 2 }] []) .ret))), res := [(2, none)] }
def cmp_isNaN_int : Fn := { nargs := 1, vars := [0, 2], body := (.seq (.reg [{ o := .mv (.b false), d := some 1 }] []) (.seq (.reg [{ o := .mv (.v 0) }, { o := .mv (.v 0) }, { o := .bin .neq (.l 1) (.l 0) }, { o := .mv (.l 0), d := some 1 }] []) .ret)), res := [(1, none)] }
end Go.Ev.K
namespace Go.Ev
class Has11 [Lib] : Prop where
  t_swaps_Valid : Lib.fs N.swaps_Valid = some K.swaps_Valid
  t_slices_Sorted_int : Lib.fs N.slices_Sorted_int = some K.slices_Sorted_int
  t_slices_Values_int_int : Lib.fs N.slices_Values_int_int = some K.slices_Values_int_int
  t_swaps_tagged : Lib.fs N.swaps_tagged = some K.swaps_tagged
  t_slices_Compare_int_int : Lib.fs N.slices_Compare_int_int = some K.slices_Compare_int_int
  t_slices_ContainsFunc_api_Whereabouts_api_Whereabouts : Lib.fs N.slices_ContainsFunc_api_Whereabouts_api_Whereabouts = some K.slices_ContainsFunc_api_Whereabouts_api_Whereabouts
  t_swaps_Valid_1 : Lib.fs N.swaps_Valid_1 = some K.swaps_Valid_1
  t_slices_Values_int_int_1 : Lib.fs N.slices_Values_int_int_1 = some K.slices_Values_int_int_1
  t_cmp_Compare_int : Lib.fs N.cmp_Compare_int = some K.cmp_Compare_int
  t_slices_IndexFunc_api_Whereabouts_api_Whereabouts : Lib.fs N.slices_IndexFunc_api_Whereabouts_api_Whereabouts = some K.slices_IndexFunc_api_Whereabouts_api_Whereabouts
  t_cmp_isNaN_int : Lib.fs N.cmp_isNaN_int = some K.cmp_isNaN_int
namespace K
variable [Lib] [Has11]
theorem t_swaps_Valid : Lib.fs N.swaps_Valid = some K.swaps_Valid := Has11.t_swaps_Valid
theorem t_slices_Sorted_int : Lib.fs N.slices_Sorted_int = some K.slices_Sorted_int := Has11.t_slices_Sorted_int
theorem t_slices_Values_int_int : Lib.fs N.slices_Values_int_int = some K.slices_Values_int_int := Has11.t_slices_Values_int_int
theorem t_swaps_tagged : Lib.fs N.swaps_tagged = some K.swaps_tagged := Has11.t_swaps_tagged
theorem t_slices_Compare_int_int : Lib.fs N.slices_Compare_int_int = some K.slices_Compare_int_int := Has11.t_slices_Compare_int_int
theorem t_slices_ContainsFunc_api_Whereabouts_api_Whereabouts : Lib.fs N.slices_ContainsFunc_api_Whereabouts_api_Whereabouts = some K.slices_ContainsFunc_api_Whereabouts_api_Whereabouts := Has11.t_slices_ContainsFunc_api_Whereabouts_api_Whereabouts
theorem t_swaps_Valid_1 : Lib.fs N.swaps_Valid_1 = some K.swaps_Valid_1 := Has11.t_swaps_Valid_1
theorem t_slices_Values_int_int_1 : Lib.fs N.slices_Values_int_int_1 = some K.slices_Values_int_int_1 := Has11.t_slices_Values_int_int_1
theorem t_cmp_Compare_int : Lib.fs N.cmp_Compare_int = some K.cmp_Compare_int := Has11.t_cmp_Compare_int
theorem t_slices_IndexFunc_api_Whereabouts_api_Whereabouts : Lib.fs N.slices_IndexFunc_api_Whereabouts_api_Whereabouts = some K.slices_IndexFunc_api_Whereabouts_api_Whereabouts := Has11.t_slices_IndexFunc_api_Whereabouts_api_Whereabouts
theorem t_cmp_isNaN_int : Lib.fs N.cmp_isNaN_int = some K.cmp_isNaN_int := Has11.t_cmp_isNaN_int
end K
end Go.Ev

namespace Go.Ev.K
open Go.Ev
def worlds_Copy_l1b : C := (.its  [{ o := .bin .lss (.v 7) (.v 6) }] [] 0 .skip (.exit 0) (.seq (.blk 1 (.seq (.reg [{ o := .ia (.v 5) (.v 7) 2 }, { o := .ld (.l 0) 2 true }, { o := .al [.t (.int .i64 (0)), .nil] [], d := some 4 }, { o := .st (.l 0) (.l 1) 2 [] }] []) (.reg [{ o := .fa (.v 3) 1 }, { o := .ld (.l 0) 1 false }, { o := .fa (.v 4) 0 }, { o := .ld (.l 0) 1 false }, { o := .fa (.v 4) 1 }, { o := .ld (.l 0) 1 false }, { o := .ca N.slices_Clone_int_int 0 [] [.l 0] }, { o := .bd [.t (.int .i64 (0)), .nil] [(0, 1, .l 3), (1, 1, .l 0)] }, { o := .bs [.l 0] 2 }, { o := .app (.l 7) (.l 0) true 2 }, { o := .fa (.v 3) 1 }, { o := .st (.l 0) (.l 1) 1 [] }] [(1, 7), (1, 9), (3, 7)]))) (.reg [{ o := .bin .add (.v 7) (.i 1) }, { o := .mv (.l 0), d := some 7 }] [])))
def worlds_Copy_l1 : C := .loop true [0, 1, 4] K.worlds_Copy_l1b
def worlds_Copy : Fn := { nargs := 1, vars := [0, 1, 2, 3, 5, 11, 12, 13], body := (.seq (.reg [{ o := .bx (.v 0) 2, d := some 1 }, { o := .al [.nil, .nil] [], d := some 2 }] []) (.seq (.reg [{ o := .fa (.v 1) 0 }, { o := .ld (.l 0) 1 false }, { o := .ca N.slices_Clone_int_int 0 [] [.l 0] }, { o := .bd [.nil, .nil] [(0, 1, .l 0)] }, { o := .al [.nil, .nil] [(1, 2)], d := some 3 }, { o := .st (.l 0) (.l 1) 2 [(1, 2)] }] []) (.seq (.seq (.reg [{ o := .fa (.v 1) 1 }, { o := .ld (.l 0) 1 false, d := some 5 }, { o := .ln (.l 0), d := some 6 }, { o := .mv (.i 0), d := some 7 }] []) (.blk 0 K.worlds_Copy_l1)) (.seq (.reg [{ o := .ld (.v 3) 2 true }, { o := .st (.v 2) (.l 0) 2 [] }] []) .ret)))), res := [(2, some (2, true))] }
def worlds_Tidy_l2b : C := (.its  [{ o := .bin .lss (.v 11) (.v 10) }] [] 0 .skip (.exit 2) (.seq (.blk 3 (.seq (.reg [{ o := .mv (.v 11) }, { o := .mv (.l 0), d := some 6 }] []) (.reg [{ o := .mv (.v 3) }, { o := .mv (.v 5) }, { o := .bin .sub (.l 0) (.i 1) }, { o := .ia (.l 2) (.l 0) 2 }, { o := .fa (.l 0) 1 }, { o := .ld (.l 0) 1 false }, { o := .mv (.v 6) }, { o := .mv (.v 3) }, { o := .mv (.v 5) }, { o := .bin .sub (.l 0) (.i 1) }, { o := .ia (.l 2) (.l 0) 2 }, { o := .fa (.l 0) 1 }, { o := .ld (.l 0) 1 false }, { o := .mv (.v 6) }, { o := .ia (.l 1) (.l 0) 2 }, { o := .ld (.l 0) 2 true }, { o := .fa (.v 4) 1 }, { o := .ld (.l 0) 1 false }, { o := .mv (.v 6) }, { o := .ia (.l 1) (.l 0) 2 }, { o := .ld (.l 0) 2 true }, { o := .ca N.places_Join 0 [] [.l 5, .l 0] }, { o := .mv (.l 0) }, { o := .ex (.l 0) 0 }, { o := .ex (.l 1) 1 }, { o := .ia (.l 19) (.l 18) 2 }, { o := .st (.l 0) (.l 2) 2 [] }] [(3, 22), (5, 22)]))) (.reg [{ o := .bin .add (.v 11) (.i 1) }, { o := .mv (.l 0), d := some 11 }] [])))
def worlds_Tidy_l2 : C := .loop false [0, 1, 2, 6] K.worlds_Tidy_l2b
def worlds_Tidy_l1b : C := (.its  [{ o := .bin .lss (.v 9) (.v 8) }] [] 0 .skip (.exit 0) (.seq (.blk 1 (.seq (.reg [{ o := .ia (.v 7) (.v 9) 2 }, { o := .ld (.l 0) 2 true }, { o := .al [.nil, .nil] [], d := some 4 }, { o := .st (.l 0) (.l 1) 2 [] }] []) (.seq (.seq (.reg [{ o := .mv (.v 3) }, { o := .ln (.l 0) }, { o := .mv (.l 0), d := some 5 }] []) (.ite [{ o := .mv (.v 5) }, { o := .bin .gtr (.l 0) (.i 0) }, { o := .mv (.l 0) }, { o := .mv (.v 3), g := some (0, true) }, { o := .mv (.v 5), g := some (1, true) }, { o := .bin .sub (.l 0) (.i 1), g := some (2, true) }, { o := .ia (.l 2) (.l 0) 2, g := some (3, true) }, { o := .fa (.l 0) 0, g := some (4, true) }, { o := .ld (.l 0) 1 false, g := some (5, true) }, { o := .fa (.v 4) 0, g := some (6, true) }, { o := .ld (.l 0) 1 false, g := some (7, true) }, { o := .ca N.slices_Equal_int_int 0 [] [.l 2, .l 0], g := some (8, true) }, { o := .pk (.l 9) (.l 0) (.b false) }] [] 0 (.seq (.seq (.reg [{ o := .fa (.v 4) 1 }, { o := .ld (.l 0) 1 false }, { o := .ln (.l 0), d := some 10 }, { o := .mv (.i 0), d := some 11 }] []) (.blk 2 K.worlds_Tidy_l2)) (.exit 1)) .skip)) (.reg [{ o := .mv (.v 3) }, { o := .ld (.v 4) 2 true }, { o := .ca N.worlds_Copy_v1 1 [] [.l 0] }, { o := .bsr [.l 0] 2 }, { o := .app (.l 3) (.l 0) false 2 }, { o := .mv (.l 0), d := some 3 }] [])))) (.reg [{ o := .bin .add (.v 9) (.i 1) }, { o := .mv (.l 0), d := some 9 }] [])))
def worlds_Tidy_l1 : C := .loop false [0, 1, 2, 4, 5, 6, 10, 11] K.worlds_Tidy_l1b
def worlds_Tidy : Fn := { nargs := 1, vars := [0, 2, 3, 4, 6, 7, 8, 12, 13, 14, 35, 36], body := (.seq (.reg [{ o := .mv (.c (.nil)), d := some 1 }] []) (.seq (.reg [{ o := .mv (.v 0) }, { o := .ca N.slices_Values_api_World_api_World 0 [] [.l 0] }, { o := .ca N.slices_SortedStableFunc_api_World 0 [] [.l 0, .c (.fn N.worlds_Tidy_1 [])] }, { o := .mv (.l 0), d := some 2 }] []) (.seq (.reg [{ o := .nw 2, d := some 3 }] []) (.seq (.seq (.reg [{ o := .mv (.v 2), d := some 7 }, { o := .ln (.l 0), d := some 8 }, { o := .mv (.i 0), d := some 9 }] []) (.blk 0 K.worlds_Tidy_l1)) (.seq (.reg [{ o := .mv (.v 3) }, { o := .mv (.l 0), d := some 1 }] []) .ret))))), res := [(1, none)] }
def slices_SortedStableFunc_api_World : Fn := { nargs := 2, vars := [0, 1, 4, 5], body := (.seq (.reg [{ o := .mv (.c (.nil)), d := some 2 }] []) (.seq (.reg [{ o := .mv (.v 0) }, { o := .ca N.slices_Collect_api_World 1 [] [.l 0] }, { o := .mv (.l 0), d := some 3 }] []) (.seq (.reg [{ o := .mv (.v 3) }, { o := .mv (.v 1) }, { o := .ca N.slices_SortStableFunc_api_World_api_World 0 [0] [.l 1, .l 0] }] []) (.seq (.reg [{ o := .mv (.v 3) }, { o := .mv (.l 0), d := some 2 }] []) .ret)))), res := [(2, none)] }
def slices_Values_api_World_api_World : Fn := { nargs := 1, vars := [0, 1, 2], body := (.seq (.reg [{ o := .bx (.v 0) 1, d := some 1 }, { o := .mv (.c (.und)), d := some 2 }] []) (.seq (.reg [{ o := .mf N.slices_Values_api_World_api_World_1 [.v 1] }, { o := .mv (.l 0), d := some 2 }] []) .ret)), res := [(2, none)] }
def worlds_Tidy_1 : Fn := { nargs := 2, vars := [0, 1, 2, 3, 4], body := (.seq (.reg [{ o := .bx (.v 0) 2, d := some 2 }, { o := .bx (.v 1) 2, d := some 3 }, { o := .mv (.i 0), d := some 4 }] []) (.seq (.reg [{ o := .fa (.v 2) 0 }, { o := .ld (.l 0) 1 false }, { o := .fa (.v 3) 0 }, { o := .ld (.l 0) 1 false }, { o := .ca N.slices_Compare_int_int 0 [] [.l 2, .l 0] }, { o := .mv (.l 0), d := some 4 }] []) .ret)), res := [(4, none)] }
def slices_Collect_api_World : Fn := { nargs := 1, vars := [2], body := .fail, res := [(0, none)], prim := [3, N.slices_Values_api_World_api_World_1] }
def slices_SortStableFunc_api_World_api_World : Fn := { nargs := 2, vars := [0, 1], body := (.reg [{ o := .mv (.v 0) }, { o := .mv (.v 0) }, { o := .ln (.l 0) }, { o := .mv (.v 1) }, { o := .ca N.slices_stableCmpFunc_api_World 0 [0] [.l 3, .l 1, .l 0] }] []), res := [] }
def slices_Values_api_World_api_World_1_l1b : C := (.its  [{ o := .bin .lss (.v 5) (.v 4) }] [] 0 .skip (.exit 0) (.seq (.blk 1 (.seq (.reg [{ o := .ia (.v 3) (.v 5) 2 }, { o := .ld (.l 0) 2 true }, { o := .al [.nil, .nil] [], d := some 2 }, { o := .st (.l 0) (.l 1) 2 [] }] []) (.ite [{ o := .mv (.v 0) }, { o := .ld (.v 2) 2 true }, { o := .cw (.l 1) 0 [] [.l 0] }, { o := .un .not (.l 0) }] [] 0 .ret .skip))) (.reg [{ o := .bin .add (.v 5) (.i 1) }, { o := .mv (.l 0), d := some 5 }] [])))
def slices_Values_api_World_api_World_1_l1 : C := .loop true [1, 2] K.slices_Values_api_World_api_World_1_l1b
def slices_Values_api_World_api_World_1 : Fn := { nargs := 2, vars := [0, 1, 4, 5, 6, 7], body := (.seq (.reg [{ o := .ld (.v 1) 1 false, d := some 3 }, { o := .ln (.l 0), d := some 4 }, { o := .mv (.i 0), d := some 5 }] []) (.blk 0 K.slices_Values_api_World_api_World_1_l1)), res := [] }
def slices_stableCmpFunc_api_World_l1b : C := (.seq (.ite [{ o := .mv (.v 5) }, { o := .mv (.v 1) }, { o := .bin .leq (.l 1) (.l 0) }] [] 0 .skip (.exit 0)) (.blk 1 (.seq (.reg [{ o := .mv (.v 0) }, { o := .mv (.v 4) }, { o := .mv (.v 5) }, { o := .mv (.v 2) }, { o := .ca N.slices_insertionSortCmpFunc_api_World 0 [0] [.l 3, .l 2, .l 1, .l 0] }] []) (.seq (.reg [{ o := .mv (.v 5) }, { o := .mv (.l 0), d := some 4 }] []) (.reg [{ o := .mv (.v 5) }, { o := .mv (.v 3) }, { o := .bin .add (.l 1) (.l 0) }, { o := .mv (.l 0), d := some 5 }] [])))))
def slices_stableCmpFunc_api_World_l1 : C := .loop true [6] K.slices_stableCmpFunc_api_World_l1b
def slices_stableCmpFunc_api_World_l3b : C := (.seq (.ite [{ o := .mv (.v 5) }, { o := .mv (.v 1) }, { o := .bin .leq (.l 1) (.l 0) }] [] 0 .skip (.exit 4)) (.blk 5 (.seq (.reg [{ o := .mv (.v 0) }, { o := .mv (.v 4) }, { o := .mv (.v 4) }, { o := .mv (.v 3) }, { o := .bin .add (.l 1) (.l 0) }, { o := .mv (.v 5) }, { o := .mv (.v 2) }, { o := .ca N.slices_symMergeCmpFunc_api_World 0 [0] [.l 6, .l 5, .l 2, .l 1, .l 0] }] []) (.seq (.reg [{ o := .mv (.v 5) }, { o := .mv (.l 0), d := some 4 }] []) (.reg [{ o := .mv (.v 5) }, { o := .mv (.v 3) }, { o := .bin .mul (.i 2) (.l 0) }, { o := .bin .add (.l 2) (.l 0) }, { o := .mv (.l 0), d := some 5 }] [])))))
def slices_stableCmpFunc_api_World_l3 : C := .loop true [6] K.slices_stableCmpFunc_api_World_l3b
def slices_stableCmpFunc_api_World_l2b : C := (.seq (.ite [{ o := .mv (.v 3) }, { o := .mv (.v 1) }, { o := .bin .lss (.l 1) (.l 0) }] [] 0 .skip (.exit 2)) (.blk 3 (.seq (.reg [{ o := .mv (.v 3) }, { o := .bin .mul (.i 2) (.l 0) }, { o := .mv (.i 0), d := some 4 }, { o := .mv (.l 1), d := some 5 }] []) (.seq (.blk 4 K.slices_stableCmpFunc_api_World_l3) (.seq (.seq (.reg [{ o := .mv (.v 4) }, { o := .mv (.v 3) }, { o := .bin .add (.l 1) (.l 0) }, { o := .mv (.l 0), d := some 6 }] []) (.ite [{ o := .mv (.v 6) }, { o := .mv (.v 1) }, { o := .bin .lss (.l 1) (.l 0) }] [] 0 (.reg [{ o := .mv (.v 0) }, { o := .mv (.v 4) }, { o := .mv (.v 6) }, { o := .mv (.v 1) }, { o := .mv (.v 2) }, { o := .ca N.slices_symMergeCmpFunc_api_World 0 [0] [.l 4, .l 3, .l 2, .l 1, .l 0] }] []) .skip)) (.reg [{ o := .mv (.v 3) }, { o := .bin .mul (.l 0) (.i 2) }, { o := .mv (.l 0), d := some 3 }] []))))))
def slices_stableCmpFunc_api_World_l2 : C := .loop true [4, 5, 6] K.slices_stableCmpFunc_api_World_l2b
def slices_stableCmpFunc_api_World : Fn := { nargs := 3, vars := [0, 1, 2, 6, 7, 8, 9], body := (.seq (.reg [{ o := .mv (.i 20), d := some 3 }] []) (.seq (.reg [{ o := .mv (.v 3) }, { o := .mv (.i 0), d := some 4 }, { o := .mv (.l 1), d := some 5 }] []) (.seq (.blk 0 K.slices_stableCmpFunc_api_World_l1) (.seq (.reg [{ o := .mv (.v 0) }, { o := .mv (.v 4) }, { o := .mv (.v 1) }, { o := .mv (.v 2) }, { o := .ca N.slices_insertionSortCmpFunc_api_World 0 [0] [.l 3, .l 2, .l 1, .l 0] }] []) (.blk 2 K.slices_stableCmpFunc_api_World_l2))))), res := [] }
def slices_insertionSortCmpFunc_api_World_l2b : C := (.seq (.ite [{ o := .mv (.v 5) }, { o := .mv (.v 1) }, { o := .bin .gtr (.l 1) (.l 0) }, { o := .mv (.l 0) }, { o := .mv (.v 3), g := some (0, true) }, { o := .mv (.v 0), g := some (1, true) }, { o := .mv (.v 5), g := some (2, true) }, { o := .ia (.l 1) (.l 0) 2, g := some (3, true) }, { o := .ld (.l 0) 2 true, g := some (4, true) }, { o := .mv (.v 0), g := some (5, true) }, { o := .mv (.v 5), g := some (6, true) }, { o := .bin .sub (.l 0) (.i 1), g := some (7, true) }, { o := .ia (.l 2) (.l 0) 2, g := some (8, true) }, { o := .ld (.l 0) 2 true, g := some (9, true) }, { o := .cw (.l 9) 0 [] [.l 5, .l 0], g := some (10, true) }, { o := .bin .lss (.l 0) (.i 0), g := some (11, true) }, { o := .pk (.l 12) (.l 0) (.b false) }] [] 0 .skip (.exit 2)) (.seq (.blk 3 (.reg [{ o := .mv (.v 0) }, { o := .mv (.v 5) }, { o := .mv (.v 0) }, { o := .mv (.v 5) }, { o := .bin .sub (.l 0) (.i 1) }, { o := .mv (.v 0) }, { o := .mv (.v 5) }, { o := .bin .sub (.l 0) (.i 1) }, { o := .ia (.l 2) (.l 0) 2 }, { o := .ld (.l 0) 2 true }, { o := .mv (.v 0) }, { o := .mv (.v 5) }, { o := .ia (.l 1) (.l 0) 2 }, { o := .ld (.l 0) 2 true }, { o := .ia (.l 13) (.l 12) 2 }, { o := .st (.l 0) (.l 5) 2 [] }, { o := .ia (.l 13) (.l 11) 2 }, { o := .st (.l 0) (.l 3) 2 [] }] [])) (.reg [{ o := .mv (.v 5) }, { o := .bin .sub (.l 0) (.i 1) }, { o := .mv (.l 0), d := some 5 }] [])))
def slices_insertionSortCmpFunc_api_World_l2 : C := .loop true [] K.slices_insertionSortCmpFunc_api_World_l2b
def slices_insertionSortCmpFunc_api_World_l1b : C := (.seq (.ite [{ o := .mv (.v 4) }, { o := .mv (.v 2) }, { o := .bin .lss (.l 1) (.l 0) }] [] 0 .skip (.exit 0)) (.seq (.blk 1 (.seq (.reg [{ o := .mv (.v 4) }, { o := .mv (.l 0), d := some 5 }] []) (.blk 2 K.slices_insertionSortCmpFunc_api_World_l2))) (.reg [{ o := .mv (.v 4) }, { o := .bin .add (.l 0) (.i 1) }, { o := .mv (.l 0), d := some 4 }] [])))
def slices_insertionSortCmpFunc_api_World_l1 : C := .loop true [5] K.slices_insertionSortCmpFunc_api_World_l1b
def slices_insertionSortCmpFunc_api_World : Fn := { nargs := 4, vars := [0, 1, 2, 3, 8, 9], body := (.seq (.reg [{ o := .mv (.v 1) }, { o := .bin .add (.l 0) (.i 1) }, { o := .mv (.l 0), d := some 4 }] []) (.blk 0 K.slices_insertionSortCmpFunc_api_World_l1)), res := [] }
def slices_symMergeCmpFunc_api_World_l1b : C := (.seq (.ite [{ o := .mv (.v 5) }, { o := .mv (.v 6) }, { o := .bin .lss (.l 1) (.l 0) }] [] 0 .skip (.exit 0)) (.blk 1 (.seq (.reg [{ o := .mv (.v 5) }, { o := .mv (.v 6) }, { o := .bin .add (.l 1) (.l 0) }, { o := .cv .u64 (.l 0) }, { o := .bin .shr (.l 0) (.c (.t (.int .u64 (1)))) }, { o := .cv .i64 (.l 0) }, { o := .mv (.l 0), d := some 7 }] []) (.ite [{ o := .mv (.v 4) }, { o := .mv (.v 0) }, { o := .mv (.v 7) }, { o := .ia (.l 1) (.l 0) 2 }, { o := .ld (.l 0) 2 true }, { o := .mv (.v 0) }, { o := .mv (.v 1) }, { o := .ia (.l 1) (.l 0) 2 }, { o := .ld (.l 0) 2 true }, { o := .cw (.l 8) 0 [] [.l 4, .l 0] }, { o := .bin .lss (.l 0) (.i 0) }] [] 0 (.reg [{ o := .mv (.v 7) }, { o := .bin .add (.l 0) (.i 1) }, { o := .mv (.l 0), d := some 5 }] []) (.reg [{ o := .mv (.v 7) }, { o := .mv (.l 0), d := some 6 }] [])))))
def slices_symMergeCmpFunc_api_World_l1 : C := .loop true [2, 3, 7, 8, 9, 10, 11, 12, 13, 14, 15, 16, 17, 18, 19] K.slices_symMergeCmpFunc_api_World_l1b
def slices_symMergeCmpFunc_api_World_l2b : C := (.seq (.ite [{ o := .mv (.v 8) }, { o := .mv (.v 5) }, { o := .bin .sub (.l 0) (.i 1) }, { o := .bin .lss (.l 2) (.l 0) }] [] 0 .skip (.exit 2)) (.seq (.blk 3 (.reg [{ o := .mv (.v 0) }, { o := .mv (.v 8) }, { o := .mv (.v 0) }, { o := .mv (.v 8) }, { o := .bin .add (.l 0) (.i 1) }, { o := .mv (.v 0) }, { o := .mv (.v 8) }, { o := .bin .add (.l 0) (.i 1) }, { o := .ia (.l 2) (.l 0) 2 }, { o := .ld (.l 0) 2 true }, { o := .mv (.v 0) }, { o := .mv (.v 8) }, { o := .ia (.l 1) (.l 0) 2 }, { o := .ld (.l 0) 2 true }, { o := .ia (.l 13) (.l 12) 2 }, { o := .st (.l 0) (.l 5) 2 [] }, { o := .ia (.l 13) (.l 11) 2 }, { o := .st (.l 0) (.l 3) 2 [] }] [])) (.reg [{ o := .mv (.v 8) }, { o := .bin .add (.l 0) (.i 1) }, { o := .mv (.l 0), d := some 8 }] [])))
def slices_symMergeCmpFunc_api_World_l2 : C := .loop true [1, 2, 3, 4, 6, 7, 9, 10, 11, 12, 13, 14, 15, 16, 17, 18, 19] K.slices_symMergeCmpFunc_api_World_l2b
def slices_symMergeCmpFunc_api_World_l3b : C := (.seq (.ite [{ o := .mv (.v 9) }, { o := .mv (.v 10) }, { o := .bin .lss (.l 1) (.l 0) }] [] 0 .skip (.exit 4)) (.blk 5 (.seq (.reg [{ o := .mv (.v 9) }, { o := .mv (.v 10) }, { o := .bin .add (.l 1) (.l 0) }, { o := .cv .u64 (.l 0) }, { o := .bin .shr (.l 0) (.c (.t (.int .u64 (1)))) }, { o := .cv .i64 (.l 0) }, { o := .mv (.l 0), d := some 11 }] []) (.ite [{ o := .mv (.v 4) }, { o := .mv (.v 0) }, { o := .mv (.v 2) }, { o := .ia (.l 1) (.l 0) 2 }, { o := .ld (.l 0) 2 true }, { o := .mv (.v 0) }, { o := .mv (.v 11) }, { o := .ia (.l 1) (.l 0) 2 }, { o := .ld (.l 0) 2 true }, { o := .cw (.l 8) 0 [] [.l 4, .l 0] }, { o := .bin .lss (.l 0) (.i 0) }, { o := .un .not (.l 0) }] [] 0 (.reg [{ o := .mv (.v 11) }, { o := .bin .add (.l 0) (.i 1) }, { o := .mv (.l 0), d := some 9 }] []) (.reg [{ o := .mv (.v 11) }, { o := .mv (.l 0), d := some 10 }] [])))))
def slices_symMergeCmpFunc_api_World_l3 : C := .loop true [1, 3, 5, 6, 7, 8, 11, 12, 13, 14, 15, 16, 17, 18, 19] K.slices_symMergeCmpFunc_api_World_l3b
def slices_symMergeCmpFunc_api_World_l4b : C := (.seq (.ite [{ o := .mv (.v 12) }, { o := .mv (.v 9) }, { o := .bin .gtr (.l 1) (.l 0) }] [] 0 .skip (.exit 6)) (.seq (.blk 7 (.reg [{ o := .mv (.v 0) }, { o := .mv (.v 12) }, { o := .mv (.v 0) }, { o := .mv (.v 12) }, { o := .bin .sub (.l 0) (.i 1) }, { o := .mv (.v 0) }, { o := .mv (.v 12) }, { o := .bin .sub (.l 0) (.i 1) }, { o := .ia (.l 2) (.l 0) 2 }, { o := .ld (.l 0) 2 true }, { o := .mv (.v 0) }, { o := .mv (.v 12) }, { o := .ia (.l 1) (.l 0) 2 }, { o := .ld (.l 0) 2 true }, { o := .ia (.l 13) (.l 12) 2 }, { o := .st (.l 0) (.l 5) 2 [] }, { o := .ia (.l 13) (.l 11) 2 }, { o := .st (.l 0) (.l 3) 2 [] }] [])) (.reg [{ o := .mv (.v 12) }, { o := .bin .sub (.l 0) (.i 1) }, { o := .mv (.l 0), d := some 12 }] [])))
def slices_symMergeCmpFunc_api_World_l4 : C := .loop true [1, 2, 3, 4, 5, 6, 7, 8, 10, 11, 13, 14, 15, 16, 17, 18, 19] K.slices_symMergeCmpFunc_api_World_l4b
def slices_symMergeCmpFunc_api_World_l5b : C := (.seq (.ite [{ o := .mv (.v 15) }, { o := .mv (.v 16) }, { o := .bin .lss (.l 1) (.l 0) }] [] 0 .skip (.exit 8)) (.blk 9 (.seq (.reg [{ o := .mv (.v 15) }, { o := .mv (.v 16) }, { o := .bin .add (.l 1) (.l 0) }, { o := .cv .u64 (.l 0) }, { o := .bin .shr (.l 0) (.c (.t (.int .u64 (1)))) }, { o := .cv .i64 (.l 0) }, { o := .mv (.l 0), d := some 18 }] []) (.ite [{ o := .mv (.v 4) }, { o := .mv (.v 0) }, { o := .mv (.v 17) }, { o := .mv (.v 18) }, { o := .bin .sub (.l 1) (.l 0) }, { o := .ia (.l 3) (.l 0) 2 }, { o := .ld (.l 0) 2 true }, { o := .mv (.v 0) }, { o := .mv (.v 18) }, { o := .ia (.l 1) (.l 0) 2 }, { o := .ld (.l 0) 2 true }, { o := .cw (.l 10) 0 [] [.l 4, .l 0] }, { o := .bin .lss (.l 0) (.i 0) }, { o := .un .not (.l 0) }] [] 0 (.reg [{ o := .mv (.v 18) }, { o := .bin .add (.l 0) (.i 1) }, { o := .mv (.l 0), d := some 15 }] []) (.reg [{ o := .mv (.v 18) }, { o := .mv (.l 0), d := some 16 }] [])))))
def slices_symMergeCmpFunc_api_World_l5 : C := .loop true [5, 6, 7, 8, 9, 10, 11, 12, 18, 19] K.slices_symMergeCmpFunc_api_World_l5b
def slices_symMergeCmpFunc_api_World : Fn := { nargs := 5, vars := [0, 1, 2, 3, 4, 10, 11, 12, 13, 14, 15, 16, 17, 18, 19, 20, 21, 22, 23, 24], body := (.seq (.ite [{ o := .mv (.v 2) }, { o := .mv (.v 1) }, { o := .bin .sub (.l 1) (.l 0) }, { o := .bin .eql (.l 0) (.i 1) }] [] 0 (.seq (.reg [{ o := .mv (.v 2) }, { o := .mv (.l 0), d := some 5 }] []) (.seq (.reg [{ o := .mv (.v 3) }, { o := .mv (.l 0), d := some 6 }] []) (.seq (.blk 0 K.slices_symMergeCmpFunc_api_World_l1) (.seq (.seq (.reg [{ o := .mv (.v 1) }, { o := .mv (.l 0), d := some 8 }] []) (.blk 2 K.slices_symMergeCmpFunc_api_World_l2)) .ret)))) .skip) (.seq (.ite [{ o := .mv (.v 3) }, { o := .mv (.v 2) }, { o := .bin .sub (.l 1) (.l 0) }, { o := .bin .eql (.l 0) (.i 1) }] [] 0 (.seq (.reg [{ o := .mv (.v 1) }, { o := .mv (.l 0), d := some 9 }] []) (.seq (.reg [{ o := .mv (.v 2) }, { o := .mv (.l 0), d := some 10 }] []) (.seq (.blk 4 K.slices_symMergeCmpFunc_api_World_l3) (.seq (.seq (.reg [{ o := .mv (.v 2) }, { o := .mv (.l 0), d := some 12 }] []) (.blk 6 K.slices_symMergeCmpFunc_api_World_l4)) .ret)))) .skip) (.seq (.reg [{ o := .mv (.v 1) }, { o := .mv (.v 3) }, { o := .bin .add (.l 1) (.l 0) }, { o := .cv .u64 (.l 0) }, { o := .bin .shr (.l 0) (.c (.t (.int .u64 (1)))) }, { o := .cv .i64 (.l 0) }, { o := .mv (.l 0), d := some 13 }] []) (.seq (.reg [{ o := .mv (.v 13) }, { o := .mv (.v 2) }, { o := .bin .add (.l 1) (.l 0) }, { o := .mv (.l 0), d := some 14 }] []) (.seq (.reg [{ o := .mv (.i 0), d := some 15 }, { o := .mv (.i 0), d := some 16 }] []) (.seq (.ite [{ o := .mv (.v 2) }, { o := .mv (.v 13) }, { o := .bin .gtr (.l 1) (.l 0) }] [] 0 (.seq (.reg [{ o := .mv (.v 14) }, { o := .mv (.v 3) }, { o := .bin .sub (.l 1) (.l 0) }, { o := .mv (.l 0), d := some 15 }] []) (.reg [{ o := .mv (.v 13) }, { o := .mv (.l 0), d := some 16 }] [])) (.seq (.reg [{ o := .mv (.v 1) }, { o := .mv (.l 0), d := some 15 }] []) (.reg [{ o := .mv (.v 2) }, { o := .mv (.l 0), d := some 16 }] []))) (.seq (.reg [{ o := .mv (.v 14) }, { o := .bin .sub (.l 0) (.i 1) }, { o := .mv (.l 0), d := some 17 }] []) (.seq (.blk 8 K.slices_symMergeCmpFunc_api_World_l5) (.seq (.reg [{ o := .mv (.v 14) }, { o := .mv (.v 15) }, { o := .bin .sub (.l 1) (.l 0) }, { o := .mv (.l 0), d := some 19 }] []) (.seq (.ite [{ o := .mv (.v 15) }, { o := .mv (.v 2) }, { o := .bin .lss (.l 1) (.l 0) }, { o := .mv (.l 0) }, { o := .mv (.v 2), g := some (0, true) }, { o := .mv (.v 19), g := some (1, true) }, { o := .bin .lss (.l 1) (.l 0), g := some (2, true) }, { o := .pk (.l 3) (.l 0) (.b false) }] [] 0 (.reg [{ o := .mv (.v 0) }, { o := .mv (.v 15) }, { o := .mv (.v 2) }, { o := .mv (.v 19) }, { o := .mv (.v 4) }, { o := .ca N.slices_rotateCmpFunc_api_World 0 [0] [.l 4, .l 3, .l 2, .l 1, .l 0] }] []) .skip) (.seq (.ite [{ o := .mv (.v 1) }, { o := .mv (.v 15) }, { o := .bin .lss (.l 1) (.l 0) }, { o := .mv (.l 0) }, { o := .mv (.v 15), g := some (0, true) }, { o := .mv (.v 13), g := some (1, true) }, { o := .bin .lss (.l 1) (.l 0), g := some (2, true) }, { o := .pk (.l 3) (.l 0) (.b false) }] [] 0 (.reg [{ o := .mv (.v 0) }, { o := .mv (.v 1) }, { o := .mv (.v 15) }, { o := .mv (.v 13) }, { o := .mv (.v 4) }, { o := .ca N.slices_symMergeCmpFunc_api_World 0 [0] [.l 4, .l 3, .l 2, .l 1, .l 0] }] []) .skip) (.ite [{ o := .mv (.v 13) }, { o := .mv (.v 19) }, { o := .bin .lss (.l 1) (.l 0) }, { o := .mv (.l 0) }, { o := .mv (.v 19), g := some (0, true) }, { o := .mv (.v 3), g := some (1, true) }, { o := .bin .lss (.l 1) (.l 0), g := some (2, true) }, { o := .pk (.l 3) (.l 0) (.b false) }] [] 0 (.reg [{ o := .mv (.v 0) }, { o := .mv (.v 13) }, { o := .mv (.v 19) }, { o := .mv (.v 3) }, { o := .mv (.v 4) }, { o := .ca N.slices_symMergeCmpFunc_api_World 0 [0] [.l 4, .l 3, .l 2, .l 1, .l 0] }] []) .skip)))))))))))), res := [] }
def slices_rotateCmpFunc_api_World_l1b : C := (.seq (.ite [{ o := .mv (.v 5) }, { o := .mv (.v 6) }, { o := .bin .neq (.l 1) (.l 0) }] [] 0 .skip (.exit 0)) (.blk 1 (.ite [{ o := .mv (.v 5) }, { o := .mv (.v 6) }, { o := .bin .gtr (.l 1) (.l 0) }] [] 0 (.seq (.reg [{ o := .mv (.v 0) }, { o := .mv (.v 2) }, { o := .mv (.v 5) }, { o := .bin .sub (.l 1) (.l 0) }, { o := .mv (.v 2) }, { o := .mv (.v 6) }, { o := .mv (.v 4) }, { o := .ca N.slices_swapRangeCmpFunc_api_World 0 [0] [.l 6, .l 3, .l 2, .l 1, .l 0] }] []) (.reg [{ o := .mv (.v 5) }, { o := .mv (.v 6) }, { o := .bin .sub (.l 1) (.l 0) }, { o := .mv (.l 0), d := some 5 }] [])) (.seq (.reg [{ o := .mv (.v 0) }, { o := .mv (.v 2) }, { o := .mv (.v 5) }, { o := .bin .sub (.l 1) (.l 0) }, { o := .mv (.v 2) }, { o := .mv (.v 6) }, { o := .bin .add (.l 1) (.l 0) }, { o := .mv (.v 5) }, { o := .bin .sub (.l 1) (.l 0) }, { o := .mv (.v 5) }, { o := .mv (.v 4) }, { o := .ca N.slices_swapRangeCmpFunc_api_World 0 [0] [.l 10, .l 7, .l 2, .l 1, .l 0] }] []) (.reg [{ o := .mv (.v 6) }, { o := .mv (.v 5) }, { o := .bin .sub (.l 1) (.l 0) }, { o := .mv (.l 0), d := some 6 }] [])))))
def slices_rotateCmpFunc_api_World_l1 : C := .loop true [1, 3] K.slices_rotateCmpFunc_api_World_l1b
def slices_rotateCmpFunc_api_World : Fn := { nargs := 5, vars := [0, 1, 2, 3, 4, 10, 11], body := (.seq (.reg [{ o := .mv (.v 2) }, { o := .mv (.v 1) }, { o := .bin .sub (.l 1) (.l 0) }, { o := .mv (.l 0), d := some 5 }] []) (.seq (.reg [{ o := .mv (.v 3) }, { o := .mv (.v 2) }, { o := .bin .sub (.l 1) (.l 0) }, { o := .mv (.l 0), d := some 6 }] []) (.seq (.blk 0 K.slices_rotateCmpFunc_api_World_l1) (.reg [{ o := .mv (.v 0) }, { o := .mv (.v 2) }, { o := .mv (.v 5) }, { o := .bin .sub (.l 1) (.l 0) }, { o := .mv (.v 2) }, { o := .mv (.v 5) }, { o := .mv (.v 4) }, { o := .ca N.slices_swapRangeCmpFunc_api_World 0 [0] [.l 6, .l 3, .l 2, .l 1, .l 0] }] [])))), res := [] }
def slices_swapRangeCmpFunc_api_World_l1b : C := (.seq (.ite [{ o := .mv (.v 4) }, { o := .mv (.v 3) }, { o := .bin .lss (.l 1) (.l 0) }] [] 0 .skip (.exit 0)) (.seq (.blk 1 (.reg [{ o := .mv (.v 0) }, { o := .mv (.v 1) }, { o := .mv (.v 4) }, { o := .bin .add (.l 1) (.l 0) }, { o := .mv (.v 0) }, { o := .mv (.v 2) }, { o := .mv (.v 4) }, { o := .bin .add (.l 1) (.l 0) }, { o := .mv (.v 0) }, { o := .mv (.v 2) }, { o := .mv (.v 4) }, { o := .bin .add (.l 1) (.l 0) }, { o := .ia (.l 3) (.l 0) 2 }, { o := .ld (.l 0) 2 true }, { o := .mv (.v 0) }, { o := .mv (.v 1) }, { o := .mv (.v 4) }, { o := .bin .add (.l 1) (.l 0) }, { o := .ia (.l 3) (.l 0) 2 }, { o := .ld (.l 0) 2 true }, { o := .ia (.l 19) (.l 16) 2 }, { o := .st (.l 0) (.l 7) 2 [] }, { o := .ia (.l 17) (.l 14) 2 }, { o := .st (.l 0) (.l 3) 2 [] }] [])) (.reg [{ o := .mv (.v 4) }, { o := .bin .add (.l 0) (.i 1) }, { o := .mv (.l 0), d := some 4 }] [])))
def slices_swapRangeCmpFunc_api_World_l1 : C := .loop true [] K.slices_swapRangeCmpFunc_api_World_l1b
def slices_swapRangeCmpFunc_api_World : Fn := { nargs := 5, vars := [0, 1, 2, 3, 10], body := (.seq (.reg [{ o := .mv (.i 0), d := some 4 }] []) (.blk 0 K.slices_swapRangeCmpFunc_api_World_l1)), res := [] }
def worlds_Copy_v1_l1b : C := (.its  [{ o := .bin .lss (.v 7) (.v 6) }] [] 0 .skip (.exit 0) (.seq (.blk 1 (.seq (.reg [{ o := .ia (.v 5) (.v 7) 2 }, { o := .ld (.l 0) 2 true }, { o := .al [.t (.int .i64 (0)), .nil] [], d := some 4 }, { o := .st (.l 0) (.l 1) 2 [] }] []) (.reg [{ o := .fa (.v 3) 1 }, { o := .ld (.l 0) 1 false }, { o := .fa (.v 4) 0 }, { o := .ld (.l 0) 1 false }, { o := .fa (.v 4) 1 }, { o := .ld (.l 0) 1 false }, { o := .ca N.slices_Clone_int_int 1 [] [.l 0] }, { o := .bd [.t (.int .i64 (0)), .nil] [(0, 1, .l 3), (1, 1, .l 0)] }, { o := .bs [.l 0] 2 }, { o := .app (.l 7) (.l 0) true 2 }, { o := .fa (.v 3) 1 }, { o := .st (.l 0) (.l 1) 1 [] }] [(1, 7), (1, 9), (3, 7)]))) (.reg [{ o := .bin .add (.v 7) (.i 1) }, { o := .mv (.l 0), d := some 7 }] [])))
def worlds_Copy_v1_l1 : C := .loop true [0, 1, 4] K.worlds_Copy_v1_l1b
def worlds_Copy_v1 : Fn := { nargs := 1, vars := [0, 1, 2, 3, 5, 11, 12, 13], body := (.seq (.reg [{ o := .bx (.v 0) 2, d := some 1 }, { o := .al [.nil, .nil] [], d := some 2 }] []) (.seq (.reg [{ o := .fa (.v 1) 0 }, { o := .ld (.l 0) 1 false }, { o := .ca N.slices_Clone_int_int 1 [] [.l 0] }, { o := .bd [.nil, .nil] [(0, 1, .l 0)] }, { o := .al [.nil, .nil] [(1, 2)], d := some 3 }, { o := .st (.l 0) (.l 1) 2 [(1, 2)] }] []) (.seq (.seq (.reg [{ o := .fa (.v 1) 1 }, { o := .ld (.l 0) 1 false, d := some 5 }, { o := .ln (.l 0), d := some 6 }, { o := .mv (.i 0), d := some 7 }] []) (.blk 0 K.worlds_Copy_v1_l1)) (.seq (.reg [{ o := .ld (.v 3) 2 true }, { o := .st (.v 2) (.l 0) 2 [] }] []) .ret)))), res := [(2, some (2, true))] }
end Go.Ev.K
namespace Go.Ev
class Has13 [Lib] : Prop where
  t_worlds_Copy : Lib.fs N.worlds_Copy = some K.worlds_Copy
  t_worlds_Tidy : Lib.fs N.worlds_Tidy = some K.worlds_Tidy
  t_slices_SortedStableFunc_api_World : Lib.fs N.slices_SortedStableFunc_api_World = some K.slices_SortedStableFunc_api_World
  t_slices_Values_api_World_api_World : Lib.fs N.slices_Values_api_World_api_World = some K.slices_Values_api_World_api_World
  t_worlds_Tidy_1 : Lib.fs N.worlds_Tidy_1 = some K.worlds_Tidy_1
  t_slices_Collect_api_World : Lib.fs N.slices_Collect_api_World = some K.slices_Collect_api_World
  t_slices_SortStableFunc_api_World_api_World : Lib.fs N.slices_SortStableFunc_api_World_api_World = some K.slices_SortStableFunc_api_World_api_World
  t_slices_Values_api_World_api_World_1 : Lib.fs N.slices_Values_api_World_api_World_1 = some K.slices_Values_api_World_api_World_1
  t_slices_stableCmpFunc_api_World : Lib.fs N.slices_stableCmpFunc_api_World = some K.slices_stableCmpFunc_api_World
  t_slices_insertionSortCmpFunc_api_World : Lib.fs N.slices_insertionSortCmpFunc_api_World = some K.slices_insertionSortCmpFunc_api_World
  t_slices_symMergeCmpFunc_api_World : Lib.fs N.slices_symMergeCmpFunc_api_World = some K.slices_symMergeCmpFunc_api_World
  t_slices_rotateCmpFunc_api_World : Lib.fs N.slices_rotateCmpFunc_api_World = some K.slices_rotateCmpFunc_api_World
  t_slices_swapRangeCmpFunc_api_World : Lib.fs N.slices_swapRangeCmpFunc_api_World = some K.slices_swapRangeCmpFunc_api_World
  t_worlds_Copy_v1 : Lib.fs N.worlds_Copy_v1 = some K.worlds_Copy_v1
namespace K
variable [Lib] [Has13]
theorem t_worlds_Copy : Lib.fs N.worlds_Copy = some K.worlds_Copy := Has13.t_worlds_Copy
theorem t_worlds_Tidy : Lib.fs N.worlds_Tidy = some K.worlds_Tidy := Has13.t_worlds_Tidy
theorem t_slices_SortedStableFunc_api_World : Lib.fs N.slices_SortedStableFunc_api_World = some K.slices_SortedStableFunc_api_World := Has13.t_slices_SortedStableFunc_api_World
theorem t_slices_Values_api_World_api_World : Lib.fs N.slices_Values_api_World_api_World = some K.slices_Values_api_World_api_World := Has13.t_slices_Values_api_World_api_World
theorem t_worlds_Tidy_1 : Lib.fs N.worlds_Tidy_1 = some K.worlds_Tidy_1 := Has13.t_worlds_Tidy_1
theorem t_slices_Collect_api_World : Lib.fs N.slices_Collect_api_World = some K.slices_Collect_api_World := Has13.t_slices_Collect_api_World
theorem t_slices_SortStableFunc_api_World_api_World : Lib.fs N.slices_SortStableFunc_api_World_api_World = some K.slices_SortStableFunc_api_World_api_World := Has13.t_slices_SortStableFunc_api_World_api_World
theorem t_slices_Values_api_World_api_World_1 : Lib.fs N.slices_Values_api_World_api_World_1 = some K.slices_Values_api_World_api_World_1 := Has13.t_slices_Values_api_World_api_World_1
theorem t_slices_stableCmpFunc_api_World : Lib.fs N.slices_stableCmpFunc_api_World = some K.slices_stableCmpFunc_api_World := Has13.t_slices_stableCmpFunc_api_World
theorem t_slices_insertionSortCmpFunc_api_World : Lib.fs N.slices_insertionSortCmpFunc_api_World = some K.slices_insertionSortCmpFunc_api_World := Has13.t_slices_insertionSortCmpFunc_api_World
theorem t_slices_symMergeCmpFunc_api_World : Lib.fs N.slices_symMergeCmpFunc_api_World = some K.slices_symMergeCmpFunc_api_World := Has13.t_slices_symMergeCmpFunc_api_World
theorem t_slices_rotateCmpFunc_api_World : Lib.fs N.slices_rotateCmpFunc_api_World = some K.slices_rotateCmpFunc_api_World := Has13.t_slices_rotateCmpFunc_api_World
theorem t_slices_swapRangeCmpFunc_api_World : Lib.fs N.slices_swapRangeCmpFunc_api_World = some K.slices_swapRangeCmpFunc_api_World := Has13.t_slices_swapRangeCmpFunc_api_World
theorem t_worlds_Copy_v1 : Lib.fs N.worlds_Copy_v1 = some K.worlds_Copy_v1 := Has13.t_worlds_Copy_v1
end K
end Go.Ev

