/- Parts of the proof: see the text that holds the theorem. -/
import Derived.Test.YtddpkhnllojfpaaGreatZ4
set_option linter.all false
set_option maxRecDepth 100000
namespace Go.Ev
open Go
variable [Lib] [Has1] [Has2]
@[go_sem] theorem appOK_spn (l : List Spn) : appOK 2 (l.map Spn.e) = true := by cases l <;> rfl
@[go_sem] theorem set_spn (l : List Spn) (k : Nat) (a b : Int) : (List.map D.t (List.map Spn.e l)).set k (D.t (T.agg [tI a, tI b])) = List.map D.t (List.map Spn.e (l.set k ⟨a, b⟩)) := by
  rw [List.map_set, List.map_set]
@[go_sem] theorem opBs_6 (H : Heap) (sz : Nat) (a b c d e f : T) : opBs H sz [.t a, .t b, .t c, .t d, .t e, .t f] = if cellsAre sz [a, b, c, d, e, f] = true then some (.t (.sl [a, b, c, d, e, f]), H) else none := opBs_if H sz [a, b, c, d, e, f]
@[go_sem] theorem opBs_7 (H : Heap) (sz : Nat) (a b c d e f g : T) : opBs H sz [.t a, .t b, .t c, .t d, .t e, .t f, .t g] = if cellsAre sz [a, b, c, d, e, f, g] = true then some (.t (.sl [a, b, c, d, e, f, g]), H) else none := opBs_if H sz [a, b, c, d, e, f, g]
@[go_sem] theorem opBs_8 (H : Heap) (sz : Nat) (a b c d e f g h : T) : opBs H sz [.t a, .t b, .t c, .t d, .t e, .t f, .t g, .t h] = if cellsAre sz [a, b, c, d, e, f, g, h] = true then some (.t (.sl [a, b, c, d, e, f, g, h]), H) else none := opBs_if H sz [a, b, c, d, e, f, g, h]
@[go_sem] theorem app2_last {α β γ : Type} {l : List α} {g : α → β} {f : β → γ} {x : γ} {j : Nat} (h : j = l.length) : (List.map f (List.map g l) ++ [x])[j]? = some x := by
  rw [List.getElem?_append_right (by simp; omega)]; simp [h]
@[go_sem] theorem app2_set {α β γ : Type} {l : List α} {g : α → β} {f : β → γ} {x y : γ} {j : Nat} (h : j = l.length) : (List.map f (List.map g l) ++ [x]).set j y = List.map f (List.map g l) ++ [y] := by
  rw [List.set_append_right _ _ (by simp; omega)]; simp [h]
def Dice.flow1 (d : Dice) : Spn × Dice :=
  let a := d.of [0, 1000, 5000, 20000, -5000, -20000, 4999, 100]
  let b := a.2.of [0, 1, 1000, 6000]
  let c := b.2.of [0, 1, 500]
  let w := c.2.one 9
  (if w.1 = true then ⟨-1125899906842624, 1125899906842624⟩ else ⟨a.1 - b.1, a.1 + c.1⟩, w.2)
def Dice.flowsN (d : Dice) : Nat → List Spn × Dice
  | 0 => ([], d)
  | k + 1 => ((d.flowsN k).1 ++ [((d.flowsN k).2.flow1).1], ((d.flowsN k).2.flow1).2)
def Dice.flows (d : Dice) (m : Mine) : List Spn × Dice := d.flowsN m.roads.length
theorem Dice.flow1_light {d : Dice} (h : d.light) : d.flow1.2.light := by
  unfold Dice.flow1; simp only
  exact Dice.one_light (Dice.of_light (Dice.of_light (Dice.of_light h [0, 1000, 5000, 20000, -5000, -20000, 4999, 100]) [0, 1, 1000, 6000]) [0, 1, 500]) 9
theorem Dice.flowsN_light {d : Dice} (h : d.light) : ∀ n, (d.flowsN n).2.light
  | 0 => h
  | n + 1 => by simp only [Dice.flowsN]; exact Dice.flow1_light (Dice.flowsN_light h n)
theorem Dice.flowsN_len (d : Dice) : ∀ n, (d.flowsN n).1.length = n
  | 0 => rfl
  | n + 1 => by simp [Dice.flowsN, d.flowsN_len n]
theorem flow1_good (d : Dice) : d.flow1.1.ok := by
  unfold Dice.flow1; simp only
  have m1 := d.of_mem (l := [0, 1000, 5000, 20000, -5000, -20000, 4999, 100]) (by simp)
  generalize d.of [0, 1000, 5000, 20000, -5000, -20000, 4999, 100] = a at *
  obtain ⟨x, d1⟩ := a
  have m2 := d1.of_mem (l := [0, 1, 1000, 6000]) (by simp)
  simp only
  generalize d1.of [0, 1, 1000, 6000] = b at *
  obtain ⟨y, d2⟩ := b
  have m3 := d2.of_mem (l := [0, 1, 500]) (by simp)
  simp only
  generalize d2.of [0, 1, 500] = c at *
  obtain ⟨z, d3⟩ := c
  simp only [List.mem_cons, List.not_mem_nil, or_false] at m1 m2 m3 ⊢
  unfold Spn.ok
  split <;> (simp only; omega)
theorem Dice.flowsN_good (d : Dice) : ∀ n, ∀ x ∈ (d.flowsN n).1, x.ok
  | 0, x, hx => by simp [Dice.flowsN] at hx
  | n + 1, x, hx => by
    simp only [Dice.flowsN, List.mem_append, List.mem_singleton] at hx
    rcases hx with hx | rfl
    · exact d.flowsN_good n x hx
    · exact flow1_good _
theorem flows_round (d : Dice) (hd : d.light) (m : Mine) (hm : m.roads.length ≤ 1000) (j : Nat) (hj : j < m.roads.length) (l : List Spn) (hl : l.length = j) :
    roundC true [1, 3, 6] 3 (exS CALL K.made_Dice_Flows_l1b ⟨[.bp 0 0, .und, .bp 1 0, .und, .ref 2 0 l.length, I j, .und], [d.obj, .box [.t (.sl (m.places.map Place.e)), .t (.sl (m.roads.map Road.e))], .arr 2 false 0 ((l.map Spn.e).map .t)]⟩) =
    some ⟨[.bp 0 0, .und, .bp 1 0, .und, .ref 2 0 (l ++ [d.flow1.1]).length, I (j + 1), .und], [d.flow1.2.obj, .box [.t (.sl (m.places.map Place.e)), .t (.sl (m.roads.map Road.e))], .arr 2 false 0 (((l ++ [d.flow1.1]).map Spn.e).map .t)]⟩ := by
  unfold Dice.flow1; simp only
  have h1 := of_ok d [0, 1000, 5000, 20000, -5000, -20000, 4999, 100] (by simp) (by simp) hd
  have l1 := Dice.of_light hd [0, 1000, 5000, 20000, -5000, -20000, 4999, 100]
  have m1 := d.of_mem (l := [0, 1000, 5000, 20000, -5000, -20000, 4999, 100]) (by simp)
  generalize d.of [0, 1000, 5000, 20000, -5000, -20000, 4999, 100] = a at *
  obtain ⟨x, d1⟩ := a
  simp only [tL, List.map_cons, List.map_nil] at h1 l1 ⊢
  have h2 := of_ok d1 [0, 1, 1000, 6000] (by simp) (by simp) l1
  have l2 := Dice.of_light l1 [0, 1, 1000, 6000]
  have m2 := d1.of_mem (l := [0, 1, 1000, 6000]) (by simp)
  generalize d1.of [0, 1, 1000, 6000] = b at *
  obtain ⟨y, d2⟩ := b
  simp only [tL, List.map_cons, List.map_nil] at h2 l2 ⊢
  have h3 := of_ok d2 [0, 1, 500] (by simp) (by simp) l2
  have l3 := Dice.of_light l2 [0, 1, 500]
  have m3 := d2.of_mem (l := [0, 1, 500]) (by simp)
  generalize d2.of [0, 1, 500] = c at *
  obtain ⟨z, d3⟩ := c
  simp only [tL, List.map_cons, List.map_nil] at h3 l3 ⊢
  have h4 := one_ok d3 9 (by omega) (by omega) l3
  generalize d3.one 9 = e at *
  obtain ⟨w, d4⟩ := e
  simp only [List.mem_cons, List.not_mem_nil, or_false] at m1 m2 m3 h4 ⊢
  have st : (l ++ [(⟨x - y, x + z⟩ : Spn)]).set j ⟨-1125899906842624, 1125899906842624⟩ = l ++ [⟨-1125899906842624, 1125899906842624⟩] := by
    rw [List.set_append_right _ _ (by omega), hl, Nat.sub_self]; rfl
  cases w with
  | true =>
    simp (disch := omega) only [go_sem, K.made_Dice_Flows_l1b, ↓reduceIte, h1, h2, h3, h4, Nat.reduceAdd, Nat.reduceSub]
  | false =>
    simp (disch := omega) only [go_sem, K.made_Dice_Flows_l1b, ↓reduceIte, h1, h2, h3, h4, Nat.reduceAdd, Nat.reduceSub]
theorem flowsD_ok (d : Dice) (hd : d.light) (m : Mine) (hm : m.roads.length ≤ 1000) : CALL 0 N.made_Dice_Flows [.bp 0 0, .t m.e] [d.obj] = some (.t (tS (d.flows m).1), [(d.flows m).2.obj]) := by
  refine CALL_of K.t_made_Dice_Flows rfl ?_
  unfold Dice.flows
  have ln := d.flowsN_len
  have loop : ∀ a b c : D, exS CALL K.made_Dice_Flows_l1 ⟨[.bp 0 0, a, .bp 1 0, b, .ref 2 0 0, I 0, c], [d.obj, .box [.t (.sl (m.places.map Place.e)), .t (.sl (m.roads.map Road.e))], .arr 2 false 0 []]⟩ =
      some (.exit 0, ⟨[.bp 0 0, .und, .bp 1 0, .und, .ref 2 0 (d.flowsN m.roads.length).1.length, I m.roads.length, .und], [(d.flowsN m.roads.length).2.obj, .box [.t (.sl (m.places.map Place.e)), .t (.sl (m.roads.map Road.e))], .arr 2 false 0 (((d.flowsN m.roads.length).1.map Spn.e).map .t)]⟩) := by
    intro a b c
    refine loop_up (fun j => ⟨[.bp 0 0, .und, .bp 1 0, .und, .ref 2 0 (d.flowsN j).1.length, I j, .und], [(d.flowsN j).2.obj, .box [.t (.sl (m.places.map Place.e)), .t (.sl (m.roads.map Road.e))], .arr 2 false 0 (((d.flowsN j).1.map Spn.e).map .t)]⟩) m.roads.length rfl ?_ ?_ (by simp)
    · intro j hj
      exact flows_round (d.flowsN j).2 (Dice.flowsN_light hd j) m hm j hj (d.flowsN j).1 (ln j)
    · simp (disch := omega) only [go_sem, K.made_Dice_Flows_l1b, ↓reduceIte]
  have ln := ln m.roads.length
  generalize d.flowsN m.roads.length = r at *
  obtain ⟨l, d1⟩ := r
  simp only at ln loop ⊢
  simp (disch := omega) only [go_sem, K.made_Dice_Flows, ↓reduceIte, loop]
end Go.Ev

namespace Go.Ev
open Go
variable [Lib] [Has1] [Has2]
theorem loop_x {gc : Bool} {dead : List Nat} {c : C} {vs : List D} {H : Heap} (P : Nat → St → Prop) (n : Nat) (Q : Ex × St → Prop) (h0 : P 0 ⟨dropV dead vs, H⟩)
    (hs : ∀ j st, j < n → P j st → (∃ st', roundC gc dead st.H.length (exS CALL c st) = some st' ∧ P (j + 1) st') ∨ ∃ q, exS CALL c st = some q ∧ q.1 ≠ .normal ∧ Q q)
    (he : ∀ st, P n st → ∃ q, exS CALL c st = some q ∧ q.1 ≠ .normal ∧ Q q) : ∃ q, exS CALL (.loop gc dead c) ⟨vs, H⟩ = some q ∧ Q q := by
  have key : ∀ (k j : Nat) (st : St), j + k = n → P j st → ∃ q, loopC gc dead (exS CALL c) st = some q ∧ Q q := by
    intro k
    induction k with
    | zero =>
      intro j st hj hp
      obtain ⟨q, h1, h2, h3⟩ := he st (by rw [← hj]; exact hp)
      exact ⟨q, loopC_exit h1 h2, h3⟩
    | succ k ih =>
      intro j st hj hp
      rcases hs j st (by omega) hp with ⟨st', h1, h2⟩ | ⟨q, h1, h2, h3⟩
      · obtain ⟨q, h3, h4⟩ := ih (j + 1) st' (by omega) h2
        exact ⟨q, loopC_step h1 h3, h4⟩
      · exact ⟨q, loopC_exit h1 h2, h3⟩
  exact key n 0 _ (by omega) h0
theorem roll_x (l : List Int) : CALL 0 N.made_Roll [.t (tL l)] [] = some (.bp 0 0, [Dice.obj ⟨l, 0⟩]) := by
  refine CALL_of K.t_made_Roll rfl ?_
  simp (disch := omega) only [go_sem, K.made_Roll, ↓reduceIte, Dice.obj, Nat.reduceAdd, Nat.reduceSub]
theorem next_x {d : Dice} (hd : d.light) (n : Int) (h1 : 1 ≤ n) (hn : n ≤ 4611686018427387904) :
    ∃ (v : Int) (e : Dice), CALL 0 N.made_Dice_Next [.bp 0 0, I n] [d.obj] = some (I v, [e.obj]) ∧ e.light ∧ 0 ≤ v ∧ v < n :=
  ⟨_, _, next_ok d n hn hd, Dice.next_light hd n, d.next_lo n, d.next_hi h1⟩
theorem one_x {d : Dice} (hd : d.light) (n : Int) (h1 : 0 ≤ n) (hn : n ≤ 4611686018427387904) :
    ∃ (b : Bool) (e : Dice), CALL 0 N.made_Dice_One [.bp 0 0, I n] [d.obj] = some (B b, [e.obj]) ∧ e.light :=
  ⟨_, _, one_ok d n h1 hn hd, Dice.one_light hd n⟩
theorem of_x {d : Dice} (hd : d.light) (l : List Int) (hl : l ≠ []) (hn : l.length ≤ 4294967296) :
    ∃ (v : Int) (e : Dice), CALL 0 N.made_Dice_Of [.bp 0 0, .t (tL l)] [d.obj] = some (I v, [e.obj]) ∧ e.light ∧ v ∈ l :=
  ⟨_, _, of_ok d l hl hn hd, Dice.of_light hd l, d.of_mem hl⟩
theorem mine_x {d : Dice} (hd : d.light) :
    ∃ (m : Mine) (e : Dice), CALL 0 N.made_Dice_Mine [.bp 0 0] [d.obj] = some (.t m.e, [e.obj]) ∧ e.light ∧ m.ok ∧ 2 ≤ m.places.length ∧ m.places.length ≤ 7 ∧ 1 ≤ m.roads.length ∧ m.roads.length ≤ 10 := by
  have b := d.mineN_bd
  have p := d.mine_places
  have r := d.mine_roads
  exact ⟨_, _, mine_ok d hd, Dice.mine_light hd, d.mine_good, by omega, by omega, by omega, by omega⟩
theorem flows_x {d : Dice} (hd : d.light) {m : Mine} (hm : m.ok) :
    ∃ (l : List Spn) (e : Dice), CALL 0 N.made_Dice_Flows [.bp 0 0, .t m.e] [d.obj] = some (.t (tS l), [e.obj]) ∧ e.light ∧ l.length = m.roads.length ∧ (∀ x ∈ l, x.ok) := by
  have nr := hm.nr
  exact ⟨_, _, flowsD_ok d hd m (by omega), Dice.flowsN_light hd _, d.flowsN_len _, d.flowsN_good _⟩
end Go.Ev

namespace Go.Ev
open Go
variable [Lib] [Has1] [Has2] [Has3] [Has4]
abbrev never : Int := 1099511627776
abbrev Wh.box (w : Wh) : Obj := .box [I w.time, .t (tL w.frm)]
end Go.Ev

namespace Go.Ev
open Go
variable [Lib] [Has1] [Has2] [Has3] [Has4]
structure Req where
  x : Blast
  s : Shot
  k : Keys
  b : Bel
  t : Int
  from_ : Int
abbrev Req.e (r : Req) : T := .agg [tL r.x.area, tI r.x.hold, tI r.x.mis, tI r.s.st, tI r.s.fi, tI r.s.se, tI r.s.ti, tL r.k.roads, tL r.k.keys, .bool r.k.out, .sl (r.b.worlds.map World.e), tI r.t, tI r.from_]
structure Req.sz (r : Req) : Prop where
  hx : r.x.area.length ≤ 1000000
  hk : r.k.roads.length ≤ 1000000
  hk2 : r.k.keys.length ≤ 1000000
  hb : r.b.sz
section
variable (x : Blast) (s : Shot) (k : Keys) (b : Bel) (hx : x.area.length ≤ 1000000) (hk : k.roads.length ≤ 1000000) (hk2 : k.keys.length ≤ 1000000) (hb : b.sz)
include hx hk hk2 hb
end
end Go.Ev

namespace Go.Ev
open Go
variable [Lib] [Has1] [Has2] [Has3] [Has4]
section
variable (area : List Int) (ha : area.length ≤ 1000000) (xs : List World) (hx : xs.length ≤ 1000000)
include ha hx
end
end Go.Ev

namespace Go.Ev
open Go
section
variable (H : Heap) (sz id ep n lo hi : Nat) (i j : Int) (fz : Bool)
def scO (r : D) : Option Obj → Option (D × Heap)
  | some (.arr sz' _ ep' es) => if ep = ep' ∧ n = es.length then (if sz' = sz then some (r, H) else none) else none
  | _ => none
@[go_sem] theorem scO_arr (r : D) (sz' : Nat) (pin : Bool) (es : List D) : scO H sz ep n r (some (.arr sz' pin ep es)) = if n = es.length then (if sz' = sz then some (r, H) else none) else none := by simp [scO]
theorem scR {l h : Nat} : ((arrAt H id ep n).bind fun a => if l ≤ h ∧ h ≤ n ∧ a.1 = sz then some (D.sub id ep n l h) else none).map (fun d => (d, H)) = if l ≤ h then (if h ≤ n then scO H sz ep n (.sub id ep n l h) H[id]? else none) else none := by
  simp only [arrAt]
  generalize H[id]? = o
  by_cases h1 : l ≤ h
  · by_cases h2 : h ≤ n
    · rw [if_pos h1, if_pos h2]
      rcases o with _ | (_ | ⟨sz', pin, ep', es⟩)
      · rfl
      · rfl
      · simp only [scO]
        by_cases h3 : ep = ep' ∧ n = es.length
        · rw [if_pos h3, if_pos h3, Option.bind_some]
          by_cases h4 : sz' = sz
          · rw [if_pos h4, if_pos ⟨h1, h2, h4⟩]; rfl
          · rw [if_neg h4, if_neg fun h => h4 h.2.2]; rfl
        · rw [if_neg h3, if_neg h3]; rfl
    · rw [if_pos h1, if_neg h2]
      rcases o with _ | (_ | ⟨sz', pin, ep', es⟩)
      · rfl
      · rfl
      · by_cases h3 : ep = ep' ∧ n = es.length
        · simp only [if_pos h3, Option.bind_some]; rw [if_neg fun h => h2 h.2.1]; rfl
        · simp only [if_neg h3]; rfl
  · rw [if_neg h1]
    rcases o with _ | (_ | ⟨sz', pin, ep', es⟩)
    · rfl
    · rfl
    · by_cases h3 : ep = ep' ∧ n = es.length
      · simp only [if_pos h3, Option.bind_some]; rw [if_neg fun h => h1 h.1]; rfl
      · simp only [if_neg h3]; rfl
@[go_sem] theorem opSc_ref_hi : opSc H sz (some (.ref id ep n)) (some none) (some (some i)) = if 0 ≤ i then (if i ≤ n then scO H sz ep n (.sub id ep n 0 i.toNat) H[id]? else none) else none := by
  simp only [opSc, Option.bind_some, sliceD, bound, idx]
  by_cases h1 : 0 ≤ i
  · rw [if_pos h1, if_pos h1, Option.bind_some, scR, if_pos (Nat.zero_le _)]
    by_cases h2 : i ≤ n
    · rw [if_pos h2, if_pos (by omega)]
    · rw [if_neg h2, if_neg (by omega)]
  · rw [if_neg h1, if_neg h1]; rfl
@[go_sem] theorem opSc_ref_lo : opSc H sz (some (.ref id ep n)) (some (some i)) (some none) = if 0 ≤ i then (if i ≤ n then scO H sz ep n (.sub id ep n i.toNat n) H[id]? else none) else none := by
  simp only [opSc, Option.bind_some, sliceD, bound, idx]
  by_cases h1 : 0 ≤ i
  · rw [if_pos h1, if_pos h1, Option.bind_some, scR]
    by_cases h2 : i ≤ n
    · rw [if_pos h2, if_pos (by omega), if_pos (by omega)]
    · rw [if_neg h2, if_neg (by omega)]
  · rw [if_neg h1, if_neg h1]; rfl
@[go_sem] theorem opSc_ref_lohi : opSc H sz (some (.ref id ep n)) (some (some i)) (some (some j)) = if 0 ≤ i then (if i ≤ j then (if j ≤ n then scO H sz ep n (.sub id ep n i.toNat j.toNat) H[id]? else none) else none) else none := by
  simp only [opSc, Option.bind_some, sliceD, bound, idx]
  by_cases h1 : 0 ≤ i
  · rw [if_pos h1, if_pos h1, Option.bind_some]
    by_cases h0 : i ≤ j
    · rw [if_pos h0, if_pos (by omega), Option.bind_some, scR, if_pos (by omega)]
      by_cases h2 : j ≤ n
      · rw [if_pos h2, if_pos (by omega)]
      · rw [if_neg h2, if_neg (by omega)]
    · rw [if_neg h0]
      by_cases h2 : 0 ≤ j
      · rw [if_pos h2, Option.bind_some, scR, if_neg (by omega)]
      · rw [if_neg h2]; rfl
  · rw [if_neg h1, if_neg h1]; rfl
@[go_sem] theorem opSc_nil_hi : opSc H sz (some .nil) (some none) (some (some i)) = if i = 0 then some (.nil, H) else none := by
  simp only [opSc, Option.bind_some, sliceD, bound, idx]
  by_cases h1 : 0 ≤ i
  · rw [if_pos h1, Option.bind_some]
    by_cases h2 : i = 0
    · rw [if_pos h2, if_pos (by omega)]; rfl
    · rw [if_neg h2, if_neg (by omega)]; rfl
  · rw [if_neg h1, if_neg (by omega)]; rfl
@[go_sem] theorem opSc_nil_lo : opSc H sz (some .nil) (some (some i)) (some none) = if i = 0 then some (.nil, H) else none := by
  simp only [opSc, Option.bind_some, sliceD, bound, idx]
  by_cases h1 : 0 ≤ i
  · rw [if_pos h1, Option.bind_some]
    by_cases h2 : i = 0
    · rw [if_pos h2, if_pos (by omega)]; rfl
    · rw [if_neg h2, if_neg (by omega)]; rfl
  · rw [if_neg h1, if_neg (by omega)]; rfl
def appD (x : D) (ys : List D) : Option (D × Heap) := if headSize sz ys = true then (match x with
    | .nil => if ys.length ≤ 4294967296 then some (.ref H.length 0 ys.length, H ++ [.arr sz false 0 ys]) else none
    | .ref id ep n => appRef H sz id ep n ys H[id]?
    | _ => none) else none
@[go_sem] theorem appD_nil (ys : List D) : appD H sz .nil ys = if headSize sz ys = true then (if ys.length ≤ 4294967296 then some (.ref H.length 0 ys.length, H ++ [.arr sz false 0 ys]) else none) else none := (rfl)
@[go_sem] theorem appD_ref (ys : List D) : appD H sz (.ref id ep n) ys = if headSize sz ys = true then appRef H sz id ep n ys H[id]? else none := (rfl)
@[go_sem] theorem headSize_nil : headSize sz [] = true := (rfl)
@[go_sem] theorem headSize_cons (d : D) (r : List D) : headSize sz (d :: r) = lenIs sz d.cells := by
  rw [Bool.eq_iff_iff, lenIs_iff]; simp [headSize]
def elsO (x : D) : Option Obj → Option (D × Heap)
  | some (.arr _ _ ep' es) => if ep = ep' ∧ n = es.length then appD H sz x ((es.drop lo).take (hi - lo)) else none
  | _ => none
def elsR (x : D) : Option Obj → Option (D × Heap)
  | some (.arr _ _ ep' es) => if ep = ep' ∧ n = es.length then appD H sz x es else none
  | _ => none
@[go_sem] theorem elsO_arr (x : D) (sz' : Nat) (pin : Bool) (es : List D) : elsO H sz ep n lo hi x (some (.arr sz' pin ep es)) = if n = es.length then appD H sz x ((es.drop lo).take (hi - lo)) else none := by simp [elsO]
@[go_sem] theorem elsR_arr (x : D) (sz' : Nat) (pin : Bool) (es : List D) : elsR H sz ep n x (some (.arr sz' pin ep es)) = if n = es.length then appD H sz x es else none := by simp [elsR]
theorem appD_is (x : D) (ys : List D) : (if headSize sz ys = true then (match x with
    | .nil => if ys.length ≤ lim then some (D.ref H.length 0 ys.length, H ++ [.arr sz false 0 ys]) else none
    | .ref id ep n => (arrAt H id ep n).bind fun a => if a.1 = sz ∧ n + ys.length ≤ lim then some (.ref id ep (n + ys.length), H.set id (.arr sz a.2.1 ep (a.2.2 ++ ys))) else none
    | _ => none) else none) = appD H sz x ys := by
  unfold appD
  split
  · cases x with
    | ref id ep n =>
      simp only [arrAt]
      generalize H[id]? = o
      rcases o with _ | (_ | ⟨sz', pin, ep', es⟩)
      · rfl
      · rfl
      · simp only [appRef]
        by_cases h1 : ep = ep' ∧ n = es.length
        · rw [if_pos h1, Option.bind_some]
          by_cases h2 : sz' = sz ∧ n + ys.length ≤ lim
          · rw [if_pos h2, if_pos ⟨h1.1, h1.2, h2⟩]
          · rw [if_neg h2, if_neg fun h => h2 h.2.2]
        · rw [if_neg h1, if_neg fun h => h1 ⟨h.1, h.2.1⟩]; rfl
    | _ => rfl
  · rfl
theorem opApp_live (x y : D) (ys : List D) (h : elems H y = some ys) : opApp H sz false (some x) (some y) = appD H sz x ys := by
  simp only [opApp, Option.bind_some, appendD, h, Bool.false_eq_true, if_false]
  exact appD_is H sz x ys
@[go_sem] theorem opApp_live_nil (x : D) : opApp H sz false (some x) (some .nil) = appD H sz x [] := opApp_live H sz x .nil [] rfl
@[go_sem] theorem opApp_live_ref (x : D) : opApp H sz false (some x) (some (.ref id ep n)) = elsR H sz ep n x H[id]? := by
  cases he : elems H (.ref id ep n) with
  | some ys =>
    rw [opApp_live H sz x _ ys he]
    simp only [elems, arrAt] at he
    generalize H[id]? = o at he
    rcases o with _ | (_ | ⟨sz', pin, ep', es⟩)
    · cases he
    · cases he
    · simp only [elsR]
      by_cases h1 : ep = ep' ∧ n = es.length
      · simp only [if_pos h1] at he ⊢; cases he; rfl
      · simp only [if_neg h1] at he; cases he
  | none =>
    have : opApp H sz false (some x) (some (.ref id ep n)) = none := by simp only [opApp, Option.bind_some, appendD, he]; rfl
    rw [this]
    simp only [elems, arrAt] at he
    generalize H[id]? = o at he
    rcases o with _ | (_ | ⟨sz', pin, ep', es⟩)
    · rfl
    · rfl
    · simp only [elsR]
      by_cases h1 : ep = ep' ∧ n = es.length
      · simp only [if_pos h1] at he; cases he
      · simp only [if_neg h1]
@[go_sem] theorem opApp_live_sub (x : D) : opApp H sz false (some x) (some (.sub id ep n lo hi)) = elsO H sz ep n lo hi x H[id]? := by
  cases he : elems H (.sub id ep n lo hi) with
  | some ys =>
    rw [opApp_live H sz x _ ys he]
    simp only [elems, arrAt] at he
    generalize H[id]? = o at he
    rcases o with _ | (_ | ⟨sz', pin, ep', es⟩)
    · cases he
    · cases he
    · simp only [elsO]
      by_cases h1 : ep = ep' ∧ n = es.length
      · simp only [if_pos h1] at he ⊢; cases he; rfl
      · simp only [if_neg h1] at he; cases he
  | none =>
    have : opApp H sz false (some x) (some (.sub id ep n lo hi)) = none := by simp only [opApp, Option.bind_some, appendD, he]; rfl
    rw [this]
    simp only [elems, arrAt] at he
    generalize H[id]? = o at he
    rcases o with _ | (_ | ⟨sz', pin, ep', es⟩)
    · rfl
    · rfl
    · simp only [elsO]
      by_cases h1 : ep = ep' ∧ n = es.length
      · simp only [if_pos h1] at he; cases he
      · simp only [if_neg h1]
def subE (ep n lo hi : Nat) : Option Obj → Option (List D)
  | some (.arr _ _ ep' es) => if ep = ep' ∧ n = es.length then some ((es.drop lo).take (hi - lo)) else none
  | _ => none
def appF (x : D) : Option (List D) → Option (D × Heap)
  | some ys0 => (mapO (fun d => (frz H depth d).map .t) ys0).bind fun ys => if headSize sz ys then appD (pins H (ys0.flatMap (arrs H depth))) sz x ys else none
  | none => none
@[go_sem] theorem appF_t (x : D) (ts : List T) : appF H sz x (some (ts.map .t)) = appD H sz x (ts.map .t) := by
  simp only [appF, mapO_frz, Option.bind_some, arrs_t, pins]
  by_cases h : headSize sz (ts.map D.t) = true
  · rw [if_pos h]
  · rw [if_neg h]; unfold appD; rw [if_neg h]
@[go_sem] theorem opApp_frz_sub (x : D) : opApp H sz true (some x) (some (.sub id ep n lo hi)) = appF H sz x (subE ep n lo hi H[id]?) := by
  have e : elems H (.sub id ep n lo hi) = subE ep n lo hi H[id]? := by
    simp only [elems, arrAt]
    generalize H[id]? = o
    rcases o with _ | (_ | ⟨sz', pin, ep', es⟩)
    · rfl
    · rfl
    · simp only [subE]
      by_cases h1 : ep = ep' ∧ n = es.length
      · simp only [if_pos h1]; rfl
      · simp only [if_neg h1]; rfl
  simp only [opApp, Option.bind_some, appendD, e]
  cases subE ep n lo hi H[id]? with
  | none => rfl
  | some ys0 =>
    simp only [Option.bind_some, appF, if_true]
    cases hm : mapO (fun d => (frz H depth d).map D.t) ys0 with
    | none => rfl
    | some ys =>
      simp only [Option.bind_some]
      refine (appD_is _ _ _ _).trans ?_
      by_cases h : headSize sz ys = true
      · rw [if_pos h]
      · rw [if_neg h]; unfold appD; rw [if_neg h]
@[go_sem] theorem subE_map (ep n lo hi sz : Nat) (pin : Bool) (ts : List T) : subE ep n lo hi (some (.arr sz pin ep (ts.map .t))) = if n = ts.length then some (((ts.drop lo).take (hi - lo)).map .t) else none := by
  simp only [subE, true_and, List.length_map, List.map_take, List.map_drop]
def opBsr (ds : List D) : Option (D × Heap) := if ds.all (fun d => d.cells.length == sz && d.solid) then some (.ref H.length 0 ds.length, H ++ [.arr sz false 0 ds]) else none
@[go_sem] theorem ev_bsr (call : Oracle) (get : X → Option D) (xs : List X) : evO call get H (.bsr xs sz) = (mapO get xs).bind (opBsr H sz) := (rfl)
@[go_sem] theorem opBsr_nil : opBsr H sz [] = some (.ref H.length 0 0, H ++ [.arr sz false 0 []]) := (rfl)
@[go_sem] theorem opBsr_int (k : IntKind) (n : Int) : opBsr H 1 [.t (.int k n)] = some (.ref H.length 0 1, H ++ [.arr 1 false 0 [.t (.int k n)]]) := (rfl)
@[go_sem] theorem opBsr_agg (cs : List D) : opBsr H sz [.agg cs] = if lenIs sz cs = true then some (.ref H.length 0 1, H ++ [.arr sz false 0 [.agg cs]]) else none := by
  simp only [opBsr, List.all_cons, List.all_nil, Bool.and_true, D.cells, D.solid]
  by_cases h : lenIs sz cs = true
  · rw [if_pos h, if_pos (by simpa using lenIs_iff.1 h)]; rfl
  · rw [if_neg h, if_neg (by intro e; exact h (lenIs_iff.2 (by simpa using e)))]
end
@[go_sem] theorem q_toNat_one' : (1 : Int).toNat = 1 := (rfl)
@[go_sem] theorem q_toNat_two : (2 : Int).toNat = 2 := (rfl)
@[go_sem] theorem q_toNat_three : (3 : Int).toNat = 3 := (rfl)
section
variable {H t : Heap} {i j k : Nat} {o o' : Obj}
theorem hp_get (h : i < H.length) : (H ++ t)[i]? = H[i]? := List.getElem?_append_left h
theorem hp_get_len : (H ++ t)[H.length]? = t[0]? := by rw [List.getElem?_append_right (Nat.le_refl _), Nat.sub_self]
theorem hp_get_add : (H ++ t)[H.length + k]? = t[k]? := by rw [List.getElem?_append_right (Nat.le_add_right _ _), Nat.add_sub_cancel_left]
theorem hp_set_len : (H ++ t).set H.length o = H ++ t.set 0 o := by rw [List.set_append_right _ _ (Nat.le_refl _), Nat.sub_self]
theorem hp_set_get (h : i < H.length) : (H.set i o)[i]? = some o := by simp [h]
theorem hp_set_ne (h : i ≠ j) : (H.set i o)[j]? = H[j]? := List.getElem?_set_ne h
theorem hp_set_set : (H.set i o).set i o' = H.set i o' := List.set_set ..
theorem hp_assoc (a b : Heap) : (H ++ a) ++ b = H ++ (a ++ b) := List.append_assoc ..
theorem hp_lt (h : H[i]? = some o) : i < H.length := (List.getElem?_eq_some_iff.1 h).1
end
theorem finish_live (H : Heap) (id sz n : Nat) (es : List D) (ts : List T) (hid : H[id]? = some (.arr sz false 0 es)) (hn : n = es.length) (hf : mapO (frz H 8) es = some ts) (ha : ∀ i ∈ es.flatMap (arrs H 8), i ≠ id) :
    finish 0 1 H [.ref id 0 n] = some (.ref 0 0 n, [.arr sz false 0 (ts.map .t)]) := by
  have hold : ([D.ref id 0 n].all (old 0 depth) && (H.take 0).all (fun o => o.ds.all (old 0 depth))) = false := by
    simp [old, depth]
  have hmap : ∀ {es : List D} {ts : List T}, mapO (frz H 8) es = some ts → mapO (fun d => (frz H 8 d).map D.t) es = some (ts.map .t) := by
    intro es
    induction es with
    | nil => intro ts h; simp [mapO] at h; subst h; rfl
    | cons e es ih =>
      intro ts h
      simp only [mapO, Option.bind_eq_some_iff, Option.map_eq_some_iff] at h
      obtain ⟨y, hy, r, hr, rfl⟩ := h
      simp only [mapO, hy, Option.map_some, Option.bind_some, ih hr, List.map_cons]
  have hnew : (addNew [] [id]).drop 0 = [id] := by simp [addNew]
  have hall : (es.flatMap (arrs H 8)).all (fun i => !([] ++ [id]).contains i) = true := by
    rw [List.all_eq_true]; intro i hi; simpa using ha i hi
  unfold finish
  rw [if_neg (by omega), Option.bind_some, hold, if_neg (by simp)]
  have hk : keepLv H (max 1 1) (List.range 0) ([D.ref id 0 n].flatMap (ids depth) ++ idsOf H (List.range 0)) = some ([id], [.arr sz false 0 (ts.map .t)]) := by
    have e1 : [D.ref id 0 n].flatMap (ids depth) ++ idsOf H (List.range 0) = [id] := by simp [ids, depth, idsOf]
    rw [e1]
    simp only [Nat.max_self, List.range_zero]
    unfold keepLv
    simp only [List.length_nil, hnew, pick, hid, Option.bind_some, Option.map_some, if_true, List.flatMap_cons, List.flatMap_nil, List.append_nil, Obj.ds, depth, hall, mapO, freezeArr, hmap hf]
    simp only [keepLv, Option.map_some, List.append_nil, Option.bind_some]
  rw [hk]
  simp only [Option.bind_some, List.range_zero, List.nil_append, List.take_zero, resArrs, Nat.succ_ne_zero, if_false, Nat.one_ne_zero, List.all_nil, if_true, mapO, ren, idxOf, Option.map_some, renObj, tupOf, depth]
  have := ren_map (fun i => if id = i then some 0 else Option.map (fun x => x + 1) none) ts
  simp only [depth] at this
  rw [this]; rfl
end Go.Ev

namespace Go.Ev.N
def law27_HeadsMore : Nat := 123
def law27_HeadsSplit : Nat := 124
def law27_HeadsAll : Nat := 125
def law27_HeadsTrue : Nat := 126
def law27_awake : Nat := 127
def heads_Count : Nat := 128
def ref27_Count : Nat := 129
def heads_Sure : Nat := 130
def ref27_Sure : Nat := 131
def heads_Maybe : Nat := 132
def ref27_Maybe : Nat := 133
def heads_Missing : Nat := 134
def ref27_Missing : Nat := 135
def heads_look : Nat := 136
def ref27_state : Nat := 137
def heads_persons : Nat := 138
def heads_Sure_1 : Nat := 139
def heads_Sure_1_1 : Nat := 140
def ref27_people : Nat := 141
def heads_Maybe_1 : Nat := 142
def heads_Maybe_1_1 : Nat := 143
def heads_Missing_1 : Nat := 144
def places_Possible : Nat := 145
def heads_look_1 : Nat := 146
def heads_look_2 : Nat := 147
def places_Possible_1 : Nat := 148
end Go.Ev.N

namespace Go.Ev.N
def law28_SmokeSources : Nat := 149
def law28_SmokeRuns : Nat := 150
def law28_SmokeMade : Nat := 151
def law28_SmokeGrows : Nat := 152
def law28_awake : Nat := 153
def smoke_Start : Nat := 154
def smoke_Travel : Nat := 155
def smoke_Change : Nat := 156
def law28_agree : Nat := 157
def smoke_Free : Nat := 158
def smoke_given : Nat := 159
def slices_Repeat_int_int : Nat := 160
def smoke_times_spread : Nat := 161
def smoke_Valid : Nat := 162
def ref28_Same : Nat := 163
def ref28_Filled : Nat := 164
def ref28_Free : Nat := 165
def smoke_Free_1 : Nat := 166
def plan_Valid : Nat := 167
def slices_ContainsFunc_api_Span_api_Span : Nat := 168
def smoke_given_1 : Nat := 169
def math_bits_Mul : Nat := 170
def smoke_times_reach : Nat := 171
def smoke_Valid_1 : Nat := 172
def plan_Check : Nat := 173
def slices_IndexFunc_api_Span_api_Span : Nat := 174
def math_bits_Mul32 : Nat := 175
def math_bits_Mul64 : Nat := 176
def plan_spanIn : Nat := 177
end Go.Ev.N

namespace Go.Ev.K
open Go.Ev
def smoke_Valid : Fn := { nargs := 2, vars := [0, 1, 2, 3, 4], body := (.seq (.reg [{ o := .bx (.v 0) 2, d := some 2 }, { o := .bx (.v 1) 2, d := some 3 }, { o := .mv (.b false), d := some 4 }] []) (.seq (.reg [{ o := .ld (.v 2) 2 true }, { o := .ca N.plan_Valid 0 [] [.l 0] }, { o := .mv (.l 0) }, { o := .fa (.v 3) 1, g := some (0, true) }, { o := .ld (.l 0) 1 false, g := some (1, true) }, { o := .ln (.l 0), g := some (2, true) }, { o := .fa (.v 2) 0, g := some (3, true) }, { o := .ld (.l 0) 1 false, g := some (4, true) }, { o := .ln (.l 0), g := some (5, true) }, { o := .bin .eql (.l 3) (.l 0), g := some (6, true) }, { o := .pk (.l 7) (.l 0) (.b false) }, { o := .mv (.l 0) }, { o := .fa (.v 3) 0, g := some (0, true) }, { o := .ld (.l 0) 1 false, g := some (1, true) }, { o := .ca N.lists_In 0 [] [.l 0, .i 0, .i 2147483648], g := some (2, true) }, { o := .pk (.l 3) (.l 0) (.b false) }, { o := .mv (.l 0) }, { o := .fa (.v 3) 1, g := some (0, true) }, { o := .ld (.l 0) 1 false, g := some (1, true) }, { o := .mf N.smoke_Valid_1 [.v 3], g := some (2, true) }, { o := .ca N.slices_ContainsFunc_int_int 0 [] [.l 1, .l 0], g := some (3, true) }, { o := .un .not (.l 0), g := some (4, true) }, { o := .pk (.l 5) (.l 0) (.b false) }, { o := .mv (.l 0), d := some 4 }] []) .ret)), res := [(4, none)] }
def plan_Valid : Fn := { nargs := 1, vars := [0, 1, 2], body := (.seq (.reg [{ o := .bx (.v 0) 2, d := some 1 }, { o := .mv (.b false), d := some 2 }] []) (.seq (.reg [{ o := .ld (.v 1) 2 true }, { o := .ca N.plan_Check 0 [] [.l 0] }, { o := .bin .eql (.l 0) (.i 0) }, { o := .mv (.l 0), d := some 2 }] []) .ret)), res := [(2, none)] }
end Go.Ev.K
namespace Go.Ev
class Has6 [Lib] : Prop where
  t_smoke_Valid : Lib.fs N.smoke_Valid = some K.smoke_Valid
  t_plan_Valid : Lib.fs N.plan_Valid = some K.plan_Valid
namespace K
variable [Lib] [Has6]
theorem t_smoke_Valid : Lib.fs N.smoke_Valid = some K.smoke_Valid := Has6.t_smoke_Valid
theorem t_plan_Valid : Lib.fs N.plan_Valid = some K.plan_Valid := Has6.t_plan_Valid
end K
end Go.Ev

namespace Go.Ev.K
open Go.Ev
def smoke_Valid_1 : Fn := { nargs := 2, vars := [0, 1, 3], body := (.seq (.reg [{ o := .mv (.b false), d := some 2 }] []) (.seq (.reg [{ o := .mv (.v 0) }, { o := .bin .neq (.l 0) (.i 1099511627776) }, { o := .mv (.l 0) }, { o := .mv (.v 0), g := some (0, true) }, { o := .fa (.v 1) 0, g := some (1, true) }, { o := .ld (.l 0) 1 false, g := some (2, true) }, { o := .ca N.lists_In 0 [] [.l 2, .l 0, .i 2147483648], g := some (3, true) }, { o := .un .not (.l 0), g := some (4, true) }, { o := .pk (.l 5) (.l 0) (.b false) }, { o := .mv (.l 0), d := some 2 }] []) .ret)), res := [(2, none)] }
def plan_Check_l1b : C := (.its  [{ o := .bin .lss (.v 8) (.v 7) }] [] 0 .skip (.exit 0) (.seq (.blk 1 (.seq (.reg [{ o := .ia (.v 6) (.v 8) 2 }, { o := .ld (.l 0) 2 true }, { o := .al [.t (.int .i64 (0)), .t (.bool false)] [], d := some 3 }, { o := .st (.l 0) (.l 1) 2 [] }] []) (.ite [{ o := .fa (.v 3) 0 }, { o := .ld (.l 0) 1 false }, { o := .bin .lss (.l 0) (.i (-10000)) }, { o := .mv (.l 0) }, { o := .fa (.v 3) 0, g := some (0, false) }, { o := .ld (.l 0) 1 false, g := some (1, false) }, { o := .bin .gtr (.l 0) (.i 10000), g := some (2, false) }, { o := .pk (.l 3) (.b true) (.l 0) }] [] 0 (.seq (.reg [{ o := .mv (.i 1), d := some 2 }] []) .ret) .skip))) (.reg [{ o := .bin .add (.v 8) (.i 1) }, { o := .mv (.l 0), d := some 8 }] [])))
def plan_Check_l1 : C := .loop true [0, 2, 3, 4, 5, 9, 10, 11] K.plan_Check_l1b
def plan_Check_l2b : C := (.its  [{ o := .bin .lss (.v 11) (.v 10) }] [] 0 .skip (.exit 2) (.seq (.blk 3 (.seq (.reg [{ o := .ia (.v 9) (.v 11) 10 }, { o := .ld (.l 0) 10 true }, { o := .al [.t (.int .i64 (0)), .t (.int .i64 (0)), .t (.int .i64 (0)), .t (.int .i64 (0)), .t (.bool false), .t (.bool false), .t (.int .i64 (0)), .t (.int .i64 (0)), .t (.int .i64 (0)), .t (.int .i64 (0))] [], d := some 5 }, { o := .st (.l 0) (.l 1) 10 [] }] []) (.seq (.ite [{ o := .fa (.v 5) 0 }, { o := .ld (.l 0) 1 false }, { o := .bin .lss (.l 0) (.i 0) }, { o := .mv (.l 0) }, { o := .fa (.v 5) 0, g := some (0, false) }, { o := .ld (.l 0) 1 false, g := some (1, false) }, { o := .mv (.v 4), g := some (2, false) }, { o := .bin .geq (.l 1) (.l 0), g := some (3, false) }, { o := .pk (.l 4) (.b true) (.l 0) }, { o := .mv (.l 0) }, { o := .fa (.v 5) 1, g := some (0, false) }, { o := .ld (.l 0) 1 false, g := some (1, false) }, { o := .bin .lss (.l 0) (.i 0), g := some (2, false) }, { o := .pk (.l 3) (.b true) (.l 0) }, { o := .mv (.l 0) }, { o := .fa (.v 5) 1, g := some (0, false) }, { o := .ld (.l 0) 1 false, g := some (1, false) }, { o := .mv (.v 4), g := some (2, false) }, { o := .bin .geq (.l 1) (.l 0), g := some (3, false) }, { o := .pk (.l 4) (.b true) (.l 0) }, { o := .mv (.l 0) }, { o := .fa (.v 5) 0, g := some (0, false) }, { o := .ld (.l 0) 1 false, g := some (1, false) }, { o := .fa (.v 5) 1, g := some (2, false) }, { o := .ld (.l 0) 1 false, g := some (3, false) }, { o := .bin .eql (.l 2) (.l 0), g := some (4, false) }, { o := .pk (.l 5) (.b true) (.l 0) }] [] 0 (.seq (.reg [{ o := .mv (.i 4), d := some 2 }] []) .ret) .skip) (.seq (.ite [{ o := .fa (.v 5) 2 }, { o := .ld (.l 0) 1 false }, { o := .bin .lss (.l 0) (.i 1) }, { o := .mv (.l 0) }, { o := .fa (.v 5) 2, g := some (0, false) }, { o := .ld (.l 0) 1 false, g := some (1, false) }, { o := .bin .gtr (.l 0) (.i 100000), g := some (2, false) }, { o := .pk (.l 3) (.b true) (.l 0) }, { o := .mv (.l 0) }, { o := .fa (.v 5) 3, g := some (0, false) }, { o := .ld (.l 0) 1 false, g := some (1, false) }, { o := .bin .lss (.l 0) (.i 1), g := some (2, false) }, { o := .pk (.l 3) (.b true) (.l 0) }, { o := .mv (.l 0) }, { o := .fa (.v 5) 3, g := some (0, false) }, { o := .ld (.l 0) 1 false, g := some (1, false) }, { o := .bin .gtr (.l 0) (.i 1000), g := some (2, false) }, { o := .pk (.l 3) (.b true) (.l 0) }] [] 0 (.seq (.reg [{ o := .mv (.i 1), d := some 2 }] []) .ret) .skip) (.ite [{ o := .fa (.v 5) 6 }, { o := .ld (.l 0) 2 true }, { o := .ca N.plan_spanIn 0 [] [.l 0, .i 1, .i 262144] }, { o := .un .not (.l 0) }, { o := .mv (.l 0) }, { o := .fa (.v 5) 8, g := some (0, false) }, { o := .ld (.l 0) 2 true, g := some (1, false) }, { o := .ca N.plan_spanIn 0 [] [.l 0, .i (-2199023255552), .i 2199023255552], g := some (2, false) }, { o := .un .not (.l 0), g := some (3, false) }, { o := .pk (.l 4) (.b true) (.l 0) }] [] 0 (.seq (.reg [{ o := .mv (.i 1), d := some 2 }] []) .ret) .skip))))) (.reg [{ o := .bin .add (.v 11) (.i 1) }, { o := .mv (.l 0), d := some 11 }] [])))
def plan_Check_l2 : C := .loop true [0, 1, 2, 3, 5, 6, 7, 8] K.plan_Check_l2b
def plan_Check : Fn := { nargs := 1, vars := [0, 1, 2, 4, 5, 7, 19, 20, 21, 38, 39, 40], body := (.seq (.reg [{ o := .bx (.v 0) 2, d := some 1 }, { o := .mv (.i 0), d := some 2 }] []) (.seq (.ite [{ o := .fa (.v 1) 0 }, { o := .ld (.l 0) 1 false }, { o := .ln (.l 0) }, { o := .bin .gtr (.l 0) (.i 64) }, { o := .mv (.l 0) }, { o := .fa (.v 1) 1, g := some (0, false) }, { o := .ld (.l 0) 1 false, g := some (1, false) }, { o := .ln (.l 0), g := some (2, false) }, { o := .bin .gtr (.l 0) (.i 128), g := some (3, false) }, { o := .pk (.l 4) (.b true) (.l 0) }] [] 0 (.seq (.reg [{ o := .mv (.i 2), d := some 2 }] []) .ret) .skip) (.seq (.seq (.reg [{ o := .fa (.v 1) 0 }, { o := .ld (.l 0) 1 false, d := some 6 }, { o := .ln (.l 0), d := some 7 }, { o := .mv (.i 0), d := some 8 }] []) (.blk 0 K.plan_Check_l1)) (.seq (.reg [{ o := .fa (.v 1) 0 }, { o := .ld (.l 0) 1 false }, { o := .ln (.l 0) }, { o := .mv (.l 0), d := some 4 }] []) (.seq (.seq (.reg [{ o := .fa (.v 1) 1 }, { o := .ld (.l 0) 1 false, d := some 9 }, { o := .ln (.l 0), d := some 10 }, { o := .mv (.i 0), d := some 11 }] []) (.blk 2 K.plan_Check_l2)) (.seq (.reg [{ o := .mv (.i 0), d := some 2 }] []) .ret)))))), res := [(2, none)] }
def plan_spanIn : Fn := { nargs := 3, vars := [0, 1, 2, 3, 6], body := (.seq (.reg [{ o := .bx (.v 0) 2, d := some 3 }, { o := .mv (.b false), d := some 4 }] []) (.seq (.reg [{ o := .mv (.v 1) }, { o := .fa (.v 3) 0 }, { o := .ld (.l 0) 1 false }, { o := .bin .leq (.l 2) (.l 0) }, { o := .mv (.l 0) }, { o := .fa (.v 3) 0, g := some (0, true) }, { o := .ld (.l 0) 1 false, g := some (1, true) }, { o := .fa (.v 3) 1, g := some (2, true) }, { o := .ld (.l 0) 1 false, g := some (3, true) }, { o := .bin .leq (.l 2) (.l 0), g := some (4, true) }, { o := .pk (.l 5) (.l 0) (.b false) }, { o := .mv (.l 0) }, { o := .fa (.v 3) 1, g := some (0, true) }, { o := .ld (.l 0) 1 false, g := some (1, true) }, { o := .mv (.v 2), g := some (2, true) }, { o := .bin .leq (.l 1) (.l 0), g := some (3, true) }, { o := .pk (.l 4) (.l 0) (.b false) }, { o := .mv (.l 0), d := some 4 }] []) .ret)), res := [(4, none)] }
end Go.Ev.K
namespace Go.Ev
class Has7 [Lib] : Prop where
  t_smoke_Valid_1 : Lib.fs N.smoke_Valid_1 = some K.smoke_Valid_1
  t_plan_Check : Lib.fs N.plan_Check = some K.plan_Check
  t_plan_spanIn : Lib.fs N.plan_spanIn = some K.plan_spanIn
namespace K
variable [Lib] [Has7]
theorem t_smoke_Valid_1 : Lib.fs N.smoke_Valid_1 = some K.smoke_Valid_1 := Has7.t_smoke_Valid_1
theorem t_plan_Check : Lib.fs N.plan_Check = some K.plan_Check := Has7.t_plan_Check
theorem t_plan_spanIn : Lib.fs N.plan_spanIn = some K.plan_spanIn := Has7.t_plan_spanIn
end K
end Go.Ev

namespace Go.Ev
open Go
variable [Lib] [Has1] [Has2] [Has6] [Has7]
section
variable (H : Heap) (sz : Nat)
def putO (id ep n lo hi : Nat) (ys : List D) : Option Obj → Option (D × Heap)
  | some (.arr sz' pin ep' es) => if ep = ep' ∧ n = es.length then putD H id ep (sz', pin, es) lo hi ys sz else none
  | _ => none
def cpD (x : D) (ys : List D) : Option (D × Heap) := if headSize sz ys = true then (match x with
  | .ref id ep n => putO H sz id ep n 0 n ys H[id]?
  | .sub id ep n lo hi => putO H sz id ep n lo hi ys H[id]?
  | _ => none) else none
def opCp (x y : Option D) : Option (D × Heap) := x.bind fun a => y.bind fun b => copyD H a b sz
@[go_sem] theorem ev_cp (call : Oracle) (get : X → Option D) (x y : X) : evO call get H (.cp x y sz) = opCp H sz (get x) (get y) := (rfl)
theorem copyD_is (x y : D) (ys : List D) (h : elems H y = some ys) : copyD H x y sz = cpD H sz x ys := by
  unfold copyD cpD
  rw [h, Option.bind_some]
  split
  · rename_i hh
    cases x with
    | ref id ep n =>
      simp only [arrAt, putO]
      cases H[id]? with
      | none => rfl
      | some o =>
        cases o with
        | box cs => rfl
        | arr sz' pin ep' es =>
          simp only
          by_cases c : ep = ep' ∧ n = es.length
          · rw [if_pos c, if_pos c]; rfl
          · rw [if_neg c, if_neg c]; rfl
    | sub id ep n lo hi =>
      simp only [arrAt, putO]
      cases H[id]? with
      | none => rfl
      | some o =>
        cases o with
        | box cs => rfl
        | arr sz' pin ep' es =>
          simp only
          by_cases c : ep = ep' ∧ n = es.length
          · rw [if_pos c, if_pos c]; rfl
          · rw [if_neg c, if_neg c]; rfl
    | _ => rfl
  · rfl
@[go_sem] theorem opCp_t (x : D) (ts : List T) : opCp H sz (some x) (some (.t (.sl ts))) = cpD H sz x (ts.map .t) := copyD_is H sz x (.t (.sl ts)) (ts.map .t) rfl
def cpE (x : D) (ep n lo hi : Nat) : Option Obj → Option (D × Heap)
  | some (.arr _ _ ep' es) => if ep = ep' ∧ n = es.length then cpD H sz x ((es.drop lo).take (hi - lo)) else none
  | _ => none
@[go_sem] theorem cpE_arr (x : D) (n lo hi sz' : Nat) (pin : Bool) (ep : Nat) (es : List D) : cpE H sz x ep n lo hi (some (.arr sz' pin ep es)) = if n = es.length then cpD H sz x ((es.drop lo).take (hi - lo)) else none := by simp [cpE]
@[go_sem] theorem opCp_sub (x : D) (id ep n lo hi : Nat) : opCp H sz (some x) (some (.sub id ep n lo hi)) = cpE H sz x ep n lo hi H[id]? := by
  unfold opCp
  simp only [Option.bind_some]
  cases h : H[id]? with
  | none => simp [copyD, elems, arrAt, h, cpE]
  | some o =>
    cases o with
    | box cs => simp [copyD, elems, arrAt, h, cpE]
    | arr sz' pin ep' es =>
      by_cases c : ep = ep' ∧ n = es.length
      · rw [copyD_is H sz x _ ((es.drop lo).take (hi - lo)) (by simp [elems, arrAt, h, c])]
        simp only [cpE, if_pos c]
      · simp [copyD, elems, arrAt, h, cpE, c]
@[go_sem] theorem cpD_ref (id ep n : Nat) (ys : List D) : cpD H sz (.ref id ep n) ys = if headSize sz ys = true then putO H sz id ep n 0 n ys H[id]? else none := (rfl)
@[go_sem] theorem cpD_sub (id ep n lo hi : Nat) (ys : List D) : cpD H sz (.sub id ep n lo hi) ys = if headSize sz ys = true then putO H sz id ep n lo hi ys H[id]? else none := (rfl)
@[go_sem] theorem putO_arr (id n lo hi : Nat) (ys : List D) (ep : Nat) (es : List D) : putO H sz id ep n lo hi ys (some (.arr sz false ep es)) =
    if n = es.length then (if min ys.length (hi - lo) = 0 then some (.t (.int .i64 0), H) else some (.t (.int .i64 ((min ys.length (hi - lo) : Nat) : Int)), H.set id (.arr sz false ep (es.take lo ++ ys.take (min ys.length (hi - lo)) ++ es.drop (lo + min ys.length (hi - lo)))))) else none := by
  simp [putO, putD]
end
end Go.Ev

namespace Go.Ev
open Go
variable [Lib] [Has1] [Has2] [Has6] [Has7]
theorem spanIn_ok (a b lo hi : Int) (h1 : lo ≤ a) (h2 : a ≤ b) (h3 : b ≤ hi) : CALL 0 N.plan_spanIn [.t (.agg [tI a, tI b]), I lo, I hi] [] = some (B true, []) := by
  refine CALL_of K.t_plan_spanIn rfl ?_
  simp (disch := omega) only [go_sem, K.plan_spanIn, ↓reduceIte, Nat.reduceAdd, Nat.reduceSub]
theorem planCheck_ok {m : Mine} (h : m.ok) : CALL 0 N.plan_Check [.t m.e] [] = some (I 0, []) := by
  refine CALL_of K.t_plan_Check rfl ?_
  have np := h.np
  have nr := h.nr
  have hs := h.hs
  have rs := h.rs
  obtain ⟨places, roads⟩ := m
  simp only at np nr hs rs
  have l1 : ∀ z0 z2 z3 z4 z5 z9 z10 z11 : D, exS CALL K.plan_Check_l1 ⟨[z0, .bp 0 0, z2, z3, z4, z5, .t (.sl (places.map Place.e)), I places.length, I 0, z9, z10, z11], [.box (mineCells ⟨places, roads⟩)]⟩ =
      some (.exit 0, ⟨[.und, .bp 0 0, .und, .und, .und, .und, .t (.sl (places.map Place.e)), I places.length, I places.length, .und, .und, .und], [.box (mineCells ⟨places, roads⟩)]⟩) := by
    intro z0 z2 z3 z4 z5 z9 z10 z11
    refine loop_up (fun j => ⟨[.und, .bp 0 0, .und, .und, .und, .und, .t (.sl (places.map Place.e)), I places.length, I j, .und, .und, .und], [.box (mineCells ⟨places, roads⟩)]⟩) places.length rfl ?_ ?_ (by simp)
    · intro j hj
      have g : (places.map Place.e)[j]? = some (nth places j).e := map_nth _ hj
      have q := hs _ (nth_mem hj)
      generalize nth places j = x at *
      obtain ⟨hh, sf⟩ := x
      simp only [mineCells] at *
      simp (disch := omega) only [go_sem, K.plan_Check_l1b, ↓reduceIte, g, Nat.reduceAdd, Nat.reduceSub]
    · simp (disch := omega) only [go_sem, K.plan_Check_l1b, ↓reduceIte, mineCells, Nat.reduceAdd, Nat.reduceSub]
  have l2 : ∀ z0 z1 z2 z3 z5 z6 z7 z8 : D, exS CALL K.plan_Check_l2 ⟨[z0, z1, z2, z3, I places.length, z5, z6, z7, z8, .t (.sl (roads.map Road.e)), I roads.length, I 0], [.box (mineCells ⟨places, roads⟩)]⟩ =
      some (.exit 2, ⟨[.und, .und, .und, .und, I places.length, .und, .und, .und, .und, .t (.sl (roads.map Road.e)), I roads.length, I roads.length], [.box (mineCells ⟨places, roads⟩)]⟩) := by
    intro z0 z1 z2 z3 z5 z6 z7 z8
    refine loop_up (fun j => ⟨[.und, .und, .und, .und, I places.length, .und, .und, .und, .und, .t (.sl (roads.map Road.e)), I roads.length, I j], [.box (mineCells ⟨places, roads⟩)]⟩) roads.length rfl ?_ ?_ (by simp)
    · intro j hj
      have g : (roads.map Road.e)[j]? = some (nth roads j).e := map_nth _ hj
      have q := rs _ (nth_mem hj)
      generalize nth roads j = x at *
      have f0 := q.f0; have f1 := q.f1; have t0 := q.t0; have t1 := q.t1; have ne := q.ne; have l0 := q.l0; have l1 := q.l1; have a0 := q.a0; have a1 := q.a1
      have r0 := q.r0; have r1 := q.r1; have r2 := q.r2; have i0 := q.i0; have i1 := q.i1; have i2 := q.i2
      clear q
      obtain ⟨frm, to, len, area, walk, closed, rl, rh, ll, lh⟩ := x
      simp only [mineCells] at *
      have s1 := spanIn_ok rl rh 1 262144 r0 r1 r2
      have s2 := spanIn_ok ll lh (-2199023255552) 2199023255552 i0 i1 i2
      simp (disch := omega) only [go_sem, K.plan_Check_l2b, ↓reduceIte, g, s1, s2, Nat.reduceAdd, Nat.reduceSub]
    · simp (disch := omega) only [go_sem, K.plan_Check_l2b, ↓reduceIte, mineCells, Nat.reduceAdd, Nat.reduceSub]
  simp only [mineCells] at l1 l2
  simp (disch := omega) only [go_sem, K.plan_Check, ↓reduceIte, l1, l2, Nat.reduceAdd, Nat.reduceSub]
theorem planValid_ok {m : Mine} (h : m.ok) : CALL 0 N.plan_Valid [.t m.e] [] = some (B true, []) := by
  refine CALL_of K.t_plan_Valid rfl ?_
  have c := planCheck_ok h
  obtain ⟨places, roads⟩ := m
  simp (disch := omega) only [go_sem, K.plan_Valid, ↓reduceIte, c, Nat.reduceAdd, Nat.reduceSub]
end Go.Ev

namespace Go.Ev.N
def law25_PlacesLeast : Nat := 178
def law25_PlacesJoins : Nat := 179
def law25_PlacesTrue : Nat := 180
def law25_PlacesShift : Nat := 181
def law25_PlacesLess : Nat := 182
def law25_PlacesRaw : Nat := 183
def law25_PlacesMade : Nat := 184
def law25_awake : Nat := 185
def places_Start : Nat := 186
def ref03_Least : Nat := 187
def made_Dice_Where : Nat := 188
def places_Join : Nat := 189
def places_Valid : Nat := 190
def law25_walker : Nat := 191
def places_See : Nat := 192
def places_Absent : Nat := 193
def places_Renew : Nat := 194
def law25_agree : Nat := 195
def ref25_Same : Nat := 196
def law25_row : Nat := 197
def places_nowhere : Nat := 198
def places_lowered : Nat := 199
def places_all : Nat := 200
def places_shaped : Nat := 201
def slices_Equal_int_int : Nat := 202
def places_given : Nat := 203
def slices_Clone_int_int : Nat := 204
def places_Absent_1 : Nat := 205
def ref25_Renew : Nat := 206
def places_Raise : Nat := 207
def places_arrivals : Nat := 208
def places_lowered_1 : Nat := 209
def places_shaped_1 : Nat := 210
def walk_Time : Nat := 211
def walk_step : Nat := 212
def walk_with : Nat := 213
def walk_quick : Nat := 214
end Go.Ev.N

namespace Go.Ev.K
open Go.Ev
def places_Valid : Fn := { nargs := 2, vars := [0, 1, 2, 3, 4], body := (.seq (.reg [{ o := .bx (.v 0) 2, d := some 2 }, { o := .bx (.v 1) 2, d := some 3 }, { o := .mv (.b false), d := some 4 }] []) (.seq (.reg [{ o := .ld (.v 2) 2 true }, { o := .ca N.plan_Valid 0 [] [.l 0] }, { o := .mv (.l 0) }, { o := .ld (.v 2) 2 true, g := some (0, true) }, { o := .ld (.v 3) 2 true, g := some (1, true) }, { o := .ca N.places_shaped 0 [] [.l 1, .l 0], g := some (2, true) }, { o := .pk (.l 3) (.l 0) (.b false) }, { o := .mv (.l 0) }, { o := .ld (.v 2) 2 true, g := some (0, true) }, { o := .fa (.v 3) 1, g := some (1, true) }, { o := .ld (.l 0) 1 false, g := some (2, true) }, { o := .fa (.v 3) 0, g := some (3, true) }, { o := .ld (.l 0) 1 false, g := some (4, true) }, { o := .ca N.places_lowered 0 [] [.l 4, .l 2, .l 0, .c (.fn N.places_all [])], g := some (5, true) }, { o := .fa (.v 3) 1, g := some (6, true) }, { o := .ld (.l 0) 1 false, g := some (7, true) }, { o := .ca N.slices_Equal_int_int 0 [] [.l 2, .l 0], g := some (8, true) }, { o := .pk (.l 9) (.l 0) (.b false) }, { o := .mv (.l 0), d := some 4 }] [(15, 6)]) .ret)), res := [(4, none)] }
end Go.Ev.K
namespace Go.Ev
class Has8 [Lib] : Prop where
  t_places_Valid : Lib.fs N.places_Valid = some K.places_Valid
namespace K
variable [Lib] [Has8]
theorem t_places_Valid : Lib.fs N.places_Valid = some K.places_Valid := Has8.t_places_Valid
end K
end Go.Ev

namespace Go.Ev.K
open Go.Ev
def places_lowered_l1b : C := (.seq (.ite [{ o := .ld (.v 9) 1 false }] [] 0 .skip (.exit 0)) (.seq (.blk 1 (.seq (.reg [{ o := .st (.v 9) (.b false) 1 [] }] []) (.reg [{ o := .ld (.v 4) 2 true }, { o := .ld (.v 8) 1 false }, { o := .mf N.places_lowered_1 [.v 5, .v 8, .v 6, .v 9] }, { o := .ca N.places_arrivals 0 [1] [.l 2, .l 1, .l 0] }] []))) (.seq (.reg [{ o := .ld (.v 9) 1 false, d := some 10 }] []) (.reg [{ o := .al [.t (.bool false)] [], d := some 9 }, { o := .st (.l 0) (.v 10) 1 [] }] []))))
def places_lowered_l1 : C := .loop false [0, 1, 2, 3, 7, 10] K.places_lowered_l1b
def places_lowered : Fn := { nargs := 4, vars := [0, 1, 2, 3, 4, 6, 7, 8, 9, 10, 18], body := (.seq (.reg [{ o := .bx (.v 0) 2, d := some 4 }, { o := .bx (.v 2) 1, d := some 5 }, { o := .bx (.v 3) 1, d := some 6 }, { o := .mv (.c (.nil)), d := some 7 }] []) (.seq (.reg [{ o := .mv (.v 1) }, { o := .ca N.slices_Clone_int_int 1 [] [.l 0] }, { o := .al [.nil] [], d := some 8 }, { o := .st (.l 0) (.l 1) 1 [] }] []) (.seq (.seq (.reg [{ o := .al [.t (.bool false)] [], d := some 9 }, { o := .st (.l 0) (.b true) 1 [] }] []) (.blk 0 K.places_lowered_l1)) (.seq (.reg [{ o := .ld (.v 8) 1 false }, { o := .mv (.l 0), d := some 7 }] []) .ret)))), res := [(7, none)] }
def places_all : Fn := { nargs := 1, vars := [2], body := (.seq (.reg [{ o := .mv (.b false), d := some 0 }] []) (.seq (.reg [{ o := .mv (.b true), d := some 0 }] []) .ret)), res := [(0, none)] }
def places_shaped : Fn := { nargs := 2, vars := [0, 1, 2, 3, 4], body := (.seq (.reg [{ o := .bx (.v 0) 2, d := some 2 }, { o := .bx (.v 1) 2, d := some 3 }, { o := .mv (.b false), d := some 4 }] []) (.seq (.reg [{ o := .fa (.v 3) 1 }, { o := .ld (.l 0) 1 false }, { o := .ln (.l 0) }, { o := .fa (.v 2) 0 }, { o := .ld (.l 0) 1 false }, { o := .ln (.l 0) }, { o := .bin .eql (.l 3) (.l 0) }, { o := .mv (.l 0) }, { o := .fa (.v 3) 0, g := some (0, true) }, { o := .ld (.l 0) 1 false, g := some (1, true) }, { o := .ca N.lists_In 0 [] [.l 0, .i 0, .i 2147483648], g := some (2, true) }, { o := .pk (.l 3) (.l 0) (.b false) }, { o := .mv (.l 0) }, { o := .fa (.v 3) 1, g := some (0, true) }, { o := .ld (.l 0) 1 false, g := some (1, true) }, { o := .ca N.slices_ContainsFunc_int_int 0 [] [.l 0, .c (.fn N.places_shaped_1 [])], g := some (2, true) }, { o := .un .not (.l 0), g := some (3, true) }, { o := .pk (.l 4) (.l 0) (.b false) }, { o := .mv (.l 0), d := some 4 }] []) .ret)), res := [(4, none)] }
def slices_Equal_int_int_l1b : C := (.its  [{ o := .bin .lss (.v 5) (.v 4) }] [] 0 .skip (.exit 0) (.seq (.blk 1 (.seq (.reg [{ o := .mv (.v 5) }, { o := .mv (.l 0), d := some 3 }] []) (.ite [{ o := .mv (.v 0) }, { o := .mv (.v 3) }, { o := .ia (.l 1) (.l 0) 1 }, { o := .ld (.l 0) 1 false }, { o := .mv (.v 1) }, { o := .mv (.v 3) }, { o := .ia (.l 1) (.l 0) 1 }, { o := .ld (.l 0) 1 false }, { o := .bin .neq (.l 4) (.l 0) }] [] 0 (.seq (.reg [{ o := .mv (.b false), d := some 2 }] []) .ret) .skip))) (.reg [{ o := .bin .add (.v 5) (.i 1) }, { o := .mv (.l 0), d := some 5 }] [])))
def slices_Equal_int_int_l1 : C := .loop true [2, 3] K.slices_Equal_int_int_l1b
def slices_Equal_int_int : Fn := { nargs := 2, vars := [0, 1, 4, 5, 12, 13], body := (.seq (.reg [{ o := .mv (.b false), d := some 2 }] []) (.seq (.ite [{ o := .mv (.v 0) }, { o := .ln (.l 0) }, { o := .mv (.v 1) }, { o := .ln (.l 0) }, { o := .bin .neq (.l 2) (.l 0) }] [] 0 (.seq (.reg [{ o := .mv (.b false), d := some 2 }] []) .ret) .skip) (.seq (.seq (.reg [{ o := .mv (.v 0) }, { o := .ln (.l 0), d := some 4 }, { o := .mv (.i 0), d := some 5 }] []) (.blk 0 K.slices_Equal_int_int_l1)) (.seq (.reg [{ o := .mv (.b true), d := some 2 }] []) .ret)))), res := [(2, none)] }
def slices_Clone_int_int : Fn := { nargs := 1, vars := [0, 2], body := (.seq (.reg [{ o := .mv (.c (.nil)), d := some 1 }] []) (.itk  [{ o := .mv (.v 0) }, { o := .eqk (.sl) false (.l 0) (.c (.nil)) }] [] 0 (.seq (.reg [{ o := .nw 1, d := some 1 }] []) .ret) .skip (.seq (.reg [{ o := .bsr [] 1 }, { o := .mv (.v 0) }, { o := .app (.l 1) (.l 0) false 1 }, { o := .mv (.l 0), d := some 1 }] []) .ret))), res := [(1, none)] }
def places_Absent_1 : Fn := { nargs := 2, vars := [0, 1, 3], body := (.seq (.reg [{ o := .mv (.b false), d := some 2 }] []) (.seq (.reg [{ o := .ld (.v 1) 1 false }, { o := .mv (.v 0) }, { o := .ca N.slices_Contains_int_int 0 [] [.l 1, .l 0] }, { o := .mv (.l 0), d := some 2 }] []) .ret)), res := [(2, none)] }
def places_arrivals_l2b : C := (.its  [{ o := .bin .lss (.v 14) (.i 2) }] [] 0 .skip (.exit 2) (.seq (.blk 3 (.seq (.reg [{ o := .ix (.v 13) (.v 14) 2 1 false }, { o := .mv (.l 0), d := some 6 }] []) (.seq (.reg [{ o := .fa (.v 5) 0 }, { o := .ld (.l 0) 1 false }, { o := .fa (.v 5) 1 }, { o := .ld (.l 0) 1 false }, { o := .mv (.l 2), d := some 7 }, { o := .mv (.l 1), d := some 8 }] []) (.seq (.ite [{ o := .mv (.v 6) }] [] 0 (.reg [{ o := .mv (.v 8) }, { o := .mv (.v 7) }, { o := .mv (.l 1), d := some 7 }, { o := .mv (.l 1), d := some 8 }] []) .skip) (.seq (.reg [{ o := .ld (.v 3) 2 true }, { o := .mv (.v 4) }, { o := .mv (.v 6) }, { o := .ca N.walk_Time 0 [] [.l 2, .l 1, .l 0] }, { o := .mv (.l 0), d := some 9 }] []) (.ite [{ o := .mv (.v 9) }, { o := .bin .geq (.l 0) (.i 0) }, { o := .mv (.l 0) }, { o := .mv (.v 1), g := some (0, true) }, { o := .mv (.v 7), g := some (1, true) }, { o := .ia (.l 1) (.l 0) 1, g := some (2, true) }, { o := .ld (.l 0) 1 false, g := some (3, true) }, { o := .bin .lss (.l 0) (.i 1099511627776), g := some (4, true) }, { o := .pk (.l 5) (.l 0) (.b false) }] [] 0 (.reg [{ o := .mv (.v 2) }, { o := .mv (.v 7) }, { o := .mv (.v 8) }, { o := .mv (.v 1) }, { o := .mv (.v 7) }, { o := .ia (.l 1) (.l 0) 1 }, { o := .ld (.l 0) 1 false }, { o := .mv (.v 9) }, { o := .bin .add (.l 1) (.l 0) }, { o := .cw (.l 8) 0 [] [.l 7, .l 6, .l 0] }] []) .skip)))))) (.reg [{ o := .bin .add (.v 14) (.i 1) }, { o := .mv (.l 0), d := some 14 }] [])))
def places_arrivals_l2 : C := .loop true [0, 6, 7, 8, 9] K.places_arrivals_l2b
def places_arrivals_l1b : C := (.its  [{ o := .bin .lss (.v 12) (.v 11) }] [] 0 .skip (.exit 0) (.seq (.blk 1 (.seq (.reg [{ o := .mv (.v 12) }, { o := .ia (.v 10) (.v 12) 10 }, { o := .ld (.l 0) 10 true }, { o := .al [.t (.int .i64 (0)), .t (.int .i64 (0)), .t (.int .i64 (0)), .t (.int .i64 (0)), .t (.bool false), .t (.bool false), .t (.int .i64 (0)), .t (.int .i64 (0)), .t (.int .i64 (0)), .t (.int .i64 (0))] [], d := some 5 }, { o := .mv (.l 3), d := some 4 }, { o := .st (.l 1) (.l 2) 10 [] }] []) (.seq (.reg [{ o := .bd [.t (.bool false), .t (.bool false)] [(0, 1, .b false), (1, 1, .b true)], d := some 13 }, { o := .mv (.i 0), d := some 14 }] []) (.blk 2 K.places_arrivals_l2)))) (.reg [{ o := .bin .add (.v 12) (.i 1) }, { o := .mv (.l 0), d := some 12 }] [])))
def places_arrivals_l1 : C := .loop true [0, 4, 5, 6, 7, 8, 9, 13, 14] K.places_arrivals_l1b
def places_arrivals : Fn := { nargs := 3, vars := [0, 1, 2, 3, 6, 7, 9, 10, 11, 12, 14, 15, 16, 21, 22], body := (.seq (.reg [{ o := .bx (.v 0) 2, d := some 3 }] []) (.seq (.reg [{ o := .fa (.v 3) 1 }, { o := .ld (.l 0) 1 false, d := some 10 }, { o := .ln (.l 0), d := some 11 }, { o := .mv (.i 0), d := some 12 }] []) (.blk 0 K.places_arrivals_l1))), res := [] }
def places_lowered_1 : Fn := { nargs := 7, vars := [1, 2, 3, 4, 5, 6], body := (.seq (.reg [{ o := .mv (.v 1) }, { o := .ld (.v 2) 1 false }, { o := .mx [.l 1, .l 0] }, { o := .mv (.l 0), d := some 1 }] []) (.ite [{ o := .mv (.v 1) }, { o := .bin .leq (.l 0) (.i 2147483648) }, { o := .mv (.l 0) }, { o := .mv (.v 1), g := some (0, true) }, { o := .ld (.v 3) 1 false, g := some (1, true) }, { o := .mv (.v 0), g := some (2, true) }, { o := .ia (.l 1) (.l 0) 1, g := some (3, true) }, { o := .ld (.l 0) 1 false, g := some (4, true) }, { o := .bin .lss (.l 4) (.l 0), g := some (5, true) }, { o := .pk (.l 6) (.l 0) (.b false) }, { o := .mv (.l 0) }, { o := .ld (.v 4) 1 false, g := some (0, true) }, { o := .mv (.v 0), g := some (1, true) }, { o := .cw (.l 1) 0 [] [.l 0], g := some (2, true) }, { o := .pk (.l 3) (.l 0) (.b false) }] [] 0 (.reg [{ o := .ld (.v 3) 1 false }, { o := .mv (.v 0) }, { o := .mv (.v 1) }, { o := .ia (.l 2) (.l 1) 1 }, { o := .st (.l 0) (.l 1) 1 [] }, { o := .st (.v 5) (.b true) 1 [] }] []) .skip)), res := [] }
def places_shaped_1 : Fn := { nargs := 1, vars := [0, 2], body := (.seq (.reg [{ o := .mv (.b false), d := some 1 }] []) (.seq (.reg [{ o := .mv (.v 0) }, { o := .bin .neq (.l 0) (.i 1099511627776) }, { o := .mv (.l 0) }, { o := .mv (.v 0), g := some (0, true) }, { o := .ca N.lists_In 0 [] [.l 0, .i 0, .i 2147483648], g := some (1, true) }, { o := .un .not (.l 0), g := some (2, true) }, { o := .pk (.l 3) (.l 0) (.b false) }, { o := .mv (.l 0), d := some 1 }] []) .ret)), res := [(1, none)] }
def walk_Time : Fn := { nargs := 3, vars := [0, 1, 2, 3, 6], body := (.seq (.reg [{ o := .bx (.v 0) 2, d := some 3 }, { o := .mv (.i 0), d := some 4 }] []) (.seq (.ite [{ o := .ld (.v 3) 2 true }, { o := .ca N.plan_Valid 0 [] [.l 0] }, { o := .un .not (.l 0) }, { o := .mv (.l 0) }, { o := .mv (.v 1), g := some (0, false) }, { o := .bin .lss (.l 0) (.i 0), g := some (1, false) }, { o := .pk (.l 2) (.b true) (.l 0) }, { o := .mv (.l 0) }, { o := .mv (.v 1), g := some (0, false) }, { o := .fa (.v 3) 1, g := some (1, false) }, { o := .ld (.l 0) 1 false, g := some (2, false) }, { o := .ln (.l 0), g := some (3, false) }, { o := .bin .geq (.l 3) (.l 0), g := some (4, false) }, { o := .pk (.l 5) (.b true) (.l 0) }] [] 0 (.seq (.reg [{ o := .mv (.i (-1)), d := some 4 }] []) .ret) .skip) (.seq (.reg [{ o := .ld (.v 3) 2 true }, { o := .mv (.v 1) }, { o := .mv (.v 2) }, { o := .ca N.walk_step 0 [] [.l 2, .l 1, .l 0] }, { o := .mv (.l 0), d := some 4 }] []) .ret))), res := [(4, none)] }
def walk_step : Fn := { nargs := 3, vars := [0, 1, 2, 3, 6], body := (.seq (.reg [{ o := .bx (.v 0) 2, d := some 3 }, { o := .mv (.i 0), d := some 4 }] []) (.seq (.reg [{ o := .ld (.v 3) 2 true }, { o := .mv (.v 1) }, { o := .mv (.v 2) }, { o := .ca N.walk_quick 0 [] [] }, { o := .ca N.walk_with 0 [] [.l 3, .l 2, .l 1, .l 0] }, { o := .mv (.l 0), d := some 4 }] [(0, 4)]) .ret)), res := [(4, none)] }
def walk_with : Fn := { nargs := 4, vars := [0, 1, 2, 3, 4, 7, 8, 9, 10, 11], body := (.seq (.reg [{ o := .bx (.v 0) 2, d := some 4 }, { o := .bx (.v 3) 3, d := some 5 }, { o := .mv (.i 0), d := some 6 }] []) (.seq (.reg [{ o := .fa (.v 4) 1 }, { o := .ld (.l 0) 1 false }, { o := .mv (.v 1) }, { o := .ia (.l 1) (.l 0) 10 }, { o := .ld (.l 0) 10 true }, { o := .al [.t (.int .i64 (0)), .t (.int .i64 (0)), .t (.int .i64 (0)), .t (.int .i64 (0)), .t (.bool false), .t (.bool false), .t (.int .i64 (0)), .t (.int .i64 (0)), .t (.int .i64 (0)), .t (.int .i64 (0))] [], d := some 7 }, { o := .st (.l 0) (.l 1) 10 [] }] []) (.seq (.ite [{ o := .fa (.v 7) 5 }, { o := .ld (.l 0) 1 false }, { o := .mv (.l 0) }, { o := .fa (.v 7) 4, g := some (0, false) }, { o := .ld (.l 0) 1 false, g := some (1, false) }, { o := .un .not (.l 0), g := some (2, false) }, { o := .pk (.l 3) (.b true) (.l 0) }] [] 0 (.seq (.reg [{ o := .mv (.i (-1)), d := some 6 }] []) .ret) .skip) (.seq (.reg [{ o := .fa (.v 4) 0 }, { o := .ld (.l 0) 1 false }, { o := .fa (.v 7) 1 }, { o := .ld (.l 0) 1 false }, { o := .ia (.l 2) (.l 0) 2 }, { o := .fa (.l 0) 0 }, { o := .ld (.l 0) 1 false }, { o := .fa (.v 4) 0 }, { o := .ld (.l 0) 1 false }, { o := .fa (.v 7) 0 }, { o := .ld (.l 0) 1 false }, { o := .ia (.l 2) (.l 0) 2 }, { o := .fa (.l 0) 0 }, { o := .ld (.l 0) 1 false }, { o := .bin .sub (.l 7) (.l 0) }, { o := .mv (.l 0), d := some 8 }] []) (.seq (.ite [{ o := .mv (.v 2) }] [] 0 (.reg [{ o := .mv (.v 8) }, { o := .un .neg (.l 0) }, { o := .mv (.l 0), d := some 8 }] []) .skip) (.seq (.reg [{ o := .fa (.v 5) 2 }, { o := .ld (.l 0) 1 false }, { o := .mv (.l 0), d := some 9 }] []) (.seq (.blk 0 (.ite [{ o := .mv (.v 8) }, { o := .bin .mul (.i 10) (.l 0) }, { o := .fa (.v 7) 2 }, { o := .ld (.l 0) 1 false }, { o := .bin .gtr (.l 2) (.l 0) }, { o := .mv (.l 0) }] [] 0 (.reg [{ o := .fa (.v 5) 0 }, { o := .ld (.l 0) 1 false }, { o := .mv (.l 0), d := some 9 }] []) (.ite [{ o := .mv (.v 8) }, { o := .bin .mul (.i (-10)) (.l 0) }, { o := .fa (.v 7) 2 }, { o := .ld (.l 0) 1 false }, { o := .bin .gtr (.l 2) (.l 0) }, { o := .mv (.l 0) }] [] 0 (.reg [{ o := .fa (.v 5) 1 }, { o := .ld (.l 0) 1 false }, { o := .mv (.l 0), d := some 9 }] []) .skip))) (.seq (.reg [{ o := .fa (.v 7) 2 }, { o := .ld (.l 0) 1 false }, { o := .bin .mul (.i 10) (.l 0) }, { o := .mv (.v 9) }, { o := .bin .add (.l 1) (.l 0) }, { o := .bin .sub (.l 0) (.i 1) }, { o := .mv (.v 9) }, { o := .bin .quo (.l 1) (.l 0) }, { o := .mv (.l 0), d := some 6 }] []) .ret)))))))), res := [(6, none)] }
def walk_quick : Fn := { nargs := 0, vars := [0], body := (.seq (.reg [{ o := .al [.t (.int .i64 (0)), .t (.int .i64 (0)), .t (.int .i64 (0))] [], d := some 0 }] []) (.seq (.reg [{ o := .bd [.t (.int .i64 (0)), .t (.int .i64 (0)), .t (.int .i64 (0))] [(0, 1, .i 6), (1, 1, .i 9), (2, 1, .i 12)] }, { o := .st (.v 0) (.l 0) 3 [] }] []) .ret)), res := [(0, some (3, true))] }
end Go.Ev.K
namespace Go.Ev
class Has9 [Lib] : Prop where
  t_places_lowered : Lib.fs N.places_lowered = some K.places_lowered
  t_places_all : Lib.fs N.places_all = some K.places_all
  t_places_shaped : Lib.fs N.places_shaped = some K.places_shaped
  t_slices_Equal_int_int : Lib.fs N.slices_Equal_int_int = some K.slices_Equal_int_int
  t_slices_Clone_int_int : Lib.fs N.slices_Clone_int_int = some K.slices_Clone_int_int
  t_places_Absent_1 : Lib.fs N.places_Absent_1 = some K.places_Absent_1
  t_places_arrivals : Lib.fs N.places_arrivals = some K.places_arrivals
  t_places_lowered_1 : Lib.fs N.places_lowered_1 = some K.places_lowered_1
  t_places_shaped_1 : Lib.fs N.places_shaped_1 = some K.places_shaped_1
  t_walk_Time : Lib.fs N.walk_Time = some K.walk_Time
  t_walk_step : Lib.fs N.walk_step = some K.walk_step
  t_walk_with : Lib.fs N.walk_with = some K.walk_with
  t_walk_quick : Lib.fs N.walk_quick = some K.walk_quick
namespace K
variable [Lib] [Has9]
theorem t_places_lowered : Lib.fs N.places_lowered = some K.places_lowered := Has9.t_places_lowered
theorem t_places_all : Lib.fs N.places_all = some K.places_all := Has9.t_places_all
theorem t_places_shaped : Lib.fs N.places_shaped = some K.places_shaped := Has9.t_places_shaped
theorem t_slices_Equal_int_int : Lib.fs N.slices_Equal_int_int = some K.slices_Equal_int_int := Has9.t_slices_Equal_int_int
theorem t_slices_Clone_int_int : Lib.fs N.slices_Clone_int_int = some K.slices_Clone_int_int := Has9.t_slices_Clone_int_int
theorem t_places_Absent_1 : Lib.fs N.places_Absent_1 = some K.places_Absent_1 := Has9.t_places_Absent_1
theorem t_places_arrivals : Lib.fs N.places_arrivals = some K.places_arrivals := Has9.t_places_arrivals
theorem t_places_lowered_1 : Lib.fs N.places_lowered_1 = some K.places_lowered_1 := Has9.t_places_lowered_1
theorem t_places_shaped_1 : Lib.fs N.places_shaped_1 = some K.places_shaped_1 := Has9.t_places_shaped_1
theorem t_walk_Time : Lib.fs N.walk_Time = some K.walk_Time := Has9.t_walk_Time
theorem t_walk_step : Lib.fs N.walk_step = some K.walk_step := Has9.t_walk_step
theorem t_walk_with : Lib.fs N.walk_with = some K.walk_with := Has9.t_walk_with
theorem t_walk_quick : Lib.fs N.walk_quick = some K.walk_quick := Has9.t_walk_quick
end K
end Go.Ev

namespace Go.Ev
open Go
variable [Lib] [Has1] [Has2] [Has6] [Has7] [Has8] [Has9]
abbrev arr1 (l : List Int) : Obj := .arr 1 false 0 ((l.map (T.int .i64)).map .t)
theorem clone1_ok (l : List Int) (hl : l.length ≤ 1000000) : CALL 1 N.slices_Clone_int_int [.t (tL l)] [] = some (.ref 0 0 l.length, [arr1 l]) := by
  refine CALL_of K.t_slices_Clone_int_int rfl ?_
  by_cases h0 : l = []
  · subst h0
    simp only [tL, List.map_nil]
    simp (disch := omega) only [go_sem, K.slices_Clone_int_int, ↓reduceIte, List.map_nil, List.length_nil, Nat.reduceAdd, Nat.reduceSub]
    rfl
  · have e := fun H => opEqk_sl H (l.map (T.int .i64)) (by simpa using h0)
    simp (disch := omega) only [go_sem, K.slices_Clone_int_int, ↓reduceIte, e, Nat.reduceAdd, Nat.reduceSub]
theorem equal_ok (a b : List Int) (hl : a.length ≤ 4294967296) (hl2 : b.length ≤ 4294967296) : CALL 0 N.slices_Equal_int_int [.t (tL a), .t (tL b)] [] = some (B (decide (a = b)), []) := by
  refine CALL_of K.t_slices_Equal_int_int rfl ?_
  by_cases hlen : a.length = b.length
  · have loop : ∀ z2 z3 : D, exS CALL K.slices_Equal_int_int_l1 ⟨[.t (tL a), .t (tL b), z2, z3, I a.length, I 0], []⟩ =
        some (match (List.range a.length).find? (fun j => decide (nth a j ≠ nth b j)) with
          | some j => (.ret, ⟨[.t (tL a), .t (tL b), B false, I j, I a.length, I j], []⟩)
          | none => (.exit 0, ⟨[.t (tL a), .t (tL b), .und, .und, I a.length, I a.length], []⟩)) := by
      intro z2 z3
      refine loop_first (fun j => ⟨[.t (tL a), .t (tL b), .und, .und, I a.length, I j], []⟩) a.length (fun j => decide (nth a j ≠ nth b j)) _ _ rfl ?_ ?_ ?_ (by simp)
      · intro j hj hp
        have hp : nth a j = nth b j := by simpa using hp
        simp (disch := omega) only [go_sem, K.slices_Equal_int_int_l1b, ↓reduceIte, Nat.reduceAdd, Nat.reduceSub]
      · intro j hj hp
        have hp : nth a j ≠ nth b j := by simpa using hp
        simp (disch := omega) only [go_sem, K.slices_Equal_int_int_l1b, ↓reduceIte, Nat.reduceAdd, Nat.reduceSub]
        simp
      · simp (disch := omega) only [go_sem, K.slices_Equal_int_int_l1b, ↓reduceIte, Nat.reduceAdd, Nat.reduceSub]
    have e : (a = b) ↔ (List.range a.length).find? (fun j => decide (nth a j ≠ nth b j)) = none := by
      rw [List.find?_eq_none]
      constructor
      · intro h j _; simp [h]
      · intro h
        apply List.ext_getElem?
        intro j
        by_cases hj : j < a.length
        · rw [nth_some hj, nth_some (by omega)]
          have := h j (List.mem_range.2 hj)
          simpa using this
        · rw [List.getElem?_eq_none (by omega), List.getElem?_eq_none (by omega)]
    cases hf : (List.range a.length).find? (fun j => decide (nth a j ≠ nth b j)) with
    | some j =>
      rw [hf] at e loop
      have e : ¬ a = b := fun h => by have := e.1 h; cases this
      simp (disch := omega) only [go_sem, K.slices_Equal_int_int, ↓reduceIte, loop, e, decide_false, Nat.reduceAdd, Nat.reduceSub]
    | none =>
      rw [hf] at e loop
      have e : a = b := e.2 rfl
      simp (disch := omega) only [go_sem, K.slices_Equal_int_int, ↓reduceIte, loop, decide_eq_true e, Nat.reduceAdd, Nat.reduceSub]
  · have hne : a ≠ b := fun h => hlen (by rw [h])
    simp (disch := omega) only [go_sem, K.slices_Equal_int_int, ↓reduceIte, hne, decide_false, Nat.reduceAdd, Nat.reduceSub]
theorem quick_ok : CALL 0 N.walk_quick [] [] = some (.t (.agg [tI 6, tI 9, tI 12]), []) := by
  refine CALL_of K.t_walk_quick rfl ?_
  simp (disch := omega) only [go_sem, K.walk_quick, ↓reduceIte, Nat.reduceAdd, Nat.reduceSub]
theorem with_ok {m : Mine} (h : m.ok) (k : Nat) (hk : k < m.roads.length) (back : Bool) (up down level : Int) (hu : 1 ≤ up) (hu2 : up ≤ 100) (hd : 1 ≤ down) (hd2 : down ≤ 100) (hl : 1 ≤ level) (hl2 : level ≤ 100) :
    CALL 0 N.walk_with [.t m.e, I k, B back, .t (.agg [tI up, tI down, tI level])] [] = some (I (walkT m k back up down level), []) := by
  refine CALL_of K.t_walk_with rfl ?_
  have nr := h.nr
  have np := h.np
  obtain ⟨f0, f1, t0, t1, -, l0, l1, -, -, -, -, -, -, -, -⟩ := h.rs _ (nth_mem hk)
  have b1 := h.hs _ (nth_mem (l := m.places) (j := (nth m.roads k).frm.toNat) (by omega))
  have b2 := h.hs _ (nth_mem (l := m.places) (j := (nth m.roads k).to.toNat) (by omega))
  have g : (m.roads.map Road.e)[k]? = some (nth m.roads k).e := map_nth _ hk
  have p1 : (m.places.map Place.e)[(nth m.roads k).frm.toNat]? = some (nth m.places (nth m.roads k).frm.toNat).e := map_nth _ (by omega)
  have p2 : (m.places.map Place.e)[(nth m.roads k).to.toNat]? = some (nth m.places (nth m.roads k).to.toNat).e := map_nth _ (by omega)
  have key : ∀ h1 h2 : Int, -10000 ≤ h1 → h1 ≤ 10000 → -10000 ≤ h2 → h2 ≤ 10000 → IntKind.i64.wrap (h1 - h2) = h1 - h2 ∧ IntKind.i64.wrap (-(h1 - h2)) = h2 - h1 := fun h1 h2 _ _ _ _ => ⟨wrap_id (by omega) (by omega), by rw [wrap_id (by omega) (by omega)]; omega⟩
  unfold walkT
  generalize nth m.roads k = x at *
  obtain ⟨frm, to, len, area, walk, closed, rl, rh, ll, lh⟩ := x
  simp only at f0 f1 t0 t1 l0 l1 b1 b2 p1 p2 ⊢
  cases closed with
  | true =>
    obtain ⟨places, roads⟩ := m
    simp (disch := omega) only [go_sem, K.walk_with, ↓reduceIte, g, Nat.reduceAdd, Nat.reduceSub]
  | false =>
    cases walk with
    | false =>
      obtain ⟨places, roads⟩ := m
      simp (disch := omega) only [go_sem, K.walk_with, ↓reduceIte, g, Nat.reduceAdd, Nat.reduceSub]
    | true =>
      have g1 := tdiv_bd (a := 10 * len + up - 1) (b := up) (by omega) hu
      have g2 := tdiv_bd (a := 10 * len + down - 1) (b := down) (by omega) hd
      have g3 := tdiv_bd (a := 10 * len + level - 1) (b := level) (by omega) hl
      cases back with
      | true =>
        simp only [↓reduceIte]
        generalize nth m.places frm.toNat = q1 at *
        generalize nth m.places to.toNat = q2 at *
        obtain ⟨h1, s1⟩ := q1
        obtain ⟨h2, s2⟩ := q2
        obtain ⟨places, roads⟩ := m
        simp only at *
        obtain ⟨w2, w3⟩ := key h2 h1 (by omega) (by omega) (by omega) (by omega)
        by_cases c2 : len < -10 * (h1 - h2)
        · simp (disch := omega) only [go_sem, K.walk_with, ↓reduceIte, g, p1, p2, w2, w3, gt_iff_lt, Int.zero_sub, Nat.reduceAdd, Nat.reduceSub]
        · by_cases c1 : len < 10 * (h1 - h2)
          · simp (disch := omega) only [go_sem, K.walk_with, ↓reduceIte, g, p1, p2, w2, w3, gt_iff_lt, Int.zero_sub, Nat.reduceAdd, Nat.reduceSub]
          · simp (disch := omega) only [go_sem, K.walk_with, ↓reduceIte, g, p1, p2, w2, w3, gt_iff_lt, Int.zero_sub, Nat.reduceAdd, Nat.reduceSub]
      | false =>
        simp only [Bool.false_eq_true, ↓reduceIte]
        generalize nth m.places frm.toNat = q1 at *
        generalize nth m.places to.toNat = q2 at *
        obtain ⟨h1, s1⟩ := q1
        obtain ⟨h2, s2⟩ := q2
        obtain ⟨places, roads⟩ := m
        simp only at *
        obtain ⟨w2, w3⟩ := key h2 h1 (by omega) (by omega) (by omega) (by omega)
        by_cases c2 : len < -10 * (h2 - h1)
        · simp (disch := omega) only [go_sem, K.walk_with, ↓reduceIte, g, p1, p2, w2, gt_iff_lt, Nat.reduceAdd, Nat.reduceSub]
        · by_cases c1 : len < 10 * (h2 - h1)
          · simp (disch := omega) only [go_sem, K.walk_with, ↓reduceIte, g, p1, p2, w2, gt_iff_lt, Nat.reduceAdd, Nat.reduceSub]
          · simp (disch := omega) only [go_sem, K.walk_with, ↓reduceIte, g, p1, p2, w2, gt_iff_lt, Nat.reduceAdd, Nat.reduceSub]
theorem wtime_ok {m : Mine} (h : m.ok) (k : Nat) (hk : k < m.roads.length) (back : Bool) : CALL 0 N.walk_Time [.t m.e, I k, B back] [] = some (I (walkT m k back 6 9 12), []) := by
  have q := quick_ok
  have w := with_ok h k hk back 6 9 12 (by omega) (by omega) (by omega) (by omega) (by omega) (by omega)
  have v := planValid_ok h
  have nr := h.nr
  have s : CALL 0 N.walk_step [.t m.e, I k, B back] [] = some (I (walkT m k back 6 9 12), []) := by
    refine CALL_of K.t_walk_step rfl ?_
    generalize walkT m k back 6 9 12 = r at *
    obtain ⟨places, roads⟩ := m
    simp (disch := omega) only [go_sem, K.walk_step, ↓reduceIte, q, w, Nat.reduceAdd, Nat.reduceSub]
  refine CALL_of K.t_walk_Time rfl ?_
  generalize walkT m k back 6 9 12 = r at *
  obtain ⟨places, roads⟩ := m
  simp only at *
  simp (disch := omega) only [go_sem, K.walk_Time, ↓reduceIte, v, s, Nat.reduceAdd, Nat.reduceSub]
theorem pall_ok (q : Int) : CALL 0 N.places_all [I q] [] = some (B true, []) := by
  refine CALL_of K.t_places_all rfl ?_
  simp (disch := omega) only [go_sem, K.places_all, ↓reduceIte, Nat.reduceAdd, Nat.reduceSub]
theorem pabs1_ok (q : Int) (l : List Int) (hl : l.length ≤ 4294967296) : CALL 0 N.places_Absent_1 [I q, .bp 0 0] [.box [.t (tL l)]] = some (B (decide (q ∈ l)), [.box [.t (tL l)]]) := by
  refine CALL_of K.t_places_Absent_1 rfl ?_
  have c := contains_ok l q hl
  simp (disch := omega) only [go_sem, K.places_Absent_1, ↓reduceIte, c, Nat.reduceAdd, Nat.reduceSub]
end Go.Ev

namespace Go.Ev.K
open Go.Ev
end Go.Ev.K
namespace Go.Ev
class Has5 [Lib] : Prop where
namespace K
variable [Lib] [Has5]
end K
end Go.Ev

namespace Go.Ev.N
def law33_KeysMade : Nat := 215
def law33_KeysSafe : Nat := 216
def law33_KeysBack : Nat := 217
def law33_awake : Nat := 218
def ref33_Start : Nat := 219
def law33_agree : Nat := 220
def law33_step : Nat := 221
def ref33_Copy : Nat := 222
def keys_Start : Nat := 223
def keys_Lock : Nat := 224
def keys_Insert : Nat := 225
def keys_Remove : Nat := 226
def keys_Unlock : Nat := 227
def keys_Draw : Nat := 228
def keys_Return : Nat := 229
def keys_Locked : Nat := 230
def ref33_Same : Nat := 231
def ref33_Locked : Nat := 232
def ref33_Lock : Nat := 233
def ref33_Insert : Nat := 234
def ref33_Remove : Nat := 235
def ref33_Unlock : Nat := 236
def ref33_Draw : Nat := 237
def ref33_Return : Nat := 238
def keys_move : Nat := 239
def keys_turn : Nat := 240
def slices_Sort_int_int : Nat := 241
def ref33_move : Nat := 242
def keys_copied : Nat := 243
def keys_copied_v1 : Nat := 244
end Go.Ev.N

namespace Go.Ev.K
open Go.Ev
end Go.Ev.K
namespace Go.Ev
class Has10 [Lib] : Prop where
namespace K
variable [Lib] [Has10]
end K
end Go.Ev

namespace Go.Ev
open Go
variable [Lib] [Has1] [Has2] [Has3] [Has4] [Has5] [Has6] [Has7] [Has8] [Has9] [Has10]
end Go.Ev

namespace Go.Ev
open Go
theorem intOfD_some {d : D} {n : Int} (h : intOfD d = some n) : d = .t (.int .i64 n) := by
  unfold intOfD at h
  split at h
  · cases h; rfl
  · cases h
theorem intsOfD : ∀ {es : List D} {l : List Int}, mapO intOfD es = some l → es = l.map fun x => .t (.int .i64 x)
  | [], l, h => by simp [mapO] at h; subst h; rfl
  | e :: r, l, h => by
    simp only [mapO, Option.bind_eq_some_iff, Option.map_eq_some_iff] at h
    obtain ⟨x, hx, y, hy, rfl⟩ := h
    rw [intOfD_some hx, intsOfD hy]; rfl
theorem insI_perm (x : Int) : ∀ l, (insI x l).Perm (x :: l)
  | [] => .refl _
  | y :: r => by
    unfold insI
    split
    · exact .refl _
    · exact ((insI_perm x r).cons y).trans (.swap x y r)
theorem sortI_perm : ∀ l, (sortI l).Perm l
  | [] => .refl _
  | x :: r => (insI_perm x _).trans ((sortI_perm r).cons x)
theorem insI_up {x : Int} : ∀ {l : List Int}, l.Pairwise (· ≤ ·) → (insI x l).Pairwise (· ≤ ·)
  | [], _ => by simp [insI]
  | y :: r, h => by
    unfold insI
    split
    · rename_i hx
      refine List.pairwise_cons.2 ⟨fun z hz => ?_, h⟩
      rcases List.mem_cons.1 hz with rfl | hz
      · exact hx
      · have := (List.pairwise_cons.1 h).1 z hz; omega
    · rename_i hx
      have h' := List.pairwise_cons.1 h
      refine List.pairwise_cons.2 ⟨fun z hz => ?_, insI_up h'.2⟩
      have hz := (insI_perm x r).mem_iff.1 hz
      rcases List.mem_cons.1 hz with rfl | hz
      · omega
      · exact h'.1 z hz
theorem sortI_up : ∀ l, (sortI l).Pairwise (· ≤ ·)
  | [] => .nil
  | x :: r => insI_up (sortI_up r)
theorem sortI_len (l : List Int) : (sortI l).length = l.length := (sortI_perm l).length_eq
theorem sortI_is (l : List Int) : (l.mergeSort fun x y => decide (x ≤ y)) = sortI l := by
  refine List.Perm.eq_of_pairwise (le := (· ≤ ·)) (fun a b _ _ h1 h2 => by omega) ?_ (sortI_up l) ((List.mergeSort_perm _ _).trans (sortI_perm l).symm)
  have := List.pairwise_mergeSort (le := fun x y : Int => decide (x ≤ y)) (fun a b c => by simp; omega) (fun a b => by simp; omega) l
  exact this.imp (by simp)
end Go.Ev

namespace Go.Ev
open Go
variable [Lib] [Has1] [Has2] [Has3] [Has4] [Has5] [Has6] [Has7] [Has8] [Has9] [Has10]
section
variable (k : Keys) (hl : k.keys.length ≤ 1000000) (hr : k.roads.length ≤ 1000000)
include hl hr
end
end Go.Ev

namespace Go.Ev
open Go
variable [Lib] [Has1] [Has2] [Has3] [Has4] [Has5] [Has6] [Has7] [Has8] [Has9] [Has10]
end Go.Ev

namespace Go.Ev
open Go
variable [Lib] [Has1] [Has2] [Has3] [Has4] [Has5] [Has6] [Has7] [Has8] [Has9] [Has10]
end Go.Ev

namespace Go.Ev
open Go
variable [Lib] [Has1] [Has2] [Has3] [Has4] [Has5] [Has6] [Has7] [Has8] [Has9] [Has10]
theorem up_eq {a b : List Int} (ha : a.Pairwise (· ≤ ·)) (hb : b.Pairwise (· ≤ ·)) (p : a.Perm b) : a = b :=
  List.Perm.eq_of_pairwise (le := (· ≤ ·)) (fun a b _ _ h1 h2 => by omega) ha hb p
section
variable (b u v y : Obj) (ds : Heap)
end
end Go.Ev

namespace Go.Ev.N
def law40_FireRulesRaw : Nat := 245
def law40_FireRulesMade : Nat := 246
def law40_FireRulesMore : Nat := 247
def law40_agree : Nat := 248
def ref40_Command : Nat := 249
def ref40_Drawn : Nat := 250
def firerules_Commands : Nat := 251
def ref40_Commands : Nat := 252
def firerules_Valid : Nat := 253
def ref40_Valid : Nat := 254
def ref40_filled : Nat := 255
def ref40_near : Nat := 256
def swaps_Valid : Nat := 257
def firerules_Valid_1 : Nat := 258
def slices_ContainsFunc_api_Machine_api_Machine : Nat := 259
def slices_Sorted_int : Nat := 260
def slices_Values_int_int : Nat := 261
def swaps_tagged : Nat := 262
def slices_Compare_int_int : Nat := 263
def slices_ContainsFunc_api_Whereabouts_api_Whereabouts : Nat := 264
def swaps_Valid_1 : Nat := 265
def slices_IndexFunc_api_Machine_api_Machine : Nat := 266
def slices_Values_int_int_1 : Nat := 267
def cmp_Compare_int : Nat := 268
def slices_IndexFunc_api_Whereabouts_api_Whereabouts : Nat := 269
def cmp_isNaN_int : Nat := 270
end Go.Ev.N

namespace Go.Ev.K
open Go.Ev
def law40_FireRulesMore_l1b : C := (.seq (.ite [{ o := .mv (.v 8) }, { o := .fa (.v 5) 1 }, { o := .ld (.l 0) 1 false }, { o := .ln (.l 0) }, { o := .bin .lss (.l 3) (.l 0) }] [] 0 .skip (.exit 0)) (.seq (.blk 1 (.seq (.reg [{ o := .fa (.v 5) 1 }, { o := .ld (.l 0) 1 false }, { o := .mv (.v 8) }, { o := .ia (.l 1) (.l 0) 1 }, { o := .ld (.l 0) 1 false }, { o := .mv (.l 0), d := some 9 }] []) (.seq (.ite [{ o := .mv (.v 2) }, { o := .ca N.made_Dice_One 0 [] [.l 0, .i 3] }] [] 0 (.reg [{ o := .mv (.v 9) }, { o := .fa (.v 5) 0 }, { o := .ld (.l 0) 1 false }, { o := .mv (.v 2) }, { o := .ca N.made_Dice_Next 0 [] [.l 0, .i 300] }, { o := .bin .add (.l 2) (.l 0) }, { o := .mn [.l 5, .l 0] }, { o := .mv (.l 0), d := some 9 }] [(2, 5)]) .skip) (.reg [{ o := .fa (.v 7) 1 }, { o := .ld (.l 0) 1 false }, { o := .mv (.v 9) }, { o := .bs [.l 0] 1 }, { o := .app (.l 2) (.l 0) true 1 }, { o := .fa (.v 7) 1 }, { o := .st (.l 0) (.l 1) 1 [] }] [])))) (.reg [{ o := .mv (.v 8) }, { o := .bin .add (.l 0) (.i 1) }, { o := .mv (.l 0), d := some 8 }] [])))
def law40_FireRulesMore_l1 : C := .loop true [0, 1, 9, 10, 11, 12, 13, 14, 15, 16, 17] K.law40_FireRulesMore_l1b
def law40_FireRulesMore_l2b : C := (.seq (.ite [{ o := .mv (.v 16) }, { o := .mv (.v 4) }, { o := .ln (.l 0) }, { o := .bin .lss (.l 2) (.l 0) }] [] 0 .skip (.exit 2)) (.seq (.blk 3 (.seq (.reg [{ o := .mv (.v 14) }, { o := .mv (.v 16) }, { o := .ia (.l 1) (.l 0) 1 }, { o := .ld (.l 0) 1 false }, { o := .bin .eql (.l 0) (.i 2) }, { o := .mv (.l 0) }, { o := .mv (.v 14), g := some (0, false) }, { o := .mv (.v 16), g := some (1, false) }, { o := .ia (.l 1) (.l 0) 1, g := some (2, false) }, { o := .ld (.l 0) 1 false, g := some (3, false) }, { o := .bin .eql (.l 0) (.i 1), g := some (4, false) }, { o := .pk (.l 5) (.b true) (.l 0) }, { o := .mv (.l 0), d := some 17 }] []) (.ite [{ o := .mv (.v 12) }, { o := .mv (.v 16) }, { o := .ia (.l 1) (.l 0) 1 }, { o := .ld (.l 0) 1 false }, { o := .bin .eql (.l 0) (.i 2) }, { o := .mv (.l 0) }, { o := .mv (.v 14), g := some (0, true) }, { o := .mv (.v 16), g := some (1, true) }, { o := .ia (.l 1) (.l 0) 1, g := some (2, true) }, { o := .ld (.l 0) 1 false, g := some (3, true) }, { o := .bin .neq (.l 0) (.i 2), g := some (4, true) }, { o := .pk (.l 5) (.l 0) (.b false) }, { o := .mv (.l 0) }, { o := .mv (.v 12), g := some (0, false) }, { o := .mv (.v 16), g := some (1, false) }, { o := .ia (.l 1) (.l 0) 1, g := some (2, false) }, { o := .ld (.l 0) 1 false, g := some (3, false) }, { o := .bin .eql (.l 0) (.i 1), g := some (4, false) }, { o := .mv (.l 0), g := some (5, false) }, { o := .mv (.v 17), g := some (0, true) }, { o := .un .not (.l 0), g := some (1, true) }, { o := .pk (.l 2) (.l 0) (.b false), g := some (8, false) }, { o := .pk (.l 9) (.b true) (.l 0) }] [] 0 (.seq (.reg [{ o := .mv (.b false), d := some 1 }] []) .ret) .skip))) (.reg [{ o := .mv (.v 16) }, { o := .bin .add (.l 0) (.i 1) }, { o := .mv (.l 0), d := some 16 }] [])))
def law40_FireRulesMore_l2 : C := .loop true [0, 1, 2, 3, 5, 6, 7, 8, 9, 10, 11, 13, 15, 17] K.law40_FireRulesMore_l2b
def law40_FireRulesMore : Fn := { nargs := 1, vars := [0, 2, 3, 4, 5, 6, 7, 8, 9, 10, 11, 12, 13, 14, 15, 16, 17, 18], body := (.seq (.reg [{ o := .mv (.b false), d := some 1 }] []) (.seq (.ite [{ o := .mv (.v 0) }, { o := .ca N.made_Light 0 [] [.l 0] }, { o := .un .not (.l 0) }] [] 0 (.seq (.reg [{ o := .ca N.law40_awake 0 [] [] }, { o := .mv (.l 0), d := some 1 }] []) .ret) .skip) (.seq (.reg [{ o := .mv (.v 0) }, { o := .ca N.made_Roll 0 [] [.l 0] }, { o := .mv (.l 0), d := some 2 }] []) (.seq (.reg [{ o := .mv (.v 2) }, { o := .ca N.made_Dice_Mine 0 [] [.l 0] }, { o := .al [.nil, .nil] [], d := some 3 }, { o := .st (.l 0) (.l 1) 2 [] }] []) (.seq (.reg [{ o := .al [.t (.int .i64 (0)), .nil] [], d := some 5 }, { o := .al [.nil] [], d := some 6 }, { o := .mv (.v 2) }, { o := .ld (.v 3) 2 true }, { o := .ca N.law40_some 0 [] [.l 1, .l 0] }, { o := .mv (.v 2) }, { o := .ld (.v 3) 2 true }, { o := .mv (.v 2) }, { o := .ld (.v 3) 2 true }, { o := .ca N.made_Dice_Flows 0 [] [.l 1, .l 0] }, { o := .ca N.made_Dice_Spread 0 [] [.l 4, .l 3, .l 0] }, { o := .mv (.v 2) }, { o := .ld (.v 3) 2 true }, { o := .ca N.made_Dice_Belief 0 [] [.l 1, .l 0] }, { o := .mv (.l 9), d := some 4 }, { o := .st (.l 14) (.l 4) 2 [] }, { o := .st (.l 14) (.l 2) 1 [] }] [(0, 5), (0, 10), (0, 11), (0, 14), (1, 5), (1, 10), (1, 11), (1, 14), (6, 2), (6, 10), (8, 2), (12, 2), (12, 5), (12, 10)]) (.seq (.reg [{ o := .fa (.v 5) 0 }, { o := .ld (.l 0) 1 false }, { o := .bd [.t (.int .i64 (0)), .nil] [(0, 1, .l 0)] }, { o := .al [.t (.int .i64 (0)), .nil] [(1, 1)], d := some 7 }, { o := .st (.l 0) (.l 1) 2 [(1, 1)] }] []) (.seq (.seq (.reg [{ o := .mv (.i 0), d := some 8 }] []) (.blk 0 K.law40_FireRulesMore_l1)) (.seq (.reg [{ o := .fa (.v 5) 0 }, { o := .ld (.l 0) 1 false }, { o := .mv (.v 2) }, { o := .ca N.made_Dice_Next 0 [] [.l 0, .i 300] }, { o := .bin .add (.l 2) (.l 0) }, { o := .mv (.v 2) }, { o := .bs [.i 0, .i 60] 1 }, { o := .ca N.made_Dice_Of 0 [] [.l 1, .l 0] }, { o := .mv (.l 3), d := some 10 }, { o := .mv (.l 1), d := some 11 }] [(1, 4), (1, 8), (6, 0)]) (.seq (.reg [{ o := .ld (.v 3) 2 true }, { o := .mv (.v 4) }, { o := .ld (.v 5) 2 true }, { o := .ld (.v 6) 1 true }, { o := .mv (.v 10) }, { o := .mv (.v 11) }, { o := .ca N.firerules_Commands 0 [] [.l 5, .l 4, .l 3, .l 2, .l 1, .l 0] }, { o := .mv (.l 0) }, { o := .ex (.l 0) 0 }, { o := .ex (.l 1) 1 }, { o := .mv (.l 1), d := some 12 }, { o := .mv (.l 1), d := some 13 }] []) (.seq (.reg [{ o := .ld (.v 3) 2 true }, { o := .mv (.v 4) }, { o := .ld (.v 7) 2 true }, { o := .ld (.v 6) 1 true }, { o := .mv (.v 10) }, { o := .mv (.v 11) }, { o := .ca N.firerules_Commands 0 [] [.l 5, .l 4, .l 3, .l 2, .l 1, .l 0] }, { o := .mv (.l 0) }, { o := .ex (.l 0) 0 }, { o := .ex (.l 1) 1 }, { o := .mv (.l 1), d := some 14 }, { o := .mv (.l 1), d := some 15 }] []) (.seq (.ite [{ o := .mv (.v 13) }, { o := .bin .neq (.l 0) (.i 0) }, { o := .mv (.l 0) }, { o := .mv (.v 15), g := some (0, false) }, { o := .bin .neq (.l 0) (.i 0), g := some (1, false) }, { o := .pk (.l 2) (.b true) (.l 0) }, { o := .mv (.l 0) }, { o := .mv (.v 12), g := some (0, false) }, { o := .ln (.l 0), g := some (1, false) }, { o := .mv (.v 4), g := some (2, false) }, { o := .ln (.l 0), g := some (3, false) }, { o := .bin .neq (.l 2) (.l 0), g := some (4, false) }, { o := .pk (.l 5) (.b true) (.l 0) }, { o := .mv (.l 0) }, { o := .mv (.v 14), g := some (0, false) }, { o := .ln (.l 0), g := some (1, false) }, { o := .mv (.v 4), g := some (2, false) }, { o := .ln (.l 0), g := some (3, false) }, { o := .bin .neq (.l 2) (.l 0), g := some (4, false) }, { o := .pk (.l 5) (.b true) (.l 0) }] [] 0 (.seq (.reg [{ o := .mv (.b false), d := some 1 }] []) .ret) .skip) (.seq (.seq (.reg [{ o := .mv (.i 0), d := some 16 }] []) (.blk 2 K.law40_FireRulesMore_l2)) (.seq (.reg [{ o := .ca N.law40_awake 0 [] [] }, { o := .mv (.l 0), d := some 1 }] []) .ret))))))))))))), res := [(1, none)] }
def firerules_Commands_l1b : C := (.its  [{ o := .bin .lss (.v 15) (.v 14) }] [] 0 .skip (.exit 1) (.seq (.blk 2 (.seq (.reg [{ o := .ia (.v 13) (.v 15) 3 }, { o := .ld (.l 0) 3 true }, { o := .al [.t (.int .i64 (0)), .t (.int .i64 (0)), .nil] [], d := some 12 }, { o := .st (.l 0) (.l 1) 3 [] }] []) (.reg [{ o := .mv (.v 11) }, { o := .ld (.v 6) 2 true }, { o := .ld (.v 12) 3 true }, { o := .ld (.v 7) 2 true }, { o := .ld (.v 8) 1 true }, { o := .mv (.v 4) }, { o := .mv (.v 5) }, { o := .ca N.firerules_Command 0 [] [.l 5, .l 4, .l 3, .l 2, .l 1, .l 0] }, { o := .bs [.l 0] 1 }, { o := .app (.l 8) (.l 0) true 1 }, { o := .mv (.l 0), d := some 11 }] []))) (.reg [{ o := .bin .add (.v 15) (.i 1) }, { o := .mv (.l 0), d := some 15 }] [])))
def firerules_Commands_l1 : C := .loop true [0, 1, 2, 3, 9, 10, 12] K.firerules_Commands_l1b
def firerules_Commands : Fn := { nargs := 6, vars := [0, 1, 2, 3, 4, 5, 6, 8, 9, 12, 13, 14, 16, 43, 44, 45], body := (.seq (.reg [{ o := .bx (.v 0) 2, d := some 6 }, { o := .bx (.v 2) 2, d := some 7 }, { o := .bx (.v 3) 1, d := some 8 }, { o := .mv (.c (.nil)), d := some 9 }, { o := .mv (.i 0), d := some 10 }] []) (.seq (.blk 0 (.ite [{ o := .ld (.v 6) 2 true }, { o := .mv (.v 1) }, { o := .ca N.firerules_Valid 0 [] [.l 1, .l 0] }, { o := .un .not (.l 0) }, { o := .mv (.l 0) }, { o := .ld (.v 6) 2 true, g := some (0, false) }, { o := .ld (.v 7) 2 true, g := some (1, false) }, { o := .ca N.smoke_Valid 0 [] [.l 1, .l 0], g := some (2, false) }, { o := .un .not (.l 0), g := some (3, false) }, { o := .pk (.l 4) (.b true) (.l 0) }, { o := .mv (.l 0) }, { o := .ld (.v 6) 2 true, g := some (0, false) }, { o := .ld (.v 8) 1 true, g := some (1, false) }, { o := .ca N.swaps_Valid 0 [] [.l 1, .l 0], g := some (2, false) }, { o := .un .not (.l 0), g := some (3, false) }, { o := .pk (.l 4) (.b true) (.l 0) }, { o := .mv (.l 0) }] [] 0 (.seq (.reg [{ o := .mv (.c (.nil)), d := some 9 }, { o := .mv (.i 6), d := some 10 }] []) .ret) (.ite [{ o := .mv (.v 4) }, { o := .ca N.lists_In 0 [] [.l 0, .i 0, .i 2147483648] }, { o := .un .not (.l 0) }, { o := .mv (.l 0) }, { o := .mv (.v 5), g := some (0, false) }, { o := .ca N.lists_In 0 [] [.l 0, .i 0, .i 2147483648], g := some (1, false) }, { o := .un .not (.l 0), g := some (2, false) }, { o := .pk (.l 3) (.b true) (.l 0) }, { o := .mv (.l 0) }] [] 0 (.seq (.reg [{ o := .mv (.c (.nil)), d := some 9 }, { o := .mv (.i 8), d := some 10 }] []) .ret) .skip))) (.seq (.reg [{ o := .nw 1, d := some 11 }] []) (.seq (.seq (.reg [{ o := .mv (.v 1), d := some 13 }, { o := .ln (.l 0), d := some 14 }, { o := .mv (.i 0), d := some 15 }] []) (.blk 1 K.firerules_Commands_l1)) (.seq (.reg [{ o := .mv (.v 11) }, { o := .mv (.l 0), d := some 9 }, { o := .mv (.i 0), d := some 10 }] []) .ret))))), res := [(9, none), (10, none)] }
def firerules_Valid : Fn := { nargs := 2, vars := [0, 1, 2, 4, 5], body := (.seq (.reg [{ o := .bx (.v 0) 2, d := some 2 }, { o := .mv (.b false), d := some 3 }] []) (.seq (.reg [{ o := .mf N.firerules_Valid_1 [.v 2] }, { o := .mv (.l 0), d := some 4 }] []) (.seq (.reg [{ o := .ld (.v 2) 2 true }, { o := .ca N.plan_Valid 0 [] [.l 0] }, { o := .mv (.l 0) }, { o := .mv (.v 1), g := some (0, true) }, { o := .ln (.l 0), g := some (1, true) }, { o := .bin .leq (.l 0) (.i 48), g := some (2, true) }, { o := .pk (.l 3) (.l 0) (.b false) }, { o := .mv (.l 0) }, { o := .mv (.v 1), g := some (0, true) }, { o := .mv (.v 4), g := some (1, true) }, { o := .ca N.slices_ContainsFunc_api_Machine_api_Machine 0 [] [.l 1, .l 0], g := some (2, true) }, { o := .un .not (.l 0), g := some (3, true) }, { o := .pk (.l 4) (.l 0) (.b false) }, { o := .mv (.l 0), d := some 3 }] []) .ret))), res := [(3, none)] }
def swaps_Valid_l1b : C := (.its  [{ o := .bin .lss (.v 10) (.v 9) }] [] 0 .skip (.exit 0) (.seq (.blk 1 (.seq (.reg [{ o := .mv (.v 10) }, { o := .ia (.v 8) (.v 10) 2 }, { o := .ld (.l 0) 2 true }, { o := .al [.nil, .nil] [], d := some 7 }, { o := .mv (.l 3), d := some 6 }, { o := .st (.l 1) (.l 2) 2 [] }] []) (.blk 2 (.ite [{ o := .fa (.v 7) 0 }, { o := .ld (.l 0) 1 false }, { o := .ln (.l 0) }, { o := .ca N.lists_In 0 [] [.l 0, .i 1, .i 12] }, { o := .un .not (.l 0) }, { o := .mv (.l 0) }, { o := .fa (.v 7) 1, g := some (0, false) }, { o := .ld (.l 0) 1 false, g := some (1, false) }, { o := .ln (.l 0), g := some (2, false) }, { o := .fa (.v 7) 0, g := some (3, false) }, { o := .ld (.l 0) 1 false, g := some (4, false) }, { o := .ln (.l 0), g := some (5, false) }, { o := .bin .neq (.l 3) (.l 0), g := some (6, false) }, { o := .pk (.l 7) (.b true) (.l 0) }, { o := .mv (.l 0) }, { o := .fa (.v 7) 0, g := some (0, false) }, { o := .ld (.l 0) 1 false, g := some (1, false) }, { o := .ca N.swaps_tagged 0 [] [.l 0], g := some (2, false) }, { o := .un .not (.l 0), g := some (3, false) }, { o := .pk (.l 4) (.b true) (.l 0) }, { o := .mv (.l 0) }] [] 0 (.seq (.reg [{ o := .mv (.b false), d := some 4 }] []) .ret) (.ite [{ o := .fa (.v 7) 0 }, { o := .ld (.l 0) 1 false }, { o := .ca N.slices_Values_int_int 0 [] [.l 0] }, { o := .ca N.slices_Sorted_int 0 [] [.l 0] }, { o := .mv (.v 5) }, { o := .ca N.slices_Equal_int_int 0 [] [.l 1, .l 0] }, { o := .un .not (.l 0) }, { o := .mv (.l 0) }] [] 0 (.seq (.reg [{ o := .mv (.b false), d := some 4 }] []) .ret) (.ite [{ o := .mv (.v 6) }, { o := .bin .gtr (.l 0) (.i 0) }, { o := .mv (.l 0) }, { o := .fa (.v 3) 0, g := some (0, true) }, { o := .ld (.l 0) 1 false, g := some (1, true) }, { o := .mv (.v 6), g := some (2, true) }, { o := .bin .sub (.l 0) (.i 1), g := some (3, true) }, { o := .ia (.l 2) (.l 0) 2, g := some (4, true) }, { o := .fa (.l 0) 0, g := some (5, true) }, { o := .ld (.l 0) 1 false, g := some (6, true) }, { o := .fa (.v 7) 0, g := some (7, true) }, { o := .ld (.l 0) 1 false, g := some (8, true) }, { o := .ca N.slices_Compare_int_int 0 [] [.l 2, .l 0], g := some (9, true) }, { o := .bin .geq (.l 0) (.i 0), g := some (10, true) }, { o := .pk (.l 11) (.l 0) (.b false) }, { o := .mv (.l 0) }] [] 0 (.seq (.reg [{ o := .mv (.b false), d := some 4 }] []) .ret) (.ite [{ o := .fa (.v 7) 1 }, { o := .ld (.l 0) 1 false }, { o := .mf N.swaps_Valid_1 [.v 2] }, { o := .ca N.slices_ContainsFunc_api_Whereabouts_api_Whereabouts 0 [] [.l 1, .l 0] }, { o := .mv (.l 0) }] [] 0 (.seq (.reg [{ o := .mv (.b false), d := some 4 }] []) .ret) .skip))))))) (.reg [{ o := .bin .add (.v 10) (.i 1) }, { o := .mv (.l 0), d := some 10 }] [])))
def swaps_Valid_l1 : C := .loop true [0, 1, 4, 6, 7] K.swaps_Valid_l1b
def swaps_Valid : Fn := { nargs := 2, vars := [0, 1, 2, 3, 4, 5, 6, 7, 26, 27, 28], body := (.seq (.reg [{ o := .bx (.v 0) 2, d := some 2 }, { o := .bx (.v 1) 1, d := some 3 }, { o := .mv (.b false), d := some 4 }] []) (.seq (.ite [{ o := .ld (.v 2) 2 true }, { o := .ca N.plan_Valid 0 [] [.l 0] }, { o := .un .not (.l 0) }, { o := .mv (.l 0) }, { o := .fa (.v 3) 0, g := some (0, false) }, { o := .ld (.l 0) 1 false, g := some (1, false) }, { o := .ln (.l 0), g := some (2, false) }, { o := .ca N.lists_In 0 [] [.l 0, .i 1, .i 24], g := some (3, false) }, { o := .un .not (.l 0), g := some (4, false) }, { o := .pk (.l 5) (.b true) (.l 0) }] [] 0 (.seq (.reg [{ o := .mv (.b false), d := some 4 }] []) .ret) .skip) (.seq (.reg [{ o := .fa (.v 3) 0 }, { o := .ld (.l 0) 1 false }, { o := .ia (.l 0) (.i 0) 2 }, { o := .fa (.l 0) 0 }, { o := .ld (.l 0) 1 false }, { o := .ca N.slices_Values_int_int 0 [] [.l 0] }, { o := .ca N.slices_Sorted_int 0 [] [.l 0] }, { o := .mv (.l 0), d := some 5 }] []) (.seq (.seq (.reg [{ o := .fa (.v 3) 0 }, { o := .ld (.l 0) 1 false, d := some 8 }, { o := .ln (.l 0), d := some 9 }, { o := .mv (.i 0), d := some 10 }] []) (.blk 0 K.swaps_Valid_l1)) (.seq (.reg [{ o := .mv (.b true), d := some 4 }] []) .ret))))), res := [(4, none)] }
def firerules_Valid_1 : Fn := { nargs := 2, vars := [0, 1, 2, 3], body := (.seq (.reg [{ o := .bx (.v 0) 3, d := some 2 }, { o := .mv (.b false), d := some 3 }] []) (.seq (.reg [{ o := .fa (.v 2) 0 }, { o := .ld (.l 0) 1 false }, { o := .bin .neq (.l 0) (.i 1) }, { o := .mv (.l 0) }, { o := .fa (.v 2) 0, g := some (0, true) }, { o := .ld (.l 0) 1 false, g := some (1, true) }, { o := .bin .neq (.l 0) (.i 2), g := some (2, true) }, { o := .pk (.l 3) (.l 0) (.b false) }, { o := .mv (.l 0) }, { o := .fa (.v 2) 1, g := some (0, false) }, { o := .ld (.l 0) 1 false, g := some (1, false) }, { o := .ca N.lists_In 0 [] [.l 0, .i 0, .i 23], g := some (2, false) }, { o := .un .not (.l 0), g := some (3, false) }, { o := .pk (.l 4) (.b true) (.l 0) }, { o := .mv (.l 0) }, { o := .fa (.v 2) 2, g := some (0, false) }, { o := .ld (.l 0) 1 false, g := some (1, false) }, { o := .ln (.l 0), g := some (2, false) }, { o := .bin .eql (.l 0) (.i 0), g := some (3, false) }, { o := .pk (.l 4) (.b true) (.l 0) }, { o := .mv (.l 0) }, { o := .fa (.v 2) 2, g := some (0, false) }, { o := .ld (.l 0) 1 false, g := some (1, false) }, { o := .fa (.v 1) 0, g := some (2, false) }, { o := .ld (.l 0) 1 false, g := some (3, false) }, { o := .ln (.l 0), g := some (4, false) }, { o := .bin .sub (.l 0) (.i 1), g := some (5, false) }, { o := .ca N.lists_Rising 0 [] [.l 4, .i 0, .l 0], g := some (6, false) }, { o := .un .not (.l 0), g := some (7, false) }, { o := .pk (.l 8) (.b true) (.l 0) }, { o := .mv (.l 0), d := some 3 }] []) .ret)), res := [(3, none)] }
def slices_ContainsFunc_api_Machine_api_Machine : Fn := { nargs := 2, vars := [0, 1, 4], body := (.seq (.reg [{ o := .mv (.b false), d := some 2 }] []) (.seq (.reg [{ o := .mv (.v 0) }, { o := .mv (.v 1) }, { o := .ca N.slices_IndexFunc_api_Machine_api_Machine 0 [] [.l 1, .l 0] }, { o := .bin .geq (.l 0) (.i 0) }, { o := .mv (.l 0), d := some 2 }] []) .ret)), res := [(2, none)] }
def slices_Sorted_int : Fn := { nargs := 1, vars := [2], body := .fail, res := [(0, none)], prim := [2, N.slices_Values_int_int_1] }
def slices_Values_int_int : Fn := { nargs := 1, vars := [0, 1, 2], body := (.seq (.reg [{ o := .bx (.v 0) 1, d := some 1 }, { o := .mv (.c (.und)), d := some 2 }] []) (.seq (.reg [{ o := .mf N.slices_Values_int_int_1 [.v 1] }, { o := .mv (.l 0), d := some 2 }] []) .ret)), res := [(2, none)] }
def swaps_tagged : Fn := { nargs := 1, vars := [0, 2, 3], body := (.seq (.reg [{ o := .mv (.b false), d := some 1 }] []) (.seq (.reg [{ o := .mv (.v 0) }, { o := .ca N.slices_Values_int_int 0 [] [.l 0] }, { o := .ca N.slices_Sorted_int 0 [] [.l 0] }, { o := .mv (.l 0), d := some 2 }] []) (.seq (.reg [{ o := .mv (.v 2) }, { o := .ca N.lists_Rising 0 [] [.l 0, .i 1, .i 65535] }, { o := .mv (.l 0), d := some 1 }] []) .ret))), res := [(1, none)] }
def slices_Compare_int_int_l1b : C := (.its  [{ o := .bin .lss (.v 9) (.v 8) }] [] 0 .skip (.exit 0) (.seq (.blk 1 (.seq (.reg [{ o := .mv (.v 9) }, { o := .ia (.v 7) (.v 9) 1 }, { o := .ld (.l 0) 1 false }, { o := .mv (.l 2), d := some 3 }, { o := .mv (.l 1), d := some 4 }] []) (.seq (.ite [{ o := .mv (.v 3) }, { o := .mv (.v 1) }, { o := .ln (.l 0) }, { o := .bin .geq (.l 2) (.l 0) }] [] 0 (.seq (.reg [{ o := .mv (.i 1), d := some 2 }] []) .ret) .skip) (.seq (.reg [{ o := .mv (.v 1) }, { o := .mv (.v 3) }, { o := .ia (.l 1) (.l 0) 1 }, { o := .ld (.l 0) 1 false }, { o := .mv (.l 0), d := some 5 }] []) (.seq (.reg [{ o := .mv (.v 4) }, { o := .mv (.v 5) }, { o := .ca N.cmp_Compare_int 0 [] [.l 1, .l 0] }, { o := .mv (.l 0), d := some 6 }] []) (.ite [{ o := .mv (.v 6) }, { o := .bin .neq (.l 0) (.i 0) }] [] 0 (.seq (.reg [{ o := .mv (.v 6) }, { o := .mv (.l 0), d := some 2 }] []) .ret) .skip)))))) (.reg [{ o := .bin .add (.v 9) (.i 1) }, { o := .mv (.l 0), d := some 9 }] [])))
def slices_Compare_int_int_l1 : C := .loop true [2, 3, 4, 5, 6] K.slices_Compare_int_int_l1b
def slices_Compare_int_int : Fn := { nargs := 2, vars := [0, 1, 4, 5, 6, 7, 8, 9, 10, 11], body := (.seq (.reg [{ o := .mv (.i 0), d := some 2 }] []) (.seq (.seq (.reg [{ o := .mv (.v 0), d := some 7 }, { o := .ln (.l 0), d := some 8 }, { o := .mv (.i 0), d := some 9 }] []) (.blk 0 K.slices_Compare_int_int_l1)) (.seq (.ite [{ o := .mv (.v 0) }, { o := .ln (.l 0) }, { o := .mv (.v 1) }, { o := .ln (.l 0) }, { o := .bin .lss (.l 2) (.l 0) }] [] 0 (.seq (.reg [{ o := .mv (.i (-1)), d := some 2 }] []) .ret) .skip) (.seq (.reg [{ o := .mv (.i 0), d := some 2 }] []) .ret)))), res := [(2, none)] }
def slices_ContainsFunc_api_Whereabouts_api_Whereabouts : Fn := { nargs := 2, vars := [0, 1, 4], body := (.seq (.reg [{ o := .mv (.b false), d := some 2 }] []) (.seq (.reg [{ o := .mv (.v 0) }, { o := .mv (.v 1) }, { o := .ca N.slices_IndexFunc_api_Whereabouts_api_Whereabouts 0 [] [.l 1, .l 0] }, { o := .bin .geq (.l 0) (.i 0) }, { o := .mv (.l 0), d := some 2 }] []) .ret)), res := [(2, none)] }
def swaps_Valid_1 : Fn := { nargs := 2, vars := [0, 1, 2, 3], body := (.seq (.reg [{ o := .bx (.v 0) 2, d := some 2 }, { o := .mv (.b false), d := some 3 }] []) (.seq (.reg [{ o := .ld (.v 1) 2 true }, { o := .ld (.v 2) 2 true }, { o := .ca N.places_Valid 0 [] [.l 1, .l 0] }, { o := .un .not (.l 0) }, { o := .mv (.l 0), d := some 3 }] []) .ret)), res := [(3, none)] }
def slices_IndexFunc_api_Machine_api_Machine_l1b : C := (.its  [{ o := .bin .lss (.v 5) (.v 4) }] [] 0 .skip (.exit 0) (.seq (.blk 1 (.seq (.reg [{ o := .mv (.v 5) }, { o := .mv (.l 0), d := some 3 }] []) (.ite [{ o := .mv (.v 1) }, { o := .mv (.v 0) }, { o := .mv (.v 3) }, { o := .ia (.l 1) (.l 0) 3 }, { o := .ld (.l 0) 3 true }, { o := .cw (.l 4) 0 [] [.l 0] }] [] 0 (.seq (.reg [{ o := .mv (.v 3) }, { o := .mv (.l 0), d := some 2 }] []) .ret) .skip))) (.reg [{ o := .bin .add (.v 5) (.i 1) }, { o := .mv (.l 0), d := some 5 }] [])))
def slices_IndexFunc_api_Machine_api_Machine_l1 : C := .loop true [2, 3] K.slices_IndexFunc_api_Machine_api_Machine_l1b
def slices_IndexFunc_api_Machine_api_Machine : Fn := { nargs := 2, vars := [0, 1, 4, 5, 7, 8], body := (.seq (.reg [{ o := .mv (.i 0), d := some 2 }] []) (.seq (.seq (.reg [{ o := .mv (.v 0) }, { o := .ln (.l 0), d := some 4 }, { o := .mv (.i 0), d := some 5 }] []) (.blk 0 K.slices_IndexFunc_api_Machine_api_Machine_l1)) (.seq (.reg [{ o := .mv (.i (-1)), d := some 2 }] []) .ret))), res := [(2, none)] }
def slices_Values_int_int_1_l1b : C := (.its  [{ o := .bin .lss (.v 5) (.v 4) }] [] 0 .skip (.exit 0) (.seq (.blk 1 (.seq (.reg [{ o := .ia (.v 3) (.v 5) 1 }, { o := .ld (.l 0) 1 false }, { o := .mv (.l 0), d := some 2 }] []) (.ite [{ o := .mv (.v 0) }, { o := .mv (.v 2) }, { o := .cw (.l 1) 0 [] [.l 0] }, { o := .un .not (.l 0) }] [] 0 .ret .skip))) (.reg [{ o := .bin .add (.v 5) (.i 1) }, { o := .mv (.l 0), d := some 5 }] [])))
def slices_Values_int_int_1_l1 : C := .loop true [1, 2] K.slices_Values_int_int_1_l1b
def slices_Values_int_int_1 : Fn := { nargs := 2, vars := [0, 1, 4, 5, 6, 7], body := (.seq (.reg [{ o := .ld (.v 1) 1 false, d := some 3 }, { o := .ln (.l 0), d := some 4 }, { o := .mv (.i 0), d := some 5 }] []) (.blk 0 K.slices_Values_int_int_1_l1)), res := [] }
def cmp_Compare_int : Fn := { nargs := 2, vars := [0, 1, 4, 5, 6], body := (.seq (.reg [{ o := .mv (.i 0), d := some 2 }] []) (.seq (.reg [{ o := .mv (.v 0) }, { o := .ca N.cmp_isNaN_int 0 [] [.l 0] }, { o := .mv (.l 0), d := some 3 }] []) (.seq (.reg [{ o := .mv (.v 1) }, { o := .ca N.cmp_isNaN_int 0 [] [.l 0] }, { o := .mv (.l 0), d := some 4 }] []) (.seq (.ite [{ o := .mv (.v 3) }] [] 0 (.seq (.ite [{ o := .mv (.v 4) }] [] 0 (.seq (.reg [{ o := .mv (.i 0), d := some 2 }] []) .ret) .skip) (.seq (.reg [{ o := .mv (.i (-1)), d := some 2 }] []) .ret)) .skip) (.seq (.ite [{ o := .mv (.v 4) }] [] 0 (.seq (.reg [{ o := .mv (.i 1), d := some 2 }] []) .ret) .skip) (.seq (.ite [{ o := .mv (.v 0) }, { o := .mv (.v 1) }, { o := .bin .lss (.l 1) (.l 0) }] [] 0 (.seq (.reg [{ o := .mv (.i (-1)), d := some 2 }] []) .ret) .skip) (.seq (.ite [{ o := .mv (.v 0) }, { o := .mv (.v 1) }, { o := .bin .gtr (.l 1) (.l 0) }] [] 0 (.seq (.reg [{ o := .mv (.i 1), d := some 2 }] []) .ret) .skip) (.seq (.reg [{ o := .mv (.i 0), d := some 2 }] []) .ret)))))))), res := [(2, none)] }
def slices_IndexFunc_api_Whereabouts_api_Whereabouts_l1b : C := (.its  [{ o := .bin .lss (.v 5) (.v 4) }] [] 0 .skip (.exit 0) (.seq (.blk 1 (.seq (.reg [{ o := .mv (.v 5) }, { o := .mv (.l 0), d := some 3 }] []) (.ite [{ o := .mv (.v 1) }, { o := .mv (.v 0) }, { o := .mv (.v 3) }, { o := .ia (.l 1) (.l 0) 2 }, { o := .ld (.l 0) 2 true }, { o := .cw (.l 4) 0 [] [.l 0] }] [] 0 (.seq (.reg [{ o := .mv (.v 3) }, { o := .mv (.l 0), d := some 2 }] []) .ret) .skip))) (.reg [{ o := .bin .add (.v 5) (.i 1) }, { o := .mv (.l 0), d := some 5 }] [])))
def slices_IndexFunc_api_Whereabouts_api_Whereabouts_l1 : C := .loop true [2, 3] K.slices_IndexFunc_api_Whereabouts_api_Whereabouts_l1b
def slices_IndexFunc_api_Whereabouts_api_Whereabouts : Fn := { nargs := 2, vars := [0, 1, 4, 5, 7, 8], body := (.seq (.reg [{ o := .mv (.i 0), d := some 2 }] []) (.seq (.seq (.reg [{ o := .mv (.v 0) }, { o := .ln (.l 0), d := some 4 }, { o := .mv (.i 0), d := some 5 }] []) (.blk 0 K.slices_IndexFunc_api_Whereabouts_api_Whereabouts_l1)) (.seq (.reg [{ o := .mv (.i (-1)), d := some 2 }] []) .ret))), res := [(2, none)] }
def cmp_isNaN_int : Fn := { nargs := 1, vars := [0, 2], body := (.seq (.reg [{ o := .mv (.b false), d := some 1 }] []) (.seq (.reg [{ o := .mv (.v 0) }, { o := .mv (.v 0) }, { o := .bin .neq (.l 1) (.l 0) }, { o := .mv (.l 0), d := some 1 }] []) .ret)), res := [(1, none)] }
end Go.Ev.K
namespace Go.Ev
class Has11 [Lib] : Prop where
  t_law40_FireRulesMore : Lib.fs N.law40_FireRulesMore = some K.law40_FireRulesMore
  t_firerules_Commands : Lib.fs N.firerules_Commands = some K.firerules_Commands
  t_firerules_Valid : Lib.fs N.firerules_Valid = some K.firerules_Valid
  t_swaps_Valid : Lib.fs N.swaps_Valid = some K.swaps_Valid
  t_firerules_Valid_1 : Lib.fs N.firerules_Valid_1 = some K.firerules_Valid_1
  t_slices_ContainsFunc_api_Machine_api_Machine : Lib.fs N.slices_ContainsFunc_api_Machine_api_Machine = some K.slices_ContainsFunc_api_Machine_api_Machine
  t_slices_Sorted_int : Lib.fs N.slices_Sorted_int = some K.slices_Sorted_int
  t_slices_Values_int_int : Lib.fs N.slices_Values_int_int = some K.slices_Values_int_int
  t_swaps_tagged : Lib.fs N.swaps_tagged = some K.swaps_tagged
  t_slices_Compare_int_int : Lib.fs N.slices_Compare_int_int = some K.slices_Compare_int_int
  t_slices_ContainsFunc_api_Whereabouts_api_Whereabouts : Lib.fs N.slices_ContainsFunc_api_Whereabouts_api_Whereabouts = some K.slices_ContainsFunc_api_Whereabouts_api_Whereabouts
  t_swaps_Valid_1 : Lib.fs N.swaps_Valid_1 = some K.swaps_Valid_1
  t_slices_IndexFunc_api_Machine_api_Machine : Lib.fs N.slices_IndexFunc_api_Machine_api_Machine = some K.slices_IndexFunc_api_Machine_api_Machine
  t_slices_Values_int_int_1 : Lib.fs N.slices_Values_int_int_1 = some K.slices_Values_int_int_1
  t_cmp_Compare_int : Lib.fs N.cmp_Compare_int = some K.cmp_Compare_int
  t_slices_IndexFunc_api_Whereabouts_api_Whereabouts : Lib.fs N.slices_IndexFunc_api_Whereabouts_api_Whereabouts = some K.slices_IndexFunc_api_Whereabouts_api_Whereabouts
  t_cmp_isNaN_int : Lib.fs N.cmp_isNaN_int = some K.cmp_isNaN_int
namespace K
variable [Lib] [Has11]
theorem t_law40_FireRulesMore : Lib.fs N.law40_FireRulesMore = some K.law40_FireRulesMore := Has11.t_law40_FireRulesMore
theorem t_firerules_Commands : Lib.fs N.firerules_Commands = some K.firerules_Commands := Has11.t_firerules_Commands
theorem t_firerules_Valid : Lib.fs N.firerules_Valid = some K.firerules_Valid := Has11.t_firerules_Valid
theorem t_swaps_Valid : Lib.fs N.swaps_Valid = some K.swaps_Valid := Has11.t_swaps_Valid
theorem t_firerules_Valid_1 : Lib.fs N.firerules_Valid_1 = some K.firerules_Valid_1 := Has11.t_firerules_Valid_1
theorem t_slices_ContainsFunc_api_Machine_api_Machine : Lib.fs N.slices_ContainsFunc_api_Machine_api_Machine = some K.slices_ContainsFunc_api_Machine_api_Machine := Has11.t_slices_ContainsFunc_api_Machine_api_Machine
theorem t_slices_Sorted_int : Lib.fs N.slices_Sorted_int = some K.slices_Sorted_int := Has11.t_slices_Sorted_int
theorem t_slices_Values_int_int : Lib.fs N.slices_Values_int_int = some K.slices_Values_int_int := Has11.t_slices_Values_int_int
theorem t_swaps_tagged : Lib.fs N.swaps_tagged = some K.swaps_tagged := Has11.t_swaps_tagged
theorem t_slices_Compare_int_int : Lib.fs N.slices_Compare_int_int = some K.slices_Compare_int_int := Has11.t_slices_Compare_int_int
theorem t_slices_ContainsFunc_api_Whereabouts_api_Whereabouts : Lib.fs N.slices_ContainsFunc_api_Whereabouts_api_Whereabouts = some K.slices_ContainsFunc_api_Whereabouts_api_Whereabouts := Has11.t_slices_ContainsFunc_api_Whereabouts_api_Whereabouts
theorem t_swaps_Valid_1 : Lib.fs N.swaps_Valid_1 = some K.swaps_Valid_1 := Has11.t_swaps_Valid_1
theorem t_slices_IndexFunc_api_Machine_api_Machine : Lib.fs N.slices_IndexFunc_api_Machine_api_Machine = some K.slices_IndexFunc_api_Machine_api_Machine := Has11.t_slices_IndexFunc_api_Machine_api_Machine
theorem t_slices_Values_int_int_1 : Lib.fs N.slices_Values_int_int_1 = some K.slices_Values_int_int_1 := Has11.t_slices_Values_int_int_1
theorem t_cmp_Compare_int : Lib.fs N.cmp_Compare_int = some K.cmp_Compare_int := Has11.t_cmp_Compare_int
theorem t_slices_IndexFunc_api_Whereabouts_api_Whereabouts : Lib.fs N.slices_IndexFunc_api_Whereabouts_api_Whereabouts = some K.slices_IndexFunc_api_Whereabouts_api_Whereabouts := Has11.t_slices_IndexFunc_api_Whereabouts_api_Whereabouts
theorem t_cmp_isNaN_int : Lib.fs N.cmp_isNaN_int = some K.cmp_isNaN_int := Has11.t_cmp_isNaN_int
end K
end Go.Ev

namespace Go.Ev
open Go
variable [Lib] [Has1] [Has2] [Has3] [Has4] [Has5] [Has6] [Has7] [Has8] [Has9] [Has10] [Has11]
theorem values_ok (l : List Int) : CALL 0 N.slices_Values_int_int [.t (tL l)] [] = some (.fn N.slices_Values_int_int_1 [.bp 0 0], [.box [.t (tL l)]]) := by
  refine CALL_of K.t_slices_Values_int_int rfl ?_
  simp (disch := omega) only [go_sem, K.slices_Values_int_int, ↓reduceIte, Nat.reduceAdd, Nat.reduceSub]
theorem intsOf_map (l : List Int) : intsOfT (tL l) = some l := by
  unfold intsOfT
  simp only
  induction l with
  | nil => rfl
  | cons x l ih =>
    simp only [List.map_cons, mapO] at ih ⊢
    rw [ih]; rfl
theorem sorted_ok (l : List Int) (hl : l.length ≤ 1000000) : CALL 0 N.slices_Sorted_int [.fn N.slices_Values_int_int_1 [.bp 0 0]] [.box [.t (tL l)]] = some (.t (tL (sortI l)), [.box [.t (tL l)]]) := by
  refine CALL_prim K.t_slices_Sorted_int (by decide) ?_
  show primF [2, N.slices_Values_int_int_1] _ _ = _
  simp only [primF, if_true, List.getElem?_cons_zero, argD, Option.bind_some, intsOf_map]
  rw [if_pos (by unfold lim; omega)]
theorem isNaN_ok (a : Int) : CALL 0 N.cmp_isNaN_int [I a] [] = some (B false, []) := by
  refine CALL_of K.t_cmp_isNaN_int rfl ?_
  simp (disch := omega) only [go_sem, K.cmp_isNaN_int, ↓reduceIte, decide_true, Bool.not_true, Nat.reduceAdd, Nat.reduceSub]
def cmpI (a b : Int) : Int := if a < b then -1 else if b < a then 1 else 0
theorem cmp_ok (a b : Int) : CALL 0 N.cmp_Compare_int [I a, I b] [] = some (I (cmpI a b), []) := by
  refine CALL_of K.t_cmp_Compare_int rfl ?_
  have h1 := isNaN_ok a
  have h2 := isNaN_ok b
  unfold cmpI
  by_cases c1 : a < b
  · simp (disch := omega) only [go_sem, K.cmp_Compare_int, ↓reduceIte, h1, h2, c1, Bool.false_eq_true, Nat.reduceAdd, Nat.reduceSub]
  · by_cases c2 : b < a
    · simp (disch := omega) only [go_sem, K.cmp_Compare_int, ↓reduceIte, h1, h2, c1, c2, Bool.false_eq_true, Nat.reduceAdd, Nat.reduceSub]
    · simp (disch := omega) only [go_sem, K.cmp_Compare_int, ↓reduceIte, h1, h2, c1, c2, Bool.false_eq_true, Nat.reduceAdd, Nat.reduceSub]
def cmpP (a b : List Int) (j : Nat) : Bool := decide (b.length ≤ j) || decide (nth a j ≠ nth b j)
def cmpL (a b : List Int) : Int := match (List.range a.length).find? (cmpP a b) with
  | some j => if b.length ≤ j then 1 else cmpI (nth a j) (nth b j)
  | none => if a.length < b.length then -1 else 0
theorem compare_ok (a b : List Int) (ha : a.length ≤ 1000000) (hb : b.length ≤ 1000000) : CALL 0 N.slices_Compare_int_int [.t (tL a), .t (tL b)] [] = some (I (cmpL a b), []) := by
  refine CALL_of K.t_slices_Compare_int_int rfl ?_
  have loop : ∀ z2 z3 z4 z5 z6 : D, exS CALL K.slices_Compare_int_int_l1 ⟨[.t (tL a), .t (tL b), z2, z3, z4, z5, z6, .t (tL a), I a.length, I 0], []⟩ =
      some (match (List.range a.length).find? (cmpP a b) with
        | some j => (.ret, ⟨[.t (tL a), .t (tL b), I (if b.length ≤ j then 1 else cmpI (nth a j) (nth b j)), I j, I (nth a j), if b.length ≤ j then .und else I (nth b j), if b.length ≤ j then .und else I (cmpI (nth a j) (nth b j)), .t (tL a), I a.length, I j], []⟩)
        | none => (.exit 0, ⟨[.t (tL a), .t (tL b), .und, .und, .und, .und, .und, .t (tL a), I a.length, I a.length], []⟩)) := by
    intro z2 z3 z4 z5 z6
    refine loop_first (fun j => ⟨[.t (tL a), .t (tL b), .und, .und, .und, .und, .und, .t (tL a), I a.length, I j], []⟩) a.length (cmpP a b) _ _ rfl ?_ ?_ ?_ (by simp)
    · intro j hj hp
      simp only [cmpP, Bool.or_eq_false_iff, decide_eq_false_iff_not, Decidable.not_not] at hp
      obtain ⟨h1, h2⟩ := hp
      have c := cmp_ok (nth a j) (nth b j)
      rw [h2] at c
      have e : cmpI (nth b j) (nth b j) = 0 := by unfold cmpI; rw [if_neg (by omega), if_neg (by omega)]
      rw [e] at c
      simp (disch := omega) only [go_sem, K.slices_Compare_int_int_l1b, ↓reduceIte, h2, c, Nat.reduceAdd, Nat.reduceSub]
    · intro j hj hp
      refine ⟨?_, by simp⟩
      by_cases h1 : b.length ≤ j
      · rw [if_pos h1, if_pos h1, if_pos h1]
        simp (disch := omega) only [go_sem, K.slices_Compare_int_int_l1b, ↓reduceIte, Nat.reduceAdd, Nat.reduceSub]
      · rw [if_neg h1, if_neg h1, if_neg h1]
        have h2 : nth a j ≠ nth b j := by simpa [cmpP, h1] using hp
        have c := cmp_ok (nth a j) (nth b j)
        have e : cmpI (nth a j) (nth b j) ≠ 0 := by
          unfold cmpI; split
          · omega
          · split <;> omega
        generalize cmpI (nth a j) (nth b j) = v at *
        simp (disch := omega) only [go_sem, K.slices_Compare_int_int_l1b, ↓reduceIte, c, e, Nat.reduceAdd, Nat.reduceSub]
    · simp (disch := omega) only [go_sem, K.slices_Compare_int_int_l1b, ↓reduceIte, Nat.reduceAdd, Nat.reduceSub]
  unfold cmpL
  cases hf : (List.range a.length).find? (cmpP a b) with
  | some j =>
    simp only [hf] at loop
    simp (disch := omega) only [go_sem, K.slices_Compare_int_int, ↓reduceIte, loop, Nat.reduceAdd, Nat.reduceSub]
  | none =>
    simp only [hf] at loop
    by_cases h : a.length < b.length
    · simp (disch := omega) only [go_sem, K.slices_Compare_int_int, ↓reduceIte, loop, h, Nat.reduceAdd, Nat.reduceSub]
    · simp (disch := omega) only [go_sem, K.slices_Compare_int_int, ↓reduceIte, loop, h, Nat.reduceAdd, Nat.reduceSub]
end Go.Ev

namespace Go.Ev
open Go
variable [Lib] [Has1] [Has2]
theorem nodup_sub_len : ∀ {l l' : List Int}, l.Nodup → (∀ x ∈ l, x ∈ l') → l.length ≤ l'.length
  | [], _, _, _ => by simp
  | a :: l, l', hn, hs => by
    obtain ⟨h1, h2⟩ := List.nodup_cons.1 hn
    have ha : a ∈ l' := hs a List.mem_cons_self
    have := nodup_sub_len (l := l) (l' := l'.erase a) h2 fun x hx => by
      have hne : x ≠ a := fun e => h1 (e ▸ hx)
      exact (List.mem_erase_of_ne hne).2 (hs x (List.mem_cons_of_mem _ hx))
    have h3 := List.length_erase_of_mem ha
    have h4 : 0 < l'.length := List.length_pos_of_mem ha
    simp only [List.length_cons]
    omega
theorem bearerF_mem {l : List Int} {x : Int} : 0 ≤ bearerF l x ↔ x ∈ l := by
  unfold bearerF
  cases hf : (List.range l.length).find? (fun j => decide (nth l j = x)) with
  | some j =>
    obtain ⟨h1, h2⟩ := find_lt hf
    have := nth_mem h1
    rw [of_decide_eq_true h2] at this
    simp [this]
  | none =>
    have := List.find?_eq_none.1 hf
    simp only [Int.reduceNeg]
    constructor
    · intro h; simp at h
    · intro h
      obtain ⟨j, hj⟩ := List.mem_iff_getElem?.1 h
      have hl := (List.getElem?_eq_some_iff.1 hj).1
      have := this j (List.mem_range.2 hl)
      rw [nth_eq hj] at this
      simp at this
theorem properB_nodup {l : List Int} (h : properB l = true) : l.Nodup := by
  simp only [properB, List.all_eq_true, List.mem_range, properN, decide_eq_true_eq] at h
  refine List.pairwise_iff_getElem.2 fun i j hi hj hij e => ?_
  obtain ⟨-, -, h3⟩ := h j hj
  have h4 : ¬ nth l j ∈ l.take j := fun hm => by have := bearerF_mem.2 hm; omega
  apply h4
  apply List.mem_iff_getElem?.2
  refine ⟨i, ?_⟩
  rw [List.getElem?_take_of_lt hij, List.getElem?_eq_getElem hi, e, ← List.getElem?_eq_getElem hj, nth_some hj]
theorem belB_spec {m : Mine} {b : Bel} (h : belB m b = true) : 1 ≤ b.worlds.length ∧ b.worlds.length ≤ 24 ∧ 1 ≤ (nth b.worlds 0).tags.length ∧ (nth b.worlds 0).tags.length ≤ 12 ∧
    ∀ i, i < b.worlds.length → worldB m b.worlds (nth b.worlds 0).tags i = true := by
  simp only [belB, Bool.and_eq_true, decide_eq_true_eq, List.all_eq_true, List.mem_range] at h
  exact ⟨h.1.1.1, h.1.1.2, h.1.2.1, h.1.2.2, h.2⟩
theorem worldB_spec {m : Mine} {ws : List World} {first : List Int} {i : Nat} (h : worldB m ws first i = true) : (nth ws i).tags.length = first.length ∧ (nth ws i).whr.length = first.length ∧ properB (nth ws i).tags = true ∧
    ∀ k, k < (nth ws i).tags.length → nth (nth ws i).tags k ∈ first ∧ validB m (nth (nth ws i).whr k) = true := by
  simp only [worldB, Bool.and_eq_true, decide_eq_true_eq, List.all_eq_true, List.mem_range, whoB] at h
  exact ⟨h.1.1.1.1, h.1.1.1.2, h.1.1.2, fun k hk => ⟨bearerF_mem.1 (h.2 k hk).1, (h.2 k hk).2⟩⟩
theorem belB_bearer {m : Mine} {b : Bel} (h : belB m b = true) {tag : Int} (ht : 0 ≤ bearerF (nth b.worlds 0).tags tag) {i : Nat} (hi : i < b.worlds.length) :
    0 ≤ bearerF (nth b.worlds i).tags tag := by
  obtain ⟨h1, h2, h3, h4, h5⟩ := belB_spec h
  obtain ⟨w1, w2, w3, w4⟩ := worldB_spec (h5 i hi)
  apply bearerF_mem.2
  apply Classical.byContradiction
  intro hn
  have := nodup_sub_len (l := tag :: (nth b.worlds i).tags) (l' := (nth b.worlds 0).tags) (List.nodup_cons.2 ⟨hn, properB_nodup w3⟩) (by
    intro x hx
    rcases List.mem_cons.1 hx with e | hx
    · rw [e]; exact bearerF_mem.1 ht
    · obtain ⟨j, hj⟩ := List.mem_iff_getElem?.1 hx
      have := (w4 j (List.getElem?_eq_some_iff.1 hj).1).1
      rwa [nth_eq hj] at this)
  simp only [List.length_cons] at this
  omega
def borneF (m : Mine) (b : Bel) (tag : Int) : Int := if belB m b = false then 6 else if bearerF (nth b.worlds 0).tags tag < 0 then 41 else 0
theorem borne_ok {m : Mine} (h : m.ok) (b : Bel) (hs : b.sz) (tag : Int) : CALL 0 N.ref26_borne [.t m.e, .t b.e, I tag] [] = some (I (borneF m b tag), []) := by
  refine CALL_of K.t_ref26_borne rfl ?_
  have v := belB_ok h b hs
  unfold borneF
  cases hv : belB m b with
  | false =>
    rw [hv] at v
    obtain ⟨ws⟩ := b
    simp (disch := omega) only [go_sem, K.ref26_borne, ↓reduceIte, v]
  | true =>
    rw [hv] at v
    obtain ⟨h1, h2, h3, h4, h5⟩ := belB_spec hv
    have br := bearer_ok (nth b.worlds 0).tags tag (by omega)
    obtain ⟨ws⟩ := b
    simp only at h1 br ⊢
    by_cases c : bearerF (nth ws 0).tags tag < 0
    · simp (disch := omega) only [go_sem, K.ref26_borne, ↓reduceIte, v, br, c, Bool.true_eq_false]
    · simp (disch := omega) only [go_sem, K.ref26_borne, ↓reduceIte, v, br, c, Bool.true_eq_false]
def meetB (a b : Wh) (t : Int) : Bool := (List.range (min a.frm.length b.frm.length)).any fun p => decide (nth a.frm p ≤ t ∧ nth b.frm p ≤ t)
theorem meet_ok (a b : Wh) (t : Int) (ha : a.frm.length ≤ 1000000) : CALL 0 N.ref26_meet [.t a.e, .t b.e, I t] [] = some (B (meetB a b t), []) := by
  refine CALL_of K.t_ref26_meet rfl ?_
  obtain ⟨t1, l1⟩ := a
  obtain ⟨t2, l2⟩ := b
  unfold meetB
  simp only at ha ⊢
  have loop : ∀ x y z : D, exS CALL K.ref26_meet_l1 ⟨[x, y, I t, .bp 0 0, .bp 1 0, z, I 0], [.box [I t1, .t (tL l1)], .box [I t2, .t (tL l2)]]⟩ =
      some (match (List.range (min l1.length l2.length)).find? (fun p => decide (nth l1 p ≤ t ∧ nth l2 p ≤ t)) with
        | some j => (.ret, ⟨[.und, .und, I t, .bp 0 0, .bp 1 0, B true, I j], [.box [I t1, .t (tL l1)], .box [I t2, .t (tL l2)]]⟩)
        | none => (.exit 0, ⟨[.und, .und, I t, .bp 0 0, .bp 1 0, .und, I (min l1.length l2.length : Nat)], [.box [I t1, .t (tL l1)], .box [I t2, .t (tL l2)]]⟩)) := by
    intro x y z
    refine loop_first (fun j => ⟨[.und, .und, I t, .bp 0 0, .bp 1 0, .und, I j], [.box [I t1, .t (tL l1)], .box [I t2, .t (tL l2)]]⟩) (min l1.length l2.length) (fun p => decide (nth l1 p ≤ t ∧ nth l2 p ≤ t)) _ _ rfl ?_ ?_ ?_ (by simp)
    · intro j hj hp
      have hp : ¬ (nth l1 j ≤ t ∧ nth l2 j ≤ t) := of_decide_eq_false hp
      by_cases c : nth l1 j ≤ t
      · simp (disch := omega) only [go_sem, K.ref26_meet_l1b, ↓reduceIte, c]
      · simp (disch := omega) only [go_sem, K.ref26_meet_l1b, ↓reduceIte, c]
    · intro j hj hp
      have hp : nth l1 j ≤ t ∧ nth l2 j ≤ t := of_decide_eq_true hp
      refine ⟨?_, by simp⟩
      simp (disch := omega) only [go_sem, K.ref26_meet_l1b, ↓reduceIte]
    · by_cases h1 : l1.length ≤ l2.length
      · have e : min l1.length l2.length = l1.length := by omega
        rw [e]
        simp (disch := omega) only [go_sem, K.ref26_meet_l1b, ↓reduceIte]
      · have e : min l1.length l2.length = l2.length := by omega
        rw [e]
        simp (disch := omega) only [go_sem, K.ref26_meet_l1b, ↓reduceIte]
  rw [← find_any]
  simp (disch := omega) only [go_sem, K.ref26_meet, ↓reduceIte, loop]
  cases hf : (List.range (min l1.length l2.length)).find? (fun p => decide (nth l1 p ≤ t ∧ nth l2 p ≤ t)) with
  | some j => simp (disch := omega) only [go_sem, ↓reduceIte, Option.isSome]
  | none => simp (disch := omega) only [go_sem, ↓reduceIte, Option.isSome]
def mayB (b : Bel) (person t : Int) (p : Nat) : Bool := (List.range b.worlds.length).any fun i => decide (0 ≤ person ∧ person < (nth b.worlds i).whr.length) && decide ((p : Int) ∈ possF (nth (nth b.worlds i).whr person.toNat) t)
def possB (b : Bel) (person t : Int) : List Int := whereF 64 (mayB b person t)
end Go.Ev

namespace Go.Ev
open Go
variable [Lib] [Has1] [Has2]
def startWs (m : Mine) (starts : List Int) (t : Int) (j : Nat) : List Wh := (List.range j).map fun i => (startF m (nth starts i) t).1
theorem startWs_succ (m : Mine) (starts : List Int) (t : Int) (j : Nat) : startWs m starts t (j + 1) = startWs m starts t j ++ [(startF m (nth starts j) t).1] := by
  unfold startWs; rw [List.range_succ, List.map_append]; rfl
@[simp] theorem startWs_len (m : Mine) (starts : List Int) (t : Int) (j : Nat) : (startWs m starts t j).length = j := by simp [startWs]
def startBel (m : Mine) (tags starts : List Int) (t : Int) : Bel × Int :=
  if tags.length = starts.length ∧ 1 ≤ tags.length ∧ tags.length ≤ 12 then
    if properB tags = true then match (List.range tags.length).find? (fun i => !decide ((startF m (nth starts i) t).2 = 0)) with
      | some i => (⟨[]⟩, (startF m (nth starts i) t).2)
      | none => (⟨[⟨tags, startWs m starts t tags.length⟩]⟩, 0)
    else (⟨[]⟩, 41)
  else (⟨[]⟩, 6)
abbrev stH (m : Mine) (tags : List Int) (r : D) (ws : List Wh) : Heap := [.box (mineCells m), .box [r], .arr 1 false 0 ((tags.map (T.int .i64)).map .t), .box [.ref 2 0 tags.length, .ref 5 0 ws.length], .arr 2 false 0 [], .arr 2 false 0 ((ws.map Wh.e).map .t)]
theorem startBel_ok {m : Mine} (h : m.ok) (tags starts : List Int) (hl : tags.length ≤ 1000000) (t : Int) :
    CALL 0 N.ref26_Start [.t m.e, .t (tL tags), .t (tL starts), I t] [] = some (.tup [.t (startBel m tags starts t).1.e, I (startBel m tags starts t).2], []) := by
  refine CALL_of K.t_ref26_Start rfl ?_
  have ck := check_ok h
  have pr := proper_ok tags hl
  unfold startBel
  by_cases c1 : tags.length = starts.length
  · by_cases c2 : tags.length < 1
    · simp (disch := omega) only [go_sem, K.ref26_Start, ↓reduceIte, ck, show ¬ (tags.length = starts.length ∧ 1 ≤ tags.length ∧ tags.length ≤ 12) by omega]
      rfl
    · by_cases c3 : 12 < tags.length
      · simp (disch := omega) only [go_sem, K.ref26_Start, ↓reduceIte, ck, show ¬ (tags.length = starts.length ∧ 1 ≤ tags.length ∧ tags.length ≤ 12) by omega]
        rfl
      · have c : tags.length = starts.length ∧ 1 ≤ tags.length ∧ tags.length ≤ 12 := by omega
        rw [if_pos c]
        clear c
        cases hp : properB tags with
        | false =>
          rw [hp] at pr
          simp (disch := omega) only [go_sem, K.ref26_Start, ↓reduceIte, ck, pr, Bool.false_eq_true]
          rfl
        | true =>
          rw [hp] at pr
          have loop : ∀ a b c d : D, exS CALL K.ref26_Start_l1 ⟨[a, .t (tL tags), .t (tL starts), I t, .bp 0 0, .bp 1 0, b, .bp 3 0, I 0, c, d], stH m tags .nil []⟩ =
              some (match (List.range tags.length).find? (fun i => !decide ((startF m (nth starts i) t).2 = 0)) with
                | some i => (.ret, ⟨[.und, .t (tL tags), .t (tL starts), I t, .bp 0 0, .bp 1 0, I (startF m (nth starts i) t).2, .bp 3 0, I i, .bp 6 0, I (startF m (nth starts i) t).2], stH m tags .nil (startWs m starts t i) ++ [.box [I (startF m (nth starts i) t).1.time, .t (tL (startF m (nth starts i) t).1.frm)]]⟩)
                | none => (.exit 0, ⟨[.und, .t (tL tags), .t (tL starts), I t, .bp 0 0, .bp 1 0, .und, .bp 3 0, I tags.length, .und, .und], stH m tags .nil (startWs m starts t tags.length)⟩)) := by
            intro a b c d
            refine loop_first (fun j => ⟨[.und, .t (tL tags), .t (tL starts), I t, .bp 0 0, .bp 1 0, .und, .bp 3 0, I j, .und, .und], stH m tags .nil (startWs m starts t j)⟩) tags.length _ _ _ rfl ?_ ?_ ?_ (by simp)
            · intro j hj hp
              have st := start_ok h (nth starts j) t
              have ln := startWs_len m starts t j
              have hp : (startF m (nth starts j) t).2 = 0 := by simpa using hp
              rw [startWs_succ]
              generalize startWs m starts t j = L at *
              generalize startF m (nth starts j) t = r at *
              obtain ⟨⟨time, frm⟩, e⟩ := r
              simp only at st hp ⊢
              subst hp
              simp (disch := omega) only [go_sem, K.ref26_Start_l1b, ↓reduceIte, stH, st, Nat.reduceAdd, Nat.reduceSub]
              done
            · intro j hj hp
              have st := start_ok h (nth starts j) t
              have ln := startWs_len m starts t j
              have hp : (startF m (nth starts j) t).2 ≠ 0 := by simpa using hp
              generalize startWs m starts t j = L at *
              generalize startF m (nth starts j) t = r at *
              obtain ⟨⟨time, frm⟩, e⟩ := r
              simp only at st hp ⊢
              refine ⟨?_, by simp⟩
              simp (disch := omega) only [go_sem, K.ref26_Start_l1b, ↓reduceIte, stH, st, Nat.reduceAdd, Nat.reduceSub]
              done
            · have ln := startWs_len m starts t tags.length
              generalize startWs m starts t tags.length = L at *
              simp (disch := omega) only [go_sem, K.ref26_Start_l1b, ↓reduceIte]
          simp only [stH, List.map_nil, List.length_nil] at loop
          simp (disch := omega) only [go_sem, K.ref26_Start, ↓reduceIte, ck, pr, loop]
          cases hf : (List.range tags.length).find? (fun i => !decide ((startF m (nth starts i) t).2 = 0)) with
          | some i => 
            simp (disch := omega) only [go_sem, ↓reduceIte]
            rfl
          | none =>
            have ln := startWs_len m starts t tags.length
            generalize startWs m starts t tags.length = L at *
            simp (disch := omega) only [go_sem, ↓reduceIte]
            rfl
  · simp (disch := omega) only [go_sem, K.ref26_Start, ↓reduceIte, ck, show ¬ (tags.length = starts.length ∧ 1 ≤ tags.length ∧ tags.length ≤ 12) by omega]
    rfl
end Go.Ev

namespace Go.Ev
open Go
variable [Lib] [Has1] [Has2]
@[go_sem] theorem allS_nil : ([] : List D).all scalarD = true := (rfl)
@[go_sem] theorem allS_cons (d : D) (r : List D) : (d :: r).all scalarD = (scalarD d && r.all scalarD) := (rfl)
@[go_sem] theorem scalarD_agg (cs : List T) : scalarD (.t (.agg cs)) = false := (rfl)
@[go_sem] theorem scalarD_sl (cs : List T) : scalarD (.t (.sl cs)) = false := (rfl)
@[go_sem] theorem scalarD_int (k : IntKind) (n : Int) : scalarD (.t (.int k n)) = true := (rfl)
@[go_sem] theorem scalarD_bool (b : Bool) : scalarD (.t (.bool b)) = true := (rfl)
@[go_sem] theorem set_wh (l : List Wh) (k : Nat) (a : Int) (b : List Int) : (List.map D.t (List.map Wh.e l)).set k (D.t (T.agg [tI a, tL b])) = List.map D.t (List.map Wh.e (l.set k ⟨a, b⟩)) := by
  rw [List.map_set, List.map_set]
def seeW (m : Mine) (tag : Int) (l : List Int) (a b : Int) (x : World) : Wh × Int := seeF m (nth x.whr (bearerF x.tags tag).toNat) l a b
def putW (tag : Int) (x : World) (w : Wh) : World := ⟨x.tags, x.whr.set (bearerF x.tags tag).toNat w⟩
def stepW (tag : Int) (r : Wh × Int) (x : World) (out : List World) : List World :=
  if r.2 = 43 then out else out ++ [if r.2 = 0 then putW tag x r.1 else x]
def seeNb (m : Mine) (tag : Int) (l : List Int) (a b : Int) (ws : List World) : Nat → List World
  | 0 => []
  | j + 1 => stepW tag (seeW m tag l a b (nth ws j)) (nth ws j) (seeNb m tag l a b ws j)
theorem stepW_len (tag : Int) (r : Wh × Int) (x : World) (out : List World) : (stepW tag r x out).length ≤ out.length + 1 := by
  unfold stepW; split <;> simp
theorem seeNb_len (m : Mine) (tag : Int) (l : List Int) (a b : Int) (ws : List World) : ∀ j, (seeNb m tag l a b ws j).length ≤ j
  | 0 => by simp [seeNb]
  | j + 1 => by
    have := seeNb_len m tag l a b ws j
    have := stepW_len tag (seeW m tag l a b (nth ws j)) (nth ws j) (seeNb m tag l a b ws j)
    simp only [seeNb]; omega
abbrev seeH (m : Mine) (ws out : List World) : Heap := [.box (mineCells m), .box [.t (.sl (ws.map World.e))], .box [.nil], .box [.ref 4 0 out.length], .arr 2 false 0 ((out.map World.e).map .t)]
theorem see_round {m : Mine} (h : m.ok) (ws : List World) (hw : ws.length ≤ 1000000) (tag : Int) (l : List Int) (hp : l.length ≤ 1000000) (a b : Int) (i : Nat) (hi : i < ws.length) (hs : (nth ws i).sz)
    (hb : 0 ≤ bearerF (nth ws i).tags tag) (hb2 : bearerF (nth ws i).tags tag < (nth ws i).whr.length) (out : List World) (ho : out.length ≤ 1000000) :
    ((seeW m tag l a b (nth ws i)).2 ≠ 6 ∧ (seeW m tag l a b (nth ws i)).2 ≠ 8 → roundC true [0, 1, 9, 10, 13, 14, 15, 16, 17, 18] 5 (exS CALL K.ref26_See_l1b ⟨[.und, .und, I tag, .t (tL l), I a, I b, .bp 0 0, .bp 1 0, .bp 2 0, .und, .und, .bp 3 0, I i, .und, .und, .und, .und, .und, .und], seeH m ws out⟩) =
      some ⟨[.und, .und, I tag, .t (tL l), I a, I b, .bp 0 0, .bp 1 0, .bp 2 0, .und, .und, .bp 3 0, I (i + 1), .und, .und, .und, .und, .und, .und], seeH m ws (stepW tag (seeW m tag l a b (nth ws i)) (nth ws i) out)⟩) ∧
    ((seeW m tag l a b (nth ws i)).2 = 6 ∨ (seeW m tag l a b (nth ws i)).2 = 8 → ∃ vs H, exS CALL K.ref26_See_l1b ⟨[.und, .und, I tag, .t (tL l), I a, I b, .bp 0 0, .bp 1 0, .bp 2 0, .und, .und, .bp 3 0, I i, .und, .und, .und, .und, .und, .und], seeH m ws out⟩ =
      some (.ret, ⟨vs, H⟩) ∧ vs[8]? = some (.bp 2 0) ∧ vs[9]? = some (I (seeW m tag l a b (nth ws i)).2) ∧ H[2]? = some (.box [.t (.sl (ws.map World.e))])) := by
  unfold seeW stepW putW
  have c1 := copyWorld_ok1 (nth ws i) hs
  have br := bearer_ok (nth ws i).tags tag (by have := hs.1; omega)
  have s3 := hs.2.2 _ (nth_mem (l := (nth ws i).whr) (j := (bearerF (nth ws i).tags tag).toNat) (by omega))
  have se := see_ok h (nth (nth ws i).whr (bearerF (nth ws i).tags tag).toNat) s3 l hp a b
  generalize hx : nth ws i = x at *
  obtain ⟨tags, whr⟩ := x
  simp only at c1 br s3 se hb hb2 ⊢
  generalize bearerF tags tag = k at *
  generalize hy : nth whr k.toNat = y at *
  generalize seeF m y l a b = r at *
  obtain ⟨⟨time, frm⟩, e⟩ := r
  obtain ⟨t0, f0⟩ := y
  obtain ⟨s1, s2, -⟩ := hs
  simp only at s1 s2 s3 se ⊢
  constructor
  · rintro ⟨n6, n8⟩
    by_cases e43 : e = 43
    · subst e43
      simp (disch := omega) only [go_sem, K.ref26_See_l1b, ↓reduceIte, seeH, hx, hy, c1, br, se, Nat.reduceAdd, Nat.reduceSub]
    · by_cases e0 : e = 0
      · subst e0
        simp (disch := omega) only [go_sem, K.ref26_See_l1b, ↓reduceIte, seeH, hx, hy, c1, br, se, Nat.reduceAdd, Nat.reduceSub]
      · simp (disch := omega) only [go_sem, K.ref26_See_l1b, ↓reduceIte, seeH, hx, hy, c1, br, se, Nat.reduceAdd, Nat.reduceSub]
  · rintro (h68 | h68) <;> subst h68
    · simp (disch := omega) only [go_sem, K.ref26_See_l1b, ↓reduceIte, seeH, hx, hy, c1, br, se, Nat.reduceAdd, Nat.reduceSub]
      exact ⟨_, _, rfl, rfl, rfl, rfl⟩
    · simp (disch := omega) only [go_sem, K.ref26_See_l1b, ↓reduceIte, seeH, hx, hy, c1, br, se, Nat.reduceAdd, Nat.reduceSub]
      exact ⟨_, _, rfl, rfl, rfl, rfl⟩
def seeBad (m : Mine) (tag : Int) (l : List Int) (a b : Int) (ws : List World) (j : Nat) : Bool := decide ((seeW m tag l a b (nth ws j)).2 = 6 ∨ (seeW m tag l a b (nth ws j)).2 = 8)
def seeBel (m : Mine) (b : Bel) (tag : Int) (l : List Int) (a c : Int) : Bel × Int :=
  if borneF m b tag ≠ 0 then (b, borneF m b tag) else match (List.range b.worlds.length).find? (seeBad m tag l a c b.worlds) with
    | some i => (b, (seeW m tag l a c (nth b.worlds i)).2)
    | none => if (seeNb m tag l a c b.worlds b.worlds.length).length = 0 then (b, 43) else (⟨seeNb m tag l a c b.worlds b.worlds.length⟩, 0)
theorem seeBel_ok {m : Mine} (h : m.ok) (b : Bel) (hs : b.sz) (tag : Int) (l : List Int) (hp : l.length ≤ 1000000) (a c : Int) :
    CALL 0 N.ref26_See [.t m.e, .t b.e, I tag, .t (tL l), I a, I c] [] = some (.tup [.t (seeBel m b tag l a c).1.e, I (seeBel m b tag l a c).2], []) := by
  refine CALL_of K.t_ref26_See rfl ?_
  have cb := copyBel_ok b hs
  have bo := borne_ok h b hs tag
  unfold seeBel
  by_cases e0 : borneF m b tag = 0
  · have hb : belB m b = true := by
      unfold borneF at e0
      by_cases hb : belB m b = true
      · exact hb
      · rw [if_pos (by simpa using hb)] at e0; omega
    have ht : 0 ≤ bearerF (nth b.worlds 0).tags tag := by
      unfold borneF at e0
      rw [if_neg (by simp [hb])] at e0
      by_cases ht : bearerF (nth b.worlds 0).tags tag < 0
      · rw [if_pos ht] at e0; omega
      · omega
    have bb : ∀ i, i < b.worlds.length → 0 ≤ bearerF (nth b.worlds i).tags tag ∧ bearerF (nth b.worlds i).tags tag < (nth b.worlds i).whr.length := fun i hi => by
      obtain ⟨-, -, -, -, h5⟩ := belB_spec hb
      obtain ⟨w1, w2, -⟩ := worldB_spec (h5 i hi)
      have b1 := belB_bearer hb ht (i := i) hi
      have b2 := (bearerF_lt b1).1
      exact ⟨b1, by omega⟩
    rw [e0] at bo
    obtain ⟨ws⟩ := b
    obtain ⟨s1, s2⟩ := hs
    simp only at s1 s2 bb cb bo ⊢
    have ln := seeNb_len m tag l a c ws
    have loop := fun x y z u v w p q r => loop_find (gc := true) (dead := [0, 1, 9, 10, 13, 14, 15, 16, 17, 18]) (c := K.ref26_See_l1b)
      (vs := [x, y, I tag, .t (tL l), I a, I c, .bp 0 0, .bp 1 0, .bp 2 0, z, u, .bp 3 0, I 0, v, w, p, q, r, .und]) (H := seeH m ws [])
      (fun j => ⟨[.und, .und, I tag, .t (tL l), I a, I c, .bp 0 0, .bp 1 0, .bp 2 0, .und, .und, .bp 3 0, I j, .und, .und, .und, .und, .und, .und], seeH m ws (seeNb m tag l a c ws j)⟩) ws.length (seeBad m tag l a c ws)
      (fun j q => q.1 = .ret ∧ q.2.vs[8]? = some (.bp 2 0) ∧ q.2.vs[9]? = some (I (seeW m tag l a c (nth ws j)).2) ∧ q.2.H[2]? = some (.box [.t (.sl (ws.map World.e))]))
      (.exit 0, ⟨[.und, .und, I tag, .t (tL l), I a, I c, .bp 0 0, .bp 1 0, .bp 2 0, .und, .und, .bp 3 0, I ws.length, .und, .und, .und, .und, .und, .und], seeH m ws (seeNb m tag l a c ws ws.length)⟩) rfl
      (fun j hj hq => by
        have := ln j
        have hq : ¬ ((seeW m tag l a c (nth ws j)).2 = 6 ∨ (seeW m tag l a c (nth ws j)).2 = 8) := by simpa [seeBad] using hq
        obtain ⟨b1, b2⟩ := bb j hj
        exact (see_round h ws s1 tag l hp a c j hj (s2 _ (nth_mem hj)) b1 b2 (seeNb m tag l a c ws j) (by omega)).1 (by omega))
      (fun j hj hq => by
        have := ln j
        have hq : (seeW m tag l a c (nth ws j)).2 = 6 ∨ (seeW m tag l a c (nth ws j)).2 = 8 := by simpa [seeBad] using hq
        obtain ⟨b1, b2⟩ := bb j hj
        obtain ⟨vs, H, q1, q2⟩ := (see_round h ws s1 tag l hp a c j hj (s2 _ (nth_mem hj)) b1 b2 (seeNb m tag l a c ws j) (by omega)).2 hq
        exact ⟨_, q1, by simp, rfl, q2⟩)
      (by
        have := ln ws.length
        generalize seeNb m tag l a c ws ws.length = L at *
        simp (disch := omega) only [go_sem, K.ref26_See_l1b, ↓reduceIte, seeH, Nat.reduceAdd, Nat.reduceSub]) (by simp)
    have loop' : ∀ x y z u v w p q r, _ ∨ _ := loop
    clear loop
    rcases loop' (.t m.e) (.t (Bel.e ⟨ws⟩)) (I 0) (I 0) .und .und .und .und .und with ⟨e1, e2⟩ | ⟨j, ⟨x, vs, H⟩, e1, e2, e3, e4, e5, e6⟩
    · have e2 : exS CALL K.ref26_See_l1 _ = _ := e2
      simp only [seeH, List.map_nil, List.length_nil] at e2
      have := ln ws.length
      rw [e1]
      generalize seeNb m tag l a c ws ws.length = L at *
      by_cases L0 : L.length = 0
      · simp (disch := omega) only [go_sem, K.ref26_See, ↓reduceIte, cb, bo, e2, L0, Nat.reduceAdd, Nat.reduceSub, ne_eq, not_true_eq_false]
      · simp (disch := omega) only [go_sem, K.ref26_See, ↓reduceIte, cb, bo, e2, L0, Nat.reduceAdd, Nat.reduceSub, ne_eq, not_true_eq_false]
    · have e2 : exS CALL K.ref26_See_l1 _ = _ := e2
      simp only [seeH, List.map_nil, List.length_nil] at e2
      rw [e1]
      simp only at e3 e4 e5 e6
      subst e3
      simp (disch := omega) only [go_sem, K.ref26_See, ↓reduceIte, cb, bo, e2, Nat.reduceAdd, Nat.reduceSub, ne_eq, not_true_eq_false, e4, e5, e6, List.take_zero]
  · obtain ⟨ws⟩ := b
    simp (disch := omega) only [go_sem, K.ref26_See, ↓reduceIte, cb, bo, e0, ne_eq, not_false_eq_true]
end Go.Ev

namespace Go.Ev
open Go
variable [Lib] [Has1] [Has2]
def absW (m : Mine) (tag : Int) (l : List Int) (a b bl : Int) (x : World) : Wh × Int := absF m (nth x.whr (bearerF x.tags tag).toNat) l a b bl
def stepA (tag : Int) (r : Wh × Int) (x : World) (out : List World) : List World := out ++ [if r.2 = 0 then putW tag x r.1 else x]
def absNb (m : Mine) (tag : Int) (l : List Int) (a b bl : Int) (ws : List World) : Nat → List World
  | 0 => []
  | j + 1 => stepA tag (absW m tag l a b bl (nth ws j)) (nth ws j) (absNb m tag l a b bl ws j)
theorem absNb_len (m : Mine) (tag : Int) (l : List Int) (a b bl : Int) (ws : List World) : ∀ j, (absNb m tag l a b bl ws j).length = j
  | 0 => rfl
  | j + 1 => by
    simp only [absNb, stepA, List.length_append, absNb_len m tag l a b bl ws j, List.length_singleton]
theorem abs_round {m : Mine} (h : m.ok) (ws : List World) (hw : ws.length ≤ 1000000) (tag : Int) (l : List Int) (hp : l.length ≤ 1000000) (a b bl : Int) (i : Nat) (hi : i < ws.length) (hs : (nth ws i).sz)
    (hb : 0 ≤ bearerF (nth ws i).tags tag) (hb2 : bearerF (nth ws i).tags tag < (nth ws i).whr.length) (out : List World) (ho : out.length ≤ 1000000) :
    ((absW m tag l a b bl (nth ws i)).2 ≠ 6 ∧ (absW m tag l a b bl (nth ws i)).2 ≠ 8 → roundC true [0, 1, 10, 11, 14, 15, 16, 17] 5 (exS CALL K.ref26_Absent_l1b ⟨[.und, .und, I tag, .t (tL l), I a, I b, I bl, .bp 0 0, .bp 1 0, .bp 2 0, .und, .und, .bp 3 0, I i, .und, .und, .und, .und], seeH m ws out⟩) =
      some ⟨[.und, .und, I tag, .t (tL l), I a, I b, I bl, .bp 0 0, .bp 1 0, .bp 2 0, .und, .und, .bp 3 0, I (i + 1), .und, .und, .und, .und], seeH m ws (stepA tag (absW m tag l a b bl (nth ws i)) (nth ws i) out)⟩) ∧
    ((absW m tag l a b bl (nth ws i)).2 = 6 ∨ (absW m tag l a b bl (nth ws i)).2 = 8 → ∃ vs H, exS CALL K.ref26_Absent_l1b ⟨[.und, .und, I tag, .t (tL l), I a, I b, I bl, .bp 0 0, .bp 1 0, .bp 2 0, .und, .und, .bp 3 0, I i, .und, .und, .und, .und], seeH m ws out⟩ =
      some (.ret, ⟨vs, H⟩) ∧ vs[9]? = some (.bp 2 0) ∧ vs[10]? = some (I (absW m tag l a b bl (nth ws i)).2) ∧ H[2]? = some (.box [.t (.sl (ws.map World.e))])) := by
  unfold absW stepA putW
  have c1 := copyWorld_ok1 (nth ws i) hs
  have br := bearer_ok (nth ws i).tags tag (by have := hs.1; omega)
  have s3 := hs.2.2 _ (nth_mem (l := (nth ws i).whr) (j := (bearerF (nth ws i).tags tag).toNat) (by omega))
  have se := abs_ok h (nth (nth ws i).whr (bearerF (nth ws i).tags tag).toNat) s3 l hp a b bl
  generalize hx : nth ws i = x at *
  obtain ⟨tags, whr⟩ := x
  simp only at c1 br s3 se hb hb2 ⊢
  generalize bearerF tags tag = k at *
  generalize hy : nth whr k.toNat = y at *
  generalize absF m y l a b bl = r at *
  obtain ⟨⟨time, frm⟩, e⟩ := r
  obtain ⟨t0, f0⟩ := y
  obtain ⟨s1, s2, -⟩ := hs
  simp only at s1 s2 s3 se ⊢
  constructor
  · rintro ⟨n6, n8⟩
    by_cases e0 : e = 0
    · subst e0
      simp (disch := omega) only [go_sem, K.ref26_Absent_l1b, ↓reduceIte, seeH, hx, hy, c1, br, se, Nat.reduceAdd, Nat.reduceSub]
    · simp (disch := omega) only [go_sem, K.ref26_Absent_l1b, ↓reduceIte, seeH, hx, hy, c1, br, se, Nat.reduceAdd, Nat.reduceSub]
  · rintro (h68 | h68) <;> subst h68
    · simp (disch := omega) only [go_sem, K.ref26_Absent_l1b, ↓reduceIte, seeH, hx, hy, c1, br, se, Nat.reduceAdd, Nat.reduceSub]
      exact ⟨_, _, rfl, rfl, rfl, rfl⟩
    · simp (disch := omega) only [go_sem, K.ref26_Absent_l1b, ↓reduceIte, seeH, hx, hy, c1, br, se, Nat.reduceAdd, Nat.reduceSub]
      exact ⟨_, _, rfl, rfl, rfl, rfl⟩
def absBad (m : Mine) (tag : Int) (l : List Int) (a b bl : Int) (ws : List World) (j : Nat) : Bool := decide ((absW m tag l a b bl (nth ws j)).2 = 6 ∨ (absW m tag l a b bl (nth ws j)).2 = 8)
def absBel (m : Mine) (b : Bel) (tag : Int) (l : List Int) (a c bl : Int) : Bel × Int :=
  if borneF m b tag ≠ 0 then (b, borneF m b tag) else match (List.range b.worlds.length).find? (absBad m tag l a c bl b.worlds) with
    | some i => (b, (absW m tag l a c bl (nth b.worlds i)).2)
    | none => (⟨absNb m tag l a c bl b.worlds b.worlds.length⟩, 0)
theorem borne_0 {m : Mine} {b : Bel} {tag : Int} (e0 : borneF m b tag = 0) : belB m b = true ∧ ∀ i, i < b.worlds.length → 0 ≤ bearerF (nth b.worlds i).tags tag ∧ bearerF (nth b.worlds i).tags tag < (nth b.worlds i).whr.length := by
  have hb : belB m b = true := by
    unfold borneF at e0
    by_cases hb : belB m b = true
    · exact hb
    · rw [if_pos (by simpa using hb)] at e0; omega
  have ht : 0 ≤ bearerF (nth b.worlds 0).tags tag := by
    unfold borneF at e0
    rw [if_neg (by simp [hb])] at e0
    by_cases ht : bearerF (nth b.worlds 0).tags tag < 0
    · rw [if_pos ht] at e0; omega
    · omega
  refine ⟨hb, fun i hi => ?_⟩
  obtain ⟨-, -, -, -, h5⟩ := belB_spec hb
  obtain ⟨w1, w2, -⟩ := worldB_spec (h5 i hi)
  have b1 := belB_bearer hb ht (i := i) hi
  have b2 := (bearerF_lt b1).1
  exact ⟨b1, by omega⟩
theorem absBel_ok {m : Mine} (h : m.ok) (b : Bel) (hs : b.sz) (tag : Int) (l : List Int) (hp : l.length ≤ 1000000) (a c bl : Int) :
    CALL 0 N.ref26_Absent [.t m.e, .t b.e, I tag, .t (tL l), I a, I c, I bl] [] = some (.tup [.t (absBel m b tag l a c bl).1.e, I (absBel m b tag l a c bl).2], []) := by
  refine CALL_of K.t_ref26_Absent rfl ?_
  have cb := copyBel_ok b hs
  have bo := borne_ok h b hs tag
  unfold absBel
  by_cases e0 : borneF m b tag = 0
  · obtain ⟨hb, bb⟩ := borne_0 e0
    rw [e0] at bo
    obtain ⟨ws⟩ := b
    obtain ⟨s1, s2⟩ := hs
    simp only at s1 s2 bb cb bo ⊢
    have ln := absNb_len m tag l a c bl ws
    have loop := fun x y u v w p q r => loop_find (gc := true) (dead := [0, 1, 10, 11, 14, 15, 16, 17]) (c := K.ref26_Absent_l1b)
      (vs := [x, y, I tag, .t (tL l), I a, I c, I bl, .bp 0 0, .bp 1 0, .bp 2 0, u, v, .bp 3 0, I 0, w, p, q, r]) (H := seeH m ws [])
      (fun j => ⟨[.und, .und, I tag, .t (tL l), I a, I c, I bl, .bp 0 0, .bp 1 0, .bp 2 0, .und, .und, .bp 3 0, I j, .und, .und, .und, .und], seeH m ws (absNb m tag l a c bl ws j)⟩) ws.length (absBad m tag l a c bl ws)
      (fun j q => q.1 = .ret ∧ q.2.vs[9]? = some (.bp 2 0) ∧ q.2.vs[10]? = some (I (absW m tag l a c bl (nth ws j)).2) ∧ q.2.H[2]? = some (.box [.t (.sl (ws.map World.e))]))
      (.exit 0, ⟨[.und, .und, I tag, .t (tL l), I a, I c, I bl, .bp 0 0, .bp 1 0, .bp 2 0, .und, .und, .bp 3 0, I ws.length, .und, .und, .und, .und], seeH m ws (absNb m tag l a c bl ws ws.length)⟩) rfl
      (fun j hj hq => by
        have := ln j
        have hq : ¬ ((absW m tag l a c bl (nth ws j)).2 = 6 ∨ (absW m tag l a c bl (nth ws j)).2 = 8) := by simpa [absBad] using hq
        obtain ⟨b1, b2⟩ := bb j hj
        exact (abs_round h ws s1 tag l hp a c bl j hj (s2 _ (nth_mem hj)) b1 b2 (absNb m tag l a c bl ws j) (by omega)).1 (by omega))
      (fun j hj hq => by
        have := ln j
        have hq : (absW m tag l a c bl (nth ws j)).2 = 6 ∨ (absW m tag l a c bl (nth ws j)).2 = 8 := by simpa [absBad] using hq
        obtain ⟨b1, b2⟩ := bb j hj
        obtain ⟨vs, H, q1, q2⟩ := (abs_round h ws s1 tag l hp a c bl j hj (s2 _ (nth_mem hj)) b1 b2 (absNb m tag l a c bl ws j) (by omega)).2 hq
        exact ⟨_, q1, by simp, rfl, q2⟩)
      (by
        have := ln ws.length
        generalize absNb m tag l a c bl ws ws.length = L at *
        simp (disch := omega) only [go_sem, K.ref26_Absent_l1b, ↓reduceIte, seeH, Nat.reduceAdd, Nat.reduceSub]) (by simp)
    rcases loop (.t m.e) (.t (Bel.e ⟨ws⟩)) (I 0) (I 0) .und .und .und .und with ⟨e1, e2⟩ | ⟨j, ⟨x, vs, H⟩, e1, e2, e3, e4, e5, e6⟩
    · have e2 : exS CALL K.ref26_Absent_l1 _ = _ := e2
      simp only [seeH, List.map_nil, List.length_nil] at e2
      have := ln ws.length
      rw [e1]
      generalize absNb m tag l a c bl ws ws.length = L at *
      simp (disch := omega) only [go_sem, K.ref26_Absent, ↓reduceIte, cb, bo, e2, Nat.reduceAdd, Nat.reduceSub, ne_eq, not_true_eq_false]
    · have e2 : exS CALL K.ref26_Absent_l1 _ = _ := e2
      simp only [seeH, List.map_nil, List.length_nil] at e2
      rw [e1]
      simp only at e3 e4 e5 e6
      subst e3
      simp (disch := omega) only [go_sem, K.ref26_Absent, ↓reduceIte, cb, bo, e2, Nat.reduceAdd, Nat.reduceSub, ne_eq, not_true_eq_false, e4, e5, e6, List.take_zero]
  · obtain ⟨ws⟩ := b
    simp (disch := omega) only [go_sem, K.ref26_Absent, ↓reduceIte, cb, bo, e0, ne_eq, not_false_eq_true]
end Go.Ev

namespace Go.Ev
open Go
variable [Lib] [Has1] [Has2]
theorem loop_inv {gc : Bool} {dead : List Nat} {c : C} {vs : List D} {H : Heap} (P : Nat → St → Prop) (n : Nat) (Q : Ex × St → Prop) (h0 : P 0 ⟨dropV dead vs, H⟩)
    (hs : ∀ j st, j < n → P j st → ∃ st', roundC gc dead st.H.length (exS CALL c st) = some st' ∧ P (j + 1) st')
    (he : ∀ st, P n st → ∃ q, exS CALL c st = some q ∧ q.1 ≠ .normal ∧ Q q) : ∃ q, exS CALL (.loop gc dead c) ⟨vs, H⟩ = some q ∧ Q q := by
  have key : ∀ (k j : Nat) (st : St), j + k = n → P j st → ∃ q, loopC gc dead (exS CALL c) st = some q ∧ Q q := by
    intro k
    induction k with
    | zero =>
      intro j st hj hp
      obtain ⟨q, h1, h2, h3⟩ := he st (by rw [← hj]; exact hp)
      exact ⟨q, loopC_exit h1 h2, h3⟩
    | succ k ih =>
      intro j st hj hp
      obtain ⟨st', h1, h2⟩ := hs j st (by omega) hp
      obtain ⟨q, h3, h4⟩ := ih (j + 1) st' (by omega) h2
      exact ⟨q, loopC_step h1 h3, h4⟩
  exact key n 0 _ (by omega) h0
abbrev ints (l : List Int) : List D := (l.map (T.int .i64)).map .t
abbrev whs (l : List Wh) : List D := (l.map Wh.e).map .t
def tidyK (out : List World) (x : World) : Nat := match (List.range out.length).find? (fun k => !lessB (nth out k).tags x.tags) with
  | some k => k
  | none => out.length
theorem tidyK_le (out : List World) (x : World) : tidyK out x ≤ out.length := by
  unfold tidyK
  split
  · rename_i k h; exact Nat.le_of_lt (find_lt h).1
  · exact Nat.le_refl _
def joinN (a b : List Wh) : Nat → List Wh
  | 0 => a
  | p + 1 => (joinN a b p).set p (joinF (nth a p) (nth b p)).1
theorem joinN_len (a b : List Wh) : ∀ p, (joinN a b p).length = a.length
  | 0 => rfl
  | p + 1 => by simp only [joinN, List.length_set, joinN_len a b p]
theorem joinN_nth (a b : List Wh) : ∀ p q, p ≤ q → nth (joinN a b p) q = nth a q
  | 0, q, _ => rfl
  | p + 1, q, h => by
    have e : nth ((joinN a b p).set p (joinF (nth a p) (nth b p)).1) q = nth (joinN a b p) q := by
      unfold nth; rw [List.getD_eq_getElem?_getD, List.getElem?_set_ne (by omega), ← List.getD_eq_getElem?_getD]
    simp only [joinN, e]
    exact joinN_nth a b p q (by omega)
def joinWs (a b : List Wh) : List Wh := joinN a b (min a.length b.length)
def tidy1 (out : List World) (x : World) : List World :=
  if tidyK out x < out.length ∧ (nth out (tidyK out x)).tags = x.tags then out.set (tidyK out x) ⟨x.tags, joinWs (nth out (tidyK out x)).whr x.whr⟩
  else out.take (tidyK out x) ++ [x] ++ out.drop (tidyK out x)
def tidyN (l : List World) : Nat → List World
  | 0 => []
  | j + 1 => tidy1 (tidyN l j) (nth l j)
def tidyF (l : List World) : List World := tidyN l l.length
structure Rp (H : Heap) (id : Nat) (es : List D) (fa fb : Nat → Nat) (out : List World) : Prop where
  arr : H[id]? = some (.arr 2 false 0 es)
  len : es.length = out.length
  el : ∀ j, j < out.length → es[j]? = some (.agg [.ref (fa j) 0 (nth out j).tags.length, .ref (fb j) 0 (nth out j).whr.length])
  ha : ∀ j, j < out.length → H[fa j]? = some (.arr 1 false 0 (ints (nth out j).tags))
  hb : ∀ j, j < out.length → H[fb j]? = some (.arr 2 false 0 (whs (nth out j).whr))
  na : ∀ j, j < out.length → fa j ≠ id
  nb : ∀ j, j < out.length → fb j ≠ id
  nab : ∀ i j, i < out.length → j < out.length → fa i ≠ fb j
  nbb : ∀ i j, i < out.length → j < out.length → i ≠ j → fb i ≠ fb j
def Rep (H : Heap) (v : D) (out : List World) : Prop := (v = .nil ∧ out = []) ∨ ∃ id es fa fb, v = .ref id 0 out.length ∧ 0 < out.length ∧ Rp H id es fa fb out
theorem tidy_l2 (l : List World) (i : Nat) (hi : i < l.length) (out : List World) (ho : out.length ≤ 1000000) (hso : ∀ x ∈ out, x.sz) (hsx : (nth l i).sz) (H : Heap) (v : D) (hr : Rep H v out) (a b : D) :
    exS CALL K.ref26_Tidy_l2 ⟨[.t (.sl (l.map World.e)), a, v, I i, I 0, b], H⟩ = some (.exit 2, ⟨[.t (.sl (l.map World.e)), .und, v, I i, I (tidyK out (nth l i)), .und], H⟩) := by
  rcases hr with ⟨rfl, rfl⟩ | ⟨id, es, fa, fb, rfl, h0, hr⟩
  · have : tidyK [] (nth l i) = 0 := rfl
    rw [this]
    refine loop_is (loopC_exit ?_ (by simp))
    simp (disch := omega) only [go_sem, K.ref26_Tidy_l2b, ↓reduceIte, Nat.reduceAdd, Nat.reduceSub]
  · have key : exS CALL K.ref26_Tidy_l2 ⟨[.t (.sl (l.map World.e)), a, .ref id 0 out.length, I i, I 0, b], H⟩ = some (match (List.range out.length).find? (fun k => !lessB (nth out k).tags (nth l i).tags) with
        | some k => (.exit 2, ⟨[.t (.sl (l.map World.e)), .und, .ref id 0 out.length, I i, I k, .und], H⟩)
        | none => (.exit 2, ⟨[.t (.sl (l.map World.e)), .und, .ref id 0 out.length, I i, I out.length, .und], H⟩)) := by
      refine loop_first (fun k => ⟨[.t (.sl (l.map World.e)), .und, .ref id 0 out.length, I i, I k, .und], H⟩) out.length _ _ _ rfl ?_ ?_ ?_ (by simp)
      · intro k hk hp
        have hp : lessB (nth out k).tags (nth l i).tags = true := by simpa using hp
        have s1 := (hso _ (nth_mem hk)).1
        have s2 := hsx.1
        have ls := less_ok (nth out k).tags (nth l i).tags s1 s2
        have e1 := hr.arr
        have e2 := hr.len
        have e3 := hr.el k hk
        have e4 := hr.ha k hk
        generalize nth out k = y at *
        obtain ⟨ta, wa⟩ := y
        generalize hx : nth l i = x at *
        obtain ⟨tb, wb⟩ := x
        simp only at s1 s2 ls e3 e4 hp
        simp (disch := omega) only [go_sem, K.ref26_Tidy_l2b, ↓reduceIte, Nat.reduceAdd, Nat.reduceSub, e1, e2, e3, e4, hx, ls, hp]
        done
      · intro k hk hp
        have hp : lessB (nth out k).tags (nth l i).tags = false := by simpa using hp
        have s1 := (hso _ (nth_mem hk)).1
        have s2 := hsx.1
        have ls := less_ok (nth out k).tags (nth l i).tags s1 s2
        have e1 := hr.arr
        have e2 := hr.len
        have e3 := hr.el k hk
        have e4 := hr.ha k hk
        generalize nth out k = y at *
        obtain ⟨ta, wa⟩ := y
        generalize hx : nth l i = x at *
        obtain ⟨tb, wb⟩ := x
        simp only at s1 s2 ls e3 e4 hp
        refine ⟨?_, by simp⟩
        simp (disch := omega) only [go_sem, K.ref26_Tidy_l2b, ↓reduceIte, Nat.reduceAdd, Nat.reduceSub, e1, e2, e3, e4, hx, ls, hp]
        done
      · simp (disch := omega) only [go_sem, K.ref26_Tidy_l2b, ↓reduceIte, Nat.reduceAdd, Nat.reduceSub]
    rw [key]
    unfold tidyK
    cases (List.range out.length).find? (fun k => !lessB (nth out k).tags (nth l i).tags) <;> rfl
@[go_sem] theorem joinT_eq (a b : Wh) : (joinF a b).1.e = .agg [tI (joinF a b).1.time, tL (joinF a b).1.frm] := rfl
theorem tidy_l3 (l : List World) (i : Nat) (hi : i < l.length) (out : List World) (ho : out.length ≤ 1000000) (hso : ∀ x ∈ out, x.sz) (hsx : (nth l i).sz) (H : Heap) (id : Nat) (es : List D) (fa fb : Nat → Nat)
    (hr : Rp H id es fa fb out) (k : Nat) (hk : k < out.length) (a : D) :
    exS CALL K.ref26_Tidy_l3 ⟨[.t (.sl (l.map World.e)), a, .ref id 0 out.length, I i, I k, I 0], H⟩ =
    some (.exit 4, ⟨[.t (.sl (l.map World.e)), .und, .ref id 0 out.length, I i, I k, I ((min (nth out k).whr.length (nth l i).whr.length : Nat) : Int)], H.set (fb k) (.arr 2 false 0 (whs (joinWs (nth out k).whr (nth l i).whr)))⟩) := by
  have e1 := hr.arr
  have e2 := hr.len
  have e3 := hr.el k hk
  have e5 := hr.hb k hk
  have e6 := hr.nb k hk
  have e7 := hp_lt e5
  obtain ⟨s1, s2, s3⟩ := hso _ (nth_mem hk)
  obtain ⟨x1, x2, x3⟩ := hsx
  generalize nth out k = y at *
  obtain ⟨ta, wa⟩ := y
  generalize hx : nth l i = x at *
  obtain ⟨tb, wb⟩ := x
  simp only at s1 s2 s3 x1 x2 x3 e3 e5 ⊢
  have jl := joinN_len wa wb
  have q1 : ∀ o, (H.set (fb k) o)[id]? = H[id]? := fun o => hp_set_ne e6
  have q2 : ∀ o, (H.set (fb k) o)[fb k]? = some o := fun o => hp_set_get e7
  refine loop_up (fun p => ⟨[.t (.sl (l.map World.e)), .und, .ref id 0 out.length, I i, I k, I p], H.set (fb k) (.arr 2 false 0 (whs (joinN wa wb p)))⟩) (min wa.length wb.length) ?_ ?_ ?_ (by simp)
  · show (⟨_, H⟩ : St) = ⟨_, H.set (fb k) (.arr 2 false 0 (whs wa))⟩
    rw [set_self e5]; rfl
  · intro p hp
    have jp := jl p
    have jn := joinN_nth wa wb p p (Nat.le_refl _)
    have jo := join_ok (nth wa p) (nth wb p) (s3 _ (nth_mem (by omega)))
    have hj : joinN wa wb (p + 1) = (joinN wa wb p).set p (joinF (nth wa p) (nth wb p)).1 := rfl
    rw [hj]
    generalize joinN wa wb p = J at *
    generalize hu : nth wb p = u at *
    generalize nth wa p = w at *
    generalize joinF w u = r at *
    obtain ⟨⟨rt, rf⟩, re⟩ := r
    simp only at jo ⊢
    simp (disch := omega) only [go_sem, K.ref26_Tidy_l3b, ↓reduceIte, Nat.reduceAdd, Nat.reduceSub, q1, q2, e1, e2, e3, hp_set_set, hx, hu, jn, jo]
  · have jp := jl (min wa.length wb.length)
    have hj : joinWs wa wb = joinN wa wb (min wa.length wb.length) := rfl
    rw [hj]
    generalize joinN wa wb (min wa.length wb.length) = J at *
    by_cases c : wa.length ≤ wb.length
    · simp (disch := omega) only [go_sem, K.ref26_Tidy_l3b, ↓reduceIte, Nat.reduceAdd, Nat.reduceSub, q1, q2, e1, e2, e3, hp_set_set, hx, Nat.min_eq_left c]
    · have hm : min wa.length wb.length = wb.length := by omega
      simp (disch := omega) only [go_sem, K.ref26_Tidy_l3b, ↓reduceIte, Nat.reduceAdd, Nat.reduceSub, q1, q2, e1, e2, e3, hp_set_set, hx, hm]
theorem headSize_all {sz : Nat} {l : List D} (h : ∀ e ∈ l, e.cells.length = sz) : headSize sz l = true := by
  cases l with
  | nil => rfl
  | cons d r => rw [headSize_cons, lenIs_iff]; exact h d List.mem_cons_self
theorem Rp.size {H : Heap} {id : Nat} {es : List D} {fa fb : Nat → Nat} {out : List World} (hr : Rp H id es fa fb out) : ∀ e ∈ es, e.cells.length = 2 := by
  intro e he
  obtain ⟨j, hj⟩ := List.mem_iff_getElem?.1 he
  have hl := (List.getElem?_eq_some_iff.1 hj).1
  rw [hr.el j (by rw [← hr.len]; exact hl)] at hj
  cases hj; rfl
theorem ins_get {α : Type} (l : List α) (k : Nat) (hk : k ≤ l.length) (x : α) (j : Nat) : (l.take k ++ [x] ++ l.drop k)[j]? = if j < k then l[j]? else if j = k then some x else l[j - 1]? := by
  have hl : (l.take k).length = k := by rw [List.length_take]; omega
  rw [List.append_assoc]
  by_cases h1 : j < k
  · rw [if_pos h1, List.getElem?_append_left (by omega), List.getElem?_take_of_lt h1]
  · rw [if_neg h1, List.getElem?_append_right (by omega), hl]
    by_cases h2 : j = k
    · rw [if_pos h2, h2, Nat.sub_self]; rfl
    · rw [if_neg h2, List.getElem?_append_right (by simp; omega)]
      simp only [List.length_singleton, List.getElem?_drop]
      congr 1; omega
theorem ins_nth {α : Type} [Dat α] (l : List α) (k : Nat) (hk : k ≤ l.length) (x : α) (j : Nat) : nth (l.take k ++ [x] ++ l.drop k) j = if j < k then nth l j else if j = k then x else nth l (j - 1) := by
  unfold nth
  rw [List.getD_eq_getElem?_getD, ins_get l k hk]
  split
  · rw [List.getD_eq_getElem?_getD]
  · split
    · rfl
    · rw [List.getD_eq_getElem?_getD]
theorem set_nth {α : Type} [Dat α] (l : List α) (k : Nat) (hk : k < l.length) (x : α) (j : Nat) : nth (l.set k x) j = if j = k then x else nth l j := by
  unfold nth
  rw [List.getD_eq_getElem?_getD]
  by_cases h : j = k
  · rw [if_pos h, h, List.getElem?_set_self hk]; rfl
  · rw [if_neg h, List.getElem?_set_ne (fun e => h e.symm), List.getD_eq_getElem?_getD]
theorem Rp.ins {H : Heap} {id : Nat} {es : List D} {fa fb : Nat → Nat} {out : List World} (hr : Rp H id es fa fb out) {k : Nat} (hk : k ≤ out.length) (x : World) (o : Obj) :
    Rp (H ++ [.arr 2 false 0 (es.take k ++ [.agg [.ref (H.length + 1) 0 x.tags.length, .ref (H.length + 2) 0 x.whr.length]] ++ es.drop k), .arr 1 false 0 (ints x.tags), .arr 2 false 0 (whs x.whr), o]) H.length
      (es.take k ++ [.agg [.ref (H.length + 1) 0 x.tags.length, .ref (H.length + 2) 0 x.whr.length]] ++ es.drop k)
      (fun j => if j < k then fa j else if j = k then H.length + 1 else fa (j - 1)) (fun j => if j < k then fb j else if j = k then H.length + 2 else fb (j - 1)) (out.take k ++ [x] ++ out.drop k) := by
  have ol : (out.take k ++ [x] ++ out.drop k).length = out.length + 1 := by
    rw [List.length_append, List.length_append, List.length_take, List.length_drop, List.length_singleton]; omega
  have e2 := hr.len
  have ba : ∀ j, j < out.length → fa j < H.length := fun j hj => hp_lt (hr.ha j hj)
  have bb : ∀ j, j < out.length → fb j < H.length := fun j hj => hp_lt (hr.hb j hj)
  refine ⟨hp_get_len, ?_, ?_, ?_, ?_, ?_, ?_, ?_, ?_⟩
  · rw [ol, List.length_append, List.length_append, List.length_take, List.length_drop, List.length_singleton]; omega
  · intro j hj
    rw [ol] at hj
    simp only [ins_get es k (by omega), ins_nth out k hk]
    by_cases h1 : j < k
    · simp only [if_pos h1]; exact hr.el j (by omega)
    · by_cases h2 : j = k
      · simp only [if_neg h1, if_pos h2]
      · simp only [if_neg h1, if_neg h2]; exact hr.el (j - 1) (by omega)
  · intro j hj
    rw [ol] at hj
    simp only [ins_nth out k hk]
    by_cases h1 : j < k
    · simp only [if_pos h1]; rw [hp_get (ba j (by omega))]; exact hr.ha j (by omega)
    · by_cases h2 : j = k
      · simp only [if_neg h1, if_pos h2]; rw [hp_get_add]; rfl
      · simp only [if_neg h1, if_neg h2]; rw [hp_get (ba (j - 1) (by omega))]; exact hr.ha (j - 1) (by omega)
  · intro j hj
    rw [ol] at hj
    simp only [ins_nth out k hk]
    by_cases h1 : j < k
    · simp only [if_pos h1]; rw [hp_get (bb j (by omega))]; exact hr.hb j (by omega)
    · by_cases h2 : j = k
      · simp only [if_neg h1, if_pos h2]; rw [hp_get_add]; rfl
      · simp only [if_neg h1, if_neg h2]; rw [hp_get (bb (j - 1) (by omega))]; exact hr.hb (j - 1) (by omega)
  · intro j hj
    rw [ol] at hj
    have b1 := ba j
    have b2 := ba (j - 1)
    split
    · have := b1 (by omega); omega
    · split
      · omega
      · have := b2 (by omega); omega
  · intro j hj
    rw [ol] at hj
    have b1 := bb j
    have b2 := bb (j - 1)
    split
    · have := b1 (by omega); omega
    · split
      · omega
      · have := b2 (by omega); omega
  · intro i j hi hj
    rw [ol] at hi hj
    have a1 := ba i
    have a2 := ba (i - 1)
    have b1 := bb j
    have b2 := bb (j - 1)
    by_cases h1 : i < k
    · rw [if_pos h1]
      have := a1 (by omega)
      by_cases h2 : j < k
      · rw [if_pos h2]; exact hr.nab i j (by omega) (by omega)
      · rw [if_neg h2]
        by_cases h3 : j = k
        · rw [if_pos h3]; omega
        · rw [if_neg h3]; exact hr.nab i (j - 1) (by omega) (by omega)
    · rw [if_neg h1]
      by_cases h4 : i = k
      · rw [if_pos h4]
        split
        · have := b1 (by omega); omega
        · split
          · omega
          · have := b2 (by omega); omega
      · rw [if_neg h4]
        have := a2 (by omega)
        by_cases h2 : j < k
        · rw [if_pos h2]; exact hr.nab (i - 1) j (by omega) (by omega)
        · rw [if_neg h2]
          by_cases h3 : j = k
          · rw [if_pos h3]; omega
          · rw [if_neg h3]; exact hr.nab (i - 1) (j - 1) (by omega) (by omega)
  · intro i j hi hj hne
    rw [ol] at hi hj
    have a1 := bb i
    have a2 := bb (i - 1)
    have b1 := bb j
    have b2 := bb (j - 1)
    by_cases h1 : i < k
    · rw [if_pos h1]
      have := a1 (by omega)
      by_cases h2 : j < k
      · rw [if_pos h2]; exact hr.nbb i j (by omega) (by omega) hne
      · rw [if_neg h2]
        by_cases h3 : j = k
        · rw [if_pos h3]; omega
        · rw [if_neg h3]; exact hr.nbb i (j - 1) (by omega) (by omega) (by omega)
    · rw [if_neg h1]
      by_cases h4 : i = k
      · rw [if_pos h4]
        split
        · have := b1 (by omega); omega
        · split
          · omega
          · have := b2 (by omega); omega
      · rw [if_neg h4]
        have := a2 (by omega)
        by_cases h2 : j < k
        · rw [if_pos h2]; exact hr.nbb (i - 1) j (by omega) (by omega) (by omega)
        · rw [if_neg h2]
          by_cases h3 : j = k
          · rw [if_pos h3]; omega
          · rw [if_neg h3]; exact hr.nbb (i - 1) (j - 1) (by omega) (by omega) (by omega)
theorem Rp.merge {H : Heap} {id : Nat} {es : List D} {fa fb : Nat → Nat} {out : List World} (hr : Rp H id es fa fb out) {k : Nat} (hk : k < out.length) (x : World) (ht : (nth out k).tags = x.tags) (hw : x.whr.length = (nth out k).whr.length) :
    Rp (H.set (fb k) (.arr 2 false 0 (whs x.whr))) id es fa fb (out.set k x) := by
  have ol : (out.set k x).length = out.length := List.length_set
  have nk := hr.nb k hk
  have kl := hp_lt (hr.hb k hk)
  refine ⟨by rw [hp_set_ne nk]; exact hr.arr, by rw [ol]; exact hr.len, ?_, ?_, ?_, by rw [ol]; exact hr.na, by rw [ol]; exact hr.nb, by rw [ol]; exact hr.nab, by rw [ol]; exact hr.nbb⟩
  · intro j hj
    rw [ol] at hj
    rw [hr.el j hj, set_nth out k hk]
    by_cases h : j = k
    · rw [if_pos h, h, ht, hw]
    · rw [if_neg h]
  · intro j hj
    rw [ol] at hj
    rw [hp_set_ne (fun e => hr.nab j k hj hk e.symm), hr.ha j hj, set_nth out k hk]
    by_cases h : j = k
    · rw [if_pos h, h, ht]
    · rw [if_neg h]
  · intro j hj
    rw [ol] at hj
    rw [set_nth out k hk]
    by_cases h : j = k
    · rw [if_pos h, h, hp_set_get kl]
    · rw [if_neg h, hp_set_ne (fun e => hr.nbb j k hj hk h e.symm)]; exact hr.hb j hj
theorem tidy_round (l : List World) (i : Nat) (hi : i < l.length) (hl : l.length ≤ 1000000) (out : List World) (ho : out.length ≤ 999999) (hso : ∀ x ∈ out, x.sz) (hsx : (nth l i).sz) (H : Heap) (v : D) (hr : Rep H v out) :
    ∃ v' H', roundC false [1, 4, 5] H.length (exS CALL K.ref26_Tidy_l1b ⟨[.t (.sl (l.map World.e)), .und, v, I i, .und, .und], H⟩) = some ⟨[.t (.sl (l.map World.e)), .und, v', I (i + 1), .und, .und], H'⟩ ∧ Rep H' v' (tidy1 out (nth l i)) := by
  have l2 := tidy_l2 l i hi out (by omega) hso hsx H v hr
  have kl := tidyK_le out (nth l i)
  have cw := copyWorld_ok1 (nth l i) hsx
  rcases hr with ⟨rfl, rfl⟩ | ⟨id, es, fa, fb, rfl, h0, hr⟩
  · have k0 : tidyK [] (nth l i) = 0 := rfl
    rw [k0] at l2
    have t1 : tidy1 [] (nth l i) = [nth l i] := rfl
    rw [t1]
    generalize hx : nth l i = x at *
    obtain ⟨tb, wb⟩ := x
    simp only at cw
    have run : roundC false [1, 4, 5] H.length (exS CALL K.ref26_Tidy_l1b ⟨[.t (.sl (l.map World.e)), .und, .nil, I i, .und, .und], H⟩) =
        some ⟨[.t (.sl (l.map World.e)), .und, .ref H.length 0 1, I (i + 1), .und, .und], H ++ [.arr 2 false 0 [.agg [.ref (H.length + 1) 0 tb.length, .ref (H.length + 2) 0 wb.length]], .arr 1 false 0 (ints tb), .arr 2 false 0 (whs wb), .arr 2 false 0 [.agg [.ref (H.length + 1) 0 tb.length, .ref (H.length + 2) 0 wb.length]]]⟩ := by
      simp (disch := omega) only [go_sem, K.ref26_Tidy_l1b, ↓reduceIte, Nat.reduceAdd, Nat.reduceSub, l2, hx, cw, hp_get_len, hp_get_add, hp_set_len, hp_assoc, Nat.add_assoc]
    refine ⟨_, _, run, .inr ⟨H.length, _, fun _ => H.length + 1, fun _ => H.length + 2, rfl, by simp, ⟨hp_get_len, rfl, ?_, ?_, ?_, ?_, ?_, ?_, ?_⟩⟩⟩
    all_goals skip
    · intro j hj; obtain rfl : j = 0 := by simpa using hj
      rfl
    · intro j hj; obtain rfl : j = 0 := by simpa using hj
      rw [hp_get_add]; rfl
    · intro j hj; obtain rfl : j = 0 := by simpa using hj
      rw [hp_get_add]; rfl
    · intro j hj; omega
    · intro j hj; omega
    · intro i j hi hj; omega
    · intro i j hi hj hne
      have h1 : i = 0 := by simpa using hi
      have h2 : j = 0 := by simpa using hj
      omega
  · have e1 := hr.arr
    have e2 := hr.len
    have e7 := hp_lt e1
    by_cases c : tidyK out (nth l i) < out.length ∧ (nth out (tidyK out (nth l i))).tags = (nth l i).tags
    · obtain ⟨ck, ct⟩ := c
      have l3 := tidy_l3 l i hi out (by omega) hso hsx H id es fa fb hr (tidyK out (nth l i)) ck
      have s1 := (hso _ (nth_mem ck)).1
      have sm := same_ok (nth out (tidyK out (nth l i))).tags (nth l i).tags (by omega)
      have t1 : tidy1 out (nth l i) = out.set (tidyK out (nth l i)) ⟨(nth l i).tags, joinWs (nth out (tidyK out (nth l i))).whr (nth l i).whr⟩ := by unfold tidy1; rw [if_pos ⟨ck, ct⟩]
      rw [t1]
      simp only [ct, decide_true] at sm
      generalize tidyK out (nth l i) = k at *
      have e3 := hr.el k ck
      have e4 := hr.ha k ck
      have mg := hr.merge ck ⟨(nth l i).tags, joinWs (nth out k).whr (nth l i).whr⟩ ct (joinN_len _ _ _)
      refine ⟨.ref id 0 out.length, _, ?_, .inr ⟨id, es, fa, fb, by rw [List.length_set], by rw [List.length_set]; omega, mg⟩⟩
      generalize nth out k = y at *
      obtain ⟨ta, wa⟩ := y
      simp only at ct
      subst ct
      generalize hx : nth l i = x at *
      obtain ⟨tb, wb⟩ := x
      simp only at s1 sm e3 e4 cw l3 ⊢
      simp (disch := omega) only [go_sem, K.ref26_Tidy_l1b, ↓reduceIte, Nat.reduceAdd, Nat.reduceSub, l2, l3, hx, cw, sm, e1, e2, e3, e4]
    · have t1 : tidy1 out (nth l i) = out.take (tidyK out (nth l i)) ++ [nth l i] ++ out.drop (tidyK out (nth l i)) := by unfold tidy1; rw [if_neg c]
      rw [t1]
      generalize tidyK out (nth l i) = k at *
      have hs1 : headSize 2 (es.take k) = true := headSize_all fun e he => hr.size e (List.mem_of_mem_take he)
      have hs2 : headSize 2 (es.drop k) = true := headSize_all fun e he => hr.size e (List.mem_of_mem_drop he)
      have hs3 : (es.drop k).take (out.length - k) = es.drop k := List.take_of_length_le (by simp [e2])
      have hs4 : (es.take k).length = k := by rw [List.length_take]; omega
      have hs5 : (es.drop k).length = out.length - k := by rw [List.length_drop, e2]
      have hs6 : k + (1 + (out.length - k)) = out.length + 1 := by omega
      have s2 := hsx.1
      have run : roundC false [1, 4, 5] H.length (exS CALL K.ref26_Tidy_l1b ⟨[.t (.sl (l.map World.e)), .und, .ref id 0 out.length, I i, .und, .und], H⟩) =
        some ⟨[.t (.sl (l.map World.e)), .und, .ref H.length 0 (out.length + 1), I (i + 1), .und, .und], H ++ [.arr 2 false 0 (es.take k ++ [.agg [.ref (H.length + 1) 0 (nth l i).tags.length, .ref (H.length + 2) 0 (nth l i).whr.length]] ++ es.drop k), .arr 1 false 0 (ints (nth l i).tags), .arr 2 false 0 (whs (nth l i).whr), .arr 2 false 0 [.agg [.ref (H.length + 1) 0 (nth l i).tags.length, .ref (H.length + 2) 0 (nth l i).whr.length]]]⟩ := by
        by_cases ck : k < out.length
        · have s1 := (hso _ (nth_mem ck)).1
          have sm := same_ok (nth out k).tags (nth l i).tags (by omega)
          have ct : ¬ (nth out k).tags = (nth l i).tags := fun h => c ⟨ck, h⟩
          have e3 := hr.el k ck
          have e4 := hr.ha k ck
          generalize nth out k = y at *
          obtain ⟨ta, wa⟩ := y
          generalize hx : nth l i = x at *
          obtain ⟨tb, wb⟩ := x
          simp only at s1 s2 sm e3 e4 ct cw
          simp only [ct, decide_false] at sm
          simp (disch := omega) only [go_sem, K.ref26_Tidy_l1b, ↓reduceIte, Nat.reduceAdd, Nat.reduceSub, l2, hx, cw, sm, e1, e2, e3, e4, hs1, hs2, hs3, hs4, hs5, hs6, hp_get, hp_get_len, hp_get_add, hp_set_len, hp_assoc, Nat.add_assoc, Nat.sub_zero]
        · have ek : k = out.length := by omega
          subst ek
          generalize hx : nth l i = x at *
          obtain ⟨tb, wb⟩ := x
          simp only at s2 cw
          simp (disch := omega) only [go_sem, K.ref26_Tidy_l1b, ↓reduceIte, Nat.reduceAdd, Nat.reduceSub, l2, hx, cw, e1, e2, hs1, hs2, hs3, hs4, hs5, hs6, hp_get, hp_get_len, hp_get_add, hp_set_len, hp_assoc, Nat.add_assoc, Nat.sub_zero]
      exact ⟨_, _, run, .inr ⟨H.length, _, _, _, by rw [List.length_append, List.length_append, List.length_take, List.length_drop, List.length_singleton, Nat.min_eq_left kl]; congr 1; omega, by rw [List.length_append, List.length_append, List.length_singleton]; omega, hr.ins kl (nth l i) _⟩⟩
theorem tidy1_len (out : List World) (x : World) : (tidy1 out x).length ≤ out.length + 1 ∧ out.length ≤ (tidy1 out x).length ∧ 1 ≤ (tidy1 out x).length := by
  have kl := tidyK_le out x
  unfold tidy1
  split
  · rename_i h
    rw [List.length_set]; omega
  · rw [List.length_append, List.length_append, List.length_take, List.length_drop, List.length_singleton]; omega
theorem tidyN_len (l : List World) : ∀ j, (tidyN l j).length ≤ j
  | 0 => Nat.le_refl _
  | j + 1 => by
    have := tidyN_len l j
    have := (tidy1_len (tidyN l j) (nth l j)).1
    simp only [tidyN]; omega
theorem joinF_frm (a b : Wh) : (joinF a b).1.frm.length ≤ a.frm.length := by
  unfold joinF
  split
  · simp only [minN_len]; omega
  · simp
theorem joinN_sz (a b : List Wh) (n : Nat) (h : ∀ w ∈ a, w.frm.length ≤ n) : ∀ p, p ≤ a.length → ∀ w ∈ joinN a b p, w.frm.length ≤ n
  | 0, _, w, hw => h w hw
  | p + 1, hp, w, hw => by
    simp only [joinN] at hw
    rcases List.mem_or_eq_of_mem_set hw with hw | rfl
    · exact joinN_sz a b n h p (by omega) w hw
    · exact Nat.le_trans (joinF_frm _ _) (h _ (nth_mem (by omega)))
theorem tidy1_sz {out : List World} {x : World} (ho : ∀ y ∈ out, y.sz) (hx : x.sz) : ∀ y ∈ tidy1 out x, y.sz := by
  intro y hy
  unfold tidy1 at hy
  split at hy
  · rename_i h
    rcases List.mem_or_eq_of_mem_set hy with hy | rfl
    · exact ho y hy
    · obtain ⟨s1, s2, s3⟩ := ho _ (nth_mem h.1)
      refine ⟨hx.1, ?_, ?_⟩
      · show (joinN _ _ _).length ≤ _
        rw [joinN_len]; exact s2
      · exact joinN_sz _ _ _ s3 _ (Nat.min_le_left _ _)
  · rcases List.mem_append.1 hy with hy | hy
    · rcases List.mem_append.1 hy with hy | hy
      · exact ho y (List.mem_of_mem_take hy)
      · rw [List.mem_singleton.1 hy]; exact hx
    · exact ho y (List.mem_of_mem_drop hy)
theorem tidyN_sz {l : List World} (hl : ∀ x ∈ l, x.sz) : ∀ j, j ≤ l.length → ∀ y ∈ tidyN l j, y.sz
  | 0, _, y, hy => by simp [tidyN] at hy
  | j + 1, h, y, hy => tidy1_sz (tidyN_sz hl j (by omega)) (hl _ (nth_mem (by omega))) y hy
theorem Rp.frz {H : Heap} {id : Nat} {es : List D} {fa fb : Nat → Nat} {out : List World} (hr : Rp H id es fa fb out) :
    mapO (frz H 8) es = some (out.map World.e) ∧ ∀ i ∈ es.flatMap (arrs H 8), i ≠ id := by
  have hl := hr.len
  have key : ∀ (j : Nat) (hj : j < out.length), Go.Ev.frz H 8 (.agg [.ref (fa j) 0 (nth out j).tags.length, .ref (fb j) 0 (nth out j).whr.length]) = some (nth out j).e ∧
      arrs H 8 (.agg [.ref (fa j) 0 (nth out j).tags.length, .ref (fb j) 0 (nth out j).whr.length]) = [fa j, fb j] := by
    intro j hj
    have h1 := hr.ha j hj
    have h2 := hr.hb j hj
    simp (disch := omega) only [go_sem, h1, h2, ints, whs, ↓reduceIte]
  constructor
  · have : ∀ (es : List D) (ts : List T), es.length = ts.length → (∀ (j : Nat) e t, es[j]? = some e → ts[j]? = some t → Go.Ev.frz H 8 e = some t) → mapO (Go.Ev.frz H 8) es = some ts := by
      intro es
      induction es with
      | nil => intro ts h _; cases ts with
        | nil => rfl
        | cons => simp at h
      | cons e es ih =>
        intro ts h hh
        cases ts with
        | nil => simp at h
        | cons t ts =>
          have h1 := hh 0 e t rfl rfl
          have h2 := ih ts (by simpa using h) fun j e t he ht => hh (j + 1) e t (by simpa using he) (by simpa using ht)
          simp only [mapO, h1, Option.bind_some, h2, Option.map_some]
    refine this es _ (by rw [List.length_map, hl]) fun j e t he ht => ?_
    have hj : j < out.length := by rw [← hl]; exact (List.getElem?_eq_some_iff.1 he).1
    rw [hr.el j hj] at he
    rw [map_nth _ hj] at ht
    cases he; cases ht
    exact (key j hj).1
  · intro i hi
    obtain ⟨e, he, hi⟩ := List.mem_flatMap.1 hi
    obtain ⟨j, hj⟩ := List.mem_iff_getElem?.1 he
    have hjl : j < out.length := by rw [← hl]; exact (List.getElem?_eq_some_iff.1 hj).1
    rw [hr.el j hjl] at hj
    cases hj
    rw [(key j hjl).2] at hi
    simp only [List.mem_cons, List.not_mem_nil, or_false] at hi
    rcases hi with rfl | rfl
    · exact hr.na j hjl
    · exact hr.nb j hjl
theorem tidy_ok (l : List World) (h0 : 1 ≤ l.length) (hl : l.length ≤ 100000) (hs : ∀ x ∈ l, x.sz) :
    CALL 1 N.ref26_Tidy [.t (.sl (l.map World.e))] [] = some (.ref 0 0 (tidyF l).length, [.arr 2 false 0 (((tidyF l).map World.e).map .t)]) := by
  refine CALL_of K.t_ref26_Tidy rfl ?_
  have loop : ∀ a b c : D, ∃ q, exS CALL K.ref26_Tidy_l1 ⟨[.t (.sl (l.map World.e)), a, .nil, I 0, b, c], []⟩ = some q ∧ ∃ v H, q = (.exit 0, ⟨[.t (.sl (l.map World.e)), .und, v, I l.length, .und, .und], H⟩) ∧ Rep H v (tidyF l) := by
    intro a b c
    refine loop_inv (fun j st => ∃ v H, st = ⟨[.t (.sl (l.map World.e)), .und, v, I j, .und, .und], H⟩ ∧ Rep H v (tidyN l j)) l.length _ ⟨.nil, [], rfl, .inl ⟨rfl, rfl⟩⟩ ?_ ?_
    · rintro j st hj ⟨v, H, rfl, hr⟩
      have ln := tidyN_len l j
      obtain ⟨v', H', h1, h2⟩ := tidy_round l j hj (by omega) (tidyN l j) (by omega) (tidyN_sz hs j (by omega)) (hs _ (nth_mem hj)) H v hr
      exact ⟨_, h1, v', H', rfl, h2⟩
    · rintro st ⟨v, H, rfl, hr⟩
      refine ⟨(.exit 0, ⟨[.t (.sl (l.map World.e)), .und, v, I l.length, .und, .und], H⟩), ?_, by simp, v, H, rfl, hr⟩
      simp (disch := omega) only [go_sem, K.ref26_Tidy_l1b, ↓reduceIte, Nat.reduceAdd, Nat.reduceSub]
  obtain ⟨q, hq, v, H, rfl, hr⟩ := loop .nil .und .und
  have nz : 1 ≤ (tidyF l).length := by
    unfold tidyF
    cases hn : l.length with
    | zero => omega
    | succ n => exact (tidy1_len _ _).2.2
  rcases hr with ⟨rfl, he⟩ | ⟨id, es, fa, fb, rfl, h0, hr⟩
  · rw [he] at nz; simp at nz
  · obtain ⟨f1, f2⟩ := hr.frz
    have fin := finish_live H id 2 (tidyF l).length es _ hr.arr hr.len.symm f1 f2
    simp (disch := omega) only [go_sem, K.ref26_Tidy, ↓reduceIte, Nat.reduceAdd, Nat.reduceSub, hq, fin]
end Go.Ev

namespace Go.Ev
open Go
variable [Lib] [Has1] [Has2]
@[go_sem] theorem map2_nth_set {α β γ : Type} [Dat α] (f : β → γ) (g : α → β) {l : List α} {i j : Nat} {x : α} (h : j < l.length) : (((l.set i x).map g).map f)[j]? = some (f (g (nth (l.set i x) j))) := map2_nth f g (by rw [List.length_set]; exact h)
def swapL (l : List Int) (i j : Nat) : List Int := (l.set i (nth l j)).set j (nth l i)
def exchW (i j : Nat) (t : Int) (x : World) : World := ⟨swapL x.tags i j, (x.whr.set i (raiseF (nth x.whr i) t).1).set j (raiseF (nth x.whr j) t).1⟩
def exchS (i j : Nat) (t : Int) (x : World) (out : List World) : List World := if meetB (nth x.whr i) (nth x.whr j) t = true then out ++ [exchW i j t x] else out
def exchNb (i j : Nat) (t : Int) (ws : List World) : Nat → List World
  | 0 => ws
  | k + 1 => exchS i j t (nth ws k) (exchNb i j t ws k)
def exchBel (m : Mine) (b : Bel) (i j t : Int) : Bel × Int :=
  if belB m b = false then (b, 6) else if i < 0 ∨ ((nth b.worlds 0).tags.length : Int) ≤ i ∨ j < 0 ∨ ((nth b.worlds 0).tags.length : Int) ≤ j ∨ i = j then (b, 19)
  else if ¬ inT t then (b, 8) else if 24 < (tidyF (exchNb i.toNat j.toNat t b.worlds b.worlds.length)).length then (b, 44) else (⟨tidyF (exchNb i.toNat j.toNat t b.worlds b.worlds.length)⟩, 0)
theorem exchS_len (i j : Nat) (t : Int) (x : World) (out : List World) : out.length ≤ (exchS i j t x out).length ∧ (exchS i j t x out).length ≤ out.length + 1 := by
  unfold exchS; split <;> (try rw [List.length_append, List.length_singleton]) <;> omega
theorem exchNb_len (i j : Nat) (t : Int) (ws : List World) : ∀ k, ws.length ≤ (exchNb i j t ws k).length ∧ (exchNb i j t ws k).length ≤ ws.length + k
  | 0 => ⟨Nat.le_refl _, Nat.le_refl _⟩
  | k + 1 => by
    have h1 := exchNb_len i j t ws k
    have h2 := exchS_len i j t (nth ws k) (exchNb i j t ws k)
    simp only [exchNb]; omega
abbrev exH (m : Mine) (ws out : List World) : Heap := [.box (mineCells m), .box [.t (.sl (ws.map World.e))], .box [.nil], .arr 2 false 0 ((out.map World.e).map .t)]
theorem exch_round (m : Mine) (ws : List World) (hw : ws.length ≤ 100000) (i j : Nat) (hij : i ≠ j) (t : Int) (k : Nat) (hk : k < ws.length) (hs : (nth ws k).sz)
    (i1 : i < (nth ws k).tags.length) (j1 : j < (nth ws k).tags.length) (hl : (nth ws k).whr.length = (nth ws k).tags.length) (out : List World) (ho : out.length ≤ 1000000) :
    roundC true [0, 1, 5, 8, 9, 12] 4 (exS CALL K.ref26_Exchange_l1b ⟨[.und, .und, I i, I j, I t, .und, .bp 1 0, .bp 2 0, .und, .und, .ref 3 0 out.length, I k, .und], exH m ws out⟩) =
      some ⟨[.und, .und, I i, I j, I t, .und, .bp 1 0, .bp 2 0, .und, .und, .ref 3 0 (exchS i j t (nth ws k) out).length, I (k + 1), .und], exH m ws (exchS i j t (nth ws k) out)⟩ := by
  have c1 := copyWorld_ok1 (nth ws k) hs
  have mt := meet_ok (nth (nth ws k).whr i) (nth (nth ws k).whr j) t (hs.2.2 _ (nth_mem (by omega)))
  have r1 := raise_ok (nth (nth ws k).whr i) t (hs.2.2 _ (nth_mem (by omega)))
  have r2 := raise_ok (nth (nth ws k).whr j) t (hs.2.2 _ (nth_mem (by omega)))
  unfold exchS exchW swapL
  have n1 : ∀ w, nth ((nth ws k).whr.set i w) j = nth (nth ws k).whr j := fun w => by rw [set_nth _ _ (by omega), if_neg (fun e => hij e.symm)]
  generalize hx : nth ws k = x at *
  obtain ⟨tags, whr⟩ := x
  obtain ⟨s1, s2, s3⟩ := hs
  simp only at *
  generalize hwi : nth whr i = wi at *
  generalize hwj : nth whr j = wj at *
  generalize raiseF wi t = ri at *
  obtain ⟨⟨t1, f1⟩, e1⟩ := ri
  generalize raiseF wj t = rj at *
  obtain ⟨⟨t2, f2⟩, e2⟩ := rj
  obtain ⟨ti, fi⟩ := wi
  obtain ⟨tj, fj⟩ := wj
  simp only at *
  cases hm : meetB ⟨ti, fi⟩ ⟨tj, fj⟩ t with
  | true =>
    rw [hm] at mt
    simp (disch := omega) only [go_sem, K.ref26_Exchange_l1b, ↓reduceIte, exH, hx, hwi, hwj, n1, c1, mt, r1, r2, Nat.reduceAdd, Nat.reduceSub]
  | false =>
    rw [hm] at mt
    simp (disch := omega) only [go_sem, K.ref26_Exchange_l1b, ↓reduceIte, exH, hx, hwi, hwj, n1, c1, mt, r1, r2, Nat.reduceAdd, Nat.reduceSub, Bool.false_eq_true]
theorem raiseF_frm (w : Wh) (t : Int) : (raiseF w t).1.frm = w.frm := by unfold raiseF; split <;> rfl
theorem exchW_sz {i j : Nat} {t : Int} {x : World} (h : x.sz) (hi : i < x.whr.length) (hj : j < x.whr.length) : (exchW i j t x).sz := by
  obtain ⟨s1, s2, s3⟩ := h
  refine ⟨by simpa [exchW, swapL] using s1, by simpa [exchW] using s2, fun w hw => ?_⟩
  simp only [exchW] at hw
  rcases List.mem_or_eq_of_mem_set hw with hw | rfl
  · rcases List.mem_or_eq_of_mem_set hw with hw | rfl
    · exact s3 w hw
    · rw [raiseF_frm]; exact s3 _ (nth_mem hi)
  · rw [raiseF_frm]; exact s3 _ (nth_mem hj)
theorem exchNb_sz {ws : List World} (h : ∀ x ∈ ws, x.sz) {i j : Nat} {t : Int} (hi : ∀ k, k < ws.length → i < (nth ws k).whr.length) (hj : ∀ k, k < ws.length → j < (nth ws k).whr.length) : ∀ k, k ≤ ws.length → ∀ x ∈ exchNb i j t ws k, x.sz
  | 0, _, x, hx => h x hx
  | k + 1, hk, x, hx => by
    simp only [exchNb, exchS] at hx
    split at hx
    · rcases List.mem_append.1 hx with hx | hx
      · exact exchNb_sz h hi hj k (by omega) x hx
      · rw [List.mem_singleton.1 hx]; exact exchW_sz (h _ (nth_mem (by omega))) (hi k (by omega)) (hj k (by omega))
    · exact exchNb_sz h hi hj k (by omega) x hx
theorem exchBel_ok {m : Mine} (h : m.ok) (b : Bel) (hs : b.sz) (i j t : Int) :
    CALL 0 N.ref26_Exchange [.t m.e, .t b.e, I i, I j, I t] [] = some (.tup [.t (exchBel m b i j t).1.e, I (exchBel m b i j t).2], []) := by
  refine CALL_of K.t_ref26_Exchange rfl ?_
  have cb := copyBel_ok b hs
  have cb1 := copyBel_ok1 b hs
  have vb := belB_ok h b hs
  unfold exchBel
  cases hb : belB m b with
  | false =>
    rw [hb] at vb
    obtain ⟨ws⟩ := b
    simp (disch := omega) only [go_sem, K.ref26_Exchange, ↓reduceIte, cb, vb, Nat.reduceAdd, Nat.reduceSub]
  | true =>
    rw [hb] at vb
    obtain ⟨w1, w2, f1, f2, w5⟩ := belB_spec hb
    obtain ⟨ws⟩ := b
    obtain ⟨s1, s2⟩ := hs
    simp only at s1 s2 w1 w2 w5 f1 f2 cb cb1 vb ⊢
    have g0 : (ws.map World.e)[0]? = some (nth ws 0).e := map_nth _ (by omega)
    have wl : ∀ k, k < ws.length → (nth ws k).tags.length = (nth ws 0).tags.length ∧ (nth ws k).whr.length = (nth ws 0).tags.length := fun k hk => by
      obtain ⟨q1, q2, -⟩ := worldB_spec (w5 k hk)
      exact ⟨q1, q2⟩
    generalize hx : nth ws 0 = x at *
    obtain ⟨first, whr⟩ := x
    simp only at f1 f2 wl g0 ⊢
    rw [if_neg (by simp)]
    by_cases c1 : i < 0
    · rw [if_pos (by omega)]
      simp (disch := omega) only [go_sem, K.ref26_Exchange, ↓reduceIte, cb, vb, hx, g0, c1, Nat.reduceAdd, Nat.reduceSub]
    · by_cases c2 : (first.length : Int) ≤ i
      · rw [if_pos (by omega)]
        simp (disch := omega) only [go_sem, K.ref26_Exchange, ↓reduceIte, cb, vb, hx, g0, c1, c2, Nat.reduceAdd, Nat.reduceSub]
      · by_cases c3 : j < 0
        · rw [if_pos (by omega)]
          simp (disch := omega) only [go_sem, K.ref26_Exchange, ↓reduceIte, cb, vb, hx, g0, c1, c2, c3, Nat.reduceAdd, Nat.reduceSub]
        · by_cases c4 : (first.length : Int) ≤ j
          · rw [if_pos (by omega)]
            simp (disch := omega) only [go_sem, K.ref26_Exchange, ↓reduceIte, cb, vb, hx, g0, c1, c2, c3, c4, Nat.reduceAdd, Nat.reduceSub]
          · by_cases c5 : i = j
            · rw [if_pos (by omega)]
              simp (disch := omega) only [go_sem, K.ref26_Exchange, ↓reduceIte, cb, vb, hx, g0, c1, c2, c3, c4, c5, Nat.reduceAdd, Nat.reduceSub]
            · rw [if_neg (by omega)]
              by_cases ct : inT t
              · have ct' := ct
                unfold inT at ct'
                rw [if_neg (fun h => h ct)]
                obtain ⟨i', rfl⟩ := Int.eq_ofNat_of_zero_le (show 0 ≤ i by omega)
                obtain ⟨j', rfl⟩ := Int.eq_ofNat_of_zero_le (show 0 ≤ j by omega)
                simp only [Int.toNat_natCast]
                have ln := exchNb_len i' j' t ws
                have loop : ∀ a b c d e f : D, exS CALL K.ref26_Exchange_l1 ⟨[a, b, I i', I j', I t, c, .bp 1 0, .bp 2 0, d, e, .ref 3 0 ws.length, I 0, f], exH m ws ws⟩ =
                    some (.exit 0, ⟨[.und, .und, I i', I j', I t, .und, .bp 1 0, .bp 2 0, .und, .und, .ref 3 0 (exchNb i' j' t ws ws.length).length, I ws.length, .und], exH m ws (exchNb i' j' t ws ws.length)⟩) := by
                  intro a b c d e f
                  refine loop_up (fun k => ⟨[.und, .und, I i', I j', I t, .und, .bp 1 0, .bp 2 0, .und, .und, .ref 3 0 (exchNb i' j' t ws k).length, I k, .und], exH m ws (exchNb i' j' t ws k)⟩) ws.length rfl ?_ ?_ (by simp)
                  · intro k hk
                    obtain ⟨q1, q2⟩ := wl k hk
                    have := ln k
                    exact exch_round m ws (by omega) i' j' (by omega) t k hk (s2 _ (nth_mem hk)) (by omega) (by omega) (by omega) _ (by omega)
                  · have := ln ws.length
                    generalize exchNb i' j' t ws ws.length = L at *
                    simp (disch := omega) only [go_sem, K.ref26_Exchange_l1b, ↓reduceIte, exH, Nat.reduceAdd, Nat.reduceSub]
                have ln := ln ws.length
                have sz := exchNb_sz (t := t) s2 (i := i') (j := j') (fun k hk => by obtain ⟨q1, q2⟩ := wl k hk; omega) (fun k hk => by obtain ⟨q1, q2⟩ := wl k hk; omega) ws.length (Nat.le_refl _)
                have ty := tidy_ok (exchNb i' j' t ws ws.length) (by omega) (by omega) sz
                generalize exchNb i' j' t ws ws.length = L at *
                generalize tidyF L = Z at *
                simp only [exH] at loop
                by_cases c6 : 24 < Z.length
                · simp (disch := omega) only [go_sem, K.ref26_Exchange, ↓reduceIte, cb, cb1, vb, hx, g0, c1, c2, c3, c4, c5, c6, loop, ty, Nat.reduceAdd, Nat.reduceSub]
                · simp (disch := omega) only [go_sem, K.ref26_Exchange, ↓reduceIte, cb, cb1, vb, hx, g0, c1, c2, c3, c4, c5, c6, loop, ty, Nat.reduceAdd, Nat.reduceSub]
              · rw [if_pos ct]
                unfold inT at ct
                by_cases c6 : t < 0
                · simp (disch := omega) only [go_sem, K.ref26_Exchange, ↓reduceIte, cb, vb, hx, g0, c1, c2, c3, c4, c5, c6, Nat.reduceAdd, Nat.reduceSub]
                · simp (disch := omega) only [go_sem, K.ref26_Exchange, ↓reduceIte, cb, vb, hx, g0, c1, c2, c3, c4, c5, c6, Nat.reduceAdd, Nat.reduceSub]
end Go.Ev

namespace Go.Ev
open Go
variable [Lib] [Has1] [Has2]
def tagsN : Nat → List Int
  | 0 => []
  | k + 1 => tagsN k ++ [3 + (k : Int) * 2]
def Dice.nextsN (d : Dice) (n : Int) : Nat → List Int × Dice
  | 0 => ([], d)
  | k + 1 => ((d.nextsN n k).1 ++ [((d.nextsN n k).2.next n).1], ((d.nextsN n k).2.next n).2)
theorem tagsN_len : ∀ k, (tagsN k).length = k
  | 0 => rfl
  | k + 1 => by simp [tagsN, tagsN_len k]
theorem Dice.nextsN_len (d : Dice) (n : Int) : ∀ k, (d.nextsN n k).1.length = k
  | 0 => rfl
  | k + 1 => by simp [Dice.nextsN, d.nextsN_len n k]
theorem Dice.nextsN_light {d : Dice} (h : d.light) (n : Int) : ∀ k, (d.nextsN n k).2.light
  | 0 => h
  | k + 1 => Dice.next_light (Dice.nextsN_light h n k) n
structure BSt where
  b : Bel
  t : Int
  d : Dice
def Dice.belStep (m : Mine) (n : Int) (s : BSt) : BSt :=
  let a := s.d.next 60
  let c := a.2.next 3
  if c.1 = 0 then
    let i := c.2.next n
    let j := i.2.next n
    let r := exchBel m s.b i.1 j.1 (s.t + a.1)
    ⟨if r.2 = 0 then r.1 else s.b, s.t + a.1, j.2⟩
  else if c.1 = 1 then
    let g := c.2.next n
    let l := g.2.someN m.places.length
    let e := l.2.next 9
    let r := seeBel m s.b (3 + 2 * g.1) l.1 (s.t + a.1) (s.t + a.1 + e.1)
    ⟨if r.2 = 0 then r.1 else s.b, s.t + a.1, e.2⟩
  else
    let g := c.2.next n
    let l := g.2.someN m.places.length
    let e := l.2.next 40
    let r := absBel m s.b (3 + 2 * g.1) l.1 (s.t + a.1) (s.t + a.1 + 50) e.1
    ⟨if r.2 = 0 then r.1 else s.b, s.t + a.1, e.2⟩
def Dice.belN (m : Mine) (n : Int) (s : BSt) : Nat → BSt
  | 0 => s
  | k + 1 => Dice.belStep m n (Dice.belN m n s k)
def Dice.belP (d : Dice) : Nat := (1 + (d.next 3).1).toNat
def Dice.belS (d : Dice) (m : Mine) : List Int × Dice := (d.next 3).2.nextsN m.places.length d.belP
def Dice.bel0 (d : Dice) (m : Mine) : BSt := ⟨(startBel m (tagsN d.belP) (d.belS m).1 ((d.belS m).2.next 100).1).1, 100, (((d.belS m).2.next 100).2.next 5).2⟩
def Dice.belK (d : Dice) (m : Mine) : Nat := (((d.belS m).2.next 100).2.next 5).1.toNat
def Dice.belF (d : Dice) (m : Mine) : BSt := Dice.belN m d.belP (d.bel0 m) (d.belK m)
def Dice.belief (d : Dice) (m : Mine) : Bel × Dice := ((d.belF m).b, (d.belF m).d)
structure WOk (m : Mine) (N : Nat) (x : World) : Prop where
  tg : x.tags.length = N
  wh : x.whr.length = N
  fr : ∀ w ∈ x.whr, w.frm.length = m.places.length
  ti : ∀ w ∈ x.whr, inT w.time
structure BOk (m : Mine) (N : Nat) (b : Bel) : Prop where
  w1 : 1 ≤ b.worlds.length
  w2 : b.worlds.length ≤ 24
  n1 : 1 ≤ N
  n2 : N ≤ 12
  ws : ∀ x ∈ b.worlds, WOk m N x
theorem WOk.sz {m : Mine} {N : Nat} {x : World} (h : WOk m N x) (hm : m.ok) (hn : N ≤ 12) : x.sz := by
  have np := hm.np
  obtain ⟨t1, t2, t3, -⟩ := h
  exact ⟨by omega, by omega, fun w hw => by rw [t3 w hw]; omega⟩
theorem BOk.sz {m : Mine} {N : Nat} {b : Bel} (h : BOk m N b) (hm : m.ok) : b.sz :=
  ⟨by have := h.w2; omega, fun x hx => (h.ws x hx).sz hm h.n2⟩
theorem belStep_light {m : Mine} {n : Int} {s : BSt} (h : s.d.light) : (Dice.belStep m n s).d.light := by
  unfold Dice.belStep
  simp only
  have l1 := Dice.next_light h 60
  generalize s.d.next 60 = a at *
  obtain ⟨a1, d1⟩ := a
  simp only at l1 ⊢
  have l2 := Dice.next_light l1 3
  generalize d1.next 3 = c at *
  obtain ⟨c1, d2⟩ := c
  simp only at l2 ⊢
  split
  · exact Dice.next_light (Dice.next_light l2 n) n
  · split
    · exact Dice.next_light (Dice.someN_light (Dice.next_light l2 n) _) 9
    · exact Dice.next_light (Dice.someN_light (Dice.next_light l2 n) _) 40
abbrev blH (m : Mine) (p1 p2 : Bool) (tags starts : List Int) (s : BSt) : Heap := [s.d.obj, .box (mineCells m), .box [.nil], .arr 1 p1 0 (ints tags), .arr 1 p2 0 (ints starts), .box [.t (.sl (s.b.worlds.map World.e))]]
theorem bel_round {m : Mine} (hm : m.ok) (n : Int) (n1 : 1 ≤ n) (n2 : n ≤ 12) (tags starts : List Int) (s : BSt) (hd : s.d.light) (hb : s.b.sz) (ht : 0 ≤ s.t) (ht2 : s.t ≤ 1000000) (k : Nat) (hk : k ≤ 100) (p1 p2 : Bool) :
    roundC true [1, 5, 6, 7, 11, 12, 13, 14, 15, 16, 17] 6 (exS CALL K.made_Dice_Belief_l2b ⟨[.bp 0 0, .und, .bp 1 0, .bp 2 0, I n, .und, .und, .und, .bp 5 0, I s.t, I (k + 1), .und, .und, .und, .und, .und, .und, .und], blH m p1 p2 tags starts s⟩) =
    some ⟨[.bp 0 0, .und, .bp 1 0, .bp 2 0, I n, .und, .und, .und, .bp 5 0, I (Dice.belStep m n s).t, I k, .und, .und, .und, .und, .und, .und, .und], blH m p1 p2 tags starts (Dice.belStep m n s)⟩ := by
  obtain ⟨b, t, d⟩ := s
  simp only at hd hb ht ht2
  unfold Dice.belStep
  simp only
  have np := hm.np
  have h1 := next_ok d 60 (by omega) hd
  have l1 := Dice.next_light hd 60
  have a0 := d.next_lo 60
  have a9 := d.next_hi (n := 60) (by omega)
  generalize d.next 60 = a at *
  obtain ⟨x1, d1⟩ := a
  simp only at h1 l1 a0 a9 ⊢
  have h2 := next_ok d1 3 (by omega) l1
  have l2 := Dice.next_light l1 3
  have c0 := d1.next_lo 3
  have c9 := d1.next_hi (n := 3) (by omega)
  generalize d1.next 3 = c at *
  obtain ⟨x2, d2⟩ := c
  simp only at h2 l2 c0 c9 ⊢
  have h3 := next_ok d2 n (by omega) l2
  have l3 := Dice.next_light l2 n
  have g0 := d2.next_lo n
  have g9 := d2.next_hi (n := n) n1
  generalize d2.next n = g at *
  obtain ⟨x3, d3⟩ := g
  simp only at h3 l3 g0 g9 ⊢
  by_cases e0 : x2 = 0
  · simp only [if_pos e0]
    have h4 := next_ok d3 n (by omega) l3
    generalize d3.next n = g at *
    obtain ⟨x4, d4⟩ := g
    simp only at h4 ⊢
    have ex := exchBel_ok hm b hb x3 x4 (t + x1)
    generalize exchBel m b x3 x4 (t + x1) = r at *
    obtain ⟨⟨ws'⟩, er⟩ := r
    obtain ⟨ws⟩ := b
    simp only at ex ⊢
    subst e0
    by_cases e : er = 0
    · simp (disch := omega) only [go_sem, K.made_Dice_Belief_l2b, ↓reduceIte, blH, h1, h2, h3, h4, ex, e, Nat.reduceAdd, Nat.reduceSub]
    · simp (disch := omega) only [go_sem, K.made_Dice_Belief_l2b, ↓reduceIte, blH, h1, h2, h3, h4, ex, e, Nat.reduceAdd, Nat.reduceSub]
  · simp only [if_neg e0]
    have h4 := some_ok d3 m.places.length (by omega) l3
    have l4 := Dice.someN_light l3 m.places.length
    have ln := d3.someN_len m.places.length
    generalize d3.someN m.places.length = q at *
    obtain ⟨l, d4⟩ := q
    simp only at h4 l4 ln ⊢
    by_cases e1 : x2 = 1
    · simp only [if_pos e1]
      have h5 := next_ok d4 9 (by omega) l4
      have f0 := d4.next_lo 9
      have f9 := d4.next_hi (n := 9) (by omega)
      generalize d4.next 9 = g at *
      obtain ⟨x5, d5⟩ := g
      simp only at h5 f0 f9 ⊢
      have ex := seeBel_ok hm b hb (3 + 2 * x3) l (by omega) (t + x1) (t + x1 + x5)
      generalize seeBel m b (3 + 2 * x3) l (t + x1) (t + x1 + x5) = r at *
      obtain ⟨⟨ws'⟩, er⟩ := r
      obtain ⟨ws⟩ := b
      simp only at ex ⊢
      subst e1
      by_cases e : er = 0
      · simp (disch := omega) only [go_sem, K.made_Dice_Belief_l2b, ↓reduceIte, blH, h1, h2, h3, h4, h5, ex, e, Nat.reduceAdd, Nat.reduceSub]
      · simp (disch := omega) only [go_sem, K.made_Dice_Belief_l2b, ↓reduceIte, blH, h1, h2, h3, h4, h5, ex, e, Nat.reduceAdd, Nat.reduceSub]
    · simp only [if_neg e1]
      have h5 := next_ok d4 40 (by omega) l4
      have f0 := d4.next_lo 40
      have f9 := d4.next_hi (n := 40) (by omega)
      generalize d4.next 40 = g at *
      obtain ⟨x5, d5⟩ := g
      simp only at h5 f0 f9 ⊢
      have ex := absBel_ok hm b hb (3 + 2 * x3) l (by omega) (t + x1) (t + x1 + 50) x5
      generalize absBel m b (3 + 2 * x3) l (t + x1) (t + x1 + 50) x5 = r at *
      obtain ⟨⟨ws'⟩, er⟩ := r
      obtain ⟨ws⟩ := b
      simp only at ex ⊢
      by_cases e : er = 0
      · simp (disch := omega) only [go_sem, K.made_Dice_Belief_l2b, ↓reduceIte, blH, h1, h2, h3, h4, h5, ex, e, e0, e1, Nat.reduceAdd, Nat.reduceSub]
      · simp (disch := omega) only [go_sem, K.made_Dice_Belief_l2b, ↓reduceIte, blH, h1, h2, h3, h4, h5, ex, e, e0, e1, Nat.reduceAdd, Nat.reduceSub]
theorem startF_ok {m : Mine} (hm : m.ok) {p t : Int} (p0 : 0 ≤ p) (p1 : p < m.places.length) (ht : inT t) : (startF m p t).2 = 0 ∧ (startF m p t).1.frm.length = m.places.length := by
  unfold startF
  rw [if_neg (by omega), if_pos ht]
  refine ⟨rfl, ?_⟩
  exact closeF_len hm t ht none (fun l h => by cases h) (by simp) (bnd_set (neverL_bnd _) ht.1 (by have := ht.2; omega))
theorem startF_ti {m : Mine} {p t : Int} (ht : inT t) : inT (startF m p t).1.time := by
  unfold startF
  split
  · unfold inT; simp
  · exact ht
theorem seeF_ti {m : Mine} (w : Wh) (l : List Int) (a b : Int) (hw : inT w.time) : inT (seeF m w l a b).1.time := by
  unfold seeF
  split
  · exact hw
  · rename_i h
    have h0 : askedF m w l a b = 0 := by simpa using h
    obtain ⟨v1, v2, v3, v4, v5, v6⟩ := askedF_0 h0
    split
    · exact hw
    · split
      · exact v5
      · exact hw
theorem absF_ti {m : Mine} (w : Wh) (l : List Int) (a b bl : Int) (hw : inT w.time) : inT (absF m w l a b bl).1.time := by
  unfold absF
  split
  · exact hw
  · rename_i h
    have h0 : askedF m w l a b = 0 := by simpa using h
    obtain ⟨v1, v2, v3, v4, v5, v6⟩ := askedF_0 h0
    split
    · exact hw
    · split
      · exact hw
      · split
        · exact hw
        · exact v5
theorem joinF_ti {a b : Wh} (ha : inT a.time) (hb : inT b.time) : inT (joinF a b).1.time := by
  unfold joinF
  split
  · unfold inT at *; simp only; omega
  · unfold inT; simp
theorem raiseF_ti {w : Wh} {t : Int} (h : inT w.time) : inT (raiseF w t).1.time := by
  unfold raiseF
  split
  · exact h
  · unfold inT at *; simp only; omega
theorem joinN_ti (a b : List Wh) (ha : ∀ w ∈ a, inT w.time) (hb : ∀ w ∈ b, inT w.time) : ∀ p, p ≤ a.length → p ≤ b.length → ∀ w ∈ joinN a b p, inT w.time
  | 0, _, _, w, hw => ha w hw
  | p + 1, h1, h2, w, hw => by
    simp only [joinN] at hw
    rcases List.mem_or_eq_of_mem_set hw with hw | rfl
    · exact joinN_ti a b ha hb p (by omega) (by omega) w hw
    · exact joinF_ti (ha _ (nth_mem (by omega))) (hb _ (nth_mem (by omega)))
theorem seeF_len {m : Mine} (hm : m.ok) (w : Wh) (l : List Int) (a b : Int) (hw : w.frm.length = m.places.length) : (seeF m w l a b).1.frm.length = m.places.length := by
  unfold seeF
  split
  · exact hw
  · rename_i h
    have h0 : askedF m w l a b = 0 := by simpa using h
    obtain ⟨v1, v2, v3, v4, v5, v6⟩ := askedF_0 h0
    obtain ⟨w1, w2, w3, w4⟩ := validB_spec v1
    have hb : bnd w.frm := fun x hx => plT_bnd (w3 x hx)
    split
    · exact hw
    · split
      · refine closeF_len hm a v4 none (fun l h => by cases h) (seeN_len _ _ _ _ _) (seeN_bnd hb _ _ ?_ _ (Nat.le_refl _))
        intro p hp
        obtain ⟨j, hj⟩ := List.mem_iff_getElem?.1 hp
        have hjl := (List.getElem?_eq_some_iff.1 hj).1
        obtain ⟨q1, q2, -⟩ := setB_nth v3 hjl
        rw [nth_eq hj] at q1 q2
        omega
      · exact hw
theorem absF_len {m : Mine} (hm : m.ok) (w : Wh) (l : List Int) (a b bl : Int) (hw : w.frm.length = m.places.length) : (absF m w l a b bl).1.frm.length = m.places.length := by
  unfold absF
  split
  · exact hw
  · rename_i h
    have h0 : askedF m w l a b = 0 := by simpa using h
    obtain ⟨v1, v2, v3, v4, v5, v6⟩ := askedF_0 h0
    obtain ⟨w1, w2, w3, w4⟩ := validB_spec v1
    have hb : bnd w.frm := fun x hx => plT_bnd (w3 x hx)
    split
    · exact hw
    · split
      · exact hw
      · split
        · exact hw
        · rename_i h1 h2 h3
          have hlen := setB_len v3
          have np := hm.np
          have h1 : inT bl := by simpa using h1
          unfold inT at v4 v5 w2 h1
          have t1 : inT (b - bl) := by unfold inT; omega
          have hi : ∀ s, some l = some s → s ≠ [] ∧ s.length ≤ 64 := by
            intro s hs; cases hs; exact ⟨v2, by omega⟩
          have ln := absN_len w.frm l l.length
          have lb := absN_bnd hb l l.length
          exact closeF_len hm b v5 none (fun l h => by cases h) (closeF_len hm _ t1 _ hi (by omega) lb) (closeF_bnd hm _ t1 _ hi (by omega) lb)
theorem putW_ok {m : Mine} {N : Nat} {tag : Int} {x : World} {w : Wh} (hx : WOk m N x) (hw : w.frm.length = m.places.length) (hw2 : inT w.time) : WOk m N (putW tag x w) := by
  obtain ⟨t1, t2, t3, t4⟩ := hx
  refine ⟨t1, by simpa [putW] using t2, fun y hy => ?_, fun y hy => ?_⟩
  · simp only [putW] at hy
    rcases List.mem_or_eq_of_mem_set hy with hy | rfl
    · exact t3 y hy
    · exact hw
  · simp only [putW] at hy
    rcases List.mem_or_eq_of_mem_set hy with hy | rfl
    · exact t4 y hy
    · exact hw2
theorem seeBel_good {m : Mine} (hm : m.ok) {N : Nat} {b : Bel} (hb : BOk m N b) (tag : Int) (l : List Int) (a c : Int) : BOk m N (if (seeBel m b tag l a c).2 = 0 then (seeBel m b tag l a c).1 else b) := by
  split
  · rename_i h0
    unfold seeBel at h0 ⊢
    by_cases e0 : borneF m b tag = 0
    · simp only [e0, ne_eq, not_true_eq_false, if_false] at h0 ⊢
      obtain ⟨_, bb⟩ := borne_0 e0
      cases hf : (List.range b.worlds.length).find? (seeBad m tag l a c b.worlds) with
      | some i => simp only [hf]; exact hb
      | none =>
        simp only [hf] at h0 ⊢
        split at h0
        · simp at h0
        · rename_i hl
          rw [if_neg hl]
          have ln := seeNb_len m tag l a c b.worlds b.worlds.length
          refine ⟨by simp only; omega, by have := hb.w2; simp only; omega, hb.n1, hb.n2, ?_⟩
          have key : ∀ j, j ≤ b.worlds.length → ∀ x ∈ seeNb m tag l a c b.worlds j, WOk m N x := by
            intro j
            induction j with
            | zero => intro _ x hx; simp [seeNb] at hx
            | succ j ih =>
              intro hj x hx
              have wj := hb.ws _ (nth_mem (l := b.worlds) (j := j) (by omega))
              obtain ⟨b1, b2⟩ := bb j (by omega)
              simp only [seeNb, stepW] at hx
              split at hx
              · exact ih (by omega) x hx
              · rcases List.mem_append.1 hx with hx | hx
                · exact ih (by omega) x hx
                · rw [List.mem_singleton.1 hx]
                  split
                  · exact putW_ok wj (seeF_len hm _ l a c (wj.fr _ (nth_mem (by omega)))) (seeF_ti _ l a c (wj.ti _ (nth_mem (by omega))))
                  · exact wj
          exact key _ (Nat.le_refl _)
    · rw [if_pos e0] at h0 ⊢
      exact hb
  · exact hb
theorem absBel_good {m : Mine} (hm : m.ok) {N : Nat} {b : Bel} (hb : BOk m N b) (tag : Int) (l : List Int) (a c bl : Int) : BOk m N (if (absBel m b tag l a c bl).2 = 0 then (absBel m b tag l a c bl).1 else b) := by
  split
  · rename_i h0
    unfold absBel at h0 ⊢
    by_cases e0 : borneF m b tag = 0
    · simp only [e0, ne_eq, not_true_eq_false, if_false] at h0 ⊢
      obtain ⟨_, bb⟩ := borne_0 e0
      cases hf : (List.range b.worlds.length).find? (absBad m tag l a c bl b.worlds) with
      | some i => simp only [hf]; exact hb
      | none =>
        simp only [hf]
        have ln := absNb_len m tag l a c bl b.worlds b.worlds.length
        refine ⟨by have := hb.w1; simp only; omega, by have := hb.w2; simp only; omega, hb.n1, hb.n2, ?_⟩
        have key : ∀ j, j ≤ b.worlds.length → ∀ x ∈ absNb m tag l a c bl b.worlds j, WOk m N x := by
          intro j
          induction j with
          | zero => intro _ x hx; simp [absNb] at hx
          | succ j ih =>
            intro hj x hx
            have wj := hb.ws _ (nth_mem (l := b.worlds) (j := j) (by omega))
            obtain ⟨b1, b2⟩ := bb j (by omega)
            simp only [absNb, stepA] at hx
            rcases List.mem_append.1 hx with hx | hx
            · exact ih (by omega) x hx
            · rw [List.mem_singleton.1 hx]
              split
              · exact putW_ok wj (absF_len hm _ l a c bl (wj.fr _ (nth_mem (by omega)))) (absF_ti _ l a c bl (wj.ti _ (nth_mem (by omega))))
              · exact wj
        exact key _ (Nat.le_refl _)
    · rw [if_pos e0] at h0 ⊢
      exact hb
  · exact hb
theorem joinF_len {m : Mine} {a b : Wh} (ha : a.frm.length = m.places.length) (hb : b.frm.length = m.places.length) : (joinF a b).1.frm.length = m.places.length := by
  unfold joinF
  rw [if_pos (by omega)]
  simp only [minN_len]; exact ha
theorem joinN_fr {m : Mine} (a b : List Wh) (ha : ∀ w ∈ a, w.frm.length = m.places.length) (hb : ∀ w ∈ b, w.frm.length = m.places.length) : ∀ p, p ≤ a.length → p ≤ b.length → ∀ w ∈ joinN a b p, w.frm.length = m.places.length
  | 0, _, _, w, hw => ha w hw
  | p + 1, h1, h2, w, hw => by
    simp only [joinN] at hw
    rcases List.mem_or_eq_of_mem_set hw with hw | rfl
    · exact joinN_fr a b ha hb p (by omega) (by omega) w hw
    · exact joinF_len (ha _ (nth_mem (by omega))) (hb _ (nth_mem (by omega)))
theorem tidy1_good {m : Mine} {N : Nat} {out : List World} {x : World} (ho : ∀ y ∈ out, WOk m N y) (hx : WOk m N x) : ∀ y ∈ tidy1 out x, WOk m N y := by
  intro y hy
  unfold tidy1 at hy
  split at hy
  · rename_i h
    rcases List.mem_or_eq_of_mem_set hy with hy | rfl
    · exact ho y hy
    · obtain ⟨s1, s2, s3, s4⟩ := ho _ (nth_mem h.1)
      refine ⟨hx.tg, ?_, joinN_fr _ _ s3 hx.fr _ (Nat.min_le_left _ _) (Nat.min_le_right _ _), joinN_ti _ _ s4 hx.ti _ (Nat.min_le_left _ _) (Nat.min_le_right _ _)⟩
      show (joinN _ _ _).length = _
      rw [joinN_len]; exact s2
  · rcases List.mem_append.1 hy with hy | hy
    · rcases List.mem_append.1 hy with hy | hy
      · exact ho y (List.mem_of_mem_take hy)
      · rw [List.mem_singleton.1 hy]; exact hx
    · exact ho y (List.mem_of_mem_drop hy)
theorem tidyN_good {m : Mine} {N : Nat} {l : List World} (hl : ∀ x ∈ l, WOk m N x) : ∀ j, j ≤ l.length → ∀ y ∈ tidyN l j, WOk m N y
  | 0, _, y, hy => by simp [tidyN] at hy
  | j + 1, h, y, hy => tidy1_good (tidyN_good hl j (by omega)) (hl _ (nth_mem (by omega))) y hy
theorem exchW_good {m : Mine} {N : Nat} {i j : Nat} {t : Int} {x : World} (h : WOk m N x) (hi : i < N) (hj : j < N) : WOk m N (exchW i j t x) := by
  obtain ⟨s1, s2, s3, s4⟩ := h
  refine ⟨by simpa [exchW, swapL] using s1, by simpa [exchW] using s2, fun w hw => ?_, fun w hw => ?_⟩
  · simp only [exchW] at hw
    rcases List.mem_or_eq_of_mem_set hw with hw | rfl
    · rcases List.mem_or_eq_of_mem_set hw with hw | rfl
      · exact s3 w hw
      · rw [raiseF_frm]; exact s3 _ (nth_mem (by omega))
    · rw [raiseF_frm]; exact s3 _ (nth_mem (by omega))
  · simp only [exchW] at hw
    rcases List.mem_or_eq_of_mem_set hw with hw | rfl
    · rcases List.mem_or_eq_of_mem_set hw with hw | rfl
      · exact s4 w hw
      · exact raiseF_ti (s4 _ (nth_mem (by omega)))
    · exact raiseF_ti (s4 _ (nth_mem (by omega)))
theorem exchNb_good {m : Mine} {N : Nat} {ws : List World} (h : ∀ x ∈ ws, WOk m N x) {i j : Nat} {t : Int} (hi : i < N) (hj : j < N) : ∀ k, k ≤ ws.length → ∀ x ∈ exchNb i j t ws k, WOk m N x
  | 0, _, x, hx => h x hx
  | k + 1, hk, x, hx => by
    simp only [exchNb, exchS] at hx
    split at hx
    · rcases List.mem_append.1 hx with hx | hx
      · exact exchNb_good h hi hj k (by omega) x hx
      · rw [List.mem_singleton.1 hx]; exact exchW_good (h _ (nth_mem (by omega))) hi hj
    · exact exchNb_good h hi hj k (by omega) x hx
theorem exchBel_good {m : Mine} {N : Nat} {b : Bel} (hb : BOk m N b) (i j t : Int) : BOk m N (if (exchBel m b i j t).2 = 0 then (exchBel m b i j t).1 else b) := by
  split
  · rename_i h0
    unfold exchBel at h0 ⊢
    split at h0
    · simp at h0
    · rename_i c1
      rw [if_neg c1]
      split at h0
      · simp at h0
      · rename_i c2
        rw [if_neg c2]
        split at h0
        · simp at h0
        · rename_i c3
          rw [if_neg c3]
          split at h0
          · simp at h0
          · rename_i c4
            rw [if_neg c4]
            have t0 := (hb.ws _ (nth_mem (l := b.worlds) (j := 0) (by have := hb.w1; omega))).tg
            have ln := exchNb_len i.toNat j.toNat t b.worlds b.worlds.length
            have w1 := hb.w1
            refine ⟨?_, by simp only; omega, hb.n1, hb.n2, ?_⟩
            · simp only [tidyF]
              cases hn : (exchNb i.toNat j.toNat t b.worlds b.worlds.length).length with
              | zero => omega
              | succ n => exact (tidy1_len _ _).2.2
            · exact tidyN_good (exchNb_good hb.ws (by omega) (by omega) _ (Nat.le_refl _)) _ (Nat.le_refl _)
  · exact hb
theorem belStep_good {m : Mine} (hm : m.ok) {N : Nat} {n : Int} {s : BSt} (hb : BOk m N s.b) : BOk m N (Dice.belStep m n s).b := by
  unfold Dice.belStep
  simp only
  split
  · exact exchBel_good hb _ _ _
  · split
    · exact seeBel_good hm hb _ _ _ _
    · exact absBel_good hm hb _ _ _ _ _
theorem belStep_t {m : Mine} {n : Int} {s : BSt} : s.t ≤ (Dice.belStep m n s).t ∧ (Dice.belStep m n s).t ≤ s.t + 60 := by
  have h1 := s.d.next_lo 60
  have h2 := s.d.next_hi (n := 60) (by omega)
  unfold Dice.belStep
  simp only
  split
  · simp only; omega
  · split <;> (simp only; omega)
theorem belN_good {m : Mine} (hm : m.ok) {N : Nat} {n : Int} {s : BSt} (hb : BOk m N s.b) (hd : s.d.light) (ht : s.t = 100) : ∀ k, BOk m N (Dice.belN m n s k).b ∧ (Dice.belN m n s k).d.light ∧ 100 ≤ (Dice.belN m n s k).t ∧ (Dice.belN m n s k).t ≤ 100 + 60 * k
  | 0 => ⟨hb, hd, by simp [Dice.belN, ht], by simp [Dice.belN, ht]⟩
  | k + 1 => by
    obtain ⟨h1, h2, h3, h4⟩ := belN_good hm hb hd ht k
    have ht := belStep_t (m := m) (n := n) (s := Dice.belN m n s k)
    exact ⟨belStep_good hm h1, belStep_light h2, by simp only [Dice.belN]; omega, by simp only [Dice.belN]; omega⟩
theorem tagsN_proper {n : Nat} (h : n ≤ 3) : properB (tagsN n) = true := by
  match n, h with
  | 0, _ => decide
  | 1, _ => decide
  | 2, _ => decide
  | 3, _ => decide
theorem nextsN_in (d : Dice) {n : Int} (hn : 1 ≤ n) : ∀ k, ∀ x ∈ (d.nextsN n k).1, 0 ≤ x ∧ x < n
  | 0, x, hx => by simp [Dice.nextsN] at hx
  | k + 1, x, hx => by
    simp only [Dice.nextsN, List.mem_append, List.mem_singleton] at hx
    rcases hx with hx | rfl
    · exact nextsN_in d hn k x hx
    · exact ⟨Dice.next_lo _ _, Dice.next_hi _ hn⟩
theorem belP_bd (d : Dice) : 1 ≤ d.belP ∧ d.belP ≤ 3 := by
  have h1 := d.next_lo 3
  have h2 := d.next_hi (n := 3) (by omega)
  unfold Dice.belP; omega
theorem bel0_is {m : Mine} (hm : m.ok) (h1 : 1 ≤ m.places.length) (d : Dice) :
    (startBel m (tagsN d.belP) (d.belS m).1 ((d.belS m).2.next 100).1) = (⟨[⟨tagsN d.belP, startWs m (d.belS m).1 ((d.belS m).2.next 100).1 (tagsN d.belP).length⟩]⟩, 0) := by
  have pb := belP_bd d
  have tl := tagsN_len d.belP
  have sl : (d.belS m).1.length = d.belP := Dice.nextsN_len _ _ _
  have t0 := (d.belS m).2.next_lo 100
  have t9 := (d.belS m).2.next_hi (n := 100) (by omega)
  have np := hm.np
  unfold startBel
  rw [if_pos (by omega), if_pos (tagsN_proper (by omega))]
  have : (List.range (tagsN d.belP).length).find? (fun i => !decide ((startF m (nth (d.belS m).1 i) ((d.belS m).2.next 100).1).2 = 0)) = none := by
    rw [List.find?_eq_none]
    intro i hi
    have hi : i < (d.belS m).1.length := by rw [sl, ← tl]; exact List.mem_range.1 hi
    have := nextsN_in (d.next 3).2 (n := m.places.length) (by omega) d.belP _ (nth_mem hi)
    have := (startF_ok hm this.1 this.2 (t := ((d.belS m).2.next 100).1) ⟨by omega, by omega⟩).1
    have e : (startF m (nth (d.belS m).1 i) ((d.belS m).2.next 100).1).2 = 0 := this
    simp [e]
  rw [this]
theorem bel0_good {m : Mine} (hm : m.ok) (h1 : 1 ≤ m.places.length) (d : Dice) : BOk m d.belP (d.bel0 m).b := by
  have pb := belP_bd d
  have tl := tagsN_len d.belP
  have sl : (d.belS m).1.length = d.belP := Dice.nextsN_len _ _ _
  have t0 := (d.belS m).2.next_lo 100
  have t9 := (d.belS m).2.next_hi (n := 100) (by omega)
  have np := hm.np
  unfold Dice.bel0
  rw [bel0_is hm h1]
  refine ⟨by simp, by simp, by omega, by omega, fun x hx => ?_⟩
  rw [List.mem_singleton.1 hx]
  refine ⟨tl, by simp [tl], fun w hw => ?_, fun w hw => by
    simp only [startWs, List.mem_map, List.mem_range] at hw
    obtain ⟨i, hi, rfl⟩ := hw
    exact startF_ti ⟨by omega, by omega⟩⟩
  simp only [startWs, List.mem_map, List.mem_range] at hw
  obtain ⟨i, hi, rfl⟩ := hw
  have hi : i < (d.belS m).1.length := by rw [sl, ← tl]; exact hi
  have := nextsN_in (d.next 3).2 (n := m.places.length) (by omega) d.belP _ (nth_mem hi)
  exact (startF_ok hm this.1 this.2 ⟨by omega, by omega⟩).2
theorem belF_good {m : Mine} (hm : m.ok) (h1 : 1 ≤ m.places.length) {d : Dice} (hd : d.light) : BOk m d.belP (d.belief m).1 ∧ (d.belief m).2.light := by
  have l0 : (d.bel0 m).d.light := Dice.next_light (Dice.next_light (Dice.nextsN_light (Dice.next_light hd 3) _ _) _) _
  obtain ⟨h1, h2, -⟩ := belN_good hm (bel0_good hm h1 d) l0 rfl (n := d.belP) (d.belK m)
  exact ⟨h1, h2⟩
end Go.Ev

namespace Go.Ev
open Go
variable [Lib] [Has1] [Has2]
theorem bel_loop1 {m : Mine} (hm : m.ok) (d : Dice) (hd : d.light) (n : Nat) (hn : n ≤ 12) (a b c e f g h i j k : D) :
    exS CALL K.made_Dice_Belief_l1 ⟨[.bp 0 0, a, .bp 1 0, .bp 2 0, I n, .ref 3 0 0, .ref 4 0 0, I 0, b, c, e, f, g, h, i, j, k, .und], [d.obj, .box (mineCells m), .box [.nil], .arr 1 false 0 [], .arr 1 false 0 []]⟩ =
    some (.exit 0, ⟨[.bp 0 0, .und, .bp 1 0, .bp 2 0, I n, .ref 3 0 n, .ref 4 0 n, I n, .und, .und, .und, .und, .und, .und, .und, .und, .und, .und], [(d.nextsN m.places.length n).2.obj, .box (mineCells m), .box [.nil], .arr 1 false 0 (ints (tagsN n)), .arr 1 false 0 (ints (d.nextsN m.places.length n).1)]⟩) := by
  refine loop_up (fun k => ⟨[.bp 0 0, .und, .bp 1 0, .bp 2 0, I n, .ref 3 0 k, .ref 4 0 k, I k, .und, .und, .und, .und, .und, .und, .und, .und, .und, .und], [(d.nextsN m.places.length k).2.obj, .box (mineCells m), .box [.nil], .arr 1 false 0 (ints (tagsN k)), .arr 1 false 0 (ints (d.nextsN m.places.length k).1)]⟩) n rfl ?_ ?_ (by simp)
  · intro j hj
    have np := hm.np
    have tl := tagsN_len j
    have sl := d.nextsN_len m.places.length j
    have lt := Dice.nextsN_light hd m.places.length j
    simp only [tagsN, Dice.nextsN]
    generalize tagsN j = ts at *
    generalize d.nextsN m.places.length j = s at *
    obtain ⟨ss, d1⟩ := s
    simp only at sl lt ⊢
    have h1 := next_ok d1 m.places.length (by omega) lt
    generalize d1.next m.places.length = r at *
    obtain ⟨x, d2⟩ := r
    simp only at h1 ⊢
    simp (disch := omega) only [go_sem, K.made_Dice_Belief_l1b, ↓reduceIte, ints, h1, Nat.reduceAdd, Nat.reduceSub]
  · have tl := tagsN_len n
    have sl := d.nextsN_len m.places.length n
    simp (disch := omega) only [go_sem, K.made_Dice_Belief_l1b, ↓reduceIte, ints, Nat.reduceAdd, Nat.reduceSub]
theorem bel_loop2 {m : Mine} (hm : m.ok) {N : Nat} (n : Int) (n1 : 1 ≤ n) (n2 : n ≤ 12) (tags starts : List Int) (s : BSt) (hd : s.d.light) (hb : BOk m N s.b) (ht : s.t = 100) (p1 p2 : Bool) (kk : Nat) (hK : kk ≤ 100) :
    loopC true [1, 5, 6, 7, 11, 12, 13, 14, 15, 16, 17] (exS CALL K.made_Dice_Belief_l2b) ⟨[.bp 0 0, .und, .bp 1 0, .bp 2 0, I n, .und, .und, .und, .bp 5 0, I s.t, I kk, .und, .und, .und, .und, .und, .und, .und], blH m p1 p2 tags starts s⟩ =
    some (.exit 2, ⟨[.bp 0 0, .und, .bp 1 0, .bp 2 0, I n, .und, .und, .und, .bp 5 0, I (Dice.belN m n s kk).t, I 0, .und, .und, .und, .und, .und, .und, .und], blH m p1 p2 tags starts (Dice.belN m n s kk)⟩) := by
  have key := loopC_up (gc := true) (dead := [1, 5, 6, 7, 11, 12, 13, 14, 15, 16, 17]) (body := exS CALL K.made_Dice_Belief_l2b)
    (fun k => ⟨[.bp 0 0, .und, .bp 1 0, .bp 2 0, I n, .und, .und, .und, .bp 5 0, I (Dice.belN m n s k).t, I ((kk - k : Nat) : Int), .und, .und, .und, .und, .und, .und, .und], blH m p1 p2 tags starts (Dice.belN m n s k)⟩)
    (p := (.exit 2, ⟨[.bp 0 0, .und, .bp 1 0, .bp 2 0, I n, .und, .und, .und, .bp 5 0, I (Dice.belN m n s kk).t, I 0, .und, .und, .und, .und, .und, .und, .und], blH m p1 p2 tags starts (Dice.belN m n s kk)⟩)) kk ?_ ?_
  · exact key
  · intro k hk
    obtain ⟨g1, g2, g3, g4⟩ := belN_good hm (n := n) hb hd ht k
    have := bel_round hm n n1 n2 tags starts (Dice.belN m n s k) g2 (g1.sz hm) (by omega) (by omega) (kk - (k + 1)) (by omega) p1 p2
    rw [show (((kk - (k + 1) : Nat) : Int) + 1) = ((kk - k : Nat) : Int) by omega] at this
    exact this
  · refine loopC_exit ?_ (by simp)
    simp only [Nat.sub_self]
    simp (disch := omega) only [go_sem, K.made_Dice_Belief_l2b, ↓reduceIte, blH, Nat.reduceAdd, Nat.reduceSub]
theorem belief_ok {m : Mine} (hm : m.ok) (h1 : 1 ≤ m.places.length) (d : Dice) (hd : d.light) : CALL 0 N.made_Dice_Belief [.bp 0 0, .t m.e] [d.obj] = some (.t (d.belief m).1.e, [(d.belief m).2.obj]) := by
  refine CALL_of K.t_made_Dice_Belief rfl ?_
  have np := hm.np
  have pb := belP_bd d
  have eP : (d.belP : Int) = 1 + (d.next 3).1 := by have := d.next_lo 3; unfold Dice.belP; omega
  have g0 := bel0_good hm h1 d
  have e0 := bel0_is hm h1 d
  have a1 := next_ok d 3 (by omega) hd
  have l1 := Dice.next_light hd 3
  have q1 := fun a b c e f g h i j k => bel_loop1 hm (d.next 3).2 l1 d.belP (by omega) a b c e f g h i j k
  have eS : (d.next 3).2.nextsN m.places.length d.belP = d.belS m := rfl
  rw [eS] at q1
  have lS : (d.belS m).2.light := Dice.nextsN_light l1 _ _
  have a2 := next_ok (d.belS m).2 100 (by omega) lS
  have l2 := Dice.next_light lS 100
  have a3 := next_ok ((d.belS m).2.next 100).2 5 (by omega) l2
  have l3 := Dice.next_light l2 5
  have k0 := ((d.belS m).2.next 100).2.next_lo 5
  have k9 := ((d.belS m).2.next 100).2.next_hi (n := 5) (by omega)
  have eK : (d.belK m : Int) = (((d.belS m).2.next 100).2.next 5).1 := by unfold Dice.belK; omega
  have st := startBel_ok hm (tagsN d.belP) (d.belS m).1 (by rw [tagsN_len]; omega) ((d.belS m).2.next 100).1
  have tl := tagsN_len d.belP
  have sl : (d.belS m).1.length = d.belP := Dice.nextsN_len _ _ _
  rw [e0] at st
  have b0 : d.bel0 m = ⟨⟨[⟨tagsN d.belP, startWs m (d.belS m).1 ((d.belS m).2.next 100).1 (tagsN d.belP).length⟩]⟩, 100, (((d.belS m).2.next 100).2.next 5).2⟩ := by unfold Dice.bel0; rw [e0]
  have q2 := fun p1 p2 => bel_loop2 hm d.belP (by omega) (by omega) (tagsN d.belP) (d.belS m).1 (d.bel0 m) (by rw [b0]; exact l3) g0 rfl p1 p2 (d.belK m) (by omega)
  have q2 := fun p1 p2 a b c e f g h i j k l => loop_is (vs := [.bp 0 0, a, .bp 1 0, .bp 2 0, I d.belP, b, c, e, .bp 5 0, I 100, I (d.belK m), f, g, h, i, j, k, l]) (q2 p1 p2)
  have eF : Dice.belN m d.belP (d.bel0 m) (d.belK m) = d.belF m := rfl
  rw [eF] at q2
  unfold Dice.belief
  rw [b0] at q2
  generalize d.belF m = F at *
  generalize (tagsN d.belP) = tags at *
  generalize startWs m (d.belS m).1 ((d.belS m).2.next 100).1 tags.length = sw at *
  generalize d.belK m = kk at *
  generalize (((d.belS m).2.next 100).2.next 5) = z3 at *
  generalize ((d.belS m).2.next 100) = z2 at *
  generalize d.belS m = z1 at *
  generalize d.next 3 = z0 at *
  generalize d.belP = n at *
  obtain ⟨x3, d3⟩ := z3
  obtain ⟨x2, d2⟩ := z2
  obtain ⟨ss, d1⟩ := z1
  obtain ⟨x0, d0⟩ := z0
  obtain ⟨⟨wf⟩, tf, df⟩ := F
  simp only [List.map_cons, List.map_nil, blH] at *
  have q2 : ∀ p1 p2 a b c e f g h i j k l, exS CALL K.made_Dice_Belief_l2 _ = _ := q2
  simp (disch := omega) only [go_sem, K.made_Dice_Belief, ↓reduceIte, ints, a1, eP.symm, q1, a2, a3, st, eK.symm, tl, sl, q2, Nat.reduceAdd, Nat.reduceSub]
end Go.Ev

namespace Go.Ev
open Go
variable [Lib] [Has1] [Has2]
def Dice.spread (d : Dice) (m : Mine) (fl : List Spn) : Wh × Dice :=
  let p := d.next m.places.length
  let t := p.2.next 200
  let s := startS m fl [p.1] t.1
  let o := t.2.one 2
  if o.1 = true then
    let f := o.2.flows m
    let a := f.2.next 100
    let r := changeS m fl m f.1 s.1 (s.1.time + a.1)
    if r.2 = 0 then (r.1, a.2) else (s.1, a.2)
  else (s.1, o.2)
theorem Dice.spread_light {d : Dice} (h : d.light) (m : Mine) (fl : List Spn) : (d.spread m fl).2.light := by
  unfold Dice.spread
  simp only
  have l3 := Dice.one_light (Dice.next_light (Dice.next_light h m.places.length) 200) 2
  split
  · have := Dice.next_light (Dice.flowsN_light l3 m.roads.length) 100
    split <;> exact this
  · exact l3
theorem closeS_len {m : Mine} (hm : m.ok) {fl : List Spn} (hfl : flowsB m fl = true) {l : List Int} (hl : l.length = m.places.length) (hb : bnd l) : (closeS m fl l).length = m.places.length := by
  unfold closeS
  rw [capN_len]
  exact (closeS_ok hm fl hfl l hl hb).2.1
theorem startS_bd {m : Mine} (hm : m.ok) (fl : List Spn) (l : List Int) (t : Int) : ((startS m fl l t).1.time = 0 ∨ (startS m fl l t).1.time = t) ∧ (startS m fl l t).1.frm.length ≤ m.places.length := by
  unfold startS
  split
  · simp
  · split
    · simp
    · split
      · simp
      · rename_i h1 h2 h3
        have h3 : inT t := by simpa using h3
        exact ⟨.inr rfl, Nat.le_of_eq (closeS_len hm (by simpa using h1) (initS_len _ _ _) (initS_bnd _ h3 _))⟩
theorem flowsB_of {m : Mine} {l : List Spn} (h1 : l.length = m.roads.length) (h2 : ∀ x ∈ l, x.ok) : flowsB m l = true := by
  simp only [flowsB, Bool.and_eq_true, decide_eq_true_eq, List.all_eq_true, List.mem_range]
  exact ⟨fun j hj => h2 _ (nth_mem hj), h1⟩
theorem setB_one {p : Int} {n : Nat} (h0 : 0 ≤ p) (h1 : p < n) : setB [p] n = true := by
  simp only [setB, List.all_eq_true, List.mem_range, decide_eq_true_eq]
  intro j hj
  obtain rfl : j = 0 := by simpa using hj
  exact ⟨h0, h1, fun h => absurd h (by omega)⟩
theorem startS_good {m : Mine} (hm : m.ok) {fl : List Spn} (hf : flowsB m fl = true) {l : List Int} (hl : setB l m.places.length = true) {t : Int} (ht : inT t) :
    (startS m fl l t).2 = 0 ∧ (startS m fl l t).1.time = t ∧ (startS m fl l t).1.frm.length = m.places.length := by
  unfold startS
  rw [if_neg (by simp [hf]), if_neg (by simp [hl]), if_neg (fun h => h ht)]
  exact ⟨rfl, rfl, closeS_len hm hf (initS_len _ _ _) (initS_bnd _ ht _)⟩
theorem changeS_good {m : Mine} {old : List Spn} {next : Mine} (hn : next.ok) {fl : List Spn} {s : Wh} {t : Int} (hm : m.ok) (h : (changeS m old next fl s t).2 = 0) :
    (changeS m old next fl s t).1.frm.length = next.places.length ∧ (changeS m old next fl s t).1.time = t ∧ inT t := by
  unfold changeS at h ⊢
  split at h
  · simp at h
  · rename_i h1
    rw [if_neg h1]
    split at h
    · simp at h
    · rename_i h2
      rw [if_neg h2]
      have v : validS m s = true := by cases hv : validS m s; exact absurd (.inl hv) h1; rfl
      have f : flowsB next fl = true := by cases hv : flowsB next fl; exact absurd (.inr (.inr (.inl hv))) h1; rfl
      have pl : next.places.length = m.places.length := Classical.byContradiction fun hv => h1 (.inr (.inr (.inr hv)))
      obtain ⟨v1, v2, v3⟩ := validS_spec v
      have it : inT t := by unfold inT at *; omega
      have hb : bnd s.frm := fun x hx => by
        have h3 := v3 x hx
        unfold plS at h3; unfold inT at v2; omega
      have cl := chN_len m old s.frm t m.roads.length
      have cb := chN_bnd hm old v1 hb it m.roads.length (Nat.le_refl _)
      have ml := maxN_len t (chN m old s.frm t m.roads.length) m.places.length
      have mb := maxN_bnd it cb m.places.length (by omega)
      exact ⟨closeS_len hn f (by omega) mb, rfl, it⟩
theorem Dice.spread_good {d : Dice} {m : Mine} (hm : m.ok) (h1 : 1 ≤ m.places.length) {fl : List Spn} (hf : flowsB m fl = true) :
    (d.spread m fl).1.frm.length = m.places.length ∧ 0 ≤ (d.spread m fl).1.time ∧ (d.spread m fl).1.time ≤ 300 := by
  unfold Dice.spread
  simp only
  have p0 := d.next_lo m.places.length
  have p9 := d.next_hi (n := m.places.length) (by omega)
  generalize d.next m.places.length = r1 at *
  obtain ⟨p, d1⟩ := r1
  simp only at p0 p9 ⊢
  have t0 := d1.next_lo 200
  have t9 := d1.next_hi (n := 200) (by omega)
  generalize d1.next 200 = r2 at *
  obtain ⟨t, d2⟩ := r2
  simp only at t0 t9 ⊢
  obtain ⟨g1, g2, g3⟩ := startS_good hm hf (setB_one p0 p9) (t := t) ⟨by omega, by omega⟩
  split
  · have u0 := ((d2.one 2).2.flows m).2.next_lo 100
    have u9 := ((d2.one 2).2.flows m).2.next_hi (n := 100) (by omega)
    split
    · rename_i h
      obtain ⟨c1, c2, c3⟩ := changeS_good hm hm h
      refine ⟨c1, ?_, ?_⟩ <;> (rw [c2, g2]; omega)
    · exact ⟨g3, by rw [g2]; omega, by rw [g2]; omega⟩
  · exact ⟨g3, by rw [g2]; omega, by rw [g2]; omega⟩
theorem spread_ok {m : Mine} (hm : m.ok) (h1 : 1 ≤ m.places.length) (fl : List Spn) (hf : fl.length ≤ 1000) (d : Dice) (hd : d.light) :
    CALL 0 N.made_Dice_Spread [.bp 0 0, .t m.e, .t (tS fl)] [d.obj] = some (.t (d.spread m fl).1.e, [(d.spread m fl).2.obj]) := by
  refine CALL_of K.t_made_Dice_Spread rfl ?_
  unfold Dice.spread
  simp only
  have np := hm.np
  have nr := hm.nr
  have a1 := next_ok d m.places.length (by omega) hd
  have l1 := Dice.next_light hd m.places.length
  generalize d.next m.places.length = r1 at *
  obtain ⟨p, d1⟩ := r1
  simp only at a1 l1 ⊢
  have a2 := next_ok d1 200 (by omega) l1
  have l2 := Dice.next_light l1 200
  have t0 := d1.next_lo 200
  have t9 := d1.next_hi (n := 200) (by omega)
  generalize d1.next 200 = r2 at *
  obtain ⟨t, d2⟩ := r2
  simp only at a2 l2 t0 t9 ⊢
  have st := startS_ok hm fl (by omega) [p] (by simp) t
  have a3 := one_ok d2 2 (by omega) (by omega) l2
  have l3 := Dice.one_light l2 2
  generalize d2.one 2 = r3 at *
  obtain ⟨o, d3⟩ := r3
  simp only at a3 l3 ⊢
  have sT : 0 ≤ (startS m fl [p] t).1.time ∧ (startS m fl [p] t).1.time ≤ 200 ∧ (startS m fl [p] t).1.frm.length ≤ 1000000 := by
    obtain ⟨b1, b2⟩ := startS_bd hm fl [p] t
    omega
  generalize startS m fl [p] t = s at *
  obtain ⟨⟨sti, sfr⟩, se⟩ := s
  simp only [tL, List.map_cons, List.map_nil] at st sT ⊢
  cases o with
  | false =>
    simp (disch := omega) only [go_sem, K.made_Dice_Spread, ↓reduceIte, a1, a2, a3, st, Nat.reduceAdd, Nat.reduceSub, Bool.false_eq_true]
  | true =>
    simp only [↓reduceIte]
    have a4 := flowsD_ok d3 l3 m (by omega)
    have l4 : (d3.flows m).2.light := Dice.flowsN_light l3 _
    have n4 : (d3.flows m).1.length = m.roads.length := Dice.flowsN_len _ _
    generalize d3.flows m = r4 at *
    obtain ⟨fl2, d4⟩ := r4
    simp only at a4 l4 n4 ⊢
    have a5 := next_ok d4 100 (by omega) l4
    have u0 := d4.next_lo 100
    have u9 := d4.next_hi (n := 100) (by omega)
    generalize d4.next 100 = r5 at *
    obtain ⟨u, d5⟩ := r5
    simp only at a5 u0 u9 ⊢
    have ch := changeS_ok hm fl (by omega) hm fl2 (by omega) ⟨sti, sfr⟩ (by simp only; omega) (sti + u)
    generalize changeS m fl m fl2 ⟨sti, sfr⟩ (sti + u) = c at *
    obtain ⟨⟨ct, cf⟩, ce⟩ := c
    simp only at ch ⊢
    by_cases e : ce = 0
    · simp (disch := omega) only [go_sem, K.made_Dice_Spread, ↓reduceIte, a1, a2, a3, a4, a5, st, ch, e, Nat.reduceAdd, Nat.reduceSub]
    · simp (disch := omega) only [go_sem, K.made_Dice_Spread, ↓reduceIte, a1, a2, a3, a4, a5, st, ch, e, Nat.reduceAdd, Nat.reduceSub]
structure Mch where
  kind : Int
  num : Int
  pl : List Int
instance : Dat Mch := ⟨⟨0, 0, []⟩⟩
abbrev Mch.e (x : Mch) : T := .agg [tI x.kind, tI x.num, tL x.pl]
@[go_sem] theorem appOK_mch (l : List Mch) : appOK 3 (l.map Mch.e) = true := by cases l <;> rfl
def Dice.mch (d : Dice) (n : Nat) : Mch × Dice :=
  let a := d.next 2
  let b := a.2.next 5
  let l := b.2.someN n
  if l.1.length = 0 then (⟨1 + a.1, b.1, [(l.2.next n).1]⟩, (l.2.next n).2) else (⟨1 + a.1, b.1, l.1⟩, l.2)
def Dice.mchN (d : Dice) (n : Nat) : Nat → List Mch × Dice
  | 0 => ([], d)
  | k + 1 => ((d.mchN n k).1 ++ [((d.mchN n k).2.mch n).1], ((d.mchN n k).2.mch n).2)
def Dice.mchs (d : Dice) (n : Nat) : List Mch × Dice := (d.next 4).2.mchN n (d.next 4).1.toNat
theorem Dice.mch_light {d : Dice} (h : d.light) (n : Nat) : (d.mch n).2.light := by
  unfold Dice.mch
  simp only
  have := Dice.someN_light (Dice.next_light (Dice.next_light h 2) 5) n
  split
  · exact Dice.next_light this n
  · exact this
theorem Dice.mchN_light {d : Dice} (h : d.light) (n : Nat) : ∀ k, (d.mchN n k).2.light
  | 0 => h
  | k + 1 => by simp only [Dice.mchN]; exact Dice.mch_light (Dice.mchN_light h n k) n
theorem Dice.mchN_len (d : Dice) (n : Nat) : ∀ k, (d.mchN n k).1.length = k
  | 0 => rfl
  | k + 1 => by simp [Dice.mchN, d.mchN_len n k]
theorem someN_in (d : Dice) : ∀ n, ∀ x ∈ (d.someN n).1, 0 ≤ x ∧ x < n
  | 0, x, hx => by simp [Dice.someN] at hx
  | n + 1, x, hx => by
    simp only [Dice.someN] at hx
    split at hx
    · rcases List.mem_append.1 hx with hx | hx
      · have := someN_in d n x hx; omega
      · rw [List.mem_singleton.1 hx]; omega
    · have := someN_in d n x hx; omega
theorem Dice.mch_good (d : Dice) {n : Nat} (hn : 1 ≤ n) : (d.mch n).1.pl.length ≤ n ∧ 1 ≤ (d.mch n).1.pl.length ∧ ∀ x ∈ (d.mch n).1.pl, 0 ≤ x ∧ x < n := by
  unfold Dice.mch
  simp only
  split
  · refine ⟨by simp; omega, by simp, fun x hx => ?_⟩
    simp only [List.mem_singleton] at hx
    rw [hx]
    exact ⟨Dice.next_lo _ _, Dice.next_hi _ (by omega)⟩
  · rename_i h
    exact ⟨Dice.someN_len _ _, by simp only; omega, someN_in _ _⟩
theorem Dice.mchN_good (d : Dice) {n : Nat} (hn : 1 ≤ n) : ∀ k, ∀ y ∈ (d.mchN n k).1, y.pl.length ≤ n ∧ 1 ≤ y.pl.length ∧ ∀ x ∈ y.pl, 0 ≤ x ∧ x < n
  | 0, y, hy => by simp [Dice.mchN] at hy
  | k + 1, y, hy => by
    simp only [Dice.mchN, List.mem_append, List.mem_singleton] at hy
    rcases hy with hy | rfl
    · exact d.mchN_good hn k y hy
    · exact Dice.mch_good _ hn
theorem mch_round {m : Mine} (hn : 1 ≤ m.places.length) (hn2 : m.places.length ≤ 1000) (d : Dice) (hd : d.light) (l : List Mch) (hl : l.length ≤ 100) (k : Nat) (hk : k ≤ 100) :
    roundC true [1, 3, 6] 3 (exS CALL K.law40_some_l1b ⟨[.bp 0 0, .und, .bp 1 0, .und, .ref 2 0 l.length, I (k + 1), .und], [d.obj, .box (mineCells m), .arr 3 false 0 ((l.map Mch.e).map .t)]⟩) =
    some ⟨[.bp 0 0, .und, .bp 1 0, .und, .ref 2 0 (l ++ [(d.mch m.places.length).1]).length, I k, .und], [(d.mch m.places.length).2.obj, .box (mineCells m), .arr 3 false 0 (((l ++ [(d.mch m.places.length).1]).map Mch.e).map .t)]⟩ := by
  unfold Dice.mch
  simp only
  have a1 := next_ok d 2 (by omega) hd
  have l1 := Dice.next_light hd 2
  have x0 := d.next_lo 2
  have x9 := d.next_hi (n := 2) (by omega)
  generalize d.next 2 = r1 at *
  obtain ⟨a, d1⟩ := r1
  simp only at a1 l1 x0 x9 ⊢
  have a2 := next_ok d1 5 (by omega) l1
  have l2 := Dice.next_light l1 5
  generalize d1.next 5 = r2 at *
  obtain ⟨b, d2⟩ := r2
  simp only at a2 l2 ⊢
  have a3 := some_ok d2 m.places.length (by omega) l2
  have l3 := Dice.someN_light l2 m.places.length
  have n3 := d2.someN_len m.places.length
  generalize d2.someN m.places.length = r3 at *
  obtain ⟨s, d3⟩ := r3
  simp only at a3 l3 n3 ⊢
  by_cases e : s.length = 0
  · have a4 := next_ok d3 m.places.length (by omega) l3
    generalize d3.next m.places.length = r4 at *
    obtain ⟨c, d4⟩ := r4
    simp only [if_pos e] at a4 ⊢
    simp (disch := omega) only [go_sem, K.law40_some_l1b, ↓reduceIte, a1, a2, a3, a4, e, Nat.reduceAdd, Nat.reduceSub]
    rfl
  · simp only [if_neg e]
    simp (disch := omega) only [go_sem, K.law40_some_l1b, ↓reduceIte, a1, a2, a3, e, Nat.reduceAdd, Nat.reduceSub]
theorem mchs_ok {m : Mine} (hn : 1 ≤ m.places.length) (hn2 : m.places.length ≤ 1000) (d : Dice) (hd : d.light) :
    CALL 0 N.law40_some [.bp 0 0, .t m.e] [d.obj] = some (.t (.sl ((d.mchs m.places.length).1.map Mch.e)), [(d.mchs m.places.length).2.obj]) := by
  refine CALL_of K.t_law40_some rfl ?_
  unfold Dice.mchs
  have a1 := next_ok d 4 (by omega) hd
  have l1 := Dice.next_light hd 4
  have x0 := d.next_lo 4
  have x9 := d.next_hi (n := 4) (by omega)
  generalize d.next 4 = r1 at *
  obtain ⟨n, d1⟩ := r1
  simp only at a1 l1 x0 x9 ⊢
  obtain ⟨n, rfl⟩ := Int.eq_ofNat_of_zero_le x0
  simp only [Int.toNat_natCast]
  have loop : ∀ a b c : D, exS CALL K.law40_some_l1 ⟨[.bp 0 0, a, .bp 1 0, b, .ref 2 0 0, I n, c], [d1.obj, .box (mineCells m), .arr 3 false 0 []]⟩ =
      some (.exit 0, ⟨[.bp 0 0, .und, .bp 1 0, .und, .ref 2 0 (d1.mchN m.places.length n).1.length, I 0, .und], [(d1.mchN m.places.length n).2.obj, .box (mineCells m), .arr 3 false 0 (((d1.mchN m.places.length n).1.map Mch.e).map .t)]⟩) := by
    intro a b c
    refine loop_up (fun j => ⟨[.bp 0 0, .und, .bp 1 0, .und, .ref 2 0 (d1.mchN m.places.length j).1.length, I ((n - j : Nat) : Int), .und], [(d1.mchN m.places.length j).2.obj, .box (mineCells m), .arr 3 false 0 (((d1.mchN m.places.length j).1.map Mch.e).map .t)]⟩) n rfl ?_ ?_ (by simp)
    · intro j hj
      have ln := d1.mchN_len m.places.length j
      have := mch_round hn hn2 (d1.mchN m.places.length j).2 (Dice.mchN_light l1 _ j) (d1.mchN m.places.length j).1 (by omega) (n - (j + 1)) (by omega)
      rw [show (((n - (j + 1) : Nat) : Int) + 1) = ((n - j : Nat) : Int) by omega] at this
      exact this
    · simp only [Nat.sub_self]
      simp (disch := omega) only [go_sem, K.law40_some_l1b, ↓reduceIte, Nat.reduceAdd, Nat.reduceSub]
  have ln := d1.mchN_len m.places.length n
  generalize d1.mchN m.places.length n = r at *
  obtain ⟨l, d2⟩ := r
  simp only at ln loop ⊢
  simp (disch := omega) only [go_sem, K.law40_some, ↓reduceIte, a1, loop, Nat.reduceAdd, Nat.reduceSub]
end Go.Ev

namespace Go.Ev
open Go
variable [Lib] [Has1] [Has2]
theorem mem_whereF {n : Nat} {p : Nat → Bool} {x : Int} : x ∈ whereF n p ↔ ∃ k : Nat, x = k ∧ k < n ∧ p k = true := by
  unfold whereF
  simp only [List.mem_map, List.mem_filter, List.mem_range]
  constructor
  · rintro ⟨k, ⟨h1, h2⟩, rfl⟩; exact ⟨k, rfl, h1, h2⟩
  · rintro ⟨k, rfl, h1, h2⟩; exact ⟨k, ⟨h1, h2⟩, rfl⟩
theorem mem_whereF_nat {n : Nat} {p : Nat → Bool} {k : Nat} : (k : Int) ∈ whereF n p ↔ k < n ∧ p k = true := by
  rw [mem_whereF]
  constructor
  · rintro ⟨j, h, h1, h2⟩
    obtain rfl : k = j := by omega
    exact ⟨h1, h2⟩
  · rintro ⟨h1, h2⟩; exact ⟨k, rfl, h1, h2⟩
theorem filled1_ok (s : Wh) (t : Int) (k : Nat) (hk : k < s.frm.length) : CALL 0 N.smoke_Filled_1 [I k, .bp 0 0, .bp 1 0] [.box [I s.time, .t (tL s.frm)], .box [I t]] = some (B (decide (nth s.frm k ≤ t)), [.box [I s.time, .t (tL s.frm)], .box [I t]]) := by
  refine CALL_of K.t_smoke_Filled_1 rfl ?_
  simp (disch := omega) only [go_sem, K.smoke_Filled_1, ↓reduceIte, Nat.reduceAdd, Nat.reduceSub]
theorem filled_ok (s : Wh) (t : Int) (hl : s.frm.length ≤ 1000000) : CALL 0 N.smoke_Filled [.t s.e, I t] [] = some (.t (tL (possF s t)), []) := by
  refine CALL_of K.t_smoke_Filled rfl ?_
  have wh := where_ok s.frm.length hl N.smoke_Filled_1 [[tI s.time, tL s.frm], [tI t]] (fun k => decide (nth s.frm k ≤ t)) (fun k hk => filled1_ok s t k hk)
  have wh : CALL 0 N.lists_Where [I s.frm.length, .fn N.smoke_Filled_1 [.bp 0 0, .bp 1 0]] [.box [I s.time, .t (tL s.frm)], .box [I t]] = some (.t (tL (possF s t)), [.box [I s.time, .t (tL s.frm)], .box [I t]]) := wh
  obtain ⟨time, frm⟩ := s
  simp only at hl wh
  generalize possF ⟨time, frm⟩ t = r at *
  simp (disch := omega) only [go_sem, K.smoke_Filled, ↓reduceIte, wh, Nat.reduceAdd, Nat.reduceSub]
theorem indexFuncW_ok (l : List World) (hl : l.length ≤ 4294967296) (f : Nat) (bs : List (List T)) (p : World → Bool) (h : ∀ x, x ∈ l → CALL 0 f (.t x.e :: capsN bs.length) (boxesT bs) = some (B (p x), boxesT bs)) :
    CALL 0 N.slices_IndexFunc_api_World_api_World [.t (.sl (l.map World.e)), .fn f (capsN bs.length)] (boxesT bs) =
    some (I (match (List.range l.length).find? (fun j => p (nth l j)) with | some j => (j : Int) | none => -1), boxesT bs) := by
  refine CALL_of K.t_slices_IndexFunc_api_World_api_World rfl ?_
  have loop : ∀ a b : D, exS CALL K.slices_IndexFunc_api_World_api_World_l1 ⟨[.t (.sl (l.map World.e)), .fn f (capsN bs.length), a, b, I l.length, I 0], boxesT bs⟩ =
      some (match (List.range l.length).find? (fun j => p (nth l j)) with
        | some j => (.ret, ⟨[.t (.sl (l.map World.e)), .fn f (capsN bs.length), I j, I j, I l.length, I j], boxesT bs⟩)
        | none => (.exit 0, ⟨[.t (.sl (l.map World.e)), .fn f (capsN bs.length), .und, .und, I l.length, I l.length], boxesT bs⟩)) := by
    intro a b
    refine loop_first (fun j => ⟨[.t (.sl (l.map World.e)), .fn f (capsN bs.length), .und, .und, I l.length, I j], boxesT bs⟩) l.length (fun j => p (nth l j)) _ _ rfl ?_ ?_ ?_ (by simp)
    · intro j hj hp
      have hc := clos_call0 (h _ (nth_mem hj)) rfl
      simp (disch := omega) only [go_sem, K.slices_IndexFunc_api_World_api_World_l1b, ↓reduceIte, hc, hp]
    · intro j hj hp
      have hc := clos_call0 (h _ (nth_mem hj)) rfl
      simp (disch := omega) only [go_sem, K.slices_IndexFunc_api_World_api_World_l1b, ↓reduceIte, hp, hc]
      simp
    · simp (disch := omega) only [go_sem, K.slices_IndexFunc_api_World_api_World_l1b, ↓reduceIte]
  simp (disch := omega) only [go_sem, K.slices_IndexFunc_api_World_api_World, ↓reduceIte, loop]
  cases hf : (List.range l.length).find? (fun j => p (nth l j)) with
  | some j => simp (disch := omega) only [go_sem, ↓reduceIte]
  | none => simp (disch := omega) only [go_sem, ↓reduceIte]
theorem any_nthW {α : Type} [Dat α] {l : List α} {p : α → Bool} : ((List.range l.length).find? fun j => p (nth l j)).isSome = l.any p := by
  rw [List.isSome_find?, Bool.eq_iff_iff, List.any_eq_true, List.any_eq_true]
  constructor
  · rintro ⟨j, hj, h⟩
    exact ⟨_, nth_mem (List.mem_range.1 hj), h⟩
  · rintro ⟨x, hx, h⟩
    obtain ⟨j, hj⟩ := List.mem_iff_getElem?.1 hx
    exact ⟨j, List.mem_range.2 (List.getElem?_eq_some_iff.1 hj).1, by rw [nth_eq hj]; exact h⟩
theorem any_range {α : Type} [Dat α] (l : List α) (p : α → Bool) : l.any p = (List.range l.length).any fun i => p (nth l i) := by
  rw [← any_nthW, List.isSome_find?]
theorem containsFuncW_ok (l : List World) (hl : l.length ≤ 4294967296) (f : Nat) (bs : List (List T)) (p : World → Bool) (h : ∀ x, x ∈ l → CALL 0 f (.t x.e :: capsN bs.length) (boxesT bs) = some (B (p x), boxesT bs)) :
    CALL 0 N.slices_ContainsFunc_api_World_api_World [.t (.sl (l.map World.e)), .fn f (capsN bs.length)] (boxesT bs) = some (B (l.any p), boxesT bs) := by
  refine CALL_of K.t_slices_ContainsFunc_api_World_api_World rfl ?_
  have h := indexFuncW_ok l hl f bs p h
  have hc := opCa_clos2 CALL bs f _ 0 (.sl (l.map World.e)) h rfl
  have e := any_nthW (l := l) (p := p)
  cases hf : (List.range l.length).find? (fun j => p (nth l j)) with
  | some j => rw [hf] at e hc; simp (disch := omega) only [go_sem, K.slices_ContainsFunc_api_World_api_World, ↓reduceIte, ← e, hc]
  | none => rw [hf] at e hc; simp (disch := omega) only [go_sem, K.slices_ContainsFunc_api_World_api_World, ↓reduceIte, ← e, hc, Option.isSome_none]
def mayW (person t : Int) (p : Nat) (x : World) : Bool := decide (0 ≤ person ∧ person < x.whr.length) && (decide (p < (nth x.whr person.toNat).frm.length) && decide (nth (nth x.whr person.toNat).frm p ≤ t))
theorem poss11_ok (x : World) (hx : x.sz) (person t : Int) (p : Nat) (hp : p ≤ 1000000) :
    CALL 0 N.swaps_Possible_1_1 [.t x.e, .bp 0 0, .bp 1 0, .bp 2 0] [.box [I person], .box [I p], .box [I t]] = some (B (mayW person t p x), [.box [I person], .box [I p], .box [I t]]) := by
  refine CALL_of K.t_swaps_Possible_1_1 rfl ?_
  have li := in_ok person 0 (x.whr.length - 1)
  obtain ⟨h1, h2, h3⟩ := hx
  unfold mayW
  by_cases c : 0 ≤ person ∧ person < x.whr.length
  · obtain ⟨c1, c2⟩ := c
    have e1 : (x.whr.map Wh.e)[person.toNat]? = some (nth x.whr person.toNat).e := map_nth _ (by omega)
    have h4 := h3 _ (nth_mem (l := x.whr) (j := person.toNat) (by omega))
    have li' : decide (0 ≤ person ∧ person ≤ (x.whr.length : Int) - 1) = true := by simp; omega
    rw [li'] at li
    generalize nth x.whr person.toNat = w at *
    obtain ⟨tags, whr⟩ := x
    obtain ⟨time, frm⟩ := w
    simp only at *
    by_cases c3 : p < frm.length
    · simp (disch := omega) only [go_sem, K.swaps_Possible_1_1, ↓reduceIte, Nat.reduceAdd, Nat.reduceSub, li, e1, c1, c2, c3, and_self]
    · simp (disch := omega) only [go_sem, K.swaps_Possible_1_1, ↓reduceIte, Nat.reduceAdd, Nat.reduceSub, li, e1, c1, c2, c3, and_self]
  · have li' : decide (0 ≤ person ∧ person ≤ (x.whr.length : Int) - 1) = false := by simp; omega
    rw [li'] at li
    obtain ⟨tags, whr⟩ := x
    simp only at *
    simp (disch := omega) only [go_sem, K.swaps_Possible_1_1, ↓reduceIte, Nat.reduceAdd, Nat.reduceSub, li, c]
theorem poss1_ok (b : Bel) (hb : b.sz) (person t : Int) (p : Nat) (hp : p ≤ 1000000) :
    CALL 0 N.swaps_Possible_1 [I p, .bp 0 0, .bp 1 0, .bp 2 0] [.box [.t (.sl (b.worlds.map World.e))], .box [I person], .box [I t]] = some (B (b.worlds.any (mayW person t p)), [.box [.t (.sl (b.worlds.map World.e))], .box [I person], .box [I t]]) := by
  refine CALL_of K.t_swaps_Possible_1 rfl ?_
  have cf := containsFuncW_ok b.worlds (by have := hb.1; omega) N.swaps_Possible_1_1 [[tI person], [tI p], [tI t]] (mayW person t p) (fun x hx => poss11_ok x (hb.2 x hx) person t p hp)
  have cf : CALL 0 N.slices_ContainsFunc_api_World_api_World [.t (.sl (b.worlds.map World.e)), .fn N.swaps_Possible_1_1 [.bp 0 0, .bp 1 0, .bp 2 0]] [.box [I person], .box [I p], .box [I t]] = some (B (b.worlds.any (mayW person t p)), [.box [I person], .box [I p], .box [I t]]) := cf
  simp (disch := omega) only [go_sem, K.swaps_Possible_1, ↓reduceIte, Nat.reduceAdd, Nat.reduceSub, cf]
theorem mayW_mayB (b : Bel) (person t : Int) (p : Nat) : b.worlds.any (mayW person t p) = mayB b person t p := by
  unfold mayB
  rw [any_range]
  congr 1
  funext i
  unfold mayW
  congr 1
  rw [Bool.eq_iff_iff]
  simp only [Bool.and_eq_true, decide_eq_true_eq, possF, mem_whereF_nat]
theorem possible_ok (b : Bel) (hb : b.sz) (person t : Int) : CALL 0 N.swaps_Possible [.t b.e, I person, I t] [] = some (.t (tL (possB b person t)), []) := by
  refine CALL_of K.t_swaps_Possible rfl ?_
  have wh := where_ok 64 (by omega) N.swaps_Possible_1 [[.sl (b.worlds.map World.e)], [tI person], [tI t]] (mayB b person t) (fun p hp => by rw [← mayW_mayB]; exact poss1_ok b hb person t p (by omega))
  have wh : CALL 0 N.lists_Where [I 64, .fn N.swaps_Possible_1 [.bp 0 0, .bp 1 0, .bp 2 0]] [.box [.t (.sl (b.worlds.map World.e))], .box [I person], .box [I t]] = some (.t (tL (possB b person t)), [.box [.t (.sl (b.worlds.map World.e))], .box [I person], .box [I t]]) := wh
  obtain ⟨ws⟩ := b
  simp only at wh
  generalize possB ⟨ws⟩ person t = r at *
  simp (disch := omega) only [go_sem, K.swaps_Possible, ↓reduceIte, wh, Nat.reduceAdd, Nat.reduceSub]
def meetsB (a b : List Int) : Bool := a.any fun p => decide (p ∈ b)
theorem meets1_ok (b : List Int) (hb : b.length ≤ 4294967296) (x : Int) : CALL 0 N.firerules_meets_1 [I x, .bp 0 0] [.box [.t (tL b)]] = some (B (decide (x ∈ b)), [.box [.t (tL b)]]) := by
  refine CALL_of K.t_firerules_meets_1 rfl ?_
  have c := contains_ok b x hb
  simp (disch := omega) only [go_sem, K.firerules_meets_1, ↓reduceIte, c, Nat.reduceAdd, Nat.reduceSub]
theorem meets_ok (a b : List Int) (ha : a.length ≤ 4294967296) (hb : b.length ≤ 4294967296) : CALL 0 N.firerules_meets [.t (tL a), .t (tL b)] [] = some (B (meetsB a b), []) := by
  refine CALL_of K.t_firerules_meets rfl ?_
  have cf := containsFunc_ok a ha N.firerules_meets_1 [[tL b]] (fun p => decide (p ∈ b)) (fun x _ => meets1_ok b hb x)
  have cf : CALL 0 N.slices_ContainsFunc_int_int [.t (tL a), .fn N.firerules_meets_1 [.bp 0 0]] [.box [.t (tL b)]] = some (B (meetsB a b), [.box [.t (tL b)]]) := cf
  simp (disch := omega) only [go_sem, K.firerules_meets, ↓reduceIte, cf, Nat.reduceAdd, Nat.reduceSub]
theorem possB_len (b : Bel) (person t : Int) : (possB b person t).length ≤ 64 := whereF_len _ _
def nearF (x : Mch) (b : Bel) (t : Int) : List Int := if b.worlds.length = 0 then [] else whereF (nth b.worlds 0).whr.length fun i => meetsB (possB b i t) x.pl
theorem near1_ok (x : Mch) (hx : x.pl.length ≤ 1000000) (b : Bel) (hb : b.sz) (t : Int) (i : Nat) :
    CALL 0 N.firerules_near_1 [I i, .bp 0 0, .bp 1 0, .bp 2 0] [.box [.t (.sl (b.worlds.map World.e))], .box [I t], .box [I x.kind, I x.num, .t (tL x.pl)]] = some (B (meetsB (possB b i t) x.pl), [.box [.t (.sl (b.worlds.map World.e))], .box [I t], .box [I x.kind, I x.num, .t (tL x.pl)]]) := by
  refine CALL_of K.t_firerules_near_1 rfl ?_
  have ps := possible_ok b hb i t
  have pl := possB_len b i t
  have me := meets_ok (possB b i t) x.pl (by omega) (by omega)
  obtain ⟨ws⟩ := b
  obtain ⟨kind, num, l⟩ := x
  simp only at *
  generalize possB ⟨ws⟩ i t = r at *
  simp (disch := omega) only [go_sem, K.firerules_near_1, ↓reduceIte, ps, me, Nat.reduceAdd, Nat.reduceSub]
theorem near_ok (x : Mch) (hx : x.pl.length ≤ 1000000) (b : Bel) (hb : b.sz) (t : Int) : CALL 0 N.firerules_near [.t x.e, .t b.e, I t] [] = some (.t (tL (nearF x b t)), []) := by
  refine CALL_of K.t_firerules_near rfl ?_
  unfold nearF
  by_cases c : b.worlds.length = 0
  · obtain ⟨ws⟩ := b
    obtain ⟨kind, num, l⟩ := x
    simp only at *
    simp (disch := omega) only [go_sem, K.firerules_near, ↓reduceIte, c, Nat.reduceAdd, Nat.reduceSub]
    try rfl
  · have h0 := (hb.2 _ (nth_mem (l := b.worlds) (j := 0) (by omega))).2.1
    have wh := where_ok (nth b.worlds 0).whr.length h0 N.firerules_near_1 [[.sl (b.worlds.map World.e)], [tI t], [tI x.kind, tI x.num, tL x.pl]] (fun i => meetsB (possB b i t) x.pl) (fun i _ => near1_ok x hx b hb t i)
    have wh : CALL 0 N.lists_Where [I (nth b.worlds 0).whr.length, .fn N.firerules_near_1 [.bp 0 0, .bp 1 0, .bp 2 0]] [.box [.t (.sl (b.worlds.map World.e))], .box [I t], .box [I x.kind, I x.num, .t (tL x.pl)]] =
      some (.t (tL (whereF (nth b.worlds 0).whr.length fun i => meetsB (possB b i t) x.pl)), [.box [.t (.sl (b.worlds.map World.e))], .box [I t], .box [I x.kind, I x.num, .t (tL x.pl)]]) := wh
    have e1 : (b.worlds.map World.e)[0]? = some (nth b.worlds 0).e := map_nth _ (by omega)
    rw [if_neg c]
    generalize whereF (nth b.worlds 0).whr.length (fun i => meetsB (possB b i t) x.pl) = r at *
    generalize nth b.worlds 0 = w at *
    obtain ⟨tags, whr⟩ := w
    obtain ⟨ws⟩ := b
    obtain ⟨kind, num, l⟩ := x
    simp only at *
    simp (disch := omega) only [go_sem, K.firerules_near, ↓reduceIte, c, e1, wh, Nat.reduceAdd, Nat.reduceSub]
def cmdF (x : Mch) (s : Wh) (b : Bel) (t ahead : Int) : Int :=
  if meetsB (possF s t) x.pl = true then 2 else if meetsB (possF s (t + ahead)) x.pl = true then 1
  else if x.kind = 2 ∧ (possF s (t + ahead)).length ≠ 0 ∧ (nearF x b (t + ahead)).length ≠ 0 then 3 else 0
theorem possF_len (s : Wh) (t : Int) : (possF s t).length ≤ s.frm.length := whereF_len _ _
theorem cmd_ok (m : Mine) (x : Mch) (hx : x.pl.length ≤ 1000000) (s : Wh) (hs : s.frm.length ≤ 1000000) (b : Bel) (hb : b.sz) (t ahead : Int) (h1 : -9223372036854775808 ≤ t + ahead) (h2 : t + ahead ≤ 9223372036854775807) :
    CALL 0 N.firerules_Command [.t m.e, .t x.e, .t s.e, .t b.e, I t, I ahead] [] = some (I (cmdF x s b t ahead), []) := by
  refine CALL_of K.t_firerules_Command rfl ?_
  have f1 := filled_ok s t hs
  have f2 := filled_ok s (t + ahead) hs
  have l1 := possF_len s t
  have l2 := possF_len s (t + ahead)
  have m1 := meets_ok (possF s t) x.pl (by omega) (by omega)
  have m2 := meets_ok (possF s (t + ahead)) x.pl (by omega) (by omega)
  have nr := near_ok x hx b hb (t + ahead)
  unfold cmdF
  generalize nearF x b (t + ahead) = nf at *
  generalize possF s (t + ahead) = p2 at *
  generalize possF s t = p1 at *
  obtain ⟨ws⟩ := b
  obtain ⟨kind, num, l⟩ := x
  obtain ⟨time, frm⟩ := s
  simp only at *
  cases c1 : meetsB p1 l with
  | true =>
    rw [c1] at m1
    simp (disch := omega) only [go_sem, K.firerules_Command, ↓reduceIte, f1, f2, m1, Nat.reduceAdd, Nat.reduceSub]
  | false =>
    rw [c1] at m1
    cases c2 : meetsB p2 l with
    | true =>
      rw [c2] at m2
      simp (disch := omega) only [go_sem, K.firerules_Command, ↓reduceIte, f1, f2, m1, m2, Nat.reduceAdd, Nat.reduceSub, Bool.false_eq_true]
    | false =>
      rw [c2] at m2
      by_cases c3 : kind = 2
      · subst c3
        by_cases c4 : p2.length = 0
        · simp (disch := omega) only [go_sem, K.firerules_Command, ↓reduceIte, f1, f2, m1, m2, c4, Nat.reduceAdd, Nat.reduceSub, Bool.false_eq_true, ne_eq, not_true_eq_false, false_and, and_false]
        · by_cases c5 : nf.length = 0
          · simp (disch := omega) only [go_sem, K.firerules_Command, ↓reduceIte, f1, f2, m1, m2, c4, c5, nr, Nat.reduceAdd, Nat.reduceSub, Bool.false_eq_true, ne_eq, not_true_eq_false, false_and, and_false]
          · simp (disch := omega) only [go_sem, K.firerules_Command, ↓reduceIte, f1, f2, m1, m2, c4, c5, nr, Nat.reduceAdd, Nat.reduceSub, Bool.false_eq_true, ne_eq, not_true_eq_false, not_false_eq_true, and_self]
      · simp (disch := omega) only [go_sem, K.firerules_Command, ↓reduceIte, f1, f2, m1, m2, c3, Nat.reduceAdd, Nat.reduceSub, Bool.false_eq_true, ne_eq, not_true_eq_false, false_and, and_false]
end Go.Ev

namespace Go.Ev
open Go
variable [Lib] [Has1] [Has2] [Has3] [Has4] [Has5] [Has6] [Has7] [Has8] [Has9] [Has10] [Has11]
theorem indexFuncM_ok (l : List Mch) (hl : l.length ≤ 4294967296) (f : Nat) (bs : List (List T)) (p : Mch → Bool) (h : ∀ x, x ∈ l → CALL 0 f (.t x.e :: capsN bs.length) (boxesT bs) = some (B (p x), boxesT bs)) :
    CALL 0 N.slices_IndexFunc_api_Machine_api_Machine [.t (.sl (l.map Mch.e)), .fn f (capsN bs.length)] (boxesT bs) =
    some (I (match (List.range l.length).find? (fun j => p (nth l j)) with | some j => (j : Int) | none => -1), boxesT bs) := by
  refine CALL_of K.t_slices_IndexFunc_api_Machine_api_Machine rfl ?_
  have loop : ∀ a b : D, exS CALL K.slices_IndexFunc_api_Machine_api_Machine_l1 ⟨[.t (.sl (l.map Mch.e)), .fn f (capsN bs.length), a, b, I l.length, I 0], boxesT bs⟩ =
      some (match (List.range l.length).find? (fun j => p (nth l j)) with
        | some j => (.ret, ⟨[.t (.sl (l.map Mch.e)), .fn f (capsN bs.length), I j, I j, I l.length, I j], boxesT bs⟩)
        | none => (.exit 0, ⟨[.t (.sl (l.map Mch.e)), .fn f (capsN bs.length), .und, .und, I l.length, I l.length], boxesT bs⟩)) := by
    intro a b
    refine loop_first (fun j => ⟨[.t (.sl (l.map Mch.e)), .fn f (capsN bs.length), .und, .und, I l.length, I j], boxesT bs⟩) l.length (fun j => p (nth l j)) _ _ rfl ?_ ?_ ?_ (by simp)
    · intro j hj hp
      have hc := clos_call0 (h _ (nth_mem hj)) rfl
      simp (disch := omega) only [go_sem, K.slices_IndexFunc_api_Machine_api_Machine_l1b, ↓reduceIte, hc, hp]
    · intro j hj hp
      have hc := clos_call0 (h _ (nth_mem hj)) rfl
      simp (disch := omega) only [go_sem, K.slices_IndexFunc_api_Machine_api_Machine_l1b, ↓reduceIte, hp, hc]
      simp
    · simp (disch := omega) only [go_sem, K.slices_IndexFunc_api_Machine_api_Machine_l1b, ↓reduceIte]
  simp (disch := omega) only [go_sem, K.slices_IndexFunc_api_Machine_api_Machine, ↓reduceIte, loop]
  cases hf : (List.range l.length).find? (fun j => p (nth l j)) with
  | some j => simp (disch := omega) only [go_sem, ↓reduceIte]
  | none => simp (disch := omega) only [go_sem, ↓reduceIte]
theorem containsFuncM_ok (l : List Mch) (hl : l.length ≤ 4294967296) (f : Nat) (bs : List (List T)) (p : Mch → Bool) (h : ∀ x, x ∈ l → CALL 0 f (.t x.e :: capsN bs.length) (boxesT bs) = some (B (p x), boxesT bs)) :
    CALL 0 N.slices_ContainsFunc_api_Machine_api_Machine [.t (.sl (l.map Mch.e)), .fn f (capsN bs.length)] (boxesT bs) = some (B (l.any p), boxesT bs) := by
  refine CALL_of K.t_slices_ContainsFunc_api_Machine_api_Machine rfl ?_
  have h := indexFuncM_ok l hl f bs p h
  have hc := opCa_clos2 CALL bs f _ 0 (.sl (l.map Mch.e)) h rfl
  have e := any_nthW (l := l) (p := p)
  cases hf : (List.range l.length).find? (fun j => p (nth l j)) with
  | some j => rw [hf] at e hc; simp (disch := omega) only [go_sem, K.slices_ContainsFunc_api_Machine_api_Machine, ↓reduceIte, ← e, hc]
  | none => rw [hf] at e hc; simp (disch := omega) only [go_sem, K.slices_ContainsFunc_api_Machine_api_Machine, ↓reduceIte, ← e, hc, Option.isSome_none]
theorem indexFuncH_ok (l : List Wh) (hl : l.length ≤ 4294967296) (f : Nat) (bs : List (List T)) (p : Wh → Bool) (h : ∀ x, x ∈ l → CALL 0 f (.t x.e :: capsN bs.length) (boxesT bs) = some (B (p x), boxesT bs)) :
    CALL 0 N.slices_IndexFunc_api_Whereabouts_api_Whereabouts [.t (.sl (l.map Wh.e)), .fn f (capsN bs.length)] (boxesT bs) =
    some (I (match (List.range l.length).find? (fun j => p (nth l j)) with | some j => (j : Int) | none => -1), boxesT bs) := by
  refine CALL_of K.t_slices_IndexFunc_api_Whereabouts_api_Whereabouts rfl ?_
  have loop : ∀ a b : D, exS CALL K.slices_IndexFunc_api_Whereabouts_api_Whereabouts_l1 ⟨[.t (.sl (l.map Wh.e)), .fn f (capsN bs.length), a, b, I l.length, I 0], boxesT bs⟩ =
      some (match (List.range l.length).find? (fun j => p (nth l j)) with
        | some j => (.ret, ⟨[.t (.sl (l.map Wh.e)), .fn f (capsN bs.length), I j, I j, I l.length, I j], boxesT bs⟩)
        | none => (.exit 0, ⟨[.t (.sl (l.map Wh.e)), .fn f (capsN bs.length), .und, .und, I l.length, I l.length], boxesT bs⟩)) := by
    intro a b
    refine loop_first (fun j => ⟨[.t (.sl (l.map Wh.e)), .fn f (capsN bs.length), .und, .und, I l.length, I j], boxesT bs⟩) l.length (fun j => p (nth l j)) _ _ rfl ?_ ?_ ?_ (by simp)
    · intro j hj hp
      have hc := clos_call0 (h _ (nth_mem hj)) rfl
      simp (disch := omega) only [go_sem, K.slices_IndexFunc_api_Whereabouts_api_Whereabouts_l1b, ↓reduceIte, hc, hp]
    · intro j hj hp
      have hc := clos_call0 (h _ (nth_mem hj)) rfl
      simp (disch := omega) only [go_sem, K.slices_IndexFunc_api_Whereabouts_api_Whereabouts_l1b, ↓reduceIte, hp, hc]
      simp
    · simp (disch := omega) only [go_sem, K.slices_IndexFunc_api_Whereabouts_api_Whereabouts_l1b, ↓reduceIte]
  simp (disch := omega) only [go_sem, K.slices_IndexFunc_api_Whereabouts_api_Whereabouts, ↓reduceIte, loop]
  cases hf : (List.range l.length).find? (fun j => p (nth l j)) with
  | some j => simp (disch := omega) only [go_sem, ↓reduceIte]
  | none => simp (disch := omega) only [go_sem, ↓reduceIte]
theorem containsFuncH_ok (l : List Wh) (hl : l.length ≤ 4294967296) (f : Nat) (bs : List (List T)) (p : Wh → Bool) (h : ∀ x, x ∈ l → CALL 0 f (.t x.e :: capsN bs.length) (boxesT bs) = some (B (p x), boxesT bs)) :
    CALL 0 N.slices_ContainsFunc_api_Whereabouts_api_Whereabouts [.t (.sl (l.map Wh.e)), .fn f (capsN bs.length)] (boxesT bs) = some (B (l.any p), boxesT bs) := by
  refine CALL_of K.t_slices_ContainsFunc_api_Whereabouts_api_Whereabouts rfl ?_
  have h := indexFuncH_ok l hl f bs p h
  have hc := opCa_clos2 CALL bs f _ 0 (.sl (l.map Wh.e)) h rfl
  have e := any_nthW (l := l) (p := p)
  cases hf : (List.range l.length).find? (fun j => p (nth l j)) with
  | some j => rw [hf] at e hc; simp (disch := omega) only [go_sem, K.slices_ContainsFunc_api_Whereabouts_api_Whereabouts, ↓reduceIte, ← e, hc]
  | none => rw [hf] at e hc; simp (disch := omega) only [go_sem, K.slices_ContainsFunc_api_Whereabouts_api_Whereabouts, ↓reduceIte, ← e, hc, Option.isSome_none]
theorem properB_iff {l : List Int} : properB l = true ↔ l.Nodup ∧ ∀ x ∈ l, 1 ≤ x ∧ x ≤ 65535 := by
  constructor
  · intro h
    refine ⟨properB_nodup h, fun x hx => ?_⟩
    simp only [properB, List.all_eq_true, List.mem_range, properN, decide_eq_true_eq] at h
    obtain ⟨j, hj⟩ := List.mem_iff_getElem?.1 hx
    have := h j (List.getElem?_eq_some_iff.1 hj).1
    rw [nth_eq hj] at this
    exact ⟨this.1, this.2.1⟩
  · rintro ⟨h1, h2⟩
    simp only [properB, List.all_eq_true, List.mem_range, properN, decide_eq_true_eq]
    intro j hj
    obtain ⟨a, b⟩ := h2 _ (nth_mem hj)
    refine ⟨a, b, Decidable.byContradiction fun c => ?_⟩
    obtain ⟨d, e⟩ := bearerF_lt (l := l.take j) (x := nth l j) (by omega)
    have z : 0 ≤ bearerF (l.take j) (nth l j) := by omega
    generalize bearerF (l.take j) (nth l j) = k at *
    rw [List.length_take] at d
    have k1 : k.toNat < j := by omega
    have e1 : (l.take j)[k.toNat]? = l[k.toNat]? := List.getElem?_take_of_lt k1
    have e2 : l[k.toNat]? = some l[k.toNat] := List.getElem?_eq_getElem (by omega)
    rw [nth_eq (e1.trans e2), ← nth_eq e2] at e
    have n2 := (List.getElem?_inj (by omega : k.toNat < l.length) h1).1 (show l[k.toNat]? = l[j]? by rw [nth_some (by omega), nth_some hj, e])
    omega
theorem risB_iff {l : List Int} {lo hi : Int} : risB l lo hi = true ↔ l.Pairwise (· < ·) ∧ ∀ x ∈ l, lo ≤ x ∧ x ≤ hi := by
  have e : risB l lo hi = true ↔ ∀ j, j < l.length → lo ≤ nth l j ∧ nth l j ≤ hi ∧ (0 < j → nth l (j - 1) < nth l j) := by
    simp only [risB, Bool.not_eq_true', List.any_eq_false, List.mem_range, risP, Bool.not_eq_true]
    constructor
    · intro h j hj
      have := h j hj
      exact Decidable.byContradiction fun c => this (decide_eq_false c)
    · intro h j hj c
      exact (of_decide_eq_false c) (h j hj)
  rw [e]
  constructor
  · intro h
    refine ⟨?_, fun x hx => ?_⟩
    · have key : ∀ d i, i + d + 1 < l.length → nth l i < nth l (i + d + 1) := by
        intro d
        induction d with
        | zero => intro i hi; have := (h (i + 0 + 1) hi).2.2 (by omega); simpa using this
        | succ d ih =>
          intro i hi
          have a := ih i (by omega)
          have b := (h (i + (d + 1) + 1) hi).2.2 (by omega)
          rw [show i + (d + 1) + 1 - 1 = i + d + 1 by omega] at b
          omega
      rw [List.pairwise_iff_getElem]
      intro i j hi hj hij
      have := key (j - i - 1) i (by omega)
      rw [show i + (j - i - 1) + 1 = j by omega, nth_eq (List.getElem?_eq_getElem hi), nth_eq (List.getElem?_eq_getElem hj)] at this
      exact this
    · obtain ⟨j, hj⟩ := List.mem_iff_getElem?.1 hx
      have := h j (List.getElem?_eq_some_iff.1 hj).1
      rw [nth_eq hj] at this
      exact ⟨this.1, this.2.1⟩
  · rintro ⟨h1, h2⟩ j hj
    refine ⟨(h2 _ (nth_mem hj)).1, (h2 _ (nth_mem hj)).2, fun h0 => ?_⟩
    have := (List.pairwise_iff_getElem.1 h1) (j - 1) j (by omega) hj (by omega)
    rwa [← nth_eq (List.getElem?_eq_getElem (by omega : j - 1 < l.length)), ← nth_eq (List.getElem?_eq_getElem hj)] at this
theorem ris_proper (l : List Int) : risB (sortI l) 1 65535 = properB l := by
  rw [Bool.eq_iff_iff, risB_iff, properB_iff]
  have p := sortI_perm l
  have u := sortI_up l
  constructor
  · rintro ⟨h1, h2⟩
    refine ⟨p.nodup_iff.1 (h1.imp fun h => by omega), fun x hx => h2 x (p.mem_iff.2 hx)⟩
  · rintro ⟨h1, h2⟩
    have nd : (sortI l).Nodup := p.nodup_iff.2 h1
    refine ⟨?_, fun x hx => h2 x (p.mem_iff.1 hx)⟩
    have := List.Pairwise.and u nd
    exact this.imp fun h => by omega
theorem tagged_ok (l : List Int) (hl : l.length ≤ 1000000) : CALL 0 N.swaps_tagged [.t (tL l)] [] = some (B (properB l), []) := by
  refine CALL_of K.t_swaps_tagged rfl ?_
  have v := values_ok l
  have s := sorted_ok l hl
  have r := rising_ok (sortI l) 1 65535 (by rw [sortI_len]; omega)
  rw [ris_proper] at r
  simp (disch := omega) only [go_sem, K.swaps_tagged, ↓reduceIte, v, s, r, Nat.reduceAdd, Nat.reduceSub]
end Go.Ev

namespace Go.Ev
open Go
variable [Lib] [Has1] [Has2] [Has6] [Has7] [Has8] [Has9]
def smE (into : Option (List Int)) : Heap := match into with
  | none => []
  | some s => [.box [.t (tL s)]]
def smD (into : Option (List Int)) : D := match into with
  | none => .fn N.places_all []
  | some _ => .fn N.places_Absent_1 [.bp 5 0]
def smK (into : Option (List Int)) : Nat := match into with
  | none => 5
  | some _ => 6
@[go_sem] theorem ixAt_1 (H : Heap) (len j : Nat) (ts : List T) (h : j < len) : ixAt H len 1 false (.t (.agg ts)) j = (ts[j]?).map fun t => (.t t, H) := by
  have h0 : len ≠ 0 := by omega
  unfold ixAt indexD
  rw [if_neg h0, if_pos h]
  unfold fieldD cut
  simp only [D.isAgg, D.cells, T.cells, if_true, Nat.mul_one, List.length_map]
  by_cases hj : j < ts.length
  · rw [if_pos (by omega), List.getElem?_eq_getElem hj]
    have e : ((ts.map D.t).drop j).take 1 = [D.t ts[j]] := by
      rw [List.drop_eq_getElem_cons (by simpa using hj)]; simp
    rw [e]; rfl
  · rw [if_neg (by omega), List.getElem?_eq_none (by omega)]; rfl
def fallC (into : Option (List Int)) (l : List Int) (q : Nat) (x : Int) : Bool := decide (x ≤ 2147483648 ∧ x < nth l q) && inOK into q
theorem low1_ok (into : Option (List Int)) (hi : ∀ s, into = some s → s.length ≤ 64) (l : List Int) (hl : l.length ≤ 64) (hb : bnd l) (p : Int) (q : Nat) (hq : q < l.length) (n t : Int) (ch : Bool) :
    CALL 0 N.places_lowered_1 [I p, I q, I n, .bp 0 0, .bp 1 0, .bp 2 0, .bp 3 0] (.box [I t] :: .box [.ref 4 0 l.length] :: .box [smD into] :: .box [B ch] :: arr1 l :: smE into) =
      some (.tup [], if fallC into l q (max n t) = true then .box [I t] :: .box [.ref 4 0 l.length] :: .box [smD into] :: .box [B true] :: arr1 (l.set q (max n t)) :: smE into
        else .box [I t] :: .box [.ref 4 0 l.length] :: .box [smD into] :: .box [B ch] :: arr1 l :: smE into) := by
  refine CALL_of K.t_places_lowered_1 rfl ?_
  have ln : (l.set q (max n t)).length = l.length := List.length_set ..
  have a := pall_ok q
  have b := hb _ (nth_mem hq)
  unfold fallC
  cases into with
  | none =>
    simp only [smE, smD, inOK, Bool.and_true, decide_eq_true_eq]
    by_cases c1 : max n t ≤ 2147483648
    · by_cases c2 : max n t < nth l q
      · simp (disch := omega) only [go_sem, K.places_lowered_1, ↓reduceIte, a, c1, c2, and_self, Nat.reduceAdd, Nat.reduceSub]
      · simp (disch := omega) only [go_sem, K.places_lowered_1, ↓reduceIte, c1, c2, and_false, Nat.reduceAdd, Nat.reduceSub]
    · simp (disch := omega) only [go_sem, K.places_lowered_1, ↓reduceIte, c1, false_and, Nat.reduceAdd, Nat.reduceSub]
  | some s =>
    have a2 := pabs1_ok q s (by have := hi s rfl; omega)
    simp only [smE, smD, inOK]
    by_cases c1 : max n t ≤ 2147483648
    · by_cases c2 : max n t < nth l q
      · by_cases c3 : (q : Int) ∈ s
        · simp only [c3, decide_true] at a2
          simp (disch := omega) only [go_sem, K.places_lowered_1, ↓reduceIte, a2, c1, c2, c3, and_self, decide_true, Bool.and_true, Nat.reduceAdd, Nat.reduceSub]
        · simp only [c3, decide_false] at a2
          simp (disch := omega) only [go_sem, K.places_lowered_1, ↓reduceIte, a2, c1, c2, c3, and_self, decide_false, Bool.and_false, Nat.reduceAdd, Nat.reduceSub]
      · simp (disch := omega) only [go_sem, K.places_lowered_1, ↓reduceIte, c1, c2, and_false, decide_false, Bool.false_and, Nat.reduceAdd, Nat.reduceSub]
    · simp (disch := omega) only [go_sem, K.places_lowered_1, ↓reduceIte, c1, false_and, decide_false, Bool.false_and, Nat.reduceAdd, Nat.reduceSub]
end Go.Ev

