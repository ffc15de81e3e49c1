/- Parts of the proof: see the text that holds the theorem. -/
import Derived.Test.YthecjbcacbllaaaZ5
set_option linter.all false
/- SmokeMade: the law. -/
namespace Go.Ev
open Go
variable [Lib] [Has1] [Has2] [Has3] [Has4] [Has6] [Has7]

theorem spread_x {d : Dice} (hd : d.light) {m : Mine} (hm : m.ok) (h1 : 1 ≤ m.places.length) {fl : List Spn} (f1 : fl.length = m.roads.length) (f2 : ∀ x ∈ fl, x.ok) :
    ∃ (s : Wh) (e : Dice), CALL 0 N.made_Dice_Spread [.bp 0 0, .t m.e, .t (tS fl)] [d.obj] = some (.t s.e, [e.obj]) ∧ e.light ∧ s.frm.length = m.places.length ∧ 0 ≤ s.time ∧ s.time ≤ 300 := by
  have g := Dice.spread_good (d := d) hm h1 (flB_of f1 f2)
  have nr := hm.nr
  exact ⟨_, _, spread_ok hm h1 fl (by omega) d hd, Dice.spread_light hd m fl, g.1, g.2.1, g.2.2⟩
theorem some_x {d : Dice} (hd : d.light) (n : Nat) (hn : n ≤ 1000000) :
    ∃ (l : List Int) (e : Dice), CALL 0 N.made_Dice_Some [.bp 0 0, I n] [d.obj] = some (.t (tL l), [e.obj]) ∧ e.light ∧ l.length ≤ n :=
  ⟨_, _, some_ok d n hn hd, Dice.someN_light hd n, d.someN_len n⟩

def setR (l : List Road) (k : Nat) (c : Bool) : List Road := l.set k { nth l k with closed := c }
theorem setR_map (l : List Road) (k : Nat) (c : Bool) : ((l.map Road.e).map D.t).set k (.t (.agg [tI (nth l k).frm, tI (nth l k).to, tI (nth l k).len, tI (nth l k).area, .bool (nth l k).walk, .bool c, tI (nth l k).restL, tI (nth l k).restH, tI (nth l k).liftL, tI (nth l k).liftH])) = ((setR l k c).map Road.e).map D.t := by
  unfold setR; rw [List.map_set, List.map_set]
theorem setS_map (l : List Spn) (k : Nat) (f : Spn) : ((l.map Spn.e).map D.t).set k (.t (.agg [tI f.low, tI f.high])) = ((l.set k f).map Spn.e).map D.t := by
  rw [List.map_set, List.map_set]
theorem close_good {m : Mine} (hm : m.ok) (k : Nat) (c : Bool) : (Mine.mk m.places (setR m.roads k c)).ok := by
  by_cases hk : k < m.roads.length
  · refine ⟨hm.np, by simp only [setR, List.length_set]; exact hm.nr, hm.hs, fun r hr => ?_⟩
    rcases List.mem_or_eq_of_mem_set hr with h | h
    · exact hm.rs r h
    · subst h
      have o := hm.rs _ (nth_mem hk)
      exact ⟨o.f0, o.f1, o.t0, o.t1, o.ne, o.l0, o.l1, o.a0, o.a1, o.r0, o.r1, o.r2, o.i0, o.i1, o.i2⟩
  · unfold setR
    rw [List.set_eq_of_length_le (by omega)]
    exact hm

/-- The rounds over roads and directions. -/
theorem made_loop {m : Mine} (hm : m.ok) (fl : List Spn) (f1 : fl.length = m.roads.length) (f2 : ∀ x ∈ fl, x.ok) (r1 : 1 ≤ m.roads.length) (flow : Spn) (road : Int) (d : Dice) (sp nx : List D) (rs : List Road) (f8 : D) (h8 : old 6 8 f8 = true) (hs : allOld 6 8 sp = true) (hx : allOld 6 8 nx = true) :
    ∀ z0 z2 z4 z12 z13 z14 z15 z16 z17 : D, exS CALL K.law28_SmokeMade_l1 ⟨[z0, I road, z2, .bp 0 0, z4, .bp 1 0, .bp 2 0, .t (tS fl), f8, .bp 3 0, .bp 4 0, I (-1), z12, z13, z14, z15, z16, z17], [.box [I flow.low, I flow.high], d.obj, .box (mineCells m), .box sp, .box nx, .arr 10 false 0 ((rs.map Road.e).map .t)]⟩ =
      some (.exit 0, ⟨[.und, I road, .und, .bp 0 0, .und, .bp 1 0, .bp 2 0, .t (tS fl), f8, .bp 3 0, .bp 4 0, I (m.roads.length + 1), .und, .und, .und, .und, .und, .und], [.box [I flow.low, I flow.high], d.obj, .box (mineCells m), .box sp, .box nx, .arr 10 false 0 ((rs.map Road.e).map .t)]⟩) := by
  have nr := hm.nr
  have inner : ∀ r : Int, -1 ≤ r → r ≤ m.roads.length → ∀ z0 z2 z4 z12 z13 z14 : D, exS CALL K.law28_SmokeMade_l2 ⟨[z0, I road, z2, .bp 0 0, z4, .bp 1 0, .bp 2 0, .t (tS fl), f8, .bp 3 0, .bp 4 0, I r, z12, z13, z14, .t (.sl [.bool false, .bool true]), I 2, I 0], [.box [I flow.low, I flow.high], d.obj, .box (mineCells m), .box sp, .box nx, .arr 10 false 0 ((rs.map Road.e).map .t)]⟩ =
      some (.exit 2, ⟨[.und, I road, .und, .bp 0 0, .und, .bp 1 0, .bp 2 0, .t (tS fl), f8, .bp 3 0, .bp 4 0, I r, .und, .und, .und, .t (.sl [.bool false, .bool true]), I 2, I 2], [.box [I flow.low, I flow.high], d.obj, .box (mineCells m), .box sp, .box nx, .arr 10 false 0 ((rs.map Road.e).map .t)]⟩) := by
    intro r r0 r9 z0 z2 z4 z12 z13 z14
    refine loop_up (fun j => ⟨[.und, I road, .und, .bp 0 0, .und, .bp 1 0, .bp 2 0, .t (tS fl), f8, .bp 3 0, .bp 4 0, I r, .und, .und, .und, .t (.sl [.bool false, .bool true]), I 2, I j], [.box [I flow.low, I flow.high], d.obj, .box (mineCells m), .box sp, .box nx, .arr 10 false 0 ((rs.map Road.e).map .t)]⟩) 2 rfl ?_ ?_ (by simp)
    · intro j hj
      have mo := mod_ok r fl.length (by omega)
      have m0 := Mod_lo r fl.length
      have m9 := Mod_hi r fl.length (by omega)
      generalize Mod r fl.length = q at *
      have gf : (fl.map Spn.e)[q.toNat]? = some (nth fl q.toNat).e := map_nth _ (by omega)
      have fk := f2 _ (nth_mem (l := fl) (j := q.toNat) (by omega))
      have sp := span28_ok flow
      obtain ⟨v1, a1, b1⟩ := travels_ok hm r _ fk false
      obtain ⟨v2, a2, b2⟩ := travels_ok hm r _ fk true
      generalize nth fl q.toNat = fx at *
      have tr := fun (ho : flow.ok) (r : Int) (back : Bool) => travels_ok hm r flow ho back
      obtain ⟨places, roads⟩ := m
      obtain ⟨flo, fhi⟩ := flow
      obtain ⟨xlo, xhi⟩ := fx
      simp only [mineCells] at *
      have hj2 : j = 0 ∨ j = 1 := by omega
      by_cases ho : (Spn.mk flo fhi).ok
      · simp only [ho, decide_true] at sp
        obtain ⟨w1, c1, d1⟩ := tr ho r false
        obtain ⟨w2, c2, d2⟩ := tr ho r true
        obtain ⟨u1, g1, h1⟩ := tr ho road false
        obtain ⟨u2, g2, h2⟩ := tr ho road true
        clear tr
        rcases hj2 with rfl | rfl
        · simp (disch := omega) only [go_sem, K.law28_SmokeMade_l2b, ↓reduceIte, mo, gf, sp, a1, b1, c1, d1, g1, h1, h8, hs, hx, Nat.reduceAdd, Nat.reduceSub]
        · simp (disch := omega) only [go_sem, K.law28_SmokeMade_l2b, ↓reduceIte, mo, gf, sp, a2, b2, c2, d2, g2, h2, h8, hs, hx, Int.reduceAdd, Nat.reduceAdd, Nat.reduceSub]
      · simp only [ho, decide_false] at sp
        clear tr
        rcases hj2 with rfl | rfl
        · simp (disch := omega) only [go_sem, K.law28_SmokeMade_l2b, ↓reduceIte, mo, gf, sp, a1, b1, h8, hs, hx, Nat.reduceAdd, Nat.reduceSub]
        · simp (disch := omega) only [go_sem, K.law28_SmokeMade_l2b, ↓reduceIte, mo, gf, sp, a2, b2, h8, hs, hx, Int.reduceAdd, Nat.reduceAdd, Nat.reduceSub]
    · simp (disch := omega) only [go_sem, K.law28_SmokeMade_l2b, ↓reduceIte, Nat.reduceAdd, Nat.reduceSub]
  intro z0 z2 z4 z12 z13 z14 z15 z16 z17
  refine loop_up (fun j => ⟨[.und, I road, .und, .bp 0 0, .und, .bp 1 0, .bp 2 0, .t (tS fl), f8, .bp 3 0, .bp 4 0, I ((j : Int) - 1), .und, .und, .und, .und, .und, .und], [.box [I flow.low, I flow.high], d.obj, .box (mineCells m), .box sp, .box nx, .arr 10 false 0 ((rs.map Road.e).map .t)]⟩) (m.roads.length + 2) rfl ?_ ?_ (by simp)
  · intro j hj
    have i := inner ((j : Int) - 1) (by omega) (by omega)
    have e : ((j : Int) - 1) + 1 = ((j + 1 : Nat) : Int) - 1 := by omega
    obtain ⟨places, roads⟩ := m
    simp only [mineCells] at *
    rw [← e]
    clear inner
    simp (disch := omega) only [go_sem, K.law28_SmokeMade_l1b, ↓reduceIte, i, h8, hs, hx, Nat.reduceAdd, Nat.reduceSub]
  · have e : ((m.roads.length + 2 : Nat) : Int) - 1 = m.roads.length + 1 := by omega
    rw [e]
    clear inner
    obtain ⟨places, roads⟩ := m
    simp only [mineCells] at *
    simp (disch := omega) only [go_sem, K.law28_SmokeMade_l1b, ↓reduceIte, Nat.reduceAdd, Nat.reduceSub]

theorem SmokeMade_law (aw : CALL 0 N.law28_awake [] [] = some (B true, [])) (li : List Int) (road : Int) (flow : Spn) : CALL 0 N.law28_SmokeMade [.t (tL li), I road, .t flow.e] [] = some (B true, []) := by
  refine CALL_of K.t_law28_SmokeMade rfl ?_
  have lo := light_ok li
  by_cases c : li.length ≤ 400
  · simp only [c, decide_true] at lo
    have ro := roll_x li
    have d0 : (Dice.mk li 0).light := c
    generalize (Dice.mk li 0) = d at *
    obtain ⟨m, e1, mo, l1, hm, p1, p2, r1, r2⟩ := mine_x d0
    obtain ⟨fl, e2, fo, l2, f1, f2⟩ := flows_x l1 hm
    obtain ⟨fl2, e3, fo2, l3, f3, f4⟩ := flows_x l2 hm
    obtain ⟨s, e4, so, l4, s1, s2, s3⟩ := spread_x l3 hm (by omega) f1 f2
    obtain ⟨k, e5, ko, l5, k0, k9⟩ := next_x l4 m.roads.length (by omega) (by omega)
    obtain ⟨cl, e6, co, l6⟩ := one_x l5 2 (by omega) (by omega)
    have kn : k.toNat < m.roads.length := by omega
    have g : (m.roads.map Road.e)[k.toNat]? = some (nth m.roads k.toNat).e := map_nth _ kn
    have hn := close_good hm k.toNat cl
    have sm := setR_map m.roads k.toNat cl
    obtain ⟨k2, e7, ko2, l7, k20, k29⟩ := next_x l6 fl2.length (by omega) (by omega)
    obtain ⟨l, e8, so2, l8, sl⟩ := some_x l7 m.places.length (by omega)
    obtain ⟨v, e9, oo, l9, vm⟩ := of_x l8 [0, 30, 200, -1] (by simp) (by simp)
    have vb : -1 ≤ v ∧ v ≤ 200 := by simp only [List.mem_cons, List.not_mem_nil, or_false] at vm; omega
    have rl : (setR m.roads k.toNat cl).length = m.roads.length := List.length_set ..
    have ol : (fl2.set k2.toNat flow).length = fl2.length := List.length_set ..
    have a1 := agree28_ok hm (by omega) fl (by omega) hn fl2 (by omega) s (by omega) l (by omega) (s.time + v)
    have a2 := agree28_ok hm (by omega) (fl2.set k2.toNat flow) (by simp; omega) hn (fl2.set k2.toNat flow) (by simp; omega) s (by omega) [0] (by simp) (s.time + 9)
    have os := setS_map fl2 k2.toNat flow
    simp only [tL, List.map_cons, List.map_nil] at oo a2
    have lp := made_loop hm fl f1 f2 r1 flow road e6 [I s.time, .t (tL s.frm)] [.t (.sl (m.places.map Place.e)), .ref 5 0 m.roads.length] (setR m.roads k.toNat cl) (.t (tS fl2)) rfl rfl rfl
    generalize hrs : setR m.roads k.toNat cl = rs at *
    obtain ⟨places, roads⟩ := m
    obtain ⟨time, frm⟩ := s
    obtain ⟨flo, fhi⟩ := flow
    simp only at *
    simp (disch := omega) only [go_sem, K.law28_SmokeMade, ↓reduceIte, lo, ro, mo, fo, fo2, so, ko, co, Nat.reduceAdd, Nat.reduceSub]
    rw [sm]
    simp only [mineCells] at lp
    simp (disch := omega) only [go_sem, K.law28_SmokeMade, ↓reduceIte, lp, ko2, os, so2, oo, a1, a2, aw, rl, ol, Nat.reduceAdd, Nat.reduceSub]
  · simp only [c, decide_false] at lo
    obtain ⟨flo, fhi⟩ := flow
    simp (disch := omega) only [go_sem, K.law28_SmokeMade, ↓reduceIte, lo, aw, Nat.reduceAdd, Nat.reduceSub]
end Go.Ev

