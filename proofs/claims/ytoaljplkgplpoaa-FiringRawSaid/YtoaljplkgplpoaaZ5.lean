/- Parts of the proof: see the text that holds the theorem. -/
import Derived.Test.YtoaljplkgplpoaaZ4
set_option linter.all false
set_option maxRecDepth 100000
/- Chapter 26 of the references: sights. -/
namespace Go.Ev
open Go
variable [Lib] [Has1] [Has2]

@[go_sem] theorem allS_nil : ([] : List D).all scalarD = true := (rfl)
@[go_sem] theorem allS_cons (d : D) (r : List D) : (d :: r).all scalarD = (scalarD d && r.all scalarD) := (rfl)
@[go_sem] theorem scalarD_agg (cs : List T) : scalarD (.t (.agg cs)) = false := (rfl)
@[go_sem] theorem scalarD_sl (cs : List T) : scalarD (.t (.sl cs)) = false := (rfl)
@[go_sem] theorem scalarD_int (k : IntKind) (n : Int) : scalarD (.t (.int k n)) = true := (rfl)
@[go_sem] theorem scalarD_bool (b : Bool) : scalarD (.t (.bool b)) = true := (rfl)
@[go_sem] theorem set_wh (l : List Wh) (k : Nat) (a : Int) (b : List Int) : (List.map D.t (List.map Wh.e l)).set k (D.t (T.agg [tI a, tL b])) = List.map D.t (List.map Wh.e (l.set k ⟨a, b⟩)) := by
  rw [List.map_set, List.map_set]

/-- What a sight makes of one world: whether it is left out, and the new one. -/
def seeW (m : Mine) (tag : Int) (l : List Int) (a b : Int) (x : World) : Wh × Int := seeF m (nth x.whr (bearerF x.tags tag).toNat) l a b
def putW (tag : Int) (x : World) (w : Wh) : World := ⟨x.tags, x.whr.set (bearerF x.tags tag).toNat w⟩
def stepW (tag : Int) (r : Wh × Int) (x : World) (out : List World) : List World :=
  if r.2 = 43 then out else out ++ [if r.2 = 0 then putW tag x r.1 else x]
def seeNb (m : Mine) (tag : Int) (l : List Int) (a b : Int) (ws : List World) : Nat → List World
  | 0 => []
  | j + 1 => stepW tag (seeW m tag l a b (nth ws j)) (nth ws j) (seeNb m tag l a b ws j)

theorem stepW_len (tag : Int) (r : Wh × Int) (x : World) (out : List World) : (stepW tag r x out).length ≤ out.length + 1 := by
  unfold stepW; split <;> simp
theorem seeNb_len (m : Mine) (tag : Int) (l : List Int) (a b : Int) (ws : List World) : ∀ j, (seeNb m tag l a b ws j).length ≤ j
  | 0 => by simp [seeNb]
  | j + 1 => by
    have := seeNb_len m tag l a b ws j
    have := stepW_len tag (seeW m tag l a b (nth ws j)) (nth ws j) (seeNb m tag l a b ws j)
    simp only [seeNb]; omega

abbrev seeH (m : Mine) (ws out : List World) : Heap := [.box (mineCells m), .box [.t (.sl (ws.map World.e))], .box [.nil], .box [.ref 4 0 out.length], .arr 2 false 0 ((out.map World.e).map .t)]

theorem see_round {m : Mine} (h : m.ok) (ws : List World) (hw : ws.length ≤ 1000000) (tag : Int) (l : List Int) (hp : l.length ≤ 1000000) (a b : Int) (i : Nat) (hi : i < ws.length) (hs : (nth ws i).sz)
    (hb : 0 ≤ bearerF (nth ws i).tags tag) (hb2 : bearerF (nth ws i).tags tag < (nth ws i).whr.length) (out : List World) (ho : out.length ≤ 1000000) :
    ((seeW m tag l a b (nth ws i)).2 ≠ 6 ∧ (seeW m tag l a b (nth ws i)).2 ≠ 8 → roundC true [0, 1, 9, 10, 13, 14, 15, 16, 17, 18] 5 (exS CALL K.ref26_See_l1b ⟨[.und, .und, I tag, .t (tL l), I a, I b, .bp 0 0, .bp 1 0, .bp 2 0, .und, .und, .bp 3 0, I i, .und, .und, .und, .und, .und, .und], seeH m ws out⟩) =
      some ⟨[.und, .und, I tag, .t (tL l), I a, I b, .bp 0 0, .bp 1 0, .bp 2 0, .und, .und, .bp 3 0, I (i + 1), .und, .und, .und, .und, .und, .und], seeH m ws (stepW tag (seeW m tag l a b (nth ws i)) (nth ws i) out)⟩) ∧
    ((seeW m tag l a b (nth ws i)).2 = 6 ∨ (seeW m tag l a b (nth ws i)).2 = 8 → ∃ vs H, exS CALL K.ref26_See_l1b ⟨[.und, .und, I tag, .t (tL l), I a, I b, .bp 0 0, .bp 1 0, .bp 2 0, .und, .und, .bp 3 0, I i, .und, .und, .und, .und, .und, .und], seeH m ws out⟩ =
      some (.ret, ⟨vs, H⟩) ∧ vs[8]? = some (.bp 2 0) ∧ vs[9]? = some (I (seeW m tag l a b (nth ws i)).2) ∧ H[2]? = some (.box [.t (.sl (ws.map World.e))])) := by
  unfold seeW stepW putW
  have c1 := copyWorld_ok1 (nth ws i) hs
  have br := bearer_ok (nth ws i).tags tag (by have := hs.1; omega)
  have s3 := hs.2.2 _ (nth_mem (l := (nth ws i).whr) (j := (bearerF (nth ws i).tags tag).toNat) (by omega))
  have se := see_ok h (nth (nth ws i).whr (bearerF (nth ws i).tags tag).toNat) s3 l hp a b
  generalize hx : nth ws i = x at *
  obtain ⟨tags, whr⟩ := x
  simp only at c1 br s3 se hb hb2 ⊢
  generalize bearerF tags tag = k at *
  generalize hy : nth whr k.toNat = y at *
  generalize seeF m y l a b = r at *
  obtain ⟨⟨time, frm⟩, e⟩ := r
  obtain ⟨t0, f0⟩ := y
  obtain ⟨s1, s2, -⟩ := hs
  simp only at s1 s2 s3 se ⊢
  constructor
  · rintro ⟨n6, n8⟩
    by_cases e43 : e = 43
    · subst e43
      simp (disch := omega) only [go_sem, K.ref26_See_l1b, ↓reduceIte, seeH, hx, hy, c1, br, se, Nat.reduceAdd, Nat.reduceSub]
    · by_cases e0 : e = 0
      · subst e0
        simp (disch := omega) only [go_sem, K.ref26_See_l1b, ↓reduceIte, seeH, hx, hy, c1, br, se, Nat.reduceAdd, Nat.reduceSub]
      · simp (disch := omega) only [go_sem, K.ref26_See_l1b, ↓reduceIte, seeH, hx, hy, c1, br, se, Nat.reduceAdd, Nat.reduceSub]
  · rintro (h68 | h68) <;> subst h68
    · simp (disch := omega) only [go_sem, K.ref26_See_l1b, ↓reduceIte, seeH, hx, hy, c1, br, se, Nat.reduceAdd, Nat.reduceSub]
      exact ⟨_, _, rfl, rfl, rfl, rfl⟩
    · simp (disch := omega) only [go_sem, K.ref26_See_l1b, ↓reduceIte, seeH, hx, hy, c1, br, se, Nat.reduceAdd, Nat.reduceSub]
      exact ⟨_, _, rfl, rfl, rfl, rfl⟩

def seeBad (m : Mine) (tag : Int) (l : List Int) (a b : Int) (ws : List World) (j : Nat) : Bool := decide ((seeW m tag l a b (nth ws j)).2 = 6 ∨ (seeW m tag l a b (nth ws j)).2 = 8)
def seeBel (m : Mine) (b : Bel) (tag : Int) (l : List Int) (a c : Int) : Bel × Int :=
  if borneF m b tag ≠ 0 then (b, borneF m b tag) else match (List.range b.worlds.length).find? (seeBad m tag l a c b.worlds) with
    | some i => (b, (seeW m tag l a c (nth b.worlds i)).2)
    | none => if (seeNb m tag l a c b.worlds b.worlds.length).length = 0 then (b, 43) else (⟨seeNb m tag l a c b.worlds b.worlds.length⟩, 0)

theorem seeBel_ok {m : Mine} (h : m.ok) (b : Bel) (hs : b.sz) (tag : Int) (l : List Int) (hp : l.length ≤ 1000000) (a c : Int) :
    CALL 0 N.ref26_See [.t m.e, .t b.e, I tag, .t (tL l), I a, I c] [] = some (.tup [.t (seeBel m b tag l a c).1.e, I (seeBel m b tag l a c).2], []) := by
  refine CALL_of K.t_ref26_See rfl ?_
  have cb := copyBel_ok b hs
  have bo := borne_ok h b hs tag
  unfold seeBel
  by_cases e0 : borneF m b tag = 0
  · have hb : belB m b = true := by
      unfold borneF at e0
      by_cases hb : belB m b = true
      · exact hb
      · rw [if_pos (by simpa using hb)] at e0; omega
    have ht : 0 ≤ bearerF (nth b.worlds 0).tags tag := by
      unfold borneF at e0
      rw [if_neg (by simp [hb])] at e0
      by_cases ht : bearerF (nth b.worlds 0).tags tag < 0
      · rw [if_pos ht] at e0; omega
      · omega
    have bb : ∀ i, i < b.worlds.length → 0 ≤ bearerF (nth b.worlds i).tags tag ∧ bearerF (nth b.worlds i).tags tag < (nth b.worlds i).whr.length := fun i hi => by
      obtain ⟨-, -, -, -, h5⟩ := belB_spec hb
      obtain ⟨w1, w2, -⟩ := worldB_spec (h5 i hi)
      have b1 := belB_bearer hb ht (i := i) hi
      have b2 := (bearerF_lt b1).1
      exact ⟨b1, by omega⟩
    rw [e0] at bo
    obtain ⟨ws⟩ := b
    obtain ⟨s1, s2⟩ := hs
    simp only at s1 s2 bb cb bo ⊢
    have ln := seeNb_len m tag l a c ws
    have loop := fun x y z u v w p q r => loop_find (gc := true) (dead := [0, 1, 9, 10, 13, 14, 15, 16, 17, 18]) (c := K.ref26_See_l1b)
      (vs := [x, y, I tag, .t (tL l), I a, I c, .bp 0 0, .bp 1 0, .bp 2 0, z, u, .bp 3 0, I 0, v, w, p, q, r, .und]) (H := seeH m ws [])
      (fun j => ⟨[.und, .und, I tag, .t (tL l), I a, I c, .bp 0 0, .bp 1 0, .bp 2 0, .und, .und, .bp 3 0, I j, .und, .und, .und, .und, .und, .und], seeH m ws (seeNb m tag l a c ws j)⟩) ws.length (seeBad m tag l a c ws)
      (fun j q => q.1 = .ret ∧ q.2.vs[8]? = some (.bp 2 0) ∧ q.2.vs[9]? = some (I (seeW m tag l a c (nth ws j)).2) ∧ q.2.H[2]? = some (.box [.t (.sl (ws.map World.e))]))
      (.exit 0, ⟨[.und, .und, I tag, .t (tL l), I a, I c, .bp 0 0, .bp 1 0, .bp 2 0, .und, .und, .bp 3 0, I ws.length, .und, .und, .und, .und, .und, .und], seeH m ws (seeNb m tag l a c ws ws.length)⟩) rfl
      (fun j hj hq => by
        have := ln j
        have hq : ¬ ((seeW m tag l a c (nth ws j)).2 = 6 ∨ (seeW m tag l a c (nth ws j)).2 = 8) := by simpa [seeBad] using hq
        obtain ⟨b1, b2⟩ := bb j hj
        exact (see_round h ws s1 tag l hp a c j hj (s2 _ (nth_mem hj)) b1 b2 (seeNb m tag l a c ws j) (by omega)).1 (by omega))
      (fun j hj hq => by
        have := ln j
        have hq : (seeW m tag l a c (nth ws j)).2 = 6 ∨ (seeW m tag l a c (nth ws j)).2 = 8 := by simpa [seeBad] using hq
        obtain ⟨b1, b2⟩ := bb j hj
        obtain ⟨vs, H, q1, q2⟩ := (see_round h ws s1 tag l hp a c j hj (s2 _ (nth_mem hj)) b1 b2 (seeNb m tag l a c ws j) (by omega)).2 hq
        exact ⟨_, q1, by simp, rfl, q2⟩)
      (by
        have := ln ws.length
        generalize seeNb m tag l a c ws ws.length = L at *
        simp (disch := omega) only [go_sem, K.ref26_See_l1b, ↓reduceIte, seeH, Nat.reduceAdd, Nat.reduceSub]) (by simp)
    have loop' : ∀ x y z u v w p q r, _ ∨ _ := loop
    clear loop
    rcases loop' (.t m.e) (.t (Bel.e ⟨ws⟩)) (I 0) (I 0) .und .und .und .und .und with ⟨e1, e2⟩ | ⟨j, ⟨x, vs, H⟩, e1, e2, e3, e4, e5, e6⟩
    · have e2 : exS CALL K.ref26_See_l1 _ = _ := e2
      simp only [seeH, List.map_nil, List.length_nil] at e2
      have := ln ws.length
      rw [e1]
      generalize seeNb m tag l a c ws ws.length = L at *
      by_cases L0 : L.length = 0
      · simp (disch := omega) only [go_sem, K.ref26_See, ↓reduceIte, cb, bo, e2, L0, Nat.reduceAdd, Nat.reduceSub, ne_eq, not_true_eq_false]
      · simp (disch := omega) only [go_sem, K.ref26_See, ↓reduceIte, cb, bo, e2, L0, Nat.reduceAdd, Nat.reduceSub, ne_eq, not_true_eq_false]
    · have e2 : exS CALL K.ref26_See_l1 _ = _ := e2
      simp only [seeH, List.map_nil, List.length_nil] at e2
      rw [e1]
      simp only at e3 e4 e5 e6
      subst e3
      simp (disch := omega) only [go_sem, K.ref26_See, ↓reduceIte, cb, bo, e2, Nat.reduceAdd, Nat.reduceSub, ne_eq, not_true_eq_false, e4, e5, e6, List.take_zero]
  · obtain ⟨ws⟩ := b
    simp (disch := omega) only [go_sem, K.ref26_See, ↓reduceIte, cb, bo, e0, ne_eq, not_false_eq_true]

end Go.Ev

/- Chapter 26 of the references: absences. -/
namespace Go.Ev
open Go
variable [Lib] [Has1] [Has2]

def absW (m : Mine) (tag : Int) (l : List Int) (a b bl : Int) (x : World) : Wh × Int := absF m (nth x.whr (bearerF x.tags tag).toNat) l a b bl
def stepA (tag : Int) (r : Wh × Int) (x : World) (out : List World) : List World := out ++ [if r.2 = 0 then putW tag x r.1 else x]
def absNb (m : Mine) (tag : Int) (l : List Int) (a b bl : Int) (ws : List World) : Nat → List World
  | 0 => []
  | j + 1 => stepA tag (absW m tag l a b bl (nth ws j)) (nth ws j) (absNb m tag l a b bl ws j)
theorem absNb_len (m : Mine) (tag : Int) (l : List Int) (a b bl : Int) (ws : List World) : ∀ j, (absNb m tag l a b bl ws j).length = j
  | 0 => rfl
  | j + 1 => by
    simp only [absNb, stepA, List.length_append, absNb_len m tag l a b bl ws j, List.length_singleton]

theorem abs_round {m : Mine} (h : m.ok) (ws : List World) (hw : ws.length ≤ 1000000) (tag : Int) (l : List Int) (hp : l.length ≤ 1000000) (a b bl : Int) (i : Nat) (hi : i < ws.length) (hs : (nth ws i).sz)
    (hb : 0 ≤ bearerF (nth ws i).tags tag) (hb2 : bearerF (nth ws i).tags tag < (nth ws i).whr.length) (out : List World) (ho : out.length ≤ 1000000) :
    ((absW m tag l a b bl (nth ws i)).2 ≠ 6 ∧ (absW m tag l a b bl (nth ws i)).2 ≠ 8 → roundC true [0, 1, 10, 11, 14, 15, 16, 17] 5 (exS CALL K.ref26_Absent_l1b ⟨[.und, .und, I tag, .t (tL l), I a, I b, I bl, .bp 0 0, .bp 1 0, .bp 2 0, .und, .und, .bp 3 0, I i, .und, .und, .und, .und], seeH m ws out⟩) =
      some ⟨[.und, .und, I tag, .t (tL l), I a, I b, I bl, .bp 0 0, .bp 1 0, .bp 2 0, .und, .und, .bp 3 0, I (i + 1), .und, .und, .und, .und], seeH m ws (stepA tag (absW m tag l a b bl (nth ws i)) (nth ws i) out)⟩) ∧
    ((absW m tag l a b bl (nth ws i)).2 = 6 ∨ (absW m tag l a b bl (nth ws i)).2 = 8 → ∃ vs H, exS CALL K.ref26_Absent_l1b ⟨[.und, .und, I tag, .t (tL l), I a, I b, I bl, .bp 0 0, .bp 1 0, .bp 2 0, .und, .und, .bp 3 0, I i, .und, .und, .und, .und], seeH m ws out⟩ =
      some (.ret, ⟨vs, H⟩) ∧ vs[9]? = some (.bp 2 0) ∧ vs[10]? = some (I (absW m tag l a b bl (nth ws i)).2) ∧ H[2]? = some (.box [.t (.sl (ws.map World.e))])) := by
  unfold absW stepA putW
  have c1 := copyWorld_ok1 (nth ws i) hs
  have br := bearer_ok (nth ws i).tags tag (by have := hs.1; omega)
  have s3 := hs.2.2 _ (nth_mem (l := (nth ws i).whr) (j := (bearerF (nth ws i).tags tag).toNat) (by omega))
  have se := abs_ok h (nth (nth ws i).whr (bearerF (nth ws i).tags tag).toNat) s3 l hp a b bl
  generalize hx : nth ws i = x at *
  obtain ⟨tags, whr⟩ := x
  simp only at c1 br s3 se hb hb2 ⊢
  generalize bearerF tags tag = k at *
  generalize hy : nth whr k.toNat = y at *
  generalize absF m y l a b bl = r at *
  obtain ⟨⟨time, frm⟩, e⟩ := r
  obtain ⟨t0, f0⟩ := y
  obtain ⟨s1, s2, -⟩ := hs
  simp only at s1 s2 s3 se ⊢
  constructor
  · rintro ⟨n6, n8⟩
    by_cases e0 : e = 0
    · subst e0
      simp (disch := omega) only [go_sem, K.ref26_Absent_l1b, ↓reduceIte, seeH, hx, hy, c1, br, se, Nat.reduceAdd, Nat.reduceSub]
    · simp (disch := omega) only [go_sem, K.ref26_Absent_l1b, ↓reduceIte, seeH, hx, hy, c1, br, se, Nat.reduceAdd, Nat.reduceSub]
  · rintro (h68 | h68) <;> subst h68
    · simp (disch := omega) only [go_sem, K.ref26_Absent_l1b, ↓reduceIte, seeH, hx, hy, c1, br, se, Nat.reduceAdd, Nat.reduceSub]
      exact ⟨_, _, rfl, rfl, rfl, rfl⟩
    · simp (disch := omega) only [go_sem, K.ref26_Absent_l1b, ↓reduceIte, seeH, hx, hy, c1, br, se, Nat.reduceAdd, Nat.reduceSub]
      exact ⟨_, _, rfl, rfl, rfl, rfl⟩

def absBad (m : Mine) (tag : Int) (l : List Int) (a b bl : Int) (ws : List World) (j : Nat) : Bool := decide ((absW m tag l a b bl (nth ws j)).2 = 6 ∨ (absW m tag l a b bl (nth ws j)).2 = 8)
def absBel (m : Mine) (b : Bel) (tag : Int) (l : List Int) (a c bl : Int) : Bel × Int :=
  if borneF m b tag ≠ 0 then (b, borneF m b tag) else match (List.range b.worlds.length).find? (absBad m tag l a c bl b.worlds) with
    | some i => (b, (absW m tag l a c bl (nth b.worlds i)).2)
    | none => (⟨absNb m tag l a c bl b.worlds b.worlds.length⟩, 0)

theorem borne_0 {m : Mine} {b : Bel} {tag : Int} (e0 : borneF m b tag = 0) : belB m b = true ∧ ∀ i, i < b.worlds.length → 0 ≤ bearerF (nth b.worlds i).tags tag ∧ bearerF (nth b.worlds i).tags tag < (nth b.worlds i).whr.length := by
  have hb : belB m b = true := by
    unfold borneF at e0
    by_cases hb : belB m b = true
    · exact hb
    · rw [if_pos (by simpa using hb)] at e0; omega
  have ht : 0 ≤ bearerF (nth b.worlds 0).tags tag := by
    unfold borneF at e0
    rw [if_neg (by simp [hb])] at e0
    by_cases ht : bearerF (nth b.worlds 0).tags tag < 0
    · rw [if_pos ht] at e0; omega
    · omega
  refine ⟨hb, fun i hi => ?_⟩
  obtain ⟨-, -, -, -, h5⟩ := belB_spec hb
  obtain ⟨w1, w2, -⟩ := worldB_spec (h5 i hi)
  have b1 := belB_bearer hb ht (i := i) hi
  have b2 := (bearerF_lt b1).1
  exact ⟨b1, by omega⟩

theorem absBel_ok {m : Mine} (h : m.ok) (b : Bel) (hs : b.sz) (tag : Int) (l : List Int) (hp : l.length ≤ 1000000) (a c bl : Int) :
    CALL 0 N.ref26_Absent [.t m.e, .t b.e, I tag, .t (tL l), I a, I c, I bl] [] = some (.tup [.t (absBel m b tag l a c bl).1.e, I (absBel m b tag l a c bl).2], []) := by
  refine CALL_of K.t_ref26_Absent rfl ?_
  have cb := copyBel_ok b hs
  have bo := borne_ok h b hs tag
  unfold absBel
  by_cases e0 : borneF m b tag = 0
  · obtain ⟨hb, bb⟩ := borne_0 e0
    rw [e0] at bo
    obtain ⟨ws⟩ := b
    obtain ⟨s1, s2⟩ := hs
    simp only at s1 s2 bb cb bo ⊢
    have ln := absNb_len m tag l a c bl ws
    have loop := fun x y u v w p q r => loop_find (gc := true) (dead := [0, 1, 10, 11, 14, 15, 16, 17]) (c := K.ref26_Absent_l1b)
      (vs := [x, y, I tag, .t (tL l), I a, I c, I bl, .bp 0 0, .bp 1 0, .bp 2 0, u, v, .bp 3 0, I 0, w, p, q, r]) (H := seeH m ws [])
      (fun j => ⟨[.und, .und, I tag, .t (tL l), I a, I c, I bl, .bp 0 0, .bp 1 0, .bp 2 0, .und, .und, .bp 3 0, I j, .und, .und, .und, .und], seeH m ws (absNb m tag l a c bl ws j)⟩) ws.length (absBad m tag l a c bl ws)
      (fun j q => q.1 = .ret ∧ q.2.vs[9]? = some (.bp 2 0) ∧ q.2.vs[10]? = some (I (absW m tag l a c bl (nth ws j)).2) ∧ q.2.H[2]? = some (.box [.t (.sl (ws.map World.e))]))
      (.exit 0, ⟨[.und, .und, I tag, .t (tL l), I a, I c, I bl, .bp 0 0, .bp 1 0, .bp 2 0, .und, .und, .bp 3 0, I ws.length, .und, .und, .und, .und], seeH m ws (absNb m tag l a c bl ws ws.length)⟩) rfl
      (fun j hj hq => by
        have := ln j
        have hq : ¬ ((absW m tag l a c bl (nth ws j)).2 = 6 ∨ (absW m tag l a c bl (nth ws j)).2 = 8) := by simpa [absBad] using hq
        obtain ⟨b1, b2⟩ := bb j hj
        exact (abs_round h ws s1 tag l hp a c bl j hj (s2 _ (nth_mem hj)) b1 b2 (absNb m tag l a c bl ws j) (by omega)).1 (by omega))
      (fun j hj hq => by
        have := ln j
        have hq : (absW m tag l a c bl (nth ws j)).2 = 6 ∨ (absW m tag l a c bl (nth ws j)).2 = 8 := by simpa [absBad] using hq
        obtain ⟨b1, b2⟩ := bb j hj
        obtain ⟨vs, H, q1, q2⟩ := (abs_round h ws s1 tag l hp a c bl j hj (s2 _ (nth_mem hj)) b1 b2 (absNb m tag l a c bl ws j) (by omega)).2 hq
        exact ⟨_, q1, by simp, rfl, q2⟩)
      (by
        have := ln ws.length
        generalize absNb m tag l a c bl ws ws.length = L at *
        simp (disch := omega) only [go_sem, K.ref26_Absent_l1b, ↓reduceIte, seeH, Nat.reduceAdd, Nat.reduceSub]) (by simp)
    rcases loop (.t m.e) (.t (Bel.e ⟨ws⟩)) (I 0) (I 0) .und .und .und .und with ⟨e1, e2⟩ | ⟨j, ⟨x, vs, H⟩, e1, e2, e3, e4, e5, e6⟩
    · have e2 : exS CALL K.ref26_Absent_l1 _ = _ := e2
      simp only [seeH, List.map_nil, List.length_nil] at e2
      have := ln ws.length
      rw [e1]
      generalize absNb m tag l a c bl ws ws.length = L at *
      simp (disch := omega) only [go_sem, K.ref26_Absent, ↓reduceIte, cb, bo, e2, Nat.reduceAdd, Nat.reduceSub, ne_eq, not_true_eq_false]
    · have e2 : exS CALL K.ref26_Absent_l1 _ = _ := e2
      simp only [seeH, List.map_nil, List.length_nil] at e2
      rw [e1]
      simp only at e3 e4 e5 e6
      subst e3
      simp (disch := omega) only [go_sem, K.ref26_Absent, ↓reduceIte, cb, bo, e2, Nat.reduceAdd, Nat.reduceSub, ne_eq, not_true_eq_false, e4, e5, e6, List.take_zero]
  · obtain ⟨ws⟩ := b
    simp (disch := omega) only [go_sem, K.ref26_Absent, ↓reduceIte, cb, bo, e0, ne_eq, not_false_eq_true]

end Go.Ev

/- More laws of the laid-out evaluator: slices of live arrays; appending live elements; heaps that are not known cell by cell. -/
namespace Go.Ev
open Go

section
variable (H : Heap) (sz id ep n lo hi : Nat) (i j : Int) (fz : Bool)

def scO (r : D) : Option Obj → Option (D × Heap)
  | some (.arr sz' _ ep' es) => if ep = ep' ∧ n = es.length then (if sz' = sz then some (r, H) else none) else none
  | _ => none
@[go_sem] theorem scO_arr (r : D) (sz' : Nat) (pin : Bool) (es : List D) : scO H sz ep n r (some (.arr sz' pin ep es)) = if n = es.length then (if sz' = sz then some (r, H) else none) else none := by simp [scO]
theorem scR {l h : Nat} : ((arrAt H id ep n).bind fun a => if l ≤ h ∧ h ≤ n ∧ a.1 = sz then some (D.sub id ep n l h) else none).map (fun d => (d, H)) = if l ≤ h then (if h ≤ n then scO H sz ep n (.sub id ep n l h) H[id]? else none) else none := by
  simp only [arrAt]
  generalize H[id]? = o
  by_cases h1 : l ≤ h
  · by_cases h2 : h ≤ n
    · rw [if_pos h1, if_pos h2]
      rcases o with _ | (_ | ⟨sz', pin, ep', es⟩)
      · rfl
      · rfl
      · simp only [scO]
        by_cases h3 : ep = ep' ∧ n = es.length
        · rw [if_pos h3, if_pos h3, Option.bind_some]
          by_cases h4 : sz' = sz
          · rw [if_pos h4, if_pos ⟨h1, h2, h4⟩]; rfl
          · rw [if_neg h4, if_neg fun h => h4 h.2.2]; rfl
        · rw [if_neg h3, if_neg h3]; rfl
    · rw [if_pos h1, if_neg h2]
      rcases o with _ | (_ | ⟨sz', pin, ep', es⟩)
      · rfl
      · rfl
      · by_cases h3 : ep = ep' ∧ n = es.length
        · simp only [if_pos h3, Option.bind_some]; rw [if_neg fun h => h2 h.2.1]; rfl
        · simp only [if_neg h3]; rfl
  · rw [if_neg h1]
    rcases o with _ | (_ | ⟨sz', pin, ep', es⟩)
    · rfl
    · rfl
    · by_cases h3 : ep = ep' ∧ n = es.length
      · simp only [if_pos h3, Option.bind_some]; rw [if_neg fun h => h1 h.1]; rfl
      · simp only [if_neg h3]; rfl
@[go_sem] theorem opSc_ref_hi : opSc H sz (some (.ref id ep n)) (some none) (some (some i)) = if 0 ≤ i then (if i ≤ n then scO H sz ep n (.sub id ep n 0 i.toNat) H[id]? else none) else none := by
  simp only [opSc, Option.bind_some, sliceD, bound, idx]
  by_cases h1 : 0 ≤ i
  · rw [if_pos h1, if_pos h1, Option.bind_some, scR, if_pos (Nat.zero_le _)]
    by_cases h2 : i ≤ n
    · rw [if_pos h2, if_pos (by omega)]
    · rw [if_neg h2, if_neg (by omega)]
  · rw [if_neg h1, if_neg h1]; rfl
@[go_sem] theorem opSc_ref_lo : opSc H sz (some (.ref id ep n)) (some (some i)) (some none) = if 0 ≤ i then (if i ≤ n then scO H sz ep n (.sub id ep n i.toNat n) H[id]? else none) else none := by
  simp only [opSc, Option.bind_some, sliceD, bound, idx]
  by_cases h1 : 0 ≤ i
  · rw [if_pos h1, if_pos h1, Option.bind_some, scR]
    by_cases h2 : i ≤ n
    · rw [if_pos h2, if_pos (by omega), if_pos (by omega)]
    · rw [if_neg h2, if_neg (by omega)]
  · rw [if_neg h1, if_neg h1]; rfl
@[go_sem] theorem opSc_ref_lohi : opSc H sz (some (.ref id ep n)) (some (some i)) (some (some j)) = if 0 ≤ i then (if i ≤ j then (if j ≤ n then scO H sz ep n (.sub id ep n i.toNat j.toNat) H[id]? else none) else none) else none := by
  simp only [opSc, Option.bind_some, sliceD, bound, idx]
  by_cases h1 : 0 ≤ i
  · rw [if_pos h1, if_pos h1, Option.bind_some]
    by_cases h0 : i ≤ j
    · rw [if_pos h0, if_pos (by omega), Option.bind_some, scR, if_pos (by omega)]
      by_cases h2 : j ≤ n
      · rw [if_pos h2, if_pos (by omega)]
      · rw [if_neg h2, if_neg (by omega)]
    · rw [if_neg h0]
      by_cases h2 : 0 ≤ j
      · rw [if_pos h2, Option.bind_some, scR, if_neg (by omega)]
      · rw [if_neg h2]; rfl
  · rw [if_neg h1, if_neg h1]; rfl
@[go_sem] theorem opSc_nil_hi : opSc H sz (some .nil) (some none) (some (some i)) = if i = 0 then some (.nil, H) else none := by
  simp only [opSc, Option.bind_some, sliceD, bound, idx]
  by_cases h1 : 0 ≤ i
  · rw [if_pos h1, Option.bind_some]
    by_cases h2 : i = 0
    · rw [if_pos h2, if_pos (by omega)]; rfl
    · rw [if_neg h2, if_neg (by omega)]; rfl
  · rw [if_neg h1, if_neg (by omega)]; rfl
@[go_sem] theorem opSc_nil_lo : opSc H sz (some .nil) (some (some i)) (some none) = if i = 0 then some (.nil, H) else none := by
  simp only [opSc, Option.bind_some, sliceD, bound, idx]
  by_cases h1 : 0 ≤ i
  · rw [if_pos h1, Option.bind_some]
    by_cases h2 : i = 0
    · rw [if_pos h2, if_pos (by omega)]; rfl
    · rw [if_neg h2, if_neg (by omega)]; rfl
  · rw [if_neg h1, if_neg (by omega)]; rfl

/- appending elements that stay live -/
def appD (x : D) (ys : List D) : Option (D × Heap) := if headSize sz ys = true then (match x with
    | .nil => if ys.length ≤ 4294967296 then some (.ref H.length 0 ys.length, H ++ [.arr sz false 0 ys]) else none
    | .ref id ep n => appRef H sz id ep n ys H[id]?
    | _ => none) else none
@[go_sem] theorem appD_nil (ys : List D) : appD H sz .nil ys = if headSize sz ys = true then (if ys.length ≤ 4294967296 then some (.ref H.length 0 ys.length, H ++ [.arr sz false 0 ys]) else none) else none := (rfl)
@[go_sem] theorem appD_ref (ys : List D) : appD H sz (.ref id ep n) ys = if headSize sz ys = true then appRef H sz id ep n ys H[id]? else none := (rfl)
@[go_sem] theorem headSize_nil : headSize sz [] = true := (rfl)
@[go_sem] theorem headSize_cons (d : D) (r : List D) : headSize sz (d :: r) = lenIs sz d.cells := by
  rw [Bool.eq_iff_iff, lenIs_iff]; simp [headSize]

def elsO (x : D) : Option Obj → Option (D × Heap)
  | some (.arr _ _ ep' es) => if ep = ep' ∧ n = es.length then appD H sz x ((es.drop lo).take (hi - lo)) else none
  | _ => none
def elsR (x : D) : Option Obj → Option (D × Heap)
  | some (.arr _ _ ep' es) => if ep = ep' ∧ n = es.length then appD H sz x es else none
  | _ => none
@[go_sem] theorem elsO_arr (x : D) (sz' : Nat) (pin : Bool) (es : List D) : elsO H sz ep n lo hi x (some (.arr sz' pin ep es)) = if n = es.length then appD H sz x ((es.drop lo).take (hi - lo)) else none := by simp [elsO]
@[go_sem] theorem elsR_arr (x : D) (sz' : Nat) (pin : Bool) (es : List D) : elsR H sz ep n x (some (.arr sz' pin ep es)) = if n = es.length then appD H sz x es else none := by simp [elsR]

theorem appD_is (x : D) (ys : List D) : (if headSize sz ys = true then (match x with
    | .nil => if ys.length ≤ lim then some (D.ref H.length 0 ys.length, H ++ [.arr sz false 0 ys]) else none
    | .ref id ep n => (arrAt H id ep n).bind fun a => if a.1 = sz ∧ n + ys.length ≤ lim then some (.ref id ep (n + ys.length), H.set id (.arr sz a.2.1 ep (a.2.2 ++ ys))) else none
    | _ => none) else none) = appD H sz x ys := by
  unfold appD
  split
  · cases x with
    | ref id ep n =>
      simp only [arrAt]
      generalize H[id]? = o
      rcases o with _ | (_ | ⟨sz', pin, ep', es⟩)
      · rfl
      · rfl
      · simp only [appRef]
        by_cases h1 : ep = ep' ∧ n = es.length
        · rw [if_pos h1, Option.bind_some]
          by_cases h2 : sz' = sz ∧ n + ys.length ≤ lim
          · rw [if_pos h2, if_pos ⟨h1.1, h1.2, h2⟩]
          · rw [if_neg h2, if_neg fun h => h2 h.2.2]
        · rw [if_neg h1, if_neg fun h => h1 ⟨h.1, h.2.1⟩]; rfl
    | _ => rfl
  · rfl

theorem opApp_live (x y : D) (ys : List D) (h : elems H y = some ys) : opApp H sz false (some x) (some y) = appD H sz x ys := by
  simp only [opApp, Option.bind_some, appendD, h, Bool.false_eq_true, if_false]
  exact appD_is H sz x ys
@[go_sem] theorem opApp_live_nil (x : D) : opApp H sz false (some x) (some .nil) = appD H sz x [] := opApp_live H sz x .nil [] rfl
@[go_sem] theorem opApp_live_ref (x : D) : opApp H sz false (some x) (some (.ref id ep n)) = elsR H sz ep n x H[id]? := by
  cases he : elems H (.ref id ep n) with
  | some ys =>
    rw [opApp_live H sz x _ ys he]
    simp only [elems, arrAt] at he
    generalize H[id]? = o at he
    rcases o with _ | (_ | ⟨sz', pin, ep', es⟩)
    · cases he
    · cases he
    · simp only [elsR]
      by_cases h1 : ep = ep' ∧ n = es.length
      · simp only [if_pos h1] at he ⊢; cases he; rfl
      · simp only [if_neg h1] at he; cases he
  | none =>
    have : opApp H sz false (some x) (some (.ref id ep n)) = none := by simp only [opApp, Option.bind_some, appendD, he]; rfl
    rw [this]
    simp only [elems, arrAt] at he
    generalize H[id]? = o at he
    rcases o with _ | (_ | ⟨sz', pin, ep', es⟩)
    · rfl
    · rfl
    · simp only [elsR]
      by_cases h1 : ep = ep' ∧ n = es.length
      · simp only [if_pos h1] at he; cases he
      · simp only [if_neg h1]
@[go_sem] theorem opApp_live_sub (x : D) : opApp H sz false (some x) (some (.sub id ep n lo hi)) = elsO H sz ep n lo hi x H[id]? := by
  cases he : elems H (.sub id ep n lo hi) with
  | some ys =>
    rw [opApp_live H sz x _ ys he]
    simp only [elems, arrAt] at he
    generalize H[id]? = o at he
    rcases o with _ | (_ | ⟨sz', pin, ep', es⟩)
    · cases he
    · cases he
    · simp only [elsO]
      by_cases h1 : ep = ep' ∧ n = es.length
      · simp only [if_pos h1] at he ⊢; cases he; rfl
      · simp only [if_neg h1] at he; cases he
  | none =>
    have : opApp H sz false (some x) (some (.sub id ep n lo hi)) = none := by simp only [opApp, Option.bind_some, appendD, he]; rfl
    rw [this]
    simp only [elems, arrAt] at he
    generalize H[id]? = o at he
    rcases o with _ | (_ | ⟨sz', pin, ep', es⟩)
    · rfl
    · rfl
    · simp only [elsO]
      by_cases h1 : ep = ep' ∧ n = es.length
      · simp only [if_pos h1] at he; cases he
      · simp only [if_neg h1]

def opBsr (ds : List D) : Option (D × Heap) := if ds.all (fun d => d.cells.length == sz && d.solid) then some (.ref H.length 0 ds.length, H ++ [.arr sz false 0 ds]) else none
@[go_sem] theorem ev_bsr (call : Oracle) (get : X → Option D) (xs : List X) : evO call get H (.bsr xs sz) = (mapO get xs).bind (opBsr H sz) := (rfl)
@[go_sem] theorem opBsr_agg (cs : List D) : opBsr H sz [.agg cs] = if lenIs sz cs = true then some (.ref H.length 0 1, H ++ [.arr sz false 0 [.agg cs]]) else none := by
  simp only [opBsr, List.all_cons, List.all_nil, Bool.and_true, D.cells, D.solid]
  by_cases h : lenIs sz cs = true
  · rw [if_pos h, if_pos (by simpa using lenIs_iff.1 h)]; rfl
  · rw [if_neg h, if_neg (by intro e; exact h (lenIs_iff.2 (by simpa using e)))]
end

@[go_sem] theorem q_toNat_one' : (1 : Int).toNat = 1 := (rfl)
@[go_sem] theorem q_toNat_two : (2 : Int).toNat = 2 := (rfl)
@[go_sem] theorem q_toNat_three : (3 : Int).toNat = 3 := (rfl)

/- heaps that are not known cell by cell -/
section
variable {H t : Heap} {i j k : Nat} {o o' : Obj}
theorem hp_get (h : i < H.length) : (H ++ t)[i]? = H[i]? := List.getElem?_append_left h
theorem hp_get_len : (H ++ t)[H.length]? = t[0]? := by rw [List.getElem?_append_right (Nat.le_refl _), Nat.sub_self]
theorem hp_get_add : (H ++ t)[H.length + k]? = t[k]? := by rw [List.getElem?_append_right (Nat.le_add_right _ _), Nat.add_sub_cancel_left]
theorem hp_set (h : i < H.length) : (H ++ t).set i o = H.set i o ++ t := List.set_append_left _ _ h
theorem hp_set_len : (H ++ t).set H.length o = H ++ t.set 0 o := by rw [List.set_append_right _ _ (Nat.le_refl _), Nat.sub_self]
theorem hp_set_add : (H ++ t).set (H.length + k) o = H ++ t.set k o := by rw [List.set_append_right _ _ (Nat.le_add_right _ _), Nat.add_sub_cancel_left]
theorem hp_set_get (h : i < H.length) : (H.set i o)[i]? = some o := by simp [h]
theorem hp_set_ne (h : i ≠ j) : (H.set i o)[j]? = H[j]? := List.getElem?_set_ne h
theorem hp_set_set : (H.set i o).set i o' = H.set i o' := List.set_set ..
theorem hp_assoc (a b : Heap) : (H ++ a) ++ b = H ++ (a ++ b) := List.append_assoc ..
theorem hp_lt (h : H[i]? = some o) : i < H.length := (List.getElem?_eq_some_iff.1 h).1
end

/-- The end of a function whose result is a live array of elements that are frozen then. -/
theorem finish_live (H : Heap) (id sz n : Nat) (es : List D) (ts : List T) (hid : H[id]? = some (.arr sz false 0 es)) (hn : n = es.length) (hf : mapO (frz H 8) es = some ts) (ha : ∀ i ∈ es.flatMap (arrs H 8), i ≠ id) :
    finish 0 1 H [.ref id 0 n] = some (.ref 0 0 n, [.arr sz false 0 (ts.map .t)]) := by
  have hold : ([D.ref id 0 n].all (old 0 depth) && (H.take 0).all (fun o => o.ds.all (old 0 depth))) = false := by
    simp [old, depth]
  have hmap : ∀ {es : List D} {ts : List T}, mapO (frz H 8) es = some ts → mapO (fun d => (frz H 8 d).map D.t) es = some (ts.map .t) := by
    intro es
    induction es with
    | nil => intro ts h; simp [mapO] at h; subst h; rfl
    | cons e es ih =>
      intro ts h
      simp only [mapO, Option.bind_eq_some_iff, Option.map_eq_some_iff] at h
      obtain ⟨y, hy, r, hr, rfl⟩ := h
      simp only [mapO, hy, Option.map_some, Option.bind_some, ih hr, List.map_cons]
  have hnew : (addNew [] [id]).drop 0 = [id] := by simp [addNew]
  have hall : (es.flatMap (arrs H 8)).all (fun i => !([] ++ [id]).contains i) = true := by
    rw [List.all_eq_true]; intro i hi; simpa using ha i hi
  unfold finish
  rw [if_neg (by omega), Option.bind_some, hold, if_neg (by simp)]
  have hk : keepLv H (max 1 1) (List.range 0) ([D.ref id 0 n].flatMap (ids depth) ++ idsOf H (List.range 0)) = some ([id], [.arr sz false 0 (ts.map .t)]) := by
    have e1 : [D.ref id 0 n].flatMap (ids depth) ++ idsOf H (List.range 0) = [id] := by simp [ids, depth, idsOf]
    rw [e1]
    simp only [Nat.max_self, List.range_zero]
    unfold keepLv
    simp only [List.length_nil, hnew, pick, hid, Option.bind_some, Option.map_some, if_true, List.flatMap_cons, List.flatMap_nil, List.append_nil, Obj.ds, depth, hall, mapO, freezeArr, hmap hf]
    simp only [keepLv, Option.map_some, List.append_nil, Option.bind_some]
  rw [hk]
  simp only [Option.bind_some, List.range_zero, List.nil_append, List.take_zero, resArrs, Nat.succ_ne_zero, if_false, Nat.one_ne_zero, List.all_nil, if_true, mapO, ren, idxOf, Option.map_some, renObj, tupOf, depth]
  have := ren_map (fun i => if id = i then some 0 else Option.map (fun x => x + 1) none) ts
  simp only [depth] at this
  rw [this]; rfl

end Go.Ev

/- Chapter 26 of the references: worlds are tidied. -/
namespace Go.Ev
open Go
variable [Lib] [Has1] [Has2]

/-- A loop, by a relation that holds ahead of each round. -/
theorem loop_inv {gc : Bool} {dead : List Nat} {c : C} {vs : List D} {H : Heap} (P : Nat → St → Prop) (n : Nat) (Q : Ex × St → Prop) (h0 : P 0 ⟨dropV dead vs, H⟩)
    (hs : ∀ j st, j < n → P j st → ∃ st', roundC gc dead st.H.length (exS CALL c st) = some st' ∧ P (j + 1) st')
    (he : ∀ st, P n st → ∃ q, exS CALL c st = some q ∧ q.1 ≠ .normal ∧ Q q) : ∃ q, exS CALL (.loop gc dead c) ⟨vs, H⟩ = some q ∧ Q q := by
  have key : ∀ (k j : Nat) (st : St), j + k = n → P j st → ∃ q, loopC gc dead (exS CALL c) st = some q ∧ Q q := by
    intro k
    induction k with
    | zero =>
      intro j st hj hp
      obtain ⟨q, h1, h2, h3⟩ := he st (by rw [← hj]; exact hp)
      exact ⟨q, loopC_exit h1 h2, h3⟩
    | succ k ih =>
      intro j st hj hp
      obtain ⟨st', h1, h2⟩ := hs j st (by omega) hp
      obtain ⟨q, h3, h4⟩ := ih (j + 1) st' (by omega) h2
      exact ⟨q, loopC_step h1 h3, h4⟩
  exact key n 0 _ (by omega) h0

abbrev ints (l : List Int) : List D := (l.map (T.int .i64)).map .t
abbrev whs (l : List Wh) : List D := (l.map Wh.e).map .t

/-- Where a world belongs in an ordered list. -/
def tidyK (out : List World) (x : World) : Nat := match (List.range out.length).find? (fun k => !lessB (nth out k).tags x.tags) with
  | some k => k
  | none => out.length
theorem tidyK_le (out : List World) (x : World) : tidyK out x ≤ out.length := by
  unfold tidyK
  split
  · rename_i k h; exact Nat.le_of_lt (find_lt h).1
  · exact Nat.le_refl _
def joinN (a b : List Wh) : Nat → List Wh
  | 0 => a
  | p + 1 => (joinN a b p).set p (joinF (nth a p) (nth b p)).1
theorem joinN_len (a b : List Wh) : ∀ p, (joinN a b p).length = a.length
  | 0 => rfl
  | p + 1 => by simp only [joinN, List.length_set, joinN_len a b p]
theorem joinN_nth (a b : List Wh) : ∀ p q, p ≤ q → nth (joinN a b p) q = nth a q
  | 0, q, _ => rfl
  | p + 1, q, h => by
    have e : nth ((joinN a b p).set p (joinF (nth a p) (nth b p)).1) q = nth (joinN a b p) q := by
      unfold nth; rw [List.getD_eq_getElem?_getD, List.getElem?_set_ne (by omega), ← List.getD_eq_getElem?_getD]
    simp only [joinN, e]
    exact joinN_nth a b p q (by omega)
def joinWs (a b : List Wh) : List Wh := joinN a b (min a.length b.length)
def tidy1 (out : List World) (x : World) : List World :=
  if tidyK out x < out.length ∧ (nth out (tidyK out x)).tags = x.tags then out.set (tidyK out x) ⟨x.tags, joinWs (nth out (tidyK out x)).whr x.whr⟩
  else out.take (tidyK out x) ++ [x] ++ out.drop (tidyK out x)
def tidyN (l : List World) : Nat → List World
  | 0 => []
  | j + 1 => tidy1 (tidyN l j) (nth l j)
def tidyF (l : List World) : List World := tidyN l l.length

/-- A list of worlds in a heap: an array of pairs of arrays. -/
structure Rp (H : Heap) (id : Nat) (es : List D) (fa fb : Nat → Nat) (out : List World) : Prop where
  arr : H[id]? = some (.arr 2 false 0 es)
  len : es.length = out.length
  el : ∀ j, j < out.length → es[j]? = some (.agg [.ref (fa j) 0 (nth out j).tags.length, .ref (fb j) 0 (nth out j).whr.length])
  ha : ∀ j, j < out.length → H[fa j]? = some (.arr 1 false 0 (ints (nth out j).tags))
  hb : ∀ j, j < out.length → H[fb j]? = some (.arr 2 false 0 (whs (nth out j).whr))
  na : ∀ j, j < out.length → fa j ≠ id
  nb : ∀ j, j < out.length → fb j ≠ id
  nab : ∀ i j, i < out.length → j < out.length → fa i ≠ fb j
  nbb : ∀ i j, i < out.length → j < out.length → i ≠ j → fb i ≠ fb j

def Rep (H : Heap) (v : D) (out : List World) : Prop := (v = .nil ∧ out = []) ∨ ∃ id es fa fb, v = .ref id 0 out.length ∧ 0 < out.length ∧ Rp H id es fa fb out

theorem tidy_l2 (l : List World) (i : Nat) (hi : i < l.length) (out : List World) (ho : out.length ≤ 1000000) (hso : ∀ x ∈ out, x.sz) (hsx : (nth l i).sz) (H : Heap) (v : D) (hr : Rep H v out) (a b : D) :
    exS CALL K.ref26_Tidy_l2 ⟨[.t (.sl (l.map World.e)), a, v, I i, I 0, b], H⟩ = some (.exit 2, ⟨[.t (.sl (l.map World.e)), .und, v, I i, I (tidyK out (nth l i)), .und], H⟩) := by
  rcases hr with ⟨rfl, rfl⟩ | ⟨id, es, fa, fb, rfl, h0, hr⟩
  · have : tidyK [] (nth l i) = 0 := rfl
    rw [this]
    refine loop_is (loopC_exit ?_ (by simp))
    simp (disch := omega) only [go_sem, K.ref26_Tidy_l2b, ↓reduceIte, Nat.reduceAdd, Nat.reduceSub]
  · have key : exS CALL K.ref26_Tidy_l2 ⟨[.t (.sl (l.map World.e)), a, .ref id 0 out.length, I i, I 0, b], H⟩ = some (match (List.range out.length).find? (fun k => !lessB (nth out k).tags (nth l i).tags) with
        | some k => (.exit 2, ⟨[.t (.sl (l.map World.e)), .und, .ref id 0 out.length, I i, I k, .und], H⟩)
        | none => (.exit 2, ⟨[.t (.sl (l.map World.e)), .und, .ref id 0 out.length, I i, I out.length, .und], H⟩)) := by
      refine loop_first (fun k => ⟨[.t (.sl (l.map World.e)), .und, .ref id 0 out.length, I i, I k, .und], H⟩) out.length _ _ _ rfl ?_ ?_ ?_ (by simp)
      · intro k hk hp
        have hp : lessB (nth out k).tags (nth l i).tags = true := by simpa using hp
        have s1 := (hso _ (nth_mem hk)).1
        have s2 := hsx.1
        have ls := less_ok (nth out k).tags (nth l i).tags s1 s2
        have e1 := hr.arr
        have e2 := hr.len
        have e3 := hr.el k hk
        have e4 := hr.ha k hk
        generalize nth out k = y at *
        obtain ⟨ta, wa⟩ := y
        generalize hx : nth l i = x at *
        obtain ⟨tb, wb⟩ := x
        simp only at s1 s2 ls e3 e4 hp
        simp (disch := omega) only [go_sem, K.ref26_Tidy_l2b, ↓reduceIte, Nat.reduceAdd, Nat.reduceSub, e1, e2, e3, e4, hx, ls, hp]
        done
      · intro k hk hp
        have hp : lessB (nth out k).tags (nth l i).tags = false := by simpa using hp
        have s1 := (hso _ (nth_mem hk)).1
        have s2 := hsx.1
        have ls := less_ok (nth out k).tags (nth l i).tags s1 s2
        have e1 := hr.arr
        have e2 := hr.len
        have e3 := hr.el k hk
        have e4 := hr.ha k hk
        generalize nth out k = y at *
        obtain ⟨ta, wa⟩ := y
        generalize hx : nth l i = x at *
        obtain ⟨tb, wb⟩ := x
        simp only at s1 s2 ls e3 e4 hp
        refine ⟨?_, by simp⟩
        simp (disch := omega) only [go_sem, K.ref26_Tidy_l2b, ↓reduceIte, Nat.reduceAdd, Nat.reduceSub, e1, e2, e3, e4, hx, ls, hp]
        done
      · simp (disch := omega) only [go_sem, K.ref26_Tidy_l2b, ↓reduceIte, Nat.reduceAdd, Nat.reduceSub]
    rw [key]
    unfold tidyK
    cases (List.range out.length).find? (fun k => !lessB (nth out k).tags (nth l i).tags) <;> rfl

@[go_sem] theorem joinT_eq (a b : Wh) : (joinF a b).1.e = .agg [tI (joinF a b).1.time, tL (joinF a b).1.frm] := rfl

theorem tidy_l3 (l : List World) (i : Nat) (hi : i < l.length) (out : List World) (ho : out.length ≤ 1000000) (hso : ∀ x ∈ out, x.sz) (hsx : (nth l i).sz) (H : Heap) (id : Nat) (es : List D) (fa fb : Nat → Nat)
    (hr : Rp H id es fa fb out) (k : Nat) (hk : k < out.length) (a : D) :
    exS CALL K.ref26_Tidy_l3 ⟨[.t (.sl (l.map World.e)), a, .ref id 0 out.length, I i, I k, I 0], H⟩ =
    some (.exit 4, ⟨[.t (.sl (l.map World.e)), .und, .ref id 0 out.length, I i, I k, I ((min (nth out k).whr.length (nth l i).whr.length : Nat) : Int)], H.set (fb k) (.arr 2 false 0 (whs (joinWs (nth out k).whr (nth l i).whr)))⟩) := by
  have e1 := hr.arr
  have e2 := hr.len
  have e3 := hr.el k hk
  have e5 := hr.hb k hk
  have e6 := hr.nb k hk
  have e7 := hp_lt e5
  obtain ⟨s1, s2, s3⟩ := hso _ (nth_mem hk)
  obtain ⟨x1, x2, x3⟩ := hsx
  generalize nth out k = y at *
  obtain ⟨ta, wa⟩ := y
  generalize hx : nth l i = x at *
  obtain ⟨tb, wb⟩ := x
  simp only at s1 s2 s3 x1 x2 x3 e3 e5 ⊢
  have jl := joinN_len wa wb
  have q1 : ∀ o, (H.set (fb k) o)[id]? = H[id]? := fun o => hp_set_ne e6
  have q2 : ∀ o, (H.set (fb k) o)[fb k]? = some o := fun o => hp_set_get e7
  refine loop_up (fun p => ⟨[.t (.sl (l.map World.e)), .und, .ref id 0 out.length, I i, I k, I p], H.set (fb k) (.arr 2 false 0 (whs (joinN wa wb p)))⟩) (min wa.length wb.length) ?_ ?_ ?_ (by simp)
  · show (⟨_, H⟩ : St) = ⟨_, H.set (fb k) (.arr 2 false 0 (whs wa))⟩
    rw [set_self e5]; rfl
  · intro p hp
    have jp := jl p
    have jn := joinN_nth wa wb p p (Nat.le_refl _)
    have jo := join_ok (nth wa p) (nth wb p) (s3 _ (nth_mem (by omega)))
    have hj : joinN wa wb (p + 1) = (joinN wa wb p).set p (joinF (nth wa p) (nth wb p)).1 := rfl
    rw [hj]
    generalize joinN wa wb p = J at *
    generalize hu : nth wb p = u at *
    generalize nth wa p = w at *
    generalize joinF w u = r at *
    obtain ⟨⟨rt, rf⟩, re⟩ := r
    simp only at jo ⊢
    simp (disch := omega) only [go_sem, K.ref26_Tidy_l3b, ↓reduceIte, Nat.reduceAdd, Nat.reduceSub, q1, q2, e1, e2, e3, hp_set_set, hx, hu, jn, jo]
  · have jp := jl (min wa.length wb.length)
    have hj : joinWs wa wb = joinN wa wb (min wa.length wb.length) := rfl
    rw [hj]
    generalize joinN wa wb (min wa.length wb.length) = J at *
    by_cases c : wa.length ≤ wb.length
    · simp (disch := omega) only [go_sem, K.ref26_Tidy_l3b, ↓reduceIte, Nat.reduceAdd, Nat.reduceSub, q1, q2, e1, e2, e3, hp_set_set, hx, Nat.min_eq_left c]
    · have hm : min wa.length wb.length = wb.length := by omega
      simp (disch := omega) only [go_sem, K.ref26_Tidy_l3b, ↓reduceIte, Nat.reduceAdd, Nat.reduceSub, q1, q2, e1, e2, e3, hp_set_set, hx, hm]

theorem headSize_all {sz : Nat} {l : List D} (h : ∀ e ∈ l, e.cells.length = sz) : headSize sz l = true := by
  cases l with
  | nil => rfl
  | cons d r => rw [headSize_cons, lenIs_iff]; exact h d List.mem_cons_self

theorem Rp.size {H : Heap} {id : Nat} {es : List D} {fa fb : Nat → Nat} {out : List World} (hr : Rp H id es fa fb out) : ∀ e ∈ es, e.cells.length = 2 := by
  intro e he
  obtain ⟨j, hj⟩ := List.mem_iff_getElem?.1 he
  have hl := (List.getElem?_eq_some_iff.1 hj).1
  rw [hr.el j (by rw [← hr.len]; exact hl)] at hj
  cases hj; rfl

theorem ins_get {α : Type} (l : List α) (k : Nat) (hk : k ≤ l.length) (x : α) (j : Nat) : (l.take k ++ [x] ++ l.drop k)[j]? = if j < k then l[j]? else if j = k then some x else l[j - 1]? := by
  have hl : (l.take k).length = k := by rw [List.length_take]; omega
  rw [List.append_assoc]
  by_cases h1 : j < k
  · rw [if_pos h1, List.getElem?_append_left (by omega), List.getElem?_take_of_lt h1]
  · rw [if_neg h1, List.getElem?_append_right (by omega), hl]
    by_cases h2 : j = k
    · rw [if_pos h2, h2, Nat.sub_self]; rfl
    · rw [if_neg h2, List.getElem?_append_right (by simp; omega)]
      simp only [List.length_singleton, List.getElem?_drop]
      congr 1; omega
theorem ins_nth {α : Type} [Dat α] (l : List α) (k : Nat) (hk : k ≤ l.length) (x : α) (j : Nat) : nth (l.take k ++ [x] ++ l.drop k) j = if j < k then nth l j else if j = k then x else nth l (j - 1) := by
  unfold nth
  rw [List.getD_eq_getElem?_getD, ins_get l k hk]
  split
  · rw [List.getD_eq_getElem?_getD]
  · split
    · rfl
    · rw [List.getD_eq_getElem?_getD]
theorem set_nth {α : Type} [Dat α] (l : List α) (k : Nat) (hk : k < l.length) (x : α) (j : Nat) : nth (l.set k x) j = if j = k then x else nth l j := by
  unfold nth
  rw [List.getD_eq_getElem?_getD]
  by_cases h : j = k
  · rw [if_pos h, h, List.getElem?_set_self hk]; rfl
  · rw [if_neg h, List.getElem?_set_ne (fun e => h e.symm), List.getD_eq_getElem?_getD]

theorem Rp.ins {H : Heap} {id : Nat} {es : List D} {fa fb : Nat → Nat} {out : List World} (hr : Rp H id es fa fb out) {k : Nat} (hk : k ≤ out.length) (x : World) (o : Obj) :
    Rp (H ++ [.arr 2 false 0 (es.take k ++ [.agg [.ref (H.length + 1) 0 x.tags.length, .ref (H.length + 2) 0 x.whr.length]] ++ es.drop k), .arr 1 false 0 (ints x.tags), .arr 2 false 0 (whs x.whr), o]) H.length
      (es.take k ++ [.agg [.ref (H.length + 1) 0 x.tags.length, .ref (H.length + 2) 0 x.whr.length]] ++ es.drop k)
      (fun j => if j < k then fa j else if j = k then H.length + 1 else fa (j - 1)) (fun j => if j < k then fb j else if j = k then H.length + 2 else fb (j - 1)) (out.take k ++ [x] ++ out.drop k) := by
  have ol : (out.take k ++ [x] ++ out.drop k).length = out.length + 1 := by
    rw [List.length_append, List.length_append, List.length_take, List.length_drop, List.length_singleton]; omega
  have e2 := hr.len
  have ba : ∀ j, j < out.length → fa j < H.length := fun j hj => hp_lt (hr.ha j hj)
  have bb : ∀ j, j < out.length → fb j < H.length := fun j hj => hp_lt (hr.hb j hj)
  refine ⟨hp_get_len, ?_, ?_, ?_, ?_, ?_, ?_, ?_, ?_⟩
  · rw [ol, List.length_append, List.length_append, List.length_take, List.length_drop, List.length_singleton]; omega
  · intro j hj
    rw [ol] at hj
    simp only [ins_get es k (by omega), ins_nth out k hk]
    by_cases h1 : j < k
    · simp only [if_pos h1]; exact hr.el j (by omega)
    · by_cases h2 : j = k
      · simp only [if_neg h1, if_pos h2]
      · simp only [if_neg h1, if_neg h2]; exact hr.el (j - 1) (by omega)
  · intro j hj
    rw [ol] at hj
    simp only [ins_nth out k hk]
    by_cases h1 : j < k
    · simp only [if_pos h1]; rw [hp_get (ba j (by omega))]; exact hr.ha j (by omega)
    · by_cases h2 : j = k
      · simp only [if_neg h1, if_pos h2]; rw [hp_get_add]; rfl
      · simp only [if_neg h1, if_neg h2]; rw [hp_get (ba (j - 1) (by omega))]; exact hr.ha (j - 1) (by omega)
  · intro j hj
    rw [ol] at hj
    simp only [ins_nth out k hk]
    by_cases h1 : j < k
    · simp only [if_pos h1]; rw [hp_get (bb j (by omega))]; exact hr.hb j (by omega)
    · by_cases h2 : j = k
      · simp only [if_neg h1, if_pos h2]; rw [hp_get_add]; rfl
      · simp only [if_neg h1, if_neg h2]; rw [hp_get (bb (j - 1) (by omega))]; exact hr.hb (j - 1) (by omega)
  · intro j hj
    rw [ol] at hj
    have b1 := ba j
    have b2 := ba (j - 1)
    split
    · have := b1 (by omega); omega
    · split
      · omega
      · have := b2 (by omega); omega
  · intro j hj
    rw [ol] at hj
    have b1 := bb j
    have b2 := bb (j - 1)
    split
    · have := b1 (by omega); omega
    · split
      · omega
      · have := b2 (by omega); omega
  · intro i j hi hj
    rw [ol] at hi hj
    have a1 := ba i
    have a2 := ba (i - 1)
    have b1 := bb j
    have b2 := bb (j - 1)
    by_cases h1 : i < k
    · rw [if_pos h1]
      have := a1 (by omega)
      by_cases h2 : j < k
      · rw [if_pos h2]; exact hr.nab i j (by omega) (by omega)
      · rw [if_neg h2]
        by_cases h3 : j = k
        · rw [if_pos h3]; omega
        · rw [if_neg h3]; exact hr.nab i (j - 1) (by omega) (by omega)
    · rw [if_neg h1]
      by_cases h4 : i = k
      · rw [if_pos h4]
        split
        · have := b1 (by omega); omega
        · split
          · omega
          · have := b2 (by omega); omega
      · rw [if_neg h4]
        have := a2 (by omega)
        by_cases h2 : j < k
        · rw [if_pos h2]; exact hr.nab (i - 1) j (by omega) (by omega)
        · rw [if_neg h2]
          by_cases h3 : j = k
          · rw [if_pos h3]; omega
          · rw [if_neg h3]; exact hr.nab (i - 1) (j - 1) (by omega) (by omega)
  · intro i j hi hj hne
    rw [ol] at hi hj
    have a1 := bb i
    have a2 := bb (i - 1)
    have b1 := bb j
    have b2 := bb (j - 1)
    by_cases h1 : i < k
    · rw [if_pos h1]
      have := a1 (by omega)
      by_cases h2 : j < k
      · rw [if_pos h2]; exact hr.nbb i j (by omega) (by omega) hne
      · rw [if_neg h2]
        by_cases h3 : j = k
        · rw [if_pos h3]; omega
        · rw [if_neg h3]; exact hr.nbb i (j - 1) (by omega) (by omega) (by omega)
    · rw [if_neg h1]
      by_cases h4 : i = k
      · rw [if_pos h4]
        split
        · have := b1 (by omega); omega
        · split
          · omega
          · have := b2 (by omega); omega
      · rw [if_neg h4]
        have := a2 (by omega)
        by_cases h2 : j < k
        · rw [if_pos h2]; exact hr.nbb (i - 1) j (by omega) (by omega) (by omega)
        · rw [if_neg h2]
          by_cases h3 : j = k
          · rw [if_pos h3]; omega
          · rw [if_neg h3]; exact hr.nbb (i - 1) (j - 1) (by omega) (by omega) (by omega)

theorem Rp.merge {H : Heap} {id : Nat} {es : List D} {fa fb : Nat → Nat} {out : List World} (hr : Rp H id es fa fb out) {k : Nat} (hk : k < out.length) (x : World) (ht : (nth out k).tags = x.tags) (hw : x.whr.length = (nth out k).whr.length) :
    Rp (H.set (fb k) (.arr 2 false 0 (whs x.whr))) id es fa fb (out.set k x) := by
  have ol : (out.set k x).length = out.length := List.length_set
  have nk := hr.nb k hk
  have kl := hp_lt (hr.hb k hk)
  refine ⟨by rw [hp_set_ne nk]; exact hr.arr, by rw [ol]; exact hr.len, ?_, ?_, ?_, by rw [ol]; exact hr.na, by rw [ol]; exact hr.nb, by rw [ol]; exact hr.nab, by rw [ol]; exact hr.nbb⟩
  · intro j hj
    rw [ol] at hj
    rw [hr.el j hj, set_nth out k hk]
    by_cases h : j = k
    · rw [if_pos h, h, ht, hw]
    · rw [if_neg h]
  · intro j hj
    rw [ol] at hj
    rw [hp_set_ne (fun e => hr.nab j k hj hk e.symm), hr.ha j hj, set_nth out k hk]
    by_cases h : j = k
    · rw [if_pos h, h, ht]
    · rw [if_neg h]
  · intro j hj
    rw [ol] at hj
    rw [set_nth out k hk]
    by_cases h : j = k
    · rw [if_pos h, h, hp_set_get kl]
    · rw [if_neg h, hp_set_ne (fun e => hr.nbb j k hj hk h e.symm)]; exact hr.hb j hj

theorem tidy_round (l : List World) (i : Nat) (hi : i < l.length) (hl : l.length ≤ 1000000) (out : List World) (ho : out.length ≤ 999999) (hso : ∀ x ∈ out, x.sz) (hsx : (nth l i).sz) (H : Heap) (v : D) (hr : Rep H v out) :
    ∃ v' H', roundC false [1, 4, 5] H.length (exS CALL K.ref26_Tidy_l1b ⟨[.t (.sl (l.map World.e)), .und, v, I i, .und, .und], H⟩) = some ⟨[.t (.sl (l.map World.e)), .und, v', I (i + 1), .und, .und], H'⟩ ∧ Rep H' v' (tidy1 out (nth l i)) := by
  have l2 := tidy_l2 l i hi out (by omega) hso hsx H v hr
  have kl := tidyK_le out (nth l i)
  have cw := copyWorld_ok1 (nth l i) hsx
  rcases hr with ⟨rfl, rfl⟩ | ⟨id, es, fa, fb, rfl, h0, hr⟩
  · have k0 : tidyK [] (nth l i) = 0 := rfl
    rw [k0] at l2
    have t1 : tidy1 [] (nth l i) = [nth l i] := rfl
    rw [t1]
    generalize hx : nth l i = x at *
    obtain ⟨tb, wb⟩ := x
    simp only at cw
    have run : roundC false [1, 4, 5] H.length (exS CALL K.ref26_Tidy_l1b ⟨[.t (.sl (l.map World.e)), .und, .nil, I i, .und, .und], H⟩) =
        some ⟨[.t (.sl (l.map World.e)), .und, .ref H.length 0 1, I (i + 1), .und, .und], H ++ [.arr 2 false 0 [.agg [.ref (H.length + 1) 0 tb.length, .ref (H.length + 2) 0 wb.length]], .arr 1 false 0 (ints tb), .arr 2 false 0 (whs wb), .arr 2 false 0 [.agg [.ref (H.length + 1) 0 tb.length, .ref (H.length + 2) 0 wb.length]]]⟩ := by
      simp (disch := omega) only [go_sem, K.ref26_Tidy_l1b, ↓reduceIte, Nat.reduceAdd, Nat.reduceSub, l2, hx, cw, hp_get_len, hp_get_add, hp_set_len, hp_assoc, Nat.add_assoc]
    refine ⟨_, _, run, .inr ⟨H.length, _, fun _ => H.length + 1, fun _ => H.length + 2, rfl, by simp, ⟨hp_get_len, rfl, ?_, ?_, ?_, ?_, ?_, ?_, ?_⟩⟩⟩
    all_goals skip
    · intro j hj; obtain rfl : j = 0 := by simpa using hj
      rfl
    · intro j hj; obtain rfl : j = 0 := by simpa using hj
      rw [hp_get_add]; rfl
    · intro j hj; obtain rfl : j = 0 := by simpa using hj
      rw [hp_get_add]; rfl
    · intro j hj; omega
    · intro j hj; omega
    · intro i j hi hj; omega
    · intro i j hi hj hne
      have h1 : i = 0 := by simpa using hi
      have h2 : j = 0 := by simpa using hj
      omega
  · have e1 := hr.arr
    have e2 := hr.len
    have e7 := hp_lt e1
    by_cases c : tidyK out (nth l i) < out.length ∧ (nth out (tidyK out (nth l i))).tags = (nth l i).tags
    · obtain ⟨ck, ct⟩ := c
      have l3 := tidy_l3 l i hi out (by omega) hso hsx H id es fa fb hr (tidyK out (nth l i)) ck
      have s1 := (hso _ (nth_mem ck)).1
      have sm := same_ok (nth out (tidyK out (nth l i))).tags (nth l i).tags (by omega)
      have t1 : tidy1 out (nth l i) = out.set (tidyK out (nth l i)) ⟨(nth l i).tags, joinWs (nth out (tidyK out (nth l i))).whr (nth l i).whr⟩ := by unfold tidy1; rw [if_pos ⟨ck, ct⟩]
      rw [t1]
      simp only [ct, decide_true] at sm
      generalize tidyK out (nth l i) = k at *
      have e3 := hr.el k ck
      have e4 := hr.ha k ck
      have mg := hr.merge ck ⟨(nth l i).tags, joinWs (nth out k).whr (nth l i).whr⟩ ct (joinN_len _ _ _)
      refine ⟨.ref id 0 out.length, _, ?_, .inr ⟨id, es, fa, fb, by rw [List.length_set], by rw [List.length_set]; omega, mg⟩⟩
      generalize nth out k = y at *
      obtain ⟨ta, wa⟩ := y
      simp only at ct
      subst ct
      generalize hx : nth l i = x at *
      obtain ⟨tb, wb⟩ := x
      simp only at s1 sm e3 e4 cw l3 ⊢
      simp (disch := omega) only [go_sem, K.ref26_Tidy_l1b, ↓reduceIte, Nat.reduceAdd, Nat.reduceSub, l2, l3, hx, cw, sm, e1, e2, e3, e4]
    · have t1 : tidy1 out (nth l i) = out.take (tidyK out (nth l i)) ++ [nth l i] ++ out.drop (tidyK out (nth l i)) := by unfold tidy1; rw [if_neg c]
      rw [t1]
      generalize tidyK out (nth l i) = k at *
      have hs1 : headSize 2 (es.take k) = true := headSize_all fun e he => hr.size e (List.mem_of_mem_take he)
      have hs2 : headSize 2 (es.drop k) = true := headSize_all fun e he => hr.size e (List.mem_of_mem_drop he)
      have hs3 : (es.drop k).take (out.length - k) = es.drop k := List.take_of_length_le (by simp [e2])
      have hs4 : (es.take k).length = k := by rw [List.length_take]; omega
      have hs5 : (es.drop k).length = out.length - k := by rw [List.length_drop, e2]
      have hs6 : k + (1 + (out.length - k)) = out.length + 1 := by omega
      have s2 := hsx.1
      have run : roundC false [1, 4, 5] H.length (exS CALL K.ref26_Tidy_l1b ⟨[.t (.sl (l.map World.e)), .und, .ref id 0 out.length, I i, .und, .und], H⟩) =
        some ⟨[.t (.sl (l.map World.e)), .und, .ref H.length 0 (out.length + 1), I (i + 1), .und, .und], H ++ [.arr 2 false 0 (es.take k ++ [.agg [.ref (H.length + 1) 0 (nth l i).tags.length, .ref (H.length + 2) 0 (nth l i).whr.length]] ++ es.drop k), .arr 1 false 0 (ints (nth l i).tags), .arr 2 false 0 (whs (nth l i).whr), .arr 2 false 0 [.agg [.ref (H.length + 1) 0 (nth l i).tags.length, .ref (H.length + 2) 0 (nth l i).whr.length]]]⟩ := by
        by_cases ck : k < out.length
        · have s1 := (hso _ (nth_mem ck)).1
          have sm := same_ok (nth out k).tags (nth l i).tags (by omega)
          have ct : ¬ (nth out k).tags = (nth l i).tags := fun h => c ⟨ck, h⟩
          have e3 := hr.el k ck
          have e4 := hr.ha k ck
          generalize nth out k = y at *
          obtain ⟨ta, wa⟩ := y
          generalize hx : nth l i = x at *
          obtain ⟨tb, wb⟩ := x
          simp only at s1 s2 sm e3 e4 ct cw
          simp only [ct, decide_false] at sm
          simp (disch := omega) only [go_sem, K.ref26_Tidy_l1b, ↓reduceIte, Nat.reduceAdd, Nat.reduceSub, l2, hx, cw, sm, e1, e2, e3, e4, hs1, hs2, hs3, hs4, hs5, hs6, hp_get, hp_get_len, hp_get_add, hp_set_len, hp_assoc, Nat.add_assoc, Nat.sub_zero]
        · have ek : k = out.length := by omega
          subst ek
          generalize hx : nth l i = x at *
          obtain ⟨tb, wb⟩ := x
          simp only at s2 cw
          simp (disch := omega) only [go_sem, K.ref26_Tidy_l1b, ↓reduceIte, Nat.reduceAdd, Nat.reduceSub, l2, hx, cw, e1, e2, hs1, hs2, hs3, hs4, hs5, hs6, hp_get, hp_get_len, hp_get_add, hp_set_len, hp_assoc, Nat.add_assoc, Nat.sub_zero]
      exact ⟨_, _, run, .inr ⟨H.length, _, _, _, by rw [List.length_append, List.length_append, List.length_take, List.length_drop, List.length_singleton, Nat.min_eq_left kl]; congr 1; omega, by rw [List.length_append, List.length_append, List.length_singleton]; omega, hr.ins kl (nth l i) _⟩⟩

theorem tidy1_len (out : List World) (x : World) : (tidy1 out x).length ≤ out.length + 1 ∧ out.length ≤ (tidy1 out x).length ∧ 1 ≤ (tidy1 out x).length := by
  have kl := tidyK_le out x
  unfold tidy1
  split
  · rename_i h
    rw [List.length_set]; omega
  · rw [List.length_append, List.length_append, List.length_take, List.length_drop, List.length_singleton]; omega
theorem tidyN_len (l : List World) : ∀ j, (tidyN l j).length ≤ j
  | 0 => Nat.le_refl _
  | j + 1 => by
    have := tidyN_len l j
    have := (tidy1_len (tidyN l j) (nth l j)).1
    simp only [tidyN]; omega

theorem joinF_frm (a b : Wh) : (joinF a b).1.frm.length ≤ a.frm.length := by
  unfold joinF
  split
  · simp only [minN_len]; omega
  · simp
theorem joinN_sz (a b : List Wh) (n : Nat) (h : ∀ w ∈ a, w.frm.length ≤ n) : ∀ p, p ≤ a.length → ∀ w ∈ joinN a b p, w.frm.length ≤ n
  | 0, _, w, hw => h w hw
  | p + 1, hp, w, hw => by
    simp only [joinN] at hw
    rcases List.mem_or_eq_of_mem_set hw with hw | rfl
    · exact joinN_sz a b n h p (by omega) w hw
    · exact Nat.le_trans (joinF_frm _ _) (h _ (nth_mem (by omega)))
theorem tidy1_sz {out : List World} {x : World} (ho : ∀ y ∈ out, y.sz) (hx : x.sz) : ∀ y ∈ tidy1 out x, y.sz := by
  intro y hy
  unfold tidy1 at hy
  split at hy
  · rename_i h
    rcases List.mem_or_eq_of_mem_set hy with hy | rfl
    · exact ho y hy
    · obtain ⟨s1, s2, s3⟩ := ho _ (nth_mem h.1)
      refine ⟨hx.1, ?_, ?_⟩
      · show (joinN _ _ _).length ≤ _
        rw [joinN_len]; exact s2
      · exact joinN_sz _ _ _ s3 _ (Nat.min_le_left _ _)
  · rcases List.mem_append.1 hy with hy | hy
    · rcases List.mem_append.1 hy with hy | hy
      · exact ho y (List.mem_of_mem_take hy)
      · rw [List.mem_singleton.1 hy]; exact hx
    · exact ho y (List.mem_of_mem_drop hy)
theorem tidyN_sz {l : List World} (hl : ∀ x ∈ l, x.sz) : ∀ j, j ≤ l.length → ∀ y ∈ tidyN l j, y.sz
  | 0, _, y, hy => by simp [tidyN] at hy
  | j + 1, h, y, hy => tidy1_sz (tidyN_sz hl j (by omega)) (hl _ (nth_mem (by omega))) y hy

theorem Rp.frz {H : Heap} {id : Nat} {es : List D} {fa fb : Nat → Nat} {out : List World} (hr : Rp H id es fa fb out) :
    mapO (frz H 8) es = some (out.map World.e) ∧ ∀ i ∈ es.flatMap (arrs H 8), i ≠ id := by
  have hl := hr.len
  have key : ∀ (j : Nat) (hj : j < out.length), Go.Ev.frz H 8 (.agg [.ref (fa j) 0 (nth out j).tags.length, .ref (fb j) 0 (nth out j).whr.length]) = some (nth out j).e ∧
      arrs H 8 (.agg [.ref (fa j) 0 (nth out j).tags.length, .ref (fb j) 0 (nth out j).whr.length]) = [fa j, fb j] := by
    intro j hj
    have h1 := hr.ha j hj
    have h2 := hr.hb j hj
    simp (disch := omega) only [go_sem, h1, h2, ints, whs, ↓reduceIte]
  constructor
  · have : ∀ (es : List D) (ts : List T), es.length = ts.length → (∀ (j : Nat) e t, es[j]? = some e → ts[j]? = some t → Go.Ev.frz H 8 e = some t) → mapO (Go.Ev.frz H 8) es = some ts := by
      intro es
      induction es with
      | nil => intro ts h _; cases ts with
        | nil => rfl
        | cons => simp at h
      | cons e es ih =>
        intro ts h hh
        cases ts with
        | nil => simp at h
        | cons t ts =>
          have h1 := hh 0 e t rfl rfl
          have h2 := ih ts (by simpa using h) fun j e t he ht => hh (j + 1) e t (by simpa using he) (by simpa using ht)
          simp only [mapO, h1, Option.bind_some, h2, Option.map_some]
    refine this es _ (by rw [List.length_map, hl]) fun j e t he ht => ?_
    have hj : j < out.length := by rw [← hl]; exact (List.getElem?_eq_some_iff.1 he).1
    rw [hr.el j hj] at he
    rw [map_nth _ hj] at ht
    cases he; cases ht
    exact (key j hj).1
  · intro i hi
    obtain ⟨e, he, hi⟩ := List.mem_flatMap.1 hi
    obtain ⟨j, hj⟩ := List.mem_iff_getElem?.1 he
    have hjl : j < out.length := by rw [← hl]; exact (List.getElem?_eq_some_iff.1 hj).1
    rw [hr.el j hjl] at hj
    cases hj
    rw [(key j hjl).2] at hi
    simp only [List.mem_cons, List.not_mem_nil, or_false] at hi
    rcases hi with rfl | rfl
    · exact hr.na j hjl
    · exact hr.nb j hjl

theorem tidy_ok (l : List World) (h0 : 1 ≤ l.length) (hl : l.length ≤ 100000) (hs : ∀ x ∈ l, x.sz) :
    CALL 1 N.ref26_Tidy [.t (.sl (l.map World.e))] [] = some (.ref 0 0 (tidyF l).length, [.arr 2 false 0 (((tidyF l).map World.e).map .t)]) := by
  refine CALL_of K.t_ref26_Tidy rfl ?_
  have loop : ∀ a b c : D, ∃ q, exS CALL K.ref26_Tidy_l1 ⟨[.t (.sl (l.map World.e)), a, .nil, I 0, b, c], []⟩ = some q ∧ ∃ v H, q = (.exit 0, ⟨[.t (.sl (l.map World.e)), .und, v, I l.length, .und, .und], H⟩) ∧ Rep H v (tidyF l) := by
    intro a b c
    refine loop_inv (fun j st => ∃ v H, st = ⟨[.t (.sl (l.map World.e)), .und, v, I j, .und, .und], H⟩ ∧ Rep H v (tidyN l j)) l.length _ ⟨.nil, [], rfl, .inl ⟨rfl, rfl⟩⟩ ?_ ?_
    · rintro j st hj ⟨v, H, rfl, hr⟩
      have ln := tidyN_len l j
      obtain ⟨v', H', h1, h2⟩ := tidy_round l j hj (by omega) (tidyN l j) (by omega) (tidyN_sz hs j (by omega)) (hs _ (nth_mem hj)) H v hr
      exact ⟨_, h1, v', H', rfl, h2⟩
    · rintro st ⟨v, H, rfl, hr⟩
      refine ⟨(.exit 0, ⟨[.t (.sl (l.map World.e)), .und, v, I l.length, .und, .und], H⟩), ?_, by simp, v, H, rfl, hr⟩
      simp (disch := omega) only [go_sem, K.ref26_Tidy_l1b, ↓reduceIte, Nat.reduceAdd, Nat.reduceSub]
  obtain ⟨q, hq, v, H, rfl, hr⟩ := loop .nil .und .und
  have nz : 1 ≤ (tidyF l).length := by
    unfold tidyF
    cases hn : l.length with
    | zero => omega
    | succ n => exact (tidy1_len _ _).2.2
  rcases hr with ⟨rfl, he⟩ | ⟨id, es, fa, fb, rfl, h0, hr⟩
  · rw [he] at nz; simp at nz
  · obtain ⟨f1, f2⟩ := hr.frz
    have fin := finish_live H id 2 (tidyF l).length es _ hr.arr hr.len.symm f1 f2
    simp (disch := omega) only [go_sem, K.ref26_Tidy, ↓reduceIte, Nat.reduceAdd, Nat.reduceSub, hq, fin]

end Go.Ev

/- More about operations, and searches. -/
namespace Go.Ev
open Go
variable [Lib] [Has1] [Has2]

@[go_sem] theorem opBs_3n (H : Heap) (a b : List T) : opBs H 1 [.t (.sl a), .t (.sl b), .nil] = some (.t (.sl [.sl a, .sl b, .sl []]), H) := by
  simp only [opBs, List.all_cons, List.all_nil, D.cells, T.cells, List.map_cons, List.map_nil, List.length_cons, List.length_nil, mapO, frz, depth, arrs, List.flatMap_cons, List.flatMap_nil, pins]
  rfl
/- equality of numbers side by side -/
def eqAnd (c : Bool) : Option Bool → Option Bool
  | some d => some (c && d)
  | none => none
@[go_sem] theorem eqAnd_some (c d : Bool) : eqAnd c (some d) = some (c && d) := (rfl)
@[go_sem] theorem eqInts_nil : eqInts [] [] = some true := (rfl)
@[go_sem] theorem eqInts_cons (k : IntKind) (a b : Int) (xs ys : List T) : eqInts (.int k a :: xs) (.int k b :: ys) = eqAnd (decide (a = b)) (eqInts xs ys) := by
  simp only [eqInts, if_true, beqI]
  cases eqInts xs ys <;> rfl
def eqOut (H : Heap) (neg : Bool) : Option Bool → Option (D × Heap)
  | some r => some (.t (.bool (bif neg then !r else r)), H)
  | none => none
@[go_sem] theorem eqOut_true (H : Heap) (r : Bool) : eqOut H true (some r) = some (.t (.bool (!r)), H) := (rfl)
@[go_sem] theorem eqOut_false (H : Heap) (r : Bool) : eqOut H false (some r) = some (.t (.bool r), H) := (rfl)
@[go_sem] theorem opEqk_intsG (H : Heap) (n : Nat) (neg : Bool) (xs ys : List T) : opEqk H (.ints n) neg (some (.t (.agg xs))) (some (.t (.agg ys))) = if xs.length = n then eqOut H neg (eqInts xs ys) else none := by
  simp only [opEqk, Option.bind_some, eqD]
  by_cases h : xs.length = n
  · rw [if_pos h, if_pos h]
    cases eqInts xs ys with
    | none => rfl
    | some r => cases neg <;> rfl
  · rw [if_neg h, if_neg h]; rfl

@[go_sem] theorem q_cast_two : ((2 : Nat) : Int) = 2 := (rfl)
@[go_sem] theorem q_cast_three : ((3 : Nat) : Int) = 3 := (rfl)

/- A search: the first round that leaves, or the end. -/
def firstN (n : Nat) (p : Nat → Bool) : Nat := ((List.range n).find? p).getD 0
theorem loop_srch {gc : Bool} {dead : List Nat} {c : C} {vs : List D} {H : Heap} (s : Nat → St) (n : Nat) (p : Nat → Bool) (e : Nat → Ex × St) (eN : Ex × St)
    (h0 : (⟨dropV dead vs, H⟩ : St) = s 0)
    (hs : ∀ j, j < n → p j = false → roundC gc dead (s j).H.length (exS CALL c (s j)) = some (s (j + 1)))
    (he : ∀ j, j < n → p j = true → exS CALL c (s j) = some (e j) ∧ (e j).1 ≠ .normal)
    (hN : exS CALL c (s n) = some eN) (hn : eN.1 ≠ .normal) :
    exS CALL (.loop gc dead c) ⟨vs, H⟩ = some (if (List.range n).any p = true then e (firstN n p) else eN) := by
  rw [loop_first s n p e eN h0 hs he hN hn, ← find_any]
  unfold firstN
  cases hf : (List.range n).find? p with
  | none => simp
  | some k => simp
theorem any_rng {α : Type} [Dat α] (l : List α) (p : α → Bool) : ((List.range l.length).any fun j => p (nth l j)) = l.any p := by
  rw [Bool.eq_iff_iff, List.any_eq_true, List.any_eq_true]
  constructor
  · rintro ⟨j, hj, hp⟩
    exact ⟨_, nth_mem (List.mem_range.1 hj), hp⟩
  · rintro ⟨x, hx, hp⟩
    obtain ⟨j, hj, rfl⟩ := List.getElem_of_mem hx
    exact ⟨j, List.mem_range.2 hj, by rw [nth_eq (List.getElem?_eq_getElem hj)]; exact hp⟩
theorem all_rng (n : Nat) (p : Nat → Bool) : (List.range n).all p = !((List.range n).any fun j => !p j) := by
  rw [List.all_eq_not_any_not]
end Go.Ev

/- MADE BY PROGRAM (lib.py): the numbers of functions. -/
namespace Go.Ev.N
def law34_FiringRaw : Nat := 78
def law34_FiringMade : Nat := 79
def law34_FiringNeeds : Nat := 80
def law34_awake : Nat := 81
def made_Dice_Ints : Nat := 82
def law34_scene : Nat := 83
def law34_agree : Nat := 84
def law34_ready : Nat := 85
def firing_Arm : Nat := 86
def firing_Agree : Nat := 87
def firing_Fire : Nat := 88
def firing_Abort : Nat := 89
def firing_Valid : Nat := 90
def firing_Due : Nat := 91
def ref32_Border : Nat := 92
def ref32_Seal : Nat := 93
def made_Last : Nat := 94
def ref34_Arm : Nat := 95
def ref34_Agree : Nat := 96
def ref34_Fire : Nat := 97
def ref34_Abort : Nat := 98
def ref34_Valid : Nat := 99
def firing_Safe : Nat := 100
def ref34_Safe : Nat := 101
def ref34_Due : Nat := 102
def firing_request_check : Nat := 103
def firing_timely : Nat := 104
def lists_Rising : Nat := 105
def ref32_Barred : Nat := 106
def ref32_seal : Nat := 107
def ref34_step : Nat := 108
def ref34_blast : Nat := 109
def keys_Valid : Nat := 110
def area_Clear : Nat := 111
def ref33_Valid : Nat := 112
def ref32_Clear : Nat := 113
def ref31_Copy : Nat := 114
def keys_Valid_1 : Nat := 115
def keys_roads : Nat := 116
def keys_boxed : Nat := 117
def area_Clear_1 : Nat := 118
def keys_boxed_1 : Nat := 119
def ref26_Copy_v1 : Nat := 120
def ref26_Copy_v2 : Nat := 121
def ref26_CopyWorld_v2 : Nat := 122
end Go.Ev.N

/- MADE BY PROGRAM (lib.py): the compact code of functions. -/
namespace Go.Ev.K
open Go.Ev
/-- /law34.FiringRaw -/
def law34_FiringRaw : Fn := { nargs := 3, vars := [0, 1, 2, 4, 5, 6, 7, 8, 9, 10, 11, 12, 13], body := (.seq (.reg [{ o := .bx (.v 1) 3, d := some 3 }, { o := .bx (.v 2) 4, d := some 4 }, { o := .mv (.b false), d := some 5 }] []) (.seq (.ite [{ o := .mv (.v 0) }, { o := .ca N.made_Light 0 [] [.l 0] }, { o := .un .not (.l 0) }, { o := .mv (.l 0) }, { o := .fa (.v 3) 0, g := some (0, false) }, { o := .ld (.l 0) 1 false, g := some (1, false) }, { o := .ln (.l 0), g := some (2, false) }, { o := .bin .gtr (.l 0) (.i 80), g := some (3, false) }, { o := .pk (.l 4) (.b true) (.l 0) }] [] 0 (.seq (.reg [{ o := .ca N.law34_awake 0 [] [] }, { o := .mv (.l 0), d := some 5 }] []) .ret) .skip) (.seq (.reg [{ o := .mv (.v 0) }, { o := .ca N.made_Roll 0 [] [.l 0] }, { o := .mv (.l 0), d := some 6 }] []) (.seq (.reg [{ o := .mv (.v 6) }, { o := .bs [.i 1, .i 2, .i 3, .i 0, .i (-1)] 1 }, { o := .ca N.made_Dice_Of 0 [] [.l 1, .l 0] }, { o := .mv (.v 6) }, { o := .fa (.v 4) 3 }, { o := .ld (.l 0) 1 false }, { o := .fa (.v 4) 3 }, { o := .ld (.l 0) 1 false }, { o := .bin .quo (.l 0) (.i 2) }, { o := .bs [.l 3, .i 50, .l 0, .i (-1), .i 2147483648, .i 2147483649] 1 }, { o := .ca N.made_Dice_Of 0 [] [.l 6, .l 0] }, { o := .mv (.l 8), d := some 7 }, { o := .mv (.l 1), d := some 8 }] [(1, 1), (5, 0), (7, 0), (9, 0)]) (.seq (.reg [{ o := .mv (.v 6) }, { o := .ca N.made_Dice_Some 0 [] [.l 0, .i 4] }, { o := .mv (.v 6) }, { o := .ca N.made_Dice_Ints 0 [] [.l 0] }, { o := .mv (.v 6) }, { o := .ca N.made_Dice_One 0 [] [.l 0, .i 2] }, { o := .bd [.nil, .nil, .t (.bool false)] [(0, 1, .l 4), (1, 1, .l 2), (2, 1, .l 0)] }, { o := .al [.nil, .nil, .t (.bool false)] [], d := some 9 }, { o := .st (.l 0) (.l 1) 3 [] }] []) (.seq (.reg [{ o := .mv (.v 6) }, { o := .ca N.law34_scene 0 [] [.l 0] }, { o := .mv (.l 0) }, { o := .ex (.l 0) 0 }, { o := .ex (.l 1) 1 }, { o := .ex (.l 2) 2 }, { o := .al [.nil, .t (.int .i64 (0)), .t (.int .i64 (0))] [], d := some 10 }, { o := .al [.nil, .nil, .t (.bool false)] [], d := some 11 }, { o := .al [.nil] [], d := some 12 }, { o := .st (.l 2) (.l 5) 3 [] }, { o := .st (.l 2) (.l 5) 3 [] }, { o := .st (.l 2) (.l 5) 1 [] }] []) (.seq (.reg [{ o := .ca N.law34_awake 0 [] [] }, { o := .mv (.l 0) }, { o := .ld (.v 3) 3 true, g := some (0, true) }, { o := .ld (.v 4) 4 true, g := some (1, true) }, { o := .ld (.v 9) 3 true, g := some (2, true) }, { o := .ld (.v 12) 1 true, g := some (3, true) }, { o := .mv (.v 7), g := some (4, true) }, { o := .mv (.v 8), g := some (5, true) }, { o := .mv (.v 6), g := some (6, true) }, { o := .ca N.made_Dice_One 0 [] [.l 0, .i 2], g := some (7, true) }, { o := .ca N.law34_agree 0 [] [.l 7, .l 6, .l 5, .l 4, .l 3, .l 2, .l 0], g := some (8, true) }, { o := .pk (.l 9) (.l 0) (.b false) }, { o := .mv (.l 0) }, { o := .ld (.v 10) 3 true, g := some (0, true) }, { o := .ld (.v 4) 4 true, g := some (1, true) }, { o := .ld (.v 11) 3 true, g := some (2, true) }, { o := .ld (.v 12) 1 true, g := some (3, true) }, { o := .mv (.v 7), g := some (4, true) }, { o := .mv (.v 8), g := some (5, true) }, { o := .ca N.law34_agree 0 [] [.l 5, .l 4, .l 3, .l 2, .l 1, .l 0, .b false], g := some (6, true) }, { o := .pk (.l 7) (.l 0) (.b false) }, { o := .mv (.l 0) }, { o := .ld (.v 3) 3 true, g := some (0, true) }, { o := .bd [.t (.int .i64 (0)), .t (.int .i64 (0)), .t (.int .i64 (0)), .t (.int .i64 (0))] [], g := some (1, true) }, { o := .ld (.v 11) 3 true, g := some (2, true) }, { o := .ld (.v 12) 1 true, g := some (3, true) }, { o := .mv (.v 7), g := some (4, true) }, { o := .mv (.v 8), g := some (5, true) }, { o := .ca N.law34_agree 0 [] [.l 5, .l 4, .l 3, .l 2, .l 1, .l 0, .b true], g := some (6, true) }, { o := .pk (.l 7) (.l 0) (.b false) }, { o := .mv (.l 0) }, { o := .ld (.v 10) 3 true, g := some (0, true) }, { o := .ld (.v 4) 4 true, g := some (1, true) }, { o := .ld (.v 9) 3 true, g := some (2, true) }, { o := .bd [.nil] [], g := some (3, true) }, { o := .mv (.v 7), g := some (4, true) }, { o := .mv (.v 8), g := some (5, true) }, { o := .ca N.law34_agree 0 [] [.l 5, .l 4, .l 3, .l 2, .l 1, .l 0, .b true], g := some (6, true) }, { o := .pk (.l 7) (.l 0) (.b false) }, { o := .mv (.l 0), d := some 5 }] [(2, 10), (3, 10), (4, 10), (5, 10)]) .ret))))))), res := [(5, none)] }
def law34_FiringMade_l1b : C := (.seq (.ite [{ o := .mv (.v 7) }, { o := .bin .lss (.l 0) (.i 6) }] [] 0 .skip (.exit 0)) (.seq (.blk 1 (.seq (.reg [{ o := .fa (.v 6) 3 }, { o := .ld (.l 0) 1 false }, { o := .mv (.v 2) }, { o := .fa (.v 3) 1 }, { o := .ld (.l 0) 1 false }, { o := .fa (.v 3) 1 }, { o := .ld (.l 0) 1 false }, { o := .bin .add (.l 0) (.i 1) }, { o := .fa (.v 3) 2 }, { o := .ld (.l 0) 1 false }, { o := .fa (.v 3) 2 }, { o := .ld (.l 0) 1 false }, { o := .bin .sub (.l 0) (.i 1) }, { o := .bs [.i 0, .l 8, .l 5, .l 3, .l 0, .i (-1), .i 5] 1 }, { o := .ca N.made_Dice_Of 0 [] [.l 11, .l 0] }, { o := .bin .add (.l 13) (.l 0) }, { o := .mv (.l 0), d := some 8 }] [(1, 14), (1, 15)]) (.ite [{ o := .ld (.v 3) 3 true }, { o := .ld (.v 6) 4 true }, { o := .ld (.v 4) 3 true }, { o := .ld (.v 5) 1 true }, { o := .mv (.v 2) }, { o := .bs [.i 1, .i 2, .i 3, .i 0] 1 }, { o := .ca N.made_Dice_Of 0 [] [.l 1, .l 0] }, { o := .mv (.v 8) }, { o := .mv (.v 2) }, { o := .ca N.made_Dice_One 0 [] [.l 0, .i 2] }, { o := .ca N.law34_agree 0 [] [.l 9, .l 8, .l 7, .l 6, .l 3, .l 2, .l 0] }, { o := .un .not (.l 0) }] [(0, 6), (0, 7), (0, 10), (1, 6), (1, 7), (1, 10), (2, 6), (2, 7), (2, 10), (3, 6), (3, 7), (3, 10)] 0 (.seq (.reg [{ o := .mv (.b false), d := some 1 }] []) .ret) .skip))) (.reg [{ o := .mv (.v 7) }, { o := .bin .add (.l 0) (.i 1) }, { o := .mv (.l 0), d := some 7 }] [])))
def law34_FiringMade_l1 : C := .loop true [0, 1, 8] K.law34_FiringMade_l1b
/-- /law34.FiringMade -/
def law34_FiringMade : Fn := { nargs := 1, vars := [0, 2, 3, 4, 5, 6, 7, 8, 9], body := (.seq (.reg [{ o := .mv (.b false), d := some 1 }] []) (.seq (.ite [{ o := .mv (.v 0) }, { o := .ca N.made_Light 0 [] [.l 0] }, { o := .un .not (.l 0) }] [] 0 (.seq (.reg [{ o := .ca N.law34_awake 0 [] [] }, { o := .mv (.l 0), d := some 1 }] []) .ret) .skip) (.seq (.reg [{ o := .mv (.v 0) }, { o := .ca N.made_Roll 0 [] [.l 0] }, { o := .mv (.l 0), d := some 2 }] []) (.seq (.reg [{ o := .mv (.v 2) }, { o := .ca N.law34_scene 0 [] [.l 0] }, { o := .mv (.l 0) }, { o := .ex (.l 0) 0 }, { o := .ex (.l 1) 1 }, { o := .ex (.l 2) 2 }, { o := .al [.nil, .t (.int .i64 (0)), .t (.int .i64 (0))] [], d := some 3 }, { o := .al [.nil, .nil, .t (.bool false)] [], d := some 4 }, { o := .al [.nil] [], d := some 5 }, { o := .st (.l 2) (.l 5) 3 [] }, { o := .st (.l 2) (.l 5) 3 [] }, { o := .st (.l 2) (.l 5) 1 [] }] []) (.seq (.ite [{ o := .mv (.v 2) }, { o := .ca N.made_Dice_One 0 [] [.l 0, .i 2] }] [] 0 (.reg [{ o := .ca N.law34_ready 0 [] [] }, { o := .mv (.l 0) }, { o := .ex (.l 0) 0 }, { o := .ex (.l 1) 1 }, { o := .ex (.l 2) 2 }, { o := .st (.v 3) (.l 2) 3 [] }, { o := .st (.v 4) (.l 2) 3 [] }, { o := .st (.v 5) (.l 2) 1 [] }] []) .skip) (.seq (.reg [{ o := .mv (.v 2) }, { o := .ca N.made_Dice_Next 0 [] [.l 0, .i 5] }, { o := .bd [.t (.int .i64 (0)), .t (.int .i64 (0)), .t (.int .i64 (0)), .t (.int .i64 (0))] [(0, 1, .l 0)] }, { o := .al [.t (.int .i64 (0)), .t (.int .i64 (0)), .t (.int .i64 (0)), .t (.int .i64 (0))] [], d := some 6 }, { o := .st (.l 0) (.l 1) 4 [] }] []) (.seq (.ite [{ o := .fa (.v 6) 0 }, { o := .ld (.l 0) 1 false }, { o := .bin .gtr (.l 0) (.i 0) }] [] 0 (.reg [{ o := .mv (.v 2) }, { o := .ca N.made_Dice_Next 0 [] [.l 0, .i 2] }, { o := .bin .add (.i 1) (.l 0) }, { o := .mv (.v 2) }, { o := .bs [.i 500, .i 0, .i 77] 1 }, { o := .ca N.made_Dice_Of 0 [] [.l 1, .l 0] }, { o := .fa (.v 6) 1 }, { o := .st (.l 0) (.l 4) 1 [] }, { o := .fa (.v 6) 3 }, { o := .st (.l 0) (.l 3) 1 [] }] []) .skip) (.seq (.ite [{ o := .fa (.v 6) 0 }, { o := .ld (.l 0) 1 false }, { o := .bin .gtr (.l 0) (.i 1) }] [] 0 (.reg [{ o := .fa (.v 6) 1 }, { o := .ld (.l 0) 1 false }, { o := .bin .sub (.i 3) (.l 0) }, { o := .fa (.v 6) 2 }, { o := .st (.l 0) (.l 1) 1 [] }] []) .skip) (.seq (.seq (.reg [{ o := .mv (.i 0), d := some 7 }] []) (.blk 0 K.law34_FiringMade_l1)) (.seq (.reg [{ o := .ca N.law34_awake 0 [] [] }, { o := .mv (.l 0), d := some 1 }] []) .ret)))))))))), res := [(1, none)] }
def law34_FiringNeeds_l1b : C := (.seq (.ite [{ o := .mv (.v 13) }, { o := .bin .gtr (.l 0) (.i 0) }] [] 0 .skip (.exit 0)) (.seq (.blk 1 (.seq (.reg [{ o := .mv (.v 8) }, { o := .mv (.v 2) }, { o := .bs [.i 0, .i 10, .i 200, .i 301] 1 }, { o := .ca N.made_Dice_Of 0 [] [.l 1, .l 0] }, { o := .bin .add (.l 3) (.l 0) }, { o := .mv (.l 0), d := some 8 }] []) (.seq (.reg [{ o := .al [.nil, .nil, .t (.bool false)] [], d := some 14 }, { o := .al [.nil] [], d := some 15 }, { o := .ld (.v 4) 3 true }, { o := .ld (.v 5) 1 true }, { o := .st (.l 3) (.l 1) 3 [] }, { o := .st (.l 3) (.l 1) 1 [] }] [(3, 5)]) (.seq (.reg [{ o := .mv (.v 2) }, { o := .ca N.made_Dice_Next 0 [] [.l 0, .i 6] }, { o := .bin .gtr (.l 0) (.i 0) }, { o := .fa (.v 14) 2 }, { o := .st (.l 0) (.l 1) 1 [] }] []) (.seq (.ite [{ o := .mv (.v 2) }, { o := .ca N.made_Dice_One 0 [] [.l 0, .i 6] }] [] 0 (.reg [{ o := .ld (.v 6) 1 true }, { o := .st (.v 15) (.l 0) 1 [] }] []) .skip) (.seq (.reg [{ o := .fa (.v 14) 2 }, { o := .ld (.l 0) 1 false }, { o := .mv (.l 0) }, { o := .fa (.v 15) 0, g := some (0, true) }, { o := .ld (.l 0) 1 false, g := some (1, true) }, { o := .ia (.l 0) (.i 0) 2, g := some (2, true) }, { o := .fa (.l 0) 1, g := some (3, true) }, { o := .ld (.l 0) 1 false, g := some (4, true) }, { o := .ia (.l 0) (.i 0) 2, g := some (5, true) }, { o := .fa (.l 0) 1, g := some (6, true) }, { o := .ld (.l 0) 1 false, g := some (7, true) }, { o := .ia (.l 0) (.i 1) 1, g := some (8, true) }, { o := .ld (.l 0) 1 false, g := some (9, true) }, { o := .bin .eql (.l 0) (.i 1099511627776), g := some (10, true) }, { o := .pk (.l 11) (.l 0) (.b false) }, { o := .mv (.l 0), d := some 16 }] []) (.seq (.reg [{ o := .mv (.v 2) }, { o := .ca N.made_Dice_Next 0 [] [.l 0, .i 3] }, { o := .bin .add (.i 1) (.l 0) }, { o := .mv (.l 0), d := some 17 }] []) (.seq (.seq (.reg [{ o := .mv (.v 2) }, { o := .ca N.made_Dice_Next 0 [] [.l 0, .i 4], d := some 26 }] []) (.blk 2 (.ite [{ o := .bin .eql (.v 26) (.i 0) }, { o := .mv (.l 0) }] [] 0 (.seq (.reg [{ o := .ld (.v 3) 3 true }, { o := .ld (.v 7) 4 true }, { o := .ld (.v 14) 3 true }, { o := .ld (.v 15) 1 true }, { o := .mv (.v 17) }, { o := .mv (.v 8) }, { o := .ca N.firing_Arm 0 [] [.l 5, .l 4, .l 3, .l 2, .l 1, .l 0] }, { o := .mv (.l 0) }, { o := .ex (.l 0) 0 }, { o := .ex (.l 1) 1 }, { o := .al [.t (.int .i64 (0)), .t (.int .i64 (0)), .t (.int .i64 (0)), .t (.int .i64 (0))] [], d := some 18 }, { o := .st (.l 0) (.l 2) 4 [] }, { o := .mv (.l 2), d := some 19 }] []) (.seq (.ite [{ o := .mv (.v 19) }, { o := .bin .eql (.l 0) (.i 0) }] [] 0 (.seq (.ite [{ o := .mv (.v 16) }, { o := .un .not (.l 0) }, { o := .mv (.l 0) }, { o := .fa (.v 7) 0, g := some (0, false) }, { o := .ld (.l 0) 1 false, g := some (1, false) }, { o := .bin .neq (.l 0) (.i 0), g := some (2, false) }, { o := .pk (.l 3) (.b true) (.l 0) }] [] 0 (.seq (.reg [{ o := .mv (.b false), d := some 1 }] []) .ret) .skip) (.reg [{ o := .mv (.v 8) }, { o := .mv (.v 17) }, { o := .mv (.l 1), d := some 9 }, { o := .mv (.l 1), d := some 11 }] [])) .skip) (.reg [{ o := .ld (.v 18) 4 true }, { o := .st (.v 7) (.l 0) 4 [] }] []))) (.ite [{ o := .bin .eql (.v 26) (.i 1) }, { o := .mv (.l 0) }] [] 0 (.seq (.reg [{ o := .ld (.v 3) 3 true }, { o := .ld (.v 7) 4 true }, { o := .ld (.v 14) 3 true }, { o := .ld (.v 15) 1 true }, { o := .mv (.v 17) }, { o := .mv (.v 8) }, { o := .ca N.firing_Agree 0 [] [.l 5, .l 4, .l 3, .l 2, .l 1, .l 0] }, { o := .mv (.l 0) }, { o := .ex (.l 0) 0 }, { o := .ex (.l 1) 1 }, { o := .al [.t (.int .i64 (0)), .t (.int .i64 (0)), .t (.int .i64 (0)), .t (.int .i64 (0))] [], d := some 20 }, { o := .st (.l 0) (.l 2) 4 [] }, { o := .mv (.l 2), d := some 21 }] []) (.seq (.ite [{ o := .mv (.v 21) }, { o := .bin .eql (.l 0) (.i 0) }] [] 0 (.seq (.ite [{ o := .mv (.v 16) }, { o := .un .not (.l 0) }, { o := .mv (.l 0) }, { o := .mv (.v 9), g := some (0, false) }, { o := .bin .lss (.l 0) (.i 0), g := some (1, false) }, { o := .pk (.l 2) (.b true) (.l 0) }, { o := .mv (.l 0) }, { o := .mv (.v 8), g := some (0, false) }, { o := .mv (.v 9), g := some (1, false) }, { o := .bin .sub (.l 1) (.l 0), g := some (2, false) }, { o := .fa (.v 3) 1, g := some (3, false) }, { o := .ld (.l 0) 1 false, g := some (4, false) }, { o := .bin .gtr (.l 2) (.l 0), g := some (5, false) }, { o := .pk (.l 6) (.b true) (.l 0) }, { o := .mv (.l 0) }, { o := .mv (.v 17), g := some (0, false) }, { o := .mv (.v 11), g := some (1, false) }, { o := .bin .eql (.l 1) (.l 0), g := some (2, false) }, { o := .pk (.l 3) (.b true) (.l 0) }] [] 0 (.seq (.reg [{ o := .mv (.b false), d := some 1 }] []) .ret) .skip) (.reg [{ o := .mv (.v 8) }, { o := .mv (.v 17) }, { o := .mv (.l 1), d := some 10 }, { o := .mv (.l 1), d := some 12 }] [])) .skip) (.reg [{ o := .ld (.v 20) 4 true }, { o := .st (.v 7) (.l 0) 4 [] }] []))) (.ite [{ o := .bin .eql (.v 26) (.i 2) }, { o := .mv (.l 0) }] [] 0 (.seq (.reg [{ o := .al [.t (.int .i64 (0)), .t (.int .i64 (0)), .t (.int .i64 (0)), .t (.int .i64 (0))] [], d := some 22 }, { o := .ld (.v 3) 3 true }, { o := .ld (.v 7) 4 true }, { o := .ld (.v 14) 3 true }, { o := .ld (.v 15) 1 true }, { o := .mv (.v 8) }, { o := .mv (.v 2) }, { o := .ca N.made_Dice_One 0 [] [.l 0, .i 3] }, { o := .ca N.firing_Fire 0 [] [.l 6, .l 5, .l 4, .l 3, .l 2, .l 0] }, { o := .mv (.l 0) }, { o := .ex (.l 0) 0 }, { o := .ex (.l 1) 1 }, { o := .st (.l 11) (.l 1) 4 [] }, { o := .mv (.l 1), d := some 23 }] [(0, 8), (0, 9), (1, 8), (2, 8), (3, 8), (4, 8)]) (.seq (.ite [{ o := .mv (.v 23) }, { o := .bin .eql (.l 0) (.i 0) }, { o := .mv (.l 0) }, { o := .mv (.v 16), g := some (0, true) }, { o := .un .not (.l 0), g := some (1, true) }, { o := .mv (.l 0), g := some (2, true) }, { o := .mv (.v 10), g := some (0, false) }, { o := .bin .lss (.l 0) (.i 0), g := some (1, false) }, { o := .pk (.l 2) (.b true) (.l 0), g := some (5, true) }, { o := .mv (.l 0), g := some (6, true) }, { o := .mv (.v 8), g := some (0, false) }, { o := .mv (.v 10), g := some (1, false) }, { o := .bin .sub (.l 1) (.l 0), g := some (2, false) }, { o := .fa (.v 3) 1, g := some (3, false) }, { o := .ld (.l 0) 1 false, g := some (4, false) }, { o := .bin .gtr (.l 2) (.l 0), g := some (5, false) }, { o := .pk (.l 6) (.b true) (.l 0), g := some (13, true) }, { o := .mv (.l 0), g := some (14, true) }, { o := .mv (.v 11), g := some (0, false) }, { o := .mv (.v 12), g := some (1, false) }, { o := .bin .eql (.l 1) (.l 0), g := some (2, false) }, { o := .pk (.l 3) (.b true) (.l 0), g := some (18, true) }, { o := .pk (.l 19) (.l 0) (.b false) }] [] 0 (.seq (.reg [{ o := .mv (.b false), d := some 1 }] []) .ret) .skip) (.reg [{ o := .ld (.v 22) 4 true }, { o := .st (.v 7) (.l 0) 4 [] }] []))) (.seq (.reg [{ o := .ld (.v 3) 3 true }, { o := .ld (.v 7) 4 true }, { o := .mv (.v 8) }, { o := .ca N.firing_Abort 0 [] [.l 2, .l 1, .l 0] }, { o := .mv (.l 0) }, { o := .ex (.l 0) 0 }, { o := .ex (.l 1) 1 }, { o := .al [.t (.int .i64 (0)), .t (.int .i64 (0)), .t (.int .i64 (0)), .t (.int .i64 (0))] [], d := some 24 }, { o := .st (.l 0) (.l 2) 4 [] }, { o := .mv (.l 2), d := some 25 }] []) (.seq (.ite [{ o := .mv (.v 25) }, { o := .bin .eql (.l 0) (.i 0) }] [] 0 (.reg [{ o := .mv (.i (-1)), d := some 9 }, { o := .mv (.i (-1)), d := some 10 }, { o := .mv (.i 0), d := some 11 }, { o := .mv (.i 0), d := some 12 }] []) .skip) (.reg [{ o := .ld (.v 24) 4 true }, { o := .st (.v 7) (.l 0) 4 [] }] [])))))))) (.ite [{ o := .ld (.v 3) 3 true }, { o := .ld (.v 7) 4 true }, { o := .ca N.firing_Valid 0 [] [.l 1, .l 0] }, { o := .un .not (.l 0) }] [] 0 (.seq (.reg [{ o := .mv (.b false), d := some 1 }] []) .ret) .skip))))))))) (.reg [{ o := .mv (.v 13) }, { o := .bin .sub (.l 0) (.i 1) }, { o := .mv (.l 0), d := some 13 }] [])))
def law34_FiringNeeds_l1 : C := .loop true [0, 1, 14, 15, 16, 17, 18, 19, 20, 21, 22, 23, 24, 25, 26] K.law34_FiringNeeds_l1b
/-- /law34.FiringNeeds -/
def law34_FiringNeeds : Fn := { nargs := 1, vars := [0, 2, 3, 4, 5, 6, 7, 8, 9, 10, 11, 12, 13, 14, 15, 16, 17, 18, 19, 20, 21, 22, 23, 24, 25, 26, 88], body := (.seq (.reg [{ o := .mv (.b false), d := some 1 }] []) (.seq (.ite [{ o := .mv (.v 0) }, { o := .ca N.made_Light 0 [] [.l 0] }, { o := .un .not (.l 0) }] [] 0 (.seq (.reg [{ o := .ca N.law34_awake 0 [] [] }, { o := .mv (.l 0), d := some 1 }] []) .ret) .skip) (.seq (.reg [{ o := .mv (.v 0) }, { o := .ca N.made_Roll 0 [] [.l 0] }, { o := .mv (.l 0), d := some 2 }] []) (.seq (.reg [{ o := .ca N.law34_ready 0 [] [] }, { o := .mv (.l 0) }, { o := .ex (.l 0) 0 }, { o := .ex (.l 1) 1 }, { o := .ex (.l 2) 2 }, { o := .al [.nil, .t (.int .i64 (0)), .t (.int .i64 (0))] [], d := some 3 }, { o := .al [.nil, .nil, .t (.bool false)] [], d := some 4 }, { o := .al [.nil] [], d := some 5 }, { o := .st (.l 2) (.l 5) 3 [] }, { o := .st (.l 2) (.l 5) 3 [] }, { o := .st (.l 2) (.l 5) 1 [] }] []) (.seq (.reg [{ o := .ld (.v 5) 1 true }, { o := .ca N.ref26_Copy_v2 3 [] [.l 0] }, { o := .al [.nil] [], d := some 6 }, { o := .st (.l 0) (.l 1) 1 [] }] []) (.seq (.reg [{ o := .fa (.v 6) 0 }, { o := .ld (.l 0) 1 false }, { o := .ia (.l 0) (.i 0) 2 }, { o := .fa (.l 0) 1 }, { o := .ld (.l 0) 1 false }, { o := .ia (.l 0) (.i 0) 2 }, { o := .fa (.l 0) 1 }, { o := .ld (.l 0) 1 false }, { o := .ia (.l 0) (.i 1) 1 }, { o := .st (.l 0) (.i 5000) 1 [] }] []) (.seq (.reg [{ o := .al [.t (.int .i64 (0)), .t (.int .i64 (0)), .t (.int .i64 (0)), .t (.int .i64 (0))] [], d := some 7 }] []) (.seq (.reg [{ o := .mv (.i 0), d := some 8 }, { o := .mv (.i (-1)), d := some 9 }, { o := .mv (.i (-1)), d := some 10 }, { o := .mv (.i 0), d := some 11 }, { o := .mv (.i 0), d := some 12 }] []) (.seq (.seq (.reg [{ o := .mv (.v 2) }, { o := .ca N.made_Dice_Next 0 [] [.l 0, .i 30] }, { o := .mv (.l 0), d := some 13 }] []) (.blk 0 K.law34_FiringNeeds_l1)) (.seq (.reg [{ o := .ca N.law34_awake 0 [] [] }, { o := .mv (.l 0), d := some 1 }] []) .ret)))))))))), res := [(1, none)] }
/-- /law34.awake -/
def law34_awake : Fn := { nargs := 0, vars := [0, 1, 2, 3, 4, 5, 6, 7, 8, 9, 11], body := (.seq (.reg [{ o := .mv (.b false), d := some 0 }] []) (.seq (.reg [{ o := .ca N.law34_ready 0 [] [] }, { o := .mv (.l 0) }, { o := .ex (.l 0) 0 }, { o := .ex (.l 1) 1 }, { o := .ex (.l 2) 2 }, { o := .al [.nil, .t (.int .i64 (0)), .t (.int .i64 (0))] [], d := some 1 }, { o := .al [.nil, .nil, .t (.bool false)] [], d := some 2 }, { o := .al [.nil] [], d := some 3 }, { o := .st (.l 2) (.l 5) 3 [] }, { o := .st (.l 2) (.l 5) 3 [] }, { o := .st (.l 2) (.l 5) 1 [] }] []) (.seq (.reg [{ o := .ld (.v 1) 3 true }, { o := .bd [.t (.int .i64 (0)), .t (.int .i64 (0)), .t (.int .i64 (0)), .t (.int .i64 (0))] [] }, { o := .ld (.v 2) 3 true }, { o := .ld (.v 3) 1 true }, { o := .ca N.firing_Arm 0 [] [.l 3, .l 2, .l 1, .l 0, .i 1, .i 100] }, { o := .mv (.l 0) }, { o := .ex (.l 0) 0 }, { o := .ex (.l 1) 1 }, { o := .al [.t (.int .i64 (0)), .t (.int .i64 (0)), .t (.int .i64 (0)), .t (.int .i64 (0))] [], d := some 4 }, { o := .st (.l 0) (.l 2) 4 [] }, { o := .mv (.l 2), d := some 5 }] []) (.seq (.reg [{ o := .ld (.v 1) 3 true }, { o := .ld (.v 4) 4 true }, { o := .ld (.v 2) 3 true }, { o := .ld (.v 3) 1 true }, { o := .ca N.firing_Agree 0 [] [.l 3, .l 2, .l 1, .l 0, .i 2, .i 200] }, { o := .mv (.l 0) }, { o := .ex (.l 0) 0 }, { o := .ex (.l 1) 1 }, { o := .al [.t (.int .i64 (0)), .t (.int .i64 (0)), .t (.int .i64 (0)), .t (.int .i64 (0))] [], d := some 6 }, { o := .st (.l 0) (.l 2) 4 [] }, { o := .mv (.l 2), d := some 7 }] []) (.seq (.reg [{ o := .ld (.v 1) 3 true }, { o := .ld (.v 6) 4 true }, { o := .ld (.v 2) 3 true }, { o := .ld (.v 3) 1 true }, { o := .ca N.firing_Fire 0 [] [.l 3, .l 2, .l 1, .l 0, .i 300, .b false] }, { o := .mv (.l 0) }, { o := .ex (.l 0) 0 }, { o := .ex (.l 1) 1 }, { o := .al [.t (.int .i64 (0)), .t (.int .i64 (0)), .t (.int .i64 (0)), .t (.int .i64 (0))] [], d := some 8 }, { o := .st (.l 0) (.l 2) 4 [] }, { o := .mv (.l 2), d := some 9 }] []) (.seq (.reg [{ o := .ld (.v 1) 3 true }, { o := .ld (.v 4) 4 true }, { o := .ld (.v 2) 3 true }, { o := .ld (.v 3) 1 true }, { o := .ca N.firing_Agree 0 [] [.l 3, .l 2, .l 1, .l 0, .i 1, .i 200] }, { o := .mv (.l 0) }, { o := .ex (.l 0) 0 }, { o := .ex (.l 1) 1 }, { o := .al [.t (.int .i64 (0)), .t (.int .i64 (0)), .t (.int .i64 (0)), .t (.int .i64 (0))] [] }, { o := .st (.l 0) (.l 2) 4 [] }, { o := .mv (.l 2), d := some 10 }] []) (.seq (.reg [{ o := .mv (.v 5) }, { o := .bin .eql (.l 0) (.i 0) }, { o := .mv (.l 0) }, { o := .mv (.v 7), g := some (0, true) }, { o := .bin .eql (.l 0) (.i 0), g := some (1, true) }, { o := .pk (.l 2) (.l 0) (.b false) }, { o := .mv (.l 0) }, { o := .mv (.v 9), g := some (0, true) }, { o := .bin .eql (.l 0) (.i 0), g := some (1, true) }, { o := .pk (.l 2) (.l 0) (.b false) }, { o := .mv (.l 0) }, { o := .mv (.v 10), g := some (0, true) }, { o := .bin .eql (.l 0) (.i 19), g := some (1, true) }, { o := .pk (.l 2) (.l 0) (.b false) }, { o := .mv (.l 0) }, { o := .fa (.v 4) 0, g := some (0, true) }, { o := .ld (.l 0) 1 false, g := some (1, true) }, { o := .bin .eql (.l 0) (.i 1), g := some (2, true) }, { o := .pk (.l 3) (.l 0) (.b false) }, { o := .mv (.l 0) }, { o := .fa (.v 8) 0, g := some (0, true) }, { o := .ld (.l 0) 1 false, g := some (1, true) }, { o := .bin .eql (.l 0) (.i 3), g := some (2, true) }, { o := .pk (.l 3) (.l 0) (.b false) }, { o := .mv (.l 0) }, { o := .fa (.v 8) 3, g := some (0, true) }, { o := .ld (.l 0) 1 false, g := some (1, true) }, { o := .bin .eql (.l 0) (.i 300), g := some (2, true) }, { o := .pk (.l 3) (.l 0) (.b false) }, { o := .mv (.l 0) }, { o := .ld (.v 1) 3 true, g := some (0, true) }, { o := .ld (.v 4) 4 true, g := some (1, true) }, { o := .ca N.firing_Due 0 [] [.l 1, .l 0, .i 150], g := some (2, true) }, { o := .bin .eql (.l 0) (.i 250), g := some (3, true) }, { o := .pk (.l 4) (.l 0) (.b false) }, { o := .mv (.l 0), d := some 0 }] []) .ret))))))), res := [(0, none)] }
def made_Dice_Ints_l1b : C := (.seq (.ite [{ o := .mv (.v 3) }, { o := .bin .gtr (.l 0) (.i 0) }] [] 0 .skip (.exit 0)) (.seq (.blk 1 (.reg [{ o := .mv (.v 2) }, { o := .mv (.v 0) }, { o := .ca N.made_Dice_Next 0 [] [.l 0, .i 9] }, { o := .bin .sub (.l 0) (.i 1) }, { o := .bs [.l 0] 1 }, { o := .app (.l 4) (.l 0) true 1 }, { o := .mv (.l 0), d := some 2 }] [])) (.reg [{ o := .mv (.v 3) }, { o := .bin .sub (.l 0) (.i 1) }, { o := .mv (.l 0), d := some 3 }] [])))
def made_Dice_Ints_l1 : C := .loop true [1] K.made_Dice_Ints_l1b
/-- (*/made.Dice).Ints -/
def made_Dice_Ints : Fn := { nargs := 1, vars := [0, 2, 3, 4], body := (.seq (.reg [{ o := .mv (.c (.nil)), d := some 1 }] []) (.seq (.reg [{ o := .nw 1, d := some 2 }] []) (.seq (.seq (.reg [{ o := .mv (.v 0) }, { o := .ca N.made_Dice_Next 0 [] [.l 0, .i 5] }, { o := .mv (.l 0), d := some 3 }] []) (.blk 0 K.made_Dice_Ints_l1)) (.seq (.reg [{ o := .mv (.v 2) }, { o := .mv (.l 0), d := some 1 }] []) .ret)))), res := [(1, none)] }
/-- /law34.scene -/
def law34_scene : Fn := { nargs := 1, vars := [0, 2, 3, 4, 5, 6, 7, 8, 9, 10, 11], body := (.seq (.reg [{ o := .al [.nil, .t (.int .i64 (0)), .t (.int .i64 (0))] [], d := some 1 }, { o := .al [.nil, .nil, .t (.bool false)] [], d := some 2 }, { o := .al [.nil] [], d := some 3 }] []) (.seq (.reg [{ o := .mv (.v 0) }, { o := .ca N.made_Dice_Mine 0 [] [.l 0] }, { o := .al [.nil, .nil] [], d := some 4 }, { o := .st (.l 0) (.l 1) 2 [] }] []) (.seq (.reg [{ o := .al [.nil, .t (.int .i64 (0)), .t (.int .i64 (0))] [], d := some 5 }, { o := .fa (.v 4) 0 }, { o := .ld (.l 0) 1 false }, { o := .ln (.l 0) }, { o := .bin .sub (.l 0) (.i 1) }, { o := .bs [.l 0] 1 }, { o := .mv (.v 0) }, { o := .bs [.i 299, .i 9] 1 }, { o := .ca N.made_Dice_Of 0 [] [.l 1, .l 0] }, { o := .bin .add (.i 1) (.l 0) }, { o := .mv (.v 0) }, { o := .bs [.i 1799, .i 9] 1 }, { o := .ca N.made_Dice_Of 0 [] [.l 1, .l 0] }, { o := .bin .add (.i 1) (.l 0) }, { o := .bd [.nil, .t (.int .i64 (0)), .t (.int .i64 (0))] [(0, 1, .l 8), (1, 1, .l 4), (2, 1, .l 0)] }, { o := .st (.l 14) (.l 0) 3 [] }] [(0, 9), (0, 13), (2, 9), (2, 13), (5, 9), (5, 13), (7, 7), (11, 1)]) (.seq (.reg [{ o := .mv (.v 0) }, { o := .ld (.v 4) 2 true }, { o := .ca N.made_Dice_Belief 0 [] [.l 1, .l 0] }, { o := .al [.nil] [], d := some 6 }, { o := .st (.l 0) (.l 1) 1 [] }] []) (.seq (.reg [{ o := .ld (.v 4) 2 true }, { o := .fa (.v 5) 0 }, { o := .ld (.l 0) 1 false }, { o := .ca N.ref32_Border 0 [] [.l 2, .l 0] }, { o := .mv (.l 0), d := some 7 }] []) (.seq (.reg [{ o := .al [.nil] [], d := some 8 }, { o := .ld (.v 4) 2 true }, { o := .ld (.v 6) 1 true }, { o := .mv (.v 7) }, { o := .ld (.v 6) 1 true }, { o := .ca N.made_Last 0 [] [.l 0] }, { o := .mv (.v 0) }, { o := .ca N.made_Dice_Next 0 [] [.l 0, .i 50] }, { o := .bin .add (.l 2) (.l 0) }, { o := .ca N.ref32_Seal 0 [] [.l 7, .l 6, .l 5, .l 0] }, { o := .mv (.l 0) }, { o := .ex (.l 0) 0 }, { o := .ex (.l 1) 1 }, { o := .st (.l 12) (.l 1) 1 [] }, { o := .mv (.l 1), d := some 9 }] [(0, 6), (0, 8), (0, 10), (1, 6), (1, 8), (2, 6), (2, 8)]) (.seq (.ite [{ o := .mv (.v 9) }, { o := .bin .neq (.l 0) (.i 0) }] [] 0 (.reg [{ o := .ld (.v 6) 1 true }, { o := .st (.v 8) (.l 0) 1 [] }] []) .skip) (.seq (.reg [{ o := .bs [.i 1] 1 }, { o := .bs [.i 2] 1 }, { o := .mv (.v 0) }, { o := .ca N.made_Dice_Next 0 [] [.l 0, .i 6] }, { o := .bin .gtr (.l 0) (.i 0) }, { o := .bd [.nil, .nil, .t (.bool false)] [(0, 1, .l 4), (1, 1, .l 3), (2, 1, .l 0)] }, { o := .al [.nil, .nil, .t (.bool false)] [], d := some 10 }, { o := .st (.l 0) (.l 1) 3 [] }] []) (.seq (.reg [{ o := .ld (.v 5) 3 true }, { o := .ld (.v 10) 3 true }, { o := .ld (.v 8) 1 true }, { o := .st (.v 1) (.l 2) 3 [] }, { o := .st (.v 2) (.l 2) 3 [] }, { o := .st (.v 3) (.l 2) 1 [] }] [(1, 4), (2, 4), (2, 5)]) .ret))))))))), res := [(1, some (3, true)), (2, some (3, true)), (3, some (1, true))] }
/-- /law34.agree -/
def law34_agree : Fn := { nargs := 7, vars := [0, 1, 2, 3, 4, 5, 6, 7, 8, 9, 10, 14, 15, 16, 17, 18, 19, 20, 21, 22, 23, 24, 25, 26, 27, 28, 29, 30], body := (.seq (.reg [{ o := .bx (.v 0) 3, d := some 7 }, { o := .bx (.v 1) 4, d := some 8 }, { o := .bx (.v 2) 3, d := some 9 }, { o := .bx (.v 3) 1, d := some 10 }, { o := .mv (.b false), d := some 11 }] []) (.seq (.reg [{ o := .ld (.v 7) 3 true }, { o := .ld (.v 8) 4 true }, { o := .ld (.v 9) 3 true }, { o := .ld (.v 10) 1 true }, { o := .mv (.v 4) }, { o := .mv (.v 5) }, { o := .ca N.firing_Arm 0 [] [.l 5, .l 4, .l 3, .l 2, .l 1, .l 0] }, { o := .mv (.l 0) }, { o := .ex (.l 0) 0 }, { o := .ex (.l 1) 1 }, { o := .al [.t (.int .i64 (0)), .t (.int .i64 (0)), .t (.int .i64 (0)), .t (.int .i64 (0))] [], d := some 12 }, { o := .st (.l 0) (.l 2) 4 [] }, { o := .mv (.l 2), d := some 13 }] []) (.seq (.reg [{ o := .ld (.v 7) 3 true }, { o := .ld (.v 8) 4 true }, { o := .ld (.v 9) 3 true }, { o := .ld (.v 10) 1 true }, { o := .mv (.v 4) }, { o := .mv (.v 5) }, { o := .ca N.ref34_Arm 0 [] [.l 5, .l 4, .l 3, .l 2, .l 1, .l 0] }, { o := .mv (.l 0) }, { o := .ex (.l 0) 0 }, { o := .ex (.l 1) 1 }, { o := .al [.t (.int .i64 (0)), .t (.int .i64 (0)), .t (.int .i64 (0)), .t (.int .i64 (0))] [], d := some 14 }, { o := .st (.l 0) (.l 2) 4 [] }, { o := .mv (.l 2), d := some 15 }] []) (.seq (.reg [{ o := .ld (.v 7) 3 true }, { o := .ld (.v 8) 4 true }, { o := .ld (.v 9) 3 true }, { o := .ld (.v 10) 1 true }, { o := .mv (.v 4) }, { o := .mv (.v 5) }, { o := .ca N.firing_Agree 0 [] [.l 5, .l 4, .l 3, .l 2, .l 1, .l 0] }, { o := .mv (.l 0) }, { o := .ex (.l 0) 0 }, { o := .ex (.l 1) 1 }, { o := .al [.t (.int .i64 (0)), .t (.int .i64 (0)), .t (.int .i64 (0)), .t (.int .i64 (0))] [], d := some 16 }, { o := .st (.l 0) (.l 2) 4 [] }, { o := .mv (.l 2), d := some 17 }] []) (.seq (.reg [{ o := .ld (.v 7) 3 true }, { o := .ld (.v 8) 4 true }, { o := .ld (.v 9) 3 true }, { o := .ld (.v 10) 1 true }, { o := .mv (.v 4) }, { o := .mv (.v 5) }, { o := .ca N.ref34_Agree 0 [] [.l 5, .l 4, .l 3, .l 2, .l 1, .l 0] }, { o := .mv (.l 0) }, { o := .ex (.l 0) 0 }, { o := .ex (.l 1) 1 }, { o := .al [.t (.int .i64 (0)), .t (.int .i64 (0)), .t (.int .i64 (0)), .t (.int .i64 (0))] [], d := some 18 }, { o := .st (.l 0) (.l 2) 4 [] }, { o := .mv (.l 2), d := some 19 }] []) (.seq (.reg [{ o := .ld (.v 7) 3 true }, { o := .ld (.v 8) 4 true }, { o := .ld (.v 9) 3 true }, { o := .ld (.v 10) 1 true }, { o := .mv (.v 5) }, { o := .mv (.v 6) }, { o := .ca N.firing_Fire 0 [] [.l 5, .l 4, .l 3, .l 2, .l 1, .l 0] }, { o := .mv (.l 0) }, { o := .ex (.l 0) 0 }, { o := .ex (.l 1) 1 }, { o := .al [.t (.int .i64 (0)), .t (.int .i64 (0)), .t (.int .i64 (0)), .t (.int .i64 (0))] [], d := some 20 }, { o := .st (.l 0) (.l 2) 4 [] }, { o := .mv (.l 2), d := some 21 }] []) (.seq (.reg [{ o := .ld (.v 7) 3 true }, { o := .ld (.v 8) 4 true }, { o := .ld (.v 9) 3 true }, { o := .ld (.v 10) 1 true }, { o := .mv (.v 5) }, { o := .mv (.v 6) }, { o := .ca N.ref34_Fire 0 [] [.l 5, .l 4, .l 3, .l 2, .l 1, .l 0] }, { o := .mv (.l 0) }, { o := .ex (.l 0) 0 }, { o := .ex (.l 1) 1 }, { o := .al [.t (.int .i64 (0)), .t (.int .i64 (0)), .t (.int .i64 (0)), .t (.int .i64 (0))] [], d := some 22 }, { o := .st (.l 0) (.l 2) 4 [] }, { o := .mv (.l 2), d := some 23 }] []) (.seq (.reg [{ o := .ld (.v 7) 3 true }, { o := .ld (.v 8) 4 true }, { o := .mv (.v 5) }, { o := .ca N.firing_Abort 0 [] [.l 2, .l 1, .l 0] }, { o := .mv (.l 0) }, { o := .ex (.l 0) 0 }, { o := .ex (.l 1) 1 }, { o := .al [.t (.int .i64 (0)), .t (.int .i64 (0)), .t (.int .i64 (0)), .t (.int .i64 (0))] [], d := some 24 }, { o := .st (.l 0) (.l 2) 4 [] }, { o := .mv (.l 2), d := some 25 }] []) (.seq (.reg [{ o := .ld (.v 7) 3 true }, { o := .ld (.v 8) 4 true }, { o := .mv (.v 5) }, { o := .ca N.ref34_Abort 0 [] [.l 2, .l 1, .l 0] }, { o := .mv (.l 0) }, { o := .ex (.l 0) 0 }, { o := .ex (.l 1) 1 }, { o := .al [.t (.int .i64 (0)), .t (.int .i64 (0)), .t (.int .i64 (0)), .t (.int .i64 (0))] [], d := some 26 }, { o := .st (.l 0) (.l 2) 4 [] }, { o := .mv (.l 2), d := some 27 }] []) (.seq (.reg [{ o := .ld (.v 12) 4 true }, { o := .ld (.v 14) 4 true }, { o := .eqk (.ints 4) false (.l 1) (.l 0) }, { o := .mv (.l 0) }, { o := .mv (.v 13), g := some (0, true) }, { o := .mv (.v 15), g := some (1, true) }, { o := .bin .eql (.l 1) (.l 0), g := some (2, true) }, { o := .pk (.l 3) (.l 0) (.b false) }, { o := .mv (.l 0) }, { o := .ld (.v 16) 4 true, g := some (0, true) }, { o := .ld (.v 18) 4 true, g := some (1, true) }, { o := .eqk (.ints 4) false (.l 1) (.l 0), g := some (2, true) }, { o := .pk (.l 3) (.l 0) (.b false) }, { o := .mv (.l 0) }, { o := .mv (.v 17), g := some (0, true) }, { o := .mv (.v 19), g := some (1, true) }, { o := .bin .eql (.l 1) (.l 0), g := some (2, true) }, { o := .pk (.l 3) (.l 0) (.b false) }, { o := .mv (.l 0) }, { o := .ld (.v 20) 4 true, g := some (0, true) }, { o := .ld (.v 22) 4 true, g := some (1, true) }, { o := .eqk (.ints 4) false (.l 1) (.l 0), g := some (2, true) }, { o := .pk (.l 3) (.l 0) (.b false) }, { o := .mv (.l 0) }, { o := .mv (.v 21), g := some (0, true) }, { o := .mv (.v 23), g := some (1, true) }, { o := .bin .eql (.l 1) (.l 0), g := some (2, true) }, { o := .pk (.l 3) (.l 0) (.b false) }, { o := .mv (.l 0) }, { o := .ld (.v 24) 4 true, g := some (0, true) }, { o := .ld (.v 26) 4 true, g := some (1, true) }, { o := .eqk (.ints 4) false (.l 1) (.l 0), g := some (2, true) }, { o := .pk (.l 3) (.l 0) (.b false) }, { o := .mv (.l 0) }, { o := .mv (.v 25), g := some (0, true) }, { o := .mv (.v 27), g := some (1, true) }, { o := .bin .eql (.l 1) (.l 0), g := some (2, true) }, { o := .pk (.l 3) (.l 0) (.b false) }, { o := .mv (.l 0) }, { o := .ld (.v 7) 3 true, g := some (0, true) }, { o := .ld (.v 8) 4 true, g := some (1, true) }, { o := .ca N.firing_Valid 0 [] [.l 1, .l 0], g := some (2, true) }, { o := .ld (.v 7) 3 true, g := some (3, true) }, { o := .ld (.v 8) 4 true, g := some (4, true) }, { o := .ca N.ref34_Valid 0 [] [.l 1, .l 0], g := some (5, true) }, { o := .eqk (.bool) false (.l 3) (.l 0), g := some (6, true) }, { o := .pk (.l 7) (.l 0) (.b false) }, { o := .mv (.l 0) }, { o := .ld (.v 7) 3 true, g := some (0, true) }, { o := .ld (.v 9) 3 true, g := some (1, true) }, { o := .ld (.v 10) 1 true, g := some (2, true) }, { o := .ca N.firing_Safe 0 [] [.l 2, .l 1, .l 0], g := some (3, true) }, { o := .ld (.v 7) 3 true, g := some (4, true) }, { o := .ld (.v 9) 3 true, g := some (5, true) }, { o := .ld (.v 10) 1 true, g := some (6, true) }, { o := .ca N.ref34_Safe 0 [] [.l 2, .l 1, .l 0], g := some (7, true) }, { o := .eqk (.bool) false (.l 4) (.l 0), g := some (8, true) }, { o := .pk (.l 9) (.l 0) (.b false) }, { o := .mv (.l 0) }, { o := .ld (.v 7) 3 true, g := some (0, true) }, { o := .ld (.v 8) 4 true, g := some (1, true) }, { o := .mv (.v 5), g := some (2, true) }, { o := .ca N.firing_Due 0 [] [.l 2, .l 1, .l 0], g := some (3, true) }, { o := .ld (.v 7) 3 true, g := some (4, true) }, { o := .ld (.v 8) 4 true, g := some (5, true) }, { o := .mv (.v 5), g := some (6, true) }, { o := .ca N.ref34_Due 0 [] [.l 2, .l 1, .l 0], g := some (7, true) }, { o := .bin .eql (.l 4) (.l 0), g := some (8, true) }, { o := .pk (.l 9) (.l 0) (.b false) }, { o := .mv (.l 0), d := some 11 }] [(42, 0), (43, 0), (52, 45), (53, 45), (54, 45), (63, 56), (64, 56)]) .ret)))))))))), res := [(11, none)] }
/-- /law34.ready -/
def law34_ready : Fn := { nargs := 0, vars := [0, 1, 2, 3], body := (.seq (.reg [{ o := .al [.nil, .t (.int .i64 (0)), .t (.int .i64 (0))] [], d := some 0 }, { o := .al [.nil, .nil, .t (.bool false)] [], d := some 1 }, { o := .al [.nil] [], d := some 2 }] []) (.seq (.reg [{ o := .bs [.i 0, .i 1099511627776] 1 }, { o := .bd [.t (.int .i64 (0)), .nil] [(1, 1, .l 0)] }, { o := .al [.t (.int .i64 (0)), .nil] [], d := some 3 }, { o := .st (.l 0) (.l 1) 2 [] }] []) (.seq (.reg [{ o := .bs [.i 1] 1 }, { o := .bd [.nil, .t (.int .i64 (0)), .t (.int .i64 (0))] [(0, 1, .l 0), (1, 1, .i 300), (2, 1, .i 1800)] }, { o := .bs [.i 0] 1 }, { o := .bs [.i 2] 1 }, { o := .bd [.nil, .nil, .t (.bool false)] [(0, 1, .l 1), (1, 1, .l 0), (2, 1, .b true)] }, { o := .bs [.i 1] 1 }, { o := .ld (.v 3) 2 true }, { o := .bs [.l 0] 2 }, { o := .bd [.nil, .nil] [(0, 1, .l 2), (1, 1, .l 0)] }, { o := .bs [.l 0] 2 }, { o := .bd [.nil] [(0, 1, .l 0)] }, { o := .st (.v 0) (.l 9) 3 [] }, { o := .st (.v 1) (.l 7) 3 [] }, { o := .st (.v 2) (.l 2) 1 [] }] [(0, 0), (2, 12), (3, 12), (5, 12), (5, 13), (6, 12), (6, 13), (7, 12), (7, 13), (9, 12), (9, 13)]) .ret))), res := [(0, some (3, true)), (1, some (3, true)), (2, some (1, true))] }
/-- /firing.Arm -/
def firing_Arm : Fn := { nargs := 6, vars := [0, 1, 2, 3, 4, 5, 6, 7, 8, 9, 12, 13, 14], body := (.seq (.reg [{ o := .bx (.v 0) 3, d := some 6 }, { o := .bx (.v 1) 4, d := some 7 }, { o := .bx (.v 2) 3, d := some 8 }, { o := .bx (.v 3) 1, d := some 9 }, { o := .al [.t (.int .i64 (0)), .t (.int .i64 (0)), .t (.int .i64 (0)), .t (.int .i64 (0))] [], d := some 10 }, { o := .mv (.i 0), d := some 11 }] []) (.seq (.seq (.reg [{ o := .ld (.v 6) 3 true }, { o := .ld (.v 7) 4 true }, { o := .ld (.v 8) 3 true }, { o := .ld (.v 9) 1 true }, { o := .mv (.v 5) }, { o := .bd [.nil, .t (.int .i64 (0)), .t (.int .i64 (0)), .t (.int .i64 (0)), .t (.int .i64 (0)), .t (.int .i64 (0)), .t (.int .i64 (0)), .nil, .nil, .t (.bool false), .nil, .t (.int .i64 (0)), .t (.int .i64 (0))] [(0, 3, .l 4), (3, 4, .l 3), (7, 3, .l 2), (10, 1, .l 1), (11, 1, .l 0), (12, 1, .i 0)] }, { o := .mv (.v 4) }, { o := .bin .leq (.l 0) (.i 0) }, { o := .ca N.firing_request_check 0 [] [.l 2, .l 0] }, { o := .mv (.l 0), d := some 12 }] []) (.ite [{ o := .mv (.v 12) }, { o := .bin .neq (.l 0) (.i 0) }] [] 0 (.seq (.reg [{ o := .ld (.v 7) 4 true }, { o := .mv (.v 12) }, { o := .st (.v 10) (.l 1) 4 [] }, { o := .mv (.l 1), d := some 11 }] []) .ret) .skip)) (.seq (.reg [{ o := .mv (.v 4) }, { o := .mv (.v 5) }, { o := .bd [.t (.int .i64 (0)), .t (.int .i64 (0)), .t (.int .i64 (0)), .t (.int .i64 (0))] [(0, 1, .i 1), (1, 1, .l 1), (3, 1, .l 0)] }, { o := .st (.v 10) (.l 0) 4 [] }, { o := .mv (.i 0), d := some 11 }] []) .ret))), res := [(10, some (4, true)), (11, none)] }
/-- /firing.Agree -/
def firing_Agree : Fn := { nargs := 6, vars := [0, 1, 2, 3, 4, 5, 6, 7, 8, 9, 12, 13, 14], body := (.seq (.reg [{ o := .bx (.v 0) 3, d := some 6 }, { o := .bx (.v 1) 4, d := some 7 }, { o := .bx (.v 2) 3, d := some 8 }, { o := .bx (.v 3) 1, d := some 9 }, { o := .al [.t (.int .i64 (0)), .t (.int .i64 (0)), .t (.int .i64 (0)), .t (.int .i64 (0))] [], d := some 10 }, { o := .mv (.i 0), d := some 11 }] []) (.seq (.seq (.reg [{ o := .ld (.v 6) 3 true }, { o := .ld (.v 7) 4 true }, { o := .ld (.v 8) 3 true }, { o := .ld (.v 9) 1 true }, { o := .mv (.v 5) }, { o := .bd [.nil, .t (.int .i64 (0)), .t (.int .i64 (0)), .t (.int .i64 (0)), .t (.int .i64 (0)), .t (.int .i64 (0)), .t (.int .i64 (0)), .nil, .nil, .t (.bool false), .nil, .t (.int .i64 (0)), .t (.int .i64 (0))] [(0, 3, .l 4), (3, 4, .l 3), (7, 3, .l 2), (10, 1, .l 1), (11, 1, .l 0), (12, 1, .i 1)] }, { o := .mv (.v 4) }, { o := .bin .leq (.l 0) (.i 0) }, { o := .mv (.l 0) }, { o := .mv (.v 4), g := some (0, false) }, { o := .fa (.v 7) 1, g := some (1, false) }, { o := .ld (.l 0) 1 false, g := some (2, false) }, { o := .bin .eql (.l 2) (.l 0), g := some (3, false) }, { o := .pk (.l 4) (.b true) (.l 0) }, { o := .ca N.firing_request_check 0 [] [.l 8, .l 0] }, { o := .mv (.l 0), d := some 12 }] []) (.ite [{ o := .mv (.v 12) }, { o := .bin .neq (.l 0) (.i 0) }] [] 0 (.seq (.reg [{ o := .ld (.v 7) 4 true }, { o := .mv (.v 12) }, { o := .st (.v 10) (.l 1) 4 [] }, { o := .mv (.l 1), d := some 11 }] []) .ret) .skip)) (.seq (.reg [{ o := .mv (.v 4) }, { o := .mv (.v 5) }, { o := .fa (.v 7) 0 }, { o := .st (.l 0) (.i 2) 1 [] }, { o := .fa (.v 7) 2 }, { o := .st (.l 0) (.l 4) 1 [] }, { o := .fa (.v 7) 3 }, { o := .st (.l 0) (.l 5) 1 [] }] []) (.seq (.reg [{ o := .ld (.v 7) 4 true }, { o := .st (.v 10) (.l 0) 4 [] }, { o := .mv (.i 0), d := some 11 }] []) .ret)))), res := [(10, some (4, true)), (11, none)] }
/-- /firing.Fire -/
def firing_Fire : Fn := { nargs := 6, vars := [0, 1, 2, 3, 4, 5, 6, 7, 8, 9, 12, 13, 14], body := (.seq (.reg [{ o := .bx (.v 0) 3, d := some 6 }, { o := .bx (.v 1) 4, d := some 7 }, { o := .bx (.v 2) 3, d := some 8 }, { o := .bx (.v 3) 1, d := some 9 }, { o := .al [.t (.int .i64 (0)), .t (.int .i64 (0)), .t (.int .i64 (0)), .t (.int .i64 (0))] [], d := some 10 }, { o := .mv (.i 0), d := some 11 }] []) (.seq (.seq (.reg [{ o := .ld (.v 6) 3 true }, { o := .ld (.v 7) 4 true }, { o := .ld (.v 8) 3 true }, { o := .ld (.v 9) 1 true }, { o := .mv (.v 4) }, { o := .bd [.nil, .t (.int .i64 (0)), .t (.int .i64 (0)), .t (.int .i64 (0)), .t (.int .i64 (0)), .t (.int .i64 (0)), .t (.int .i64 (0)), .nil, .nil, .t (.bool false), .nil, .t (.int .i64 (0)), .t (.int .i64 (0))] [(0, 3, .l 4), (3, 4, .l 3), (7, 3, .l 2), (10, 1, .l 1), (11, 1, .l 0), (12, 1, .i 2)] }, { o := .ca N.firing_request_check 0 [] [.l 0, .b false] }, { o := .mv (.l 0), d := some 12 }] []) (.ite [{ o := .mv (.v 12) }, { o := .bin .neq (.l 0) (.i 0) }] [] 0 (.seq (.reg [{ o := .ld (.v 7) 4 true }, { o := .mv (.v 12) }, { o := .st (.v 10) (.l 1) 4 [] }, { o := .mv (.l 1), d := some 11 }] []) .ret) .skip)) (.seq (.reg [{ o := .mv (.v 4) }, { o := .fa (.v 7) 0 }, { o := .st (.l 0) (.i 3) 1 [] }, { o := .fa (.v 7) 3 }, { o := .st (.l 0) (.l 3) 1 [] }] []) (.seq (.ite [{ o := .mv (.v 5) }] [] 0 (.reg [{ o := .fa (.v 7) 0 }, { o := .st (.l 0) (.i 4) 1 [] }] []) .skip) (.seq (.reg [{ o := .ld (.v 7) 4 true }, { o := .st (.v 10) (.l 0) 4 [] }, { o := .mv (.i 0), d := some 11 }] []) .ret))))), res := [(10, some (4, true)), (11, none)] }
/-- /firing.Abort -/
def firing_Abort : Fn := { nargs := 3, vars := [0, 1, 2, 3, 4, 6, 7], body := (.seq (.reg [{ o := .bx (.v 0) 3, d := some 3 }, { o := .bx (.v 1) 4, d := some 4 }, { o := .al [.t (.int .i64 (0)), .t (.int .i64 (0)), .t (.int .i64 (0)), .t (.int .i64 (0))] [], d := some 5 }, { o := .mv (.i 0), d := some 6 }] []) (.seq (.blk 0 (.ite [{ o := .ld (.v 3) 3 true }, { o := .ld (.v 4) 4 true }, { o := .ca N.firing_Valid 0 [] [.l 1, .l 0] }, { o := .un .not (.l 0) }, { o := .mv (.l 0) }] [] 0 (.seq (.reg [{ o := .ld (.v 4) 4 true }, { o := .st (.v 5) (.l 0) 4 [] }, { o := .mv (.i 6), d := some 6 }] []) .ret) (.ite [{ o := .fa (.v 4) 0 }, { o := .ld (.l 0) 1 false }, { o := .bin .eql (.l 0) (.i 0) }, { o := .mv (.l 0) }] [] 0 (.seq (.reg [{ o := .ld (.v 4) 4 true }, { o := .st (.v 5) (.l 0) 4 [] }, { o := .mv (.i 10), d := some 6 }] []) .ret) (.ite [{ o := .ld (.v 4) 4 true }, { o := .mv (.v 2) }, { o := .ca N.firing_timely 0 [] [.l 1, .l 0] }, { o := .un .not (.l 0) }, { o := .mv (.l 0) }] [] 0 (.seq (.reg [{ o := .ld (.v 4) 4 true }, { o := .st (.v 5) (.l 0) 4 [] }, { o := .mv (.i 8), d := some 6 }] []) .ret) (.ite [{ o := .fa (.v 4) 0 }, { o := .ld (.l 0) 1 false }, { o := .bin .eql (.l 0) (.i 4) }, { o := .mv (.l 0) }, { o := .mv (.v 2), g := some (0, true) }, { o := .fa (.v 4) 3, g := some (1, true) }, { o := .ld (.l 0) 1 false, g := some (2, true) }, { o := .bin .sub (.l 2) (.l 0), g := some (3, true) }, { o := .fa (.v 3) 2, g := some (4, true) }, { o := .ld (.l 0) 1 false, g := some (5, true) }, { o := .bin .lss (.l 2) (.l 0), g := some (6, true) }, { o := .pk (.l 7) (.l 0) (.b false) }, { o := .mv (.l 0) }] [] 0 (.seq (.reg [{ o := .ld (.v 4) 4 true }, { o := .st (.v 5) (.l 0) 4 [] }, { o := .mv (.i 10), d := some 6 }] []) .ret) .skip))))) (.seq (.reg [{ o := .bd [.t (.int .i64 (0)), .t (.int .i64 (0)), .t (.int .i64 (0)), .t (.int .i64 (0))] [] }, { o := .st (.v 5) (.l 0) 4 [] }, { o := .mv (.i 0), d := some 6 }] []) .ret))), res := [(5, some (4, true)), (6, none)] }
/-- /firing.Valid -/
def firing_Valid : Fn := { nargs := 2, vars := [0, 1, 2, 3, 4, 34, 50], body := (.seq (.reg [{ o := .bx (.v 0) 3, d := some 2 }, { o := .bx (.v 1) 4, d := some 3 }, { o := .mv (.b false), d := some 4 }] []) (.seq (.ite [{ o := .fa (.v 2) 0 }, { o := .ld (.l 0) 1 false }, { o := .ln (.l 0) }, { o := .bin .eql (.l 0) (.i 0) }, { o := .mv (.l 0) }, { o := .fa (.v 2) 0, g := some (0, false) }, { o := .ld (.l 0) 1 false, g := some (1, false) }, { o := .ca N.lists_Rising 0 [] [.l 0, .i 0, .i 63], g := some (2, false) }, { o := .un .not (.l 0), g := some (3, false) }, { o := .pk (.l 4) (.b true) (.l 0) }, { o := .mv (.l 0) }, { o := .fa (.v 2) 1, g := some (0, false) }, { o := .ld (.l 0) 1 false, g := some (1, false) }, { o := .ca N.lists_In 0 [] [.l 0, .i 1, .i 100000], g := some (2, false) }, { o := .un .not (.l 0), g := some (3, false) }, { o := .pk (.l 4) (.b true) (.l 0) }, { o := .mv (.l 0) }, { o := .fa (.v 2) 2, g := some (0, false) }, { o := .ld (.l 0) 1 false, g := some (1, false) }, { o := .ca N.lists_In 0 [] [.l 0, .i 1, .i 100000], g := some (2, false) }, { o := .un .not (.l 0), g := some (3, false) }, { o := .pk (.l 4) (.b true) (.l 0) }, { o := .mv (.l 0) }, { o := .fa (.v 3) 3, g := some (0, false) }, { o := .ld (.l 0) 1 false, g := some (1, false) }, { o := .ca N.lists_In 0 [] [.l 0, .i 0, .i 2147483648], g := some (2, false) }, { o := .un .not (.l 0), g := some (3, false) }, { o := .pk (.l 4) (.b true) (.l 0) }] [] 0 (.seq (.reg [{ o := .mv (.b false), d := some 4 }] []) .ret) .skip) (.seq (.seq (.reg [{ o := .fa (.v 3) 0 }, { o := .ld (.l 0) 1 false, d := some 5 }] []) (.blk 0 (.ite [{ o := .bin .eql (.v 5) (.i 0) }, { o := .mv (.l 0) }] [] 0 (.seq (.reg [{ o := .ld (.v 3) 4 true }, { o := .bd [.t (.int .i64 (0)), .t (.int .i64 (0)), .t (.int .i64 (0)), .t (.int .i64 (0))] [] }, { o := .eqk (.ints 4) false (.l 1) (.l 0) }, { o := .mv (.l 0), d := some 4 }] []) .ret) (.ite [{ o := .bin .eql (.v 5) (.i 1) }, { o := .mv (.l 0) }] [] 0 (.seq (.reg [{ o := .fa (.v 3) 1 }, { o := .ld (.l 0) 1 false }, { o := .bin .gtr (.l 0) (.i 0) }, { o := .mv (.l 0) }, { o := .fa (.v 3) 2, g := some (0, true) }, { o := .ld (.l 0) 1 false, g := some (1, true) }, { o := .bin .eql (.l 0) (.i 0), g := some (2, true) }, { o := .pk (.l 3) (.l 0) (.b false) }, { o := .mv (.l 0), d := some 4 }] []) .ret) (.seq (.seq (.reg [{ o := .bin .eql (.v 5) (.i 2) }, { o := .mv (.l 0), d := some 6 }] []) (.itv 6 .skip (.seq (.reg [{ o := .bin .eql (.v 5) (.i 3) }, { o := .mv (.l 0), d := some 6 }] []) (.itv 6 .skip (.reg [{ o := .bin .eql (.v 5) (.i 4) }, { o := .mv (.l 0), d := some 6 }] []))))) (.itv 6 (.seq (.reg [{ o := .fa (.v 3) 1 }, { o := .ld (.l 0) 1 false }, { o := .bin .gtr (.l 0) (.i 0) }, { o := .mv (.l 0) }, { o := .fa (.v 3) 2, g := some (0, true) }, { o := .ld (.l 0) 1 false, g := some (1, true) }, { o := .bin .gtr (.l 0) (.i 0), g := some (2, true) }, { o := .pk (.l 3) (.l 0) (.b false) }, { o := .mv (.l 0) }, { o := .fa (.v 3) 1, g := some (0, true) }, { o := .ld (.l 0) 1 false, g := some (1, true) }, { o := .fa (.v 3) 2, g := some (2, true) }, { o := .ld (.l 0) 1 false, g := some (3, true) }, { o := .bin .neq (.l 2) (.l 0), g := some (4, true) }, { o := .pk (.l 5) (.l 0) (.b false) }, { o := .mv (.l 0), d := some 4 }] []) .ret) .skip)))))) (.seq (.reg [{ o := .mv (.b false), d := some 4 }] []) .ret)))), res := [(4, none)] }
/-- /firing.Due -/
def firing_Due : Fn := { nargs := 3, vars := [0, 1, 2, 3, 4, 6, 18, 19], body := (.seq (.reg [{ o := .bx (.v 0) 3, d := some 3 }, { o := .bx (.v 1) 4, d := some 4 }, { o := .mv (.i 0), d := some 5 }] []) (.seq (.ite [{ o := .ld (.v 3) 3 true }, { o := .ld (.v 4) 4 true }, { o := .ca N.firing_Valid 0 [] [.l 1, .l 0] }, { o := .un .not (.l 0) }, { o := .mv (.l 0) }, { o := .mv (.v 2), g := some (0, false) }, { o := .fa (.v 4) 3, g := some (1, false) }, { o := .ld (.l 0) 1 false, g := some (2, false) }, { o := .bin .lss (.l 2) (.l 0), g := some (3, false) }, { o := .pk (.l 4) (.b true) (.l 0) }] [] 0 (.seq (.reg [{ o := .mv (.i 0), d := some 5 }] []) .ret) .skip) (.seq (.seq (.reg [{ o := .fa (.v 4) 0 }, { o := .ld (.l 0) 1 false, d := some 6 }] []) (.blk 0 (.seq (.seq (.reg [{ o := .bin .eql (.v 6) (.i 1) }, { o := .mv (.l 0), d := some 7 }] []) (.itv 7 .skip (.reg [{ o := .bin .eql (.v 6) (.i 2) }, { o := .mv (.l 0), d := some 7 }] []))) (.itv 7 (.seq (.reg [{ o := .fa (.v 3) 1 }, { o := .ld (.l 0) 1 false }, { o := .mv (.v 2) }, { o := .fa (.v 4) 3 }, { o := .ld (.l 0) 1 false }, { o := .bin .sub (.l 2) (.l 0) }, { o := .bin .sub (.l 4) (.l 0) }, { o := .mx [.i 0, .l 0] }, { o := .mv (.l 0), d := some 5 }] []) .ret) (.ite [{ o := .bin .eql (.v 6) (.i 4) }, { o := .mv (.l 0) }] [] 0 (.seq (.reg [{ o := .fa (.v 3) 2 }, { o := .ld (.l 0) 1 false }, { o := .mv (.v 2) }, { o := .fa (.v 4) 3 }, { o := .ld (.l 0) 1 false }, { o := .bin .sub (.l 2) (.l 0) }, { o := .bin .sub (.l 4) (.l 0) }, { o := .mx [.i 0, .l 0] }, { o := .mv (.l 0), d := some 5 }] []) .ret) .skip))))) (.seq (.reg [{ o := .mv (.i 0), d := some 5 }] []) .ret)))), res := [(5, none)] }
def ref32_Border_l1b : C := (.seq (.ite [{ o := .mv (.v 5) }, { o := .fa (.v 2) 1 }, { o := .ld (.l 0) 1 false }, { o := .ln (.l 0) }, { o := .bin .lss (.l 3) (.l 0) }] [] 0 .skip (.exit 0)) (.seq (.blk 1 (.seq (.reg [{ o := .fa (.v 2) 1 }, { o := .ld (.l 0) 1 false }, { o := .mv (.v 5) }, { o := .ia (.l 1) (.l 0) 10 }, { o := .ld (.l 0) 10 true }, { o := .al [.t (.int .i64 (0)), .t (.int .i64 (0)), .t (.int .i64 (0)), .t (.int .i64 (0)), .t (.bool false), .t (.bool false), .t (.int .i64 (0)), .t (.int .i64 (0)), .t (.int .i64 (0)), .t (.int .i64 (0))] [], d := some 6 }, { o := .st (.l 0) (.l 1) 10 [] }] []) (.seq (.reg [{ o := .ld (.v 2) 2 true }, { o := .mv (.v 5) }, { o := .ca N.ref03_Time 0 [] [.l 1, .l 0, .b false] }, { o := .bin .geq (.l 0) (.i 0) }, { o := .mv (.l 0) }, { o := .ld (.v 2) 2 true, g := some (0, false) }, { o := .mv (.v 5), g := some (1, false) }, { o := .ca N.ref03_Time 0 [] [.l 1, .l 0, .b true], g := some (2, false) }, { o := .bin .geq (.l 0) (.i 0), g := some (3, false) }, { o := .pk (.l 4) (.b true) (.l 0) }, { o := .mv (.l 0), d := some 7 }] []) (.ite [{ o := .fa (.v 6) 5 }, { o := .ld (.l 0) 1 false }, { o := .un .not (.l 0) }, { o := .mv (.l 0) }, { o := .mv (.v 7), g := some (0, true) }, { o := .pk (.l 1) (.l 0) (.b false) }, { o := .mv (.l 0) }, { o := .mv (.v 1), g := some (0, true) }, { o := .fa (.v 6) 0, g := some (1, true) }, { o := .ld (.l 0) 1 false, g := some (2, true) }, { o := .ca N.ref23_Has 0 [] [.l 2, .l 0], g := some (3, true) }, { o := .mv (.v 1), g := some (4, true) }, { o := .fa (.v 6) 1, g := some (5, true) }, { o := .ld (.l 0) 1 false, g := some (6, true) }, { o := .ca N.ref23_Has 0 [] [.l 2, .l 0], g := some (7, true) }, { o := .eqk (.bool) true (.l 4) (.l 0), g := some (8, true) }, { o := .pk (.l 9) (.l 0) (.b false) }] [(13, 0)] 0 (.reg [{ o := .mv (.v 4) }, { o := .mv (.v 5) }, { o := .bs [.l 0] 1 }, { o := .app (.l 2) (.l 0) true 1 }, { o := .mv (.l 0), d := some 4 }] []) .skip)))) (.reg [{ o := .mv (.v 5) }, { o := .bin .add (.l 0) (.i 1) }, { o := .mv (.l 0), d := some 5 }] [])))
def ref32_Border_l1 : C := .loop true [0, 3, 6, 7] K.ref32_Border_l1b
/-- /ref32.Border -/
def ref32_Border : Fn := { nargs := 2, vars := [0, 1, 2, 4, 5, 6, 7, 8], body := (.seq (.reg [{ o := .bx (.v 0) 2, d := some 2 }, { o := .mv (.c (.nil)), d := some 3 }] []) (.seq (.reg [{ o := .nw 1, d := some 4 }] []) (.seq (.seq (.reg [{ o := .mv (.i 0), d := some 5 }] []) (.blk 0 K.ref32_Border_l1)) (.seq (.reg [{ o := .mv (.v 4) }, { o := .mv (.l 0), d := some 3 }] []) .ret)))), res := [(3, none)] }
def ref32_Seal_l2b : C := (.seq (.ite [{ o := .mv (.v 12) }, { o := .fa (.v 10) 0 }, { o := .ld (.l 0) 1 false }, { o := .mv (.v 11) }, { o := .ia (.l 1) (.l 0) 2 }, { o := .fa (.l 0) 1 }, { o := .ld (.l 0) 1 false }, { o := .ln (.l 0) }, { o := .bin .lss (.l 7) (.l 0) }] [] 0 .skip (.exit 2)) (.seq (.blk 3 (.seq (.reg [{ o := .fa (.v 10) 0 }, { o := .ld (.l 0) 1 false }, { o := .mv (.v 11) }, { o := .ia (.l 1) (.l 0) 2 }, { o := .fa (.l 0) 1 }, { o := .ld (.l 0) 1 false }, { o := .mv (.v 12) }, { o := .ia (.l 1) (.l 0) 2 }, { o := .ld (.l 0) 2 true }, { o := .al [.t (.int .i64 (0)), .nil] [], d := some 13 }, { o := .st (.l 0) (.l 1) 2 [] }] []) (.seq (.ite [{ o := .mv (.v 3) }, { o := .fa (.v 13) 0 }, { o := .ld (.l 0) 1 false }, { o := .bin .lss (.l 2) (.l 0) }, { o := .mv (.l 0) }, { o := .mv (.v 3), g := some (0, false) }, { o := .bin .gtr (.l 0) (.i 2147483648), g := some (1, false) }, { o := .pk (.l 2) (.b true) (.l 0) }] [] 0 (.seq (.reg [{ o := .ld (.v 5) 1 true }, { o := .st (.v 6) (.l 0) 1 [] }, { o := .mv (.i 8), d := some 7 }] []) .ret) .skip) (.reg [{ o := .fa (.v 10) 0 }, { o := .ld (.l 0) 1 false }, { o := .mv (.v 11) }, { o := .ia (.l 1) (.l 0) 2 }, { o := .fa (.l 0) 1 }, { o := .ld (.l 0) 1 false }, { o := .mv (.v 12) }, { o := .ld (.v 8) 2 true }, { o := .ld (.v 13) 2 true }, { o := .mv (.v 3) }, { o := .ca N.ref32_seal 0 [] [.l 2, .l 1, .l 0] }, { o := .ia (.l 5) (.l 4) 2 }, { o := .st (.l 0) (.l 1) 2 [] }] [(1, 11), (3, 11), (5, 11)])))) (.reg [{ o := .mv (.v 12) }, { o := .bin .add (.l 0) (.i 1) }, { o := .mv (.l 0), d := some 12 }] [])))
def ref32_Seal_l2 : C := .loop false [0, 1, 2, 4, 7, 9, 13] K.ref32_Seal_l2b
def ref32_Seal_l1b : C := (.seq (.ite [{ o := .mv (.v 11) }, { o := .fa (.v 10) 0 }, { o := .ld (.l 0) 1 false }, { o := .ln (.l 0) }, { o := .bin .lss (.l 3) (.l 0) }] [] 0 .skip (.exit 0)) (.seq (.blk 1 (.seq (.reg [{ o := .mv (.i 0), d := some 12 }] []) (.blk 2 K.ref32_Seal_l2))) (.reg [{ o := .mv (.v 11) }, { o := .bin .add (.l 0) (.i 1) }, { o := .mv (.l 0), d := some 11 }] [])))
def ref32_Seal_l1 : C := .loop false [0, 1, 2, 4, 7, 9, 12, 13] K.ref32_Seal_l1b
/-- /ref32.Seal -/
def ref32_Seal : Fn := { nargs := 4, vars := [0, 1, 2, 3, 4, 5, 8, 9, 10, 11, 12, 13, 14, 15], body := (.seq (.reg [{ o := .bx (.v 0) 2, d := some 4 }, { o := .bx (.v 1) 1, d := some 5 }, { o := .al [.nil] [], d := some 6 }, { o := .mv (.i 0), d := some 7 }] []) (.seq (.reg [{ o := .ld (.v 5) 1 true }, { o := .ca N.ref26_Copy_v1 2 [] [.l 0] }, { o := .st (.v 5) (.l 0) 1 [] }] []) (.seq (.ite [{ o := .ld (.v 4) 2 true }, { o := .ld (.v 5) 1 true }, { o := .ca N.ref26_Valid 0 [] [.l 1, .l 0] }, { o := .un .not (.l 0) }] [] 0 (.seq (.reg [{ o := .ld (.v 5) 1 true }, { o := .st (.v 6) (.l 0) 1 [] }, { o := .mv (.i 6), d := some 7 }] []) .ret) .skip) (.seq (.reg [{ o := .ld (.v 4) 2 true }, { o := .mv (.v 2) }, { o := .ca N.ref32_Barred 0 [] [.l 1, .l 0] }, { o := .mv (.l 0) }, { o := .ex (.l 0) 0 }, { o := .ex (.l 1) 1 }, { o := .al [.nil, .nil] [], d := some 8 }, { o := .st (.l 0) (.l 2) 2 [] }, { o := .mv (.l 2), d := some 9 }] []) (.seq (.ite [{ o := .mv (.v 9) }, { o := .bin .neq (.l 0) (.i 0) }] [] 0 (.seq (.reg [{ o := .ld (.v 5) 1 true }, { o := .mv (.v 9) }, { o := .st (.v 6) (.l 1) 1 [] }, { o := .mv (.l 1), d := some 7 }] []) .ret) .skip) (.seq (.reg [{ o := .ld (.v 5) 1 true }, { o := .ca N.ref26_Copy_v1 2 [] [.l 0] }, { o := .al [.nil] [], d := some 10 }, { o := .st (.l 0) (.l 1) 1 [] }] []) (.seq (.seq (.reg [{ o := .mv (.i 0), d := some 11 }] []) (.blk 0 K.ref32_Seal_l1)) (.seq (.reg [{ o := .fa (.v 10) 0 }, { o := .ld (.l 0) 1 false }, { o := .ca N.ref26_Tidy 0 [] [.l 0] }, { o := .fa (.v 10) 0 }, { o := .st (.l 0) (.l 1) 1 [] }] []) (.seq (.reg [{ o := .ld (.v 10) 1 true }, { o := .st (.v 6) (.l 0) 1 [] }, { o := .mv (.i 0), d := some 7 }] []) .ret))))))))), res := [(6, some (1, true)), (7, none)] }
def made_Last_l2b : C := (.seq (.ite [{ o := .mv (.v 5) }, { o := .fa (.v 1) 0 }, { o := .ld (.l 0) 1 false }, { o := .mv (.v 4) }, { o := .ia (.l 1) (.l 0) 2 }, { o := .fa (.l 0) 1 }, { o := .ld (.l 0) 1 false }, { o := .ln (.l 0) }, { o := .bin .lss (.l 7) (.l 0) }] [] 0 .skip (.exit 2)) (.seq (.blk 3 (.reg [{ o := .mv (.v 3) }, { o := .fa (.v 1) 0 }, { o := .ld (.l 0) 1 false }, { o := .mv (.v 4) }, { o := .ia (.l 1) (.l 0) 2 }, { o := .fa (.l 0) 1 }, { o := .ld (.l 0) 1 false }, { o := .mv (.v 5) }, { o := .ia (.l 1) (.l 0) 2 }, { o := .fa (.l 0) 0 }, { o := .ld (.l 0) 1 false }, { o := .mx [.l 10, .l 0] }, { o := .mv (.l 0), d := some 3 }] [])) (.reg [{ o := .mv (.v 5) }, { o := .bin .add (.l 0) (.i 1) }, { o := .mv (.l 0), d := some 5 }] [])))
def made_Last_l2 : C := .loop true [0, 2] K.made_Last_l2b
def made_Last_l1b : C := (.seq (.ite [{ o := .mv (.v 4) }, { o := .fa (.v 1) 0 }, { o := .ld (.l 0) 1 false }, { o := .ln (.l 0) }, { o := .bin .lss (.l 3) (.l 0) }] [] 0 .skip (.exit 0)) (.seq (.blk 1 (.seq (.reg [{ o := .mv (.i 0), d := some 5 }] []) (.blk 2 K.made_Last_l2))) (.reg [{ o := .mv (.v 4) }, { o := .bin .add (.l 0) (.i 1) }, { o := .mv (.l 0), d := some 4 }] [])))
def made_Last_l1 : C := .loop true [0, 2, 5] K.made_Last_l1b
/-- /made.Last -/
def made_Last : Fn := { nargs := 1, vars := [0, 1, 2, 3, 4, 5], body := (.seq (.reg [{ o := .bx (.v 0) 1, d := some 1 }, { o := .mv (.i 0), d := some 2 }] []) (.seq (.reg [{ o := .mv (.i 0), d := some 3 }] []) (.seq (.seq (.reg [{ o := .mv (.i 0), d := some 4 }] []) (.blk 0 K.made_Last_l1)) (.seq (.reg [{ o := .mv (.v 3) }, { o := .mv (.l 0), d := some 2 }] []) .ret)))), res := [(2, none)] }
/-- /ref34.Arm -/
def ref34_Arm : Fn := { nargs := 6, vars := [0, 1, 2, 3, 4, 5, 6, 7, 8, 9, 12, 13, 14], body := (.seq (.reg [{ o := .bx (.v 0) 3, d := some 6 }, { o := .bx (.v 1) 4, d := some 7 }, { o := .bx (.v 2) 3, d := some 8 }, { o := .bx (.v 3) 1, d := some 9 }, { o := .al [.t (.int .i64 (0)), .t (.int .i64 (0)), .t (.int .i64 (0)), .t (.int .i64 (0))] [], d := some 10 }, { o := .mv (.i 0), d := some 11 }] []) (.seq (.seq (.reg [{ o := .ld (.v 6) 3 true }, { o := .ld (.v 7) 4 true }, { o := .ld (.v 8) 3 true }, { o := .ld (.v 9) 1 true }, { o := .mv (.v 4) }, { o := .mv (.v 5) }, { o := .ca N.ref34_step 0 [] [.l 5, .l 4, .l 3, .l 2, .i 0, .l 1, .l 0] }, { o := .mv (.l 0), d := some 12 }] []) (.ite [{ o := .mv (.v 12) }, { o := .bin .neq (.l 0) (.i 0) }] [] 0 (.seq (.reg [{ o := .ld (.v 7) 4 true }, { o := .mv (.v 12) }, { o := .st (.v 10) (.l 1) 4 [] }, { o := .mv (.l 1), d := some 11 }] []) .ret) .skip)) (.seq (.reg [{ o := .mv (.v 4) }, { o := .mv (.v 5) }, { o := .bd [.t (.int .i64 (0)), .t (.int .i64 (0)), .t (.int .i64 (0)), .t (.int .i64 (0))] [(0, 1, .i 1), (1, 1, .l 1), (3, 1, .l 0)] }, { o := .st (.v 10) (.l 0) 4 [] }, { o := .mv (.i 0), d := some 11 }] []) .ret))), res := [(10, some (4, true)), (11, none)] }
/-- /ref34.Agree -/
def ref34_Agree : Fn := { nargs := 6, vars := [0, 1, 2, 3, 4, 5, 6, 7, 8, 9, 12, 13, 14], body := (.seq (.reg [{ o := .bx (.v 0) 3, d := some 6 }, { o := .bx (.v 1) 4, d := some 7 }, { o := .bx (.v 2) 3, d := some 8 }, { o := .bx (.v 3) 1, d := some 9 }, { o := .al [.t (.int .i64 (0)), .t (.int .i64 (0)), .t (.int .i64 (0)), .t (.int .i64 (0))] [], d := some 10 }, { o := .mv (.i 0), d := some 11 }] []) (.seq (.seq (.reg [{ o := .ld (.v 6) 3 true }, { o := .ld (.v 7) 4 true }, { o := .ld (.v 8) 3 true }, { o := .ld (.v 9) 1 true }, { o := .mv (.v 4) }, { o := .mv (.v 5) }, { o := .ca N.ref34_step 0 [] [.l 5, .l 4, .l 3, .l 2, .i 1, .l 1, .l 0] }, { o := .mv (.l 0), d := some 12 }] []) (.ite [{ o := .mv (.v 12) }, { o := .bin .neq (.l 0) (.i 0) }] [] 0 (.seq (.reg [{ o := .ld (.v 7) 4 true }, { o := .mv (.v 12) }, { o := .st (.v 10) (.l 1) 4 [] }, { o := .mv (.l 1), d := some 11 }] []) .ret) .skip)) (.seq (.reg [{ o := .fa (.v 7) 1 }, { o := .ld (.l 0) 1 false }, { o := .mv (.v 4) }, { o := .mv (.v 5) }, { o := .bd [.t (.int .i64 (0)), .t (.int .i64 (0)), .t (.int .i64 (0)), .t (.int .i64 (0))] [(0, 1, .i 2), (1, 1, .l 2), (2, 1, .l 1), (3, 1, .l 0)] }, { o := .st (.v 10) (.l 0) 4 [] }, { o := .mv (.i 0), d := some 11 }] []) .ret))), res := [(10, some (4, true)), (11, none)] }
/-- /ref34.Fire -/
def ref34_Fire : Fn := { nargs := 6, vars := [0, 1, 2, 3, 4, 5, 6, 7, 8, 9, 12, 13, 14], body := (.seq (.reg [{ o := .bx (.v 0) 3, d := some 6 }, { o := .bx (.v 1) 4, d := some 7 }, { o := .bx (.v 2) 3, d := some 8 }, { o := .bx (.v 3) 1, d := some 9 }, { o := .al [.t (.int .i64 (0)), .t (.int .i64 (0)), .t (.int .i64 (0)), .t (.int .i64 (0))] [], d := some 10 }, { o := .mv (.i 0), d := some 11 }] []) (.seq (.seq (.reg [{ o := .ld (.v 6) 3 true }, { o := .ld (.v 7) 4 true }, { o := .ld (.v 8) 3 true }, { o := .ld (.v 9) 1 true }, { o := .mv (.v 4) }, { o := .ca N.ref34_step 0 [] [.l 4, .l 3, .l 2, .l 1, .i 2, .i 1, .l 0] }, { o := .mv (.l 0), d := some 12 }] []) (.ite [{ o := .mv (.v 12) }, { o := .bin .neq (.l 0) (.i 0) }] [] 0 (.seq (.reg [{ o := .ld (.v 7) 4 true }, { o := .mv (.v 12) }, { o := .st (.v 10) (.l 1) 4 [] }, { o := .mv (.l 1), d := some 11 }] []) .ret) .skip)) (.seq (.reg [{ o := .mv (.v 4) }, { o := .fa (.v 7) 0 }, { o := .st (.l 0) (.i 3) 1 [] }, { o := .fa (.v 7) 3 }, { o := .st (.l 0) (.l 3) 1 [] }] []) (.seq (.ite [{ o := .mv (.v 5) }] [] 0 (.reg [{ o := .fa (.v 7) 0 }, { o := .st (.l 0) (.i 4) 1 [] }] []) .skip) (.seq (.reg [{ o := .ld (.v 7) 4 true }, { o := .st (.v 10) (.l 0) 4 [] }, { o := .mv (.i 0), d := some 11 }] []) .ret))))), res := [(10, some (4, true)), (11, none)] }
/-- /ref34.Abort -/
def ref34_Abort : Fn := { nargs := 3, vars := [0, 1, 2, 3, 4, 6, 7], body := (.seq (.reg [{ o := .bx (.v 0) 3, d := some 3 }, { o := .bx (.v 1) 4, d := some 4 }, { o := .al [.t (.int .i64 (0)), .t (.int .i64 (0)), .t (.int .i64 (0)), .t (.int .i64 (0))] [], d := some 5 }, { o := .mv (.i 0), d := some 6 }] []) (.seq (.blk 0 (.ite [{ o := .ld (.v 3) 3 true }, { o := .ld (.v 4) 4 true }, { o := .ca N.ref34_Valid 0 [] [.l 1, .l 0] }, { o := .un .not (.l 0) }, { o := .mv (.l 0) }] [] 0 (.seq (.reg [{ o := .ld (.v 4) 4 true }, { o := .st (.v 5) (.l 0) 4 [] }, { o := .mv (.i 6), d := some 6 }] []) .ret) (.ite [{ o := .fa (.v 4) 0 }, { o := .ld (.l 0) 1 false }, { o := .bin .eql (.l 0) (.i 0) }, { o := .mv (.l 0) }] [] 0 (.seq (.reg [{ o := .ld (.v 4) 4 true }, { o := .st (.v 5) (.l 0) 4 [] }, { o := .mv (.i 10), d := some 6 }] []) .ret) (.ite [{ o := .mv (.v 2) }, { o := .bin .lss (.l 0) (.i 0) }, { o := .mv (.l 0) }, { o := .mv (.v 2), g := some (0, false) }, { o := .bin .gtr (.l 0) (.i 2147483648), g := some (1, false) }, { o := .pk (.l 2) (.b true) (.l 0) }, { o := .mv (.l 0) }, { o := .mv (.v 2), g := some (0, false) }, { o := .fa (.v 4) 3, g := some (1, false) }, { o := .ld (.l 0) 1 false, g := some (2, false) }, { o := .bin .lss (.l 2) (.l 0), g := some (3, false) }, { o := .pk (.l 4) (.b true) (.l 0) }, { o := .mv (.l 0) }] [] 0 (.seq (.reg [{ o := .ld (.v 4) 4 true }, { o := .st (.v 5) (.l 0) 4 [] }, { o := .mv (.i 8), d := some 6 }] []) .ret) (.ite [{ o := .fa (.v 4) 0 }, { o := .ld (.l 0) 1 false }, { o := .bin .eql (.l 0) (.i 4) }, { o := .mv (.l 0) }, { o := .mv (.v 2), g := some (0, true) }, { o := .fa (.v 4) 3, g := some (1, true) }, { o := .ld (.l 0) 1 false, g := some (2, true) }, { o := .bin .sub (.l 2) (.l 0), g := some (3, true) }, { o := .fa (.v 3) 2, g := some (4, true) }, { o := .ld (.l 0) 1 false, g := some (5, true) }, { o := .bin .lss (.l 2) (.l 0), g := some (6, true) }, { o := .pk (.l 7) (.l 0) (.b false) }, { o := .mv (.l 0) }] [] 0 (.seq (.reg [{ o := .ld (.v 4) 4 true }, { o := .st (.v 5) (.l 0) 4 [] }, { o := .mv (.i 10), d := some 6 }] []) .ret) .skip))))) (.seq (.reg [{ o := .bd [.t (.int .i64 (0)), .t (.int .i64 (0)), .t (.int .i64 (0)), .t (.int .i64 (0))] [] }, { o := .st (.v 5) (.l 0) 4 [] }, { o := .mv (.i 0), d := some 6 }] []) .ret))), res := [(5, some (4, true)), (6, none)] }
end Go.Ev.K
namespace Go.Ev
class Has3 [Lib] : Prop where
  t_law34_FiringRaw : Lib.fs N.law34_FiringRaw = some K.law34_FiringRaw
  t_law34_FiringMade : Lib.fs N.law34_FiringMade = some K.law34_FiringMade
  t_law34_FiringNeeds : Lib.fs N.law34_FiringNeeds = some K.law34_FiringNeeds
  t_law34_awake : Lib.fs N.law34_awake = some K.law34_awake
  t_made_Dice_Ints : Lib.fs N.made_Dice_Ints = some K.made_Dice_Ints
  t_law34_scene : Lib.fs N.law34_scene = some K.law34_scene
  t_law34_agree : Lib.fs N.law34_agree = some K.law34_agree
  t_law34_ready : Lib.fs N.law34_ready = some K.law34_ready
  t_firing_Arm : Lib.fs N.firing_Arm = some K.firing_Arm
  t_firing_Agree : Lib.fs N.firing_Agree = some K.firing_Agree
  t_firing_Fire : Lib.fs N.firing_Fire = some K.firing_Fire
  t_firing_Abort : Lib.fs N.firing_Abort = some K.firing_Abort
  t_firing_Valid : Lib.fs N.firing_Valid = some K.firing_Valid
  t_firing_Due : Lib.fs N.firing_Due = some K.firing_Due
  t_ref32_Border : Lib.fs N.ref32_Border = some K.ref32_Border
  t_ref32_Seal : Lib.fs N.ref32_Seal = some K.ref32_Seal
  t_made_Last : Lib.fs N.made_Last = some K.made_Last
  t_ref34_Arm : Lib.fs N.ref34_Arm = some K.ref34_Arm
  t_ref34_Agree : Lib.fs N.ref34_Agree = some K.ref34_Agree
  t_ref34_Fire : Lib.fs N.ref34_Fire = some K.ref34_Fire
  t_ref34_Abort : Lib.fs N.ref34_Abort = some K.ref34_Abort
namespace K
variable [Lib] [Has3]
theorem t_law34_FiringRaw : Lib.fs N.law34_FiringRaw = some K.law34_FiringRaw := Has3.t_law34_FiringRaw
theorem t_law34_FiringMade : Lib.fs N.law34_FiringMade = some K.law34_FiringMade := Has3.t_law34_FiringMade
theorem t_law34_FiringNeeds : Lib.fs N.law34_FiringNeeds = some K.law34_FiringNeeds := Has3.t_law34_FiringNeeds
theorem t_law34_awake : Lib.fs N.law34_awake = some K.law34_awake := Has3.t_law34_awake
theorem t_made_Dice_Ints : Lib.fs N.made_Dice_Ints = some K.made_Dice_Ints := Has3.t_made_Dice_Ints
theorem t_law34_scene : Lib.fs N.law34_scene = some K.law34_scene := Has3.t_law34_scene
theorem t_law34_agree : Lib.fs N.law34_agree = some K.law34_agree := Has3.t_law34_agree
theorem t_law34_ready : Lib.fs N.law34_ready = some K.law34_ready := Has3.t_law34_ready
theorem t_firing_Arm : Lib.fs N.firing_Arm = some K.firing_Arm := Has3.t_firing_Arm
theorem t_firing_Agree : Lib.fs N.firing_Agree = some K.firing_Agree := Has3.t_firing_Agree
theorem t_firing_Fire : Lib.fs N.firing_Fire = some K.firing_Fire := Has3.t_firing_Fire
theorem t_firing_Abort : Lib.fs N.firing_Abort = some K.firing_Abort := Has3.t_firing_Abort
theorem t_firing_Valid : Lib.fs N.firing_Valid = some K.firing_Valid := Has3.t_firing_Valid
theorem t_firing_Due : Lib.fs N.firing_Due = some K.firing_Due := Has3.t_firing_Due
theorem t_ref32_Border : Lib.fs N.ref32_Border = some K.ref32_Border := Has3.t_ref32_Border
theorem t_ref32_Seal : Lib.fs N.ref32_Seal = some K.ref32_Seal := Has3.t_ref32_Seal
theorem t_made_Last : Lib.fs N.made_Last = some K.made_Last := Has3.t_made_Last
theorem t_ref34_Arm : Lib.fs N.ref34_Arm = some K.ref34_Arm := Has3.t_ref34_Arm
theorem t_ref34_Agree : Lib.fs N.ref34_Agree = some K.ref34_Agree := Has3.t_ref34_Agree
theorem t_ref34_Fire : Lib.fs N.ref34_Fire = some K.ref34_Fire := Has3.t_ref34_Fire
theorem t_ref34_Abort : Lib.fs N.ref34_Abort = some K.ref34_Abort := Has3.t_ref34_Abort
end K
end Go.Ev

/- MADE BY PROGRAM (lib.py): the compact code of functions. -/
namespace Go.Ev.K
open Go.Ev
/-- /ref34.Valid -/
def ref34_Valid : Fn := { nargs := 2, vars := [0, 1, 2, 3, 4], body := (.seq (.reg [{ o := .bx (.v 0) 3, d := some 2 }, { o := .bx (.v 1) 4, d := some 3 }, { o := .mv (.b false), d := some 4 }] []) (.seq (.ite [{ o := .ld (.v 2) 3 true }, { o := .ca N.ref34_blast 0 [] [.l 0] }, { o := .un .not (.l 0) }, { o := .mv (.l 0) }, { o := .fa (.v 3) 0, g := some (0, false) }, { o := .ld (.l 0) 1 false, g := some (1, false) }, { o := .bin .lss (.l 0) (.i 0), g := some (2, false) }, { o := .pk (.l 3) (.b true) (.l 0) }, { o := .mv (.l 0) }, { o := .fa (.v 3) 0, g := some (0, false) }, { o := .ld (.l 0) 1 false, g := some (1, false) }, { o := .bin .gtr (.l 0) (.i 4), g := some (2, false) }, { o := .pk (.l 3) (.b true) (.l 0) }, { o := .mv (.l 0) }, { o := .fa (.v 3) 3, g := some (0, false) }, { o := .ld (.l 0) 1 false, g := some (1, false) }, { o := .bin .lss (.l 0) (.i 0), g := some (2, false) }, { o := .pk (.l 3) (.b true) (.l 0) }, { o := .mv (.l 0) }, { o := .fa (.v 3) 3, g := some (0, false) }, { o := .ld (.l 0) 1 false, g := some (1, false) }, { o := .bin .gtr (.l 0) (.i 2147483648), g := some (2, false) }, { o := .pk (.l 3) (.b true) (.l 0) }] [] 0 (.seq (.reg [{ o := .mv (.b false), d := some 4 }] []) .ret) .skip) (.seq (.ite [{ o := .fa (.v 3) 0 }, { o := .ld (.l 0) 1 false }, { o := .bin .eql (.l 0) (.i 0) }] [] 0 (.seq (.reg [{ o := .ld (.v 3) 4 true }, { o := .bd [.t (.int .i64 (0)), .t (.int .i64 (0)), .t (.int .i64 (0)), .t (.int .i64 (0))] [] }, { o := .eqk (.ints 4) false (.l 1) (.l 0) }, { o := .mv (.l 0), d := some 4 }] []) .ret) .skip) (.seq (.ite [{ o := .fa (.v 3) 0 }, { o := .ld (.l 0) 1 false }, { o := .bin .eql (.l 0) (.i 1) }] [] 0 (.seq (.reg [{ o := .fa (.v 3) 1 }, { o := .ld (.l 0) 1 false }, { o := .bin .gtr (.l 0) (.i 0) }, { o := .mv (.l 0) }, { o := .fa (.v 3) 2, g := some (0, true) }, { o := .ld (.l 0) 1 false, g := some (1, true) }, { o := .bin .eql (.l 0) (.i 0), g := some (2, true) }, { o := .pk (.l 3) (.l 0) (.b false) }, { o := .mv (.l 0), d := some 4 }] []) .ret) .skip) (.seq (.reg [{ o := .fa (.v 3) 1 }, { o := .ld (.l 0) 1 false }, { o := .bin .gtr (.l 0) (.i 0) }, { o := .mv (.l 0) }, { o := .fa (.v 3) 2, g := some (0, true) }, { o := .ld (.l 0) 1 false, g := some (1, true) }, { o := .bin .gtr (.l 0) (.i 0), g := some (2, true) }, { o := .pk (.l 3) (.l 0) (.b false) }, { o := .mv (.l 0) }, { o := .fa (.v 3) 1, g := some (0, true) }, { o := .ld (.l 0) 1 false, g := some (1, true) }, { o := .fa (.v 3) 2, g := some (2, true) }, { o := .ld (.l 0) 1 false, g := some (3, true) }, { o := .bin .neq (.l 2) (.l 0), g := some (4, true) }, { o := .pk (.l 5) (.l 0) (.b false) }, { o := .mv (.l 0), d := some 4 }] []) .ret))))), res := [(4, none)] }
/-- /firing.Safe -/
def firing_Safe : Fn := { nargs := 3, vars := [0, 1, 2, 3, 4, 5, 6], body := (.seq (.reg [{ o := .bx (.v 0) 3, d := some 3 }, { o := .bx (.v 1) 3, d := some 4 }, { o := .bx (.v 2) 1, d := some 5 }, { o := .mv (.b false), d := some 6 }] []) (.seq (.reg [{ o := .ld (.v 3) 3 true }, { o := .bd [.t (.int .i64 (0)), .t (.int .i64 (0)), .t (.int .i64 (0)), .t (.int .i64 (0))] [] }, { o := .ca N.firing_Valid 0 [] [.l 1, .l 0] }, { o := .mv (.l 0) }, { o := .ld (.v 4) 3 true, g := some (0, true) }, { o := .ca N.keys_Valid 0 [] [.l 0], g := some (1, true) }, { o := .pk (.l 2) (.l 0) (.b false) }, { o := .mv (.l 0) }, { o := .fa (.v 4) 2, g := some (0, true) }, { o := .ld (.l 0) 1 false, g := some (1, true) }, { o := .pk (.l 2) (.l 0) (.b false) }, { o := .mv (.l 0) }, { o := .fa (.v 5) 0, g := some (0, true) }, { o := .ld (.l 0) 1 false, g := some (1, true) }, { o := .ln (.l 0), g := some (2, true) }, { o := .bin .gtr (.l 0) (.i 0), g := some (3, true) }, { o := .pk (.l 4) (.l 0) (.b false) }, { o := .mv (.l 0) }, { o := .ld (.v 5) 1 true, g := some (0, true) }, { o := .fa (.v 3) 0, g := some (1, true) }, { o := .ld (.l 0) 1 false, g := some (2, true) }, { o := .ca N.area_Clear 0 [] [.l 2, .l 0], g := some (3, true) }, { o := .pk (.l 4) (.l 0) (.b false) }, { o := .mv (.l 0), d := some 6 }] []) .ret)), res := [(6, none)] }
/-- /ref34.Safe -/
def ref34_Safe : Fn := { nargs := 3, vars := [0, 1, 2, 3, 4, 5, 6], body := (.seq (.reg [{ o := .bx (.v 0) 3, d := some 3 }, { o := .bx (.v 1) 3, d := some 4 }, { o := .bx (.v 2) 1, d := some 5 }, { o := .mv (.b false), d := some 6 }] []) (.seq (.reg [{ o := .ld (.v 3) 3 true }, { o := .ca N.ref34_blast 0 [] [.l 0] }, { o := .mv (.l 0) }, { o := .ld (.v 4) 3 true, g := some (0, true) }, { o := .ca N.ref33_Valid 0 [] [.l 0], g := some (1, true) }, { o := .pk (.l 2) (.l 0) (.b false) }, { o := .mv (.l 0) }, { o := .fa (.v 4) 2, g := some (0, true) }, { o := .ld (.l 0) 1 false, g := some (1, true) }, { o := .pk (.l 2) (.l 0) (.b false) }, { o := .mv (.l 0) }, { o := .fa (.v 5) 0, g := some (0, true) }, { o := .ld (.l 0) 1 false, g := some (1, true) }, { o := .ln (.l 0), g := some (2, true) }, { o := .bin .gtr (.l 0) (.i 0), g := some (3, true) }, { o := .pk (.l 4) (.l 0) (.b false) }, { o := .mv (.l 0) }, { o := .ld (.v 5) 1 true, g := some (0, true) }, { o := .fa (.v 3) 0, g := some (1, true) }, { o := .ld (.l 0) 1 false, g := some (2, true) }, { o := .ca N.ref32_Clear 0 [] [.l 2, .l 0], g := some (3, true) }, { o := .pk (.l 4) (.l 0) (.b false) }, { o := .mv (.l 0), d := some 6 }] []) .ret)), res := [(6, none)] }
/-- /ref34.Due -/
def ref34_Due : Fn := { nargs := 3, vars := [0, 1, 2, 3, 4, 6, 18, 19], body := (.seq (.reg [{ o := .bx (.v 0) 3, d := some 3 }, { o := .bx (.v 1) 4, d := some 4 }, { o := .mv (.i 0), d := some 5 }] []) (.seq (.ite [{ o := .ld (.v 3) 3 true }, { o := .ld (.v 4) 4 true }, { o := .ca N.ref34_Valid 0 [] [.l 1, .l 0] }, { o := .un .not (.l 0) }, { o := .mv (.l 0) }, { o := .mv (.v 2), g := some (0, false) }, { o := .fa (.v 4) 3, g := some (1, false) }, { o := .ld (.l 0) 1 false, g := some (2, false) }, { o := .bin .lss (.l 2) (.l 0), g := some (3, false) }, { o := .pk (.l 4) (.b true) (.l 0) }] [] 0 (.seq (.reg [{ o := .mv (.i 0), d := some 5 }] []) .ret) .skip) (.seq (.seq (.reg [{ o := .fa (.v 4) 0 }, { o := .ld (.l 0) 1 false, d := some 6 }] []) (.blk 0 (.seq (.seq (.reg [{ o := .bin .eql (.v 6) (.i 1) }, { o := .mv (.l 0), d := some 7 }] []) (.itv 7 .skip (.reg [{ o := .bin .eql (.v 6) (.i 2) }, { o := .mv (.l 0), d := some 7 }] []))) (.itv 7 (.seq (.reg [{ o := .fa (.v 3) 1 }, { o := .ld (.l 0) 1 false }, { o := .mv (.v 2) }, { o := .fa (.v 4) 3 }, { o := .ld (.l 0) 1 false }, { o := .bin .sub (.l 2) (.l 0) }, { o := .bin .sub (.l 4) (.l 0) }, { o := .mx [.i 0, .l 0] }, { o := .mv (.l 0), d := some 5 }] []) .ret) (.ite [{ o := .bin .eql (.v 6) (.i 4) }, { o := .mv (.l 0) }] [] 0 (.seq (.reg [{ o := .fa (.v 3) 2 }, { o := .ld (.l 0) 1 false }, { o := .mv (.v 2) }, { o := .fa (.v 4) 3 }, { o := .ld (.l 0) 1 false }, { o := .bin .sub (.l 2) (.l 0) }, { o := .bin .sub (.l 4) (.l 0) }, { o := .mx [.i 0, .l 0] }, { o := .mv (.l 0), d := some 5 }] []) .ret) .skip))))) (.seq (.reg [{ o := .mv (.i 0), d := some 5 }] []) .ret)))), res := [(5, none)] }
/-- (/firing.request).check -/
def firing_request_check : Fn := { nargs := 2, vars := [0, 1, 2, 4], body := (.seq (.reg [{ o := .bx (.v 0) 13, d := some 2 }, { o := .mv (.i 0), d := some 3 }] []) (.seq (.blk 0 (.ite [{ o := .fa (.v 2) 0 }, { o := .ld (.l 0) 3 true }, { o := .fa (.v 2) 3 }, { o := .ld (.l 0) 4 true }, { o := .ca N.firing_Valid 0 [] [.l 2, .l 0] }, { o := .un .not (.l 0) }, { o := .mv (.l 0) }] [] 0 (.seq (.reg [{ o := .mv (.i 6), d := some 3 }] []) .ret) (.ite [{ o := .fa (.v 2) 3 }, { o := .fa (.l 0) 0 }, { o := .ld (.l 0) 1 false }, { o := .fa (.v 2) 12 }, { o := .ld (.l 0) 1 false }, { o := .bin .neq (.l 2) (.l 0) }, { o := .mv (.l 0) }] [] 0 (.seq (.reg [{ o := .mv (.i 10), d := some 3 }] []) .ret) (.ite [{ o := .fa (.v 2) 11 }, { o := .ld (.l 0) 1 false }, { o := .bin .lss (.l 0) (.i 0) }, { o := .mv (.l 0) }, { o := .fa (.v 2) 3, g := some (0, false) }, { o := .ld (.l 0) 4 true, g := some (1, false) }, { o := .fa (.v 2) 11, g := some (2, false) }, { o := .ld (.l 0) 1 false, g := some (3, false) }, { o := .ca N.firing_timely 0 [] [.l 2, .l 0], g := some (4, false) }, { o := .un .not (.l 0), g := some (5, false) }, { o := .pk (.l 6) (.b true) (.l 0) }, { o := .mv (.l 0) }] [] 0 (.seq (.reg [{ o := .mv (.i 8), d := some 3 }] []) .ret) (.ite [{ o := .mv (.v 1) }, { o := .mv (.l 0) }] [] 0 (.seq (.reg [{ o := .mv (.i 19), d := some 3 }] []) .ret) (.ite [{ o := .fa (.v 2) 12 }, { o := .ld (.l 0) 1 false }, { o := .bin .neq (.l 0) (.i 0) }, { o := .mv (.l 0) }, { o := .fa (.v 2) 11, g := some (0, true) }, { o := .ld (.l 0) 1 false, g := some (1, true) }, { o := .fa (.v 2) 3, g := some (2, true) }, { o := .fa (.l 0) 3, g := some (3, true) }, { o := .ld (.l 0) 1 false, g := some (4, true) }, { o := .bin .sub (.l 3) (.l 0), g := some (5, true) }, { o := .fa (.v 2) 0, g := some (6, true) }, { o := .fa (.l 0) 1, g := some (7, true) }, { o := .ld (.l 0) 1 false, g := some (8, true) }, { o := .bin .gtr (.l 3) (.l 0), g := some (9, true) }, { o := .pk (.l 10) (.l 0) (.b false) }, { o := .mv (.l 0) }] [] 0 (.seq (.reg [{ o := .mv (.i 10), d := some 3 }] []) .ret) (.ite [{ o := .fa (.v 2) 7 }, { o := .ld (.l 0) 3 true }, { o := .ca N.keys_Valid 0 [] [.l 0] }, { o := .un .not (.l 0) }, { o := .mv (.l 0) }, { o := .fa (.v 2) 7, g := some (0, false) }, { o := .fa (.l 0) 2, g := some (1, false) }, { o := .ld (.l 0) 1 false, g := some (2, false) }, { o := .un .not (.l 0), g := some (3, false) }, { o := .pk (.l 4) (.b true) (.l 0) }, { o := .mv (.l 0) }] [] 0 (.seq (.reg [{ o := .mv (.i 48), d := some 3 }] []) .ret) (.ite [{ o := .fa (.v 2) 0 }, { o := .ld (.l 0) 3 true }, { o := .fa (.v 2) 7 }, { o := .ld (.l 0) 3 true }, { o := .fa (.v 2) 10 }, { o := .ld (.l 0) 1 true }, { o := .ca N.firing_Safe 0 [] [.l 4, .l 2, .l 0] }, { o := .un .not (.l 0) }, { o := .mv (.l 0) }] [] 0 (.seq (.reg [{ o := .mv (.i 49), d := some 3 }] []) .ret) .skip)))))))) (.seq (.reg [{ o := .mv (.i 0), d := some 3 }] []) .ret))), res := [(3, none)] }
/-- /firing.timely -/
def firing_timely : Fn := { nargs := 2, vars := [0, 1, 2, 4], body := (.seq (.reg [{ o := .bx (.v 0) 4, d := some 2 }, { o := .mv (.b false), d := some 3 }] []) (.seq (.reg [{ o := .mv (.v 1) }, { o := .fa (.v 2) 3 }, { o := .ld (.l 0) 1 false }, { o := .bin .geq (.l 2) (.l 0) }, { o := .mv (.l 0) }, { o := .mv (.v 1), g := some (0, true) }, { o := .bin .leq (.l 0) (.i 2147483648), g := some (1, true) }, { o := .pk (.l 2) (.l 0) (.b false) }, { o := .mv (.l 0), d := some 3 }] []) .ret)), res := [(3, none)] }
def lists_Rising_l1b : C := (.its  [{ o := .bin .lss (.v 8) (.v 7) }] [] 0 .skip (.exit 0) (.seq (.blk 1 (.seq (.reg [{ o := .mv (.v 8) }, { o := .ia (.v 6) (.v 8) 1 }, { o := .ld (.l 0) 1 false }, { o := .mv (.l 2), d := some 4 }, { o := .mv (.l 1), d := some 5 }] []) (.ite [{ o := .mv (.v 5) }, { o := .mv (.v 1) }, { o := .bin .lss (.l 1) (.l 0) }, { o := .mv (.l 0) }, { o := .mv (.v 5), g := some (0, false) }, { o := .mv (.v 2), g := some (1, false) }, { o := .bin .gtr (.l 1) (.l 0), g := some (2, false) }, { o := .pk (.l 3) (.b true) (.l 0) }, { o := .mv (.l 0) }, { o := .mv (.v 4), g := some (0, false) }, { o := .bin .gtr (.l 0) (.i 0), g := some (1, false) }, { o := .mv (.l 0), g := some (2, false) }, { o := .mv (.v 5), g := some (0, true) }, { o := .mv (.v 0), g := some (1, true) }, { o := .mv (.v 4), g := some (2, true) }, { o := .bin .sub (.l 0) (.i 1), g := some (3, true) }, { o := .ia (.l 2) (.l 0) 1, g := some (4, true) }, { o := .ld (.l 0) 1 false, g := some (5, true) }, { o := .bin .leq (.l 5) (.l 0), g := some (6, true) }, { o := .pk (.l 7) (.l 0) (.b false), g := some (10, false) }, { o := .pk (.l 11) (.b true) (.l 0) }] [] 0 (.seq (.reg [{ o := .mv (.b false), d := some 3 }] []) .ret) .skip))) (.reg [{ o := .bin .add (.v 8) (.i 1) }, { o := .mv (.l 0), d := some 8 }] [])))
def lists_Rising_l1 : C := .loop true [3, 4, 5] K.lists_Rising_l1b
/-- /lists.Rising -/
def lists_Rising : Fn := { nargs := 3, vars := [0, 1, 2, 6, 7, 8, 9, 10, 11], body := (.seq (.reg [{ o := .mv (.b false), d := some 3 }] []) (.seq (.seq (.reg [{ o := .mv (.v 0), d := some 6 }, { o := .ln (.l 0), d := some 7 }, { o := .mv (.i 0), d := some 8 }] []) (.blk 0 K.lists_Rising_l1)) (.seq (.reg [{ o := .mv (.b true), d := some 3 }] []) .ret))), res := [(3, none)] }
def ref32_Barred_l1b : C := (.seq (.ite [{ o := .mv (.v 5) }, { o := .mv (.v 1) }, { o := .ln (.l 0) }, { o := .bin .lss (.l 2) (.l 0) }] [] 0 .skip (.exit 0)) (.seq (.blk 1 (.reg [{ o := .fa (.v 2) 1 }, { o := .ld (.l 0) 1 false }, { o := .mv (.v 1) }, { o := .mv (.v 5) }, { o := .ia (.l 1) (.l 0) 1 }, { o := .ld (.l 0) 1 false }, { o := .ia (.l 4) (.l 0) 10 }, { o := .fa (.l 0) 4 }, { o := .st (.l 0) (.b false) 1 [] }] [])) (.reg [{ o := .mv (.v 5) }, { o := .bin .add (.l 0) (.i 1) }, { o := .mv (.l 0), d := some 5 }] [])))
def ref32_Barred_l1 : C := .loop true [0, 4] K.ref32_Barred_l1b
/-- /ref32.Barred -/
def ref32_Barred : Fn := { nargs := 2, vars := [0, 1, 2, 4, 5, 6], body := (.seq (.reg [{ o := .bx (.v 0) 2, d := some 2 }, { o := .al [.nil, .nil] [], d := some 3 }, { o := .mv (.i 0), d := some 4 }] []) (.seq (.ite [{ o := .ld (.v 2) 2 true }, { o := .ca N.ref01_Check 0 [] [.l 0] }, { o := .bin .neq (.l 0) (.i 0) }] [] 0 (.seq (.reg [{ o := .bd [.nil, .nil] [] }, { o := .st (.v 3) (.l 0) 2 [] }, { o := .mv (.i 6), d := some 4 }] []) .ret) .skip) (.seq (.ite [{ o := .mv (.v 1) }, { o := .fa (.v 2) 1 }, { o := .ld (.l 0) 1 false }, { o := .ln (.l 0) }, { o := .ca N.ref23_Set 0 [] [.l 3, .l 0] }, { o := .un .not (.l 0) }] [] 0 (.seq (.reg [{ o := .bd [.nil, .nil] [] }, { o := .st (.v 3) (.l 0) 2 [] }, { o := .mv (.i 4), d := some 4 }] []) .ret) .skip) (.seq (.reg [{ o := .ld (.v 2) 2 true }, { o := .ca N.ref31_Copy 1 [] [.l 0] }, { o := .st (.v 2) (.l 0) 2 [] }] []) (.seq (.seq (.reg [{ o := .mv (.i 0), d := some 5 }] []) (.blk 0 K.ref32_Barred_l1)) (.seq (.reg [{ o := .ld (.v 2) 2 true }, { o := .st (.v 3) (.l 0) 2 [] }, { o := .mv (.i 0), d := some 4 }] []) .ret)))))), res := [(3, some (2, true)), (4, none)] }
def ref32_seal_l1b : C := (.seq (.ite [{ o := .mv (.v 7) }, { o := .mv (.v 6) }, { o := .ln (.l 0) }, { o := .bin .lss (.l 2) (.l 0) }] [] 0 .skip (.exit 0)) (.seq (.blk 1 (.ite [{ o := .mv (.v 6) }, { o := .mv (.v 7) }, { o := .ia (.l 1) (.l 0) 1 }, { o := .ld (.l 0) 1 false }, { o := .mv (.v 2) }, { o := .bin .gtr (.l 1) (.l 0) }] [] 0 (.reg [{ o := .mv (.v 6) }, { o := .mv (.v 7) }, { o := .ia (.l 1) (.l 0) 1 }, { o := .st (.l 0) (.i 1099511627776) 1 [] }] []) .skip)) (.reg [{ o := .mv (.v 7) }, { o := .bin .add (.l 0) (.i 1) }, { o := .mv (.l 0), d := some 7 }] [])))
def ref32_seal_l1 : C := .loop true [0, 1, 4] K.ref32_seal_l1b
/-- /ref32.seal -/
def ref32_seal : Fn := { nargs := 3, vars := [0, 1, 2, 3, 4, 6, 7, 8], body := (.seq (.reg [{ o := .bx (.v 0) 2, d := some 3 }, { o := .bx (.v 1) 2, d := some 4 }, { o := .al [.t (.int .i64 (0)), .nil] [], d := some 5 }] []) (.seq (.reg [{ o := .fa (.v 4) 1 }, { o := .ld (.l 0) 1 false }, { o := .app (.c (.nil)) (.l 0) true 1 }, { o := .mv (.l 0), d := some 6 }] []) (.seq (.seq (.reg [{ o := .mv (.i 0), d := some 7 }] []) (.blk 0 K.ref32_seal_l1)) (.seq (.reg [{ o := .mv (.v 2) }, { o := .ld (.v 3) 2 true }, { o := .mv (.v 6) }, { o := .mv (.v 2) }, { o := .ca N.ref25_Close 0 [] [.l 2, .l 1, .l 0] }, { o := .bd [.t (.int .i64 (0)), .nil] [(0, 1, .l 4), (1, 1, .l 0)] }, { o := .st (.v 5) (.l 0) 2 [] }] []) .ret)))), res := [(5, some (2, true))] }
/-- /ref34.step -/
def ref34_step : Fn := { nargs := 7, vars := [0, 1, 2, 3, 4, 5, 6, 7, 8, 9, 10, 14], body := (.seq (.reg [{ o := .bx (.v 0) 3, d := some 7 }, { o := .bx (.v 1) 4, d := some 8 }, { o := .bx (.v 2) 3, d := some 9 }, { o := .bx (.v 3) 1, d := some 10 }, { o := .mv (.i 0), d := some 11 }] []) (.seq (.blk 0 (.ite [{ o := .ld (.v 7) 3 true }, { o := .ld (.v 8) 4 true }, { o := .ca N.ref34_Valid 0 [] [.l 1, .l 0] }, { o := .un .not (.l 0) }, { o := .mv (.l 0) }] [] 0 (.seq (.reg [{ o := .mv (.i 6), d := some 11 }] []) .ret) (.ite [{ o := .fa (.v 8) 0 }, { o := .ld (.l 0) 1 false }, { o := .mv (.v 4) }, { o := .bin .neq (.l 1) (.l 0) }, { o := .mv (.l 0) }] [] 0 (.seq (.reg [{ o := .mv (.i 10), d := some 11 }] []) .ret) (.ite [{ o := .mv (.v 6) }, { o := .bin .lss (.l 0) (.i 0) }, { o := .mv (.l 0) }, { o := .mv (.v 6), g := some (0, false) }, { o := .bin .gtr (.l 0) (.i 2147483648), g := some (1, false) }, { o := .pk (.l 2) (.b true) (.l 0) }, { o := .mv (.l 0) }, { o := .mv (.v 6), g := some (0, false) }, { o := .fa (.v 8) 3, g := some (1, false) }, { o := .ld (.l 0) 1 false, g := some (2, false) }, { o := .bin .lss (.l 2) (.l 0), g := some (3, false) }, { o := .pk (.l 4) (.b true) (.l 0) }, { o := .mv (.l 0) }] [] 0 (.seq (.reg [{ o := .mv (.i 8), d := some 11 }] []) .ret) (.ite [{ o := .mv (.v 5) }, { o := .bin .leq (.l 0) (.i 0) }, { o := .mv (.l 0) }, { o := .mv (.v 4), g := some (0, false) }, { o := .bin .eql (.l 0) (.i 1), g := some (1, false) }, { o := .mv (.l 0), g := some (2, false) }, { o := .mv (.v 5), g := some (0, true) }, { o := .fa (.v 8) 1, g := some (1, true) }, { o := .ld (.l 0) 1 false, g := some (2, true) }, { o := .bin .eql (.l 2) (.l 0), g := some (3, true) }, { o := .pk (.l 4) (.l 0) (.b false), g := some (7, false) }, { o := .pk (.l 8) (.b true) (.l 0) }, { o := .mv (.l 0) }] [] 0 (.seq (.reg [{ o := .mv (.i 19), d := some 11 }] []) .ret) (.ite [{ o := .mv (.v 4) }, { o := .bin .neq (.l 0) (.i 0) }, { o := .mv (.l 0) }, { o := .mv (.v 6), g := some (0, true) }, { o := .fa (.v 8) 3, g := some (1, true) }, { o := .ld (.l 0) 1 false, g := some (2, true) }, { o := .bin .sub (.l 2) (.l 0), g := some (3, true) }, { o := .fa (.v 7) 1, g := some (4, true) }, { o := .ld (.l 0) 1 false, g := some (5, true) }, { o := .bin .gtr (.l 2) (.l 0), g := some (6, true) }, { o := .pk (.l 7) (.l 0) (.b false) }, { o := .mv (.l 0) }] [] 0 (.seq (.reg [{ o := .mv (.i 10), d := some 11 }] []) .ret) (.ite [{ o := .ld (.v 9) 3 true }, { o := .ca N.ref33_Valid 0 [] [.l 0] }, { o := .un .not (.l 0) }, { o := .mv (.l 0) }, { o := .fa (.v 9) 2, g := some (0, false) }, { o := .ld (.l 0) 1 false, g := some (1, false) }, { o := .un .not (.l 0), g := some (2, false) }, { o := .pk (.l 3) (.b true) (.l 0) }, { o := .mv (.l 0) }] [] 0 (.seq (.reg [{ o := .mv (.i 48), d := some 11 }] []) .ret) (.ite [{ o := .ld (.v 7) 3 true }, { o := .ld (.v 9) 3 true }, { o := .ld (.v 10) 1 true }, { o := .ca N.ref34_Safe 0 [] [.l 2, .l 1, .l 0] }, { o := .un .not (.l 0) }, { o := .mv (.l 0) }] [] 0 (.seq (.reg [{ o := .mv (.i 49), d := some 11 }] []) .ret) .skip)))))))) (.seq (.reg [{ o := .mv (.i 0), d := some 11 }] []) .ret))), res := [(11, none)] }
/-- /ref34.blast -/
def ref34_blast : Fn := { nargs := 1, vars := [0, 1, 2], body := (.seq (.reg [{ o := .bx (.v 0) 3, d := some 1 }, { o := .mv (.b false), d := some 2 }] []) (.seq (.reg [{ o := .fa (.v 1) 0 }, { o := .ld (.l 0) 1 false }, { o := .ln (.l 0) }, { o := .bin .gtr (.l 0) (.i 0) }, { o := .mv (.l 0) }, { o := .fa (.v 1) 0, g := some (0, true) }, { o := .ld (.l 0) 1 false, g := some (1, true) }, { o := .ca N.ref23_Set 0 [] [.l 0, .i 64], g := some (2, true) }, { o := .pk (.l 3) (.l 0) (.b false) }, { o := .mv (.l 0) }, { o := .fa (.v 1) 1, g := some (0, true) }, { o := .ld (.l 0) 1 false, g := some (1, true) }, { o := .bin .geq (.l 0) (.i 1), g := some (2, true) }, { o := .pk (.l 3) (.l 0) (.b false) }, { o := .mv (.l 0) }, { o := .fa (.v 1) 1, g := some (0, true) }, { o := .ld (.l 0) 1 false, g := some (1, true) }, { o := .bin .leq (.l 0) (.i 100000), g := some (2, true) }, { o := .pk (.l 3) (.l 0) (.b false) }, { o := .mv (.l 0) }, { o := .fa (.v 1) 2, g := some (0, true) }, { o := .ld (.l 0) 1 false, g := some (1, true) }, { o := .bin .geq (.l 0) (.i 1), g := some (2, true) }, { o := .pk (.l 3) (.l 0) (.b false) }, { o := .mv (.l 0) }, { o := .fa (.v 1) 2, g := some (0, true) }, { o := .ld (.l 0) 1 false, g := some (1, true) }, { o := .bin .leq (.l 0) (.i 100000), g := some (2, true) }, { o := .pk (.l 3) (.l 0) (.b false) }, { o := .mv (.l 0), d := some 2 }] []) .ret)), res := [(2, none)] }
/-- /keys.Valid -/
def keys_Valid : Fn := { nargs := 1, vars := [0, 1, 2, 3], body := (.seq (.reg [{ o := .bx (.v 0) 3, d := some 1 }, { o := .mv (.b false), d := some 2 }] []) (.seq (.reg [{ o := .mv (.c (.fn N.keys_Valid_1 [])), d := some 3 }] []) (.seq (.reg [{ o := .fa (.v 1) 0 }, { o := .ld (.l 0) 1 false }, { o := .ca N.keys_roads 0 [] [.l 0] }, { o := .mv (.l 0) }, { o := .fa (.v 1) 1, g := some (0, true) }, { o := .ld (.l 0) 1 false, g := some (1, true) }, { o := .ln (.l 0), g := some (2, true) }, { o := .fa (.v 1) 0, g := some (3, true) }, { o := .ld (.l 0) 1 false, g := some (4, true) }, { o := .ln (.l 0), g := some (5, true) }, { o := .bin .eql (.l 3) (.l 0), g := some (6, true) }, { o := .pk (.l 7) (.l 0) (.b false) }, { o := .mv (.l 0) }, { o := .fa (.v 1) 1, g := some (0, true) }, { o := .ld (.l 0) 1 false, g := some (1, true) }, { o := .mv (.v 3), g := some (2, true) }, { o := .ca N.slices_ContainsFunc_int_int 0 [] [.l 1, .l 0], g := some (3, true) }, { o := .un .not (.l 0), g := some (4, true) }, { o := .pk (.l 5) (.l 0) (.b false) }, { o := .mv (.l 0) }, { o := .fa (.v 1) 2, g := some (0, true) }, { o := .ld (.l 0) 1 false, g := some (1, true) }, { o := .un .not (.l 0), g := some (2, true) }, { o := .mv (.l 0), g := some (3, true) }, { o := .ld (.v 1) 3 true, g := some (0, false) }, { o := .ca N.keys_boxed 0 [] [.l 0], g := some (1, false) }, { o := .pk (.l 2) (.b true) (.l 0), g := some (6, true) }, { o := .pk (.l 7) (.l 0) (.b false) }, { o := .mv (.l 0), d := some 2 }] []) .ret))), res := [(2, none)] }
def area_Clear_l2b : C := (.its  [{ o := .bin .lss (.v 11) (.v 10) }] [] 0 .skip (.exit 2) (.seq (.blk 3 (.seq (.reg [{ o := .ia (.v 9) (.v 11) 2 }, { o := .ld (.l 0) 2 true }, { o := .al [.t (.int .i64 (0)), .nil] [], d := some 5 }, { o := .st (.l 0) (.l 1) 2 [] }] []) (.ite [{ o := .mv (.v 1) }, { o := .mf N.area_Clear_1 [.v 5] }, { o := .ca N.slices_ContainsFunc_int_int 0 [] [.l 1, .l 0] }] [] 0 (.seq (.reg [{ o := .mv (.b false), d := some 3 }] []) .ret) .skip))) (.reg [{ o := .bin .add (.v 11) (.i 1) }, { o := .mv (.l 0), d := some 11 }] [])))
def area_Clear_l2 : C := .loop true [0, 2, 3, 4, 5] K.area_Clear_l2b
def area_Clear_l1b : C := (.its  [{ o := .bin .lss (.v 8) (.v 7) }] [] 0 .skip (.exit 0) (.seq (.blk 1 (.seq (.reg [{ o := .ia (.v 6) (.v 8) 2 }, { o := .ld (.l 0) 2 true }, { o := .al [.nil, .nil] [], d := some 4 }, { o := .st (.l 0) (.l 1) 2 [] }] []) (.seq (.reg [{ o := .fa (.v 4) 1 }, { o := .ld (.l 0) 1 false, d := some 9 }, { o := .ln (.l 0), d := some 10 }, { o := .mv (.i 0), d := some 11 }] []) (.blk 2 K.area_Clear_l2)))) (.reg [{ o := .bin .add (.v 8) (.i 1) }, { o := .mv (.l 0), d := some 8 }] [])))
def area_Clear_l1 : C := .loop true [0, 2, 3, 4, 5, 9, 10, 11] K.area_Clear_l1b
/-- /area.Clear -/
def area_Clear : Fn := { nargs := 2, vars := [0, 1, 2, 4, 6, 8, 10, 11, 12, 17, 18, 19], body := (.seq (.reg [{ o := .bx (.v 0) 1, d := some 2 }, { o := .mv (.b false), d := some 3 }] []) (.seq (.seq (.reg [{ o := .fa (.v 2) 0 }, { o := .ld (.l 0) 1 false, d := some 6 }, { o := .ln (.l 0), d := some 7 }, { o := .mv (.i 0), d := some 8 }] []) (.blk 0 K.area_Clear_l1)) (.seq (.reg [{ o := .mv (.b true), d := some 3 }] []) .ret))), res := [(3, none)] }
def ref33_Valid_l1b : C := (.seq (.ite [{ o := .mv (.v 3) }, { o := .fa (.v 1) 1 }, { o := .ld (.l 0) 1 false }, { o := .ln (.l 0) }, { o := .bin .lss (.l 3) (.l 0) }] [] 0 .skip (.exit 0)) (.seq (.blk 1 (.ite [{ o := .fa (.v 1) 1 }, { o := .ld (.l 0) 1 false }, { o := .mv (.v 3) }, { o := .ia (.l 1) (.l 0) 1 }, { o := .ld (.l 0) 1 false }, { o := .bin .lss (.l 0) (.i 0) }, { o := .mv (.l 0) }, { o := .fa (.v 1) 1, g := some (0, false) }, { o := .ld (.l 0) 1 false, g := some (1, false) }, { o := .mv (.v 3), g := some (2, false) }, { o := .ia (.l 1) (.l 0) 1, g := some (3, false) }, { o := .ld (.l 0) 1 false, g := some (4, false) }, { o := .bin .gtr (.l 0) (.i 2), g := some (5, false) }, { o := .pk (.l 6) (.b true) (.l 0) }, { o := .mv (.l 0) }, { o := .fa (.v 1) 2, g := some (0, false) }, { o := .ld (.l 0) 1 false, g := some (1, false) }, { o := .mv (.l 0), g := some (2, false) }, { o := .fa (.v 1) 1, g := some (0, true) }, { o := .ld (.l 0) 1 false, g := some (1, true) }, { o := .mv (.v 3), g := some (2, true) }, { o := .ia (.l 1) (.l 0) 1, g := some (3, true) }, { o := .ld (.l 0) 1 false, g := some (4, true) }, { o := .bin .neq (.l 0) (.i 2), g := some (5, true) }, { o := .pk (.l 6) (.l 0) (.b false), g := some (9, false) }, { o := .pk (.l 10) (.b true) (.l 0) }] [] 0 (.seq (.reg [{ o := .mv (.b false), d := some 2 }] []) .ret) .skip)) (.reg [{ o := .mv (.v 3) }, { o := .bin .add (.l 0) (.i 1) }, { o := .mv (.l 0), d := some 3 }] [])))
def ref33_Valid_l1 : C := .loop true [0, 2] K.ref33_Valid_l1b
/-- /ref33.Valid -/
def ref33_Valid : Fn := { nargs := 1, vars := [0, 1, 2, 3], body := (.seq (.reg [{ o := .bx (.v 0) 3, d := some 1 }, { o := .mv (.b false), d := some 2 }] []) (.seq (.ite [{ o := .fa (.v 1) 0 }, { o := .ld (.l 0) 1 false }, { o := .ln (.l 0) }, { o := .bin .lss (.l 0) (.i 1) }, { o := .mv (.l 0) }, { o := .fa (.v 1) 0, g := some (0, false) }, { o := .ld (.l 0) 1 false, g := some (1, false) }, { o := .ln (.l 0), g := some (2, false) }, { o := .bin .gtr (.l 0) (.i 12), g := some (3, false) }, { o := .pk (.l 4) (.b true) (.l 0) }, { o := .mv (.l 0) }, { o := .fa (.v 1) 0, g := some (0, false) }, { o := .ld (.l 0) 1 false, g := some (1, false) }, { o := .ca N.ref23_Set 0 [] [.l 0, .i 128], g := some (2, false) }, { o := .un .not (.l 0), g := some (3, false) }, { o := .pk (.l 4) (.b true) (.l 0) }, { o := .mv (.l 0) }, { o := .fa (.v 1) 1, g := some (0, false) }, { o := .ld (.l 0) 1 false, g := some (1, false) }, { o := .ln (.l 0), g := some (2, false) }, { o := .fa (.v 1) 0, g := some (3, false) }, { o := .ld (.l 0) 1 false, g := some (4, false) }, { o := .ln (.l 0), g := some (5, false) }, { o := .bin .neq (.l 3) (.l 0), g := some (6, false) }, { o := .pk (.l 7) (.b true) (.l 0) }] [] 0 (.seq (.reg [{ o := .mv (.b false), d := some 2 }] []) .ret) .skip) (.seq (.seq (.reg [{ o := .mv (.i 0), d := some 3 }] []) (.blk 0 K.ref33_Valid_l1)) (.seq (.reg [{ o := .mv (.b true), d := some 2 }] []) .ret)))), res := [(2, none)] }
def ref32_Clear_l3b : C := (.seq (.ite [{ o := .mv (.v 7) }, { o := .mv (.v 6) }, { o := .ln (.l 0) }, { o := .bin .lss (.l 2) (.l 0) }] [] 0 .skip (.exit 4)) (.seq (.blk 5 (.ite [{ o := .mv (.v 1) }, { o := .mv (.v 7) }, { o := .ca N.ref23_Has 0 [] [.l 1, .l 0] }, { o := .mv (.l 0) }, { o := .mv (.v 6), g := some (0, true) }, { o := .mv (.v 7), g := some (1, true) }, { o := .ia (.l 1) (.l 0) 1, g := some (2, true) }, { o := .ld (.l 0) 1 false, g := some (3, true) }, { o := .bin .neq (.l 0) (.i 1099511627776), g := some (4, true) }, { o := .pk (.l 5) (.l 0) (.b false) }] [] 0 (.seq (.reg [{ o := .mv (.b false), d := some 3 }] []) .ret) .skip)) (.reg [{ o := .mv (.v 7) }, { o := .bin .add (.l 0) (.i 1) }, { o := .mv (.l 0), d := some 7 }] [])))
def ref32_Clear_l3 : C := .loop true [0, 3] K.ref32_Clear_l3b
def ref32_Clear_l2b : C := (.seq (.ite [{ o := .mv (.v 5) }, { o := .fa (.v 2) 0 }, { o := .ld (.l 0) 1 false }, { o := .mv (.v 4) }, { o := .ia (.l 1) (.l 0) 2 }, { o := .fa (.l 0) 1 }, { o := .ld (.l 0) 1 false }, { o := .ln (.l 0) }, { o := .bin .lss (.l 7) (.l 0) }] [] 0 .skip (.exit 2)) (.seq (.blk 3 (.seq (.reg [{ o := .fa (.v 2) 0 }, { o := .ld (.l 0) 1 false }, { o := .mv (.v 4) }, { o := .ia (.l 1) (.l 0) 2 }, { o := .fa (.l 0) 1 }, { o := .ld (.l 0) 1 false }, { o := .mv (.v 5) }, { o := .ia (.l 1) (.l 0) 2 }, { o := .fa (.l 0) 1 }, { o := .ld (.l 0) 1 false }, { o := .mv (.l 0), d := some 6 }] []) (.seq (.reg [{ o := .mv (.i 0), d := some 7 }] []) (.blk 4 K.ref32_Clear_l3)))) (.reg [{ o := .mv (.v 5) }, { o := .bin .add (.l 0) (.i 1) }, { o := .mv (.l 0), d := some 5 }] [])))
def ref32_Clear_l2 : C := .loop true [0, 3, 6, 7] K.ref32_Clear_l2b
def ref32_Clear_l1b : C := (.seq (.ite [{ o := .mv (.v 4) }, { o := .fa (.v 2) 0 }, { o := .ld (.l 0) 1 false }, { o := .ln (.l 0) }, { o := .bin .lss (.l 3) (.l 0) }] [] 0 .skip (.exit 0)) (.seq (.blk 1 (.seq (.reg [{ o := .mv (.i 0), d := some 5 }] []) (.blk 2 K.ref32_Clear_l2))) (.reg [{ o := .mv (.v 4) }, { o := .bin .add (.l 0) (.i 1) }, { o := .mv (.l 0), d := some 4 }] [])))
def ref32_Clear_l1 : C := .loop true [0, 3, 5, 6, 7] K.ref32_Clear_l1b
/-- /ref32.Clear -/
def ref32_Clear : Fn := { nargs := 2, vars := [0, 1, 2, 4, 5, 6, 7, 8], body := (.seq (.reg [{ o := .bx (.v 0) 1, d := some 2 }, { o := .mv (.b false), d := some 3 }] []) (.seq (.seq (.reg [{ o := .mv (.i 0), d := some 4 }] []) (.blk 0 K.ref32_Clear_l1)) (.seq (.reg [{ o := .mv (.b true), d := some 3 }] []) .ret))), res := [(3, none)] }
/-- /ref31.Copy -/
def ref31_Copy : Fn := { nargs := 1, vars := [0, 1, 2], body := (.seq (.reg [{ o := .bx (.v 0) 2, d := some 1 }, { o := .al [.nil, .nil] [], d := some 2 }] []) (.seq (.reg [{ o := .fa (.v 1) 0 }, { o := .ld (.l 0) 1 false }, { o := .app (.c (.nil)) (.l 0) true 2 }, { o := .fa (.v 1) 1 }, { o := .ld (.l 0) 1 false }, { o := .app (.c (.nil)) (.l 0) true 10 }, { o := .bd [.nil, .nil] [(0, 1, .l 3), (1, 1, .l 0)] }, { o := .st (.v 2) (.l 0) 2 [] }] [(4, 0)]) .ret)), res := [(2, some (2, true))] }
/-- /keys.Valid.1 -/
def keys_Valid_1 : Fn := { nargs := 1, vars := [0, 2], body := (.seq (.reg [{ o := .mv (.b false), d := some 1 }] []) (.seq (.reg [{ o := .mv (.v 0) }, { o := .ca N.lists_In 0 [] [.l 0, .i 0, .i 2] }, { o := .un .not (.l 0) }, { o := .mv (.l 0), d := some 1 }] []) .ret)), res := [(1, none)] }
/-- /keys.roads -/
def keys_roads : Fn := { nargs := 1, vars := [0, 2], body := (.seq (.reg [{ o := .mv (.b false), d := some 1 }] []) (.seq (.reg [{ o := .mv (.v 0) }, { o := .ln (.l 0) }, { o := .ca N.lists_In 0 [] [.l 0, .i 1, .i 12] }, { o := .mv (.l 0) }, { o := .mv (.v 0), g := some (0, true) }, { o := .ca N.lists_Rising 0 [] [.l 0, .i 0, .i 127], g := some (1, true) }, { o := .pk (.l 2) (.l 0) (.b false) }, { o := .mv (.l 0), d := some 1 }] []) .ret)), res := [(1, none)] }
/-- /keys.boxed -/
def keys_boxed : Fn := { nargs := 1, vars := [0, 1, 2], body := (.seq (.reg [{ o := .bx (.v 0) 3, d := some 1 }, { o := .mv (.b false), d := some 2 }] []) (.seq (.reg [{ o := .fa (.v 1) 1 }, { o := .ld (.l 0) 1 false }, { o := .ca N.slices_ContainsFunc_int_int 0 [] [.l 0, .c (.fn N.keys_boxed_1 [])] }, { o := .un .not (.l 0) }, { o := .mv (.l 0), d := some 2 }] []) .ret)), res := [(2, none)] }
/-- /area.Clear.1 -/
def area_Clear_1 : Fn := { nargs := 2, vars := [0, 1, 3], body := (.seq (.reg [{ o := .mv (.b false), d := some 2 }] []) (.seq (.reg [{ o := .mv (.v 0) }, { o := .fa (.v 1) 1 }, { o := .ld (.l 0) 1 false }, { o := .ln (.l 0) }, { o := .bin .sub (.l 0) (.i 1) }, { o := .ca N.lists_In 0 [] [.l 4, .i 0, .l 0] }, { o := .mv (.l 0) }, { o := .fa (.v 1) 1, g := some (0, true) }, { o := .ld (.l 0) 1 false, g := some (1, true) }, { o := .mv (.v 0), g := some (2, true) }, { o := .ia (.l 1) (.l 0) 1, g := some (3, true) }, { o := .ld (.l 0) 1 false, g := some (4, true) }, { o := .bin .neq (.l 0) (.i 1099511627776), g := some (5, true) }, { o := .pk (.l 6) (.l 0) (.b false) }, { o := .mv (.l 0), d := some 2 }] []) .ret)), res := [(2, none)] }
/-- /keys.boxed.1 -/
def keys_boxed_1 : Fn := { nargs := 1, vars := [0, 2], body := (.seq (.reg [{ o := .mv (.b false), d := some 1 }] []) (.seq (.reg [{ o := .mv (.v 0) }, { o := .bin .neq (.l 0) (.i 2) }, { o := .mv (.l 0), d := some 1 }] []) .ret)), res := [(1, none)] }
def ref26_Copy_v1_l1b : C := (.seq (.ite [{ o := .mv (.v 4) }, { o := .fa (.v 1) 0 }, { o := .ld (.l 0) 1 false }, { o := .ln (.l 0) }, { o := .bin .lss (.l 3) (.l 0) }] [] 0 .skip (.exit 0)) (.seq (.blk 1 (.reg [{ o := .fa (.v 3) 0 }, { o := .ld (.l 0) 1 false }, { o := .fa (.v 1) 0 }, { o := .ld (.l 0) 1 false }, { o := .mv (.v 4) }, { o := .ia (.l 1) (.l 0) 2 }, { o := .ld (.l 0) 2 true }, { o := .ca N.ref26_CopyWorld 1 [] [.l 0] }, { o := .bsr [.l 0] 2 }, { o := .app (.l 7) (.l 0) false 2 }, { o := .fa (.v 3) 0 }, { o := .st (.l 0) (.l 1) 1 [] }] [(1, 8), (1, 9)])) (.reg [{ o := .mv (.v 4) }, { o := .bin .add (.l 0) (.i 1) }, { o := .mv (.l 0), d := some 4 }] [])))
def ref26_Copy_v1_l1 : C := .loop false [0] K.ref26_Copy_v1_l1b
/-- /ref26.Copy -/
def ref26_Copy_v1 : Fn := { nargs := 1, vars := [0, 1, 2, 3, 4], body := (.seq (.reg [{ o := .bx (.v 0) 1, d := some 1 }, { o := .al [.nil] [], d := some 2 }] []) (.seq (.reg [{ o := .al [.nil] [(0, 2)], d := some 3 }] []) (.seq (.seq (.reg [{ o := .mv (.i 0), d := some 4 }] []) (.blk 0 K.ref26_Copy_v1_l1)) (.seq (.reg [{ o := .ld (.v 3) 1 true }, { o := .st (.v 2) (.l 0) 1 [] }] []) .ret)))), res := [(2, some (1, true))] }
def ref26_Copy_v2_l1b : C := (.seq (.ite [{ o := .mv (.v 4) }, { o := .fa (.v 1) 0 }, { o := .ld (.l 0) 1 false }, { o := .ln (.l 0) }, { o := .bin .lss (.l 3) (.l 0) }] [] 0 .skip (.exit 0)) (.seq (.blk 1 (.reg [{ o := .fa (.v 3) 0 }, { o := .ld (.l 0) 1 false }, { o := .fa (.v 1) 0 }, { o := .ld (.l 0) 1 false }, { o := .mv (.v 4) }, { o := .ia (.l 1) (.l 0) 2 }, { o := .ld (.l 0) 2 true }, { o := .ca N.ref26_CopyWorld_v2 2 [] [.l 0] }, { o := .bsr [.l 0] 2 }, { o := .app (.l 7) (.l 0) false 2 }, { o := .fa (.v 3) 0 }, { o := .st (.l 0) (.l 1) 1 [] }] [(1, 8), (1, 9)])) (.reg [{ o := .mv (.v 4) }, { o := .bin .add (.l 0) (.i 1) }, { o := .mv (.l 0), d := some 4 }] [])))
def ref26_Copy_v2_l1 : C := .loop false [0] K.ref26_Copy_v2_l1b
/-- /ref26.Copy -/
def ref26_Copy_v2 : Fn := { nargs := 1, vars := [0, 1, 2, 3, 4], body := (.seq (.reg [{ o := .bx (.v 0) 1, d := some 1 }, { o := .al [.nil] [], d := some 2 }] []) (.seq (.reg [{ o := .al [.nil] [(0, 2)], d := some 3 }] []) (.seq (.seq (.reg [{ o := .mv (.i 0), d := some 4 }] []) (.blk 0 K.ref26_Copy_v2_l1)) (.seq (.reg [{ o := .ld (.v 3) 1 true }, { o := .st (.v 2) (.l 0) 1 [] }] []) .ret)))), res := [(2, some (1, true))] }
def ref26_CopyWorld_v2_l1b : C := (.seq (.ite [{ o := .mv (.v 4) }, { o := .fa (.v 1) 1 }, { o := .ld (.l 0) 1 false }, { o := .ln (.l 0) }, { o := .bin .lss (.l 3) (.l 0) }] [] 0 .skip (.exit 0)) (.seq (.blk 1 (.reg [{ o := .fa (.v 3) 1 }, { o := .ld (.l 0) 1 false }, { o := .fa (.v 1) 1 }, { o := .ld (.l 0) 1 false }, { o := .mv (.v 4) }, { o := .ia (.l 1) (.l 0) 2 }, { o := .ld (.l 0) 2 true }, { o := .ca N.ref25_Copy 1 [] [.l 0] }, { o := .bsr [.l 0] 2 }, { o := .app (.l 7) (.l 0) false 2 }, { o := .fa (.v 3) 1 }, { o := .st (.l 0) (.l 1) 1 [] }] [(1, 8), (1, 9)])) (.reg [{ o := .mv (.v 4) }, { o := .bin .add (.l 0) (.i 1) }, { o := .mv (.l 0), d := some 4 }] [])))
def ref26_CopyWorld_v2_l1 : C := .loop false [0] K.ref26_CopyWorld_v2_l1b
/-- /ref26.CopyWorld -/
def ref26_CopyWorld_v2 : Fn := { nargs := 1, vars := [0, 1, 2, 3, 4], body := (.seq (.reg [{ o := .bx (.v 0) 2, d := some 1 }, { o := .al [.nil, .nil] [], d := some 2 }] []) (.seq (.reg [{ o := .fa (.v 1) 0 }, { o := .ld (.l 0) 1 false }, { o := .app (.c (.nil)) (.l 0) false 1 }, { o := .bd [.nil, .nil] [(0, 1, .l 0)] }, { o := .al [.nil, .nil] [(1, 2)], d := some 3 }, { o := .st (.l 0) (.l 1) 2 [(1, 2)] }] []) (.seq (.seq (.reg [{ o := .mv (.i 0), d := some 4 }] []) (.blk 0 K.ref26_CopyWorld_v2_l1)) (.seq (.reg [{ o := .ld (.v 3) 2 true }, { o := .st (.v 2) (.l 0) 2 [] }] []) .ret)))), res := [(2, some (2, true))] }
end Go.Ev.K
namespace Go.Ev
class Has4 [Lib] : Prop where
  t_ref34_Valid : Lib.fs N.ref34_Valid = some K.ref34_Valid
  t_firing_Safe : Lib.fs N.firing_Safe = some K.firing_Safe
  t_ref34_Safe : Lib.fs N.ref34_Safe = some K.ref34_Safe
  t_ref34_Due : Lib.fs N.ref34_Due = some K.ref34_Due
  t_firing_request_check : Lib.fs N.firing_request_check = some K.firing_request_check
  t_firing_timely : Lib.fs N.firing_timely = some K.firing_timely
  t_lists_Rising : Lib.fs N.lists_Rising = some K.lists_Rising
  t_ref32_Barred : Lib.fs N.ref32_Barred = some K.ref32_Barred
  t_ref32_seal : Lib.fs N.ref32_seal = some K.ref32_seal
  t_ref34_step : Lib.fs N.ref34_step = some K.ref34_step
  t_ref34_blast : Lib.fs N.ref34_blast = some K.ref34_blast
  t_keys_Valid : Lib.fs N.keys_Valid = some K.keys_Valid
  t_area_Clear : Lib.fs N.area_Clear = some K.area_Clear
  t_ref33_Valid : Lib.fs N.ref33_Valid = some K.ref33_Valid
  t_ref32_Clear : Lib.fs N.ref32_Clear = some K.ref32_Clear
  t_ref31_Copy : Lib.fs N.ref31_Copy = some K.ref31_Copy
  t_keys_Valid_1 : Lib.fs N.keys_Valid_1 = some K.keys_Valid_1
  t_keys_roads : Lib.fs N.keys_roads = some K.keys_roads
  t_keys_boxed : Lib.fs N.keys_boxed = some K.keys_boxed
  t_area_Clear_1 : Lib.fs N.area_Clear_1 = some K.area_Clear_1
  t_keys_boxed_1 : Lib.fs N.keys_boxed_1 = some K.keys_boxed_1
  t_ref26_Copy_v1 : Lib.fs N.ref26_Copy_v1 = some K.ref26_Copy_v1
  t_ref26_Copy_v2 : Lib.fs N.ref26_Copy_v2 = some K.ref26_Copy_v2
  t_ref26_CopyWorld_v2 : Lib.fs N.ref26_CopyWorld_v2 = some K.ref26_CopyWorld_v2
namespace K
variable [Lib] [Has4]
theorem t_ref34_Valid : Lib.fs N.ref34_Valid = some K.ref34_Valid := Has4.t_ref34_Valid
theorem t_firing_Safe : Lib.fs N.firing_Safe = some K.firing_Safe := Has4.t_firing_Safe
theorem t_ref34_Safe : Lib.fs N.ref34_Safe = some K.ref34_Safe := Has4.t_ref34_Safe
theorem t_ref34_Due : Lib.fs N.ref34_Due = some K.ref34_Due := Has4.t_ref34_Due
theorem t_firing_request_check : Lib.fs N.firing_request_check = some K.firing_request_check := Has4.t_firing_request_check
theorem t_firing_timely : Lib.fs N.firing_timely = some K.firing_timely := Has4.t_firing_timely
theorem t_lists_Rising : Lib.fs N.lists_Rising = some K.lists_Rising := Has4.t_lists_Rising
theorem t_ref32_Barred : Lib.fs N.ref32_Barred = some K.ref32_Barred := Has4.t_ref32_Barred
theorem t_ref32_seal : Lib.fs N.ref32_seal = some K.ref32_seal := Has4.t_ref32_seal
theorem t_ref34_step : Lib.fs N.ref34_step = some K.ref34_step := Has4.t_ref34_step
theorem t_ref34_blast : Lib.fs N.ref34_blast = some K.ref34_blast := Has4.t_ref34_blast
theorem t_keys_Valid : Lib.fs N.keys_Valid = some K.keys_Valid := Has4.t_keys_Valid
theorem t_area_Clear : Lib.fs N.area_Clear = some K.area_Clear := Has4.t_area_Clear
theorem t_ref33_Valid : Lib.fs N.ref33_Valid = some K.ref33_Valid := Has4.t_ref33_Valid
theorem t_ref32_Clear : Lib.fs N.ref32_Clear = some K.ref32_Clear := Has4.t_ref32_Clear
theorem t_ref31_Copy : Lib.fs N.ref31_Copy = some K.ref31_Copy := Has4.t_ref31_Copy
theorem t_keys_Valid_1 : Lib.fs N.keys_Valid_1 = some K.keys_Valid_1 := Has4.t_keys_Valid_1
theorem t_keys_roads : Lib.fs N.keys_roads = some K.keys_roads := Has4.t_keys_roads
theorem t_keys_boxed : Lib.fs N.keys_boxed = some K.keys_boxed := Has4.t_keys_boxed
theorem t_area_Clear_1 : Lib.fs N.area_Clear_1 = some K.area_Clear_1 := Has4.t_area_Clear_1
theorem t_keys_boxed_1 : Lib.fs N.keys_boxed_1 = some K.keys_boxed_1 := Has4.t_keys_boxed_1
theorem t_ref26_Copy_v1 : Lib.fs N.ref26_Copy_v1 = some K.ref26_Copy_v1 := Has4.t_ref26_Copy_v1
theorem t_ref26_Copy_v2 : Lib.fs N.ref26_Copy_v2 = some K.ref26_Copy_v2 := Has4.t_ref26_Copy_v2
theorem t_ref26_CopyWorld_v2 : Lib.fs N.ref26_CopyWorld_v2 = some K.ref26_CopyWorld_v2 := Has4.t_ref26_CopyWorld_v2
end K
end Go.Ev

/- Shots: what the program and the reference say. -/
namespace Go.Ev
open Go
variable [Lib] [Has1] [Has2] [Has3] [Has4]

def risP (l : List Int) (lo hi : Int) (j : Nat) : Bool := !decide (lo ≤ nth l j ∧ nth l j ≤ hi ∧ (0 < j → nth l (j - 1) < nth l j))
def risB (l : List Int) (lo hi : Int) : Bool := !((List.range l.length).any (risP l lo hi))
theorem rising_ok (l : List Int) (lo hi : Int) (hl : l.length ≤ 4294967296) : CALL 0 N.lists_Rising [.t (tL l), I lo, I hi] [] = some (B (risB l lo hi), []) := by
  refine CALL_of K.t_lists_Rising rfl ?_
  have loop : ∀ a b c : D, exS CALL K.lists_Rising_l1 ⟨[.t (tL l), I lo, I hi, a, b, c, .t (tL l), I l.length, I 0], []⟩ =
      some (if (List.range l.length).any (risP l lo hi) = true
        then (.ret, ⟨[.t (tL l), I lo, I hi, B false, I (firstN l.length (risP l lo hi)), I (nth l (firstN l.length (risP l lo hi))), .t (tL l), I l.length, I (firstN l.length (risP l lo hi))], []⟩)
        else (.exit 0, ⟨[.t (tL l), I lo, I hi, .und, .und, .und, .t (tL l), I l.length, I l.length], []⟩)) := by
    intro a b c
    refine loop_srch (fun j => ⟨[.t (tL l), I lo, I hi, .und, .und, .und, .t (tL l), I l.length, I j], []⟩) l.length (risP l lo hi) (fun j => (.ret, ⟨[.t (tL l), I lo, I hi, B false, I j, I (nth l j), .t (tL l), I l.length, I j], []⟩)) _ rfl ?_ ?_ ?_ (by simp)
    · intro j hj hp
      simp only [risP, Bool.not_eq_false', decide_eq_true_eq] at hp
      obtain ⟨h1, h2, h3⟩ := hp
      cases j with
      | zero => simp (disch := omega) only [go_sem, K.lists_Rising_l1b, ↓reduceIte]
      | succ j =>
        have h3 := h3 (by omega)
        rw [Nat.add_sub_cancel] at h3
        simp (disch := omega) only [go_sem, K.lists_Rising_l1b, ↓reduceIte]
    · intro j hj hp
      simp only [risP, Bool.not_eq_true', decide_eq_false_iff_not] at hp
      refine ⟨?_, by simp⟩
      by_cases h1 : lo ≤ nth l j
      · by_cases h2 : nth l j ≤ hi
        · cases j with
          | zero => exact absurd ⟨h1, h2, fun h => absurd h (by omega)⟩ hp
          | succ j =>
            have h3 : ¬ nth l j < nth l (j + 1) := fun h => hp ⟨h1, h2, fun _ => by simpa using h⟩
            simp (disch := omega) only [go_sem, K.lists_Rising_l1b, ↓reduceIte]
        · simp (disch := omega) only [go_sem, K.lists_Rising_l1b, ↓reduceIte]
      · simp (disch := omega) only [go_sem, K.lists_Rising_l1b, ↓reduceIte]
    · simp (disch := omega) only [go_sem, K.lists_Rising_l1b, ↓reduceIte]
  unfold risB
  simp (disch := omega) only [go_sem, K.lists_Rising, ↓reduceIte, loop]
  cases hf : (List.range l.length).any (risP l lo hi) with
  | true => simp (disch := omega) only [go_sem, ↓reduceIte]
  | false => simp (disch := omega) only [go_sem, ↓reduceIte, Bool.false_eq_true]
theorem ris_set (l : List Int) (n : Int) : risB l 0 (n - 1) = setB l n := by
  unfold risB setB
  rw [all_rng]
  refine congrArg (!·) (congrArg _ (funext fun j => ?_))
  unfold risP
  refine congrArg (!·) (decide_eq_decide.2 ⟨fun h => ⟨h.1, by omega, h.2.2⟩, fun h => ⟨h.1, by omega, h.2.2⟩⟩)

structure Shot where
  st : Int
  fi : Int
  se : Int
  ti : Int
abbrev Shot.e (s : Shot) : T := .agg [tI s.st, tI s.fi, tI s.se, tI s.ti]
structure Blast where
  area : List Int
  hold : Int
  mis : Int
abbrev Blast.e (x : Blast) : T := .agg [tL x.area, tI x.hold, tI x.mis]
structure Keys where
  roads : List Int
  keys : List Int
  out : Bool
abbrev Keys.e (k : Keys) : T := .agg [tL k.roads, tL k.keys, .bool k.out]

/- keys -/
theorem kvalid1_ok (x : Int) : CALL 0 N.keys_Valid_1 [I x] [] = some (B (!decide (0 ≤ x ∧ x ≤ 2)), []) := by
  refine CALL_of K.t_keys_Valid_1 rfl ?_
  have i := in_ok x 0 2
  simp (disch := omega) only [go_sem, K.keys_Valid_1, ↓reduceIte, i]
theorem kboxed1_ok (x : Int) : CALL 0 N.keys_boxed_1 [I x] [] = some (B (!decide (x = 2)), []) := by
  refine CALL_of K.t_keys_boxed_1 rfl ?_
  simp (disch := omega) only [go_sem, K.keys_boxed_1, ↓reduceIte]
  simp
def boxedF (l : List Int) : Bool := !l.any fun x => !decide (x = 2)
theorem kboxed_ok (k : Keys) (hl : k.keys.length ≤ 4294967296) : CALL 0 N.keys_boxed [.t k.e] [] = some (B (boxedF k.keys), []) := by
  refine CALL_of K.t_keys_boxed rfl ?_
  have c : CALL 0 N.slices_ContainsFunc_int_int [.t (tL k.keys), .fn N.keys_boxed_1 []] [] = some (B (k.keys.any fun x => !decide (x = 2)), []) := containsFunc_ok k.keys hl N.keys_boxed_1 [] (fun x => !decide (x = 2)) (fun x _ => kboxed1_ok x)
  unfold boxedF
  generalize (k.keys.any fun x => !decide (x = 2)) = r at *
  obtain ⟨roads, keys, out⟩ := k
  simp only at *
  simp (disch := omega) only [go_sem, K.keys_boxed, ↓reduceIte, c]
def kroadsF (l : List Int) : Bool := decide (1 ≤ (l.length : Int) ∧ (l.length : Int) ≤ 12) && risB l 0 127
theorem kroads_ok (l : List Int) (hl : l.length ≤ 4294967296) : CALL 0 N.keys_roads [.t (tL l)] [] = some (B (kroadsF l), []) := by
  refine CALL_of K.t_keys_roads rfl ?_
  have i := in_ok l.length 1 12
  have r := rising_ok l 0 127 hl
  unfold kroadsF
  generalize risB l 0 127 = rr at *
  cases h : decide (1 ≤ (l.length : Int) ∧ (l.length : Int) ≤ 12) <;> rw [h] at i <;> simp (disch := omega) only [go_sem, K.keys_roads, ↓reduceIte, i, r]
def keysF (k : Keys) : Bool := kroadsF k.roads && decide (k.keys.length = k.roads.length) && !(k.keys.any fun x => !decide (0 ≤ x ∧ x ≤ 2)) && (!k.out || boxedF k.keys)
theorem kvalid_ok (k : Keys) (hl : k.keys.length ≤ 4294967296) (hr : k.roads.length ≤ 4294967296) : CALL 0 N.keys_Valid [.t k.e] [] = some (B (keysF k), []) := by
  refine CALL_of K.t_keys_Valid rfl ?_
  have a := kroads_ok k.roads hr
  have b := kboxed_ok k hl
  have c : CALL 0 N.slices_ContainsFunc_int_int [.t (tL k.keys), .fn N.keys_Valid_1 []] [] = some (B (k.keys.any fun x => !decide (0 ≤ x ∧ x ≤ 2)), []) := containsFunc_ok k.keys hl N.keys_Valid_1 [] (fun x => !decide (0 ≤ x ∧ x ≤ 2)) (fun x _ => kvalid1_ok x)
  unfold keysF
  generalize (k.keys.any fun x => !decide (0 ≤ x ∧ x ≤ 2)) = r at *
  obtain ⟨roads, keys, out⟩ := k
  simp only at *
  generalize kroadsF roads = r1 at *
  generalize boxedF keys = r2 at *
  by_cases e : keys.length = roads.length <;> cases r1 <;> cases r <;> cases out <;> simp (disch := omega) only [go_sem, K.keys_Valid, ↓reduceIte, a, b, c, e]

/- shots -/
def stateF (s : Shot) : Bool := if s.st = 0 then decide (s.fi = 0 ∧ s.se = 0 ∧ s.ti = 0) else if s.st = 1 then decide (0 < s.fi ∧ s.se = 0)
  else if s.st = 2 ∨ s.st = 3 ∨ s.st = 4 then decide (0 < s.fi ∧ 0 < s.se ∧ s.fi ≠ s.se) else false
def shotF (x : Blast) (s : Shot) : Bool := !decide (x.area.length = 0) && risB x.area 0 63 && decide (1 ≤ x.hold ∧ x.hold ≤ 100000) && decide (1 ≤ x.mis ∧ x.mis ≤ 100000) && decide (0 ≤ s.ti ∧ s.ti ≤ 2147483648) && stateF s

theorem fvalid_ok (x : Blast) (hl : x.area.length ≤ 4294967296) (s : Shot) : CALL 0 N.firing_Valid [.t x.e, .t s.e] [] = some (B (shotF x s), []) := by
  refine CALL_of K.t_firing_Valid rfl ?_
  have r := rising_ok x.area 0 63 hl
  have i1 := in_ok x.hold 1 100000
  have i2 := in_ok x.mis 1 100000
  have i3 := in_ok s.ti 0 2147483648
  unfold shotF
  generalize risB x.area 0 63 = b1 at *
  generalize decide (1 ≤ x.hold ∧ x.hold ≤ 100000) = b2 at *
  generalize decide (1 ≤ x.mis ∧ x.mis ≤ 100000) = b3 at *
  generalize decide (0 ≤ s.ti ∧ s.ti ≤ 2147483648) = b4 at *
  obtain ⟨area, hold, mis⟩ := x
  obtain ⟨st, fi, se, ti⟩ := s
  simp only at *
  by_cases e : area.length = 0
  · simp (disch := omega) only [go_sem, K.firing_Valid, ↓reduceIte, e]
  cases b1
  · simp (disch := omega) only [go_sem, K.firing_Valid, ↓reduceIte, e, r]
  cases b2
  · simp (disch := omega) only [go_sem, K.firing_Valid, ↓reduceIte, e, r, i1]
  cases b3
  · simp (disch := omega) only [go_sem, K.firing_Valid, ↓reduceIte, e, r, i1, i2]
  cases b4
  · simp (disch := omega) only [go_sem, K.firing_Valid, ↓reduceIte, e, r, i1, i2, i3]
  unfold stateF
  simp only
  by_cases s0 : st = 0
  · subst s0
    by_cases c1 : fi = 0 <;> by_cases c2 : se = 0 <;> by_cases c3 : ti = 0 <;> simp (disch := omega) only [go_sem, K.firing_Valid, ↓reduceIte, e, r, i1, i2, i3]
  by_cases s1 : st = 1
  · subst s1
    by_cases c1 : 0 < fi <;> by_cases c2 : se = 0 <;> simp (disch := omega) only [go_sem, K.firing_Valid, ↓reduceIte, e, r, i1, i2, i3, s0]
  by_cases s2 : st = 2
  · subst s2
    by_cases c1 : 0 < fi <;> by_cases c2 : 0 < se <;> by_cases c3 : fi = se <;> simp (disch := omega) only [go_sem, K.firing_Valid, ↓reduceIte, e, r, i1, i2, i3, s0, s1]
  by_cases s3 : st = 3
  · subst s3
    by_cases c1 : 0 < fi <;> by_cases c2 : 0 < se <;> by_cases c3 : fi = se <;> simp (disch := omega) only [go_sem, K.firing_Valid, ↓reduceIte, e, r, i1, i2, i3, s0, s1, s2]
  by_cases s4 : st = 4
  · subst s4
    by_cases c1 : 0 < fi <;> by_cases c2 : 0 < se <;> by_cases c3 : fi = se <;> simp (disch := omega) only [go_sem, K.firing_Valid, ↓reduceIte, e, r, i1, i2, i3, s0, s1, s2, s3]
  · simp (disch := omega) only [go_sem, K.firing_Valid, ↓reduceIte, e, r, i1, i2, i3, s0, s1, s2, s3, s4]

theorem timely_ok (s : Shot) (t : Int) : CALL 0 N.firing_timely [.t s.e, I t] [] = some (B (decide (s.ti ≤ t ∧ t ≤ 2147483648)), []) := by
  refine CALL_of K.t_firing_timely rfl ?_
  obtain ⟨st, fi, se, ti⟩ := s
  simp only at *
  by_cases c1 : ti ≤ t <;> by_cases c2 : t ≤ 2147483648 <;> simp (disch := omega) only [go_sem, K.firing_timely, ↓reduceIte]

end Go.Ev

/- Shots: clear areas, and the steps. -/
namespace Go.Ev
open Go
variable [Lib] [Has1] [Has2] [Has3] [Has4]

abbrev never : Int := 1099511627776
abbrev Wh.box (w : Wh) : Obj := .box [I w.time, .t (tL w.frm)]
def clrP (w : Wh) (p : Int) : Bool := decide (0 ≤ p ∧ p ≤ (w.frm.length : Int) - 1) && !decide (nth w.frm p.toNat = never)
theorem clear1_ok (w : Wh) (hw : w.frm.length ≤ 4294967296) (p : Int) : CALL 0 N.area_Clear_1 [I p, .bp 0 0] [w.box] = some (B (clrP w p), [w.box]) := by
  refine CALL_of K.t_area_Clear_1 rfl ?_
  have i := in_ok p 0 ((w.frm.length : Int) - 1)
  unfold clrP
  obtain ⟨time, frm⟩ := w
  simp only at *
  by_cases h : 0 ≤ p ∧ p ≤ (frm.length : Int) - 1
  · simp only [h, and_self, decide_true] at i
    obtain ⟨h1, h2⟩ := h
    have g : (frm.map (T.int .i64))[p.toNat]? = some (tI (nth frm p.toNat)) := map_nth _ (by omega)
    by_cases c : nth frm p.toNat = never
    · simp (disch := omega) only [go_sem, K.area_Clear_1, ↓reduceIte, i, g, Nat.reduceAdd, Nat.reduceSub]
    · simp (disch := omega) only [go_sem, K.area_Clear_1, ↓reduceIte, i, g, Nat.reduceAdd, Nat.reduceSub]
  · simp only [h, decide_false] at i
    simp only [h, decide_false, Bool.false_and]
    simp (disch := omega) only [go_sem, K.area_Clear_1, ↓reduceIte, i, Nat.reduceAdd, Nat.reduceSub]

def clrW (area : List Int) (ws : List Wh) (k : Nat) : Bool := area.any (clrP (nth ws k))
def clrB (area : List Int) (xs : List World) (i : Nat) : Bool := (List.range (nth xs i).whr.length).any (clrW area (nth xs i).whr)
def clearF (b : Bel) (area : List Int) : Bool := !(List.range b.worlds.length).any (clrB area b.worlds)

abbrev tW (ws : List Wh) : T := .sl (ws.map Wh.e)
abbrev tX (xs : List World) : T := .sl (xs.map World.e)
theorem clear2_ok (area : List Int) (ha : area.length ≤ 4294967296) (xs : List World) (tags : List Int) (ws : List Wh) (hw : ws.length ≤ 1000000) (hf : ∀ w ∈ ws, w.frm.length ≤ 1000000) (i : Nat) (a b c d e : D) :
    exS CALL K.area_Clear_l2 ⟨[a, .t (tL area), b, c, d, e, .t (tX xs), I xs.length, I i, .t (tW ws), I ws.length, I 0], [.box [.t (tX xs)], .box [.t (tL tags), .t (tW ws)]]⟩ =
    some (if (List.range ws.length).any (clrW area ws) = true
      then (.ret, ⟨[.und, .t (tL area), .und, B false, .und, .bp 2 0, .t (tX xs), I xs.length, I i, .t (tW ws), I ws.length, I (firstN ws.length (clrW area ws))], [.box [.t (tX xs)], .box [.t (tL tags), .t (tW ws)], (nth ws (firstN ws.length (clrW area ws))).box]⟩)
      else (.exit 2, ⟨[.und, .t (tL area), .und, .und, .und, .und, .t (tX xs), I xs.length, I i, .t (tW ws), I ws.length, I ws.length], [.box [.t (tX xs)], .box [.t (tL tags), .t (tW ws)]]⟩)) := by
  refine loop_srch (fun k => ⟨[.und, .t (tL area), .und, .und, .und, .und, .t (tX xs), I xs.length, I i, .t (tW ws), I ws.length, I k], [.box [.t (tX xs)], .box [.t (tL tags), .t (tW ws)]]⟩) ws.length (clrW area ws)
    (fun k => (.ret, ⟨[.und, .t (tL area), .und, B false, .und, .bp 2 0, .t (tX xs), I xs.length, I i, .t (tW ws), I ws.length, I k], [.box [.t (tX xs)], .box [.t (tL tags), .t (tW ws)], (nth ws k).box]⟩)) _ rfl ?_ ?_ ?_ (by simp)
  · intro k hk hp
    have g : (ws.map Wh.e)[k]? = some (nth ws k).e := map_nth _ hk
    have f := hf _ (nth_mem hk)
    unfold clrW at hp
    have cf : CALL 0 N.slices_ContainsFunc_int_int [.t (tL area), .fn N.area_Clear_1 [.bp 0 0]] [(nth ws k).box] = some (B (area.any (clrP (nth ws k))), [(nth ws k).box]) :=
      containsFunc_ok area ha N.area_Clear_1 [[tI (nth ws k).time, tL (nth ws k).frm]] (clrP (nth ws k)) (fun p _ => clear1_ok (nth ws k) (by omega) p)
    rw [hp] at cf
    generalize nth ws k = w at *
    obtain ⟨time, frm⟩ := w
    simp only [Wh.box] at *
    simp (disch := omega) only [go_sem, K.area_Clear_l2b, ↓reduceIte, g, cf, Nat.reduceAdd, Nat.reduceSub]
  · intro k hk hp
    refine ⟨?_, by simp⟩
    have g : (ws.map Wh.e)[k]? = some (nth ws k).e := map_nth _ hk
    have f := hf _ (nth_mem hk)
    unfold clrW at hp
    have cf : CALL 0 N.slices_ContainsFunc_int_int [.t (tL area), .fn N.area_Clear_1 [.bp 0 0]] [(nth ws k).box] = some (B (area.any (clrP (nth ws k))), [(nth ws k).box]) :=
      containsFunc_ok area ha N.area_Clear_1 [[tI (nth ws k).time, tL (nth ws k).frm]] (clrP (nth ws k)) (fun p _ => clear1_ok (nth ws k) (by omega) p)
    rw [hp] at cf
    generalize nth ws k = w at *
    obtain ⟨time, frm⟩ := w
    simp only [Wh.box] at *
    simp (disch := omega) only [go_sem, K.area_Clear_l2b, ↓reduceIte, g, cf, Nat.reduceAdd, Nat.reduceSub]
  · simp (disch := omega) only [go_sem, K.area_Clear_l2b, ↓reduceIte, Nat.reduceAdd, Nat.reduceSub]

theorem clear_ok (b : Bel) (hb : b.sz) (area : List Int) (ha : area.length ≤ 4294967296) : CALL 0 N.area_Clear [.t b.e, .t (tL area)] [] = some (B (clearF b area), []) := by
  refine CALL_of K.t_area_Clear rfl ?_
  obtain ⟨xs⟩ := b
  obtain ⟨hb1, hb2⟩ := hb
  simp only at hb1 hb2
  have loop : ∀ a b c e f g : D, exS CALL K.area_Clear_l1 ⟨[.t (Bel.mk xs).e, .t (tL area), .bp 0 0, a, b, c, .t (tX xs), I xs.length, I 0, e, f, g], [.box [.t (tX xs)]]⟩ =
      some (if (List.range xs.length).any (clrB area xs) = true
        then (fun j => (.ret, ⟨[.und, .t (tL area), .und, B false, .und, .bp 2 0, .t (tX xs), I xs.length, I j, .t (tW (nth xs j).whr), I (nth xs j).whr.length, I (firstN (nth xs j).whr.length (clrW area (nth xs j).whr))],
          [.box [.t (tX xs)], .box [.t (tL (nth xs j).tags), .t (tW (nth xs j).whr)], (nth (nth xs j).whr (firstN (nth xs j).whr.length (clrW area (nth xs j).whr))).box]⟩) : Nat → Ex × St) (firstN xs.length (clrB area xs))
        else (.exit 0, ⟨[.und, .t (tL area), .und, .und, .und, .und, .t (tX xs), I xs.length, I xs.length, .und, .und, .und], [.box [.t (tX xs)]]⟩)) := by
    intro a b c e f g
    refine loop_srch (fun j => ⟨[.und, .t (tL area), .und, .und, .und, .und, .t (tX xs), I xs.length, I j, .und, .und, .und], [.box [.t (tX xs)]]⟩) xs.length (clrB area xs)
      (fun j => (.ret, ⟨[.und, .t (tL area), .und, B false, .und, .bp 2 0, .t (tX xs), I xs.length, I j, .t (tW (nth xs j).whr), I (nth xs j).whr.length, I (firstN (nth xs j).whr.length (clrW area (nth xs j).whr))],
          [.box [.t (tX xs)], .box [.t (tL (nth xs j).tags), .t (tW (nth xs j).whr)], (nth (nth xs j).whr (firstN (nth xs j).whr.length (clrW area (nth xs j).whr))).box]⟩)) _ rfl ?_ ?_ ?_ (by simp)
    · intro j hj hp
      have g1 : (xs.map World.e)[j]? = some (nth xs j).e := map_nth _ hj
      obtain ⟨s1, s2, s3⟩ := hb2 _ (nth_mem hj)
      have l2 := fun a b c d e => clear2_ok area ha xs (nth xs j).tags (nth xs j).whr s2 s3 j a b c d e
      unfold clrB at hp
      rw [hp] at l2
      simp only [Bool.false_eq_true, ↓reduceIte] at l2
      generalize nth xs j = x at *
      obtain ⟨tags, whr⟩ := x
      simp only at *
      simp (disch := omega) only [go_sem, K.area_Clear_l1b, ↓reduceIte, g1, l2, Nat.reduceAdd, Nat.reduceSub]
    · intro j hj hp
      refine ⟨?_, by simp⟩
      have g1 : (xs.map World.e)[j]? = some (nth xs j).e := map_nth _ hj
      obtain ⟨s1, s2, s3⟩ := hb2 _ (nth_mem hj)
      have l2 := fun a b c d e => clear2_ok area ha xs (nth xs j).tags (nth xs j).whr s2 s3 j a b c d e
      unfold clrB at hp
      rw [hp] at l2
      simp only [↓reduceIte] at l2
      generalize nth xs j = x at *
      obtain ⟨tags, whr⟩ := x
      simp only at *
      simp (disch := omega) only [go_sem, K.area_Clear_l1b, ↓reduceIte, g1, l2, Nat.reduceAdd, Nat.reduceSub]
    · simp (disch := omega) only [go_sem, K.area_Clear_l1b, ↓reduceIte, Nat.reduceAdd, Nat.reduceSub]
  unfold clearF
  simp (disch := omega) only [go_sem, K.area_Clear, ↓reduceIte, loop, Nat.reduceAdd, Nat.reduceSub]
  cases hf : (List.range xs.length).any (clrB area xs) with
  | true =>
    simp (disch := omega) only [go_sem, ↓reduceIte, Nat.reduceAdd, Nat.reduceSub]
  | false => simp (disch := omega) only [go_sem, ↓reduceIte, Bool.false_eq_true, Nat.reduceAdd, Nat.reduceSub]
end Go.Ev

/- Copies of beliefs of which all parts may be written. -/
namespace Go.Ev
open Go
variable [Lib] [Has1] [Has2] [Has3] [Has4]

theorem mapO_of {α β γ : Type} {f : β → Option γ} {g : α → β} {h : α → γ} : ∀ {l : List α}, (∀ x ∈ l, f (g x) = some (h x)) → mapO f (l.map g) = some (l.map h)
  | [], _ => rfl
  | a :: l, hh => by
    have ih := mapO_of (f := f) (g := g) (h := h) (l := l) fun x hx => hh x (List.mem_cons_of_mem _ hx)
    simp only [List.map_cons, mapO, hh a List.mem_cons_self, Option.bind_some, ih, Option.map_some]
theorem pairs_map {α : Type} (f g : Nat → α) : ∀ n, (List.range n).flatMap (fun i => [f i, g i]) = (List.range (2 * n)).map (fun k => if k % 2 = 0 then f (k / 2) else g (k / 2))
  | 0 => rfl
  | n + 1 => by
    have e : 2 * (n + 1) = 2 * n + 1 + 1 := by omega
    have e1 : (2 * n) % 2 = 0 := by omega
    have e2 : ¬ (2 * n + 1) % 2 = 0 := by omega
    have e3 : (2 * n) / 2 = n := by omega
    have e4 : (2 * n + 1) / 2 = n := by omega
    rw [List.range_succ, List.flatMap_append, pairs_map f g n, e, List.range_succ, List.range_succ, List.map_append, List.map_append]
    simp only [List.map_cons, List.map_nil, List.flatMap_cons, List.flatMap_nil, if_pos e1, if_neg e2, e3, e4, List.append_assoc, List.append_nil, List.cons_append, List.nil_append]

def cpEl (s : Nat) (ws : List World) (i : Nat) : D := .agg [.ref (s + 2 * i + 1) 0 (nth ws i).tags.length, .ref (s + 2 * i + 2) 0 (nth ws i).whr.length]
def cpOb (ws : List World) (k : Nat) : Obj := if k % 2 = 0 then .arr 1 false 0 (ints (nth ws (k / 2)).tags) else .arr 2 false 0 (whs (nth ws (k / 2)).whr)
def cpH (s : Nat) (ws : List World) : Heap := .arr 2 false 0 ((List.range ws.length).map (cpEl s ws)) :: (List.range (2 * ws.length)).map (cpOb ws)

theorem cpOb_ren (f : Nat → Option Nat) (ws : List World) (k : Nat) : renObj f (cpOb ws k) = some (cpOb ws k) := by
  unfold cpOb
  split <;> simp only [renObj, ints, whs, ren_map, Option.map_some]
theorem cp_ren (s : Nat) (ws : List World) : mapO (renObj (backTo [] s)) (cpH 0 ws) = some (cpH s ws) := by
  have e1 : ∀ i : Nat, backTo [] s (0 + 2 * i + 1) = some (s + 2 * i + 1) := fun i => by simp [backTo]; omega
  have e2 : ∀ i : Nat, backTo [] s (0 + 2 * i + 2) = some (s + 2 * i + 2) := fun i => by simp [backTo]; omega
  have h1 : mapO (ren (backTo [] s) depth) ((List.range ws.length).map (cpEl 0 ws)) = some ((List.range ws.length).map (cpEl s ws)) := mapO_of fun i _ => by
    simp only [cpEl, depth, ren, mapO, e1, e2, Option.map_some, Option.bind_some]
  have h2 : mapO (renObj (backTo [] s)) ((List.range (2 * ws.length)).map (cpOb ws)) = some ((List.range (2 * ws.length)).map (cpOb ws)) := mapO_of fun k _ => cpOb_ren _ ws k
  unfold cpH
  simp only [mapO, renObj, h1, h2, Option.map_some, Option.bind_some]

def cpNew (n : Nat) : List Nat := (List.range (2 * n)).map (fun k => if k % 2 = 0 then 4 + 3 * (k / 2) else 5 + 3 * (k / 2))
theorem cpNew_nodup (n : Nat) : ([3] ++ cpNew n).Nodup := by
  have h : (cpNew n).Pairwise (· < ·) := by
    unfold cpNew
    rw [List.pairwise_map]
    refine List.Pairwise.imp (fun {a b} hab => ?_) List.pairwise_lt_range
    have : a < b := hab
    split <;> split <;> omega
  rw [List.singleton_append, List.nodup_cons]
  refine ⟨fun hm => ?_, List.Pairwise.imp (fun {a b} hab => Nat.ne_of_lt hab) h⟩
  unfold cpNew at hm
  obtain ⟨k, _, hk⟩ := List.mem_map.1 hm
  split at hk <;> omega
theorem cpNew_get (n k : Nat) (h : k < 2 * n) : ([3] ++ cpNew n)[k + 1]? = some (if k % 2 = 0 then 4 + 3 * (k / 2) else 5 + 3 * (k / 2)) := by
  unfold cpNew
  rw [List.singleton_append, List.getElem?_cons_succ, List.getElem?_map, List.getElem?_range h]; rfl

theorem finish_two (H : Heap) (ws : List World) (h3 : H[3]? = some (.arr 2 false 0 ((List.range ws.length).map (fun i => D.agg [.ref (4 + 3 * i) 0 (nth ws i).tags.length, .ref (5 + 3 * i) 0 (nth ws i).whr.length]))))
    (ha : ∀ i, i < ws.length → H[4 + 3 * i]? = some (.arr 1 false 0 (ints (nth ws i).tags))) (hb : ∀ i, i < ws.length → H[5 + 3 * i]? = some (.arr 2 false 0 (whs (nth ws i).whr))) :
    finish 0 2 H [.agg [.ref 3 0 ws.length]] = some (.agg [.ref 0 0 ws.length], cpH 0 ws) := by
  have hold : ([D.agg [.ref 3 0 ws.length]].all (old 0 depth) && (H.take 0).all (fun o => o.ds.all (old 0 depth))) = false := by simp [old, depth]
  have nd := cpNew_nodup ws.length
  have hids : idsOf H [3] = cpNew ws.length := by
    simp only [idsOf, List.flatMap_cons, List.flatMap_nil, List.append_nil, h3, Obj.ds, List.flatMap_map]
    simp only [ids, depth, List.flatMap_cons, List.flatMap_nil, List.append_nil, List.cons_append, List.nil_append]
    exact pairs_map _ _ _
  have hpick : pick H (cpNew ws.length) = some ((List.range (2 * ws.length)).map (cpOb ws)) := by
    refine pick_get' (by unfold cpNew; simp) fun k i o hk ho => ?_
    unfold cpNew at hk
    rw [List.getElem?_map] at hk ho
    have hl : k < 2 * ws.length := by
      cases hr : (List.range (2 * ws.length))[k]? with
      | none => rw [hr] at hk; simp at hk
      | some v => have := (List.getElem?_eq_some_iff.1 hr).1; simpa using this
    rw [List.getElem?_range hl] at hk ho
    simp only [Option.map_some, Option.some.injEq] at hk ho
    subst hk; subst ho
    unfold cpOb
    split
    · exact ha _ (by omega)
    · exact hb _ (by omega)
  have hch : (((List.range (2 * ws.length)).map (cpOb ws)).flatMap fun o => o.ds.flatMap (arrs H depth)) = [] := by
    rw [List.flatMap_eq_nil_iff]
    intro o ho
    obtain ⟨k, _, rfl⟩ := List.mem_map.1 ho
    unfold cpOb
    split <;> simp only [Obj.ds, ints, whs, arrs_t]
  have hfz : mapO (freezeArr H) ((List.range (2 * ws.length)).map (cpOb ws)) = some ((List.range (2 * ws.length)).map (cpOb ws)) := mapO_of fun k _ => by
    have key : ∀ ts : List T, mapO (fun d => (frz H depth d).map D.t) (ts.map .t) = some (ts.map .t) := fun ts => mapO_of fun x _ => by simp only [frz_t, Option.map_some]
    unfold cpOb
    split <;> simp only [freezeArr, ints, whs, key, Option.map_some]
  have hk : keepLv H (max 2 1) (List.range 0) ([D.agg [.ref 3 0 ws.length]].flatMap (ids depth) ++ idsOf H (List.range 0)) =
      some ([3] ++ cpNew ws.length, .arr 2 false 0 ((List.range ws.length).map (fun i => D.agg [.ref (4 + 3 * i) 0 (nth ws i).tags.length, .ref (5 + 3 * i) 0 (nth ws i).whr.length])) :: (List.range (2 * ws.length)).map (cpOb ws)) := by
    have e1 : [D.agg [.ref 3 0 ws.length]].flatMap (ids depth) ++ idsOf H (List.range 0) = [3] := by simp [ids, depth, idsOf]
    have hnew : (addNew [] [3]).drop 0 = [3] := by simp [addNew]
    have hm : max 2 1 = 1 + 1 := rfl
    rw [e1, hm]
    simp only [List.range_zero]
    unfold keepLv
    simp only [List.length_nil, hnew, pick, h3, Option.bind_some, Option.map_some, Nat.one_ne_zero, if_false]
    unfold keepLv
    simp only [List.nil_append, hids, addNew_app _ _ nd, List.length_singleton, List.drop_left', hpick, Option.bind_some, if_true, hch, List.all_nil, hfz, keepLv, Option.map_some, List.append_nil, List.singleton_append, List.drop_one, List.tail_cons]
  unfold finish
  rw [if_neg (by omega), Option.bind_some, hold, if_neg (by simp), hk]
  have i0 : idxOf ([3] ++ cpNew ws.length) 3 = some 0 := rfl
  have iA : ∀ i, i < ws.length → idxOf ([3] ++ cpNew ws.length) (4 + 3 * i) = some (0 + 2 * i + 1) := fun i hi => by
    have g := cpNew_get ws.length (2 * i) (by omega)
    rw [if_pos (by omega), show 4 + 3 * (2 * i / 2) = 4 + 3 * i by omega] at g
    rw [show 0 + 2 * i + 1 = 2 * i + 1 by omega]
    exact idxOf_range' _ _ _ nd g
  have iB : ∀ i, i < ws.length → idxOf ([3] ++ cpNew ws.length) (5 + 3 * i) = some (0 + 2 * i + 2) := fun i hi => by
    have g := cpNew_get ws.length (2 * i + 1) (by omega)
    rw [if_neg (by omega), show 5 + 3 * ((2 * i + 1) / 2) = 5 + 3 * i by omega] at g
    rw [show 0 + 2 * i + 2 = 2 * i + 1 + 1 by omega]
    exact idxOf_range' _ _ _ nd g
  have hes : mapO (ren (idxOf ([3] ++ cpNew ws.length)) depth) ((List.range ws.length).map (fun i => D.agg [.ref (4 + 3 * i) 0 (nth ws i).tags.length, .ref (5 + 3 * i) 0 (nth ws i).whr.length])) = some ((List.range ws.length).map (cpEl 0 ws)) := mapO_of fun i hi => by
    have hi := List.mem_range.1 hi
    simp only [cpEl, depth, ren, mapO, iA i hi, iB i hi, Option.map_some, Option.bind_some]
  have hob : mapO (renObj (idxOf ([3] ++ cpNew ws.length))) ((List.range (2 * ws.length)).map (cpOb ws)) = some ((List.range (2 * ws.length)).map (cpOb ws)) := mapO_of fun k _ => cpOb_ren _ ws k
  simp only [depth] at hes
  simp only [Option.bind_some, List.range_zero, List.nil_append, List.take_zero, resArrs, Nat.succ_ne_zero, if_false, List.all_nil, if_true, mapO, renObj, hes, hob, ren, depth, i0, Option.map_some, tupOf, cpH]

theorem hs_get {H t : Heap} {i k : Nat} {o : Obj} (h : i < H.length) : (H.set k o ++ t)[i]? = (H.set k o)[i]? := List.getElem?_append_left (by rw [List.length_set]; exact h)
theorem hs_set {H t : Heap} {i k : Nat} {o o' : Obj} (h : i < H.length) : (H.set k o ++ t).set i o' = (H.set k o).set i o' ++ t := List.set_append_left _ _ (by rw [List.length_set]; exact h)

theorem copy2_loop (l : List World) (h1 : l.length ≤ 1000000) (h2 : ∀ x ∈ l, x.sz) (a : D) : ∃ q, exS CALL K.ref26_Copy_v1_l1 ⟨[a, .bp 0 0, .bp 1 0, .bp 2 0, I 0], [.box [.t (tX l)], .box [.nil], .box [.ref 3 0 0], .arr 2 false 0 []]⟩ = some q ∧
    ∃ H, q = (.exit 0, ⟨[.und, .bp 0 0, .bp 1 0, .bp 2 0, I l.length], H⟩) ∧ H[1]? = some (.box [.nil]) ∧ H[2]? = some (.box [.ref 3 0 l.length]) ∧
      H[3]? = some (.arr 2 false 0 ((List.range l.length).map (fun i => D.agg [.ref (4 + 3 * i) 0 (nth l i).tags.length, .ref (5 + 3 * i) 0 (nth l i).whr.length]))) ∧
      (∀ i, i < l.length → H[4 + 3 * i]? = some (.arr 1 false 0 (ints (nth l i).tags))) ∧ (∀ i, i < l.length → H[5 + 3 * i]? = some (.arr 2 false 0 (whs (nth l i).whr))) := by
  refine loop_inv (fun j st => ∃ H, st = ⟨[.und, .bp 0 0, .bp 1 0, .bp 2 0, I j], H⟩ ∧ H.length = 4 + 3 * j ∧ H[0]? = some (.box [.t (tX l)]) ∧ H[1]? = some (.box [.nil]) ∧ H[2]? = some (.box [.ref 3 0 j]) ∧
      H[3]? = some (.arr 2 false 0 ((List.range j).map (fun i => D.agg [.ref (4 + 3 * i) 0 (nth l i).tags.length, .ref (5 + 3 * i) 0 (nth l i).whr.length]))) ∧
      (∀ i, i < j → H[4 + 3 * i]? = some (.arr 1 false 0 (ints (nth l i).tags))) ∧ (∀ i, i < j → H[5 + 3 * i]? = some (.arr 2 false 0 (whs (nth l i).whr)))) l.length _ ?_ ?_ ?_
  · exact ⟨_, rfl, rfl, rfl, rfl, rfl, rfl, fun i hi => absurd hi (by omega), fun i hi => absurd hi (by omega)⟩
  · rintro j st hj ⟨H, rfl, hlen, e0, e1, e2, e3, hA, hB⟩
    have g : (l.map World.e)[j]? = some (nth l j).e := map_nth _ hj
    have c := copyWorld_ok1 (nth l j) (h2 _ (nth_mem hj))
    have rs : (List.range (j + 1)).map (fun i => D.agg [.ref (4 + 3 * i) 0 (nth l i).tags.length, .ref (5 + 3 * i) 0 (nth l i).whr.length]) = (List.range j).map (fun i => D.agg [.ref (4 + 3 * i) 0 (nth l i).tags.length, .ref (5 + 3 * i) 0 (nth l i).whr.length]) ++ [D.agg [.ref (4 + 3 * j) 0 (nth l j).tags.length, .ref (5 + 3 * j) 0 (nth l j).whr.length]] := by
      rw [List.range_succ, List.map_append]; rfl
    have el : ((List.range j).map (fun i => D.agg [.ref (4 + 3 * i) 0 (nth l i).tags.length, .ref (5 + 3 * i) 0 (nth l i).whr.length])).length = j := by simp
    generalize (List.range j).map (fun i => D.agg [.ref (4 + 3 * i) 0 (nth l i).tags.length, .ref (5 + 3 * i) 0 (nth l i).whr.length]) = es at *
    have n1 : 4 + 3 * j = H.length := hlen.symm
    have n2 : 5 + 3 * j = H.length + 1 := by omega
    rw [n1, n2] at rs
    refine ⟨⟨[.und, .bp 0 0, .bp 1 0, .bp 2 0, I (j + 1)], (H.set 3 (.arr 2 false 0 (es ++ [D.agg [.ref H.length 0 (nth l j).tags.length, .ref (H.length + 1) 0 (nth l j).whr.length]]))).set 2 (.box [.ref 3 0 (j + 1)]) ++ [.arr 1 false 0 (ints (nth l j).tags), .arr 2 false 0 (whs (nth l j).whr), .arr 2 false 0 [D.agg [.ref H.length 0 (nth l j).tags.length, .ref (H.length + 1) 0 (nth l j).whr.length]]]⟩, ?_, _, rfl, ?_⟩
    · generalize hx : nth l j = x at *
      obtain ⟨tags, whr⟩ := x
      simp only [ints, whs] at *
      clear rs hA hB
      simp (disch := omega) only [go_sem, K.ref26_Copy_v1_l1b, ↓reduceIte, Nat.reduceAdd, Nat.reduceSub, g, c, e0, e1, e2, e3, el, hp_get, hp_get_len, hp_get_add, hp_set, hp_set_len, hp_set_add, hp_assoc, hs_get, hs_set, hp_set_ne, List.length_set, Nat.add_assoc, Nat.sub_zero]
    · have old_ : ∀ (o o' : Obj) (t : Heap) (i : Nat), i < H.length → i ≠ 2 → i ≠ 3 → ((H.set 3 o).set 2 o' ++ t)[i]? = H[i]? := fun o o' t i h1 h2 h3 => by
        rw [List.getElem?_append_left (by simp; exact h1), hp_set_ne (fun e => h2 e.symm), hp_set_ne (fun e => h3 e.symm)]
      have new_ : ∀ (o o' : Obj) (t : Heap) (k : Nat), ((H.set 3 o).set 2 o' ++ t)[H.length + k]? = t[k]? := fun o o' t k => by
        rw [List.getElem?_append_right (by simp)]; simp
      refine ⟨by simp; omega, ?_, ?_, ?_, ?_, ?_, ?_⟩
      · rw [old_ _ _ _ 0 (by omega) (by omega) (by omega)]; exact e0
      · rw [old_ _ _ _ 1 (by omega) (by omega) (by omega)]; exact e1
      · rw [List.getElem?_append_left (by simp; omega), hp_set_get (by simp; omega)]
      · rw [List.getElem?_append_left (by simp; omega), hp_set_ne (by omega), hp_set_get (by omega), rs]
      · intro i hi
        by_cases c : i < j
        · rw [old_ _ _ _ _ (by omega) (by omega) (by omega)]; exact hA i c
        · have : i = j := by omega
          subst this
          rw [n1, show H.length = H.length + 0 from rfl, new_]; rfl
      · intro i hi
        by_cases c : i < j
        · rw [old_ _ _ _ _ (by omega) (by omega) (by omega)]; exact hB i c
        · have : i = j := by omega
          subst this
          rw [n2, new_]; rfl
  · rintro st ⟨H, rfl, hlen, e0, e1, e2, e3, hA, hB⟩
    refine ⟨(.exit 0, ⟨[.und, .bp 0 0, .bp 1 0, .bp 2 0, I l.length], H⟩), ?_, by simp, H, rfl, e1, e2, e3, hA, hB⟩
    simp (disch := omega) only [go_sem, K.ref26_Copy_v1_l1b, ↓reduceIte, Nat.reduceAdd, Nat.reduceSub, e0]

/-- A belief, of which all lists may be written. -/
theorem copyBel_ok2 (b : Bel) (h : b.sz) : CALL 2 N.ref26_Copy_v1 [.t b.e] [] = some (.agg [.ref 0 0 b.worlds.length], cpH 0 b.worlds) := by
  refine CALL_of K.t_ref26_Copy_v1 rfl ?_
  obtain ⟨h1, h2⟩ := h
  obtain ⟨q, hq, H, rfl, e1, e2, e3, hA, hB⟩ := copy2_loop b.worlds h1 h2 (.t b.e)
  have fin := finish_two (H.set 1 (.box [.ref 3 0 b.worlds.length])) b.worlds (by rw [hp_set_ne (by omega)]; exact e3) (fun i hi => by rw [hp_set_ne (by omega)]; exact hA i hi) (fun i hi => by rw [hp_set_ne (by omega)]; exact hB i hi)
  have hl := hp_lt e1
  obtain ⟨l⟩ := b
  simp only at *
  simp (disch := omega) only [go_sem, K.ref26_Copy_v1, ↓reduceIte, hq, e1, e2, hp_set_get, fin, Nat.reduceAdd, Nat.reduceSub]
end Go.Ev

/- Made inputs: mines. -/
namespace Go.Ev
open Go
variable [Lib] [Has1] [Has2]

@[go_sem] theorem appOK_place (l : List Place) : appOK 2 (l.map Place.e) = true := by cases l <;> rfl
@[go_sem] theorem appOK_road (l : List Road) : appOK 10 (l.map Road.e) = true := by cases l <;> rfl

@[go_sem] theorem ldBox_dice (H : Heap) (d : Dice) : ldBox H 0 1 false (some d.obj) = some (.t (tL d.L), H) := by simp only [Dice.obj, go_sem]

def Dice.placesN (d : Dice) : Nat → List Place × Dice
  | 0 => ([], d)
  | k + 1 => if k = 0 then ((d.placesN k).1 ++ [⟨-10 * ((d.placesN k).2.next 4).1, true⟩], ((d.placesN k).2.next 4).2)
    else ((d.placesN k).1 ++ [⟨-10 * ((d.placesN k).2.next 4).1, (((d.placesN k).2.next 4).2.one 6).1⟩], (((d.placesN k).2.next 4).2.one 6).2)

def Dice.road1 (d : Dice) (i : Int) : Road × Dice :=
  (⟨i - 1 - (d.next (min i 2)).1, i, 1 + ((d.next (min i 2)).2.of [11, 59, 119, 4]).1, 1 + (((d.next (min i 2)).2.of [11, 59, 119, 4]).2.of [9, 3, 19]).1, true, false, 1, 1, 0, 0⟩,
    (((d.next (min i 2)).2.of [11, 59, 119, 4]).2.of [9, 3, 19]).2)
def Dice.roadsN (d : Dice) : Nat → List Road × Dice
  | 0 => ([], d)
  | k + 1 => ((d.roadsN k).1 ++ [((d.roadsN k).2.road1 (k + 1)).1], ((d.roadsN k).2.road1 (k + 1)).2)

def Dice.road2 (d : Dice) (n : Int) : Road × Dice :=
  let a := d.next n
  let b := a.2.next n
  let l := b.2.of [11, 59, 199]
  let r := l.2.of [9, 3]
  let w := r.2.next 5
  let c := w.2.one 6
  (⟨a.1, b.1, 1 + l.1, 1 + r.1, decide (0 < w.1), c.1, 1, 1, 0, 0⟩, c.2)
def Dice.more (n : Int) (l : List Road) (d : Dice) : Nat → List Road × Dice
  | 0 => (l, d)
  | k + 1 => if l.length < 10 then Dice.more n (if (d.road2 n).1.frm = (d.road2 n).1.to then l else l ++ [(d.road2 n).1]) (d.road2 n).2 k else (l, d)

def Dice.mineN (d : Dice) : Nat := if d.L.length = 0 then 4 else (2 + (d.next 6).1).toNat
def Dice.mineP (d : Dice) : List Place × Dice := (d.next 6).2.placesN d.mineN
def Dice.mineR (d : Dice) : List Road × Dice := d.mineP.2.roadsN (d.mineN - 1)
def Dice.mineX (d : Dice) : List Road × Dice := Dice.more d.mineN d.mineR.1 (d.mineR.2.next 4).2 (d.mineR.2.next 4).1.toNat
def Dice.mine (d : Dice) : Mine × Dice := (⟨d.mineP.1, d.mineX.1⟩, d.mineX.2)

theorem Dice.placesN_light {d : Dice} (h : d.light) : ∀ n, (d.placesN n).2.light
  | 0 => h
  | n + 1 => by
    unfold Dice.placesN
    split
    · exact Dice.next_light (Dice.placesN_light h n) 4
    · exact Dice.one_light (Dice.next_light (Dice.placesN_light h n) 4) 6
theorem Dice.placesN_len (d : Dice) : ∀ n, (d.placesN n).1.length = n
  | 0 => rfl
  | n + 1 => by
    unfold Dice.placesN
    split <;> simp [d.placesN_len n]
theorem Dice.road1_light {d : Dice} (h : d.light) (i : Int) : (d.road1 i).2.light := Dice.of_light (Dice.of_light (Dice.next_light h _) _) _
theorem Dice.roadsN_light {d : Dice} (h : d.light) : ∀ n, (d.roadsN n).2.light
  | 0 => h
  | n + 1 => Dice.road1_light (Dice.roadsN_light h n) _
theorem Dice.roadsN_len (d : Dice) : ∀ n, (d.roadsN n).1.length = n
  | 0 => rfl
  | n + 1 => by simp [Dice.roadsN, d.roadsN_len n]
theorem Dice.road2_light {d : Dice} (h : d.light) (n : Int) : (d.road2 n).2.light := by
  unfold Dice.road2; simp only
  exact Dice.one_light (Dice.next_light (Dice.of_light (Dice.of_light (Dice.next_light (Dice.next_light h _) _) _) _) _) _
theorem Dice.more_light (n : Int) : ∀ (k : Nat) (l : List Road) {d : Dice}, d.light → (Dice.more n l d k).2.light
  | 0, l, d, h => h
  | k + 1, l, d, h => by
    unfold Dice.more
    split
    · exact Dice.more_light n k _ (Dice.road2_light h n)
    · exact h
theorem Dice.mine_light {d : Dice} (h : d.light) : d.mine.2.light :=
  Dice.more_light _ _ _ (Dice.next_light (Dice.roadsN_light (Dice.placesN_light (Dice.next_light h _) _) _) _)

abbrev roadBox : List D := [I 0, I 0, I 12, I 10, B true, B false, I 1, I 1, I 0, I 0]

theorem mine_loop1 (d : Dice) (hd : d.light) (n : Nat) (hn : n ≤ 8) (a b c e f : D) :
    exS CALL K.made_Dice_Mine_l1 ⟨[.bp 0 0, .bp 1 0, .bp 2 0, I n, I 0, a, b, c, e, f], [d.obj, .box [.nil, .nil], .box [.ref 3 0 0, .ref 4 0 0], .arr 2 false 0 [], .arr 10 false 0 []]⟩ =
    some (.exit 0, ⟨[.bp 0 0, .bp 1 0, .bp 2 0, I n, I n, .und, .und, .und, .und, .und], [(d.placesN n).2.obj, .box [.nil, .nil], .box [.ref 3 0 (d.placesN n).1.length, .ref 4 0 0], .arr 2 false 0 (((d.placesN n).1.map Place.e).map .t), .arr 10 false 0 []]⟩) := by
  refine loop_up (fun j => ⟨[.bp 0 0, .bp 1 0, .bp 2 0, I n, I j, .und, .und, .und, .und, .und], [(d.placesN j).2.obj, .box [.nil, .nil], .box [.ref 3 0 (d.placesN j).1.length, .ref 4 0 0], .arr 2 false 0 (((d.placesN j).1.map Place.e).map .t), .arr 10 false 0 []]⟩) n rfl ?_ ?_ (by simp)
  · intro j hj
    have ln := d.placesN_len j
    have lt := Dice.placesN_light hd j
    simp only [Dice.placesN]
    generalize d.placesN j = s at *
    obtain ⟨l, d1⟩ := s
    simp only at ln lt ⊢
    have h1 := next_ok d1 4 (by omega) lt
    have b1 := d1.next_lo 4
    have b2 := d1.next_hi (n := 4) (by omega)
    have l1 := Dice.next_light lt 4
    generalize d1.next 4 = a1 at *
    obtain ⟨x, d2⟩ := a1
    simp only at h1 b1 b2 l1 ⊢
    by_cases j0 : j = 0
    · subst j0
      simp (disch := omega) only [go_sem, K.made_Dice_Mine_l1b, h1, ↓reduceIte, Nat.reduceAdd, Nat.reduceSub]
    · have h2 := one_ok d2 6 (by omega) (by omega) l1
      simp (disch := omega) only [go_sem, K.made_Dice_Mine_l1b, h1, h2, j0, ↓reduceIte, Nat.reduceAdd, Nat.reduceSub]
  · simp (disch := omega) only [go_sem, K.made_Dice_Mine_l1b, ↓reduceIte]

theorem mine_loop2 (d : Dice) (hd : d.light) (n : Nat) (hn : n ≤ 8) (h1 : 1 ≤ n) (ps : List Place) (a b c e : D) :
    exS CALL K.made_Dice_Mine_l2 ⟨[.bp 0 0, .bp 1 0, .bp 2 0, I n, a, .bp 5 0, I 1, b, c, e], [d.obj, .box [.nil, .nil], .box [.ref 3 0 ps.length, .ref 4 0 0], .arr 2 false 0 ((ps.map Place.e).map .t), .arr 10 false 0 [], .box roadBox]⟩ =
    some (.exit 2, ⟨[.bp 0 0, .bp 1 0, .bp 2 0, I n, .und, .bp 5 0, I n, .und, .und, .und], [(d.roadsN (n - 1)).2.obj, .box [.nil, .nil], .box [.ref 3 0 ps.length, .ref 4 0 (d.roadsN (n - 1)).1.length], .arr 2 false 0 ((ps.map Place.e).map .t), .arr 10 false 0 (((d.roadsN (n - 1)).1.map Road.e).map .t), .box roadBox]⟩) := by
  refine loop_up (fun j => ⟨[.bp 0 0, .bp 1 0, .bp 2 0, I n, .und, .bp 5 0, I (j + 1), .und, .und, .und], [(d.roadsN j).2.obj, .box [.nil, .nil], .box [.ref 3 0 ps.length, .ref 4 0 (d.roadsN j).1.length], .arr 2 false 0 ((ps.map Place.e).map .t), .arr 10 false 0 (((d.roadsN j).1.map Road.e).map .t), .box roadBox]⟩) (n - 1) rfl ?_ ?_ (by simp)
  · intro j hj
    have ln := d.roadsN_len j
    have lt := Dice.roadsN_light hd j
    simp only [Dice.roadsN]
    generalize d.roadsN j = s at *
    obtain ⟨l, d1⟩ := s
    simp only [Dice.road1] at ln lt ⊢
    have h1 := next_ok d1 (min ((j : Int) + 1) 2) (by omega) lt
    have b1 := d1.next_lo (min ((j : Int) + 1) 2)
    have b2 := d1.next_hi (n := min ((j : Int) + 1) 2) (by omega)
    have l1 := Dice.next_light lt (min ((j : Int) + 1) 2)
    generalize d1.next (min ((j : Int) + 1) 2) = a1 at *
    obtain ⟨x, d2⟩ := a1
    simp only at h1 b1 b2 l1 ⊢
    have h2 := of_ok d2 [11, 59, 119, 4] (by simp) (by simp) l1
    have m2 := d2.of_mem (l := [11, 59, 119, 4]) (by simp)
    have l2 := Dice.of_light l1 [11, 59, 119, 4]
    generalize d2.of [11, 59, 119, 4] = a2 at *
    obtain ⟨y, d3⟩ := a2
    simp only [tL, List.map_cons, List.map_nil] at h2 m2 l2 ⊢
    have h3 := of_ok d3 [9, 3, 19] (by simp) (by simp) l2
    have m3 := d3.of_mem (l := [9, 3, 19]) (by simp)
    generalize d3.of [9, 3, 19] = a3 at *
    obtain ⟨z, d4⟩ := a3
    simp only [tL, List.map_cons, List.map_nil, List.mem_cons, List.not_mem_nil, or_false] at h3 m2 m3 ⊢
    simp (disch := omega) only [go_sem, K.made_Dice_Mine_l2b, h1, h2, h3, ↓reduceIte, Nat.reduceAdd, Nat.reduceSub]
  · simp (disch := omega) only [go_sem, K.made_Dice_Mine_l2b, ↓reduceIte]
    rw [show ((n - 1 : Nat) : Int) + 1 = n by omega]

abbrev mineH (d : Dice) (ps : List Place) (l : List Road) : Heap := [d.obj, .box [.nil, .nil], .box [.ref 3 0 ps.length, .ref 4 0 l.length], .arr 2 false 0 ((ps.map Place.e).map .t), .arr 10 false 0 ((l.map Road.e).map .t), .box roadBox]

theorem mine_round (d : Dice) (hd : d.light) (n : Int) (hn : 1 ≤ n) (hn2 : n ≤ 8) (ps : List Place) (l : List Road) (hl : l.length < 10) (k : Nat) (hk : k ≤ 10) :
    roundC true [4, 6, 7, 9] 6 (exS CALL K.made_Dice_Mine_l3b ⟨[.bp 0 0, .bp 1 0, .bp 2 0, I n, .und, .bp 5 0, .und, .und, I (k + 1), .und], mineH d ps l⟩) =
    some ⟨[.bp 0 0, .bp 1 0, .bp 2 0, I n, .und, .bp 5 0, .und, .und, I k, .und], mineH (d.road2 n).2 ps (if (d.road2 n).1.frm = (d.road2 n).1.to then l else l ++ [(d.road2 n).1])⟩ := by
  unfold Dice.road2 mineH
  simp only
  have h1 := next_ok d n (by omega) hd
  have l1 := Dice.next_light hd n
  generalize d.next n = a1 at *
  obtain ⟨x1, d1⟩ := a1
  simp only at h1 l1 ⊢
  have h2 := next_ok d1 n (by omega) l1
  have l2 := Dice.next_light l1 n
  generalize d1.next n = a2 at *
  obtain ⟨x2, d2⟩ := a2
  simp only at h2 l2 ⊢
  have h3 := of_ok d2 [11, 59, 199] (by simp) (by simp) l2
  have m3 := d2.of_mem (l := [11, 59, 199]) (by simp)
  have l3 := Dice.of_light l2 [11, 59, 199]
  generalize d2.of [11, 59, 199] = a3 at *
  obtain ⟨x3, d3⟩ := a3
  simp only [tL, List.map_cons, List.map_nil] at h3 m3 l3 ⊢
  have h4 := of_ok d3 [9, 3] (by simp) (by simp) l3
  have m4 := d3.of_mem (l := [9, 3]) (by simp)
  have l4 := Dice.of_light l3 [9, 3]
  generalize d3.of [9, 3] = a4 at *
  obtain ⟨x4, d4⟩ := a4
  simp only [tL, List.map_cons, List.map_nil] at h4 m4 l4 ⊢
  have h5 := next_ok d4 5 (by omega) l4
  have l5 := Dice.next_light l4 5
  generalize d4.next 5 = a5 at *
  obtain ⟨x5, d5⟩ := a5
  simp only at h5 l5 ⊢
  have h6 := one_ok d5 6 (by omega) (by omega) l5
  generalize d5.one 6 = a6 at *
  obtain ⟨x6, d6⟩ := a6
  simp only [List.mem_cons, List.not_mem_nil, or_false] at h6 m3 m4 ⊢
  by_cases e : x1 = x2
  · simp (disch := omega) only [go_sem, K.made_Dice_Mine_l3b, h1, h2, h3, h4, h5, h6, e, ↓reduceIte, Nat.reduceAdd, Nat.reduceSub]
  · simp (disch := omega) only [go_sem, K.made_Dice_Mine_l3b, h1, h2, h3, h4, h5, h6, e, ↓reduceIte, Nat.reduceAdd, Nat.reduceSub]

theorem mine_loop3 (n : Int) (hn : 1 ≤ n) (hn2 : n ≤ 8) (ps : List Place) : ∀ (k : Nat) (d : Dice) (l : List Road), d.light → l.length ≤ 10 → k ≤ 10 →
    ∃ z : Int, loopC true [4, 6, 7, 9] (exS CALL K.made_Dice_Mine_l3b) ⟨[.bp 0 0, .bp 1 0, .bp 2 0, I n, .und, .bp 5 0, .und, .und, I k, .und], mineH d ps l⟩ =
    some (.exit 4, ⟨[.bp 0 0, .bp 1 0, .bp 2 0, I n, .und, .bp 5 0, .und, .und, I z, .und], mineH (Dice.more n l d k).2 ps (Dice.more n l d k).1⟩)
  | 0, d, l, hd, hl, hk => by
    refine ⟨0, loopC_exit ?_ (by simp)⟩
    simp (disch := omega) only [go_sem, K.made_Dice_Mine_l3b, Dice.more, ↓reduceIte, Nat.reduceAdd, Nat.reduceSub]
  | k + 1, d, l, hd, hl, hk => by
    by_cases h : l.length < 10
    · have hr := mine_round d hd n hn hn2 ps l h k (by omega)
      obtain ⟨z, hz⟩ := mine_loop3 n hn hn2 ps k (d.road2 n).2 (if (d.road2 n).1.frm = (d.road2 n).1.to then l else l ++ [(d.road2 n).1]) (Dice.road2_light hd n) (by split <;> (try rw [List.length_append, List.length_singleton]) <;> omega) (by omega)
      refine ⟨z, loopC_step hr ?_⟩
      rw [hz]
      simp only [Dice.more, if_pos h]
    · refine ⟨(k : Int) + 1, loopC_exit ?_ (by simp)⟩
      simp (disch := omega) only [go_sem, K.made_Dice_Mine_l3b, Dice.more, ↓reduceIte, Nat.reduceAdd, Nat.reduceSub]

theorem Dice.more_len (n : Int) : ∀ (k : Nat) (l : List Road) (d : Dice), l.length ≤ 10 → (Dice.more n l d k).1.length ≤ 10
  | 0, l, d, h => h
  | k + 1, l, d, h => by
    unfold Dice.more
    split
    · exact Dice.more_len n k _ _ (by split <;> (try rw [List.length_append, List.length_singleton]) <;> omega)
    · exact h

theorem Dice.mineN_bd (d : Dice) : 2 ≤ d.mineN ∧ d.mineN ≤ 7 := by
  unfold Dice.mineN
  have := d.next_lo 6
  have := d.next_hi (n := 6) (by omega)
  split <;> omega

theorem mine_ok (d : Dice) (hd : d.light) : CALL 0 N.made_Dice_Mine [.bp 0 0] [d.obj] = some (.t d.mine.1.e, [d.mine.2.obj]) := by
  refine CALL_of K.t_made_Dice_Mine rfl ?_
  have nb := d.mineN_bd
  unfold Dice.mine
  have h0 := next_ok d 6 (by omega) hd
  have l0 := Dice.next_light hd 6
  have b1 := d.next_lo 6
  have b2 := d.next_hi (n := 6) (by omega)
  have hL := d.next_L 6
  have hN : (d.mineN : Int) = if d.L.length = 0 then 4 else 2 + (d.next 6).1 := by unfold Dice.mineN; split <;> omega
  have e1 : d.mineX = Dice.more d.mineN d.mineR.1 (d.mineR.2.next 4).2 (d.mineR.2.next 4).1.toNat := rfl
  have e2 : d.mineR = d.mineP.2.roadsN (d.mineN - 1) := rfl
  have e3 : d.mineP = (d.next 6).2.placesN d.mineN := rfl
  generalize d.mineX = X at *
  generalize d.mineR = R at *
  generalize d.mineP = P at *
  generalize d.mineN = n at *
  generalize d.next 6 = a at *
  obtain ⟨x, d1⟩ := a
  simp only at h0 l0 b1 b2 hL hN e3 ⊢
  have q1 := mine_loop1 d1 l0 n (by omega)
  have lP := Dice.placesN_light l0 n
  have nP := d1.placesN_len n
  rw [← e3] at q1 lP nP
  obtain ⟨ps, d2⟩ := P
  simp only at q1 lP nP e2 ⊢
  have q2 := mine_loop2 d2 lP n (by omega) (by omega) ps
  have lR := Dice.roadsN_light lP (n - 1)
  have nR := d2.roadsN_len (n - 1)
  rw [← e2] at q2 lR nR
  obtain ⟨rs, d3⟩ := R
  simp only at q2 lR nR e1 ⊢
  have h4 := next_ok d3 4 (by omega) lR
  have l4 := Dice.next_light lR 4
  have b3 := d3.next_lo 4
  have b4 := d3.next_hi (n := 4) (by omega)
  generalize d3.next 4 = c at *
  obtain ⟨y, d4⟩ := c
  simp only at h4 l4 b3 b4 e1 ⊢
  obtain ⟨z, q3⟩ := mine_loop3 n (by omega) (by omega) ps y.toNat d4 rs l4 (by omega) (by omega)
  rw [← e1] at q3
  have q3 := loop_is (vs := [.bp 0 0, .bp 1 0, .bp 2 0, I n, .und, .bp 5 0, I n, .und, I y.toNat, .und]) q3
  have ey : (y.toNat : Int) = y := by omega
  rw [ey] at q3
  obtain ⟨xs, d5⟩ := X
  have fin : ∀ k : Int, (exS CALL K.made_Dice_Mine_l3 ⟨[.bp 0 0, .bp 1 0, .bp 2 0, I n, .und, .bp 5 0, I n, .und, I y, .und], mineH d4 ps rs⟩) =
      some (.exit 4, ⟨[.bp 0 0, .bp 1 0, .bp 2 0, I n, .und, .bp 5 0, .und, .und, I z, .und], mineH d5 ps xs⟩) := fun _ => q3
  clear q3
  have q3 := fin 0
  clear fin
  simp only [mineH] at q3
  by_cases c0 : d.L.length = 0
  · rw [if_pos c0] at hN
    obtain rfl : n = 4 := by omega
    have e4 : ((4 : Nat) : Int) = 4 := rfl
    simp only [e4] at q1 q2 q3
    simp (disch := omega) only [go_sem, K.made_Dice_Mine, ↓reduceIte, h0, c0, q1, q2, q3, h4, hL, Nat.reduceAdd, Nat.reduceSub]
  · rw [if_neg c0] at hN
    simp (disch := omega) only [go_sem, K.made_Dice_Mine, ↓reduceIte, h0, c0, q1, q2, q3, h4, hL, hN.symm, Nat.reduceAdd, Nat.reduceSub]

theorem Dice.road1_ok (d : Dice) {n : Nat} {i : Int} (h1 : 1 ≤ i) (h2 : i < n) : (d.road1 i).1.ok n := by
  have b1 := d.next_lo (min i 2)
  have b2 := d.next_hi (n := min i 2) (by omega)
  have m2 := (d.next (min i 2)).2.of_mem (l := [11, 59, 119, 4]) (by simp)
  have m3 := ((d.next (min i 2)).2.of [11, 59, 119, 4]).2.of_mem (l := [9, 3, 19]) (by simp)
  simp only [List.mem_cons, List.not_mem_nil, or_false] at m2 m3
  unfold Dice.road1
  constructor <;> (simp only; omega)

theorem Dice.roadsN_ok (d : Dice) {n : Nat} : ∀ k, k + 1 ≤ n → ∀ r ∈ (d.roadsN k).1, r.ok n
  | 0, _, r, hr => by simp [Dice.roadsN] at hr
  | k + 1, h, r, hr => by
    simp only [Dice.roadsN, List.mem_append, List.mem_singleton] at hr
    rcases hr with hr | rfl
    · exact d.roadsN_ok k (by omega) r hr
    · exact Dice.road1_ok _ (by omega) (by omega)

theorem Dice.road2_ok (d : Dice) {n : Nat} (hn : 1 ≤ n) (hne : (d.road2 n).1.frm ≠ (d.road2 n).1.to) : (d.road2 n).1.ok n := by
  unfold Dice.road2 at hne ⊢
  simp only at hne ⊢
  have b1 := d.next_lo n
  have b2 := d.next_hi (n := (n : Int)) (by omega)
  generalize d.next n = a1 at *
  obtain ⟨x1, d1⟩ := a1
  simp only at *
  have c1 := d1.next_lo n
  have c2 := d1.next_hi (n := (n : Int)) (by omega)
  generalize d1.next n = a2 at *
  obtain ⟨x2, d2⟩ := a2
  simp only at *
  have m3 := d2.of_mem (l := [11, 59, 199]) (by simp)
  generalize d2.of [11, 59, 199] = a3 at *
  obtain ⟨x3, d3⟩ := a3
  simp only at *
  have m4 := d3.of_mem (l := [9, 3]) (by simp)
  generalize d3.of [9, 3] = a4 at *
  obtain ⟨x4, d4⟩ := a4
  simp only [List.mem_cons, List.not_mem_nil, or_false] at m3 m4 ⊢
  constructor <;> (simp only; omega)

theorem Dice.more_ok {n : Nat} (hn : 1 ≤ n) : ∀ (k : Nat) (l : List Road) (d : Dice), (∀ r ∈ l, r.ok n) → ∀ r ∈ (Dice.more n l d k).1, r.ok n
  | 0, l, d, h => h
  | k + 1, l, d, h => by
    unfold Dice.more
    split
    · refine Dice.more_ok hn k _ _ ?_
      split
      · exact h
      · rename_i hne
        intro r hr
        rcases List.mem_append.1 hr with hr | hr
        · exact h r hr
        · rw [List.mem_singleton.1 hr]; exact d.road2_ok hn hne
    · exact h

theorem Dice.more_len2 (n : Int) : ∀ (k : Nat) (l : List Road) (d : Dice), l.length ≤ (Dice.more n l d k).1.length
  | 0, l, d => Nat.le_refl _
  | k + 1, l, d => by
    unfold Dice.more
    split
    · refine Nat.le_trans ?_ (Dice.more_len2 n k _ _)
      split <;> (try rw [List.length_append]) <;> omega
    · exact Nat.le_refl _

theorem Dice.placesN_h (d : Dice) : ∀ k, ∀ p ∈ (d.placesN k).1, -30 ≤ p.h ∧ p.h ≤ 0
  | 0, p, hp => by simp [Dice.placesN] at hp
  | k + 1, p, hp => by
    have b1 := (d.placesN k).2.next_lo 4
    have b2 := (d.placesN k).2.next_hi (n := 4) (by omega)
    unfold Dice.placesN at hp
    split at hp
    all_goals
      simp only [List.mem_append, List.mem_singleton] at hp
      rcases hp with hp | rfl
      · exact d.placesN_h k p hp
      · simp only; omega

theorem Dice.mine_places (d : Dice) : d.mine.1.places.length = d.mineN := Dice.placesN_len _ _
theorem Dice.mine_roads (d : Dice) : d.mineN - 1 ≤ d.mine.1.roads.length ∧ d.mine.1.roads.length ≤ 10 := by
  have nb := d.mineN_bd
  have e : d.mineR.1.length = d.mineN - 1 := Dice.roadsN_len _ _
  constructor
  · rw [← e]; exact Dice.more_len2 _ _ _ _
  · exact Dice.more_len _ _ _ _ (by omega)
theorem Dice.mine_good (d : Dice) : d.mine.1.ok := by
  have nb := d.mineN_bd
  have h1 := d.mine_places
  have h2 := d.mine_roads
  refine ⟨by omega, by omega, fun p hp => ?_, ?_⟩
  · have := Dice.placesN_h _ _ p hp; omega
  · rw [h1]
    exact Dice.more_ok (by omega) _ _ _ (Dice.roadsN_ok _ _ (by omega))

end Go.Ev

/- The border of an area; barred mines; sealed whereabouts. -/
namespace Go.Ev
open Go
variable [Lib] [Has1] [Has2] [Has3] [Has4]

def bordB (m : Mine) (area : List Int) (r : Nat) : Bool := !(nth m.roads r).closed && (decide (0 ≤ walkT m r false 6 9 12) || decide (0 ≤ walkT m r true 6 9 12)) && (decide ((nth m.roads r).frm ∈ area) != decide ((nth m.roads r).to ∈ area))
def bordF (m : Mine) (area : List Int) : List Int := whereF m.roads.length (bordB m area)

theorem border_ok {m : Mine} (h : m.ok) (area : List Int) (ha : area.length ≤ 1000000) : CALL 0 N.ref32_Border [.t m.e, .t (tL area)] [] = some (.t (tL (bordF m area)), []) := by
  refine CALL_of K.t_ref32_Border rfl ?_
  have nr := h.nr
  have loop : ∀ a b c d : D, exS CALL K.ref32_Border_l1 ⟨[a, .t (tL area), .bp 0 0, b, .ref 1 0 0, I 0, c, d], [.box (mineCells m), .arr 1 false 0 []]⟩ =
      some (.exit 0, ⟨[.und, .t (tL area), .bp 0 0, .und, .ref 1 0 (bordF m area).length, I m.roads.length, .und, .und], [.box (mineCells m), .arr 1 false 0 (((bordF m area).map (T.int .i64)).map .t)]⟩) := by
    intro a b c d
    refine loop_up (fun r => ⟨[.und, .t (tL area), .bp 0 0, .und, .ref 1 0 (whereF r (bordB m area)).length, I r, .und, .und], [.box (mineCells m), .arr 1 false 0 (((whereF r (bordB m area)).map (T.int .i64)).map .t)]⟩) m.roads.length rfl ?_ ?_ (by simp)
    · intro r hr
      have g : (m.roads.map Road.e)[r]? = some (nth m.roads r).e := map_nth _ hr
      have t1 := time_ok h r hr false
      have t2 := time_ok h r hr true
      have h1 := has_ok area (nth m.roads r).frm (by omega)
      have h2 := has_ok area (nth m.roads r).to (by omega)
      have ws := whereF_succ r (bordB m area)
      have wl := whereF_len r (bordB m area)
      have hb : bordB m area r = (!(nth m.roads r).closed && (decide (0 ≤ walkT m r false 6 9 12) || decide (0 ≤ walkT m r true 6 9 12)) && (decide ((nth m.roads r).frm ∈ area) != decide ((nth m.roads r).to ∈ area))) := rfl
      generalize bordB m area = p at *
      generalize walkT m r false 6 9 12 = w1 at *
      generalize walkT m r true 6 9 12 = w2 at *
      generalize nth m.roads r = x at *
      generalize whereF r p = out at *
      obtain ⟨frm, to, len, ar, walk, closed, rl, rh, ll, lh⟩ := x
      simp only at *
      generalize decide (frm ∈ area) = b1 at *
      generalize decide (to ∈ area) = b2 at *
      obtain ⟨places, roads⟩ := m
      simp only [mineCells] at *
      by_cases c1 : 0 ≤ w1 <;> by_cases c2 : 0 ≤ w2 <;> cases closed <;> cases b1 <;> cases b2 <;> simp only [c1, c2, decide_true, decide_false, Bool.not_true, Bool.not_false, Bool.true_or, Bool.or_true, Bool.or_false, Bool.false_or, Bool.true_and, Bool.and_true, Bool.false_and, Bool.and_false, bne_self_eq_false, Bool.bne_true, Bool.bne_false] at hb <;> simp only [hb, if_true, if_false, Bool.false_eq_true] at ws <;>
        simp (disch := omega) only [go_sem, K.ref32_Border_l1b, ↓reduceIte, g, t1, t2, h1, h2, ws, Nat.reduceAdd, Nat.reduceSub]
    · simp (disch := omega) only [go_sem, K.ref32_Border_l1b, ↓reduceIte, bordF, mineCells, Nat.reduceAdd, Nat.reduceSub]
  have bl := whereF_len m.roads.length (bordB m area)
  simp only [bordF] at *
  generalize whereF m.roads.length (bordB m area) = L at *
  obtain ⟨places, roads⟩ := m
  simp only [mineCells] at *
  simp (disch := omega) only [go_sem, K.ref32_Border, ↓reduceIte, loop, Nat.reduceAdd, Nat.reduceSub]

/- barred mines -/
def unwalk (r : Road) : Road := { r with walk := false }
def barN (roads : List Road) (l : List Int) : Nat → List Road
  | 0 => roads
  | k + 1 => (barN roads l k).set (nth l k).toNat (unwalk (nth (barN roads l k) (nth l k).toNat))
theorem barN_len (roads : List Road) (l : List Int) : ∀ k, (barN roads l k).length = roads.length
  | 0 => rfl
  | k + 1 => by simp only [barN, List.length_set, barN_len roads l k]
def barMine (m : Mine) (l : List Int) : Mine := ⟨m.places, barN m.roads l l.length⟩
def barredF (m : Mine) (l : List Int) : Mine × Int := if setB l m.roads.length = false then (⟨[], []⟩, 4) else (barMine m l, 0)

theorem copyMine_ok1 (m : Mine) (hp : m.places.length ≤ 1000000) (hr : m.roads.length ≤ 1000000) : CALL 1 N.ref31_Copy [.t m.e] [] = some (.agg [.ref 0 0 m.places.length, .ref 1 0 m.roads.length], [.arr 2 false 0 ((m.places.map Place.e).map .t), .arr 10 false 0 ((m.roads.map Road.e).map .t)]) := by
  refine CALL_of K.t_ref31_Copy rfl ?_
  obtain ⟨places, roads⟩ := m
  simp only at *
  simp (disch := omega) only [go_sem, K.ref31_Copy, ↓reduceIte, Nat.reduceAdd, Nat.reduceSub]

theorem mapt_set (ts : List T) (i : Nat) (x : T) : (ts.map D.t).set i (.t x) = (ts.set i x).map .t := by simp

theorem setB_spec {l : List Int} {n : Int} (h : setB l n = true) {j : Nat} (hj : j < l.length) : 0 ≤ nth l j ∧ nth l j < n := by
  unfold setB at h
  rw [List.all_eq_true] at h
  have := h j (List.mem_range.2 hj)
  simp only [decide_eq_true_eq] at this
  exact ⟨this.1, this.2.1⟩

theorem barred_ok {m : Mine} (h : m.ok) (l : List Int) (hl : l.length ≤ 1000000) : CALL 0 N.ref32_Barred [.t m.e, .t (tL l)] [] = some (.tup [.t (barredF m l).1.e, I (barredF m l).2], []) := by
  refine CALL_of K.t_ref32_Barred rfl ?_
  have ck := check_ok h
  have st := set_ok l m.roads.length (by omega)
  have np := h.np
  have nr := h.nr
  have cp := copyMine_ok1 m (by omega) (by omega)
  unfold barredF
  cases hs : setB l m.roads.length with
  | false =>
    rw [hs] at st
    obtain ⟨places, roads⟩ := m
    simp only at *
    simp (disch := omega) only [go_sem, K.ref32_Barred, ↓reduceIte, ck, st, Nat.reduceAdd, Nat.reduceSub, List.map_nil]
    rfl
  | true =>
    rw [hs] at st
    have sp := fun j hj => setB_spec (j := j) hs hj
    clear hs
    obtain ⟨places, roads⟩ := m
    simp only at *
    have loop : ∀ a c : D, exS CALL K.ref32_Barred_l1 ⟨[a, .t (tL l), .bp 0 0, .bp 1 0, c, I 0], [.box [.ref 2 0 places.length, .ref 3 0 roads.length], .box [.nil, .nil], .arr 2 false 0 ((places.map Place.e).map .t), .arr 10 false 0 ((roads.map Road.e).map .t)]⟩ =
        some (.exit 0, ⟨[.und, .t (tL l), .bp 0 0, .bp 1 0, .und, I l.length], [.box [.ref 2 0 places.length, .ref 3 0 roads.length], .box [.nil, .nil], .arr 2 false 0 ((places.map Place.e).map .t), .arr 10 false 0 (((barN roads l l.length).map Road.e).map .t)]⟩) := by
      intro a c
      refine loop_up (fun k => ⟨[.und, .t (tL l), .bp 0 0, .bp 1 0, .und, I k], [.box [.ref 2 0 places.length, .ref 3 0 roads.length], .box [.nil, .nil], .arr 2 false 0 ((places.map Place.e).map .t), .arr 10 false 0 (((barN roads l k).map Road.e).map .t)]⟩) l.length rfl ?_ ?_ (by simp)
      · intro k hk
        obtain ⟨s1, s2⟩ := sp k hk
        have bl := barN_len roads l k
        have bl2 := barN_len roads l (k + 1)
        simp only [barN] at *
        generalize hy : nth l k = y at *
        obtain ⟨i, rfl⟩ := Int.eq_ofNat_of_zero_le s1
        simp only [Int.toNat_natCast] at *
        have gx : (nth (barN roads l k) i) = (nth (barN roads l k) i) := rfl
        generalize hR : barN roads l k = R at *
        have g : ((R.map Road.e).map D.t)[i]? = some (.t (nth R i).e) := map2_nth _ _ (by omega)
        have hset : ((R.set i (unwalk (nth R i))).map Road.e).map D.t = ((R.map Road.e).map D.t).set i (.t (unwalk (nth R i)).e) := by simp
        rw [hset]
        generalize nth R i = x at *
        obtain ⟨frm, to, len, ar, walk, closed, rl, rh, ll, lh⟩ := x
        simp only [unwalk] at *
        simp (disch := omega) only [go_sem, K.ref32_Barred_l1b, ↓reduceIte, hy, g, mapt_set, Nat.reduceAdd, Nat.reduceSub]
      · have bl := barN_len roads l l.length
        simp (disch := omega) only [go_sem, K.ref32_Barred_l1b, ↓reduceIte, Nat.reduceAdd, Nat.reduceSub]
    have bl := barN_len roads l l.length
    simp only [barMine]
    generalize barN roads l l.length = R at *
    simp (disch := omega) only [go_sem, K.ref32_Barred, ↓reduceIte, ck, st, cp, loop, Nat.reduceAdd, Nat.reduceSub, Bool.true_eq_false]

theorem unwalk_ok {n : Nat} {r : Road} (h : r.ok n) : (unwalk r).ok n := ⟨h.f0, h.f1, h.t0, h.t1, h.ne, h.l0, h.l1, h.a0, h.a1, h.r0, h.r1, h.r2, h.i0, h.i1, h.i2⟩
theorem barN_ok {n : Nat} {roads : List Road} (h : ∀ r ∈ roads, r.ok n) {l : List Int} (hl : ∀ j, j < l.length → 0 ≤ nth l j ∧ nth l j < roads.length) : ∀ k, k ≤ l.length → ∀ r ∈ barN roads l k, r.ok n
  | 0, _, r, hr => h r hr
  | k + 1, hk, r, hr => by
    have ih := barN_ok h hl k (by omega)
    have bl := barN_len roads l k
    obtain ⟨h1, h2⟩ := hl k (by omega)
    simp only [barN] at hr
    rcases List.mem_or_eq_of_mem_set hr with h3 | h3
    · exact ih r h3
    · rw [h3]; exact unwalk_ok (ih _ (nth_mem (by omega)))
theorem barMine_ok {m : Mine} (h : m.ok) {l : List Int} (hs : setB l m.roads.length = true) : (barMine m l).ok :=
  ⟨h.np, by show (barN m.roads l l.length).length ≤ 128; rw [barN_len]; exact h.nr, h.hs, barN_ok h.rs (fun j hj => setB_spec hs hj) l.length (Nat.le_refl _)⟩

/- a sealed whereabouts -/
def sealN (l : List Int) (t : Int) : Nat → List Int
  | 0 => l
  | p + 1 => if t < nth (sealN l t p) p then (sealN l t p).set p never else sealN l t p
theorem sealN_len (l : List Int) (t : Int) : ∀ p, (sealN l t p).length = l.length
  | 0 => rfl
  | p + 1 => by unfold sealN; split <;> simp only [List.length_set, sealN_len l t p]
def sealF (m : Mine) (w : Wh) (t : Int) : Wh := ⟨t, closeF m t none (sealN w.frm t w.frm.length)⟩
theorem sealN_bnd {l : List Int} (h : bnd l) (t : Int) : ∀ p, bnd (sealN l t p)
  | 0 => h
  | p + 1 => by
    have ih := sealN_bnd h t p
    unfold sealN
    split
    · intro x hx
      rcases List.mem_or_eq_of_mem_set hx with h1 | h1
      · exact ih x h1
      · subst h1; decide
    · exact ih

theorem seal1_ok {m : Mine} (h : m.ok) (w : Wh) (hw : w.frm.length = m.places.length) (hb : bnd w.frm) (t : Int) (ht : inT t) : CALL 0 N.ref32_seal [.t m.e, .t w.e, I t] [] = some (.t (sealF m w t).e, []) := by
  refine CALL_of K.t_ref32_seal rfl ?_
  have np := h.np
  have cl := Close_ok h t ht (sealN w.frm t w.frm.length) (by rw [sealN_len]; exact hw) (sealN_bnd hb t _)
  unfold sealF
  obtain ⟨time, frm⟩ := w
  simp only at *
  have loop : ∀ a b c : D, exS CALL K.ref32_seal_l1 ⟨[a, b, I t, .bp 0 0, c, .bp 2 0, .ref 3 0 frm.length, I 0], [.box (mineCells m), .box [I time, .t (tL frm)], .box [I 0, .nil], .arr 1 false 0 (ints frm)]⟩ =
      some (.exit 0, ⟨[.und, .und, I t, .bp 0 0, .und, .bp 2 0, .ref 3 0 frm.length, I frm.length], [.box (mineCells m), .box [I time, .t (tL frm)], .box [I 0, .nil], .arr 1 false 0 (ints (sealN frm t frm.length))]⟩) := by
    intro a b c
    refine loop_up (fun p => ⟨[.und, .und, I t, .bp 0 0, .und, .bp 2 0, .ref 3 0 frm.length, I p], [.box (mineCells m), .box [I time, .t (tL frm)], .box [I 0, .nil], .arr 1 false 0 (ints (sealN frm t p))]⟩) frm.length rfl ?_ ?_ (by simp)
    · intro p hp
      have sl := sealN_len frm t p
      have sl2 := sealN_len frm t (p + 1)
      simp only [sealN] at *
      generalize sealN frm t p = L at *
      have g : ((L.map (T.int .i64)).map D.t)[p]? = some (.t (tI (nth L p))) := map2_nth _ _ (by omega)
      obtain ⟨places, roads⟩ := m
      simp only [mineCells, ints] at *
      by_cases c : t < nth L p
      · have e : (L.set p never).map (T.int .i64) = (L.map (T.int .i64)).set p (.int .i64 1099511627776) := by rw [List.map_set]
        rw [if_pos c] at *
        rw [e]
        simp (disch := omega) only [go_sem, K.ref32_seal_l1b, ↓reduceIte, c, g, mapt_set, sl, Nat.reduceAdd, Nat.reduceSub]
      · simp (disch := omega) only [go_sem, K.ref32_seal_l1b, ↓reduceIte, c, g, mapt_set, sl, Nat.reduceAdd, Nat.reduceSub]
    · have sl := sealN_len frm t frm.length
      generalize sealN frm t frm.length = L at *
      obtain ⟨places, roads⟩ := m
      simp only [mineCells, ints] at *
      simp (disch := omega) only [go_sem, K.ref32_seal_l1b, ↓reduceIte, sl, Nat.reduceAdd, Nat.reduceSub]
  have sl := sealN_len frm t frm.length
  generalize sealN frm t frm.length = L at *
  generalize closeF m t none L = r at *
  obtain ⟨places, roads⟩ := m
  simp only [mineCells, ints] at *
  simp (disch := omega) only [go_sem, K.ref32_seal, ↓reduceIte, loop, cl, Nat.reduceAdd, Nat.reduceSub]
end Go.Ev

/- Sealed beliefs: what stays. -/
namespace Go.Ev
open Go
variable [Lib] [Has1] [Has2] [Has3] [Has4]

/-- What is frozen of a value depends on the arrays that it reaches. -/
theorem frz_congr {H H' : Heap} : ∀ (k : Nat) (d : D), (∀ i ∈ arrs H k d, ∃ sz pin pin' ep es, H[i]? = some (.arr sz pin ep es) ∧ H'[i]? = some (.arr sz pin' ep es)) → frz H' k d = frz H k d ∧ arrs H' k d = arrs H k d := by
  intro k
  induction k with
  | zero => intro d _; cases d <;> exact ⟨rfl, rfl⟩
  | succ k ih =>
    intro d h
    have list : ∀ es : List D, (∀ i ∈ es.flatMap (arrs H k), ∃ sz pin pin' ep es, H[i]? = some (.arr sz pin ep es) ∧ H'[i]? = some (.arr sz pin' ep es)) → mapO (frz H' k) es = mapO (frz H k) es ∧ es.flatMap (arrs H' k) = es.flatMap (arrs H k) := by
      intro es
      induction es with
      | nil => intro _; exact ⟨rfl, rfl⟩
      | cons e es ihl =>
        intro he
        obtain ⟨a1, a2⟩ := ih e fun i hi => he i (by simp [hi])
        obtain ⟨b1, b2⟩ := ihl fun i hi => he i (by rw [List.flatMap_cons]; exact List.mem_append_right _ hi)
        exact ⟨by simp only [mapO, a1, b1], by simp only [List.flatMap_cons, a2, b2]⟩
    cases d with
    | agg cs =>
      simp only [arrs] at h
      obtain ⟨a1, a2⟩ := list cs h
      exact ⟨by simp only [frz, a1], by simp only [arrs, a2]⟩
    | ref id ep n =>
      obtain ⟨sz, pin, pin', ep', es, e1, e2⟩ := h id (by simp [arrs])
      have : ∀ i ∈ es.flatMap (arrs H k), ∃ sz pin pin' ep es, H[i]? = some (.arr sz pin ep es) ∧ H'[i]? = some (.arr sz pin' ep es) := fun i hi => h i (by simp only [arrs, e1]; exact List.mem_cons_of_mem _ hi)
      obtain ⟨a1, a2⟩ := list es this
      refine ⟨?_, by simp only [arrs, e1, e2, a2]⟩
      simp only [frz, arrAt, e1, e2]
      by_cases c : ep = ep' ∧ n = es.length
      · simp only [if_pos c, Option.bind_some, a1]
      · simp only [if_neg c, Option.bind_none]
    | sub id ep n lo hi =>
      obtain ⟨sz, pin, pin', ep', es, e1, e2⟩ := h id (by simp [arrs])
      have : ∀ i ∈ es.flatMap (arrs H k), ∃ sz pin pin' ep es, H[i]? = some (.arr sz pin ep es) ∧ H'[i]? = some (.arr sz pin' ep es) := fun i hi => h i (by simp only [arrs, e1]; exact List.mem_cons_of_mem _ hi)
      obtain ⟨a1, a2⟩ := list es this
      have : ∀ i ∈ ((es.drop lo).take (hi - lo)).flatMap (arrs H k), ∃ sz pin pin' ep es, H[i]? = some (.arr sz pin ep es) ∧ H'[i]? = some (.arr sz pin' ep es) := fun i hi => by
        obtain ⟨e, he, hi⟩ := List.mem_flatMap.1 hi
        exact this i (List.mem_flatMap.2 ⟨e, List.mem_of_mem_drop (List.mem_of_mem_take he), hi⟩)
      obtain ⟨b1, b2⟩ := list _ this
      refine ⟨?_, by simp only [arrs, e1, e2, a2]⟩
      simp only [frz, arrAt, e1, e2]
      by_cases c : ep = ep' ∧ n = es.length
      · simp only [if_pos c, Option.bind_some, b1]
      · simp only [if_neg c, Option.bind_none]
    | _ => exact ⟨rfl, rfl⟩

theorem modify_at {H : Heap} {f : Obj → Obj} {i j : Nat} : (H.modify i f)[j]? = if i = j then H[j]?.map f else H[j]? := by
  rw [List.getElem?_modify]
  by_cases h : i = j
  · subst h; simp
  · simp [h]

theorem pin1_two (o : Obj) : pin1 (pin1 o) = pin1 o := by cases o <;> rfl

theorem pins_at : ∀ {A : List Nat} {H : Heap} {i : Nat}, (pins H A)[i]? = if i ∈ A then H[i]?.map pin1 else H[i]?
  | [], H, i => by simp [pins]
  | a :: A, H, i => by
    rw [pins, pins_at, modify_at]
    by_cases h1 : a = i
    · subst h1
      by_cases h2 : a ∈ A
      · simp only [h2, if_true, List.mem_cons, true_or]
        cases H[a]? <;> simp [pin1_two]
      · simp [h2]
    · by_cases h2 : i ∈ A
      · simp [h1, h2]
      · have : ¬ i = a := fun e => h1 e.symm
        simp [h1, h2, this]

theorem flatMap_eq {α β : Type} {f g : α → List β} : ∀ {l : List α}, (∀ x ∈ l, f x = g x) → l.flatMap f = l.flatMap g
  | [], _ => rfl
  | a :: l, h => by rw [List.flatMap_cons, List.flatMap_cons, h a List.mem_cons_self, flatMap_eq fun x hx => h x (List.mem_cons_of_mem _ hx)]
theorem pins_arr {A : List Nat} {H : Heap} {i sz ep : Nat} {pin : Bool} {es : List D} (h : H[i]? = some (.arr sz pin ep es)) : ∃ pin', (pins H A)[i]? = some (.arr sz pin' ep es) := by
  rw [pins_at]
  split
  · exact ⟨true, by rw [h]; rfl⟩
  · exact ⟨pin, h⟩
theorem pins_box {A : List Nat} {H : Heap} {i : Nat} {cs : List D} (h : H[i]? = some (.box cs)) : (pins H A)[i]? = some (.box cs) := by
  rw [pins_at]
  split
  · rw [h]; rfl
  · exact h

/-- The frozen form of the worlds, at any depth. -/
theorem Rp.frzK {H : Heap} {id : Nat} {es : List D} {fa fb : Nat → Nat} {out : List World} (hr : Rp H id es fa fb out) (k : Nat) :
    Go.Ev.frz H (k + 4) (.ref id 0 out.length) = some (.sl (out.map World.e)) ∧ arrs H (k + 4) (.ref id 0 out.length) = id :: (List.range out.length).flatMap (fun j => [fa j, fb j]) := by
  have hl := hr.len
  have key : ∀ (j : Nat) (hj : j < out.length), Go.Ev.frz H (k + 3) (.agg [.ref (fa j) 0 (nth out j).tags.length, .ref (fb j) 0 (nth out j).whr.length]) = some (nth out j).e ∧
      arrs H (k + 3) (.agg [.ref (fa j) 0 (nth out j).tags.length, .ref (fb j) 0 (nth out j).whr.length]) = [fa j, fb j] := by
    intro j hj
    have h1 := hr.ha j hj
    have h2 := hr.hb j hj
    simp (disch := omega) only [go_sem, h1, h2, ints, whs, ↓reduceIte]
  have hes : es = (List.range out.length).map (fun j => D.agg [.ref (fa j) 0 (nth out j).tags.length, .ref (fb j) 0 (nth out j).whr.length]) := by
    refine List.ext_getElem? fun j => ?_
    by_cases c : j < out.length
    · rw [hr.el j c, List.getElem?_map, List.getElem?_range c]; rfl
    · rw [List.getElem?_eq_none (by omega), List.getElem?_eq_none (by simp; omega)]
  have hout : out.map World.e = (List.range out.length).map (fun j => (nth out j).e) := by
    refine List.ext_getElem? fun j => ?_
    by_cases c : j < out.length
    · rw [map_nth _ c, List.getElem?_map, List.getElem?_range c]; rfl
    · rw [List.getElem?_eq_none (by simp; omega), List.getElem?_eq_none (by simp; omega)]
  constructor
  · simp only [Go.Ev.frz, arrAt, hr.arr]
    rw [if_pos (by simp [hl]), Option.bind_some, hes, hout]
    rw [mapO_of (h := fun j => (nth out j).e) fun j hj => (key j (List.mem_range.1 hj)).1]; rfl
  · simp only [arrs, hr.arr, hes, List.flatMap_map]
    congr 1
    refine flatMap_eq fun j hj => (key j (List.mem_range.1 hj)).2
end Go.Ev

