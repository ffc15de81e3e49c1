/- Parts of the proof: see the text that holds the theorem. -/
import Derived.Test.YtddpkhnllojfpaaGreatZ5
set_option linter.all false
/- Chapter 26 of the references: sights. -/
namespace Go.Ev
open Go
variable [Lib] [Has1] [Has2]

@[go_sem] theorem allS_nil : ([] : List D).all scalarD = true := (rfl)
@[go_sem] theorem allS_cons (d : D) (r : List D) : (d :: r).all scalarD = (scalarD d && r.all scalarD) := (rfl)
@[go_sem] theorem scalarD_agg (cs : List T) : scalarD (.t (.agg cs)) = false := (rfl)
@[go_sem] theorem scalarD_sl (cs : List T) : scalarD (.t (.sl cs)) = false := (rfl)
@[go_sem] theorem scalarD_int (k : IntKind) (n : Int) : scalarD (.t (.int k n)) = true := (rfl)
@[go_sem] theorem scalarD_bool (b : Bool) : scalarD (.t (.bool b)) = true := (rfl)
@[go_sem] theorem set_wh (l : List Wh) (k : Nat) (a : Int) (b : List Int) : (List.map D.t (List.map Wh.e l)).set k (D.t (T.agg [tI a, tL b])) = List.map D.t (List.map Wh.e (l.set k ⟨a, b⟩)) := by
  rw [List.map_set, List.map_set]

/-- What a sight makes of one world: whether it is left out, and the new one. -/
def seeW (m : Mine) (tag : Int) (l : List Int) (a b : Int) (x : World) : Wh × Int := seeF m (nth x.whr (bearerF x.tags tag).toNat) l a b
def putW (tag : Int) (x : World) (w : Wh) : World := ⟨x.tags, x.whr.set (bearerF x.tags tag).toNat w⟩
def stepW (tag : Int) (r : Wh × Int) (x : World) (out : List World) : List World :=
  if r.2 = 43 then out else out ++ [if r.2 = 0 then putW tag x r.1 else x]
def seeNb (m : Mine) (tag : Int) (l : List Int) (a b : Int) (ws : List World) : Nat → List World
  | 0 => []
  | j + 1 => stepW tag (seeW m tag l a b (nth ws j)) (nth ws j) (seeNb m tag l a b ws j)

theorem stepW_len (tag : Int) (r : Wh × Int) (x : World) (out : List World) : (stepW tag r x out).length ≤ out.length + 1 := by
  unfold stepW; split <;> simp
theorem seeNb_len (m : Mine) (tag : Int) (l : List Int) (a b : Int) (ws : List World) : ∀ j, (seeNb m tag l a b ws j).length ≤ j
  | 0 => by simp [seeNb]
  | j + 1 => by
    have := seeNb_len m tag l a b ws j
    have := stepW_len tag (seeW m tag l a b (nth ws j)) (nth ws j) (seeNb m tag l a b ws j)
    simp only [seeNb]; omega

abbrev seeH (m : Mine) (ws out : List World) : Heap := [.box (mineCells m), .box [.t (.sl (ws.map World.e))], .box [.nil], .box [.ref 4 0 out.length], .arr 2 false 0 ((out.map World.e).map .t)]

theorem see_round {m : Mine} (h : m.ok) (ws : List World) (hw : ws.length ≤ 1000000) (tag : Int) (l : List Int) (hp : l.length ≤ 1000000) (a b : Int) (i : Nat) (hi : i < ws.length) (hs : (nth ws i).sz)
    (hb : 0 ≤ bearerF (nth ws i).tags tag) (hb2 : bearerF (nth ws i).tags tag < (nth ws i).whr.length) (out : List World) (ho : out.length ≤ 1000000) :
    ((seeW m tag l a b (nth ws i)).2 ≠ 6 ∧ (seeW m tag l a b (nth ws i)).2 ≠ 8 → roundC true [0, 1, 9, 10, 13, 14, 15, 16, 17, 18] 5 (exS CALL K.ref26_See_l1b ⟨[.und, .und, I tag, .t (tL l), I a, I b, .bp 0 0, .bp 1 0, .bp 2 0, .und, .und, .bp 3 0, I i, .und, .und, .und, .und, .und, .und], seeH m ws out⟩) =
      some ⟨[.und, .und, I tag, .t (tL l), I a, I b, .bp 0 0, .bp 1 0, .bp 2 0, .und, .und, .bp 3 0, I (i + 1), .und, .und, .und, .und, .und, .und], seeH m ws (stepW tag (seeW m tag l a b (nth ws i)) (nth ws i) out)⟩) ∧
    ((seeW m tag l a b (nth ws i)).2 = 6 ∨ (seeW m tag l a b (nth ws i)).2 = 8 → ∃ vs H, exS CALL K.ref26_See_l1b ⟨[.und, .und, I tag, .t (tL l), I a, I b, .bp 0 0, .bp 1 0, .bp 2 0, .und, .und, .bp 3 0, I i, .und, .und, .und, .und, .und, .und], seeH m ws out⟩ =
      some (.ret, ⟨vs, H⟩) ∧ vs[8]? = some (.bp 2 0) ∧ vs[9]? = some (I (seeW m tag l a b (nth ws i)).2) ∧ H[2]? = some (.box [.t (.sl (ws.map World.e))])) := by
  unfold seeW stepW putW
  have c1 := copyWorld_ok1 (nth ws i) hs
  have br := bearer_ok (nth ws i).tags tag (by have := hs.1; omega)
  have s3 := hs.2.2 _ (nth_mem (l := (nth ws i).whr) (j := (bearerF (nth ws i).tags tag).toNat) (by omega))
  have se := see_ok h (nth (nth ws i).whr (bearerF (nth ws i).tags tag).toNat) s3 l hp a b
  generalize hx : nth ws i = x at *
  obtain ⟨tags, whr⟩ := x
  simp only at c1 br s3 se hb hb2 ⊢
  generalize bearerF tags tag = k at *
  generalize hy : nth whr k.toNat = y at *
  generalize seeF m y l a b = r at *
  obtain ⟨⟨time, frm⟩, e⟩ := r
  obtain ⟨t0, f0⟩ := y
  obtain ⟨s1, s2, -⟩ := hs
  simp only at s1 s2 s3 se ⊢
  constructor
  · rintro ⟨n6, n8⟩
    by_cases e43 : e = 43
    · subst e43
      simp (disch := omega) only [go_sem, K.ref26_See_l1b, ↓reduceIte, seeH, hx, hy, c1, br, se, Nat.reduceAdd, Nat.reduceSub]
    · by_cases e0 : e = 0
      · subst e0
        simp (disch := omega) only [go_sem, K.ref26_See_l1b, ↓reduceIte, seeH, hx, hy, c1, br, se, Nat.reduceAdd, Nat.reduceSub]
      · simp (disch := omega) only [go_sem, K.ref26_See_l1b, ↓reduceIte, seeH, hx, hy, c1, br, se, Nat.reduceAdd, Nat.reduceSub]
  · rintro (h68 | h68) <;> subst h68
    · simp (disch := omega) only [go_sem, K.ref26_See_l1b, ↓reduceIte, seeH, hx, hy, c1, br, se, Nat.reduceAdd, Nat.reduceSub]
      exact ⟨_, _, rfl, rfl, rfl, rfl⟩
    · simp (disch := omega) only [go_sem, K.ref26_See_l1b, ↓reduceIte, seeH, hx, hy, c1, br, se, Nat.reduceAdd, Nat.reduceSub]
      exact ⟨_, _, rfl, rfl, rfl, rfl⟩

def seeBad (m : Mine) (tag : Int) (l : List Int) (a b : Int) (ws : List World) (j : Nat) : Bool := decide ((seeW m tag l a b (nth ws j)).2 = 6 ∨ (seeW m tag l a b (nth ws j)).2 = 8)
def seeBel (m : Mine) (b : Bel) (tag : Int) (l : List Int) (a c : Int) : Bel × Int :=
  if borneF m b tag ≠ 0 then (b, borneF m b tag) else match (List.range b.worlds.length).find? (seeBad m tag l a c b.worlds) with
    | some i => (b, (seeW m tag l a c (nth b.worlds i)).2)
    | none => if (seeNb m tag l a c b.worlds b.worlds.length).length = 0 then (b, 43) else (⟨seeNb m tag l a c b.worlds b.worlds.length⟩, 0)

theorem seeBel_ok {m : Mine} (h : m.ok) (b : Bel) (hs : b.sz) (tag : Int) (l : List Int) (hp : l.length ≤ 1000000) (a c : Int) :
    CALL 0 N.ref26_See [.t m.e, .t b.e, I tag, .t (tL l), I a, I c] [] = some (.tup [.t (seeBel m b tag l a c).1.e, I (seeBel m b tag l a c).2], []) := by
  refine CALL_of K.t_ref26_See rfl ?_
  have cb := copyBel_ok b hs
  have bo := borne_ok h b hs tag
  unfold seeBel
  by_cases e0 : borneF m b tag = 0
  · have hb : belB m b = true := by
      unfold borneF at e0
      by_cases hb : belB m b = true
      · exact hb
      · rw [if_pos (by simpa using hb)] at e0; omega
    have ht : 0 ≤ bearerF (nth b.worlds 0).tags tag := by
      unfold borneF at e0
      rw [if_neg (by simp [hb])] at e0
      by_cases ht : bearerF (nth b.worlds 0).tags tag < 0
      · rw [if_pos ht] at e0; omega
      · omega
    have bb : ∀ i, i < b.worlds.length → 0 ≤ bearerF (nth b.worlds i).tags tag ∧ bearerF (nth b.worlds i).tags tag < (nth b.worlds i).whr.length := fun i hi => by
      obtain ⟨-, -, -, -, h5⟩ := belB_spec hb
      obtain ⟨w1, w2, -⟩ := worldB_spec (h5 i hi)
      have b1 := belB_bearer hb ht (i := i) hi
      have b2 := (bearerF_lt b1).1
      exact ⟨b1, by omega⟩
    rw [e0] at bo
    obtain ⟨ws⟩ := b
    obtain ⟨s1, s2⟩ := hs
    simp only at s1 s2 bb cb bo ⊢
    have ln := seeNb_len m tag l a c ws
    have loop := fun x y z u v w p q r => loop_find (gc := true) (dead := [0, 1, 9, 10, 13, 14, 15, 16, 17, 18]) (c := K.ref26_See_l1b)
      (vs := [x, y, I tag, .t (tL l), I a, I c, .bp 0 0, .bp 1 0, .bp 2 0, z, u, .bp 3 0, I 0, v, w, p, q, r, .und]) (H := seeH m ws [])
      (fun j => ⟨[.und, .und, I tag, .t (tL l), I a, I c, .bp 0 0, .bp 1 0, .bp 2 0, .und, .und, .bp 3 0, I j, .und, .und, .und, .und, .und, .und], seeH m ws (seeNb m tag l a c ws j)⟩) ws.length (seeBad m tag l a c ws)
      (fun j q => q.1 = .ret ∧ q.2.vs[8]? = some (.bp 2 0) ∧ q.2.vs[9]? = some (I (seeW m tag l a c (nth ws j)).2) ∧ q.2.H[2]? = some (.box [.t (.sl (ws.map World.e))]))
      (.exit 0, ⟨[.und, .und, I tag, .t (tL l), I a, I c, .bp 0 0, .bp 1 0, .bp 2 0, .und, .und, .bp 3 0, I ws.length, .und, .und, .und, .und, .und, .und], seeH m ws (seeNb m tag l a c ws ws.length)⟩) rfl
      (fun j hj hq => by
        have := ln j
        have hq : ¬ ((seeW m tag l a c (nth ws j)).2 = 6 ∨ (seeW m tag l a c (nth ws j)).2 = 8) := by simpa [seeBad] using hq
        obtain ⟨b1, b2⟩ := bb j hj
        exact (see_round h ws s1 tag l hp a c j hj (s2 _ (nth_mem hj)) b1 b2 (seeNb m tag l a c ws j) (by omega)).1 (by omega))
      (fun j hj hq => by
        have := ln j
        have hq : (seeW m tag l a c (nth ws j)).2 = 6 ∨ (seeW m tag l a c (nth ws j)).2 = 8 := by simpa [seeBad] using hq
        obtain ⟨b1, b2⟩ := bb j hj
        obtain ⟨vs, H, q1, q2⟩ := (see_round h ws s1 tag l hp a c j hj (s2 _ (nth_mem hj)) b1 b2 (seeNb m tag l a c ws j) (by omega)).2 hq
        exact ⟨_, q1, by simp, rfl, q2⟩)
      (by
        have := ln ws.length
        generalize seeNb m tag l a c ws ws.length = L at *
        simp (disch := omega) only [go_sem, K.ref26_See_l1b, ↓reduceIte, seeH, Nat.reduceAdd, Nat.reduceSub]) (by simp)
    have loop' : ∀ x y z u v w p q r, _ ∨ _ := loop
    clear loop
    rcases loop' (.t m.e) (.t (Bel.e ⟨ws⟩)) (I 0) (I 0) .und .und .und .und .und with ⟨e1, e2⟩ | ⟨j, ⟨x, vs, H⟩, e1, e2, e3, e4, e5, e6⟩
    · have e2 : exS CALL K.ref26_See_l1 _ = _ := e2
      simp only [seeH, List.map_nil, List.length_nil] at e2
      have := ln ws.length
      rw [e1]
      generalize seeNb m tag l a c ws ws.length = L at *
      by_cases L0 : L.length = 0
      · simp (disch := omega) only [go_sem, K.ref26_See, ↓reduceIte, cb, bo, e2, L0, Nat.reduceAdd, Nat.reduceSub, ne_eq, not_true_eq_false]
      · simp (disch := omega) only [go_sem, K.ref26_See, ↓reduceIte, cb, bo, e2, L0, Nat.reduceAdd, Nat.reduceSub, ne_eq, not_true_eq_false]
    · have e2 : exS CALL K.ref26_See_l1 _ = _ := e2
      simp only [seeH, List.map_nil, List.length_nil] at e2
      rw [e1]
      simp only at e3 e4 e5 e6
      subst e3
      simp (disch := omega) only [go_sem, K.ref26_See, ↓reduceIte, cb, bo, e2, Nat.reduceAdd, Nat.reduceSub, ne_eq, not_true_eq_false, e4, e5, e6, List.take_zero]
  · obtain ⟨ws⟩ := b
    simp (disch := omega) only [go_sem, K.ref26_See, ↓reduceIte, cb, bo, e0, ne_eq, not_false_eq_true]

end Go.Ev

/- Chapter 26 of the references: absences. -/
namespace Go.Ev
open Go
variable [Lib] [Has1] [Has2]

def absW (m : Mine) (tag : Int) (l : List Int) (a b bl : Int) (x : World) : Wh × Int := absF m (nth x.whr (bearerF x.tags tag).toNat) l a b bl
def stepA (tag : Int) (r : Wh × Int) (x : World) (out : List World) : List World := out ++ [if r.2 = 0 then putW tag x r.1 else x]
def absNb (m : Mine) (tag : Int) (l : List Int) (a b bl : Int) (ws : List World) : Nat → List World
  | 0 => []
  | j + 1 => stepA tag (absW m tag l a b bl (nth ws j)) (nth ws j) (absNb m tag l a b bl ws j)
theorem absNb_len (m : Mine) (tag : Int) (l : List Int) (a b bl : Int) (ws : List World) : ∀ j, (absNb m tag l a b bl ws j).length = j
  | 0 => rfl
  | j + 1 => by
    simp only [absNb, stepA, List.length_append, absNb_len m tag l a b bl ws j, List.length_singleton]

theorem abs_round {m : Mine} (h : m.ok) (ws : List World) (hw : ws.length ≤ 1000000) (tag : Int) (l : List Int) (hp : l.length ≤ 1000000) (a b bl : Int) (i : Nat) (hi : i < ws.length) (hs : (nth ws i).sz)
    (hb : 0 ≤ bearerF (nth ws i).tags tag) (hb2 : bearerF (nth ws i).tags tag < (nth ws i).whr.length) (out : List World) (ho : out.length ≤ 1000000) :
    ((absW m tag l a b bl (nth ws i)).2 ≠ 6 ∧ (absW m tag l a b bl (nth ws i)).2 ≠ 8 → roundC true [0, 1, 10, 11, 14, 15, 16, 17] 5 (exS CALL K.ref26_Absent_l1b ⟨[.und, .und, I tag, .t (tL l), I a, I b, I bl, .bp 0 0, .bp 1 0, .bp 2 0, .und, .und, .bp 3 0, I i, .und, .und, .und, .und], seeH m ws out⟩) =
      some ⟨[.und, .und, I tag, .t (tL l), I a, I b, I bl, .bp 0 0, .bp 1 0, .bp 2 0, .und, .und, .bp 3 0, I (i + 1), .und, .und, .und, .und], seeH m ws (stepA tag (absW m tag l a b bl (nth ws i)) (nth ws i) out)⟩) ∧
    ((absW m tag l a b bl (nth ws i)).2 = 6 ∨ (absW m tag l a b bl (nth ws i)).2 = 8 → ∃ vs H, exS CALL K.ref26_Absent_l1b ⟨[.und, .und, I tag, .t (tL l), I a, I b, I bl, .bp 0 0, .bp 1 0, .bp 2 0, .und, .und, .bp 3 0, I i, .und, .und, .und, .und], seeH m ws out⟩ =
      some (.ret, ⟨vs, H⟩) ∧ vs[9]? = some (.bp 2 0) ∧ vs[10]? = some (I (absW m tag l a b bl (nth ws i)).2) ∧ H[2]? = some (.box [.t (.sl (ws.map World.e))])) := by
  unfold absW stepA putW
  have c1 := copyWorld_ok1 (nth ws i) hs
  have br := bearer_ok (nth ws i).tags tag (by have := hs.1; omega)
  have s3 := hs.2.2 _ (nth_mem (l := (nth ws i).whr) (j := (bearerF (nth ws i).tags tag).toNat) (by omega))
  have se := abs_ok h (nth (nth ws i).whr (bearerF (nth ws i).tags tag).toNat) s3 l hp a b bl
  generalize hx : nth ws i = x at *
  obtain ⟨tags, whr⟩ := x
  simp only at c1 br s3 se hb hb2 ⊢
  generalize bearerF tags tag = k at *
  generalize hy : nth whr k.toNat = y at *
  generalize absF m y l a b bl = r at *
  obtain ⟨⟨time, frm⟩, e⟩ := r
  obtain ⟨t0, f0⟩ := y
  obtain ⟨s1, s2, -⟩ := hs
  simp only at s1 s2 s3 se ⊢
  constructor
  · rintro ⟨n6, n8⟩
    by_cases e0 : e = 0
    · subst e0
      simp (disch := omega) only [go_sem, K.ref26_Absent_l1b, ↓reduceIte, seeH, hx, hy, c1, br, se, Nat.reduceAdd, Nat.reduceSub]
    · simp (disch := omega) only [go_sem, K.ref26_Absent_l1b, ↓reduceIte, seeH, hx, hy, c1, br, se, Nat.reduceAdd, Nat.reduceSub]
  · rintro (h68 | h68) <;> subst h68
    · simp (disch := omega) only [go_sem, K.ref26_Absent_l1b, ↓reduceIte, seeH, hx, hy, c1, br, se, Nat.reduceAdd, Nat.reduceSub]
      exact ⟨_, _, rfl, rfl, rfl, rfl⟩
    · simp (disch := omega) only [go_sem, K.ref26_Absent_l1b, ↓reduceIte, seeH, hx, hy, c1, br, se, Nat.reduceAdd, Nat.reduceSub]
      exact ⟨_, _, rfl, rfl, rfl, rfl⟩

def absBad (m : Mine) (tag : Int) (l : List Int) (a b bl : Int) (ws : List World) (j : Nat) : Bool := decide ((absW m tag l a b bl (nth ws j)).2 = 6 ∨ (absW m tag l a b bl (nth ws j)).2 = 8)
def absBel (m : Mine) (b : Bel) (tag : Int) (l : List Int) (a c bl : Int) : Bel × Int :=
  if borneF m b tag ≠ 0 then (b, borneF m b tag) else match (List.range b.worlds.length).find? (absBad m tag l a c bl b.worlds) with
    | some i => (b, (absW m tag l a c bl (nth b.worlds i)).2)
    | none => (⟨absNb m tag l a c bl b.worlds b.worlds.length⟩, 0)

theorem borne_0 {m : Mine} {b : Bel} {tag : Int} (e0 : borneF m b tag = 0) : belB m b = true ∧ ∀ i, i < b.worlds.length → 0 ≤ bearerF (nth b.worlds i).tags tag ∧ bearerF (nth b.worlds i).tags tag < (nth b.worlds i).whr.length := by
  have hb : belB m b = true := by
    unfold borneF at e0
    by_cases hb : belB m b = true
    · exact hb
    · rw [if_pos (by simpa using hb)] at e0; omega
  have ht : 0 ≤ bearerF (nth b.worlds 0).tags tag := by
    unfold borneF at e0
    rw [if_neg (by simp [hb])] at e0
    by_cases ht : bearerF (nth b.worlds 0).tags tag < 0
    · rw [if_pos ht] at e0; omega
    · omega
  refine ⟨hb, fun i hi => ?_⟩
  obtain ⟨-, -, -, -, h5⟩ := belB_spec hb
  obtain ⟨w1, w2, -⟩ := worldB_spec (h5 i hi)
  have b1 := belB_bearer hb ht (i := i) hi
  have b2 := (bearerF_lt b1).1
  exact ⟨b1, by omega⟩

theorem absBel_ok {m : Mine} (h : m.ok) (b : Bel) (hs : b.sz) (tag : Int) (l : List Int) (hp : l.length ≤ 1000000) (a c bl : Int) :
    CALL 0 N.ref26_Absent [.t m.e, .t b.e, I tag, .t (tL l), I a, I c, I bl] [] = some (.tup [.t (absBel m b tag l a c bl).1.e, I (absBel m b tag l a c bl).2], []) := by
  refine CALL_of K.t_ref26_Absent rfl ?_
  have cb := copyBel_ok b hs
  have bo := borne_ok h b hs tag
  unfold absBel
  by_cases e0 : borneF m b tag = 0
  · obtain ⟨hb, bb⟩ := borne_0 e0
    rw [e0] at bo
    obtain ⟨ws⟩ := b
    obtain ⟨s1, s2⟩ := hs
    simp only at s1 s2 bb cb bo ⊢
    have ln := absNb_len m tag l a c bl ws
    have loop := fun x y u v w p q r => loop_find (gc := true) (dead := [0, 1, 10, 11, 14, 15, 16, 17]) (c := K.ref26_Absent_l1b)
      (vs := [x, y, I tag, .t (tL l), I a, I c, I bl, .bp 0 0, .bp 1 0, .bp 2 0, u, v, .bp 3 0, I 0, w, p, q, r]) (H := seeH m ws [])
      (fun j => ⟨[.und, .und, I tag, .t (tL l), I a, I c, I bl, .bp 0 0, .bp 1 0, .bp 2 0, .und, .und, .bp 3 0, I j, .und, .und, .und, .und], seeH m ws (absNb m tag l a c bl ws j)⟩) ws.length (absBad m tag l a c bl ws)
      (fun j q => q.1 = .ret ∧ q.2.vs[9]? = some (.bp 2 0) ∧ q.2.vs[10]? = some (I (absW m tag l a c bl (nth ws j)).2) ∧ q.2.H[2]? = some (.box [.t (.sl (ws.map World.e))]))
      (.exit 0, ⟨[.und, .und, I tag, .t (tL l), I a, I c, I bl, .bp 0 0, .bp 1 0, .bp 2 0, .und, .und, .bp 3 0, I ws.length, .und, .und, .und, .und], seeH m ws (absNb m tag l a c bl ws ws.length)⟩) rfl
      (fun j hj hq => by
        have := ln j
        have hq : ¬ ((absW m tag l a c bl (nth ws j)).2 = 6 ∨ (absW m tag l a c bl (nth ws j)).2 = 8) := by simpa [absBad] using hq
        obtain ⟨b1, b2⟩ := bb j hj
        exact (abs_round h ws s1 tag l hp a c bl j hj (s2 _ (nth_mem hj)) b1 b2 (absNb m tag l a c bl ws j) (by omega)).1 (by omega))
      (fun j hj hq => by
        have := ln j
        have hq : (absW m tag l a c bl (nth ws j)).2 = 6 ∨ (absW m tag l a c bl (nth ws j)).2 = 8 := by simpa [absBad] using hq
        obtain ⟨b1, b2⟩ := bb j hj
        obtain ⟨vs, H, q1, q2⟩ := (abs_round h ws s1 tag l hp a c bl j hj (s2 _ (nth_mem hj)) b1 b2 (absNb m tag l a c bl ws j) (by omega)).2 hq
        exact ⟨_, q1, by simp, rfl, q2⟩)
      (by
        have := ln ws.length
        generalize absNb m tag l a c bl ws ws.length = L at *
        simp (disch := omega) only [go_sem, K.ref26_Absent_l1b, ↓reduceIte, seeH, Nat.reduceAdd, Nat.reduceSub]) (by simp)
    rcases loop (.t m.e) (.t (Bel.e ⟨ws⟩)) (I 0) (I 0) .und .und .und .und with ⟨e1, e2⟩ | ⟨j, ⟨x, vs, H⟩, e1, e2, e3, e4, e5, e6⟩
    · have e2 : exS CALL K.ref26_Absent_l1 _ = _ := e2
      simp only [seeH, List.map_nil, List.length_nil] at e2
      have := ln ws.length
      rw [e1]
      generalize absNb m tag l a c bl ws ws.length = L at *
      simp (disch := omega) only [go_sem, K.ref26_Absent, ↓reduceIte, cb, bo, e2, Nat.reduceAdd, Nat.reduceSub, ne_eq, not_true_eq_false]
    · have e2 : exS CALL K.ref26_Absent_l1 _ = _ := e2
      simp only [seeH, List.map_nil, List.length_nil] at e2
      rw [e1]
      simp only at e3 e4 e5 e6
      subst e3
      simp (disch := omega) only [go_sem, K.ref26_Absent, ↓reduceIte, cb, bo, e2, Nat.reduceAdd, Nat.reduceSub, ne_eq, not_true_eq_false, e4, e5, e6, List.take_zero]
  · obtain ⟨ws⟩ := b
    simp (disch := omega) only [go_sem, K.ref26_Absent, ↓reduceIte, cb, bo, e0, ne_eq, not_false_eq_true]

end Go.Ev

/- Chapter 26 of the references: worlds are tidied. -/
namespace Go.Ev
open Go
variable [Lib] [Has1] [Has2]

/-- A loop, by a relation that holds ahead of each round. -/
theorem loop_inv {gc : Bool} {dead : List Nat} {c : C} {vs : List D} {H : Heap} (P : Nat → St → Prop) (n : Nat) (Q : Ex × St → Prop) (h0 : P 0 ⟨dropV dead vs, H⟩)
    (hs : ∀ j st, j < n → P j st → ∃ st', roundC gc dead st.H.length (exS CALL c st) = some st' ∧ P (j + 1) st')
    (he : ∀ st, P n st → ∃ q, exS CALL c st = some q ∧ q.1 ≠ .normal ∧ Q q) : ∃ q, exS CALL (.loop gc dead c) ⟨vs, H⟩ = some q ∧ Q q := by
  have key : ∀ (k j : Nat) (st : St), j + k = n → P j st → ∃ q, loopC gc dead (exS CALL c) st = some q ∧ Q q := by
    intro k
    induction k with
    | zero =>
      intro j st hj hp
      obtain ⟨q, h1, h2, h3⟩ := he st (by rw [← hj]; exact hp)
      exact ⟨q, loopC_exit h1 h2, h3⟩
    | succ k ih =>
      intro j st hj hp
      obtain ⟨st', h1, h2⟩ := hs j st (by omega) hp
      obtain ⟨q, h3, h4⟩ := ih (j + 1) st' (by omega) h2
      exact ⟨q, loopC_step h1 h3, h4⟩
  exact key n 0 _ (by omega) h0

abbrev ints (l : List Int) : List D := (l.map (T.int .i64)).map .t
abbrev whs (l : List Wh) : List D := (l.map Wh.e).map .t

/-- Where a world belongs in an ordered list. -/
def tidyK (out : List World) (x : World) : Nat := match (List.range out.length).find? (fun k => !lessB (nth out k).tags x.tags) with
  | some k => k
  | none => out.length
theorem tidyK_le (out : List World) (x : World) : tidyK out x ≤ out.length := by
  unfold tidyK
  split
  · rename_i k h; exact Nat.le_of_lt (find_lt h).1
  · exact Nat.le_refl _
def joinN (a b : List Wh) : Nat → List Wh
  | 0 => a
  | p + 1 => (joinN a b p).set p (joinF (nth a p) (nth b p)).1
theorem joinN_len (a b : List Wh) : ∀ p, (joinN a b p).length = a.length
  | 0 => rfl
  | p + 1 => by simp only [joinN, List.length_set, joinN_len a b p]
theorem joinN_nth (a b : List Wh) : ∀ p q, p ≤ q → nth (joinN a b p) q = nth a q
  | 0, q, _ => rfl
  | p + 1, q, h => by
    have e : nth ((joinN a b p).set p (joinF (nth a p) (nth b p)).1) q = nth (joinN a b p) q := by
      unfold nth; rw [List.getD_eq_getElem?_getD, List.getElem?_set_ne (by omega), ← List.getD_eq_getElem?_getD]
    simp only [joinN, e]
    exact joinN_nth a b p q (by omega)
def joinWs (a b : List Wh) : List Wh := joinN a b (min a.length b.length)
def tidy1 (out : List World) (x : World) : List World :=
  if tidyK out x < out.length ∧ (nth out (tidyK out x)).tags = x.tags then out.set (tidyK out x) ⟨x.tags, joinWs (nth out (tidyK out x)).whr x.whr⟩
  else out.take (tidyK out x) ++ [x] ++ out.drop (tidyK out x)
def tidyN (l : List World) : Nat → List World
  | 0 => []
  | j + 1 => tidy1 (tidyN l j) (nth l j)
def tidyF (l : List World) : List World := tidyN l l.length

/-- A list of worlds in a heap: an array of pairs of arrays. -/
structure Rp (H : Heap) (id : Nat) (es : List D) (fa fb : Nat → Nat) (out : List World) : Prop where
  arr : H[id]? = some (.arr 2 false 0 es)
  len : es.length = out.length
  el : ∀ j, j < out.length → es[j]? = some (.agg [.ref (fa j) 0 (nth out j).tags.length, .ref (fb j) 0 (nth out j).whr.length])
  ha : ∀ j, j < out.length → H[fa j]? = some (.arr 1 false 0 (ints (nth out j).tags))
  hb : ∀ j, j < out.length → H[fb j]? = some (.arr 2 false 0 (whs (nth out j).whr))
  na : ∀ j, j < out.length → fa j ≠ id
  nb : ∀ j, j < out.length → fb j ≠ id
  nab : ∀ i j, i < out.length → j < out.length → fa i ≠ fb j
  nbb : ∀ i j, i < out.length → j < out.length → i ≠ j → fb i ≠ fb j

def Rep (H : Heap) (v : D) (out : List World) : Prop := (v = .nil ∧ out = []) ∨ ∃ id es fa fb, v = .ref id 0 out.length ∧ 0 < out.length ∧ Rp H id es fa fb out

theorem tidy_l2 (l : List World) (i : Nat) (hi : i < l.length) (out : List World) (ho : out.length ≤ 1000000) (hso : ∀ x ∈ out, x.sz) (hsx : (nth l i).sz) (H : Heap) (v : D) (hr : Rep H v out) (a b : D) :
    exS CALL K.ref26_Tidy_l2 ⟨[.t (.sl (l.map World.e)), a, v, I i, I 0, b], H⟩ = some (.exit 2, ⟨[.t (.sl (l.map World.e)), .und, v, I i, I (tidyK out (nth l i)), .und], H⟩) := by
  rcases hr with ⟨rfl, rfl⟩ | ⟨id, es, fa, fb, rfl, h0, hr⟩
  · have : tidyK [] (nth l i) = 0 := rfl
    rw [this]
    refine loop_is (loopC_exit ?_ (by simp))
    simp (disch := omega) only [go_sem, K.ref26_Tidy_l2b, ↓reduceIte, Nat.reduceAdd, Nat.reduceSub]
  · have key : exS CALL K.ref26_Tidy_l2 ⟨[.t (.sl (l.map World.e)), a, .ref id 0 out.length, I i, I 0, b], H⟩ = some (match (List.range out.length).find? (fun k => !lessB (nth out k).tags (nth l i).tags) with
        | some k => (.exit 2, ⟨[.t (.sl (l.map World.e)), .und, .ref id 0 out.length, I i, I k, .und], H⟩)
        | none => (.exit 2, ⟨[.t (.sl (l.map World.e)), .und, .ref id 0 out.length, I i, I out.length, .und], H⟩)) := by
      refine loop_first (fun k => ⟨[.t (.sl (l.map World.e)), .und, .ref id 0 out.length, I i, I k, .und], H⟩) out.length _ _ _ rfl ?_ ?_ ?_ (by simp)
      · intro k hk hp
        have hp : lessB (nth out k).tags (nth l i).tags = true := by simpa using hp
        have s1 := (hso _ (nth_mem hk)).1
        have s2 := hsx.1
        have ls := less_ok (nth out k).tags (nth l i).tags s1 s2
        have e1 := hr.arr
        have e2 := hr.len
        have e3 := hr.el k hk
        have e4 := hr.ha k hk
        generalize nth out k = y at *
        obtain ⟨ta, wa⟩ := y
        generalize hx : nth l i = x at *
        obtain ⟨tb, wb⟩ := x
        simp only at s1 s2 ls e3 e4 hp
        simp (disch := omega) only [go_sem, K.ref26_Tidy_l2b, ↓reduceIte, Nat.reduceAdd, Nat.reduceSub, e1, e2, e3, e4, hx, ls, hp]
        done
      · intro k hk hp
        have hp : lessB (nth out k).tags (nth l i).tags = false := by simpa using hp
        have s1 := (hso _ (nth_mem hk)).1
        have s2 := hsx.1
        have ls := less_ok (nth out k).tags (nth l i).tags s1 s2
        have e1 := hr.arr
        have e2 := hr.len
        have e3 := hr.el k hk
        have e4 := hr.ha k hk
        generalize nth out k = y at *
        obtain ⟨ta, wa⟩ := y
        generalize hx : nth l i = x at *
        obtain ⟨tb, wb⟩ := x
        simp only at s1 s2 ls e3 e4 hp
        refine ⟨?_, by simp⟩
        simp (disch := omega) only [go_sem, K.ref26_Tidy_l2b, ↓reduceIte, Nat.reduceAdd, Nat.reduceSub, e1, e2, e3, e4, hx, ls, hp]
        done
      · simp (disch := omega) only [go_sem, K.ref26_Tidy_l2b, ↓reduceIte, Nat.reduceAdd, Nat.reduceSub]
    rw [key]
    unfold tidyK
    cases (List.range out.length).find? (fun k => !lessB (nth out k).tags (nth l i).tags) <;> rfl

@[go_sem] theorem joinT_eq (a b : Wh) : (joinF a b).1.e = .agg [tI (joinF a b).1.time, tL (joinF a b).1.frm] := rfl

theorem tidy_l3 (l : List World) (i : Nat) (hi : i < l.length) (out : List World) (ho : out.length ≤ 1000000) (hso : ∀ x ∈ out, x.sz) (hsx : (nth l i).sz) (H : Heap) (id : Nat) (es : List D) (fa fb : Nat → Nat)
    (hr : Rp H id es fa fb out) (k : Nat) (hk : k < out.length) (a : D) :
    exS CALL K.ref26_Tidy_l3 ⟨[.t (.sl (l.map World.e)), a, .ref id 0 out.length, I i, I k, I 0], H⟩ =
    some (.exit 4, ⟨[.t (.sl (l.map World.e)), .und, .ref id 0 out.length, I i, I k, I ((min (nth out k).whr.length (nth l i).whr.length : Nat) : Int)], H.set (fb k) (.arr 2 false 0 (whs (joinWs (nth out k).whr (nth l i).whr)))⟩) := by
  have e1 := hr.arr
  have e2 := hr.len
  have e3 := hr.el k hk
  have e5 := hr.hb k hk
  have e6 := hr.nb k hk
  have e7 := hp_lt e5
  obtain ⟨s1, s2, s3⟩ := hso _ (nth_mem hk)
  obtain ⟨x1, x2, x3⟩ := hsx
  generalize nth out k = y at *
  obtain ⟨ta, wa⟩ := y
  generalize hx : nth l i = x at *
  obtain ⟨tb, wb⟩ := x
  simp only at s1 s2 s3 x1 x2 x3 e3 e5 ⊢
  have jl := joinN_len wa wb
  have q1 : ∀ o, (H.set (fb k) o)[id]? = H[id]? := fun o => hp_set_ne e6
  have q2 : ∀ o, (H.set (fb k) o)[fb k]? = some o := fun o => hp_set_get e7
  refine loop_up (fun p => ⟨[.t (.sl (l.map World.e)), .und, .ref id 0 out.length, I i, I k, I p], H.set (fb k) (.arr 2 false 0 (whs (joinN wa wb p)))⟩) (min wa.length wb.length) ?_ ?_ ?_ (by simp)
  · show (⟨_, H⟩ : St) = ⟨_, H.set (fb k) (.arr 2 false 0 (whs wa))⟩
    rw [set_self e5]; rfl
  · intro p hp
    have jp := jl p
    have jn := joinN_nth wa wb p p (Nat.le_refl _)
    have jo := join_ok (nth wa p) (nth wb p) (s3 _ (nth_mem (by omega)))
    have hj : joinN wa wb (p + 1) = (joinN wa wb p).set p (joinF (nth wa p) (nth wb p)).1 := rfl
    rw [hj]
    generalize joinN wa wb p = J at *
    generalize hu : nth wb p = u at *
    generalize nth wa p = w at *
    generalize joinF w u = r at *
    obtain ⟨⟨rt, rf⟩, re⟩ := r
    simp only at jo ⊢
    simp (disch := omega) only [go_sem, K.ref26_Tidy_l3b, ↓reduceIte, Nat.reduceAdd, Nat.reduceSub, q1, q2, e1, e2, e3, hp_set_set, hx, hu, jn, jo]
  · have jp := jl (min wa.length wb.length)
    have hj : joinWs wa wb = joinN wa wb (min wa.length wb.length) := rfl
    rw [hj]
    generalize joinN wa wb (min wa.length wb.length) = J at *
    by_cases c : wa.length ≤ wb.length
    · simp (disch := omega) only [go_sem, K.ref26_Tidy_l3b, ↓reduceIte, Nat.reduceAdd, Nat.reduceSub, q1, q2, e1, e2, e3, hp_set_set, hx, Nat.min_eq_left c]
    · have hm : min wa.length wb.length = wb.length := by omega
      simp (disch := omega) only [go_sem, K.ref26_Tidy_l3b, ↓reduceIte, Nat.reduceAdd, Nat.reduceSub, q1, q2, e1, e2, e3, hp_set_set, hx, hm]

theorem headSize_all {sz : Nat} {l : List D} (h : ∀ e ∈ l, e.cells.length = sz) : headSize sz l = true := by
  cases l with
  | nil => rfl
  | cons d r => rw [headSize_cons, lenIs_iff]; exact h d List.mem_cons_self

theorem Rp.size {H : Heap} {id : Nat} {es : List D} {fa fb : Nat → Nat} {out : List World} (hr : Rp H id es fa fb out) : ∀ e ∈ es, e.cells.length = 2 := by
  intro e he
  obtain ⟨j, hj⟩ := List.mem_iff_getElem?.1 he
  have hl := (List.getElem?_eq_some_iff.1 hj).1
  rw [hr.el j (by rw [← hr.len]; exact hl)] at hj
  cases hj; rfl

theorem ins_get {α : Type} (l : List α) (k : Nat) (hk : k ≤ l.length) (x : α) (j : Nat) : (l.take k ++ [x] ++ l.drop k)[j]? = if j < k then l[j]? else if j = k then some x else l[j - 1]? := by
  have hl : (l.take k).length = k := by rw [List.length_take]; omega
  rw [List.append_assoc]
  by_cases h1 : j < k
  · rw [if_pos h1, List.getElem?_append_left (by omega), List.getElem?_take_of_lt h1]
  · rw [if_neg h1, List.getElem?_append_right (by omega), hl]
    by_cases h2 : j = k
    · rw [if_pos h2, h2, Nat.sub_self]; rfl
    · rw [if_neg h2, List.getElem?_append_right (by simp; omega)]
      simp only [List.length_singleton, List.getElem?_drop]
      congr 1; omega
theorem ins_nth {α : Type} [Dat α] (l : List α) (k : Nat) (hk : k ≤ l.length) (x : α) (j : Nat) : nth (l.take k ++ [x] ++ l.drop k) j = if j < k then nth l j else if j = k then x else nth l (j - 1) := by
  unfold nth
  rw [List.getD_eq_getElem?_getD, ins_get l k hk]
  split
  · rw [List.getD_eq_getElem?_getD]
  · split
    · rfl
    · rw [List.getD_eq_getElem?_getD]
theorem set_nth {α : Type} [Dat α] (l : List α) (k : Nat) (hk : k < l.length) (x : α) (j : Nat) : nth (l.set k x) j = if j = k then x else nth l j := by
  unfold nth
  rw [List.getD_eq_getElem?_getD]
  by_cases h : j = k
  · rw [if_pos h, h, List.getElem?_set_self hk]; rfl
  · rw [if_neg h, List.getElem?_set_ne (fun e => h e.symm), List.getD_eq_getElem?_getD]

theorem Rp.ins {H : Heap} {id : Nat} {es : List D} {fa fb : Nat → Nat} {out : List World} (hr : Rp H id es fa fb out) {k : Nat} (hk : k ≤ out.length) (x : World) (o : Obj) :
    Rp (H ++ [.arr 2 false 0 (es.take k ++ [.agg [.ref (H.length + 1) 0 x.tags.length, .ref (H.length + 2) 0 x.whr.length]] ++ es.drop k), .arr 1 false 0 (ints x.tags), .arr 2 false 0 (whs x.whr), o]) H.length
      (es.take k ++ [.agg [.ref (H.length + 1) 0 x.tags.length, .ref (H.length + 2) 0 x.whr.length]] ++ es.drop k)
      (fun j => if j < k then fa j else if j = k then H.length + 1 else fa (j - 1)) (fun j => if j < k then fb j else if j = k then H.length + 2 else fb (j - 1)) (out.take k ++ [x] ++ out.drop k) := by
  have ol : (out.take k ++ [x] ++ out.drop k).length = out.length + 1 := by
    rw [List.length_append, List.length_append, List.length_take, List.length_drop, List.length_singleton]; omega
  have e2 := hr.len
  have ba : ∀ j, j < out.length → fa j < H.length := fun j hj => hp_lt (hr.ha j hj)
  have bb : ∀ j, j < out.length → fb j < H.length := fun j hj => hp_lt (hr.hb j hj)
  refine ⟨hp_get_len, ?_, ?_, ?_, ?_, ?_, ?_, ?_, ?_⟩
  · rw [ol, List.length_append, List.length_append, List.length_take, List.length_drop, List.length_singleton]; omega
  · intro j hj
    rw [ol] at hj
    simp only [ins_get es k (by omega), ins_nth out k hk]
    by_cases h1 : j < k
    · simp only [if_pos h1]; exact hr.el j (by omega)
    · by_cases h2 : j = k
      · simp only [if_neg h1, if_pos h2]
      · simp only [if_neg h1, if_neg h2]; exact hr.el (j - 1) (by omega)
  · intro j hj
    rw [ol] at hj
    simp only [ins_nth out k hk]
    by_cases h1 : j < k
    · simp only [if_pos h1]; rw [hp_get (ba j (by omega))]; exact hr.ha j (by omega)
    · by_cases h2 : j = k
      · simp only [if_neg h1, if_pos h2]; rw [hp_get_add]; rfl
      · simp only [if_neg h1, if_neg h2]; rw [hp_get (ba (j - 1) (by omega))]; exact hr.ha (j - 1) (by omega)
  · intro j hj
    rw [ol] at hj
    simp only [ins_nth out k hk]
    by_cases h1 : j < k
    · simp only [if_pos h1]; rw [hp_get (bb j (by omega))]; exact hr.hb j (by omega)
    · by_cases h2 : j = k
      · simp only [if_neg h1, if_pos h2]; rw [hp_get_add]; rfl
      · simp only [if_neg h1, if_neg h2]; rw [hp_get (bb (j - 1) (by omega))]; exact hr.hb (j - 1) (by omega)
  · intro j hj
    rw [ol] at hj
    have b1 := ba j
    have b2 := ba (j - 1)
    split
    · have := b1 (by omega); omega
    · split
      · omega
      · have := b2 (by omega); omega
  · intro j hj
    rw [ol] at hj
    have b1 := bb j
    have b2 := bb (j - 1)
    split
    · have := b1 (by omega); omega
    · split
      · omega
      · have := b2 (by omega); omega
  · intro i j hi hj
    rw [ol] at hi hj
    have a1 := ba i
    have a2 := ba (i - 1)
    have b1 := bb j
    have b2 := bb (j - 1)
    by_cases h1 : i < k
    · rw [if_pos h1]
      have := a1 (by omega)
      by_cases h2 : j < k
      · rw [if_pos h2]; exact hr.nab i j (by omega) (by omega)
      · rw [if_neg h2]
        by_cases h3 : j = k
        · rw [if_pos h3]; omega
        · rw [if_neg h3]; exact hr.nab i (j - 1) (by omega) (by omega)
    · rw [if_neg h1]
      by_cases h4 : i = k
      · rw [if_pos h4]
        split
        · have := b1 (by omega); omega
        · split
          · omega
          · have := b2 (by omega); omega
      · rw [if_neg h4]
        have := a2 (by omega)
        by_cases h2 : j < k
        · rw [if_pos h2]; exact hr.nab (i - 1) j (by omega) (by omega)
        · rw [if_neg h2]
          by_cases h3 : j = k
          · rw [if_pos h3]; omega
          · rw [if_neg h3]; exact hr.nab (i - 1) (j - 1) (by omega) (by omega)
  · intro i j hi hj hne
    rw [ol] at hi hj
    have a1 := bb i
    have a2 := bb (i - 1)
    have b1 := bb j
    have b2 := bb (j - 1)
    by_cases h1 : i < k
    · rw [if_pos h1]
      have := a1 (by omega)
      by_cases h2 : j < k
      · rw [if_pos h2]; exact hr.nbb i j (by omega) (by omega) hne
      · rw [if_neg h2]
        by_cases h3 : j = k
        · rw [if_pos h3]; omega
        · rw [if_neg h3]; exact hr.nbb i (j - 1) (by omega) (by omega) (by omega)
    · rw [if_neg h1]
      by_cases h4 : i = k
      · rw [if_pos h4]
        split
        · have := b1 (by omega); omega
        · split
          · omega
          · have := b2 (by omega); omega
      · rw [if_neg h4]
        have := a2 (by omega)
        by_cases h2 : j < k
        · rw [if_pos h2]; exact hr.nbb (i - 1) j (by omega) (by omega) (by omega)
        · rw [if_neg h2]
          by_cases h3 : j = k
          · rw [if_pos h3]; omega
          · rw [if_neg h3]; exact hr.nbb (i - 1) (j - 1) (by omega) (by omega) (by omega)

theorem Rp.merge {H : Heap} {id : Nat} {es : List D} {fa fb : Nat → Nat} {out : List World} (hr : Rp H id es fa fb out) {k : Nat} (hk : k < out.length) (x : World) (ht : (nth out k).tags = x.tags) (hw : x.whr.length = (nth out k).whr.length) :
    Rp (H.set (fb k) (.arr 2 false 0 (whs x.whr))) id es fa fb (out.set k x) := by
  have ol : (out.set k x).length = out.length := List.length_set
  have nk := hr.nb k hk
  have kl := hp_lt (hr.hb k hk)
  refine ⟨by rw [hp_set_ne nk]; exact hr.arr, by rw [ol]; exact hr.len, ?_, ?_, ?_, by rw [ol]; exact hr.na, by rw [ol]; exact hr.nb, by rw [ol]; exact hr.nab, by rw [ol]; exact hr.nbb⟩
  · intro j hj
    rw [ol] at hj
    rw [hr.el j hj, set_nth out k hk]
    by_cases h : j = k
    · rw [if_pos h, h, ht, hw]
    · rw [if_neg h]
  · intro j hj
    rw [ol] at hj
    rw [hp_set_ne (fun e => hr.nab j k hj hk e.symm), hr.ha j hj, set_nth out k hk]
    by_cases h : j = k
    · rw [if_pos h, h, ht]
    · rw [if_neg h]
  · intro j hj
    rw [ol] at hj
    rw [set_nth out k hk]
    by_cases h : j = k
    · rw [if_pos h, h, hp_set_get kl]
    · rw [if_neg h, hp_set_ne (fun e => hr.nbb j k hj hk h e.symm)]; exact hr.hb j hj

theorem tidy_round (l : List World) (i : Nat) (hi : i < l.length) (hl : l.length ≤ 1000000) (out : List World) (ho : out.length ≤ 999999) (hso : ∀ x ∈ out, x.sz) (hsx : (nth l i).sz) (H : Heap) (v : D) (hr : Rep H v out) :
    ∃ v' H', roundC false [1, 4, 5] H.length (exS CALL K.ref26_Tidy_l1b ⟨[.t (.sl (l.map World.e)), .und, v, I i, .und, .und], H⟩) = some ⟨[.t (.sl (l.map World.e)), .und, v', I (i + 1), .und, .und], H'⟩ ∧ Rep H' v' (tidy1 out (nth l i)) := by
  have l2 := tidy_l2 l i hi out (by omega) hso hsx H v hr
  have kl := tidyK_le out (nth l i)
  have cw := copyWorld_ok1 (nth l i) hsx
  rcases hr with ⟨rfl, rfl⟩ | ⟨id, es, fa, fb, rfl, h0, hr⟩
  · have k0 : tidyK [] (nth l i) = 0 := rfl
    rw [k0] at l2
    have t1 : tidy1 [] (nth l i) = [nth l i] := rfl
    rw [t1]
    generalize hx : nth l i = x at *
    obtain ⟨tb, wb⟩ := x
    simp only at cw
    have run : roundC false [1, 4, 5] H.length (exS CALL K.ref26_Tidy_l1b ⟨[.t (.sl (l.map World.e)), .und, .nil, I i, .und, .und], H⟩) =
        some ⟨[.t (.sl (l.map World.e)), .und, .ref H.length 0 1, I (i + 1), .und, .und], H ++ [.arr 2 false 0 [.agg [.ref (H.length + 1) 0 tb.length, .ref (H.length + 2) 0 wb.length]], .arr 1 false 0 (ints tb), .arr 2 false 0 (whs wb), .arr 2 false 0 [.agg [.ref (H.length + 1) 0 tb.length, .ref (H.length + 2) 0 wb.length]]]⟩ := by
      simp (disch := omega) only [go_sem, K.ref26_Tidy_l1b, ↓reduceIte, Nat.reduceAdd, Nat.reduceSub, l2, hx, cw, hp_get_len, hp_get_add, hp_set_len, hp_assoc, Nat.add_assoc]
    refine ⟨_, _, run, .inr ⟨H.length, _, fun _ => H.length + 1, fun _ => H.length + 2, rfl, by simp, ⟨hp_get_len, rfl, ?_, ?_, ?_, ?_, ?_, ?_, ?_⟩⟩⟩
    all_goals skip
    · intro j hj; obtain rfl : j = 0 := by simpa using hj
      rfl
    · intro j hj; obtain rfl : j = 0 := by simpa using hj
      rw [hp_get_add]; rfl
    · intro j hj; obtain rfl : j = 0 := by simpa using hj
      rw [hp_get_add]; rfl
    · intro j hj; omega
    · intro j hj; omega
    · intro i j hi hj; omega
    · intro i j hi hj hne
      have h1 : i = 0 := by simpa using hi
      have h2 : j = 0 := by simpa using hj
      omega
  · have e1 := hr.arr
    have e2 := hr.len
    have e7 := hp_lt e1
    by_cases c : tidyK out (nth l i) < out.length ∧ (nth out (tidyK out (nth l i))).tags = (nth l i).tags
    · obtain ⟨ck, ct⟩ := c
      have l3 := tidy_l3 l i hi out (by omega) hso hsx H id es fa fb hr (tidyK out (nth l i)) ck
      have s1 := (hso _ (nth_mem ck)).1
      have sm := same_ok (nth out (tidyK out (nth l i))).tags (nth l i).tags (by omega)
      have t1 : tidy1 out (nth l i) = out.set (tidyK out (nth l i)) ⟨(nth l i).tags, joinWs (nth out (tidyK out (nth l i))).whr (nth l i).whr⟩ := by unfold tidy1; rw [if_pos ⟨ck, ct⟩]
      rw [t1]
      simp only [ct, decide_true] at sm
      generalize tidyK out (nth l i) = k at *
      have e3 := hr.el k ck
      have e4 := hr.ha k ck
      have mg := hr.merge ck ⟨(nth l i).tags, joinWs (nth out k).whr (nth l i).whr⟩ ct (joinN_len _ _ _)
      refine ⟨.ref id 0 out.length, _, ?_, .inr ⟨id, es, fa, fb, by rw [List.length_set], by rw [List.length_set]; omega, mg⟩⟩
      generalize nth out k = y at *
      obtain ⟨ta, wa⟩ := y
      simp only at ct
      subst ct
      generalize hx : nth l i = x at *
      obtain ⟨tb, wb⟩ := x
      simp only at s1 sm e3 e4 cw l3 ⊢
      simp (disch := omega) only [go_sem, K.ref26_Tidy_l1b, ↓reduceIte, Nat.reduceAdd, Nat.reduceSub, l2, l3, hx, cw, sm, e1, e2, e3, e4]
    · have t1 : tidy1 out (nth l i) = out.take (tidyK out (nth l i)) ++ [nth l i] ++ out.drop (tidyK out (nth l i)) := by unfold tidy1; rw [if_neg c]
      rw [t1]
      generalize tidyK out (nth l i) = k at *
      have hs1 : headSize 2 (es.take k) = true := headSize_all fun e he => hr.size e (List.mem_of_mem_take he)
      have hs2 : headSize 2 (es.drop k) = true := headSize_all fun e he => hr.size e (List.mem_of_mem_drop he)
      have hs3 : (es.drop k).take (out.length - k) = es.drop k := List.take_of_length_le (by simp [e2])
      have hs4 : (es.take k).length = k := by rw [List.length_take]; omega
      have hs5 : (es.drop k).length = out.length - k := by rw [List.length_drop, e2]
      have hs6 : k + (1 + (out.length - k)) = out.length + 1 := by omega
      have s2 := hsx.1
      have run : roundC false [1, 4, 5] H.length (exS CALL K.ref26_Tidy_l1b ⟨[.t (.sl (l.map World.e)), .und, .ref id 0 out.length, I i, .und, .und], H⟩) =
        some ⟨[.t (.sl (l.map World.e)), .und, .ref H.length 0 (out.length + 1), I (i + 1), .und, .und], H ++ [.arr 2 false 0 (es.take k ++ [.agg [.ref (H.length + 1) 0 (nth l i).tags.length, .ref (H.length + 2) 0 (nth l i).whr.length]] ++ es.drop k), .arr 1 false 0 (ints (nth l i).tags), .arr 2 false 0 (whs (nth l i).whr), .arr 2 false 0 [.agg [.ref (H.length + 1) 0 (nth l i).tags.length, .ref (H.length + 2) 0 (nth l i).whr.length]]]⟩ := by
        by_cases ck : k < out.length
        · have s1 := (hso _ (nth_mem ck)).1
          have sm := same_ok (nth out k).tags (nth l i).tags (by omega)
          have ct : ¬ (nth out k).tags = (nth l i).tags := fun h => c ⟨ck, h⟩
          have e3 := hr.el k ck
          have e4 := hr.ha k ck
          generalize nth out k = y at *
          obtain ⟨ta, wa⟩ := y
          generalize hx : nth l i = x at *
          obtain ⟨tb, wb⟩ := x
          simp only at s1 s2 sm e3 e4 ct cw
          simp only [ct, decide_false] at sm
          simp (disch := omega) only [go_sem, K.ref26_Tidy_l1b, ↓reduceIte, Nat.reduceAdd, Nat.reduceSub, l2, hx, cw, sm, e1, e2, e3, e4, hs1, hs2, hs3, hs4, hs5, hs6, hp_get, hp_get_len, hp_get_add, hp_set_len, hp_assoc, Nat.add_assoc, Nat.sub_zero]
        · have ek : k = out.length := by omega
          subst ek
          generalize hx : nth l i = x at *
          obtain ⟨tb, wb⟩ := x
          simp only at s2 cw
          simp (disch := omega) only [go_sem, K.ref26_Tidy_l1b, ↓reduceIte, Nat.reduceAdd, Nat.reduceSub, l2, hx, cw, e1, e2, hs1, hs2, hs3, hs4, hs5, hs6, hp_get, hp_get_len, hp_get_add, hp_set_len, hp_assoc, Nat.add_assoc, Nat.sub_zero]
      exact ⟨_, _, run, .inr ⟨H.length, _, _, _, by rw [List.length_append, List.length_append, List.length_take, List.length_drop, List.length_singleton, Nat.min_eq_left kl]; congr 1; omega, by rw [List.length_append, List.length_append, List.length_singleton]; omega, hr.ins kl (nth l i) _⟩⟩

theorem tidy1_len (out : List World) (x : World) : (tidy1 out x).length ≤ out.length + 1 ∧ out.length ≤ (tidy1 out x).length ∧ 1 ≤ (tidy1 out x).length := by
  have kl := tidyK_le out x
  unfold tidy1
  split
  · rename_i h
    rw [List.length_set]; omega
  · rw [List.length_append, List.length_append, List.length_take, List.length_drop, List.length_singleton]; omega
theorem tidyN_len (l : List World) : ∀ j, (tidyN l j).length ≤ j
  | 0 => Nat.le_refl _
  | j + 1 => by
    have := tidyN_len l j
    have := (tidy1_len (tidyN l j) (nth l j)).1
    simp only [tidyN]; omega

theorem joinF_frm (a b : Wh) : (joinF a b).1.frm.length ≤ a.frm.length := by
  unfold joinF
  split
  · simp only [minN_len]; omega
  · simp
theorem joinN_sz (a b : List Wh) (n : Nat) (h : ∀ w ∈ a, w.frm.length ≤ n) : ∀ p, p ≤ a.length → ∀ w ∈ joinN a b p, w.frm.length ≤ n
  | 0, _, w, hw => h w hw
  | p + 1, hp, w, hw => by
    simp only [joinN] at hw
    rcases List.mem_or_eq_of_mem_set hw with hw | rfl
    · exact joinN_sz a b n h p (by omega) w hw
    · exact Nat.le_trans (joinF_frm _ _) (h _ (nth_mem (by omega)))
theorem tidy1_sz {out : List World} {x : World} (ho : ∀ y ∈ out, y.sz) (hx : x.sz) : ∀ y ∈ tidy1 out x, y.sz := by
  intro y hy
  unfold tidy1 at hy
  split at hy
  · rename_i h
    rcases List.mem_or_eq_of_mem_set hy with hy | rfl
    · exact ho y hy
    · obtain ⟨s1, s2, s3⟩ := ho _ (nth_mem h.1)
      refine ⟨hx.1, ?_, ?_⟩
      · show (joinN _ _ _).length ≤ _
        rw [joinN_len]; exact s2
      · exact joinN_sz _ _ _ s3 _ (Nat.min_le_left _ _)
  · rcases List.mem_append.1 hy with hy | hy
    · rcases List.mem_append.1 hy with hy | hy
      · exact ho y (List.mem_of_mem_take hy)
      · rw [List.mem_singleton.1 hy]; exact hx
    · exact ho y (List.mem_of_mem_drop hy)
theorem tidyN_sz {l : List World} (hl : ∀ x ∈ l, x.sz) : ∀ j, j ≤ l.length → ∀ y ∈ tidyN l j, y.sz
  | 0, _, y, hy => by simp [tidyN] at hy
  | j + 1, h, y, hy => tidy1_sz (tidyN_sz hl j (by omega)) (hl _ (nth_mem (by omega))) y hy

theorem Rp.frz {H : Heap} {id : Nat} {es : List D} {fa fb : Nat → Nat} {out : List World} (hr : Rp H id es fa fb out) :
    mapO (frz H 8) es = some (out.map World.e) ∧ ∀ i ∈ es.flatMap (arrs H 8), i ≠ id := by
  have hl := hr.len
  have key : ∀ (j : Nat) (hj : j < out.length), Go.Ev.frz H 8 (.agg [.ref (fa j) 0 (nth out j).tags.length, .ref (fb j) 0 (nth out j).whr.length]) = some (nth out j).e ∧
      arrs H 8 (.agg [.ref (fa j) 0 (nth out j).tags.length, .ref (fb j) 0 (nth out j).whr.length]) = [fa j, fb j] := by
    intro j hj
    have h1 := hr.ha j hj
    have h2 := hr.hb j hj
    simp (disch := omega) only [go_sem, h1, h2, ints, whs, ↓reduceIte]
  constructor
  · have : ∀ (es : List D) (ts : List T), es.length = ts.length → (∀ (j : Nat) e t, es[j]? = some e → ts[j]? = some t → Go.Ev.frz H 8 e = some t) → mapO (Go.Ev.frz H 8) es = some ts := by
      intro es
      induction es with
      | nil => intro ts h _; cases ts with
        | nil => rfl
        | cons => simp at h
      | cons e es ih =>
        intro ts h hh
        cases ts with
        | nil => simp at h
        | cons t ts =>
          have h1 := hh 0 e t rfl rfl
          have h2 := ih ts (by simpa using h) fun j e t he ht => hh (j + 1) e t (by simpa using he) (by simpa using ht)
          simp only [mapO, h1, Option.bind_some, h2, Option.map_some]
    refine this es _ (by rw [List.length_map, hl]) fun j e t he ht => ?_
    have hj : j < out.length := by rw [← hl]; exact (List.getElem?_eq_some_iff.1 he).1
    rw [hr.el j hj] at he
    rw [map_nth _ hj] at ht
    cases he; cases ht
    exact (key j hj).1
  · intro i hi
    obtain ⟨e, he, hi⟩ := List.mem_flatMap.1 hi
    obtain ⟨j, hj⟩ := List.mem_iff_getElem?.1 he
    have hjl : j < out.length := by rw [← hl]; exact (List.getElem?_eq_some_iff.1 hj).1
    rw [hr.el j hjl] at hj
    cases hj
    rw [(key j hjl).2] at hi
    simp only [List.mem_cons, List.not_mem_nil, or_false] at hi
    rcases hi with rfl | rfl
    · exact hr.na j hjl
    · exact hr.nb j hjl

theorem tidy_ok (l : List World) (h0 : 1 ≤ l.length) (hl : l.length ≤ 100000) (hs : ∀ x ∈ l, x.sz) :
    CALL 1 N.ref26_Tidy [.t (.sl (l.map World.e))] [] = some (.ref 0 0 (tidyF l).length, [.arr 2 false 0 (((tidyF l).map World.e).map .t)]) := by
  refine CALL_of K.t_ref26_Tidy rfl ?_
  have loop : ∀ a b c : D, ∃ q, exS CALL K.ref26_Tidy_l1 ⟨[.t (.sl (l.map World.e)), a, .nil, I 0, b, c], []⟩ = some q ∧ ∃ v H, q = (.exit 0, ⟨[.t (.sl (l.map World.e)), .und, v, I l.length, .und, .und], H⟩) ∧ Rep H v (tidyF l) := by
    intro a b c
    refine loop_inv (fun j st => ∃ v H, st = ⟨[.t (.sl (l.map World.e)), .und, v, I j, .und, .und], H⟩ ∧ Rep H v (tidyN l j)) l.length _ ⟨.nil, [], rfl, .inl ⟨rfl, rfl⟩⟩ ?_ ?_
    · rintro j st hj ⟨v, H, rfl, hr⟩
      have ln := tidyN_len l j
      obtain ⟨v', H', h1, h2⟩ := tidy_round l j hj (by omega) (tidyN l j) (by omega) (tidyN_sz hs j (by omega)) (hs _ (nth_mem hj)) H v hr
      exact ⟨_, h1, v', H', rfl, h2⟩
    · rintro st ⟨v, H, rfl, hr⟩
      refine ⟨(.exit 0, ⟨[.t (.sl (l.map World.e)), .und, v, I l.length, .und, .und], H⟩), ?_, by simp, v, H, rfl, hr⟩
      simp (disch := omega) only [go_sem, K.ref26_Tidy_l1b, ↓reduceIte, Nat.reduceAdd, Nat.reduceSub]
  obtain ⟨q, hq, v, H, rfl, hr⟩ := loop .nil .und .und
  have nz : 1 ≤ (tidyF l).length := by
    unfold tidyF
    cases hn : l.length with
    | zero => omega
    | succ n => exact (tidy1_len _ _).2.2
  rcases hr with ⟨rfl, he⟩ | ⟨id, es, fa, fb, rfl, h0, hr⟩
  · rw [he] at nz; simp at nz
  · obtain ⟨f1, f2⟩ := hr.frz
    have fin := finish_live H id 2 (tidyF l).length es _ hr.arr hr.len.symm f1 f2
    simp (disch := omega) only [go_sem, K.ref26_Tidy, ↓reduceIte, Nat.reduceAdd, Nat.reduceSub, hq, fin]

end Go.Ev

/- Chapter 26 of the references: exchanges. -/
namespace Go.Ev
open Go
variable [Lib] [Has1] [Has2]

@[go_sem] theorem map2_nth_set {α β γ : Type} [Dat α] (f : β → γ) (g : α → β) {l : List α} {i j : Nat} {x : α} (h : j < l.length) : (((l.set i x).map g).map f)[j]? = some (f (g (nth (l.set i x) j))) := map2_nth f g (by rw [List.length_set]; exact h)

def swapL (l : List Int) (i j : Nat) : List Int := (l.set i (nth l j)).set j (nth l i)
def exchW (i j : Nat) (t : Int) (x : World) : World := ⟨swapL x.tags i j, (x.whr.set i (raiseF (nth x.whr i) t).1).set j (raiseF (nth x.whr j) t).1⟩
def exchS (i j : Nat) (t : Int) (x : World) (out : List World) : List World := if meetB (nth x.whr i) (nth x.whr j) t = true then out ++ [exchW i j t x] else out
def exchNb (i j : Nat) (t : Int) (ws : List World) : Nat → List World
  | 0 => ws
  | k + 1 => exchS i j t (nth ws k) (exchNb i j t ws k)
def exchBel (m : Mine) (b : Bel) (i j t : Int) : Bel × Int :=
  if belB m b = false then (b, 6) else if i < 0 ∨ ((nth b.worlds 0).tags.length : Int) ≤ i ∨ j < 0 ∨ ((nth b.worlds 0).tags.length : Int) ≤ j ∨ i = j then (b, 19)
  else if ¬ inT t then (b, 8) else if 24 < (tidyF (exchNb i.toNat j.toNat t b.worlds b.worlds.length)).length then (b, 44) else (⟨tidyF (exchNb i.toNat j.toNat t b.worlds b.worlds.length)⟩, 0)

theorem exchS_len (i j : Nat) (t : Int) (x : World) (out : List World) : out.length ≤ (exchS i j t x out).length ∧ (exchS i j t x out).length ≤ out.length + 1 := by
  unfold exchS; split <;> (try rw [List.length_append, List.length_singleton]) <;> omega
theorem exchNb_len (i j : Nat) (t : Int) (ws : List World) : ∀ k, ws.length ≤ (exchNb i j t ws k).length ∧ (exchNb i j t ws k).length ≤ ws.length + k
  | 0 => ⟨Nat.le_refl _, Nat.le_refl _⟩
  | k + 1 => by
    have h1 := exchNb_len i j t ws k
    have h2 := exchS_len i j t (nth ws k) (exchNb i j t ws k)
    simp only [exchNb]; omega

abbrev exH (m : Mine) (ws out : List World) : Heap := [.box (mineCells m), .box [.t (.sl (ws.map World.e))], .box [.nil], .arr 2 false 0 ((out.map World.e).map .t)]

theorem exch_round (m : Mine) (ws : List World) (hw : ws.length ≤ 100000) (i j : Nat) (hij : i ≠ j) (t : Int) (k : Nat) (hk : k < ws.length) (hs : (nth ws k).sz)
    (i1 : i < (nth ws k).tags.length) (j1 : j < (nth ws k).tags.length) (hl : (nth ws k).whr.length = (nth ws k).tags.length) (out : List World) (ho : out.length ≤ 1000000) :
    roundC true [0, 1, 5, 8, 9, 12] 4 (exS CALL K.ref26_Exchange_l1b ⟨[.und, .und, I i, I j, I t, .und, .bp 1 0, .bp 2 0, .und, .und, .ref 3 0 out.length, I k, .und], exH m ws out⟩) =
      some ⟨[.und, .und, I i, I j, I t, .und, .bp 1 0, .bp 2 0, .und, .und, .ref 3 0 (exchS i j t (nth ws k) out).length, I (k + 1), .und], exH m ws (exchS i j t (nth ws k) out)⟩ := by
  have c1 := copyWorld_ok1 (nth ws k) hs
  have mt := meet_ok (nth (nth ws k).whr i) (nth (nth ws k).whr j) t (hs.2.2 _ (nth_mem (by omega)))
  have r1 := raise_ok (nth (nth ws k).whr i) t (hs.2.2 _ (nth_mem (by omega)))
  have r2 := raise_ok (nth (nth ws k).whr j) t (hs.2.2 _ (nth_mem (by omega)))
  unfold exchS exchW swapL
  have n1 : ∀ w, nth ((nth ws k).whr.set i w) j = nth (nth ws k).whr j := fun w => by rw [set_nth _ _ (by omega), if_neg (fun e => hij e.symm)]
  generalize hx : nth ws k = x at *
  obtain ⟨tags, whr⟩ := x
  obtain ⟨s1, s2, s3⟩ := hs
  simp only at *
  generalize hwi : nth whr i = wi at *
  generalize hwj : nth whr j = wj at *
  generalize raiseF wi t = ri at *
  obtain ⟨⟨t1, f1⟩, e1⟩ := ri
  generalize raiseF wj t = rj at *
  obtain ⟨⟨t2, f2⟩, e2⟩ := rj
  obtain ⟨ti, fi⟩ := wi
  obtain ⟨tj, fj⟩ := wj
  simp only at *
  cases hm : meetB ⟨ti, fi⟩ ⟨tj, fj⟩ t with
  | true =>
    rw [hm] at mt
    simp (disch := omega) only [go_sem, K.ref26_Exchange_l1b, ↓reduceIte, exH, hx, hwi, hwj, n1, c1, mt, r1, r2, Nat.reduceAdd, Nat.reduceSub]
  | false =>
    rw [hm] at mt
    simp (disch := omega) only [go_sem, K.ref26_Exchange_l1b, ↓reduceIte, exH, hx, hwi, hwj, n1, c1, mt, r1, r2, Nat.reduceAdd, Nat.reduceSub, Bool.false_eq_true]

theorem raiseF_frm (w : Wh) (t : Int) : (raiseF w t).1.frm = w.frm := by unfold raiseF; split <;> rfl
theorem exchW_sz {i j : Nat} {t : Int} {x : World} (h : x.sz) (hi : i < x.whr.length) (hj : j < x.whr.length) : (exchW i j t x).sz := by
  obtain ⟨s1, s2, s3⟩ := h
  refine ⟨by simpa [exchW, swapL] using s1, by simpa [exchW] using s2, fun w hw => ?_⟩
  simp only [exchW] at hw
  rcases List.mem_or_eq_of_mem_set hw with hw | rfl
  · rcases List.mem_or_eq_of_mem_set hw with hw | rfl
    · exact s3 w hw
    · rw [raiseF_frm]; exact s3 _ (nth_mem hi)
  · rw [raiseF_frm]; exact s3 _ (nth_mem hj)
theorem exchNb_sz {ws : List World} (h : ∀ x ∈ ws, x.sz) {i j : Nat} {t : Int} (hi : ∀ k, k < ws.length → i < (nth ws k).whr.length) (hj : ∀ k, k < ws.length → j < (nth ws k).whr.length) : ∀ k, k ≤ ws.length → ∀ x ∈ exchNb i j t ws k, x.sz
  | 0, _, x, hx => h x hx
  | k + 1, hk, x, hx => by
    simp only [exchNb, exchS] at hx
    split at hx
    · rcases List.mem_append.1 hx with hx | hx
      · exact exchNb_sz h hi hj k (by omega) x hx
      · rw [List.mem_singleton.1 hx]; exact exchW_sz (h _ (nth_mem (by omega))) (hi k (by omega)) (hj k (by omega))
    · exact exchNb_sz h hi hj k (by omega) x hx

theorem exchBel_ok {m : Mine} (h : m.ok) (b : Bel) (hs : b.sz) (i j t : Int) :
    CALL 0 N.ref26_Exchange [.t m.e, .t b.e, I i, I j, I t] [] = some (.tup [.t (exchBel m b i j t).1.e, I (exchBel m b i j t).2], []) := by
  refine CALL_of K.t_ref26_Exchange rfl ?_
  have cb := copyBel_ok b hs
  have cb1 := copyBel_ok1 b hs
  have vb := belB_ok h b hs
  unfold exchBel
  cases hb : belB m b with
  | false =>
    rw [hb] at vb
    obtain ⟨ws⟩ := b
    simp (disch := omega) only [go_sem, K.ref26_Exchange, ↓reduceIte, cb, vb, Nat.reduceAdd, Nat.reduceSub]
  | true =>
    rw [hb] at vb
    obtain ⟨w1, w2, f1, f2, w5⟩ := belB_spec hb
    obtain ⟨ws⟩ := b
    obtain ⟨s1, s2⟩ := hs
    simp only at s1 s2 w1 w2 w5 f1 f2 cb cb1 vb ⊢
    have g0 : (ws.map World.e)[0]? = some (nth ws 0).e := map_nth _ (by omega)
    have wl : ∀ k, k < ws.length → (nth ws k).tags.length = (nth ws 0).tags.length ∧ (nth ws k).whr.length = (nth ws 0).tags.length := fun k hk => by
      obtain ⟨q1, q2, -⟩ := worldB_spec (w5 k hk)
      exact ⟨q1, q2⟩
    generalize hx : nth ws 0 = x at *
    obtain ⟨first, whr⟩ := x
    simp only at f1 f2 wl g0 ⊢
    rw [if_neg (by simp)]
    by_cases c1 : i < 0
    · rw [if_pos (by omega)]
      simp (disch := omega) only [go_sem, K.ref26_Exchange, ↓reduceIte, cb, vb, hx, g0, c1, Nat.reduceAdd, Nat.reduceSub]
    · by_cases c2 : (first.length : Int) ≤ i
      · rw [if_pos (by omega)]
        simp (disch := omega) only [go_sem, K.ref26_Exchange, ↓reduceIte, cb, vb, hx, g0, c1, c2, Nat.reduceAdd, Nat.reduceSub]
      · by_cases c3 : j < 0
        · rw [if_pos (by omega)]
          simp (disch := omega) only [go_sem, K.ref26_Exchange, ↓reduceIte, cb, vb, hx, g0, c1, c2, c3, Nat.reduceAdd, Nat.reduceSub]
        · by_cases c4 : (first.length : Int) ≤ j
          · rw [if_pos (by omega)]
            simp (disch := omega) only [go_sem, K.ref26_Exchange, ↓reduceIte, cb, vb, hx, g0, c1, c2, c3, c4, Nat.reduceAdd, Nat.reduceSub]
          · by_cases c5 : i = j
            · rw [if_pos (by omega)]
              simp (disch := omega) only [go_sem, K.ref26_Exchange, ↓reduceIte, cb, vb, hx, g0, c1, c2, c3, c4, c5, Nat.reduceAdd, Nat.reduceSub]
            · rw [if_neg (by omega)]
              by_cases ct : inT t
              · have ct' := ct
                unfold inT at ct'
                rw [if_neg (fun h => h ct)]
                obtain ⟨i', rfl⟩ := Int.eq_ofNat_of_zero_le (show 0 ≤ i by omega)
                obtain ⟨j', rfl⟩ := Int.eq_ofNat_of_zero_le (show 0 ≤ j by omega)
                simp only [Int.toNat_natCast]
                have ln := exchNb_len i' j' t ws
                have loop : ∀ a b c d e f : D, exS CALL K.ref26_Exchange_l1 ⟨[a, b, I i', I j', I t, c, .bp 1 0, .bp 2 0, d, e, .ref 3 0 ws.length, I 0, f], exH m ws ws⟩ =
                    some (.exit 0, ⟨[.und, .und, I i', I j', I t, .und, .bp 1 0, .bp 2 0, .und, .und, .ref 3 0 (exchNb i' j' t ws ws.length).length, I ws.length, .und], exH m ws (exchNb i' j' t ws ws.length)⟩) := by
                  intro a b c d e f
                  refine loop_up (fun k => ⟨[.und, .und, I i', I j', I t, .und, .bp 1 0, .bp 2 0, .und, .und, .ref 3 0 (exchNb i' j' t ws k).length, I k, .und], exH m ws (exchNb i' j' t ws k)⟩) ws.length rfl ?_ ?_ (by simp)
                  · intro k hk
                    obtain ⟨q1, q2⟩ := wl k hk
                    have := ln k
                    exact exch_round m ws (by omega) i' j' (by omega) t k hk (s2 _ (nth_mem hk)) (by omega) (by omega) (by omega) _ (by omega)
                  · have := ln ws.length
                    generalize exchNb i' j' t ws ws.length = L at *
                    simp (disch := omega) only [go_sem, K.ref26_Exchange_l1b, ↓reduceIte, exH, Nat.reduceAdd, Nat.reduceSub]
                have ln := ln ws.length
                have sz := exchNb_sz (t := t) s2 (i := i') (j := j') (fun k hk => by obtain ⟨q1, q2⟩ := wl k hk; omega) (fun k hk => by obtain ⟨q1, q2⟩ := wl k hk; omega) ws.length (Nat.le_refl _)
                have ty := tidy_ok (exchNb i' j' t ws ws.length) (by omega) (by omega) sz
                generalize exchNb i' j' t ws ws.length = L at *
                generalize tidyF L = Z at *
                simp only [exH] at loop
                by_cases c6 : 24 < Z.length
                · simp (disch := omega) only [go_sem, K.ref26_Exchange, ↓reduceIte, cb, cb1, vb, hx, g0, c1, c2, c3, c4, c5, c6, loop, ty, Nat.reduceAdd, Nat.reduceSub]
                · simp (disch := omega) only [go_sem, K.ref26_Exchange, ↓reduceIte, cb, cb1, vb, hx, g0, c1, c2, c3, c4, c5, c6, loop, ty, Nat.reduceAdd, Nat.reduceSub]
              · rw [if_pos ct]
                unfold inT at ct
                by_cases c6 : t < 0
                · simp (disch := omega) only [go_sem, K.ref26_Exchange, ↓reduceIte, cb, vb, hx, g0, c1, c2, c3, c4, c5, c6, Nat.reduceAdd, Nat.reduceSub]
                · simp (disch := omega) only [go_sem, K.ref26_Exchange, ↓reduceIte, cb, vb, hx, g0, c1, c2, c3, c4, c5, c6, Nat.reduceAdd, Nat.reduceSub]

end Go.Ev

/- Made inputs: beliefs. -/
namespace Go.Ev
open Go
variable [Lib] [Has1] [Has2]

def tagsN : Nat → List Int
  | 0 => []
  | k + 1 => tagsN k ++ [3 + (k : Int) * 2]
def Dice.nextsN (d : Dice) (n : Int) : Nat → List Int × Dice
  | 0 => ([], d)
  | k + 1 => ((d.nextsN n k).1 ++ [((d.nextsN n k).2.next n).1], ((d.nextsN n k).2.next n).2)
theorem tagsN_len : ∀ k, (tagsN k).length = k
  | 0 => rfl
  | k + 1 => by simp [tagsN, tagsN_len k]
theorem Dice.nextsN_len (d : Dice) (n : Int) : ∀ k, (d.nextsN n k).1.length = k
  | 0 => rfl
  | k + 1 => by simp [Dice.nextsN, d.nextsN_len n k]
theorem Dice.nextsN_light {d : Dice} (h : d.light) (n : Int) : ∀ k, (d.nextsN n k).2.light
  | 0 => h
  | k + 1 => Dice.next_light (Dice.nextsN_light h n k) n

structure BSt where
  b : Bel
  t : Int
  d : Dice

def Dice.belStep (m : Mine) (n : Int) (s : BSt) : BSt :=
  let a := s.d.next 60
  let c := a.2.next 3
  if c.1 = 0 then
    let i := c.2.next n
    let j := i.2.next n
    let r := exchBel m s.b i.1 j.1 (s.t + a.1)
    ⟨if r.2 = 0 then r.1 else s.b, s.t + a.1, j.2⟩
  else if c.1 = 1 then
    let g := c.2.next n
    let l := g.2.someN m.places.length
    let e := l.2.next 9
    let r := seeBel m s.b (3 + 2 * g.1) l.1 (s.t + a.1) (s.t + a.1 + e.1)
    ⟨if r.2 = 0 then r.1 else s.b, s.t + a.1, e.2⟩
  else
    let g := c.2.next n
    let l := g.2.someN m.places.length
    let e := l.2.next 40
    let r := absBel m s.b (3 + 2 * g.1) l.1 (s.t + a.1) (s.t + a.1 + 50) e.1
    ⟨if r.2 = 0 then r.1 else s.b, s.t + a.1, e.2⟩
def Dice.belN (m : Mine) (n : Int) (s : BSt) : Nat → BSt
  | 0 => s
  | k + 1 => Dice.belStep m n (Dice.belN m n s k)

def Dice.belP (d : Dice) : Nat := (1 + (d.next 3).1).toNat
def Dice.belS (d : Dice) (m : Mine) : List Int × Dice := (d.next 3).2.nextsN m.places.length d.belP
def Dice.bel0 (d : Dice) (m : Mine) : BSt := ⟨(startBel m (tagsN d.belP) (d.belS m).1 ((d.belS m).2.next 100).1).1, 100, (((d.belS m).2.next 100).2.next 5).2⟩
def Dice.belK (d : Dice) (m : Mine) : Nat := (((d.belS m).2.next 100).2.next 5).1.toNat
def Dice.belF (d : Dice) (m : Mine) : BSt := Dice.belN m d.belP (d.bel0 m) (d.belK m)
def Dice.belief (d : Dice) (m : Mine) : Bel × Dice := ((d.belF m).b, (d.belF m).d)

/-- What beliefs keep: sizes. -/
structure WOk (m : Mine) (N : Nat) (x : World) : Prop where
  tg : x.tags.length = N
  wh : x.whr.length = N
  fr : ∀ w ∈ x.whr, w.frm.length = m.places.length
  ti : ∀ w ∈ x.whr, inT w.time
structure BOk (m : Mine) (N : Nat) (b : Bel) : Prop where
  w1 : 1 ≤ b.worlds.length
  w2 : b.worlds.length ≤ 24
  n1 : 1 ≤ N
  n2 : N ≤ 12
  ws : ∀ x ∈ b.worlds, WOk m N x

theorem WOk.sz {m : Mine} {N : Nat} {x : World} (h : WOk m N x) (hm : m.ok) (hn : N ≤ 12) : x.sz := by
  have np := hm.np
  obtain ⟨t1, t2, t3, -⟩ := h
  exact ⟨by omega, by omega, fun w hw => by rw [t3 w hw]; omega⟩
theorem BOk.sz {m : Mine} {N : Nat} {b : Bel} (h : BOk m N b) (hm : m.ok) : b.sz :=
  ⟨by have := h.w2; omega, fun x hx => (h.ws x hx).sz hm h.n2⟩

theorem belStep_light {m : Mine} {n : Int} {s : BSt} (h : s.d.light) : (Dice.belStep m n s).d.light := by
  unfold Dice.belStep
  simp only
  have l1 := Dice.next_light h 60
  generalize s.d.next 60 = a at *
  obtain ⟨a1, d1⟩ := a
  simp only at l1 ⊢
  have l2 := Dice.next_light l1 3
  generalize d1.next 3 = c at *
  obtain ⟨c1, d2⟩ := c
  simp only at l2 ⊢
  split
  · exact Dice.next_light (Dice.next_light l2 n) n
  · split
    · exact Dice.next_light (Dice.someN_light (Dice.next_light l2 n) _) 9
    · exact Dice.next_light (Dice.someN_light (Dice.next_light l2 n) _) 40

abbrev blH (m : Mine) (p1 p2 : Bool) (tags starts : List Int) (s : BSt) : Heap := [s.d.obj, .box (mineCells m), .box [.nil], .arr 1 p1 0 (ints tags), .arr 1 p2 0 (ints starts), .box [.t (.sl (s.b.worlds.map World.e))]]

theorem bel_round {m : Mine} (hm : m.ok) (n : Int) (n1 : 1 ≤ n) (n2 : n ≤ 12) (tags starts : List Int) (s : BSt) (hd : s.d.light) (hb : s.b.sz) (ht : 0 ≤ s.t) (ht2 : s.t ≤ 1000000) (k : Nat) (hk : k ≤ 100) (p1 p2 : Bool) :
    roundC true [1, 5, 6, 7, 11, 12, 13, 14, 15, 16, 17] 6 (exS CALL K.made_Dice_Belief_l2b ⟨[.bp 0 0, .und, .bp 1 0, .bp 2 0, I n, .und, .und, .und, .bp 5 0, I s.t, I (k + 1), .und, .und, .und, .und, .und, .und, .und], blH m p1 p2 tags starts s⟩) =
    some ⟨[.bp 0 0, .und, .bp 1 0, .bp 2 0, I n, .und, .und, .und, .bp 5 0, I (Dice.belStep m n s).t, I k, .und, .und, .und, .und, .und, .und, .und], blH m p1 p2 tags starts (Dice.belStep m n s)⟩ := by
  obtain ⟨b, t, d⟩ := s
  simp only at hd hb ht ht2
  unfold Dice.belStep
  simp only
  have np := hm.np
  have h1 := next_ok d 60 (by omega) hd
  have l1 := Dice.next_light hd 60
  have a0 := d.next_lo 60
  have a9 := d.next_hi (n := 60) (by omega)
  generalize d.next 60 = a at *
  obtain ⟨x1, d1⟩ := a
  simp only at h1 l1 a0 a9 ⊢
  have h2 := next_ok d1 3 (by omega) l1
  have l2 := Dice.next_light l1 3
  have c0 := d1.next_lo 3
  have c9 := d1.next_hi (n := 3) (by omega)
  generalize d1.next 3 = c at *
  obtain ⟨x2, d2⟩ := c
  simp only at h2 l2 c0 c9 ⊢
  have h3 := next_ok d2 n (by omega) l2
  have l3 := Dice.next_light l2 n
  have g0 := d2.next_lo n
  have g9 := d2.next_hi (n := n) n1
  generalize d2.next n = g at *
  obtain ⟨x3, d3⟩ := g
  simp only at h3 l3 g0 g9 ⊢
  by_cases e0 : x2 = 0
  · simp only [if_pos e0]
    have h4 := next_ok d3 n (by omega) l3
    generalize d3.next n = g at *
    obtain ⟨x4, d4⟩ := g
    simp only at h4 ⊢
    have ex := exchBel_ok hm b hb x3 x4 (t + x1)
    generalize exchBel m b x3 x4 (t + x1) = r at *
    obtain ⟨⟨ws'⟩, er⟩ := r
    obtain ⟨ws⟩ := b
    simp only at ex ⊢
    subst e0
    by_cases e : er = 0
    · simp (disch := omega) only [go_sem, K.made_Dice_Belief_l2b, ↓reduceIte, blH, h1, h2, h3, h4, ex, e, Nat.reduceAdd, Nat.reduceSub]
    · simp (disch := omega) only [go_sem, K.made_Dice_Belief_l2b, ↓reduceIte, blH, h1, h2, h3, h4, ex, e, Nat.reduceAdd, Nat.reduceSub]
  · simp only [if_neg e0]
    have h4 := some_ok d3 m.places.length (by omega) l3
    have l4 := Dice.someN_light l3 m.places.length
    have ln := d3.someN_len m.places.length
    generalize d3.someN m.places.length = q at *
    obtain ⟨l, d4⟩ := q
    simp only at h4 l4 ln ⊢
    by_cases e1 : x2 = 1
    · simp only [if_pos e1]
      have h5 := next_ok d4 9 (by omega) l4
      have f0 := d4.next_lo 9
      have f9 := d4.next_hi (n := 9) (by omega)
      generalize d4.next 9 = g at *
      obtain ⟨x5, d5⟩ := g
      simp only at h5 f0 f9 ⊢
      have ex := seeBel_ok hm b hb (3 + 2 * x3) l (by omega) (t + x1) (t + x1 + x5)
      generalize seeBel m b (3 + 2 * x3) l (t + x1) (t + x1 + x5) = r at *
      obtain ⟨⟨ws'⟩, er⟩ := r
      obtain ⟨ws⟩ := b
      simp only at ex ⊢
      subst e1
      by_cases e : er = 0
      · simp (disch := omega) only [go_sem, K.made_Dice_Belief_l2b, ↓reduceIte, blH, h1, h2, h3, h4, h5, ex, e, Nat.reduceAdd, Nat.reduceSub]
      · simp (disch := omega) only [go_sem, K.made_Dice_Belief_l2b, ↓reduceIte, blH, h1, h2, h3, h4, h5, ex, e, Nat.reduceAdd, Nat.reduceSub]
    · simp only [if_neg e1]
      have h5 := next_ok d4 40 (by omega) l4
      have f0 := d4.next_lo 40
      have f9 := d4.next_hi (n := 40) (by omega)
      generalize d4.next 40 = g at *
      obtain ⟨x5, d5⟩ := g
      simp only at h5 f0 f9 ⊢
      have ex := absBel_ok hm b hb (3 + 2 * x3) l (by omega) (t + x1) (t + x1 + 50) x5
      generalize absBel m b (3 + 2 * x3) l (t + x1) (t + x1 + 50) x5 = r at *
      obtain ⟨⟨ws'⟩, er⟩ := r
      obtain ⟨ws⟩ := b
      simp only at ex ⊢
      by_cases e : er = 0
      · simp (disch := omega) only [go_sem, K.made_Dice_Belief_l2b, ↓reduceIte, blH, h1, h2, h3, h4, h5, ex, e, e0, e1, Nat.reduceAdd, Nat.reduceSub]
      · simp (disch := omega) only [go_sem, K.made_Dice_Belief_l2b, ↓reduceIte, blH, h1, h2, h3, h4, h5, ex, e, e0, e1, Nat.reduceAdd, Nat.reduceSub]

theorem startF_ok {m : Mine} (hm : m.ok) {p t : Int} (p0 : 0 ≤ p) (p1 : p < m.places.length) (ht : inT t) : (startF m p t).2 = 0 ∧ (startF m p t).1.frm.length = m.places.length := by
  unfold startF
  rw [if_neg (by omega), if_pos ht]
  refine ⟨rfl, ?_⟩
  exact closeF_len hm t ht none (fun l h => by cases h) (by simp) (bnd_set (neverL_bnd _) ht.1 (by have := ht.2; omega))
theorem startF_ti {m : Mine} {p t : Int} (ht : inT t) : inT (startF m p t).1.time := by
  unfold startF
  split
  · unfold inT; simp
  · exact ht
theorem seeF_ti {m : Mine} (w : Wh) (l : List Int) (a b : Int) (hw : inT w.time) : inT (seeF m w l a b).1.time := by
  unfold seeF
  split
  · exact hw
  · rename_i h
    have h0 : askedF m w l a b = 0 := by simpa using h
    obtain ⟨v1, v2, v3, v4, v5, v6⟩ := askedF_0 h0
    split
    · exact hw
    · split
      · exact v5
      · exact hw
theorem absF_ti {m : Mine} (w : Wh) (l : List Int) (a b bl : Int) (hw : inT w.time) : inT (absF m w l a b bl).1.time := by
  unfold absF
  split
  · exact hw
  · rename_i h
    have h0 : askedF m w l a b = 0 := by simpa using h
    obtain ⟨v1, v2, v3, v4, v5, v6⟩ := askedF_0 h0
    split
    · exact hw
    · split
      · exact hw
      · split
        · exact hw
        · exact v5
theorem joinF_ti {a b : Wh} (ha : inT a.time) (hb : inT b.time) : inT (joinF a b).1.time := by
  unfold joinF
  split
  · unfold inT at *; simp only; omega
  · unfold inT; simp
theorem raiseF_ti {w : Wh} {t : Int} (h : inT w.time) : inT (raiseF w t).1.time := by
  unfold raiseF
  split
  · exact h
  · unfold inT at *; simp only; omega
theorem joinN_ti (a b : List Wh) (ha : ∀ w ∈ a, inT w.time) (hb : ∀ w ∈ b, inT w.time) : ∀ p, p ≤ a.length → p ≤ b.length → ∀ w ∈ joinN a b p, inT w.time
  | 0, _, _, w, hw => ha w hw
  | p + 1, h1, h2, w, hw => by
    simp only [joinN] at hw
    rcases List.mem_or_eq_of_mem_set hw with hw | rfl
    · exact joinN_ti a b ha hb p (by omega) (by omega) w hw
    · exact joinF_ti (ha _ (nth_mem (by omega))) (hb _ (nth_mem (by omega)))
theorem seeF_len {m : Mine} (hm : m.ok) (w : Wh) (l : List Int) (a b : Int) (hw : w.frm.length = m.places.length) : (seeF m w l a b).1.frm.length = m.places.length := by
  unfold seeF
  split
  · exact hw
  · rename_i h
    have h0 : askedF m w l a b = 0 := by simpa using h
    obtain ⟨v1, v2, v3, v4, v5, v6⟩ := askedF_0 h0
    obtain ⟨w1, w2, w3, w4⟩ := validB_spec v1
    have hb : bnd w.frm := fun x hx => plT_bnd (w3 x hx)
    split
    · exact hw
    · split
      · refine closeF_len hm a v4 none (fun l h => by cases h) (seeN_len _ _ _ _ _) (seeN_bnd hb _ _ ?_ _ (Nat.le_refl _))
        intro p hp
        obtain ⟨j, hj⟩ := List.mem_iff_getElem?.1 hp
        have hjl := (List.getElem?_eq_some_iff.1 hj).1
        obtain ⟨q1, q2, -⟩ := setB_nth v3 hjl
        rw [nth_eq hj] at q1 q2
        omega
      · exact hw
theorem absF_len {m : Mine} (hm : m.ok) (w : Wh) (l : List Int) (a b bl : Int) (hw : w.frm.length = m.places.length) : (absF m w l a b bl).1.frm.length = m.places.length := by
  unfold absF
  split
  · exact hw
  · rename_i h
    have h0 : askedF m w l a b = 0 := by simpa using h
    obtain ⟨v1, v2, v3, v4, v5, v6⟩ := askedF_0 h0
    obtain ⟨w1, w2, w3, w4⟩ := validB_spec v1
    have hb : bnd w.frm := fun x hx => plT_bnd (w3 x hx)
    split
    · exact hw
    · split
      · exact hw
      · split
        · exact hw
        · rename_i h1 h2 h3
          have hlen := setB_len v3
          have np := hm.np
          have h1 : inT bl := by simpa using h1
          unfold inT at v4 v5 w2 h1
          have t1 : inT (b - bl) := by unfold inT; omega
          have hi : ∀ s, some l = some s → s ≠ [] ∧ s.length ≤ 64 := by
            intro s hs; cases hs; exact ⟨v2, by omega⟩
          have ln := absN_len w.frm l l.length
          have lb := absN_bnd hb l l.length
          exact closeF_len hm b v5 none (fun l h => by cases h) (closeF_len hm _ t1 _ hi (by omega) lb) (closeF_bnd hm _ t1 _ hi (by omega) lb)

theorem putW_ok {m : Mine} {N : Nat} {tag : Int} {x : World} {w : Wh} (hx : WOk m N x) (hw : w.frm.length = m.places.length) (hw2 : inT w.time) : WOk m N (putW tag x w) := by
  obtain ⟨t1, t2, t3, t4⟩ := hx
  refine ⟨t1, by simpa [putW] using t2, fun y hy => ?_, fun y hy => ?_⟩
  · simp only [putW] at hy
    rcases List.mem_or_eq_of_mem_set hy with hy | rfl
    · exact t3 y hy
    · exact hw
  · simp only [putW] at hy
    rcases List.mem_or_eq_of_mem_set hy with hy | rfl
    · exact t4 y hy
    · exact hw2

theorem seeBel_good {m : Mine} (hm : m.ok) {N : Nat} {b : Bel} (hb : BOk m N b) (tag : Int) (l : List Int) (a c : Int) : BOk m N (if (seeBel m b tag l a c).2 = 0 then (seeBel m b tag l a c).1 else b) := by
  split
  · rename_i h0
    unfold seeBel at h0 ⊢
    by_cases e0 : borneF m b tag = 0
    · simp only [e0, ne_eq, not_true_eq_false, if_false] at h0 ⊢
      obtain ⟨_, bb⟩ := borne_0 e0
      cases hf : (List.range b.worlds.length).find? (seeBad m tag l a c b.worlds) with
      | some i => simp only [hf]; exact hb
      | none =>
        simp only [hf] at h0 ⊢
        split at h0
        · simp at h0
        · rename_i hl
          rw [if_neg hl]
          have ln := seeNb_len m tag l a c b.worlds b.worlds.length
          refine ⟨by simp only; omega, by have := hb.w2; simp only; omega, hb.n1, hb.n2, ?_⟩
          have key : ∀ j, j ≤ b.worlds.length → ∀ x ∈ seeNb m tag l a c b.worlds j, WOk m N x := by
            intro j
            induction j with
            | zero => intro _ x hx; simp [seeNb] at hx
            | succ j ih =>
              intro hj x hx
              have wj := hb.ws _ (nth_mem (l := b.worlds) (j := j) (by omega))
              obtain ⟨b1, b2⟩ := bb j (by omega)
              simp only [seeNb, stepW] at hx
              split at hx
              · exact ih (by omega) x hx
              · rcases List.mem_append.1 hx with hx | hx
                · exact ih (by omega) x hx
                · rw [List.mem_singleton.1 hx]
                  split
                  · exact putW_ok wj (seeF_len hm _ l a c (wj.fr _ (nth_mem (by omega)))) (seeF_ti _ l a c (wj.ti _ (nth_mem (by omega))))
                  · exact wj
          exact key _ (Nat.le_refl _)
    · rw [if_pos e0] at h0 ⊢
      exact hb
  · exact hb

theorem absBel_good {m : Mine} (hm : m.ok) {N : Nat} {b : Bel} (hb : BOk m N b) (tag : Int) (l : List Int) (a c bl : Int) : BOk m N (if (absBel m b tag l a c bl).2 = 0 then (absBel m b tag l a c bl).1 else b) := by
  split
  · rename_i h0
    unfold absBel at h0 ⊢
    by_cases e0 : borneF m b tag = 0
    · simp only [e0, ne_eq, not_true_eq_false, if_false] at h0 ⊢
      obtain ⟨_, bb⟩ := borne_0 e0
      cases hf : (List.range b.worlds.length).find? (absBad m tag l a c bl b.worlds) with
      | some i => simp only [hf]; exact hb
      | none =>
        simp only [hf]
        have ln := absNb_len m tag l a c bl b.worlds b.worlds.length
        refine ⟨by have := hb.w1; simp only; omega, by have := hb.w2; simp only; omega, hb.n1, hb.n2, ?_⟩
        have key : ∀ j, j ≤ b.worlds.length → ∀ x ∈ absNb m tag l a c bl b.worlds j, WOk m N x := by
          intro j
          induction j with
          | zero => intro _ x hx; simp [absNb] at hx
          | succ j ih =>
            intro hj x hx
            have wj := hb.ws _ (nth_mem (l := b.worlds) (j := j) (by omega))
            obtain ⟨b1, b2⟩ := bb j (by omega)
            simp only [absNb, stepA] at hx
            rcases List.mem_append.1 hx with hx | hx
            · exact ih (by omega) x hx
            · rw [List.mem_singleton.1 hx]
              split
              · exact putW_ok wj (absF_len hm _ l a c bl (wj.fr _ (nth_mem (by omega)))) (absF_ti _ l a c bl (wj.ti _ (nth_mem (by omega))))
              · exact wj
        exact key _ (Nat.le_refl _)
    · rw [if_pos e0] at h0 ⊢
      exact hb
  · exact hb

theorem joinF_len {m : Mine} {a b : Wh} (ha : a.frm.length = m.places.length) (hb : b.frm.length = m.places.length) : (joinF a b).1.frm.length = m.places.length := by
  unfold joinF
  rw [if_pos (by omega)]
  simp only [minN_len]; exact ha
theorem joinN_fr {m : Mine} (a b : List Wh) (ha : ∀ w ∈ a, w.frm.length = m.places.length) (hb : ∀ w ∈ b, w.frm.length = m.places.length) : ∀ p, p ≤ a.length → p ≤ b.length → ∀ w ∈ joinN a b p, w.frm.length = m.places.length
  | 0, _, _, w, hw => ha w hw
  | p + 1, h1, h2, w, hw => by
    simp only [joinN] at hw
    rcases List.mem_or_eq_of_mem_set hw with hw | rfl
    · exact joinN_fr a b ha hb p (by omega) (by omega) w hw
    · exact joinF_len (ha _ (nth_mem (by omega))) (hb _ (nth_mem (by omega)))
theorem tidy1_good {m : Mine} {N : Nat} {out : List World} {x : World} (ho : ∀ y ∈ out, WOk m N y) (hx : WOk m N x) : ∀ y ∈ tidy1 out x, WOk m N y := by
  intro y hy
  unfold tidy1 at hy
  split at hy
  · rename_i h
    rcases List.mem_or_eq_of_mem_set hy with hy | rfl
    · exact ho y hy
    · obtain ⟨s1, s2, s3, s4⟩ := ho _ (nth_mem h.1)
      refine ⟨hx.tg, ?_, joinN_fr _ _ s3 hx.fr _ (Nat.min_le_left _ _) (Nat.min_le_right _ _), joinN_ti _ _ s4 hx.ti _ (Nat.min_le_left _ _) (Nat.min_le_right _ _)⟩
      show (joinN _ _ _).length = _
      rw [joinN_len]; exact s2
  · rcases List.mem_append.1 hy with hy | hy
    · rcases List.mem_append.1 hy with hy | hy
      · exact ho y (List.mem_of_mem_take hy)
      · rw [List.mem_singleton.1 hy]; exact hx
    · exact ho y (List.mem_of_mem_drop hy)
theorem tidyN_good {m : Mine} {N : Nat} {l : List World} (hl : ∀ x ∈ l, WOk m N x) : ∀ j, j ≤ l.length → ∀ y ∈ tidyN l j, WOk m N y
  | 0, _, y, hy => by simp [tidyN] at hy
  | j + 1, h, y, hy => tidy1_good (tidyN_good hl j (by omega)) (hl _ (nth_mem (by omega))) y hy

theorem exchW_good {m : Mine} {N : Nat} {i j : Nat} {t : Int} {x : World} (h : WOk m N x) (hi : i < N) (hj : j < N) : WOk m N (exchW i j t x) := by
  obtain ⟨s1, s2, s3, s4⟩ := h
  refine ⟨by simpa [exchW, swapL] using s1, by simpa [exchW] using s2, fun w hw => ?_, fun w hw => ?_⟩
  · simp only [exchW] at hw
    rcases List.mem_or_eq_of_mem_set hw with hw | rfl
    · rcases List.mem_or_eq_of_mem_set hw with hw | rfl
      · exact s3 w hw
      · rw [raiseF_frm]; exact s3 _ (nth_mem (by omega))
    · rw [raiseF_frm]; exact s3 _ (nth_mem (by omega))
  · simp only [exchW] at hw
    rcases List.mem_or_eq_of_mem_set hw with hw | rfl
    · rcases List.mem_or_eq_of_mem_set hw with hw | rfl
      · exact s4 w hw
      · exact raiseF_ti (s4 _ (nth_mem (by omega)))
    · exact raiseF_ti (s4 _ (nth_mem (by omega)))
theorem exchNb_good {m : Mine} {N : Nat} {ws : List World} (h : ∀ x ∈ ws, WOk m N x) {i j : Nat} {t : Int} (hi : i < N) (hj : j < N) : ∀ k, k ≤ ws.length → ∀ x ∈ exchNb i j t ws k, WOk m N x
  | 0, _, x, hx => h x hx
  | k + 1, hk, x, hx => by
    simp only [exchNb, exchS] at hx
    split at hx
    · rcases List.mem_append.1 hx with hx | hx
      · exact exchNb_good h hi hj k (by omega) x hx
      · rw [List.mem_singleton.1 hx]; exact exchW_good (h _ (nth_mem (by omega))) hi hj
    · exact exchNb_good h hi hj k (by omega) x hx

theorem exchBel_good {m : Mine} {N : Nat} {b : Bel} (hb : BOk m N b) (i j t : Int) : BOk m N (if (exchBel m b i j t).2 = 0 then (exchBel m b i j t).1 else b) := by
  split
  · rename_i h0
    unfold exchBel at h0 ⊢
    split at h0
    · simp at h0
    · rename_i c1
      rw [if_neg c1]
      split at h0
      · simp at h0
      · rename_i c2
        rw [if_neg c2]
        split at h0
        · simp at h0
        · rename_i c3
          rw [if_neg c3]
          split at h0
          · simp at h0
          · rename_i c4
            rw [if_neg c4]
            have t0 := (hb.ws _ (nth_mem (l := b.worlds) (j := 0) (by have := hb.w1; omega))).tg
            have ln := exchNb_len i.toNat j.toNat t b.worlds b.worlds.length
            have w1 := hb.w1
            refine ⟨?_, by simp only; omega, hb.n1, hb.n2, ?_⟩
            · simp only [tidyF]
              cases hn : (exchNb i.toNat j.toNat t b.worlds b.worlds.length).length with
              | zero => omega
              | succ n => exact (tidy1_len _ _).2.2
            · exact tidyN_good (exchNb_good hb.ws (by omega) (by omega) _ (Nat.le_refl _)) _ (Nat.le_refl _)
  · exact hb

theorem belStep_good {m : Mine} (hm : m.ok) {N : Nat} {n : Int} {s : BSt} (hb : BOk m N s.b) : BOk m N (Dice.belStep m n s).b := by
  unfold Dice.belStep
  simp only
  split
  · exact exchBel_good hb _ _ _
  · split
    · exact seeBel_good hm hb _ _ _ _
    · exact absBel_good hm hb _ _ _ _ _

theorem belStep_t {m : Mine} {n : Int} {s : BSt} : s.t ≤ (Dice.belStep m n s).t ∧ (Dice.belStep m n s).t ≤ s.t + 60 := by
  have h1 := s.d.next_lo 60
  have h2 := s.d.next_hi (n := 60) (by omega)
  unfold Dice.belStep
  simp only
  split
  · simp only; omega
  · split <;> (simp only; omega)

theorem belN_good {m : Mine} (hm : m.ok) {N : Nat} {n : Int} {s : BSt} (hb : BOk m N s.b) (hd : s.d.light) (ht : s.t = 100) : ∀ k, BOk m N (Dice.belN m n s k).b ∧ (Dice.belN m n s k).d.light ∧ 100 ≤ (Dice.belN m n s k).t ∧ (Dice.belN m n s k).t ≤ 100 + 60 * k
  | 0 => ⟨hb, hd, by simp [Dice.belN, ht], by simp [Dice.belN, ht]⟩
  | k + 1 => by
    obtain ⟨h1, h2, h3, h4⟩ := belN_good hm hb hd ht k
    have ht := belStep_t (m := m) (n := n) (s := Dice.belN m n s k)
    exact ⟨belStep_good hm h1, belStep_light h2, by simp only [Dice.belN]; omega, by simp only [Dice.belN]; omega⟩

theorem tagsN_proper {n : Nat} (h : n ≤ 3) : properB (tagsN n) = true := by
  match n, h with
  | 0, _ => decide
  | 1, _ => decide
  | 2, _ => decide
  | 3, _ => decide

theorem nextsN_in (d : Dice) {n : Int} (hn : 1 ≤ n) : ∀ k, ∀ x ∈ (d.nextsN n k).1, 0 ≤ x ∧ x < n
  | 0, x, hx => by simp [Dice.nextsN] at hx
  | k + 1, x, hx => by
    simp only [Dice.nextsN, List.mem_append, List.mem_singleton] at hx
    rcases hx with hx | rfl
    · exact nextsN_in d hn k x hx
    · exact ⟨Dice.next_lo _ _, Dice.next_hi _ hn⟩

theorem belP_bd (d : Dice) : 1 ≤ d.belP ∧ d.belP ≤ 3 := by
  have h1 := d.next_lo 3
  have h2 := d.next_hi (n := 3) (by omega)
  unfold Dice.belP; omega

theorem bel0_is {m : Mine} (hm : m.ok) (h1 : 1 ≤ m.places.length) (d : Dice) :
    (startBel m (tagsN d.belP) (d.belS m).1 ((d.belS m).2.next 100).1) = (⟨[⟨tagsN d.belP, startWs m (d.belS m).1 ((d.belS m).2.next 100).1 (tagsN d.belP).length⟩]⟩, 0) := by
  have pb := belP_bd d
  have tl := tagsN_len d.belP
  have sl : (d.belS m).1.length = d.belP := Dice.nextsN_len _ _ _
  have t0 := (d.belS m).2.next_lo 100
  have t9 := (d.belS m).2.next_hi (n := 100) (by omega)
  have np := hm.np
  unfold startBel
  rw [if_pos (by omega), if_pos (tagsN_proper (by omega))]
  have : (List.range (tagsN d.belP).length).find? (fun i => !decide ((startF m (nth (d.belS m).1 i) ((d.belS m).2.next 100).1).2 = 0)) = none := by
    rw [List.find?_eq_none]
    intro i hi
    have hi : i < (d.belS m).1.length := by rw [sl, ← tl]; exact List.mem_range.1 hi
    have := nextsN_in (d.next 3).2 (n := m.places.length) (by omega) d.belP _ (nth_mem hi)
    have := (startF_ok hm this.1 this.2 (t := ((d.belS m).2.next 100).1) ⟨by omega, by omega⟩).1
    have e : (startF m (nth (d.belS m).1 i) ((d.belS m).2.next 100).1).2 = 0 := this
    simp [e]
  rw [this]

theorem bel0_good {m : Mine} (hm : m.ok) (h1 : 1 ≤ m.places.length) (d : Dice) : BOk m d.belP (d.bel0 m).b := by
  have pb := belP_bd d
  have tl := tagsN_len d.belP
  have sl : (d.belS m).1.length = d.belP := Dice.nextsN_len _ _ _
  have t0 := (d.belS m).2.next_lo 100
  have t9 := (d.belS m).2.next_hi (n := 100) (by omega)
  have np := hm.np
  unfold Dice.bel0
  rw [bel0_is hm h1]
  refine ⟨by simp, by simp, by omega, by omega, fun x hx => ?_⟩
  rw [List.mem_singleton.1 hx]
  refine ⟨tl, by simp [tl], fun w hw => ?_, fun w hw => by
    simp only [startWs, List.mem_map, List.mem_range] at hw
    obtain ⟨i, hi, rfl⟩ := hw
    exact startF_ti ⟨by omega, by omega⟩⟩
  simp only [startWs, List.mem_map, List.mem_range] at hw
  obtain ⟨i, hi, rfl⟩ := hw
  have hi : i < (d.belS m).1.length := by rw [sl, ← tl]; exact hi
  have := nextsN_in (d.next 3).2 (n := m.places.length) (by omega) d.belP _ (nth_mem hi)
  exact (startF_ok hm this.1 this.2 ⟨by omega, by omega⟩).2

theorem belF_good {m : Mine} (hm : m.ok) (h1 : 1 ≤ m.places.length) {d : Dice} (hd : d.light) : BOk m d.belP (d.belief m).1 ∧ (d.belief m).2.light := by
  have l0 : (d.bel0 m).d.light := Dice.next_light (Dice.next_light (Dice.nextsN_light (Dice.next_light hd 3) _ _) _) _
  obtain ⟨h1, h2, -⟩ := belN_good hm (bel0_good hm h1 d) l0 rfl (n := d.belP) (d.belK m)
  exact ⟨h1, h2⟩

end Go.Ev

/- Made inputs: beliefs and smoke, by the code. -/
namespace Go.Ev
open Go
variable [Lib] [Has1] [Has2]

theorem bel_loop1 {m : Mine} (hm : m.ok) (d : Dice) (hd : d.light) (n : Nat) (hn : n ≤ 12) (a b c e f g h i j k : D) :
    exS CALL K.made_Dice_Belief_l1 ⟨[.bp 0 0, a, .bp 1 0, .bp 2 0, I n, .ref 3 0 0, .ref 4 0 0, I 0, b, c, e, f, g, h, i, j, k, .und], [d.obj, .box (mineCells m), .box [.nil], .arr 1 false 0 [], .arr 1 false 0 []]⟩ =
    some (.exit 0, ⟨[.bp 0 0, .und, .bp 1 0, .bp 2 0, I n, .ref 3 0 n, .ref 4 0 n, I n, .und, .und, .und, .und, .und, .und, .und, .und, .und, .und], [(d.nextsN m.places.length n).2.obj, .box (mineCells m), .box [.nil], .arr 1 false 0 (ints (tagsN n)), .arr 1 false 0 (ints (d.nextsN m.places.length n).1)]⟩) := by
  refine loop_up (fun k => ⟨[.bp 0 0, .und, .bp 1 0, .bp 2 0, I n, .ref 3 0 k, .ref 4 0 k, I k, .und, .und, .und, .und, .und, .und, .und, .und, .und, .und], [(d.nextsN m.places.length k).2.obj, .box (mineCells m), .box [.nil], .arr 1 false 0 (ints (tagsN k)), .arr 1 false 0 (ints (d.nextsN m.places.length k).1)]⟩) n rfl ?_ ?_ (by simp)
  · intro j hj
    have np := hm.np
    have tl := tagsN_len j
    have sl := d.nextsN_len m.places.length j
    have lt := Dice.nextsN_light hd m.places.length j
    simp only [tagsN, Dice.nextsN]
    generalize tagsN j = ts at *
    generalize d.nextsN m.places.length j = s at *
    obtain ⟨ss, d1⟩ := s
    simp only at sl lt ⊢
    have h1 := next_ok d1 m.places.length (by omega) lt
    generalize d1.next m.places.length = r at *
    obtain ⟨x, d2⟩ := r
    simp only at h1 ⊢
    simp (disch := omega) only [go_sem, K.made_Dice_Belief_l1b, ↓reduceIte, ints, h1, Nat.reduceAdd, Nat.reduceSub]
  · have tl := tagsN_len n
    have sl := d.nextsN_len m.places.length n
    simp (disch := omega) only [go_sem, K.made_Dice_Belief_l1b, ↓reduceIte, ints, Nat.reduceAdd, Nat.reduceSub]

theorem bel_loop2 {m : Mine} (hm : m.ok) {N : Nat} (n : Int) (n1 : 1 ≤ n) (n2 : n ≤ 12) (tags starts : List Int) (s : BSt) (hd : s.d.light) (hb : BOk m N s.b) (ht : s.t = 100) (p1 p2 : Bool) (kk : Nat) (hK : kk ≤ 100) :
    loopC true [1, 5, 6, 7, 11, 12, 13, 14, 15, 16, 17] (exS CALL K.made_Dice_Belief_l2b) ⟨[.bp 0 0, .und, .bp 1 0, .bp 2 0, I n, .und, .und, .und, .bp 5 0, I s.t, I kk, .und, .und, .und, .und, .und, .und, .und], blH m p1 p2 tags starts s⟩ =
    some (.exit 2, ⟨[.bp 0 0, .und, .bp 1 0, .bp 2 0, I n, .und, .und, .und, .bp 5 0, I (Dice.belN m n s kk).t, I 0, .und, .und, .und, .und, .und, .und, .und], blH m p1 p2 tags starts (Dice.belN m n s kk)⟩) := by
  have key := loopC_up (gc := true) (dead := [1, 5, 6, 7, 11, 12, 13, 14, 15, 16, 17]) (body := exS CALL K.made_Dice_Belief_l2b)
    (fun k => ⟨[.bp 0 0, .und, .bp 1 0, .bp 2 0, I n, .und, .und, .und, .bp 5 0, I (Dice.belN m n s k).t, I ((kk - k : Nat) : Int), .und, .und, .und, .und, .und, .und, .und], blH m p1 p2 tags starts (Dice.belN m n s k)⟩)
    (p := (.exit 2, ⟨[.bp 0 0, .und, .bp 1 0, .bp 2 0, I n, .und, .und, .und, .bp 5 0, I (Dice.belN m n s kk).t, I 0, .und, .und, .und, .und, .und, .und, .und], blH m p1 p2 tags starts (Dice.belN m n s kk)⟩)) kk ?_ ?_
  · exact key
  · intro k hk
    obtain ⟨g1, g2, g3, g4⟩ := belN_good hm (n := n) hb hd ht k
    have := bel_round hm n n1 n2 tags starts (Dice.belN m n s k) g2 (g1.sz hm) (by omega) (by omega) (kk - (k + 1)) (by omega) p1 p2
    rw [show (((kk - (k + 1) : Nat) : Int) + 1) = ((kk - k : Nat) : Int) by omega] at this
    exact this
  · refine loopC_exit ?_ (by simp)
    simp only [Nat.sub_self]
    simp (disch := omega) only [go_sem, K.made_Dice_Belief_l2b, ↓reduceIte, blH, Nat.reduceAdd, Nat.reduceSub]

theorem belief_ok {m : Mine} (hm : m.ok) (h1 : 1 ≤ m.places.length) (d : Dice) (hd : d.light) : CALL 0 N.made_Dice_Belief [.bp 0 0, .t m.e] [d.obj] = some (.t (d.belief m).1.e, [(d.belief m).2.obj]) := by
  refine CALL_of K.t_made_Dice_Belief rfl ?_
  have np := hm.np
  have pb := belP_bd d
  have eP : (d.belP : Int) = 1 + (d.next 3).1 := by have := d.next_lo 3; unfold Dice.belP; omega
  have g0 := bel0_good hm h1 d
  have e0 := bel0_is hm h1 d
  have a1 := next_ok d 3 (by omega) hd
  have l1 := Dice.next_light hd 3
  have q1 := fun a b c e f g h i j k => bel_loop1 hm (d.next 3).2 l1 d.belP (by omega) a b c e f g h i j k
  have eS : (d.next 3).2.nextsN m.places.length d.belP = d.belS m := rfl
  rw [eS] at q1
  have lS : (d.belS m).2.light := Dice.nextsN_light l1 _ _
  have a2 := next_ok (d.belS m).2 100 (by omega) lS
  have l2 := Dice.next_light lS 100
  have a3 := next_ok ((d.belS m).2.next 100).2 5 (by omega) l2
  have l3 := Dice.next_light l2 5
  have k0 := ((d.belS m).2.next 100).2.next_lo 5
  have k9 := ((d.belS m).2.next 100).2.next_hi (n := 5) (by omega)
  have eK : (d.belK m : Int) = (((d.belS m).2.next 100).2.next 5).1 := by unfold Dice.belK; omega
  have st := startBel_ok hm (tagsN d.belP) (d.belS m).1 (by rw [tagsN_len]; omega) ((d.belS m).2.next 100).1
  have tl := tagsN_len d.belP
  have sl : (d.belS m).1.length = d.belP := Dice.nextsN_len _ _ _
  rw [e0] at st
  have b0 : d.bel0 m = ⟨⟨[⟨tagsN d.belP, startWs m (d.belS m).1 ((d.belS m).2.next 100).1 (tagsN d.belP).length⟩]⟩, 100, (((d.belS m).2.next 100).2.next 5).2⟩ := by unfold Dice.bel0; rw [e0]
  have q2 := fun p1 p2 => bel_loop2 hm d.belP (by omega) (by omega) (tagsN d.belP) (d.belS m).1 (d.bel0 m) (by rw [b0]; exact l3) g0 rfl p1 p2 (d.belK m) (by omega)
  have q2 := fun p1 p2 a b c e f g h i j k l => loop_is (vs := [.bp 0 0, a, .bp 1 0, .bp 2 0, I d.belP, b, c, e, .bp 5 0, I 100, I (d.belK m), f, g, h, i, j, k, l]) (q2 p1 p2)
  have eF : Dice.belN m d.belP (d.bel0 m) (d.belK m) = d.belF m := rfl
  rw [eF] at q2
  unfold Dice.belief
  rw [b0] at q2
  generalize d.belF m = F at *
  generalize (tagsN d.belP) = tags at *
  generalize startWs m (d.belS m).1 ((d.belS m).2.next 100).1 tags.length = sw at *
  generalize d.belK m = kk at *
  generalize (((d.belS m).2.next 100).2.next 5) = z3 at *
  generalize ((d.belS m).2.next 100) = z2 at *
  generalize d.belS m = z1 at *
  generalize d.next 3 = z0 at *
  generalize d.belP = n at *
  obtain ⟨x3, d3⟩ := z3
  obtain ⟨x2, d2⟩ := z2
  obtain ⟨ss, d1⟩ := z1
  obtain ⟨x0, d0⟩ := z0
  obtain ⟨⟨wf⟩, tf, df⟩ := F
  simp only [List.map_cons, List.map_nil, blH] at *
  have q2 : ∀ p1 p2 a b c e f g h i j k l, exS CALL K.made_Dice_Belief_l2 _ = _ := q2
  simp (disch := omega) only [go_sem, K.made_Dice_Belief, ↓reduceIte, ints, a1, eP.symm, q1, a2, a3, st, eK.symm, tl, sl, q2, Nat.reduceAdd, Nat.reduceSub]

end Go.Ev

/- Made inputs: smoke that spreads; machines. -/
namespace Go.Ev
open Go
variable [Lib] [Has1] [Has2]

def Dice.spread (d : Dice) (m : Mine) (fl : List Spn) : Wh × Dice :=
  let p := d.next m.places.length
  let t := p.2.next 200
  let s := startS m fl [p.1] t.1
  let o := t.2.one 2
  if o.1 = true then
    let f := o.2.flows m
    let a := f.2.next 100
    let r := changeS m fl m f.1 s.1 (s.1.time + a.1)
    if r.2 = 0 then (r.1, a.2) else (s.1, a.2)
  else (s.1, o.2)

theorem Dice.spread_light {d : Dice} (h : d.light) (m : Mine) (fl : List Spn) : (d.spread m fl).2.light := by
  unfold Dice.spread
  simp only
  have l3 := Dice.one_light (Dice.next_light (Dice.next_light h m.places.length) 200) 2
  split
  · have := Dice.next_light (Dice.flowsN_light l3 m.roads.length) 100
    split <;> exact this
  · exact l3

theorem closeS_len {m : Mine} (hm : m.ok) {fl : List Spn} (hfl : flowsB m fl = true) {l : List Int} (hl : l.length = m.places.length) (hb : bnd l) : (closeS m fl l).length = m.places.length := by
  unfold closeS
  rw [capN_len]
  exact (closeS_ok hm fl hfl l hl hb).2.1

theorem startS_bd {m : Mine} (hm : m.ok) (fl : List Spn) (l : List Int) (t : Int) : ((startS m fl l t).1.time = 0 ∨ (startS m fl l t).1.time = t) ∧ (startS m fl l t).1.frm.length ≤ m.places.length := by
  unfold startS
  split
  · simp
  · split
    · simp
    · split
      · simp
      · rename_i h1 h2 h3
        have h3 : inT t := by simpa using h3
        exact ⟨.inr rfl, Nat.le_of_eq (closeS_len hm (by simpa using h1) (initS_len _ _ _) (initS_bnd _ h3 _))⟩

theorem setB_one {p : Int} {n : Nat} (h0 : 0 ≤ p) (h1 : p < n) : setB [p] n = true := by
  simp only [setB, List.all_eq_true, List.mem_range, decide_eq_true_eq]
  intro j hj
  obtain rfl : j = 0 := by simpa using hj
  exact ⟨h0, h1, fun h => absurd h (by omega)⟩
theorem startS_good {m : Mine} (hm : m.ok) {fl : List Spn} (hf : flowsB m fl = true) {l : List Int} (hl : setB l m.places.length = true) {t : Int} (ht : inT t) :
    (startS m fl l t).2 = 0 ∧ (startS m fl l t).1.time = t ∧ (startS m fl l t).1.frm.length = m.places.length := by
  unfold startS
  rw [if_neg (by simp [hf]), if_neg (by simp [hl]), if_neg (fun h => h ht)]
  exact ⟨rfl, rfl, closeS_len hm hf (initS_len _ _ _) (initS_bnd _ ht _)⟩
theorem changeS_good {m : Mine} {old : List Spn} {next : Mine} (hn : next.ok) {fl : List Spn} {s : Wh} {t : Int} (hm : m.ok) (h : (changeS m old next fl s t).2 = 0) :
    (changeS m old next fl s t).1.frm.length = next.places.length ∧ (changeS m old next fl s t).1.time = t ∧ inT t := by
  unfold changeS at h ⊢
  split at h
  · simp at h
  · rename_i h1
    rw [if_neg h1]
    split at h
    · simp at h
    · rename_i h2
      rw [if_neg h2]
      have v : validS m s = true := by cases hv : validS m s; exact absurd (.inl hv) h1; rfl
      have f : flowsB next fl = true := by cases hv : flowsB next fl; exact absurd (.inr (.inr (.inl hv))) h1; rfl
      have pl : next.places.length = m.places.length := Classical.byContradiction fun hv => h1 (.inr (.inr (.inr hv)))
      obtain ⟨v1, v2, v3⟩ := validS_spec v
      have it : inT t := by unfold inT at *; omega
      have hb : bnd s.frm := fun x hx => by
        have h3 := v3 x hx
        unfold plS at h3; unfold inT at v2; omega
      have cl := chN_len m old s.frm t m.roads.length
      have cb := chN_bnd hm old v1 hb it m.roads.length (Nat.le_refl _)
      have ml := maxN_len t (chN m old s.frm t m.roads.length) m.places.length
      have mb := maxN_bnd it cb m.places.length (by omega)
      exact ⟨closeS_len hn f (by omega) mb, rfl, it⟩

theorem Dice.spread_good {d : Dice} {m : Mine} (hm : m.ok) (h1 : 1 ≤ m.places.length) {fl : List Spn} (hf : flowsB m fl = true) :
    (d.spread m fl).1.frm.length = m.places.length ∧ 0 ≤ (d.spread m fl).1.time ∧ (d.spread m fl).1.time ≤ 300 := by
  unfold Dice.spread
  simp only
  have p0 := d.next_lo m.places.length
  have p9 := d.next_hi (n := m.places.length) (by omega)
  generalize d.next m.places.length = r1 at *
  obtain ⟨p, d1⟩ := r1
  simp only at p0 p9 ⊢
  have t0 := d1.next_lo 200
  have t9 := d1.next_hi (n := 200) (by omega)
  generalize d1.next 200 = r2 at *
  obtain ⟨t, d2⟩ := r2
  simp only at t0 t9 ⊢
  obtain ⟨g1, g2, g3⟩ := startS_good hm hf (setB_one p0 p9) (t := t) ⟨by omega, by omega⟩
  split
  · have u0 := ((d2.one 2).2.flows m).2.next_lo 100
    have u9 := ((d2.one 2).2.flows m).2.next_hi (n := 100) (by omega)
    split
    · rename_i h
      obtain ⟨c1, c2, c3⟩ := changeS_good hm hm h
      refine ⟨c1, ?_, ?_⟩ <;> (rw [c2, g2]; omega)
    · exact ⟨g3, by rw [g2]; omega, by rw [g2]; omega⟩
  · exact ⟨g3, by rw [g2]; omega, by rw [g2]; omega⟩

theorem spread_ok {m : Mine} (hm : m.ok) (h1 : 1 ≤ m.places.length) (fl : List Spn) (hf : fl.length ≤ 1000) (d : Dice) (hd : d.light) :
    CALL 0 N.made_Dice_Spread [.bp 0 0, .t m.e, .t (tS fl)] [d.obj] = some (.t (d.spread m fl).1.e, [(d.spread m fl).2.obj]) := by
  refine CALL_of K.t_made_Dice_Spread rfl ?_
  unfold Dice.spread
  simp only
  have np := hm.np
  have nr := hm.nr
  have a1 := next_ok d m.places.length (by omega) hd
  have l1 := Dice.next_light hd m.places.length
  generalize d.next m.places.length = r1 at *
  obtain ⟨p, d1⟩ := r1
  simp only at a1 l1 ⊢
  have a2 := next_ok d1 200 (by omega) l1
  have l2 := Dice.next_light l1 200
  have t0 := d1.next_lo 200
  have t9 := d1.next_hi (n := 200) (by omega)
  generalize d1.next 200 = r2 at *
  obtain ⟨t, d2⟩ := r2
  simp only at a2 l2 t0 t9 ⊢
  have st := startS_ok hm fl (by omega) [p] (by simp) t
  have a3 := one_ok d2 2 (by omega) (by omega) l2
  have l3 := Dice.one_light l2 2
  generalize d2.one 2 = r3 at *
  obtain ⟨o, d3⟩ := r3
  simp only at a3 l3 ⊢
  have sT : 0 ≤ (startS m fl [p] t).1.time ∧ (startS m fl [p] t).1.time ≤ 200 ∧ (startS m fl [p] t).1.frm.length ≤ 1000000 := by
    obtain ⟨b1, b2⟩ := startS_bd hm fl [p] t
    omega
  generalize startS m fl [p] t = s at *
  obtain ⟨⟨sti, sfr⟩, se⟩ := s
  simp only [tL, List.map_cons, List.map_nil] at st sT ⊢
  cases o with
  | false =>
    simp (disch := omega) only [go_sem, K.made_Dice_Spread, ↓reduceIte, a1, a2, a3, st, Nat.reduceAdd, Nat.reduceSub, Bool.false_eq_true]
  | true =>
    simp only [↓reduceIte]
    have a4 := flowsD_ok d3 l3 m (by omega)
    have l4 : (d3.flows m).2.light := Dice.flowsN_light l3 _
    have n4 : (d3.flows m).1.length = m.roads.length := Dice.flowsN_len _ _
    generalize d3.flows m = r4 at *
    obtain ⟨fl2, d4⟩ := r4
    simp only at a4 l4 n4 ⊢
    have a5 := next_ok d4 100 (by omega) l4
    have u0 := d4.next_lo 100
    have u9 := d4.next_hi (n := 100) (by omega)
    generalize d4.next 100 = r5 at *
    obtain ⟨u, d5⟩ := r5
    simp only at a5 u0 u9 ⊢
    have ch := changeS_ok hm fl (by omega) hm fl2 (by omega) ⟨sti, sfr⟩ (by simp only; omega) (sti + u)
    generalize changeS m fl m fl2 ⟨sti, sfr⟩ (sti + u) = c at *
    obtain ⟨⟨ct, cf⟩, ce⟩ := c
    simp only at ch ⊢
    by_cases e : ce = 0
    · simp (disch := omega) only [go_sem, K.made_Dice_Spread, ↓reduceIte, a1, a2, a3, a4, a5, st, ch, e, Nat.reduceAdd, Nat.reduceSub]
    · simp (disch := omega) only [go_sem, K.made_Dice_Spread, ↓reduceIte, a1, a2, a3, a4, a5, st, ch, e, Nat.reduceAdd, Nat.reduceSub]

/-- Machines. -/
structure Mch where
  kind : Int
  num : Int
  pl : List Int
instance : Dat Mch := ⟨⟨0, 0, []⟩⟩
abbrev Mch.e (x : Mch) : T := .agg [tI x.kind, tI x.num, tL x.pl]
@[go_sem] theorem appOK_mch (l : List Mch) : appOK 3 (l.map Mch.e) = true := by cases l <;> rfl

def Dice.mch (d : Dice) (n : Nat) : Mch × Dice :=
  let a := d.next 2
  let b := a.2.next 5
  let l := b.2.someN n
  if l.1.length = 0 then (⟨1 + a.1, b.1, [(l.2.next n).1]⟩, (l.2.next n).2) else (⟨1 + a.1, b.1, l.1⟩, l.2)
def Dice.mchN (d : Dice) (n : Nat) : Nat → List Mch × Dice
  | 0 => ([], d)
  | k + 1 => ((d.mchN n k).1 ++ [((d.mchN n k).2.mch n).1], ((d.mchN n k).2.mch n).2)
def Dice.mchs (d : Dice) (n : Nat) : List Mch × Dice := (d.next 4).2.mchN n (d.next 4).1.toNat

theorem Dice.mch_light {d : Dice} (h : d.light) (n : Nat) : (d.mch n).2.light := by
  unfold Dice.mch
  simp only
  have := Dice.someN_light (Dice.next_light (Dice.next_light h 2) 5) n
  split
  · exact Dice.next_light this n
  · exact this
theorem Dice.mchN_light {d : Dice} (h : d.light) (n : Nat) : ∀ k, (d.mchN n k).2.light
  | 0 => h
  | k + 1 => by simp only [Dice.mchN]; exact Dice.mch_light (Dice.mchN_light h n k) n
theorem Dice.mchN_len (d : Dice) (n : Nat) : ∀ k, (d.mchN n k).1.length = k
  | 0 => rfl
  | k + 1 => by simp [Dice.mchN, d.mchN_len n k]

theorem someN_in (d : Dice) : ∀ n, ∀ x ∈ (d.someN n).1, 0 ≤ x ∧ x < n
  | 0, x, hx => by simp [Dice.someN] at hx
  | n + 1, x, hx => by
    simp only [Dice.someN] at hx
    split at hx
    · rcases List.mem_append.1 hx with hx | hx
      · have := someN_in d n x hx; omega
      · rw [List.mem_singleton.1 hx]; omega
    · have := someN_in d n x hx; omega
theorem Dice.mch_good (d : Dice) {n : Nat} (hn : 1 ≤ n) : (d.mch n).1.pl.length ≤ n ∧ 1 ≤ (d.mch n).1.pl.length ∧ ∀ x ∈ (d.mch n).1.pl, 0 ≤ x ∧ x < n := by
  unfold Dice.mch
  simp only
  split
  · refine ⟨by simp; omega, by simp, fun x hx => ?_⟩
    simp only [List.mem_singleton] at hx
    rw [hx]
    exact ⟨Dice.next_lo _ _, Dice.next_hi _ (by omega)⟩
  · rename_i h
    exact ⟨Dice.someN_len _ _, by simp only; omega, someN_in _ _⟩
theorem Dice.mchN_good (d : Dice) {n : Nat} (hn : 1 ≤ n) : ∀ k, ∀ y ∈ (d.mchN n k).1, y.pl.length ≤ n ∧ 1 ≤ y.pl.length ∧ ∀ x ∈ y.pl, 0 ≤ x ∧ x < n
  | 0, y, hy => by simp [Dice.mchN] at hy
  | k + 1, y, hy => by
    simp only [Dice.mchN, List.mem_append, List.mem_singleton] at hy
    rcases hy with hy | rfl
    · exact d.mchN_good hn k y hy
    · exact Dice.mch_good _ hn

theorem mch_round {m : Mine} (hn : 1 ≤ m.places.length) (hn2 : m.places.length ≤ 1000) (d : Dice) (hd : d.light) (l : List Mch) (hl : l.length ≤ 100) (k : Nat) (hk : k ≤ 100) :
    roundC true [1, 3, 6] 3 (exS CALL K.law40_some_l1b ⟨[.bp 0 0, .und, .bp 1 0, .und, .ref 2 0 l.length, I (k + 1), .und], [d.obj, .box (mineCells m), .arr 3 false 0 ((l.map Mch.e).map .t)]⟩) =
    some ⟨[.bp 0 0, .und, .bp 1 0, .und, .ref 2 0 (l ++ [(d.mch m.places.length).1]).length, I k, .und], [(d.mch m.places.length).2.obj, .box (mineCells m), .arr 3 false 0 (((l ++ [(d.mch m.places.length).1]).map Mch.e).map .t)]⟩ := by
  unfold Dice.mch
  simp only
  have a1 := next_ok d 2 (by omega) hd
  have l1 := Dice.next_light hd 2
  have x0 := d.next_lo 2
  have x9 := d.next_hi (n := 2) (by omega)
  generalize d.next 2 = r1 at *
  obtain ⟨a, d1⟩ := r1
  simp only at a1 l1 x0 x9 ⊢
  have a2 := next_ok d1 5 (by omega) l1
  have l2 := Dice.next_light l1 5
  generalize d1.next 5 = r2 at *
  obtain ⟨b, d2⟩ := r2
  simp only at a2 l2 ⊢
  have a3 := some_ok d2 m.places.length (by omega) l2
  have l3 := Dice.someN_light l2 m.places.length
  have n3 := d2.someN_len m.places.length
  generalize d2.someN m.places.length = r3 at *
  obtain ⟨s, d3⟩ := r3
  simp only at a3 l3 n3 ⊢
  by_cases e : s.length = 0
  · have a4 := next_ok d3 m.places.length (by omega) l3
    generalize d3.next m.places.length = r4 at *
    obtain ⟨c, d4⟩ := r4
    simp only [if_pos e] at a4 ⊢
    simp (disch := omega) only [go_sem, K.law40_some_l1b, ↓reduceIte, a1, a2, a3, a4, e, Nat.reduceAdd, Nat.reduceSub]
    rfl
  · simp only [if_neg e]
    simp (disch := omega) only [go_sem, K.law40_some_l1b, ↓reduceIte, a1, a2, a3, e, Nat.reduceAdd, Nat.reduceSub]

theorem mchs_ok {m : Mine} (hn : 1 ≤ m.places.length) (hn2 : m.places.length ≤ 1000) (d : Dice) (hd : d.light) :
    CALL 0 N.law40_some [.bp 0 0, .t m.e] [d.obj] = some (.t (.sl ((d.mchs m.places.length).1.map Mch.e)), [(d.mchs m.places.length).2.obj]) := by
  refine CALL_of K.t_law40_some rfl ?_
  unfold Dice.mchs
  have a1 := next_ok d 4 (by omega) hd
  have l1 := Dice.next_light hd 4
  have x0 := d.next_lo 4
  have x9 := d.next_hi (n := 4) (by omega)
  generalize d.next 4 = r1 at *
  obtain ⟨n, d1⟩ := r1
  simp only at a1 l1 x0 x9 ⊢
  obtain ⟨n, rfl⟩ := Int.eq_ofNat_of_zero_le x0
  simp only [Int.toNat_natCast]
  have loop : ∀ a b c : D, exS CALL K.law40_some_l1 ⟨[.bp 0 0, a, .bp 1 0, b, .ref 2 0 0, I n, c], [d1.obj, .box (mineCells m), .arr 3 false 0 []]⟩ =
      some (.exit 0, ⟨[.bp 0 0, .und, .bp 1 0, .und, .ref 2 0 (d1.mchN m.places.length n).1.length, I 0, .und], [(d1.mchN m.places.length n).2.obj, .box (mineCells m), .arr 3 false 0 (((d1.mchN m.places.length n).1.map Mch.e).map .t)]⟩) := by
    intro a b c
    refine loop_up (fun j => ⟨[.bp 0 0, .und, .bp 1 0, .und, .ref 2 0 (d1.mchN m.places.length j).1.length, I ((n - j : Nat) : Int), .und], [(d1.mchN m.places.length j).2.obj, .box (mineCells m), .arr 3 false 0 (((d1.mchN m.places.length j).1.map Mch.e).map .t)]⟩) n rfl ?_ ?_ (by simp)
    · intro j hj
      have ln := d1.mchN_len m.places.length j
      have := mch_round hn hn2 (d1.mchN m.places.length j).2 (Dice.mchN_light l1 _ j) (d1.mchN m.places.length j).1 (by omega) (n - (j + 1)) (by omega)
      rw [show (((n - (j + 1) : Nat) : Int) + 1) = ((n - j : Nat) : Int) by omega] at this
      exact this
    · simp only [Nat.sub_self]
      simp (disch := omega) only [go_sem, K.law40_some_l1b, ↓reduceIte, Nat.reduceAdd, Nat.reduceSub]
  have ln := d1.mchN_len m.places.length n
  generalize d1.mchN m.places.length n = r at *
  obtain ⟨l, d2⟩ := r
  simp only at ln loop ⊢
  simp (disch := omega) only [go_sem, K.law40_some, ↓reduceIte, a1, loop, Nat.reduceAdd, Nat.reduceSub]

end Go.Ev

/- The program: possible places of persons; places with smoke; the fire rules. -/
namespace Go.Ev
open Go
variable [Lib] [Has1] [Has2]

theorem mem_whereF {n : Nat} {p : Nat → Bool} {x : Int} : x ∈ whereF n p ↔ ∃ k : Nat, x = k ∧ k < n ∧ p k = true := by
  unfold whereF
  simp only [List.mem_map, List.mem_filter, List.mem_range]
  constructor
  · rintro ⟨k, ⟨h1, h2⟩, rfl⟩; exact ⟨k, rfl, h1, h2⟩
  · rintro ⟨k, rfl, h1, h2⟩; exact ⟨k, ⟨h1, h2⟩, rfl⟩
theorem mem_whereF_nat {n : Nat} {p : Nat → Bool} {k : Nat} : (k : Int) ∈ whereF n p ↔ k < n ∧ p k = true := by
  rw [mem_whereF]
  constructor
  · rintro ⟨j, h, h1, h2⟩
    obtain rfl : k = j := by omega
    exact ⟨h1, h2⟩
  · rintro ⟨h1, h2⟩; exact ⟨k, rfl, h1, h2⟩

theorem filled1_ok (s : Wh) (t : Int) (k : Nat) (hk : k < s.frm.length) : CALL 0 N.smoke_Filled_1 [I k, .bp 0 0, .bp 1 0] [.box [I s.time, .t (tL s.frm)], .box [I t]] = some (B (decide (nth s.frm k ≤ t)), [.box [I s.time, .t (tL s.frm)], .box [I t]]) := by
  refine CALL_of K.t_smoke_Filled_1 rfl ?_
  simp (disch := omega) only [go_sem, K.smoke_Filled_1, ↓reduceIte, Nat.reduceAdd, Nat.reduceSub]

theorem filled_ok (s : Wh) (t : Int) (hl : s.frm.length ≤ 1000000) : CALL 0 N.smoke_Filled [.t s.e, I t] [] = some (.t (tL (possF s t)), []) := by
  refine CALL_of K.t_smoke_Filled rfl ?_
  have wh := where_ok s.frm.length hl N.smoke_Filled_1 [[tI s.time, tL s.frm], [tI t]] (fun k => decide (nth s.frm k ≤ t)) (fun k hk => filled1_ok s t k hk)
  have wh : CALL 0 N.lists_Where [I s.frm.length, .fn N.smoke_Filled_1 [.bp 0 0, .bp 1 0]] [.box [I s.time, .t (tL s.frm)], .box [I t]] = some (.t (tL (possF s t)), [.box [I s.time, .t (tL s.frm)], .box [I t]]) := wh
  obtain ⟨time, frm⟩ := s
  simp only at hl wh
  generalize possF ⟨time, frm⟩ t = r at *
  simp (disch := omega) only [go_sem, K.smoke_Filled, ↓reduceIte, wh, Nat.reduceAdd, Nat.reduceSub]

theorem indexFuncW_ok (l : List World) (hl : l.length ≤ 4294967296) (f : Nat) (bs : List (List T)) (p : World → Bool) (h : ∀ x, x ∈ l → CALL 0 f (.t x.e :: capsN bs.length) (boxesT bs) = some (B (p x), boxesT bs)) :
    CALL 0 N.slices_IndexFunc_api_World_api_World [.t (.sl (l.map World.e)), .fn f (capsN bs.length)] (boxesT bs) =
    some (I (match (List.range l.length).find? (fun j => p (nth l j)) with | some j => (j : Int) | none => -1), boxesT bs) := by
  refine CALL_of K.t_slices_IndexFunc_api_World_api_World rfl ?_
  have loop : ∀ a b : D, exS CALL K.slices_IndexFunc_api_World_api_World_l1 ⟨[.t (.sl (l.map World.e)), .fn f (capsN bs.length), a, b, I l.length, I 0], boxesT bs⟩ =
      some (match (List.range l.length).find? (fun j => p (nth l j)) with
        | some j => (.ret, ⟨[.t (.sl (l.map World.e)), .fn f (capsN bs.length), I j, I j, I l.length, I j], boxesT bs⟩)
        | none => (.exit 0, ⟨[.t (.sl (l.map World.e)), .fn f (capsN bs.length), .und, .und, I l.length, I l.length], boxesT bs⟩)) := by
    intro a b
    refine loop_first (fun j => ⟨[.t (.sl (l.map World.e)), .fn f (capsN bs.length), .und, .und, I l.length, I j], boxesT bs⟩) l.length (fun j => p (nth l j)) _ _ rfl ?_ ?_ ?_ (by simp)
    · intro j hj hp
      have hc := clos_call0 (h _ (nth_mem hj)) rfl
      simp (disch := omega) only [go_sem, K.slices_IndexFunc_api_World_api_World_l1b, ↓reduceIte, hc, hp]
    · intro j hj hp
      have hc := clos_call0 (h _ (nth_mem hj)) rfl
      simp (disch := omega) only [go_sem, K.slices_IndexFunc_api_World_api_World_l1b, ↓reduceIte, hp, hc]
      simp
    · simp (disch := omega) only [go_sem, K.slices_IndexFunc_api_World_api_World_l1b, ↓reduceIte]
  simp (disch := omega) only [go_sem, K.slices_IndexFunc_api_World_api_World, ↓reduceIte, loop]
  cases hf : (List.range l.length).find? (fun j => p (nth l j)) with
  | some j => simp (disch := omega) only [go_sem, ↓reduceIte]
  | none => simp (disch := omega) only [go_sem, ↓reduceIte]

theorem any_nthW {α : Type} [Dat α] {l : List α} {p : α → Bool} : ((List.range l.length).find? fun j => p (nth l j)).isSome = l.any p := by
  rw [List.isSome_find?, Bool.eq_iff_iff, List.any_eq_true, List.any_eq_true]
  constructor
  · rintro ⟨j, hj, h⟩
    exact ⟨_, nth_mem (List.mem_range.1 hj), h⟩
  · rintro ⟨x, hx, h⟩
    obtain ⟨j, hj⟩ := List.mem_iff_getElem?.1 hx
    exact ⟨j, List.mem_range.2 (List.getElem?_eq_some_iff.1 hj).1, by rw [nth_eq hj]; exact h⟩
theorem any_range {α : Type} [Dat α] (l : List α) (p : α → Bool) : l.any p = (List.range l.length).any fun i => p (nth l i) := by
  rw [← any_nthW, List.isSome_find?]

theorem containsFuncW_ok (l : List World) (hl : l.length ≤ 4294967296) (f : Nat) (bs : List (List T)) (p : World → Bool) (h : ∀ x, x ∈ l → CALL 0 f (.t x.e :: capsN bs.length) (boxesT bs) = some (B (p x), boxesT bs)) :
    CALL 0 N.slices_ContainsFunc_api_World_api_World [.t (.sl (l.map World.e)), .fn f (capsN bs.length)] (boxesT bs) = some (B (l.any p), boxesT bs) := by
  refine CALL_of K.t_slices_ContainsFunc_api_World_api_World rfl ?_
  have h := indexFuncW_ok l hl f bs p h
  have hc := opCa_clos2 CALL bs f _ 0 (.sl (l.map World.e)) h rfl
  have e := any_nthW (l := l) (p := p)
  cases hf : (List.range l.length).find? (fun j => p (nth l j)) with
  | some j => rw [hf] at e hc; simp (disch := omega) only [go_sem, K.slices_ContainsFunc_api_World_api_World, ↓reduceIte, ← e, hc]
  | none => rw [hf] at e hc; simp (disch := omega) only [go_sem, K.slices_ContainsFunc_api_World_api_World, ↓reduceIte, ← e, hc, Option.isSome_none]

def mayW (person t : Int) (p : Nat) (x : World) : Bool := decide (0 ≤ person ∧ person < x.whr.length) && (decide (p < (nth x.whr person.toNat).frm.length) && decide (nth (nth x.whr person.toNat).frm p ≤ t))

theorem poss11_ok (x : World) (hx : x.sz) (person t : Int) (p : Nat) (hp : p ≤ 1000000) :
    CALL 0 N.swaps_Possible_1_1 [.t x.e, .bp 0 0, .bp 1 0, .bp 2 0] [.box [I person], .box [I p], .box [I t]] = some (B (mayW person t p x), [.box [I person], .box [I p], .box [I t]]) := by
  refine CALL_of K.t_swaps_Possible_1_1 rfl ?_
  have li := in_ok person 0 (x.whr.length - 1)
  obtain ⟨h1, h2, h3⟩ := hx
  unfold mayW
  by_cases c : 0 ≤ person ∧ person < x.whr.length
  · obtain ⟨c1, c2⟩ := c
    have e1 : (x.whr.map Wh.e)[person.toNat]? = some (nth x.whr person.toNat).e := map_nth _ (by omega)
    have h4 := h3 _ (nth_mem (l := x.whr) (j := person.toNat) (by omega))
    have li' : decide (0 ≤ person ∧ person ≤ (x.whr.length : Int) - 1) = true := by simp; omega
    rw [li'] at li
    generalize nth x.whr person.toNat = w at *
    obtain ⟨tags, whr⟩ := x
    obtain ⟨time, frm⟩ := w
    simp only at *
    by_cases c3 : p < frm.length
    · simp (disch := omega) only [go_sem, K.swaps_Possible_1_1, ↓reduceIte, Nat.reduceAdd, Nat.reduceSub, li, e1, c1, c2, c3, and_self]
    · simp (disch := omega) only [go_sem, K.swaps_Possible_1_1, ↓reduceIte, Nat.reduceAdd, Nat.reduceSub, li, e1, c1, c2, c3, and_self]
  · have li' : decide (0 ≤ person ∧ person ≤ (x.whr.length : Int) - 1) = false := by simp; omega
    rw [li'] at li
    obtain ⟨tags, whr⟩ := x
    simp only at *
    simp (disch := omega) only [go_sem, K.swaps_Possible_1_1, ↓reduceIte, Nat.reduceAdd, Nat.reduceSub, li, c]

theorem poss1_ok (b : Bel) (hb : b.sz) (person t : Int) (p : Nat) (hp : p ≤ 1000000) :
    CALL 0 N.swaps_Possible_1 [I p, .bp 0 0, .bp 1 0, .bp 2 0] [.box [.t (.sl (b.worlds.map World.e))], .box [I person], .box [I t]] = some (B (b.worlds.any (mayW person t p)), [.box [.t (.sl (b.worlds.map World.e))], .box [I person], .box [I t]]) := by
  refine CALL_of K.t_swaps_Possible_1 rfl ?_
  have cf := containsFuncW_ok b.worlds (by have := hb.1; omega) N.swaps_Possible_1_1 [[tI person], [tI p], [tI t]] (mayW person t p) (fun x hx => poss11_ok x (hb.2 x hx) person t p hp)
  have cf : CALL 0 N.slices_ContainsFunc_api_World_api_World [.t (.sl (b.worlds.map World.e)), .fn N.swaps_Possible_1_1 [.bp 0 0, .bp 1 0, .bp 2 0]] [.box [I person], .box [I p], .box [I t]] = some (B (b.worlds.any (mayW person t p)), [.box [I person], .box [I p], .box [I t]]) := cf
  simp (disch := omega) only [go_sem, K.swaps_Possible_1, ↓reduceIte, Nat.reduceAdd, Nat.reduceSub, cf]

theorem mayW_mayB (b : Bel) (person t : Int) (p : Nat) : b.worlds.any (mayW person t p) = mayB b person t p := by
  unfold mayB
  rw [any_range]
  congr 1
  funext i
  unfold mayW
  congr 1
  rw [Bool.eq_iff_iff]
  simp only [Bool.and_eq_true, decide_eq_true_eq, possF, mem_whereF_nat]

theorem possible_ok (b : Bel) (hb : b.sz) (person t : Int) : CALL 0 N.swaps_Possible [.t b.e, I person, I t] [] = some (.t (tL (possB b person t)), []) := by
  refine CALL_of K.t_swaps_Possible rfl ?_
  have wh := where_ok 64 (by omega) N.swaps_Possible_1 [[.sl (b.worlds.map World.e)], [tI person], [tI t]] (mayB b person t) (fun p hp => by rw [← mayW_mayB]; exact poss1_ok b hb person t p (by omega))
  have wh : CALL 0 N.lists_Where [I 64, .fn N.swaps_Possible_1 [.bp 0 0, .bp 1 0, .bp 2 0]] [.box [.t (.sl (b.worlds.map World.e))], .box [I person], .box [I t]] = some (.t (tL (possB b person t)), [.box [.t (.sl (b.worlds.map World.e))], .box [I person], .box [I t]]) := wh
  obtain ⟨ws⟩ := b
  simp only at wh
  generalize possB ⟨ws⟩ person t = r at *
  simp (disch := omega) only [go_sem, K.swaps_Possible, ↓reduceIte, wh, Nat.reduceAdd, Nat.reduceSub]

def meetsB (a b : List Int) : Bool := a.any fun p => decide (p ∈ b)
theorem meets1_ok (b : List Int) (hb : b.length ≤ 4294967296) (x : Int) : CALL 0 N.firerules_meets_1 [I x, .bp 0 0] [.box [.t (tL b)]] = some (B (decide (x ∈ b)), [.box [.t (tL b)]]) := by
  refine CALL_of K.t_firerules_meets_1 rfl ?_
  have c := contains_ok b x hb
  simp (disch := omega) only [go_sem, K.firerules_meets_1, ↓reduceIte, c, Nat.reduceAdd, Nat.reduceSub]
theorem meets_ok (a b : List Int) (ha : a.length ≤ 4294967296) (hb : b.length ≤ 4294967296) : CALL 0 N.firerules_meets [.t (tL a), .t (tL b)] [] = some (B (meetsB a b), []) := by
  refine CALL_of K.t_firerules_meets rfl ?_
  have cf := containsFunc_ok a ha N.firerules_meets_1 [[tL b]] (fun p => decide (p ∈ b)) (fun x _ => meets1_ok b hb x)
  have cf : CALL 0 N.slices_ContainsFunc_int_int [.t (tL a), .fn N.firerules_meets_1 [.bp 0 0]] [.box [.t (tL b)]] = some (B (meetsB a b), [.box [.t (tL b)]]) := cf
  simp (disch := omega) only [go_sem, K.firerules_meets, ↓reduceIte, cf, Nat.reduceAdd, Nat.reduceSub]

theorem possB_len (b : Bel) (person t : Int) : (possB b person t).length ≤ 64 := whereF_len _ _

def nearF (x : Mch) (b : Bel) (t : Int) : List Int := if b.worlds.length = 0 then [] else whereF (nth b.worlds 0).whr.length fun i => meetsB (possB b i t) x.pl
theorem near1_ok (x : Mch) (hx : x.pl.length ≤ 1000000) (b : Bel) (hb : b.sz) (t : Int) (i : Nat) :
    CALL 0 N.firerules_near_1 [I i, .bp 0 0, .bp 1 0, .bp 2 0] [.box [.t (.sl (b.worlds.map World.e))], .box [I t], .box [I x.kind, I x.num, .t (tL x.pl)]] = some (B (meetsB (possB b i t) x.pl), [.box [.t (.sl (b.worlds.map World.e))], .box [I t], .box [I x.kind, I x.num, .t (tL x.pl)]]) := by
  refine CALL_of K.t_firerules_near_1 rfl ?_
  have ps := possible_ok b hb i t
  have pl := possB_len b i t
  have me := meets_ok (possB b i t) x.pl (by omega) (by omega)
  obtain ⟨ws⟩ := b
  obtain ⟨kind, num, l⟩ := x
  simp only at *
  generalize possB ⟨ws⟩ i t = r at *
  simp (disch := omega) only [go_sem, K.firerules_near_1, ↓reduceIte, ps, me, Nat.reduceAdd, Nat.reduceSub]
theorem near_ok (x : Mch) (hx : x.pl.length ≤ 1000000) (b : Bel) (hb : b.sz) (t : Int) : CALL 0 N.firerules_near [.t x.e, .t b.e, I t] [] = some (.t (tL (nearF x b t)), []) := by
  refine CALL_of K.t_firerules_near rfl ?_
  unfold nearF
  by_cases c : b.worlds.length = 0
  · obtain ⟨ws⟩ := b
    obtain ⟨kind, num, l⟩ := x
    simp only at *
    simp (disch := omega) only [go_sem, K.firerules_near, ↓reduceIte, c, Nat.reduceAdd, Nat.reduceSub]
    try rfl
  · have h0 := (hb.2 _ (nth_mem (l := b.worlds) (j := 0) (by omega))).2.1
    have wh := where_ok (nth b.worlds 0).whr.length h0 N.firerules_near_1 [[.sl (b.worlds.map World.e)], [tI t], [tI x.kind, tI x.num, tL x.pl]] (fun i => meetsB (possB b i t) x.pl) (fun i _ => near1_ok x hx b hb t i)
    have wh : CALL 0 N.lists_Where [I (nth b.worlds 0).whr.length, .fn N.firerules_near_1 [.bp 0 0, .bp 1 0, .bp 2 0]] [.box [.t (.sl (b.worlds.map World.e))], .box [I t], .box [I x.kind, I x.num, .t (tL x.pl)]] =
      some (.t (tL (whereF (nth b.worlds 0).whr.length fun i => meetsB (possB b i t) x.pl)), [.box [.t (.sl (b.worlds.map World.e))], .box [I t], .box [I x.kind, I x.num, .t (tL x.pl)]]) := wh
    have e1 : (b.worlds.map World.e)[0]? = some (nth b.worlds 0).e := map_nth _ (by omega)
    rw [if_neg c]
    generalize whereF (nth b.worlds 0).whr.length (fun i => meetsB (possB b i t) x.pl) = r at *
    generalize nth b.worlds 0 = w at *
    obtain ⟨tags, whr⟩ := w
    obtain ⟨ws⟩ := b
    obtain ⟨kind, num, l⟩ := x
    simp only at *
    simp (disch := omega) only [go_sem, K.firerules_near, ↓reduceIte, c, e1, wh, Nat.reduceAdd, Nat.reduceSub]

def cmdF (x : Mch) (s : Wh) (b : Bel) (t ahead : Int) : Int :=
  if meetsB (possF s t) x.pl = true then 2 else if meetsB (possF s (t + ahead)) x.pl = true then 1
  else if x.kind = 2 ∧ (possF s (t + ahead)).length ≠ 0 ∧ (nearF x b (t + ahead)).length ≠ 0 then 3 else 0

theorem possF_len (s : Wh) (t : Int) : (possF s t).length ≤ s.frm.length := whereF_len _ _

theorem cmd_ok (m : Mine) (x : Mch) (hx : x.pl.length ≤ 1000000) (s : Wh) (hs : s.frm.length ≤ 1000000) (b : Bel) (hb : b.sz) (t ahead : Int) (h1 : -9223372036854775808 ≤ t + ahead) (h2 : t + ahead ≤ 9223372036854775807) :
    CALL 0 N.firerules_Command [.t m.e, .t x.e, .t s.e, .t b.e, I t, I ahead] [] = some (I (cmdF x s b t ahead), []) := by
  refine CALL_of K.t_firerules_Command rfl ?_
  have f1 := filled_ok s t hs
  have f2 := filled_ok s (t + ahead) hs
  have l1 := possF_len s t
  have l2 := possF_len s (t + ahead)
  have m1 := meets_ok (possF s t) x.pl (by omega) (by omega)
  have m2 := meets_ok (possF s (t + ahead)) x.pl (by omega) (by omega)
  have nr := near_ok x hx b hb (t + ahead)
  unfold cmdF
  generalize nearF x b (t + ahead) = nf at *
  generalize possF s (t + ahead) = p2 at *
  generalize possF s t = p1 at *
  obtain ⟨ws⟩ := b
  obtain ⟨kind, num, l⟩ := x
  obtain ⟨time, frm⟩ := s
  simp only at *
  cases c1 : meetsB p1 l with
  | true =>
    rw [c1] at m1
    simp (disch := omega) only [go_sem, K.firerules_Command, ↓reduceIte, f1, f2, m1, Nat.reduceAdd, Nat.reduceSub]
  | false =>
    rw [c1] at m1
    cases c2 : meetsB p2 l with
    | true =>
      rw [c2] at m2
      simp (disch := omega) only [go_sem, K.firerules_Command, ↓reduceIte, f1, f2, m1, m2, Nat.reduceAdd, Nat.reduceSub, Bool.false_eq_true]
    | false =>
      rw [c2] at m2
      by_cases c3 : kind = 2
      · subst c3
        by_cases c4 : p2.length = 0
        · simp (disch := omega) only [go_sem, K.firerules_Command, ↓reduceIte, f1, f2, m1, m2, c4, Nat.reduceAdd, Nat.reduceSub, Bool.false_eq_true, ne_eq, not_true_eq_false, false_and, and_false]
        · by_cases c5 : nf.length = 0
          · simp (disch := omega) only [go_sem, K.firerules_Command, ↓reduceIte, f1, f2, m1, m2, c4, c5, nr, Nat.reduceAdd, Nat.reduceSub, Bool.false_eq_true, ne_eq, not_true_eq_false, false_and, and_false]
          · simp (disch := omega) only [go_sem, K.firerules_Command, ↓reduceIte, f1, f2, m1, m2, c4, c5, nr, Nat.reduceAdd, Nat.reduceSub, Bool.false_eq_true, ne_eq, not_true_eq_false, not_false_eq_true, and_self]
      · simp (disch := omega) only [go_sem, K.firerules_Command, ↓reduceIte, f1, f2, m1, m2, c3, Nat.reduceAdd, Nat.reduceSub, Bool.false_eq_true, ne_eq, not_true_eq_false, false_and, and_false]

def drawnF (x : Mch) (s : Wh) (b : Bel) (t ahead : Int) : List Int := if cmdF x s b t ahead = 2 ∨ cmdF x s b t ahead = 1 then nearF x b (t + ahead) else []
end Go.Ev

/- Searches in lists of machines and of whereabouts; tags that are different ones. -/
namespace Go.Ev
open Go
variable [Lib] [Has1] [Has2] [Has3] [Has4] [Has5] [Has6] [Has7] [Has8] [Has9] [Has10] [Has11]

theorem indexFuncM_ok (l : List Mch) (hl : l.length ≤ 4294967296) (f : Nat) (bs : List (List T)) (p : Mch → Bool) (h : ∀ x, x ∈ l → CALL 0 f (.t x.e :: capsN bs.length) (boxesT bs) = some (B (p x), boxesT bs)) :
    CALL 0 N.slices_IndexFunc_api_Machine_api_Machine [.t (.sl (l.map Mch.e)), .fn f (capsN bs.length)] (boxesT bs) =
    some (I (match (List.range l.length).find? (fun j => p (nth l j)) with | some j => (j : Int) | none => -1), boxesT bs) := by
  refine CALL_of K.t_slices_IndexFunc_api_Machine_api_Machine rfl ?_
  have loop : ∀ a b : D, exS CALL K.slices_IndexFunc_api_Machine_api_Machine_l1 ⟨[.t (.sl (l.map Mch.e)), .fn f (capsN bs.length), a, b, I l.length, I 0], boxesT bs⟩ =
      some (match (List.range l.length).find? (fun j => p (nth l j)) with
        | some j => (.ret, ⟨[.t (.sl (l.map Mch.e)), .fn f (capsN bs.length), I j, I j, I l.length, I j], boxesT bs⟩)
        | none => (.exit 0, ⟨[.t (.sl (l.map Mch.e)), .fn f (capsN bs.length), .und, .und, I l.length, I l.length], boxesT bs⟩)) := by
    intro a b
    refine loop_first (fun j => ⟨[.t (.sl (l.map Mch.e)), .fn f (capsN bs.length), .und, .und, I l.length, I j], boxesT bs⟩) l.length (fun j => p (nth l j)) _ _ rfl ?_ ?_ ?_ (by simp)
    · intro j hj hp
      have hc := clos_call0 (h _ (nth_mem hj)) rfl
      simp (disch := omega) only [go_sem, K.slices_IndexFunc_api_Machine_api_Machine_l1b, ↓reduceIte, hc, hp]
    · intro j hj hp
      have hc := clos_call0 (h _ (nth_mem hj)) rfl
      simp (disch := omega) only [go_sem, K.slices_IndexFunc_api_Machine_api_Machine_l1b, ↓reduceIte, hp, hc]
      simp
    · simp (disch := omega) only [go_sem, K.slices_IndexFunc_api_Machine_api_Machine_l1b, ↓reduceIte]
  simp (disch := omega) only [go_sem, K.slices_IndexFunc_api_Machine_api_Machine, ↓reduceIte, loop]
  cases hf : (List.range l.length).find? (fun j => p (nth l j)) with
  | some j => simp (disch := omega) only [go_sem, ↓reduceIte]
  | none => simp (disch := omega) only [go_sem, ↓reduceIte]
theorem containsFuncM_ok (l : List Mch) (hl : l.length ≤ 4294967296) (f : Nat) (bs : List (List T)) (p : Mch → Bool) (h : ∀ x, x ∈ l → CALL 0 f (.t x.e :: capsN bs.length) (boxesT bs) = some (B (p x), boxesT bs)) :
    CALL 0 N.slices_ContainsFunc_api_Machine_api_Machine [.t (.sl (l.map Mch.e)), .fn f (capsN bs.length)] (boxesT bs) = some (B (l.any p), boxesT bs) := by
  refine CALL_of K.t_slices_ContainsFunc_api_Machine_api_Machine rfl ?_
  have h := indexFuncM_ok l hl f bs p h
  have hc := opCa_clos2 CALL bs f _ 0 (.sl (l.map Mch.e)) h rfl
  have e := any_nthW (l := l) (p := p)
  cases hf : (List.range l.length).find? (fun j => p (nth l j)) with
  | some j => rw [hf] at e hc; simp (disch := omega) only [go_sem, K.slices_ContainsFunc_api_Machine_api_Machine, ↓reduceIte, ← e, hc]
  | none => rw [hf] at e hc; simp (disch := omega) only [go_sem, K.slices_ContainsFunc_api_Machine_api_Machine, ↓reduceIte, ← e, hc, Option.isSome_none]

theorem indexFuncH_ok (l : List Wh) (hl : l.length ≤ 4294967296) (f : Nat) (bs : List (List T)) (p : Wh → Bool) (h : ∀ x, x ∈ l → CALL 0 f (.t x.e :: capsN bs.length) (boxesT bs) = some (B (p x), boxesT bs)) :
    CALL 0 N.slices_IndexFunc_api_Whereabouts_api_Whereabouts [.t (.sl (l.map Wh.e)), .fn f (capsN bs.length)] (boxesT bs) =
    some (I (match (List.range l.length).find? (fun j => p (nth l j)) with | some j => (j : Int) | none => -1), boxesT bs) := by
  refine CALL_of K.t_slices_IndexFunc_api_Whereabouts_api_Whereabouts rfl ?_
  have loop : ∀ a b : D, exS CALL K.slices_IndexFunc_api_Whereabouts_api_Whereabouts_l1 ⟨[.t (.sl (l.map Wh.e)), .fn f (capsN bs.length), a, b, I l.length, I 0], boxesT bs⟩ =
      some (match (List.range l.length).find? (fun j => p (nth l j)) with
        | some j => (.ret, ⟨[.t (.sl (l.map Wh.e)), .fn f (capsN bs.length), I j, I j, I l.length, I j], boxesT bs⟩)
        | none => (.exit 0, ⟨[.t (.sl (l.map Wh.e)), .fn f (capsN bs.length), .und, .und, I l.length, I l.length], boxesT bs⟩)) := by
    intro a b
    refine loop_first (fun j => ⟨[.t (.sl (l.map Wh.e)), .fn f (capsN bs.length), .und, .und, I l.length, I j], boxesT bs⟩) l.length (fun j => p (nth l j)) _ _ rfl ?_ ?_ ?_ (by simp)
    · intro j hj hp
      have hc := clos_call0 (h _ (nth_mem hj)) rfl
      simp (disch := omega) only [go_sem, K.slices_IndexFunc_api_Whereabouts_api_Whereabouts_l1b, ↓reduceIte, hc, hp]
    · intro j hj hp
      have hc := clos_call0 (h _ (nth_mem hj)) rfl
      simp (disch := omega) only [go_sem, K.slices_IndexFunc_api_Whereabouts_api_Whereabouts_l1b, ↓reduceIte, hp, hc]
      simp
    · simp (disch := omega) only [go_sem, K.slices_IndexFunc_api_Whereabouts_api_Whereabouts_l1b, ↓reduceIte]
  simp (disch := omega) only [go_sem, K.slices_IndexFunc_api_Whereabouts_api_Whereabouts, ↓reduceIte, loop]
  cases hf : (List.range l.length).find? (fun j => p (nth l j)) with
  | some j => simp (disch := omega) only [go_sem, ↓reduceIte]
  | none => simp (disch := omega) only [go_sem, ↓reduceIte]
theorem containsFuncH_ok (l : List Wh) (hl : l.length ≤ 4294967296) (f : Nat) (bs : List (List T)) (p : Wh → Bool) (h : ∀ x, x ∈ l → CALL 0 f (.t x.e :: capsN bs.length) (boxesT bs) = some (B (p x), boxesT bs)) :
    CALL 0 N.slices_ContainsFunc_api_Whereabouts_api_Whereabouts [.t (.sl (l.map Wh.e)), .fn f (capsN bs.length)] (boxesT bs) = some (B (l.any p), boxesT bs) := by
  refine CALL_of K.t_slices_ContainsFunc_api_Whereabouts_api_Whereabouts rfl ?_
  have h := indexFuncH_ok l hl f bs p h
  have hc := opCa_clos2 CALL bs f _ 0 (.sl (l.map Wh.e)) h rfl
  have e := any_nthW (l := l) (p := p)
  cases hf : (List.range l.length).find? (fun j => p (nth l j)) with
  | some j => rw [hf] at e hc; simp (disch := omega) only [go_sem, K.slices_ContainsFunc_api_Whereabouts_api_Whereabouts, ↓reduceIte, ← e, hc]
  | none => rw [hf] at e hc; simp (disch := omega) only [go_sem, K.slices_ContainsFunc_api_Whereabouts_api_Whereabouts, ↓reduceIte, ← e, hc, Option.isSome_none]

theorem properB_iff {l : List Int} : properB l = true ↔ l.Nodup ∧ ∀ x ∈ l, 1 ≤ x ∧ x ≤ 65535 := by
  constructor
  · intro h
    refine ⟨properB_nodup h, fun x hx => ?_⟩
    simp only [properB, List.all_eq_true, List.mem_range, properN, decide_eq_true_eq] at h
    obtain ⟨j, hj⟩ := List.mem_iff_getElem?.1 hx
    have := h j (List.getElem?_eq_some_iff.1 hj).1
    rw [nth_eq hj] at this
    exact ⟨this.1, this.2.1⟩
  · rintro ⟨h1, h2⟩
    simp only [properB, List.all_eq_true, List.mem_range, properN, decide_eq_true_eq]
    intro j hj
    obtain ⟨a, b⟩ := h2 _ (nth_mem hj)
    refine ⟨a, b, Decidable.byContradiction fun c => ?_⟩
    obtain ⟨d, e⟩ := bearerF_lt (l := l.take j) (x := nth l j) (by omega)
    have z : 0 ≤ bearerF (l.take j) (nth l j) := by omega
    generalize bearerF (l.take j) (nth l j) = k at *
    rw [List.length_take] at d
    have k1 : k.toNat < j := by omega
    have e1 : (l.take j)[k.toNat]? = l[k.toNat]? := List.getElem?_take_of_lt k1
    have e2 : l[k.toNat]? = some l[k.toNat] := List.getElem?_eq_getElem (by omega)
    rw [nth_eq (e1.trans e2), ← nth_eq e2] at e
    have n2 := (List.getElem?_inj (by omega : k.toNat < l.length) h1).1 (show l[k.toNat]? = l[j]? by rw [nth_some (by omega), nth_some hj, e])
    omega
theorem risB_iff {l : List Int} {lo hi : Int} : risB l lo hi = true ↔ l.Pairwise (· < ·) ∧ ∀ x ∈ l, lo ≤ x ∧ x ≤ hi := by
  have e : risB l lo hi = true ↔ ∀ j, j < l.length → lo ≤ nth l j ∧ nth l j ≤ hi ∧ (0 < j → nth l (j - 1) < nth l j) := by
    simp only [risB, Bool.not_eq_true', List.any_eq_false, List.mem_range, risP, Bool.not_eq_true]
    constructor
    · intro h j hj
      have := h j hj
      exact Decidable.byContradiction fun c => this (decide_eq_false c)
    · intro h j hj c
      exact (of_decide_eq_false c) (h j hj)
  rw [e]
  constructor
  · intro h
    refine ⟨?_, fun x hx => ?_⟩
    · have key : ∀ d i, i + d + 1 < l.length → nth l i < nth l (i + d + 1) := by
        intro d
        induction d with
        | zero => intro i hi; have := (h (i + 0 + 1) hi).2.2 (by omega); simpa using this
        | succ d ih =>
          intro i hi
          have a := ih i (by omega)
          have b := (h (i + (d + 1) + 1) hi).2.2 (by omega)
          rw [show i + (d + 1) + 1 - 1 = i + d + 1 by omega] at b
          omega
      rw [List.pairwise_iff_getElem]
      intro i j hi hj hij
      have := key (j - i - 1) i (by omega)
      rw [show i + (j - i - 1) + 1 = j by omega, nth_eq (List.getElem?_eq_getElem hi), nth_eq (List.getElem?_eq_getElem hj)] at this
      exact this
    · obtain ⟨j, hj⟩ := List.mem_iff_getElem?.1 hx
      have := h j (List.getElem?_eq_some_iff.1 hj).1
      rw [nth_eq hj] at this
      exact ⟨this.1, this.2.1⟩
  · rintro ⟨h1, h2⟩ j hj
    refine ⟨(h2 _ (nth_mem hj)).1, (h2 _ (nth_mem hj)).2, fun h0 => ?_⟩
    have := (List.pairwise_iff_getElem.1 h1) (j - 1) j (by omega) hj (by omega)
    rwa [← nth_eq (List.getElem?_eq_getElem (by omega : j - 1 < l.length)), ← nth_eq (List.getElem?_eq_getElem hj)] at this
theorem ris_proper (l : List Int) : risB (sortI l) 1 65535 = properB l := by
  rw [Bool.eq_iff_iff, risB_iff, properB_iff]
  have p := sortI_perm l
  have u := sortI_up l
  constructor
  · rintro ⟨h1, h2⟩
    refine ⟨p.nodup_iff.1 (h1.imp fun h => by omega), fun x hx => h2 x (p.mem_iff.2 hx)⟩
  · rintro ⟨h1, h2⟩
    have nd : (sortI l).Nodup := p.nodup_iff.2 h1
    refine ⟨?_, fun x hx => h2 x (p.mem_iff.1 hx)⟩
    have := List.Pairwise.and u nd
    exact this.imp fun h => by omega
theorem tagged_ok (l : List Int) (hl : l.length ≤ 1000000) : CALL 0 N.swaps_tagged [.t (tL l)] [] = some (B (properB l), []) := by
  refine CALL_of K.t_swaps_tagged rfl ?_
  have v := values_ok l
  have s := sorted_ok l hl
  have r := rising_ok (sortI l) 1 65535 (by rw [sortI_len]; omega)
  rw [ris_proper] at r
  simp (disch := omega) only [go_sem, K.swaps_tagged, ↓reduceIte, v, s, r, Nat.reduceAdd, Nat.reduceSub]
end Go.Ev

/- The program: arrivals. -/
namespace Go.Ev
open Go
variable [Lib] [Has1] [Has2] [Has6] [Has7] [Has8] [Has9]

def smE (into : Option (List Int)) : Heap := match into with
  | none => []
  | some s => [.box [.t (tL s)]]
def smD (into : Option (List Int)) : D := match into with
  | none => .fn N.places_all []
  | some _ => .fn N.places_Absent_1 [.bp 5 0]
def smK (into : Option (List Int)) : Nat := match into with
  | none => 5
  | some _ => 6


@[go_sem] theorem ixAt_1 (H : Heap) (len j : Nat) (ts : List T) (h : j < len) : ixAt H len 1 false (.t (.agg ts)) j = (ts[j]?).map fun t => (.t t, H) := by
  have h0 : len ≠ 0 := by omega
  unfold ixAt indexD
  rw [if_neg h0, if_pos h]
  unfold fieldD cut
  simp only [D.isAgg, D.cells, T.cells, if_true, Nat.mul_one, List.length_map]
  by_cases hj : j < ts.length
  · rw [if_pos (by omega), List.getElem?_eq_getElem hj]
    have e : ((ts.map D.t).drop j).take 1 = [D.t ts[j]] := by
      rw [List.drop_eq_getElem_cons (by simpa using hj)]; simp
    rw [e]; rfl
  · rw [if_neg (by omega), List.getElem?_eq_none (by omega)]; rfl

/-- A place's time may fall to x. -/
def fallC (into : Option (List Int)) (l : List Int) (q : Nat) (x : Int) : Bool := decide (x ≤ 2147483648 ∧ x < nth l q) && inOK into q
theorem low1_ok (into : Option (List Int)) (hi : ∀ s, into = some s → s.length ≤ 64) (l : List Int) (hl : l.length ≤ 64) (hb : bnd l) (p : Int) (q : Nat) (hq : q < l.length) (n t : Int) (ch : Bool) :
    CALL 0 N.places_lowered_1 [I p, I q, I n, .bp 0 0, .bp 1 0, .bp 2 0, .bp 3 0] (.box [I t] :: .box [.ref 4 0 l.length] :: .box [smD into] :: .box [B ch] :: arr1 l :: smE into) =
      some (.tup [], if fallC into l q (max n t) = true then .box [I t] :: .box [.ref 4 0 l.length] :: .box [smD into] :: .box [B true] :: arr1 (l.set q (max n t)) :: smE into
        else .box [I t] :: .box [.ref 4 0 l.length] :: .box [smD into] :: .box [B ch] :: arr1 l :: smE into) := by
  refine CALL_of K.t_places_lowered_1 rfl ?_
  have ln : (l.set q (max n t)).length = l.length := List.length_set ..
  have a := pall_ok q
  have b := hb _ (nth_mem hq)
  unfold fallC
  cases into with
  | none =>
    simp only [smE, smD, inOK, Bool.and_true, decide_eq_true_eq]
    by_cases c1 : max n t ≤ 2147483648
    · by_cases c2 : max n t < nth l q
      · simp (disch := omega) only [go_sem, K.places_lowered_1, ↓reduceIte, a, c1, c2, and_self, Nat.reduceAdd, Nat.reduceSub]
      · simp (disch := omega) only [go_sem, K.places_lowered_1, ↓reduceIte, c1, c2, and_false, Nat.reduceAdd, Nat.reduceSub]
    · simp (disch := omega) only [go_sem, K.places_lowered_1, ↓reduceIte, c1, false_and, Nat.reduceAdd, Nat.reduceSub]
  | some s =>
    have a2 := pabs1_ok q s (by have := hi s rfl; omega)
    simp only [smE, smD, inOK]
    by_cases c1 : max n t ≤ 2147483648
    · by_cases c2 : max n t < nth l q
      · by_cases c3 : (q : Int) ∈ s
        · simp only [c3, decide_true] at a2
          simp (disch := omega) only [go_sem, K.places_lowered_1, ↓reduceIte, a2, c1, c2, c3, and_self, decide_true, Bool.and_true, Nat.reduceAdd, Nat.reduceSub]
        · simp only [c3, decide_false] at a2
          simp (disch := omega) only [go_sem, K.places_lowered_1, ↓reduceIte, a2, c1, c2, c3, and_self, decide_false, Bool.and_false, Nat.reduceAdd, Nat.reduceSub]
      · simp (disch := omega) only [go_sem, K.places_lowered_1, ↓reduceIte, c1, c2, and_false, decide_false, Bool.false_and, Nat.reduceAdd, Nat.reduceSub]
    · simp (disch := omega) only [go_sem, K.places_lowered_1, ↓reduceIte, c1, false_and, decide_false, Bool.false_and, Nat.reduceAdd, Nat.reduceSub]
end Go.Ev

/- The program: arrivals, round by round. -/
namespace Go.Ev
open Go
variable [Lib] [Has1] [Has2] [Has6] [Has7] [Has8] [Has9]

theorem halfF_eq {m : Mine} (h : m.ok) (t : Int) (into : Option (List Int)) {k : Nat} (hk : k < m.roads.length) (back : Bool) (l : List Int) :
    halfF m t into k back l = if 0 ≤ walkT m k back 6 9 12 ∧ nth l ((nth m.roads k).src back).toNat < 1099511627776 ∧ fallC into l ((nth m.roads k).dst back).toNat (max (nth l ((nth m.roads k).src back).toNat + walkT m k back 6 9 12) t) = true
      then (l.set ((nth m.roads k).dst back).toNat (max (nth l ((nth m.roads k).src back).toNat + walkT m k back 6 9 12) t), true) else (l, false) := by
  have r2 := Road.dst_ok (h.rs _ (nth_mem hk)) back
  unfold halfF fallC lowerF lowerC
  have e : (((nth m.roads k).dst back).toNat : Int) = (nth m.roads k).dst back := by omega
  rw [e]
  generalize (nth m.roads k).dst back = d at *
  generalize ((nth m.roads k).src back).toNat = s at *
  generalize walkT m k back 6 9 12 = v at *
  rw [Int.max_comm t]
  generalize max (nth l s + v) t = x at *
  cases inOK into d with
  | false => simp
  | true =>
    simp only [↓reduceIte, Bool.and_true, Bool.and_eq_true, decide_eq_true_eq]
    by_cases c : ((0 ≤ v ∧ nth l s < 1099511627776) ∧ x ≤ 2147483648) ∧ x < nth l d.toNat
    · obtain ⟨⟨⟨c1, c2⟩, c3⟩, c4⟩ := c
      simp [c1, c2, c3, c4]
    · have c' : ¬ (0 ≤ v ∧ nth l s < 1099511627776 ∧ x ≤ 2147483648 ∧ x < nth l d.toNat) := fun h => c ⟨⟨⟨h.1, h.2.1⟩, h.2.2.1⟩, h.2.2.2⟩
      rw [if_neg c, if_neg c']
      simp only [Prod.mk.injEq, true_and]
      have : (decide (0 ≤ v) && decide (nth l s < 1099511627776) && decide (x ≤ 2147483648) && decide (x < nth l d.toNat)) = false := by
        rw [Bool.eq_false_iff]; intro h; simp only [Bool.and_eq_true, decide_eq_true_eq] at h; exact c h
      exact this

abbrev lowF : D := .fn N.places_lowered_1 [.bp 1 0, .bp 2 0, .bp 3 0, .bp 4 0]
abbrev arrH (into : Option (List Int)) (t : Int) (s : List Int × Bool) : Heap := arr1 s.1 :: .box [I t] :: .box [.ref 0 0 s.1.length] :: .box [smD into] :: .box [B s.2] :: smE into
abbrev roadC (x : Road) : List D := [I x.frm, I x.to, I x.len, I x.area, B x.walk, B x.closed, I x.restL, I x.restH, I x.liftL, I x.liftH]
theorem half_round {m : Mine} (h : m.ok) (t : Int) (ht : 0 ≤ t) (ht2 : t ≤ 1000000000000) (into : Option (List Int)) (hi : ∀ s, into = some s → s.length ≤ 64) (l : List Int) (hl : l.length = m.places.length) (hb : bnd l) (ch : Bool) {k : Nat} (hk : k < m.roads.length) (back : Bool) :
    roundC true [0, 6, 7, 8, 9] (arrH into t (l, ch) ++ [Obj.box (mineCells m), Obj.box (roadC (nth m.roads k))]).length (exS CALL K.places_arrivals_l2b ⟨[.und, .ref 0 0 l.length, lowF, .bp (smK into) 0, I k, .bp (smK into + 1) 0, .und, .und, .und, .und, .t (.sl (m.roads.map Road.e)), I m.roads.length, I k, .t (.agg [.bool false, .bool true]), I (if back then 1 else 0 : Nat)], arrH into t (l, ch) ++ [.box (mineCells m), .box (roadC (nth m.roads k))]⟩) =
      some ⟨[.und, .ref 0 0 l.length, lowF, .bp (smK into) 0, I k, .bp (smK into + 1) 0, .und, .und, .und, .und, .t (.sl (m.roads.map Road.e)), I m.roads.length, I k, .t (.agg [.bool false, .bool true]), I ((if back then 1 else 0 : Nat) + 1)], arrH into t ((halfF m t into k back l).1, ch || (halfF m t into k back l).2) ++ [.box (mineCells m), .box (roadC (nth m.roads k))]⟩ := by
  have np := h.np
  have nr := h.nr
  have ok := h.rs _ (nth_mem hk)
  have r1 := Road.src_ok ok back
  have r2 := Road.dst_ok ok back
  have wt := wtime_ok h k hk back
  have wl := walkT_lo h k hk back
  have b1 := hb _ (nth_mem (l := l) (j := ((nth m.roads k).src back).toNat) (by omega))
  have lo := low1_ok into hi l (by omega) hb ((nth m.roads k).src back) ((nth m.roads k).dst back).toNat (by omega) (nth l ((nth m.roads k).src back).toNat + walkT m k back 6 9 12) t ch
  have e : (((nth m.roads k).dst back).toNat : Int) = (nth m.roads k).dst back := by omega
  rw [e] at lo
  rw [halfF_eq h t into hk back l]
  have ls : ∀ x, (l.set ((nth m.roads k).dst back).toNat x).length = l.length := fun x => List.length_set ..
  generalize walkT m k back 6 9 12 = v at *
  generalize hx : nth m.roads k = x at *
  clear hx ok
  obtain ⟨frm, to, len, area, walk, closed, rl, rh, ll, lh⟩ := x
  obtain ⟨places, roads⟩ := m
  simp only at hl np nr hk
  have h01 : (1 : Int) = 0 + 1 := rfl
  by_cases c1 : 0 ≤ v
  · by_cases c2 : nth l ((Road.mk frm to len area walk closed rl rh ll lh).src back).toNat < 1099511627776
    · cases c3 : fallC into l ((Road.mk frm to len area walk closed rl rh ll lh).dst back).toNat (max (nth l ((Road.mk frm to len area walk closed rl rh ll lh).src back).toNat + v) t) <;>
      cases back <;> simp only [Road.src, Road.dst, Bool.false_eq_true, ↓reduceIte] at * <;> simp only [c1, c2, c3, and_true, true_and, and_self, and_false, Bool.false_eq_true, ↓reduceIte] at lo ⊢ <;>
      cases into <;> simp only [smE, smD, smK, mineCells, roadC, arrH, List.cons_append, List.nil_append] at * <;>
      simp (disch := omega) only [go_sem, K.places_arrivals_l2b, ↓reduceIte, wt, lo, c1, c2, ls, Bool.or_true, Bool.or_false, Nat.reduceAdd, Nat.reduceSub]
    · cases back <;> simp only [Road.src, Road.dst, Bool.false_eq_true, ↓reduceIte] at * <;> simp only [c1, c2, false_and, and_false, ↓reduceIte] <;>
      cases into <;> simp only [smE, smD, smK, mineCells, roadC, arrH, List.cons_append, List.nil_append] at * <;>
      simp (disch := omega) only [go_sem, K.places_arrivals_l2b, ↓reduceIte, wt, c1, c2, Bool.or_false, Nat.reduceAdd, Nat.reduceSub]
  · cases back <;> simp only [Road.src, Road.dst, Bool.false_eq_true, ↓reduceIte] at * <;> simp only [c1, false_and, ↓reduceIte] <;>
    cases into <;> simp only [smE, smD, smK, mineCells, roadC, arrH, List.cons_append, List.nil_append] at * <;>
    simp (disch := omega) only [go_sem, K.places_arrivals_l2b, ↓reduceIte, wt, c1, Bool.or_false, Nat.reduceAdd, Nat.reduceSub]
end Go.Ev

/- The program: times that fall until nothing changes. -/
namespace Go.Ev
open Go
variable [Lib] [Has1] [Has2] [Has6] [Has7] [Has8] [Has9]

theorem arr_road {m : Mine} (h : m.ok) (t : Int) (ht : 0 ≤ t) (ht2 : t ≤ 1000000000000) (into : Option (List Int)) (hi : ∀ s, into = some s → s.length ≤ 64) (l : List Int) (hl : l.length = m.places.length) (hb : bnd l) (ch : Bool) {k : Nat} (hk : k < m.roads.length) :
    roundC true [0, 4, 5, 6, 7, 8, 9, 13, 14] (arrH into t (l, ch) ++ [Obj.box (mineCells m)]).length (exS CALL K.places_arrivals_l1b ⟨[.und, .ref 0 0 l.length, lowF, .bp (smK into) 0, .und, .und, .und, .und, .und, .und, .t (.sl (m.roads.map Road.e)), I m.roads.length, I k, .und, .und], arrH into t (l, ch) ++ [.box (mineCells m)]⟩) =
      some ⟨[.und, .ref 0 0 (stepF m t into k (l, ch)).1.length, lowF, .bp (smK into) 0, .und, .und, .und, .und, .und, .und, .t (.sl (m.roads.map Road.e)), I m.roads.length, I (k + 1), .und, .und], arrH into t (stepF m t into k (l, ch)) ++ [.box (mineCells m)]⟩ := by
  have nr := h.nr
  have g : (m.roads.map Road.e)[k]? = some (nth m.roads k).e := map_nth _ hk
  have h1 := half_round h t ht ht2 into hi l hl hb ch hk false
  have l1 : (halfF m t into k false l).1.length = l.length := halfF_len ..
  have l2 : (halfF m t into k true (halfF m t into k false l).1).1.length = l.length := by rw [halfF_len, l1]
  have h2 := half_round h t ht ht2 into hi (halfF m t into k false l).1 (by omega) (halfF_bnd h hl hb hk false) (ch || (halfF m t into k false l).2) hk true
  have st : stepF m t into k (l, ch) = ((halfF m t into k true (halfF m t into k false l).1).1, ch || (halfF m t into k false l).2 || (halfF m t into k true (halfF m t into k false l).1).2) := rfl
  rw [st]
  simp only [l1, l2, Bool.false_eq_true, ↓reduceIte] at h1 h2 ⊢
  have inner : ∀ z0 z6 z7 z8 z9 : D, exS CALL K.places_arrivals_l2 ⟨[z0, .ref 0 0 l.length, lowF, .bp (smK into) 0, I k, .bp (smK into + 1) 0, z6, z7, z8, z9, .t (.sl (m.roads.map Road.e)), I m.roads.length, I k, .t (.agg [.bool false, .bool true]), I 0], arrH into t (l, ch) ++ [.box (mineCells m), .box (roadC (nth m.roads k))]⟩ =
      some (.exit 2, ⟨[.und, .ref 0 0 l.length, lowF, .bp (smK into) 0, I k, .bp (smK into + 1) 0, .und, .und, .und, .und, .t (.sl (m.roads.map Road.e)), I m.roads.length, I k, .t (.agg [.bool false, .bool true]), I 2],
        arrH into t ((halfF m t into k true (halfF m t into k false l).1).1, ch || (halfF m t into k false l).2 || (halfF m t into k true (halfF m t into k false l).1).2) ++ [.box (mineCells m), .box (roadC (nth m.roads k))]⟩) := by
    intro z0 z6 z7 z8 z9
    refine loop_up (fun j => ⟨[.und, .ref 0 0 l.length, lowF, .bp (smK into) 0, I k, .bp (smK into + 1) 0, .und, .und, .und, .und, .t (.sl (m.roads.map Road.e)), I m.roads.length, I k, .t (.agg [.bool false, .bool true]), I j],
      arrH into t (match j with | 0 => (l, ch) | 1 => ((halfF m t into k false l).1, ch || (halfF m t into k false l).2) | _ => ((halfF m t into k true (halfF m t into k false l).1).1, ch || (halfF m t into k false l).2 || (halfF m t into k true (halfF m t into k false l).1).2)) ++ [.box (mineCells m), .box (roadC (nth m.roads k))]⟩) 2 rfl ?_ ?_ (by simp)
    · intro j hj
      have hj2 : j = 0 ∨ j = 1 := by omega
      rcases hj2 with rfl | rfl
      · exact h1
      · exact h2
    · clear h1 h2
      cases into <;> simp only [smE, smD, smK, mineCells, roadC, arrH, List.cons_append, List.nil_append] <;>
      simp (disch := omega) only [go_sem, K.places_arrivals_l2b, ↓reduceIte, Nat.reduceAdd, Nat.reduceSub]
  clear h1 h2 st
  generalize halfF m t into k true (halfF m t into k false l).1 = b2 at *
  generalize halfF m t into k false l = b1 at *
  generalize hx : nth m.roads k = x at *
  clear hx
  obtain ⟨frm, to, len, area, walk, closed, rl, rh, ll, lh⟩ := x
  obtain ⟨places, roads⟩ := m
  simp only at nr hk
  cases into <;> simp only [smE, smD, smK, mineCells, roadC, arrH, List.cons_append, List.nil_append] at * <;>
  simp (disch := omega) only [go_sem, K.places_arrivals_l1b, ↓reduceIte, g, inner, l2, Nat.reduceAdd, Nat.reduceSub]
theorem arrivals_ok {m : Mine} (h : m.ok) (t : Int) (ht : 0 ≤ t) (ht2 : t ≤ 1000000000000) (into : Option (List Int)) (hi : ∀ s, into = some s → s.length ≤ 64) (l : List Int) (hl : l.length = m.places.length) (hb : bnd l) (ch : Bool) :
    CALL 0 N.places_arrivals [.t m.e, .ref 0 0 l.length, lowF] (arrH into t (l, ch)) = some (.tup [], arrH into t ((roundF m t into l).1, ch || (roundF m t into l).2)) := by
  refine CALL_of K.t_places_arrivals rfl ?_
  have nr := h.nr
  have ls := fun k => stepsF_len m t into l k
  have loop : ∀ z0 z4 z5 z6 z7 z8 z9 z13 z14 : D, exS CALL K.places_arrivals_l1 ⟨[z0, .ref 0 0 l.length, lowF, .bp (smK into) 0, z4, z5, z6, z7, z8, z9, .t (.sl (m.roads.map Road.e)), I m.roads.length, I 0, z13, z14], arrH into t (l, ch) ++ [.box (mineCells m)]⟩ =
      some (.exit 0, ⟨[.und, .ref 0 0 l.length, lowF, .bp (smK into) 0, .und, .und, .und, .und, .und, .und, .t (.sl (m.roads.map Road.e)), I m.roads.length, I m.roads.length, .und, .und], arrH into t ((roundF m t into l).1, ch || (roundF m t into l).2) ++ [.box (mineCells m)]⟩) := by
    intro z0 z4 z5 z6 z7 z8 z9 z13 z14
    refine loop_up (fun j => ⟨[.und, .ref 0 0 l.length, lowF, .bp (smK into) 0, .und, .und, .und, .und, .und, .und, .t (.sl (m.roads.map Road.e)), I m.roads.length, I j, .und, .und], arrH into t ((stepsF m t into l j).1, ch || (stepsF m t into l j).2) ++ [.box (mineCells m)]⟩) m.roads.length ?_ ?_ ?_ (by simp)
    · simp only [stepsF, Bool.or_false]; rfl
    · intro j hj
      have r := arr_road h t ht ht2 into hi (stepsF m t into l j).1 (by rw [ls, hl]) (stepsF_bnd h hl hb j (by omega)) (ch || (stepsF m t into l j).2) hj
      have e : stepF m t into j ((stepsF m t into l j).1, ch || (stepsF m t into l j).2) = ((stepsF m t into l (j + 1)).1, ch || (stepsF m t into l (j + 1)).2) := by
        simp only [stepsF, stepF, Bool.or_assoc]
      rw [e] at r
      simp only [ls] at r
      exact r
    · clear ls
      cases into <;> simp only [smE, smD, smK, mineCells, roadC, arrH, List.cons_append, List.nil_append] <;>
      simp (disch := omega) only [go_sem, K.places_arrivals_l1b, ↓reduceIte, roundF, Nat.reduceAdd, Nat.reduceSub]
  have l2 : (roundF m t into l).1.length = l.length := by unfold roundF; rw [ls]
  clear ls
  generalize roundF m t into l = r at *
  obtain ⟨r1, r2⟩ := r
  obtain ⟨places, roads⟩ := m
  simp only at nr hl l2
  cases into <;> simp only [smE, smD, smK, mineCells, roadC, arrH, List.cons_append, List.nil_append] at * <;>
  simp (disch := omega) only [go_sem, K.places_arrivals, ↓reduceIte, loop, l2, Nat.reduceAdd, Nat.reduceSub]
end Go.Ev

/- The program: times that fall until nothing changes: the rounds. -/
namespace Go.Ev
open Go
variable [Lib] [Has1] [Has2] [Has6] [Has7] [Has8] [Has9]

section
variable (a0 a1 a2 a3 a4 a5 x y : Obj) (ds : Heap)
theorem h5_get : (a0 :: a1 :: a2 :: a3 :: a4 :: (ds ++ [x]))[ds.length + 5]? = some x := by simp
theorem h5_set : (a0 :: a1 :: a2 :: a3 :: a4 :: (ds ++ [x])).set (ds.length + 5) y = a0 :: a1 :: a2 :: a3 :: a4 :: (ds ++ [y]) := by simp
theorem h6_get : (a0 :: a1 :: a2 :: a3 :: a4 :: a5 :: (ds ++ [x]))[ds.length + 6]? = some x := by simp
theorem h6_set : (a0 :: a1 :: a2 :: a3 :: a4 :: a5 :: (ds ++ [x])).set (ds.length + 6) y = a0 :: a1 :: a2 :: a3 :: a4 :: a5 :: (ds ++ [y]) := by simp
theorem h_get1 (u : Obj) : (ds ++ [u] ++ [x])[ds.length + 1]? = some x := by simp
theorem h5_set1 (u : Obj) : (a0 :: a1 :: a2 :: a3 :: a4 :: (ds ++ [u] ++ [x])).set (ds.length + 1 + 1 + 1 + 1 + 1 + 1) y = a0 :: a1 :: a2 :: a3 :: a4 :: (ds ++ [u] ++ [y]) := by simp
theorem h6_set1 (u : Obj) : (a0 :: a1 :: a2 :: a3 :: a4 :: a5 :: (ds ++ [u] ++ [x])).set (ds.length + 1 + 1 + 1 + 1 + 1 + 1 + 1) y = a0 :: a1 :: a2 :: a3 :: a4 :: a5 :: (ds ++ [u] ++ [y]) := by simp
theorem h_len : (ds ++ [x]).length = ds.length + 1 := by simp
end

@[go_sem] theorem eqB_self (n : Nat) : eqB n n = true := by
  induction n with
  | zero => rfl
  | succ n ih => exact ih
abbrev lowH (m : Mine) (into : Option (List Int)) (t : Int) (l : List Int) (ds : Heap) (c : Bool) : Heap := match into with
  | none => .box (mineCells m) :: .box [I t] :: .box [.fn N.places_all []] :: arr1 l :: .box [.ref 3 0 l.length] :: (ds ++ [.box [B c]])
  | some s => .box [.t (tL s)] :: .box (mineCells m) :: .box [I t] :: .box [.fn N.places_Absent_1 [.bp 0 0]] :: arr1 l :: .box [.ref 4 0 l.length] :: (ds ++ [.box [B c]])
abbrev lowS (m : Mine) (into : Option (List Int)) (t : Int) (l : List Int) (ds : Heap) (c : Bool) : St := match into with
  | none => ⟨[.und, .und, .und, .und, .bp 0 0, .bp 1 0, .bp 2 0, .und, .bp 4 0, .bp (ds.length + 5) 0, .und], lowH m none t l ds c⟩
  | some s => ⟨[.und, .und, .und, .und, .bp 1 0, .bp 2 0, .bp 3 0, .und, .bp 5 0, .bp (ds.length + 6) 0, .und], lowH m (some s) t l ds c⟩
theorem low_round {m : Mine} (h : m.ok) (t : Int) (ht : 0 ≤ t) (ht2 : t ≤ 1000000000000) (into : Option (List Int)) (hi : ∀ s, into = some s → s.length ≤ 64) (l : List Int) (hl : l.length = m.places.length) (hb : bnd l) (ds : Heap) (k : Nat) :
    roundC false [0, 1, 2, 3, 7, 10] k (exS CALL K.places_lowered_l1b (lowS m into t l ds true)) = some (lowS m into t (roundF m t into l).1 (ds ++ [.box [B (roundF m t into l).2]]) (roundF m t into l).2) := by
  have nr := h.nr
  have ar := arrivals_ok h t ht ht2 into hi l hl hb false
  have l2 : (roundF m t into l).1.length = l.length := by unfold roundF; rw [stepsF_len]
  cases into with
  | none =>
    generalize roundF m t none l = r at *
    obtain ⟨r1, r2⟩ := r
    obtain ⟨places, roads⟩ := m
    simp only [lowH, lowS, arrH, smE, smD, mineCells, Bool.false_or] at *
    simp (disch := omega) only [go_sem, K.places_lowered_l1b, ↓reduceIte, ar, h5_get, h5_set, h_len, l2, h_get1, h5_set1, Nat.reduceAdd, Nat.reduceSub]
  | some s =>
    generalize roundF m t (some s) l = r at *
    obtain ⟨r1, r2⟩ := r
    obtain ⟨places, roads⟩ := m
    simp only [lowH, lowS, arrH, smE, smD, mineCells, Bool.false_or] at *
    simp (disch := omega) only [go_sem, K.places_lowered_l1b, ↓reduceIte, ar, h6_get, h6_set, h_len, l2, h_get1, h6_set1, Nat.reduceAdd, Nat.reduceSub]
theorem low_exit (m : Mine) (into : Option (List Int)) (t : Int) (l : List Int) (ds : Heap) : exS CALL K.places_lowered_l1b (lowS m into t l ds false) = some (.exit 0, lowS m into t l ds false) := by
  obtain ⟨places, roads⟩ := m
  cases into with
  | none =>
    simp only [lowH, lowS, mineCells]
    simp (disch := omega) only [go_sem, K.places_lowered_l1b, ↓reduceIte, h5_get, Nat.reduceAdd, Nat.reduceSub]
  | some s =>
    simp only [lowH, lowS, mineCells]
    simp (disch := omega) only [go_sem, K.places_lowered_l1b, ↓reduceIte, h6_get, Nat.reduceAdd, Nat.reduceSub]
theorem low_loop {m : Mine} (h : m.ok) (t : Int) (ht : 0 ≤ t) (ht2 : t ≤ 1000000000000) (into : Option (List Int)) (hi : ∀ s, into = some s → s.length ≤ 64) : ∀ (n : Nat) (l : List Int) (ds : Heap), sumN l < n → l.length = m.places.length → bnd l →
    ∃ ds', loopC false [0, 1, 2, 3, 7, 10] (exS CALL K.places_lowered_l1b) (lowS m into t l ds true) = some (.exit 0, lowS m into t (closeN (roundF m t into) n l) ds' false)
  | 0, l, ds, hn, _, _ => absurd hn (by omega)
  | n + 1, l, ds, hn, hl, hb => by
    have r := low_round h t ht ht2 into hi l hl hb ds (lowS m into t l ds true).H.length
    have s := (stepsF_sum h (t := t) (into := into) hl hb m.roads.length (Nat.le_refl _)).1
    change (roundF m t into l).2 = true → sumN (roundF m t into l).1 < sumN l at s
    unfold closeN
    cases hc : (roundF m t into l).2 with
    | true =>
      rw [hc] at r
      obtain ⟨ds', h2⟩ := low_loop h t ht ht2 into hi n (roundF m t into l).1 _ (by have := s hc; omega) (by unfold roundF; rw [stepsF_len, hl]) (stepsF_bnd h hl hb _ (Nat.le_refl _))
      exact ⟨ds', loopC_step r h2⟩
    | false =>
      rw [hc] at r
      exact ⟨_, loopC_step r (loopC_exit (low_exit m into t _ _) (by simp))⟩
/-- Both ways in which it is called. -/
theorem lowered_ok {m : Mine} (h : m.ok) (t : Int) (ht : 0 ≤ t) (ht2 : t ≤ 1000000000000) (l : List Int) (hl : l.length = m.places.length) (hb : bnd l) :
    CALL 0 N.places_lowered [.t m.e, .t (tL l), I t, .fn N.places_all []] [] = some (.t (tL (closeF m t none l)), []) ∧
    ∀ s : List Int, s.length ≤ 64 → CALL 1 N.places_lowered [.t m.e, .t (tL l), I t, .fn N.places_Absent_1 [.bp 0 0]] [.box [.t (tL s)]] = some (.ref 1 0 l.length, [.box [.t (tL s)], arr1 (closeF m t (some s) l)]) := by
  have np := h.np
  have c1 := clone1_ok l (by omega)
  have ln : ∀ into, (closeF m t into l).length = l.length := by
    intro into
    have key : ∀ n l, (closeN (roundF m t into) n l).length = l.length := by
      intro n
      induction n with
      | zero => intro l; rfl
      | succ n ih =>
        intro l
        unfold closeN
        split
        · rw [ih]; unfold roundF; rw [stepsF_len]
        · unfold roundF; rw [stepsF_len]
    exact key _ _
  refine ⟨CALL_of K.t_places_lowered rfl ?_, fun s hs => CALL_of K.t_places_lowered rfl ?_⟩
  · obtain ⟨ds, lp⟩ := low_loop h t ht ht2 none (by simp) (sumN l + 1) l [] (Nat.lt_succ_self _) hl hb
    have ln := ln none
    have lp : ∀ z0 z1 z2 z3 z7 z10 : D, exS CALL K.places_lowered_l1 ⟨[z0, z1, z2, z3, .bp 0 0, .bp 1 0, .bp 2 0, z7, .bp 4 0, .bp 5 0, z10], [.box (mineCells m), .box [I t], .box [.fn N.places_all []], arr1 l, .box [.ref 3 0 l.length], .box [B true]]⟩ = some (.exit 0, lowS m none t (closeF m t none l) ds false) := fun z0 z1 z2 z3 z7 z10 => lp
    generalize closeF m t none l = r at *
    obtain ⟨places, roads⟩ := m
    simp only [lowH, lowS, mineCells] at *
    simp (disch := omega) only [go_sem, K.places_lowered, ↓reduceIte, c1, lp, ln, Nat.reduceAdd, Nat.reduceSub]
  · obtain ⟨ds, lp⟩ := low_loop h t ht ht2 (some s) (by intro s' h; cases h; exact hs) (sumN l + 1) l [] (Nat.lt_succ_self _) hl hb
    have l2 := ln (some s)
    clear ln
    have lp : ∀ z0 z1 z2 z3 z7 z10 : D, exS CALL K.places_lowered_l1 ⟨[z0, z1, z2, z3, .bp 1 0, .bp 2 0, .bp 3 0, z7, .bp 5 0, .bp 6 0, z10], [.box [.t (tL s)], .box (mineCells m), .box [I t], .box [.fn N.places_Absent_1 [.bp 0 0]], arr1 l, .box [.ref 4 0 l.length], .box [B true]]⟩ = some (.exit 0, lowS m (some s) t (closeF m t (some s) l) ds false) := fun z0 z1 z2 z3 z7 z10 => lp
    generalize closeF m t (some s) l = r at *
    obtain ⟨places, roads⟩ := m
    simp only [lowH, lowS, mineCells] at *
    simp (disch := omega) only [go_sem, K.places_lowered, ↓reduceIte, c1, lp, l2, Nat.reduceAdd, Nat.reduceSub]
end Go.Ev

/- The program: whereabouts. -/
namespace Go.Ev
open Go
variable [Lib] [Has1] [Has2] [Has3] [Has4] [Has6] [Has7] [Has8] [Has9]

theorem shaped1_ok (x : Int) : CALL 0 N.places_shaped_1 [I x] [] = some (B (!decide (plT x)), []) := by
  refine CALL_of K.t_places_shaped_1 rfl ?_
  have i := in_ok x 0 2147483648
  unfold plT inT
  by_cases c : x = 1099511627776
  · subst c
    simp (disch := omega) only [go_sem, K.places_shaped_1, ↓reduceIte, Nat.reduceAdd, Nat.reduceSub]
  · by_cases c2 : 0 ≤ x ∧ x ≤ 2147483648
    · simp only [c2, and_self, decide_true] at i
      simp (disch := omega) only [go_sem, K.places_shaped_1, ↓reduceIte, i, c, c2, false_or, and_self, decide_true, Nat.reduceAdd, Nat.reduceSub]
    · simp only [c2, decide_false] at i
      simp (disch := omega) only [go_sem, K.places_shaped_1, ↓reduceIte, i, c, c2, false_or, decide_false, Nat.reduceAdd, Nat.reduceSub]
theorem shaped_ok (m : Mine) (hm : m.places.length ≤ 1000000) (w : Wh) (hl : w.frm.length ≤ 1000000) : CALL 0 N.places_shaped [.t m.e, .t w.e] [] = some (B (plainB w m.places.length), []) := by
  refine CALL_of K.t_places_shaped rfl ?_
  have i := in_ok w.time 0 2147483648
  have cf : CALL 0 N.slices_ContainsFunc_int_int [.t (tL w.frm), .fn N.places_shaped_1 []] [] = some (B (w.frm.any fun x => !decide (plT x)), []) := containsFunc_ok w.frm (by omega) N.places_shaped_1 [] (fun x => !decide (plT x)) (fun x _ => shaped1_ok x)
  have e : plainB w m.places.length = (decide ((w.frm.length : Int) = m.places.length ∧ inT w.time) && !(w.frm.any fun x => !decide (plT x))) := by
    unfold plainB
    rw [all_rng, any_rng w.frm (fun x => !decide (plT x))]
  rw [e]
  unfold inT
  generalize (w.frm.any fun x => !decide (plT x)) = r at *
  obtain ⟨places, roads⟩ := m
  obtain ⟨time, frm⟩ := w
  simp only at *
  clear e
  by_cases c1 : (frm.length : Int) = places.length
  · by_cases c2 : 0 ≤ time ∧ time ≤ 2147483648
    · simp only [c2, and_self, decide_true] at i
      cases r <;> simp (disch := omega) only [go_sem, K.places_shaped, ↓reduceIte, i, cf, c1, c2, and_self, decide_true, Bool.true_and, Nat.reduceAdd, Nat.reduceSub]
    · simp only [c2, decide_false] at i
      simp (disch := omega) only [go_sem, K.places_shaped, ↓reduceIte, i, cf, c1, c2, and_false, decide_false, Bool.false_and, Nat.reduceAdd, Nat.reduceSub]
  · simp (disch := omega) only [go_sem, K.places_shaped, ↓reduceIte, c1, false_and, decide_false, Bool.false_and, Nat.reduceAdd, Nat.reduceSub]
theorem pvalid_ok {m : Mine} (h : m.ok) (w : Wh) (hl : w.frm.length ≤ 1000000) : CALL 0 N.places_Valid [.t m.e, .t w.e] [] = some (B (validB m w), []) := by
  refine CALL_of K.t_places_Valid rfl ?_
  have np := h.np
  have v := planValid_ok h
  have s := shaped_ok m (by omega) w hl
  unfold validB
  cases hp : plainB w m.places.length with
  | false =>
    rw [hp] at s
    obtain ⟨places, roads⟩ := m
    obtain ⟨time, frm⟩ := w
    simp only at *
    simp (disch := omega) only [go_sem, K.places_Valid, ↓reduceIte, v, s, Bool.false_and, Nat.reduceAdd, Nat.reduceSub]
  | true =>
    rw [hp] at s
    obtain ⟨p1, p2, p3⟩ := plainB_spec hp
    have hb : bnd w.frm := fun x hx => plT_bnd (p3 x hx)
    have lo := (lowered_ok h w.time (by unfold inT at p2; omega) (by unfold inT at p2; omega) w.frm (by omega) hb).1
    have ll := closeF_len h w.time p2 none (by simp) (l := w.frm) (by omega) hb
    have eq := equal_ok (closeF m w.time none w.frm) w.frm (by omega) (by omega)
    generalize closeF m w.time none w.frm = c at *
    obtain ⟨places, roads⟩ := m
    obtain ⟨time, frm⟩ := w
    simp only at *
    clear hb p3
    simp (disch := omega) only [go_sem, K.places_Valid, ↓reduceIte, v, s, lo, eq, Bool.true_and, Nat.reduceAdd, Nat.reduceSub]

def renewF (m : Mine) (w : Wh) (t : Int) : Wh × Int := if plainB w m.places.length = false then (w, 6) else if t < w.time ∨ 2147483648 < t then (w, 8) else (⟨t, closeF m t none w.frm⟩, 0)
end Go.Ev

/- Beliefs that are valid, by the program. -/
namespace Go.Ev
open Go
variable [Lib] [Has1] [Has2] [Has3] [Has4] [Has5] [Has6] [Has7] [Has8] [Has9] [Has10] [Has11]

theorem find_first_some {n j : Nat} {p : Nat → Bool} (h1 : j < n) (h2 : p j = true) (h3 : ∀ k, k < j → p k = false) : (List.range n).find? p = some j := by
  cases hf : (List.range n).find? p with
  | none => exact absurd h2 (by simpa using List.find?_eq_none.1 hf j (List.mem_range.2 h1))
  | some k =>
    obtain ⟨k1, k2⟩ := find_lt hf
    have : k ≤ j := by
      rcases Nat.lt_or_ge j k with c | c
      · rw [List.find?_range_eq_some] at hf
        exact absurd h2 (by simpa using hf.2.2 j c)
      · exact c
    rcases Nat.lt_or_ge k j with c | c
    · rw [h3 k c] at k2; cases k2
    · rw [show k = j by omega]
theorem find_none_of {n : Nat} {p : Nat → Bool} (h : ∀ k, k < n → p k = false) : (List.range n).find? p = none := List.find?_eq_none.2 fun x hx => by rw [h x (List.mem_range.1 hx)]; simp
theorem cmpL_less (a b : List Int) : decide (cmpL a b < 0) = lessB a b := by
  unfold cmpL lessB
  cases hf : (List.range (min a.length b.length)).find? (fun j => decide (nth a j ≠ nth b j)) with
  | some j =>
    rw [List.find?_range_eq_some] at hf
    obtain ⟨h2, h1, h3⟩ := hf
    have h1 := List.mem_range.1 h1
    have e : (List.range a.length).find? (cmpP a b) = some j := find_first_some (by omega) (by simp only [cmpP, h2, Bool.or_true]) (fun k hk => by
      have := h3 k hk
      simp only [cmpP, Bool.or_eq_false_iff, decide_eq_false_iff_not]
      exact ⟨by omega, by simpa using this⟩)
    have h2 : nth a j ≠ nth b j := by simpa using h2
    rw [e]
    simp only [if_neg (by omega : ¬ b.length ≤ j)]
    rw [decide_eq_decide]
    unfold cmpI
    split
    · omega
    · split <;> omega
  | none =>
    have h3 : ∀ k, k < min a.length b.length → nth a k = nth b k := fun k hk => by
      have := List.find?_eq_none.1 hf k (List.mem_range.2 hk)
      simpa using this
    by_cases c : a.length ≤ b.length
    · have e : (List.range a.length).find? (cmpP a b) = none := find_none_of fun k hk => by
        simp only [cmpP, Bool.or_eq_false_iff, decide_eq_false_iff_not, Decidable.not_not]
        exact ⟨by omega, h3 k (by omega)⟩
      rw [e]
      simp only [decide_eq_decide]
      split <;> omega
    · have e : (List.range a.length).find? (cmpP a b) = some b.length := find_first_some (by omega) (by simp [cmpP]) (fun k hk => by
        simp only [cmpP, Bool.or_eq_false_iff, decide_eq_false_iff_not, Decidable.not_not]
        exact ⟨by omega, h3 k (by omega)⟩)
      rw [e]
      simp only [Nat.le_refl, if_true, decide_eq_decide]
      omega
/-- A world, as the program looks at it. -/
def pwB (m : Mine) (ws : List World) (first : List Int) (i : Nat) : Bool :=
  decide (1 ≤ (nth ws i).tags.length ∧ (nth ws i).tags.length ≤ 12) && decide ((nth ws i).whr.length = (nth ws i).tags.length) && properB (nth ws i).tags && decide (sortI (nth ws i).tags = sortI first) && (decide (i = 0) || lessB (nth ws (i - 1)).tags (nth ws i).tags) && !((nth ws i).whr.any fun x => !validB m x)
def pbelB (m : Mine) (b : Bel) : Bool := decide (1 ≤ b.worlds.length ∧ b.worlds.length ≤ 24) && (List.range b.worlds.length).all (pwB m b.worlds (nth b.worlds 0).tags)
theorem sort_perm_eq {a b : List Int} : sortI a = sortI b ↔ a.Perm b := by
  constructor
  · intro h
    exact (sortI_perm a).symm.trans (h ▸ sortI_perm b)
  · intro h
    exact up_eq (sortI_up a) (sortI_up b) ((sortI_perm a).trans (h.trans (sortI_perm b).symm))
theorem nodup_sub_perm {a b : List Int} (ha : a.Nodup) (hb : b.Nodup) (hl : a.length = b.length) (hs : ∀ x ∈ a, x ∈ b) : a.Perm b := by
  have key : ∀ y ∈ b, y ∈ a := fun y hy => Decidable.byContradiction fun hn => by
    have := nodup_sub_len ha (l' := b.erase y) (fun x hx => (List.mem_erase_of_ne (fun e => hn (by rw [← e]; exact hx))).2 (hs x hx))
    rw [List.length_erase_of_mem hy] at this
    have := List.length_pos_of_mem hy
    omega
  exact (List.perm_ext_iff_of_nodup ha hb).2 fun x => ⟨hs x, key x⟩
theorem pbel_bel (m : Mine) (b : Bel) : pbelB m b = belB m b := by
  obtain ⟨ws⟩ := b
  rw [Bool.eq_iff_iff]
  constructor
  · intro h
    simp only [pbelB, Bool.and_eq_true, decide_eq_true_eq, List.all_eq_true, List.mem_range, pwB, Bool.or_eq_true, Bool.not_eq_true', List.any_eq_false, Bool.not_eq_false'] at h
    obtain ⟨⟨h1, h2⟩, h⟩ := h
    have h0 := h 0 (by omega)
    simp only [belB, Bool.and_eq_true, decide_eq_true_eq, List.all_eq_true, List.mem_range, worldB, Bool.or_eq_true, whoB]
    refine ⟨⟨⟨h1, h2⟩, h0.1.1.1.1.1⟩, fun i hi => ?_⟩
    obtain ⟨⟨⟨⟨⟨a1, a2⟩, a3⟩, a4⟩, a5⟩, a6⟩ := h i hi
    have pm := sort_perm_eq.1 a4
    refine ⟨⟨⟨⟨pm.length_eq, by rw [a2, pm.length_eq]⟩, a3⟩, a5⟩, fun k hk => ⟨?_, ?_⟩⟩
    · exact bearerF_mem.2 (pm.mem_iff.1 (nth_mem hk))
    · simpa using a6 _ (nth_mem (l := (nth ws i).whr) (j := k) (by omega))
  · intro h
    obtain ⟨h1, h2, h3, h4, h5⟩ := belB_spec h
    simp only at h1 h2 h3 h4 h5
    have p0 := (worldB_spec (h5 0 (by omega))).2.2.1
    simp only [pbelB, Bool.and_eq_true, decide_eq_true_eq, List.all_eq_true, List.mem_range, pwB, Bool.or_eq_true, Bool.not_eq_true', List.any_eq_false, Bool.not_eq_false']
    refine ⟨⟨h1, h2⟩, fun i hi => ?_⟩
    obtain ⟨w1, w2, w3, w4⟩ := worldB_spec (h5 i hi)
    have ls := h5 i hi
    simp only [worldB, Bool.and_eq_true, Bool.or_eq_true, decide_eq_true_eq] at ls
    refine ⟨⟨⟨⟨⟨by omega, by omega⟩, w3⟩, ?_⟩, ls.1.2⟩, fun x hx => ?_⟩
    · refine sort_perm_eq.2 (nodup_sub_perm (properB_nodup w3) (properB_nodup p0) w1 fun x hx => ?_)
      obtain ⟨j, hj⟩ := List.mem_iff_getElem?.1 hx
      have := (w4 j (List.getElem?_eq_some_iff.1 hj).1).1
      rwa [nth_eq hj] at this
    · obtain ⟨j, hj⟩ := List.mem_iff_getElem?.1 hx
      have := (w4 j (by rw [w1, ← w2]; exact (List.getElem?_eq_some_iff.1 hj).1)).2
      rw [nth_eq hj] at this
      simpa using this
theorem swValid1_ok {m : Mine} (h : m.ok) (x : Wh) (hx : x.frm.length ≤ 1000000) : CALL 0 N.swaps_Valid_1 [.t x.e, .bp 0 0] [.box (mineCells m)] = some (B (!validB m x), [.box (mineCells m)]) := by
  refine CALL_of K.t_swaps_Valid_1 rfl ?_
  have v := pvalid_ok h x hx
  obtain ⟨places, roads⟩ := m
  obtain ⟨time, frm⟩ := x
  simp only at *
  simp (disch := omega) only [go_sem, K.swaps_Valid_1, ↓reduceIte, v, Nat.reduceAdd, Nat.reduceSub]
abbrev swS (m : Mine) (ws : List World) (first : List Int) (i : Nat) : St :=
  ⟨[.und, .und, .bp 0 0, .bp 1 0, .und, .t (tL (sortI first)), .und, .und, .t (.sl (ws.map World.e)), I ws.length, I i], [.box (mineCells m), .box [.t (.sl (ws.map World.e))], .box [.t (tL first)]]⟩
theorem pw_step {m : Mine} (h : m.ok) (ws : List World) (first : List Int) (hf : first.length ≤ 1000000) (hs : ∀ x ∈ ws, x.sz) (i : Nat) (hi : i < ws.length) (hl : ws.length ≤ 1000000) :
    (pwB m ws first i = true → roundC true [0, 1, 4, 6, 7] 3 (exS CALL K.swaps_Valid_l1b (swS m ws first i)) = some (swS m ws first (i + 1))) ∧
    (pwB m ws first i = false → ∃ q, exS CALL K.swaps_Valid_l1b (swS m ws first i) = some q ∧ q.1 = .ret ∧ q.2.vs[4]? = some (B false)) := by
  simp only [swS]
  have sz := hs _ (nth_mem hi)
  have ex : (ws.map World.e)[i]? = some (nth ws i).e := map_nth _ hi
  unfold pwB
  have ey : 0 < i → (ws.map World.e)[i - 1]? = some (nth ws (i - 1)).e ∧ (nth ws (i - 1)).tags.length ≤ 1000000 := fun h0 => ⟨map_nth _ (by omega), (hs _ (nth_mem (by omega))).1⟩
  generalize nth ws (i - 1) = y at *
  generalize nth ws i = x at *
  obtain ⟨tags, whr⟩ := x
  obtain ⟨ptags, pwhr⟩ := y
  obtain ⟨s1, s2, s3⟩ := sz
  simp only at s1 s2 s3 ey ⊢
  have li := in_ok tags.length 1 12
  have tg := tagged_ok tags s1
  have va := values_ok tags
  have so := sorted_ok tags s1
  have eq := equal_ok (sortI tags) (sortI first) (by rw [sortI_len]; omega) (by rw [sortI_len]; omega)
  have cf := containsFuncH_ok whr (by omega) N.swaps_Valid_1 [[.sl (m.places.map Place.e), .sl (m.roads.map Road.e)]] (fun x => !validB m x) (fun x hx => swValid1_ok h x (s3 x hx))
  have cf : CALL 0 N.slices_ContainsFunc_api_Whereabouts_api_Whereabouts [.t (.sl (whr.map Wh.e)), .fn N.swaps_Valid_1 [.bp 0 0]] [.box (mineCells m)] = some (B (whr.any fun x => !validB m x), [.box (mineCells m)]) := cf
  have cp : 0 < i → CALL 0 N.slices_Compare_int_int [.t (tL ptags), .t (tL tags)] [] = some (I (cmpL ptags tags), []) := fun h0 => compare_ok ptags tags (ey h0).2 s1
  have cl := cmpL_less ptags tags
  generalize sortI tags = st at *
  generalize sortI first = sf at *
  generalize (whr.any fun x => !validB m x) = an at *
  generalize properB tags = pr at *
  generalize lessB ptags tags = le at *
  generalize cmpL ptags tags = cc at *
  clear hs s3
  by_cases c1 : 1 ≤ tags.length ∧ tags.length ≤ 12
  · have li : CALL 0 N.lists_In [I tags.length, I 1, I 12] [] = some (B true, []) := by rw [li, decide_eq_true (by omega)]
    by_cases c2 : whr.length = tags.length
    · cases pr with
      | false =>
        refine ⟨fun h => by simp at h, fun _ => ?_⟩
        simp (disch := omega) only [go_sem, K.swaps_Valid_l1b, ↓reduceIte, li, tg, ex, c2, Nat.reduceAdd, Nat.reduceSub]
        refine ⟨_, rfl, ?_, ?_⟩ <;> rfl
      | true =>
        by_cases c4 : st = sf
        · subst c4
          simp only [decide_true] at eq
          cases i with
          | zero =>
            cases an with
            | true =>
              refine ⟨fun h => by simp at h, fun _ => ?_⟩
              simp (disch := omega) only [go_sem, K.swaps_Valid_l1b, ↓reduceIte, li, tg, ex, c2, va, so, eq, cf, Nat.reduceAdd, Nat.reduceSub]
              refine ⟨_, rfl, ?_, ?_⟩ <;> rfl
            | false =>
              refine ⟨fun _ => ?_, fun h => by simp [c1, c2] at h⟩
              simp (disch := omega) only [go_sem, K.swaps_Valid_l1b, ↓reduceIte, li, tg, ex, c2, va, so, eq, cf, Nat.reduceAdd, Nat.reduceSub]
          | succ i =>
            obtain ⟨ey, -⟩ := ey (by omega)
            have cp := cp (by omega)
            simp only [Nat.add_sub_cancel] at ey
            cases le with
            | false =>
              have cl : ¬ cc < 0 := by simpa using cl
              refine ⟨fun h => by simp at h, fun _ => ?_⟩
              simp (disch := omega) only [go_sem, K.swaps_Valid_l1b, ↓reduceIte, li, tg, ex, c2, va, so, eq, ey, cp, Nat.reduceAdd, Nat.reduceSub]
              refine ⟨_, rfl, ?_, ?_⟩ <;> rfl
            | true =>
              have cl : cc < 0 := by simpa using cl
              cases an with
              | true =>
                refine ⟨fun h => by simp at h, fun _ => ?_⟩
                simp (disch := omega) only [go_sem, K.swaps_Valid_l1b, ↓reduceIte, li, tg, ex, c2, va, so, eq, ey, cp, cf, Nat.reduceAdd, Nat.reduceSub]
                refine ⟨_, rfl, ?_, ?_⟩ <;> rfl
              | false =>
                refine ⟨fun _ => ?_, fun h => by simp [c1, c2] at h⟩
                simp (disch := omega) only [go_sem, K.swaps_Valid_l1b, ↓reduceIte, li, tg, ex, c2, va, so, eq, ey, cp, cf, Nat.reduceAdd, Nat.reduceSub]
        · simp only [c4, decide_false] at eq
          refine ⟨fun h => by simp [c4] at h, fun _ => ?_⟩
          simp (disch := omega) only [go_sem, K.swaps_Valid_l1b, ↓reduceIte, li, tg, ex, c2, va, so, eq, Nat.reduceAdd, Nat.reduceSub]
          refine ⟨_, rfl, ?_, ?_⟩ <;> rfl
    · refine ⟨fun h => by simp [c2] at h, fun _ => ?_⟩
      simp (disch := omega) only [go_sem, K.swaps_Valid_l1b, ↓reduceIte, li, ex, c2, Nat.reduceAdd, Nat.reduceSub]
      refine ⟨_, rfl, ?_, ?_⟩ <;> rfl
  · have li : CALL 0 N.lists_In [I tags.length, I 1, I 12] [] = some (B false, []) := by rw [li, decide_eq_false (by omega)]
    refine ⟨fun h => by simp [c1] at h, fun _ => ?_⟩
    simp (disch := omega) only [go_sem, K.swaps_Valid_l1b, ↓reduceIte, li, ex, Nat.reduceAdd, Nat.reduceSub]
    refine ⟨_, rfl, ?_, ?_⟩ <;> rfl
end Go.Ev

/- Beliefs that are valid, by the program: the whole. Machines that are valid. -/
namespace Go.Ev
open Go
variable [Lib] [Has1] [Has2] [Has3] [Has4] [Has5] [Has6] [Has7] [Has8] [Has9] [Has10] [Has11]

theorem swValid_ok {m : Mine} (h : m.ok) (b : Bel) (hs : b.sz) : CALL 0 N.swaps_Valid [.t m.e, .t b.e] [] = some (B (belB m b), []) := by
  rw [← pbel_bel]
  refine CALL_of K.t_swaps_Valid rfl ?_
  obtain ⟨h1, h2⟩ := hs
  have v := planValid_ok h
  obtain ⟨ws⟩ := b
  simp only at h1 h2
  have li := in_ok ws.length 1 24
  unfold pbelB
  simp only
  by_cases c : 1 ≤ ws.length ∧ ws.length ≤ 24
  · have li : CALL 0 N.lists_In [I ws.length, I 1, I 24] [] = some (B true, []) := by rw [li, decide_eq_true (by omega)]
    have e0 : (ws.map World.e)[0]? = some (nth ws 0).e := map_nth _ (by omega)
    have sz := (h2 _ (nth_mem (l := ws) (j := 0) (by omega))).1
    have loop := fun a b c d e => loop_find (gc := true) (dead := [0, 1, 4, 6, 7]) (c := K.swaps_Valid_l1b) (vs := [a, b, .bp 0 0, .bp 1 0, c, .t (tL (sortI (nth ws 0).tags)), d, e, .t (.sl (ws.map World.e)), I ws.length, I 0]) (H := [.box (mineCells m), .box [.t (.sl (ws.map World.e))], .box [.t (tL (nth ws 0).tags)]])
      (swS m ws (nth ws 0).tags) ws.length (fun j => !pwB m ws (nth ws 0).tags j) (fun _ q => q.1 = .ret ∧ q.2.vs[4]? = some (B false))
      (.exit 0, swS m ws (nth ws 0).tags ws.length) rfl
      (fun j hj hp => (pw_step h ws _ sz h2 j hj h1).1 (by simpa using hp))
      (fun j hj hp => by
        obtain ⟨q, q1, q2, q3⟩ := (pw_step h ws _ sz h2 j hj h1).2 (by simpa using hp)
        exact ⟨q, q1, by rw [q2]; simp, q2, q3⟩)
      (by simp (disch := omega) only [go_sem, K.swaps_Valid_l1b, swS, ↓reduceIte, Nat.reduceAdd, Nat.reduceSub]) (by simp)
    rw [find_all]
    have va := values_ok (nth ws 0).tags
    have so := sorted_ok (nth ws 0).tags sz
    have loop := loop (.t m.e) (.t (Bel.e ⟨ws⟩)) (B false) .und .und
    generalize nth ws 0 = x at *
    obtain ⟨first, whr⟩ := x
    simp only [swS] at *
    generalize sortI first = sf at *
    rcases loop with ⟨e1, e2⟩ | ⟨j, ⟨x, vs, H⟩, e1, e2, e3, e4⟩
    · have e2 : exS CALL K.swaps_Valid_l1 _ = _ := e2
      simp (disch := omega) only [go_sem, K.swaps_Valid, ↓reduceIte, v, li, e0, va, so, c, and_self, decide_true, Bool.true_and, e1, e2, Option.isNone, Nat.reduceAdd, Nat.reduceSub]
    · have e2 : exS CALL K.swaps_Valid_l1 _ = _ := e2
      simp only at e3 e4
      subst e3
      simp (disch := omega) only [go_sem, K.swaps_Valid, ↓reduceIte, v, li, e0, va, so, c, and_self, decide_true, Bool.true_and, e1, e2, Option.isNone, Nat.reduceAdd, Nat.reduceSub]
      simp (disch := omega) only [go_sem, getRes, e4, List.take_zero]
  · have li : CALL 0 N.lists_In [I ws.length, I 1, I 24] [] = some (B false, []) := by rw [li, decide_eq_false (by omega)]
    simp (disch := omega) only [go_sem, K.swaps_Valid, ↓reduceIte, v, li, c, decide_false, Bool.false_and, Nat.reduceAdd, Nat.reduceSub]
end Go.Ev

/- The program: smoke, what is given. -/
namespace Go.Ev
open Go
variable [Lib] [Has1] [Has2] [Has6] [Has7]

end Go.Ev

/- The program: smoke spreads. -/
namespace Go.Ev
open Go
variable [Lib] [Has1] [Has2] [Has6] [Has7]

abbrev smMax : Int := 2147483648
def reachF (l : List Int) (n : Int) (p q : Nat) : List Int × Bool := if n < 0 ∨ smMax < nth l p ∨ smMax < nth l p + n ∨ nth l q ≤ nth l p + n then (l, false) else (l.set q (nth l p + n), true)
abbrev smArg (m : Mine) (fl : List Spn) (n : Nat) : D := .agg [.t (.sl (m.places.map Place.e)), .t (.sl (m.roads.map Road.e)), .t (tS fl), .ref 0 0 n]
end Go.Ev

/- The program: smoke spreads until nothing changes. -/
namespace Go.Ev
open Go
variable [Lib] [Has1] [Has2] [Has6] [Has7]

def spHalf (m : Mine) (fl : List Spn) (k : Nat) (back : Bool) (l : List Int) : List Int × Bool :=
  reachF l (travelF (nth m.roads k) (nth fl k) back) ((nth m.roads k).src back).toNat ((nth m.roads k).dst back).toNat
def spStep (m : Mine) (fl : List Spn) (k : Nat) (s : List Int × Bool) : List Int × Bool :=
  ((spHalf m fl k true (spHalf m fl k false s.1).1).1, s.2 || (spHalf m fl k false s.1).2 || (spHalf m fl k true (spHalf m fl k false s.1).1).2)
def spSteps (m : Mine) (fl : List Spn) (l : List Int) : Nat → List Int × Bool
  | 0 => (l, false)
  | k + 1 => spStep m fl k (spSteps m fl l k)

abbrev spBox (m : Mine) (fl : List Spn) (n : Nat) : Obj := .box [.t (.sl (m.places.map Place.e)), .t (.sl (m.roads.map Road.e)), .t (tS fl), .ref 0 0 n]
section
variable {m : Mine} (h : m.ok) {fl : List Spn}
include h
end
def spRound (m : Mine) (fl : List Spn) (l : List Int) : List Int × Bool := spSteps m fl l m.roads.length
def spF (m : Mine) (fl : List Spn) (l : List Int) : List Int := closeN (spRound m fl) (sumN l + 1) l

end Go.Ev

/- The program's closing and the reference's are one. -/
namespace Go.Ev
open Go

/-- Nowhere above. -/
def leL (a b : List Int) : Prop := ∀ j, j < a.length → nth a j ≤ nth b j

/-- No road brings smoke earlier, as the program sees it. -/
def clP (m : Mine) (fl : List Spn) (y : List Int) : Prop := ∀ k, k < m.roads.length → ∀ back, 0 ≤ travelF (nth m.roads k) (nth fl k) back →
  nth y ((nth m.roads k).src back).toNat + travelF (nth m.roads k) (nth fl k) back ≤ smMax →
  nth y ((nth m.roads k).dst back).toNat ≤ nth y ((nth m.roads k).src back).toNat + travelF (nth m.roads k) (nth fl k) back
/-- .. and as the reference does. -/
def clS (m : Mine) (fl : List Spn) (y : List Int) : Prop := ∀ k, k < m.roads.length → ∀ back, 0 ≤ travelF (nth m.roads k) (nth fl k) back →
  nth y ((nth m.roads k).dst back).toNat ≤ nth y ((nth m.roads k).src back).toNat + travelF (nth m.roads k) (nth fl k) back

variable [Lib] [Has1] [Has2] [Has6] [Has7]
end Go.Ev

/- The program's closing is the reference's, cut. -/
namespace Go.Ev
open Go
variable [Lib] [Has1] [Has2] [Has6] [Has7]

/-- What the program has found stays below what the reference finds, up to the end of time. -/
def belowC (a l : List Int) : Prop := ∀ j, nth l j ≤ smMax → nth a j ≤ nth l j
end Go.Ev

/- Both closings are one. -/
namespace Go.Ev
open Go
variable [Lib] [Has1] [Has2] [Has6] [Has7]

end Go.Ev

/- Both closings are one: the equality. -/
namespace Go.Ev
open Go
variable [Lib] [Has1] [Has2] [Has6] [Has7]

/-- Times that can be. -/
def tmOk (l : List Int) : Prop := ∀ x ∈ l, 0 ≤ x ∧ (x ≤ smMax ∨ x = 1099511627776)
theorem tmOk.bnd {l : List Int} (h : tmOk l) : bnd l := fun x hx => by have := h x hx; simp only [smMax] at this; omega
end Go.Ev

/- The program: starts and changes of smoke, and where it is. -/
namespace Go.Ev
open Go
variable [Lib] [Has1] [Has2] [Has3] [Has4] [Has6] [Has7]

def stN (l : List Int) (t : Int) (n : Nat) : Nat → List Int
  | 0 => List.replicate n 1099511627776
  | j + 1 => (stN l t n j).set (nth l j).toNat t
end Go.Ev

/- The program: changes of smoke. -/
namespace Go.Ev
open Go
variable [Lib] [Has1] [Has2] [Has3] [Has4] [Has6] [Has7]

theorem sValid1_ok (x t : Int) (fr : T) : CALL 0 N.smoke_Valid_1 [I x, .bp 0 0] [.box [I t, .t fr]] = some (B (!decide (plS t x)), [.box [I t, .t fr]]) := by
  refine CALL_of K.t_smoke_Valid_1 rfl ?_
  have i := in_ok x t 2147483648
  unfold plS
  by_cases c : x = 1099511627776
  · subst c
    simp (disch := omega) only [go_sem, K.smoke_Valid_1, ↓reduceIte, Nat.reduceAdd, Nat.reduceSub]
  · by_cases c2 : t ≤ x ∧ x ≤ 2147483648
    · simp only [c2, and_self, decide_true] at i
      simp (disch := omega) only [go_sem, K.smoke_Valid_1, ↓reduceIte, i, c, c2, false_or, and_self, decide_true, Nat.reduceAdd, Nat.reduceSub]
    · simp only [c2, decide_false] at i
      simp (disch := omega) only [go_sem, K.smoke_Valid_1, ↓reduceIte, i, c, c2, false_or, decide_false, Nat.reduceAdd, Nat.reduceSub]
theorem sValid_ok {m : Mine} (h : m.ok) (s : Wh) (hl : s.frm.length ≤ 1000000) : CALL 0 N.smoke_Valid [.t m.e, .t s.e] [] = some (B (validS m s), []) := by
  refine CALL_of K.t_smoke_Valid rfl ?_
  have v := planValid_ok h
  have np := h.np
  have i := in_ok s.time 0 2147483648
  have cf := containsFunc_ok s.frm (by omega) N.smoke_Valid_1 [[tI s.time, tL s.frm]] (fun x => !decide (plS s.time x)) (fun x _ => sValid1_ok x s.time (tL s.frm))
  have e : validS m s = (!(s.frm.any fun x => !decide (plS s.time x)) && decide (s.frm.length = m.places.length ∧ inT s.time)) := by
    unfold validS
    rw [all_rng, any_rng s.frm (fun x => !decide (plS s.time x))]
  rw [e]
  generalize (s.frm.any fun x => !decide (plS s.time x)) = r at *
  obtain ⟨places, roads⟩ := m
  obtain ⟨time, frm⟩ := s
  simp only at *
  unfold inT
  clear e
  have cf : CALL 0 N.slices_ContainsFunc_int_int [.t (tL frm), .fn N.smoke_Valid_1 [.bp 0 0]] [.box [I time, .t (tL frm)]] = some (B r, [.box [I time, .t (tL frm)]]) := cf
  by_cases c1 : frm.length = places.length
  · by_cases c2 : 0 ≤ time ∧ time ≤ 2147483648
    · simp only [c2, and_self, decide_true] at i
      cases r <;> simp (disch := omega) only [go_sem, K.smoke_Valid, ↓reduceIte, v, i, cf, c1, c2, and_self, decide_true, Nat.reduceAdd, Nat.reduceSub]
    · simp only [c2, decide_false] at i
      cases r <;> simp (disch := omega) only [go_sem, K.smoke_Valid, ↓reduceIte, v, i, cf, c1, c2, and_false, decide_false, Nat.reduceAdd, Nat.reduceSub]
  · cases r <;> simp (disch := omega) only [go_sem, K.smoke_Valid, ↓reduceIte, v, c1, false_and, decide_false, Nat.reduceAdd, Nat.reduceSub]

def mxL (t : Int) (l : List Int) : List Int := l.map fun x => max x t
def mxJ (t : Int) (l : List Int) : Nat → List Int
  | 0 => List.replicate l.length 0
  | j + 1 => (mxJ t l j).set j (max (nth l j) t)
def cgHalf (m : Mine) (fl : List Spn) (frm : List Int) (t : Int) (k : Nat) (back : Bool) (l : List Int) : List Int :=
  if nth frm ((nth m.roads k).src back).toNat ≤ t ∧ 0 ≤ travelF (nth m.roads k) (nth fl k) back then l.set ((nth m.roads k).dst back).toNat t else l
def cgN (m : Mine) (fl : List Spn) (frm : List Int) (t : Int) : Nat → List Int
  | 0 => mxL t frm
  | k + 1 => cgHalf m fl frm t k true (cgHalf m fl frm t k false (cgN m fl frm t k))
end Go.Ev

/- The program: changes of smoke, and where it is. -/
namespace Go.Ev
open Go
variable [Lib] [Has1] [Has2] [Has3] [Has4] [Has6] [Has7]

end Go.Ev

/- SmokeSources. -/
namespace Go.Ev
open Go
variable [Lib] [Has1] [Has2] [Has3] [Has4] [Has6] [Has7]

theorem flB_of {m : Mine} {l : List Spn} (h1 : l.length = m.roads.length) (h2 : ∀ x ∈ l, x.ok) : flowsB m l = true := by
  simp only [flowsB, Bool.and_eq_true, decide_eq_true_eq, List.all_eq_true, List.mem_range]
  exact ⟨fun j hj => h2 _ (nth_mem hj), h1⟩
end Go.Ev

/- SmokeRuns: what is known of times of smoke. -/
namespace Go.Ev
open Go
variable [Lib] [Has1] [Has2] [Has3] [Has4] [Has6] [Has7]

/-- A spread that came about in a mine with flows. -/
structure SGood (m : Mine) (fl : List Spn) (s : Wh) : Prop where
  ln : s.frm.length = m.places.length
  ti : inT s.time
  tm : tmOk s.frm
  lo : ∀ x ∈ s.frm, s.time ≤ x
  cl : clP m fl s.frm
theorem SGood.valid {m : Mine} {fl : List Spn} {s : Wh} (h : SGood m fl s) : validS m s = true := by
  simp only [validS, Bool.and_eq_true, decide_eq_true_eq, List.all_eq_true, List.mem_range]
  refine ⟨fun j hj => ?_, h.ln, h.ti⟩
  have a := h.tm _ (nth_mem hj)
  have b := h.lo _ (nth_mem hj)
  unfold plS
  simp only [smMax] at a
  omega
/- what a change leaves -/
end Go.Ev

/- SmokeRuns. -/
namespace Go.Ev
open Go
variable [Lib] [Has1] [Has2] [Has3] [Has4] [Has6] [Has7]

abbrev srS (e : Dice) (m : Mine) (fl : List Spn) (s : Wh) (p now k : Int) : St :=
  ⟨[.und, .und, .bp 0 0, .bp 1 0, .t (tS fl), I p, .bp 2 0, I 0, I now, I k, .und, .und, .und, .und, .und, .und], [e.obj, .box (mineCells m), .box [I s.time, .t (tL s.frm)]]⟩
def srP (m : Mine) (n j : Nat) (st : St) : Prop := ∃ (e : Dice) (fl : List Spn) (s : Wh) (p now : Int), st = srS e m fl s p now ((n : Int) - j) ∧ e.light ∧ fl.length = m.roads.length ∧ (∀ x ∈ fl, x.ok) ∧
  SGood m fl s ∧ s.time ≤ now ∧ 0 ≤ p ∧ p < m.places.length ∧ nth s.frm p.toNat ≤ now ∧ 0 ≤ now ∧ now ≤ (j : Int) * 100050

end Go.Ev

/- Smoke: the program and the reference agree. -/
namespace Go.Ev
open Go
variable [Lib] [Has1] [Has2] [Has3] [Has4] [Has6] [Has7]

def freeF (s : Wh) (t : Int) : List Int := whereF s.frm.length fun k => decide (t < nth s.frm k)
theorem rFilled_ok (s : Wh) (t : Int) (hl : s.frm.length ≤ 1000000) : CALL 0 N.ref28_Filled [.t s.e, I t] [] = some (.t (tL (possF s t)), []) := by
  refine CALL_of K.t_ref28_Filled rfl ?_
  unfold possF
  obtain ⟨time, frm⟩ := s
  simp only at hl ⊢
  have wl := fun k => whereF_len k (fun k => decide (nth frm k ≤ t))
  have ws := fun k => whereF_succ k (fun k => decide (nth frm k ≤ t))
  have l1 : ∀ z0 z3 : D, exS CALL K.ref28_Filled_l1 ⟨[z0, I t, .bp 0 0, z3, .ref 1 0 0, I 0], [.box [I time, .t (tL frm)], .arr 1 false 0 []]⟩ =
      some (.exit 0, ⟨[.und, I t, .bp 0 0, .und, .ref 1 0 (whereF frm.length (fun k => decide (nth frm k ≤ t))).length, I frm.length], [.box [I time, .t (tL frm)], .arr 1 false 0 (((whereF frm.length (fun k => decide (nth frm k ≤ t))).map (T.int .i64)).map .t)]⟩) := by
    intro z0 z3
    refine loop_up (fun j => ⟨[.und, I t, .bp 0 0, .und, .ref 1 0 (whereF j (fun k => decide (nth frm k ≤ t))).length, I j], [.box [I time, .t (tL frm)], .arr 1 false 0 (((whereF j (fun k => decide (nth frm k ≤ t))).map (T.int .i64)).map .t)]⟩) frm.length rfl ?_ ?_ (by simp)
    · intro j hj
      have wj := wl j
      have sj := ws j
      by_cases c : nth frm j ≤ t
      · simp only [c, decide_true, ↓reduceIte] at sj
        simp only [sj]
        generalize whereF j (fun k => decide (nth frm k ≤ t)) = w at *
        simp (disch := omega) only [go_sem, K.ref28_Filled_l1b, ↓reduceIte, c, Nat.reduceAdd, Nat.reduceSub]
      · simp only [c, decide_false, Bool.false_eq_true, ↓reduceIte] at sj
        simp only [sj]
        generalize whereF j (fun k => decide (nth frm k ≤ t)) = w at *
        simp (disch := omega) only [go_sem, K.ref28_Filled_l1b, ↓reduceIte, c, Nat.reduceAdd, Nat.reduceSub]
    · simp (disch := omega) only [go_sem, K.ref28_Filled_l1b, ↓reduceIte, Nat.reduceAdd, Nat.reduceSub]
  simp (disch := omega) only [go_sem, K.ref28_Filled, ↓reduceIte, l1, Nat.reduceAdd, Nat.reduceSub]
end Go.Ev

/- FireRulesStay. -/
namespace Go.Ev
open Go
variable [Lib] [Has1] [Has2]

/- plain facts about the commands -/
theorem meetsB_iff {a b : List Int} : meetsB a b = true ↔ ∃ p, p ∈ a ∧ p ∈ b := by
  unfold meetsB; rw [List.any_eq_true]; simp
abbrev stayH (d : Dice) (m : Mine) (s : Wh) (b : Bel) : Heap := [d.obj, .box (mineCells m), .box [I s.time, .t (tL s.frm)], .box [.t (.sl (b.worlds.map World.e))]]

section
variable {m : Mine} (hm : m.ok) {N : Nat} {b : Bel} (hb : BOk m N b) {s : Wh} (hs : s.frm.length = m.places.length) {l : List Mch}
variable (hl : ∀ y ∈ l, y.pl.length ≤ m.places.length ∧ 1 ≤ y.pl.length ∧ ∀ x ∈ y.pl, 0 ≤ x ∧ x < m.places.length) {t a : Int} (t0 : 0 ≤ t) (t1 : t ≤ 10000) (a0 : 0 ≤ a) (a1 : a ≤ 10000) (d : Dice)
include hm hb hs hl t0 t1 a0 a1

omit hm hb t0 t1 a1 in
end

def Dice.skip (d : Dice) (n : Int) : Nat → Dice
  | 0 => d
  | k + 1 => ((d.skip n k).next n).2
end Go.Ev

/- Machines that are valid; the reference's commands. -/
namespace Go.Ev
open Go
variable [Lib] [Has1] [Has2] [Has3] [Has4] [Has5] [Has6] [Has7] [Has8] [Has9] [Has10] [Has11]

/-- A machine that is odd. -/
def oddM (n : Int) (x : Mch) : Bool := !decide ((x.kind = 1 ∨ x.kind = 2) ∧ (0 ≤ x.num ∧ x.num ≤ 23) ∧ x.pl.length ≠ 0) || !setB x.pl n
def mchB (m : Mine) (l : List Mch) : Bool := decide (l.length ≤ 48) && !(l.any (oddM m.places.length))
theorem fVal1_ok {m : Mine} (h : m.ok) (x : Mch) (hx : x.pl.length ≤ 1000000) : CALL 0 N.firerules_Valid_1 [.t x.e, .bp 0 0] [.box (mineCells m)] = some (B (oddM m.places.length x), [.box (mineCells m)]) := by
  refine CALL_of K.t_firerules_Valid_1 rfl ?_
  have np := h.np
  have ri := rising_ok x.pl 0 (m.places.length - 1) (by omega)
  rw [ris_set] at ri
  have li := in_ok x.num 0 23
  unfold oddM
  obtain ⟨places, roads⟩ := m
  obtain ⟨kind, num, pl⟩ := x
  simp only at *
  generalize setB pl places.length = st at *
  by_cases k : kind = 1 ∨ kind = 2
  · by_cases c : 0 ≤ num ∧ num ≤ 23
    · have li : CALL 0 N.lists_In [I num, I 0, I 23] [] = some (B true, []) := by rw [li, decide_eq_true c]
      by_cases l : pl.length = 0
      · rcases k with rfl | rfl <;> simp (disch := omega) only [go_sem, K.firerules_Valid_1, ↓reduceIte, li, l, c, ne_eq, not_true_eq_false, and_false, decide_false, Bool.not_false, Bool.true_or, Nat.reduceAdd, Nat.reduceSub]
      · rcases k with rfl | rfl <;> cases st <;> simp (disch := omega) only [go_sem, K.firerules_Valid_1, ↓reduceIte, li, l, c, ri, ne_eq, not_false_eq_true, and_self, true_or, or_true, decide_true, Bool.not_true, Bool.false_or, Bool.not_false, Nat.reduceAdd, Nat.reduceSub]
    · have li : CALL 0 N.lists_In [I num, I 0, I 23] [] = some (B false, []) := by rw [li, decide_eq_false c]
      rcases k with rfl | rfl <;> simp (disch := omega) only [go_sem, K.firerules_Valid_1, ↓reduceIte, li, c, false_and, and_false, decide_false, Bool.not_false, Bool.true_or, Nat.reduceAdd, Nat.reduceSub]
  · have k1 : ¬ kind = 1 := fun e => k (.inl e)
    have k2 : ¬ kind = 2 := fun e => k (.inr e)
    simp (disch := omega) only [go_sem, K.firerules_Valid_1, ↓reduceIte, k1, k2, or_self, false_and, decide_false, Bool.not_false, Bool.true_or, Nat.reduceAdd, Nat.reduceSub]
theorem fVal_ok {m : Mine} (h : m.ok) (l : List Mch) (hl : l.length ≤ 1000000) (hs : ∀ x ∈ l, x.pl.length ≤ 1000000) : CALL 0 N.firerules_Valid [.t m.e, .t (.sl (l.map Mch.e))] [] = some (B (mchB m l), []) := by
  refine CALL_of K.t_firerules_Valid rfl ?_
  have v := planValid_ok h
  have cf := containsFuncM_ok l (by omega) N.firerules_Valid_1 [[.sl (m.places.map Place.e), .sl (m.roads.map Road.e)]] (oddM m.places.length) (fun x hx => fVal1_ok h x (hs x hx))
  have cf : CALL 0 N.slices_ContainsFunc_api_Machine_api_Machine [.t (.sl (l.map Mch.e)), .fn N.firerules_Valid_1 [.bp 0 0]] [.box (mineCells m)] = some (B (l.any (oddM m.places.length)), [.box (mineCells m)]) := cf
  unfold mchB
  obtain ⟨places, roads⟩ := m
  simp only at *
  generalize (l.any (oddM places.length)) = an at *
  by_cases c : l.length ≤ 48
  · cases an <;> simp (disch := omega) only [go_sem, K.firerules_Valid, ↓reduceIte, v, cf, c, decide_true, Bool.true_and, Nat.reduceAdd, Nat.reduceSub]
  · simp (disch := omega) only [go_sem, K.firerules_Valid, ↓reduceIte, v, c, decide_false, Bool.false_and, Nat.reduceAdd, Nat.reduceSub]
theorem rVal_ok {m : Mine} (h : m.ok) (l : List Mch) (hl : l.length ≤ 1000000) (hs : ∀ x ∈ l, x.pl.length ≤ 1000000) : CALL 0 N.ref40_Valid [.t m.e, .t (.sl (l.map Mch.e))] [] = some (B (mchB m l), []) := by
  refine CALL_of K.t_ref40_Valid rfl ?_
  have ck := check_ok h
  have np := h.np
  have loop : ∀ z0 z3 : D, exS CALL K.ref40_Valid_l1 ⟨[z0, .t (.sl (l.map Mch.e)), .bp 0 0, z3, I 0], [.box (mineCells m)]⟩ =
      some (match (List.range l.length).find? (fun j => oddM m.places.length (nth l j)) with
        | some j => (.ret, ⟨[.und, .t (.sl (l.map Mch.e)), .bp 0 0, B false, I j], [.box (mineCells m)]⟩)
        | none => (.exit 0, ⟨[.und, .t (.sl (l.map Mch.e)), .bp 0 0, .und, I l.length], [.box (mineCells m)]⟩)) := by
    intro z0 z3
    have key : ∀ j, j < l.length → (oddM m.places.length (nth l j) = false → roundC true [0, 3] 1 (exS CALL K.ref40_Valid_l1b ⟨[.und, .t (.sl (l.map Mch.e)), .bp 0 0, .und, I j], [.box (mineCells m)]⟩) = some ⟨[.und, .t (.sl (l.map Mch.e)), .bp 0 0, .und, I ((j + 1 : Nat) : Int)], [.box (mineCells m)]⟩) ∧
        (oddM m.places.length (nth l j) = true → exS CALL K.ref40_Valid_l1b ⟨[.und, .t (.sl (l.map Mch.e)), .bp 0 0, .und, I j], [.box (mineCells m)]⟩ = some (.ret, ⟨[.und, .t (.sl (l.map Mch.e)), .bp 0 0, B false, I j], [.box (mineCells m)]⟩)) := by
      intro j hj
      have ex : (l.map Mch.e)[j]? = some (nth l j).e := map_nth _ hj
      have se := set_ok (nth l j).pl m.places.length (by have := hs _ (nth_mem hj); omega)
      have sz := hs _ (nth_mem hj)
      unfold oddM
      generalize nth l j = x at *
      obtain ⟨places, roads⟩ := m
      obtain ⟨kind, num, pl⟩ := x
      simp only at *
      generalize setB pl places.length = st at *
      by_cases k : kind = 1 ∨ kind = 2
      · by_cases c : 0 ≤ num
        · by_cases c2 : num ≤ 23
          · by_cases l0 : pl.length = 0
            · refine ⟨fun h => by simp [l0] at h, fun _ => ?_⟩
              rcases k with rfl | rfl <;> simp (disch := omega) only [go_sem, K.ref40_Valid_l1b, ↓reduceIte, ex, l0, Nat.reduceAdd, Nat.reduceSub]
            · cases st with
              | true =>
                refine ⟨fun _ => ?_, fun h => by simp [k, c, c2, l0] at h⟩
                rcases k with rfl | rfl <;> simp (disch := omega) only [go_sem, K.ref40_Valid_l1b, ↓reduceIte, ex, l0, se, Nat.reduceAdd, Nat.reduceSub]
              | false =>
                refine ⟨fun h => by simp at h, fun _ => ?_⟩
                rcases k with rfl | rfl <;> simp (disch := omega) only [go_sem, K.ref40_Valid_l1b, ↓reduceIte, ex, l0, se, Nat.reduceAdd, Nat.reduceSub]
          · refine ⟨fun h => by simp [c2] at h, fun _ => ?_⟩
            rcases k with rfl | rfl <;> simp (disch := omega) only [go_sem, K.ref40_Valid_l1b, ↓reduceIte, ex, Nat.reduceAdd, Nat.reduceSub]
        · refine ⟨fun h => by simp [c] at h, fun _ => ?_⟩
          rcases k with rfl | rfl <;> simp (disch := omega) only [go_sem, K.ref40_Valid_l1b, ↓reduceIte, ex, Nat.reduceAdd, Nat.reduceSub]
      · refine ⟨fun h => by simp [k] at h, fun _ => ?_⟩
        have k1 : ¬ kind = 1 := fun e => k (.inl e)
        have k2 : ¬ kind = 2 := fun e => k (.inr e)
        simp (disch := omega) only [go_sem, K.ref40_Valid_l1b, ↓reduceIte, ex, k1, k2, Nat.reduceAdd, Nat.reduceSub]
    refine loop_first (fun j => ⟨[.und, .t (.sl (l.map Mch.e)), .bp 0 0, .und, I j], [.box (mineCells m)]⟩) l.length (fun j => oddM m.places.length (nth l j)) _ _ rfl ?_ ?_ ?_ (by simp)
    · intro j hj hp
      exact (key j hj).1 hp
    · intro j hj hp
      exact ⟨(key j hj).2 hp, by simp⟩
    · simp (disch := omega) only [go_sem, K.ref40_Valid_l1b, ↓reduceIte, Nat.reduceAdd, Nat.reduceSub]
  have e := any_nthW (l := l) (p := oddM m.places.length)
  unfold mchB
  obtain ⟨places, roads⟩ := m
  simp only at *
  cases hf : (List.range l.length).find? (fun j => oddM places.length (nth l j)) with
  | some j =>
    rw [hf] at e
    simp only [hf] at loop
    rw [← e]
    simp (disch := omega) only [go_sem, K.ref40_Valid, ↓reduceIte, loop, Option.isSome_some, Bool.not_true, Bool.and_false, Nat.reduceAdd, Nat.reduceSub]
  | none =>
    rw [hf] at e
    simp only [hf] at loop
    rw [← e]
    by_cases c : l.length ≤ 48
    · simp (disch := omega) only [go_sem, K.ref40_Valid, ↓reduceIte, loop, ck, c, Option.isSome_none, Bool.not_false, decide_true, Bool.and_self, Bool.and_true, Nat.reduceAdd, Nat.reduceSub]
    · simp (disch := omega) only [go_sem, K.ref40_Valid, ↓reduceIte, loop, ck, c, Option.isSome_none, Bool.not_false, decide_false, Bool.and_true, Nat.reduceAdd, Nat.reduceSub]
theorem rFill40_ok (s : Wh) (hs : s.frm.length ≤ 1000000) (pl : List Int) (hl : pl.length ≤ 1000000) (t : Int) : CALL 0 N.ref40_filled [.t s.e, .t (tL pl), I t] [] = some (B (meetsB (possF s t) pl), []) := by
  refine CALL_of K.t_ref40_filled rfl ?_
  have f := rFilled_ok s t hs
  have fl := possF_len s t
  have e : meetsB (possF s t) pl = pl.any fun p => decide (p ∈ possF s t) := by
    rw [Bool.eq_iff_iff, meetsB_iff, List.any_eq_true]
    simp only [decide_eq_true_eq]
    exact ⟨fun ⟨p, a, b⟩ => ⟨p, b, a⟩, fun ⟨p, a, b⟩ => ⟨p, b, a⟩⟩
  rw [e]
  have hh := fun x => has_ok (possF s t) x (by omega)
  have an := any_nthW (l := pl) (p := fun p => decide (p ∈ possF s t))
  generalize possF s t = q at *
  obtain ⟨time, frm⟩ := s
  simp only at *
  have loop : ∀ z0 z2 z3 z4 : D, exS CALL K.ref40_filled_l1 ⟨[z0, .t (tL pl), z2, z3, z4, .t (tL q), I 0], [.box [I time, .t (tL frm)]]⟩ =
      some (match (List.range pl.length).find? (fun j => decide (nth pl j ∈ q)) with
        | some j => (.ret, ⟨[.und, .t (tL pl), .und, .und, B true, .t (tL q), I j], [.box [I time, .t (tL frm)]]⟩)
        | none => (.exit 0, ⟨[.und, .t (tL pl), .und, .und, .und, .t (tL q), I pl.length], [.box [I time, .t (tL frm)]]⟩)) := by
    intro z0 z2 z3 z4
    refine loop_first (fun j => ⟨[.und, .t (tL pl), .und, .und, .und, .t (tL q), I j], [.box [I time, .t (tL frm)]]⟩) pl.length (fun j => decide (nth pl j ∈ q)) _ _ rfl ?_ ?_ ?_ (by simp)
    · intro j hj hp
      have h := hh (nth pl j)
      rw [hp] at h
      simp (disch := omega) only [go_sem, K.ref40_filled_l1b, ↓reduceIte, h, Nat.reduceAdd, Nat.reduceSub]
    · intro j hj hp
      refine ⟨?_, by simp⟩
      have h := hh (nth pl j)
      rw [hp] at h
      simp (disch := omega) only [go_sem, K.ref40_filled_l1b, ↓reduceIte, h, Nat.reduceAdd, Nat.reduceSub]
    · simp (disch := omega) only [go_sem, K.ref40_filled_l1b, ↓reduceIte, Nat.reduceAdd, Nat.reduceSub]
  rw [← an]
  cases hf : (List.range pl.length).find? (fun j => decide (nth pl j ∈ q)) with
  | some j => rw [hf] at loop; simp (disch := omega) only [go_sem, K.ref40_filled, ↓reduceIte, f, loop, Option.isSome_some, Nat.reduceAdd, Nat.reduceSub]
  | none => rw [hf] at loop; simp (disch := omega) only [go_sem, K.ref40_filled, ↓reduceIte, f, loop, Option.isSome_none, Nat.reduceAdd, Nat.reduceSub]
end Go.Ev

/- The reference's commands. -/
namespace Go.Ev
open Go
variable [Lib] [Has1] [Has2] [Has3] [Has4] [Has5] [Has6] [Has7] [Has8] [Has9] [Has10] [Has11]

theorem near_inner (ws : T) (q pl : List Int) (hq : q.length ≤ 1000000) (hl : pl.length ≤ 1000000) (t : Int) (j : Nat) (hj : j ≤ 1000000) (l : List Int) (ll : l.length ≤ 1000000) :
    ∀ z0 z4 z8 : D, ∃ u8 : D, exS CALL K.ref40_near_l2 ⟨[z0, .t (tL pl), I t, .bp 0 0, z4, .ref 1 0 l.length, I j, .t (tL q), I 0], [.box [.t ws], arr1 l]⟩ =
      some (.exit 2, ⟨[.und, .t (tL pl), I t, .bp 0 0, .und, .ref 1 0 (if meetsB q pl = true then l ++ [(j : Int)] else l).length, I j, .t (tL q), u8], [.box [.t ws], arr1 (if meetsB q pl = true then l ++ [(j : Int)] else l)]⟩) := by
  intro z0 z4 z8
  have hh := fun x => has_ok pl x (by omega)
  have key : ∀ (k : Nat), k < q.length → (decide (nth q k ∈ pl) = false → roundC true [0, 4] 2 (exS CALL K.ref40_near_l2b ⟨[.und, .t (tL pl), I t, .bp 0 0, .und, .ref 1 0 l.length, I j, .t (tL q), I k], [.box [.t ws], arr1 l]⟩) = some ⟨[.und, .t (tL pl), I t, .bp 0 0, .und, .ref 1 0 l.length, I j, .t (tL q), I ((k + 1 : Nat) : Int)], [.box [.t ws], arr1 l]⟩) ∧
      (decide (nth q k ∈ pl) = true → exS CALL K.ref40_near_l2b ⟨[.und, .t (tL pl), I t, .bp 0 0, .und, .ref 1 0 l.length, I j, .t (tL q), I k], [.box [.t ws], arr1 l]⟩ = some (.exit 2, ⟨[.und, .t (tL pl), I t, .bp 0 0, .und, .ref 1 0 (l ++ [(j : Int)]).length, I j, .t (tL q), I k], [.box [.t ws], arr1 (l ++ [(j : Int)])]⟩)) := by
    intro k hk
    have h := hh (nth q k)
    constructor
    · intro hp
      rw [hp] at h
      simp only [arr1]
      simp (disch := omega) only [go_sem, K.ref40_near_l2b, ↓reduceIte, h, Nat.reduceAdd, Nat.reduceSub]
    · intro hp
      rw [hp] at h
      simp only [arr1]
      simp (disch := omega) only [go_sem, K.ref40_near_l2b, ↓reduceIte, h, List.map_append, List.map_cons, List.map_nil, List.length_append, List.length_cons, List.length_nil, Nat.reduceAdd, Nat.reduceSub]
  have lp : exS CALL K.ref40_near_l2 ⟨[z0, .t (tL pl), I t, .bp 0 0, z4, .ref 1 0 l.length, I j, .t (tL q), I 0], [.box [.t ws], arr1 l]⟩ =
      some (match (List.range q.length).find? (fun k => decide (nth q k ∈ pl)) with
        | some k => (.exit 2, ⟨[.und, .t (tL pl), I t, .bp 0 0, .und, .ref 1 0 (l ++ [(j : Int)]).length, I j, .t (tL q), I k], [.box [.t ws], arr1 (l ++ [(j : Int)])]⟩)
        | none => (.exit 2, ⟨[.und, .t (tL pl), I t, .bp 0 0, .und, .ref 1 0 l.length, I j, .t (tL q), I q.length], [.box [.t ws], arr1 l]⟩)) := by
    refine loop_first (fun k => ⟨[.und, .t (tL pl), I t, .bp 0 0, .und, .ref 1 0 l.length, I j, .t (tL q), I k], [.box [.t ws], arr1 l]⟩) q.length (fun k => decide (nth q k ∈ pl)) _ _ rfl ?_ ?_ ?_ (by simp)
    · intro k hk hp
      exact (key k hk).1 hp
    · intro k hk hp
      exact ⟨(key k hk).2 hp, by simp⟩
    · simp only [arr1]
      simp (disch := omega) only [go_sem, K.ref40_near_l2b, ↓reduceIte, Nat.reduceAdd, Nat.reduceSub]
  have e : ((List.range q.length).find? (fun k => decide (nth q k ∈ pl))).isSome = meetsB q pl := any_nthW (l := q) (p := fun x => decide (x ∈ pl))
  cases hf : (List.range q.length).find? (fun k => decide (nth q k ∈ pl)) with
  | some k =>
    rw [hf] at e lp
    rw [← e]
    exact ⟨_, by rw [lp]; rfl⟩
  | none =>
    rw [hf] at e lp
    rw [← e]
    exact ⟨_, by rw [lp]; rfl⟩
theorem rNear_ok (x : Mch) (hx : x.pl.length ≤ 1000000) (b : Bel) (hb : b.sz) (t : Int) : CALL 0 N.ref40_near [.t b.e, .t (tL x.pl), I t] [] = some (.t (tL (nearF x b t)), []) := by
  refine CALL_of K.t_ref40_near rfl ?_
  unfold nearF
  by_cases c : b.worlds.length = 0
  · rw [if_pos c]
    obtain ⟨ws⟩ := b
    simp only at *
    simp (disch := omega) only [go_sem, K.ref40_near, ↓reduceIte, c, Nat.reduceAdd, Nat.reduceSub]
    try rfl
  · rw [if_neg c]
    have h0 := (hb.2 _ (nth_mem (l := b.worlds) (j := 0) (by omega))).2.1
    have e1 : (b.worlds.map World.e)[0]? = some (nth b.worlds 0).e := map_nth _ (by omega)
    have ps := fun j : Nat => possible26_ok b hb j t
    have pn := fun j : Nat => possB_len b j t
    obtain ⟨ws⟩ := b
    simp only at *
    generalize nth ws 0 = w at *
    obtain ⟨tags, whr⟩ := w
    simp only at *
    have wl := fun j => whereF_len j (fun i => meetsB (possB ⟨ws⟩ i t) x.pl)
    have wsu := fun j => whereF_succ j (fun i => meetsB (possB ⟨ws⟩ i t) x.pl)
    have loop : ∀ z0 z4 z7 z8 : D, exS CALL K.ref40_near_l1 ⟨[z0, .t (tL x.pl), I t, .bp 0 0, z4, .ref 1 0 0, I 0, z7, z8], [.box [.t (.sl (ws.map World.e))], .arr 1 false 0 []]⟩ =
        some (.exit 0, ⟨[.und, .t (tL x.pl), I t, .bp 0 0, .und, .ref 1 0 (whereF whr.length fun i => meetsB (possB ⟨ws⟩ i t) x.pl).length, I whr.length, .und, .und], [.box [.t (.sl (ws.map World.e))], arr1 (whereF whr.length fun i => meetsB (possB ⟨ws⟩ i t) x.pl)]⟩) := by
      intro z0 z4 z7 z8
      refine loop_up (fun j => ⟨[.und, .t (tL x.pl), I t, .bp 0 0, .und, .ref 1 0 (whereF j fun i => meetsB (possB ⟨ws⟩ i t) x.pl).length, I j, .und, .und], [.box [.t (.sl (ws.map World.e))], arr1 (whereF j fun i => meetsB (possB ⟨ws⟩ i t) x.pl)]⟩) whr.length rfl ?_ ?_ (by simp)
      · intro j hj
        have p := ps j
        have n := pn j
        have u := wsu j
        have l := wl j
        obtain ⟨u8, inner⟩ := near_inner (.sl (ws.map World.e)) (possB ⟨ws⟩ j t) x.pl (by omega) hx t j (by omega) (whereF j fun i => meetsB (possB ⟨ws⟩ i t) x.pl) (by omega) .und .und .und
        rw [← u] at inner
        generalize (whereF (j + 1) fun i => meetsB (possB ⟨ws⟩ i t) x.pl) = r2 at *
        generalize (whereF j fun i => meetsB (possB ⟨ws⟩ i t) x.pl) = r at *
        generalize possB ⟨ws⟩ j t = q at *
        clear ps pn wl wsu u
        simp only [arr1] at *
        simp (disch := omega) only [go_sem, K.ref40_near_l1b, ↓reduceIte, e1, p, inner, Nat.reduceAdd, Nat.reduceSub]
      · generalize (whereF whr.length fun i => meetsB (possB ⟨ws⟩ i t) x.pl) = r at *
        clear ps pn wl wsu
        simp only [arr1]
        simp (disch := omega) only [go_sem, K.ref40_near_l1b, ↓reduceIte, e1, Nat.reduceAdd, Nat.reduceSub]
    generalize (whereF whr.length fun i => meetsB (possB ⟨ws⟩ i t) x.pl) = r at *
    clear ps pn wl wsu
    simp only [arr1] at *
    simp (disch := omega) only [go_sem, K.ref40_near, ↓reduceIte, c, loop, Nat.reduceAdd, Nat.reduceSub]
theorem rCmd_ok (m : Mine) (x : Mch) (hx : x.pl.length ≤ 1000000) (s : Wh) (hs : s.frm.length ≤ 1000000) (b : Bel) (hb : b.sz) (t ahead : Int) (h1 : -9223372036854775808 ≤ t + ahead) (h2 : t + ahead ≤ 9223372036854775807) :
    CALL 0 N.ref40_Command [.t m.e, .t x.e, .t s.e, .t b.e, I t, I ahead] [] = some (I (cmdF x s b t ahead), []) := by
  refine CALL_of K.t_ref40_Command rfl ?_
  have f1 := rFill40_ok s hs x.pl hx t
  have f2 := rFill40_ok s hs x.pl hx (t + ahead)
  have n := rNear_ok x hx b hb (t + ahead)
  have f3 := rFilled_ok s (t + ahead) hs
  unfold cmdF
  generalize meetsB (possF s t) x.pl = b1 at *
  generalize meetsB (possF s (t + ahead)) x.pl = b2 at *
  generalize possF s (t + ahead) = q at *
  generalize nearF x b (t + ahead) = r at *
  obtain ⟨places, roads⟩ := m
  obtain ⟨kind, num, pl⟩ := x
  obtain ⟨time, frm⟩ := s
  obtain ⟨ws⟩ := b
  simp only at *
  cases b1 with
  | true => simp (disch := omega) only [go_sem, K.ref40_Command, ↓reduceIte, f1, Nat.reduceAdd, Nat.reduceSub]
  | false =>
    cases b2 with
    | true => simp (disch := omega) only [go_sem, K.ref40_Command, ↓reduceIte, f1, f2, Bool.false_eq_true, Nat.reduceAdd, Nat.reduceSub]
    | false =>
      by_cases k : kind = 2
      · by_cases c1 : 0 < r.length
        · by_cases c2 : 0 < q.length
          · simp (disch := omega) only [go_sem, K.ref40_Command, ↓reduceIte, f1, f2, f3, n, k, c1, c2, Bool.false_eq_true, and_self, Nat.reduceAdd, Nat.reduceSub]
          · simp (disch := omega) only [go_sem, K.ref40_Command, ↓reduceIte, f1, f2, f3, n, k, c1, c2, Bool.false_eq_true, and_false, false_and, Nat.reduceAdd, Nat.reduceSub]
        · simp (disch := omega) only [go_sem, K.ref40_Command, ↓reduceIte, f1, f2, f3, n, k, c1, Bool.false_eq_true, and_false, false_and, Nat.reduceAdd, Nat.reduceSub]
      · simp (disch := omega) only [go_sem, K.ref40_Command, ↓reduceIte, f1, f2, f3, n, k, Bool.false_eq_true, false_and, Nat.reduceAdd, Nat.reduceSub]
end Go.Ev

/- All commands; the program and the reference agree. -/
namespace Go.Ev
open Go
variable [Lib] [Has1] [Has2] [Has3] [Has4] [Has5] [Has6] [Has7] [Has8] [Has9] [Has10] [Has11]

def cmdsF (m : Mine) (l : List Mch) (s : Wh) (b : Bel) (t a : Int) : List Int × Int :=
  if mchB m l = true ∧ validS m s = true ∧ belB m b = true then
    (if (0 ≤ t ∧ t ≤ 2147483648) ∧ (0 ≤ a ∧ a ≤ 2147483648) then (l.map fun x => cmdF x s b t a, 0) else ([], 8))
  else ([], 6)
theorem map_take_nth {α β : Type} [Dat α] (f : α → β) {l : List α} {j : Nat} (h : j < l.length) : (l.take (j + 1)).map f = (l.take j).map f ++ [f (nth l j)] := by
  rw [take_nth h, List.map_append]; rfl
section
variable {m : Mine} (hm : m.ok) (l : List Mch) (hl : l.length ≤ 1000) (hp : ∀ x ∈ l, x.pl.length ≤ 1000000) (s : Wh) (hs : s.frm.length ≤ 1000000) (b : Bel) (hb : b.sz) (t a : Int)
include hm hl hp hs hb
theorem cmdsP_loop (h1 : 0 ≤ t) (h2 : t ≤ 2147483648) (h3 : 0 ≤ a) (h4 : a ≤ 2147483648) : ∀ z0 z1 z2 z3 z9 z10 z12 : D, exS CALL K.firerules_Commands_l1 ⟨[z0, z1, z2, z3, I t, I a, .bp 0 0, .bp 1 0, .bp 2 0, z9, z10, .ref 3 0 0, z12, .t (.sl (l.map Mch.e)), I l.length, I 0], [.box (mineCells m), .box [I s.time, .t (tL s.frm)], .box [.t (.sl (b.worlds.map World.e))], .arr 1 false 0 []]⟩ =
    some (.exit 1, ⟨[.und, .und, .und, .und, I t, I a, .bp 0 0, .bp 1 0, .bp 2 0, .und, .und, .ref 3 0 (l.map fun x => cmdF x s b t a).length, .und, .t (.sl (l.map Mch.e)), I l.length, I l.length], [.box (mineCells m), .box [I s.time, .t (tL s.frm)], .box [.t (.sl (b.worlds.map World.e))], arr1 (l.map fun x => cmdF x s b t a)]⟩) := by
  intro z0 z1 z2 z3 z9 z10 z12
  have fin : l.map (fun x => cmdF x s b t a) = (l.take l.length).map (fun x => cmdF x s b t a) := by rw [List.take_length]
  rw [fin]
  refine loop_up (fun j => ⟨[.und, .und, .und, .und, I t, I a, .bp 0 0, .bp 1 0, .bp 2 0, .und, .und, .ref 3 0 ((l.take j).map fun x => cmdF x s b t a).length, .und, .t (.sl (l.map Mch.e)), I l.length, I j], [.box (mineCells m), .box [I s.time, .t (tL s.frm)], .box [.t (.sl (b.worlds.map World.e))], arr1 ((l.take j).map fun x => cmdF x s b t a)]⟩) l.length rfl ?_ ?_ (by simp)
  · intro j hj
    have ex : (l.map Mch.e)[j]? = some (nth l j).e := map_nth _ hj
    have c := cmd_ok m (nth l j) (hp _ (nth_mem hj)) s hs b hb t a (by omega) (by omega)
    have mt := map_take_nth (fun x => cmdF x s b t a) hj
    have ln : ((l.take j).map fun x => cmdF x s b t a).length ≤ 1000 := by rw [List.length_map, List.length_take]; omega
    simp only [mt]
    generalize (l.take j).map (fun x => cmdF x s b t a) = r at *
    generalize cmdF (nth l j) s b t a = v at *
    generalize nth l j = x at *
    obtain ⟨places, roads⟩ := m
    obtain ⟨kind, num, pl⟩ := x
    obtain ⟨time, frm⟩ := s
    obtain ⟨ws⟩ := b
    clear mt fin
    simp only [arr1] at *
    simp (disch := omega) only [go_sem, K.firerules_Commands_l1b, ↓reduceIte, ex, c, List.map_append, List.map_cons, List.map_nil, List.length_append, List.length_cons, List.length_nil, Nat.reduceAdd, Nat.reduceSub]
  · generalize (l.take l.length).map (fun x => cmdF x s b t a) = r at *
    simp only [arr1]
    simp (disch := omega) only [go_sem, K.firerules_Commands_l1b, ↓reduceIte, Nat.reduceAdd, Nat.reduceSub]
theorem cmdsR_loop (h1 : 0 ≤ t) (h2 : t ≤ 2147483648) (h3 : 0 ≤ a) (h4 : a ≤ 2147483648) : ∀ z0 z2 z3 z9 z10 : D, exS CALL K.ref40_Commands_l1 ⟨[z0, .t (.sl (l.map Mch.e)), z2, z3, I t, I a, .bp 0 0, .bp 1 0, .bp 2 0, z9, z10, .ref 3 0 0, I 0], [.box (mineCells m), .box [I s.time, .t (tL s.frm)], .box [.t (.sl (b.worlds.map World.e))], .arr 1 false 0 []]⟩ =
    some (.exit 0, ⟨[.und, .t (.sl (l.map Mch.e)), .und, .und, I t, I a, .bp 0 0, .bp 1 0, .bp 2 0, .und, .und, .ref 3 0 (l.map fun x => cmdF x s b t a).length, I l.length], [.box (mineCells m), .box [I s.time, .t (tL s.frm)], .box [.t (.sl (b.worlds.map World.e))], arr1 (l.map fun x => cmdF x s b t a)]⟩) := by
  intro z0 z2 z3 z9 z10
  have fin : l.map (fun x => cmdF x s b t a) = (l.take l.length).map (fun x => cmdF x s b t a) := by rw [List.take_length]
  rw [fin]
  refine loop_up (fun j => ⟨[.und, .t (.sl (l.map Mch.e)), .und, .und, I t, I a, .bp 0 0, .bp 1 0, .bp 2 0, .und, .und, .ref 3 0 ((l.take j).map fun x => cmdF x s b t a).length, I j], [.box (mineCells m), .box [I s.time, .t (tL s.frm)], .box [.t (.sl (b.worlds.map World.e))], arr1 ((l.take j).map fun x => cmdF x s b t a)]⟩) l.length rfl ?_ ?_ (by simp)
  · intro j hj
    have ex : (l.map Mch.e)[j]? = some (nth l j).e := map_nth _ hj
    have c := rCmd_ok m (nth l j) (hp _ (nth_mem hj)) s hs b hb t a (by omega) (by omega)
    have mt := map_take_nth (fun x => cmdF x s b t a) hj
    have ln : ((l.take j).map fun x => cmdF x s b t a).length ≤ 1000 := by rw [List.length_map, List.length_take]; omega
    simp only [mt]
    generalize (l.take j).map (fun x => cmdF x s b t a) = r at *
    generalize cmdF (nth l j) s b t a = v at *
    generalize nth l j = x at *
    obtain ⟨places, roads⟩ := m
    obtain ⟨kind, num, pl⟩ := x
    obtain ⟨time, frm⟩ := s
    obtain ⟨ws⟩ := b
    clear mt fin
    simp only [arr1] at *
    simp (disch := omega) only [go_sem, K.ref40_Commands_l1b, ↓reduceIte, ex, c, List.map_append, List.map_cons, List.map_nil, List.length_append, List.length_cons, List.length_nil, Nat.reduceAdd, Nat.reduceSub]
  · generalize (l.take l.length).map (fun x => cmdF x s b t a) = r at *
    simp only [arr1]
    simp (disch := omega) only [go_sem, K.ref40_Commands_l1b, ↓reduceIte, Nat.reduceAdd, Nat.reduceSub]
theorem cmdsP_ok : CALL 0 N.firerules_Commands [.t m.e, .t (.sl (l.map Mch.e)), .t s.e, .t b.e, I t, I a] [] = some (.tup [.t (tL (cmdsF m l s b t a).1), I (cmdsF m l s b t a).2], []) := by
  refine CALL_of K.t_firerules_Commands rfl ?_
  have v1 := fVal_ok hm l (by omega) hp
  have v2 := sValid_ok hm s hs
  have v3 := swValid_ok hm b hb
  have i1 := in_ok t 0 2147483648
  have i2 := in_ok a 0 2147483648
  have lp := cmdsP_loop hm l hl hp s hs b hb t a
  have mc : (l.map fun x => cmdF x s b t a).length ≤ 1000 := by rw [List.length_map]; exact hl
  unfold cmdsF
  generalize mchB m l = b1 at *
  generalize validS m s = b2 at *
  generalize belB m b = b3 at *
  generalize (l.map fun x => cmdF x s b t a) = r at *
  obtain ⟨places, roads⟩ := m
  obtain ⟨time, frm⟩ := s
  obtain ⟨ws⟩ := b
  simp only [arr1] at *
  clear hm hb hp
  cases b1 with
  | false => simp (disch := omega) only [go_sem, K.firerules_Commands, ↓reduceIte, v1, Bool.false_eq_true, false_and, Nat.reduceAdd, Nat.reduceSub] <;> try rfl
  | true =>
    cases b2 with
    | false => simp (disch := omega) only [go_sem, K.firerules_Commands, ↓reduceIte, v1, v2, Bool.false_eq_true, false_and, and_false, Nat.reduceAdd, Nat.reduceSub] <;> try rfl
    | true =>
      cases b3 with
      | false => simp (disch := omega) only [go_sem, K.firerules_Commands, ↓reduceIte, v1, v2, v3, Bool.false_eq_true, false_and, and_false, Nat.reduceAdd, Nat.reduceSub] <;> try rfl
      | true =>
        by_cases c1 : 0 ≤ t ∧ t ≤ 2147483648
        · rw [decide_eq_true c1] at i1
          by_cases c2 : 0 ≤ a ∧ a ≤ 2147483648
          · rw [decide_eq_true c2] at i2
            have lp := lp c1.1 c1.2 c2.1 c2.2
            simp (disch := omega) only [go_sem, K.firerules_Commands, ↓reduceIte, v1, v2, v3, i1, i2, c1, c2, lp, and_self, Nat.reduceAdd, Nat.reduceSub]
          · rw [decide_eq_false c2] at i2
            simp (disch := omega) only [go_sem, K.firerules_Commands, ↓reduceIte, v1, v2, v3, i1, i2, c1, c2, and_self, and_false, Nat.reduceAdd, Nat.reduceSub] <;> try rfl
        · rw [decide_eq_false c1] at i1
          simp (disch := omega) only [go_sem, K.firerules_Commands, ↓reduceIte, v1, v2, v3, i1, c1, and_self, false_and, Nat.reduceAdd, Nat.reduceSub] <;> try rfl
theorem cmdsR_ok : CALL 0 N.ref40_Commands [.t m.e, .t (.sl (l.map Mch.e)), .t s.e, .t b.e, I t, I a] [] = some (.tup [.t (tL (cmdsF m l s b t a).1), I (cmdsF m l s b t a).2], []) := by
  refine CALL_of K.t_ref40_Commands rfl ?_
  have v1 := rVal_ok hm l (by omega) hp
  have v2 := validS_ok hm s hs
  have v3 := belB_ok hm b hb
  have lp := cmdsR_loop hm l hl hp s hs b hb t a
  have mc : (l.map fun x => cmdF x s b t a).length ≤ 1000 := by rw [List.length_map]; exact hl
  unfold cmdsF
  generalize mchB m l = b1 at *
  generalize validS m s = b2 at *
  generalize belB m b = b3 at *
  generalize (l.map fun x => cmdF x s b t a) = r at *
  obtain ⟨places, roads⟩ := m
  obtain ⟨time, frm⟩ := s
  obtain ⟨ws⟩ := b
  simp only [arr1] at *
  clear hm hb hp
  cases b1 with
  | false => simp (disch := omega) only [go_sem, K.ref40_Commands, ↓reduceIte, v1, Bool.false_eq_true, false_and, Nat.reduceAdd, Nat.reduceSub] <;> try rfl
  | true =>
    cases b2 with
    | false => simp (disch := omega) only [go_sem, K.ref40_Commands, ↓reduceIte, v1, v2, Bool.false_eq_true, false_and, and_false, Nat.reduceAdd, Nat.reduceSub] <;> try rfl
    | true =>
      cases b3 with
      | false => simp (disch := omega) only [go_sem, K.ref40_Commands, ↓reduceIte, v1, v2, v3, Bool.false_eq_true, false_and, and_false, Nat.reduceAdd, Nat.reduceSub] <;> try rfl
      | true =>
        by_cases c1 : 0 ≤ t
        · by_cases c1' : t ≤ 2147483648
          · by_cases c2 : 0 ≤ a
            · by_cases c2' : a ≤ 2147483648
              · have lp := lp c1 c1' c2 c2'
                simp (disch := omega) only [go_sem, K.ref40_Commands, ↓reduceIte, v1, v2, v3, c1, c2, c1', c2', lp, and_self, Nat.reduceAdd, Nat.reduceSub]
              · simp (disch := omega) only [go_sem, K.ref40_Commands, ↓reduceIte, v1, v2, v3, c1, c1', c2, c2', and_self, and_false, Nat.reduceAdd, Nat.reduceSub] <;> try rfl
            · simp (disch := omega) only [go_sem, K.ref40_Commands, ↓reduceIte, v1, v2, v3, c1, c1', c2, and_self, and_false, false_and, Nat.reduceAdd, Nat.reduceSub] <;> try rfl
          · simp (disch := omega) only [go_sem, K.ref40_Commands, ↓reduceIte, v1, v2, v3, c1, c1', and_self, and_false, false_and, Nat.reduceAdd, Nat.reduceSub] <;> try rfl
        · simp (disch := omega) only [go_sem, K.ref40_Commands, ↓reduceIte, v1, v2, v3, c1, and_self, and_false, false_and, Nat.reduceAdd, Nat.reduceSub] <;> try rfl
theorem agree40_ok : CALL 0 N.law40_agree [.t m.e, .t (.sl (l.map Mch.e)), .t s.e, .t b.e, I t, I a] [] = some (B true, []) := by
  refine CALL_of K.t_law40_agree rfl ?_
  have a1 := cmdsP_ok hm l hl hp s hs b hb t a
  have a2 := cmdsR_ok hm l hl hp s hs b hb t a
  have v1 := fVal_ok hm l (by omega) hp
  have v2 := rVal_ok hm l (by omega) hp
  have ln : (cmdsF m l s b t a).1.length ≤ 1000 := by
    unfold cmdsF; split
    · split
      · rw [List.length_map]; exact hl
      · simp
    · simp
  have sm := same_ok (cmdsF m l s b t a).1 (cmdsF m l s b t a).1 (by omega)
  generalize cmdsF m l s b t a = q at *
  generalize mchB m l = b1 at *
  obtain ⟨r, e⟩ := q
  obtain ⟨places, roads⟩ := m
  obtain ⟨time, frm⟩ := s
  obtain ⟨ws⟩ := b
  simp only [decide_true] at *
  clear hm hb hp
  cases b1 <;> simp (disch := omega) only [go_sem, K.law40_agree, ↓reduceIte, a1, a2, v1, v2, sm, Nat.reduceAdd, Nat.reduceSub] <;> try rfl
end
end Go.Ev

/- SmokeMade. -/
namespace Go.Ev
open Go
variable [Lib] [Has1] [Has2] [Has3] [Has4] [Has6] [Has7]

end Go.Ev

/- SmokeMade: the law. -/
namespace Go.Ev
open Go
variable [Lib] [Has1] [Has2] [Has3] [Has4] [Has6] [Has7]

theorem spread_x {d : Dice} (hd : d.light) {m : Mine} (hm : m.ok) (h1 : 1 ≤ m.places.length) {fl : List Spn} (f1 : fl.length = m.roads.length) (f2 : ∀ x ∈ fl, x.ok) :
    ∃ (s : Wh) (e : Dice), CALL 0 N.made_Dice_Spread [.bp 0 0, .t m.e, .t (tS fl)] [d.obj] = some (.t s.e, [e.obj]) ∧ e.light ∧ s.frm.length = m.places.length ∧ 0 ≤ s.time ∧ s.time ≤ 300 := by
  have g := Dice.spread_good (d := d) hm h1 (flB_of f1 f2)
  have nr := hm.nr
  exact ⟨_, _, spread_ok hm h1 fl (by omega) d hd, Dice.spread_light hd m fl, g.1, g.2.1, g.2.2⟩
def setR (l : List Road) (k : Nat) (c : Bool) : List Road := l.set k { nth l k with closed := c }
end Go.Ev

/- Closing times of walkers: what is known of them. -/
namespace Go.Ev
open Go
variable [Lib] [Has1] [Has2]

/-- No road brings a walker earlier. -/
def clW (m : Mine) (t : Int) (into : Option (List Int)) (y : List Int) : Prop := ∀ k, k < m.roads.length → ∀ back, inOK into ((nth m.roads k).dst back) = true → 0 ≤ walkT m k back 6 9 12 →
  nth y ((nth m.roads k).src back).toNat < 1099511627776 → max t (nth y ((nth m.roads k).src back).toNat + walkT m k back 6 9 12) ≤ 2147483648 →
  nth y ((nth m.roads k).dst back).toNat ≤ max t (nth y ((nth m.roads k).src back).toNat + walkT m k back 6 9 12)

section
variable {m : Mine} (h : m.ok) {t : Int} {into : Option (List Int)}
include h
end

/- valid whereabouts -/
end Go.Ev

/- Valid whereabouts stay so; made ones. -/
namespace Go.Ev
open Go
variable [Lib] [Has1] [Has2] [Has8] [Has9]

/-- One round of made whereabouts: Where's loop. -/
abbrev whS (e : Dice) (m : Mine) (w : Wh) (k : Int) : St := ⟨[.bp 0 0, .und, .bp 1 0, .bp 2 0, .bp 3 0, I k, .und, .und, .und, .und], [e.obj, .box (mineCells m), .box [I 0, .nil], .box [I w.time, .t (tL w.frm)]]⟩
def whP (m : Mine) (n j : Nat) (st : St) : Prop := ∃ (e : Dice) (w : Wh), st = whS e m w ((n : Int) - j) ∧ e.light ∧ validB m w = true ∧ w.time ≤ 200 + (j : Int) * 100
end Go.Ev

/- The program: sights, absences, joins of whereabouts. -/
namespace Go.Ev
open Go
variable [Lib] [Has1] [Has2] [Has3] [Has4] [Has6] [Has7] [Has8] [Has9]

end Go.Ev

/- The program: head counts. -/
namespace Go.Ev
open Go
variable [Lib] [Has1] [Has2] [Has5]

/- a closure over any variables -/
abbrev lkH (area : List Int) : Heap := [.box [.fn N.heads_look_1 [.bp 1 0]], .box [.t (tL area)]]
def canF (w : Wh) (area : List Int) (t : Int) : Bool := (possF w t).any fun x => decide (x ∈ area)
def isF (w : Wh) (area : List Int) (t : Int) : Bool := canF w area t && !((possF w t).any fun x => !decide (x ∈ area))
def lookF (x : World) (i : Nat) (area : List Int) (t : Int) : Bool × Bool := if x.whr.length ≤ i then (false, false) else (isF (nth x.whr i) area t, canF (nth x.whr i) area t)

end Go.Ev

/- PlacesRaw. -/
namespace Go.Ev
open Go
variable [Lib] [Has1] [Has2] [Has3] [Has4] [Has5] [Has6] [Has7] [Has8] [Has9]

end Go.Ev

/- PlacesJoins. -/
namespace Go.Ev
open Go
variable [Lib] [Has1] [Has2] [Has3] [Has4] [Has5] [Has6] [Has7] [Has8] [Has9]

end Go.Ev

/- PlacesLess. -/
namespace Go.Ev
open Go
variable [Lib] [Has1] [Has2] [Has3] [Has4] [Has5] [Has6] [Has7] [Has8] [Has9]

def newRoad (n : Nat) : Road := ⟨0, (n : Int) - 1, 30, 1, true, false, 1, 1, 0, 0⟩
end Go.Ev

/- Closing times are shifted with the clock. -/
namespace Go.Ev
open Go
variable [Lib] [Has1] [Has2]

def finN : List Int → Nat
  | [] => 0
  | x :: r => (if x < 1099511627776 then 1 else 0) + finN r
def sh (s x : Int) : Int := if x < 1099511627776 then x + s else x
def shL (s : Int) (l : List Int) : List Int := l.map (sh s)
@[simp] theorem shL_len (s : Int) (l : List Int) : (shL s l).length = l.length := List.length_map ..
end Go.Ev

/- A walker by dice: one second. -/
namespace Go.Ev
open Go
variable [Lib] [Has1] [Has2] [Has3] [Has4] [Has5] [Has6] [Has7] [Has8] [Has9]

abbrev wkS (e : Dice) (m : Mine) (l : List Int) (place road left t : Int) : St := ⟨[.bp 0 0, .und, .und, .und, I 400, .bp 1 0, .und, .ref 2 0 l.length, I place, I road, I left, I t, .und, .und, .und, .und, .und], [e.obj, .box (mineCells m), .arr 1 false 0 ((l.map (T.int .i64)).map .t)]⟩
/-- What dice do at a place. -/
def wkC (m : Mine) (place road left road2 left2 : Int) : Prop := (road2 = road ∧ left2 = left) ∨ (road2 = -1 ∧ left2 = left) ∨ ∃ (k : Nat) (back : Bool), k < m.roads.length ∧ (nth m.roads k).src back = place ∧ 0 ≤ walkT m k back 6 9 12 ∧ road2 = k ∧ left2 = walkT m k back 6 9 12

end Go.Ev

/- A walker's way: what is true of it. -/
namespace Go.Ev
open Go
variable [Lib] [Has1] [Has2] [Has3] [Has4] [Has5] [Has6] [Has7] [Has8] [Has9]

theorem nth_snocL (l : List Int) (x : Int) {j : Nat} (hj : j < l.length) : nth (l ++ [x]) j = nth l j := by
  unfold nth; simp [List.getD_eq_getElem?_getD, List.getElem?_append_left hj]
theorem nth_snocR (l : List Int) (x : Int) : nth (l ++ [x]) l.length = x := by
  unfold nth; simp [List.getD_eq_getElem?_getD]
/-- A way along one road. -/
def Trip (m : Mine) (A : List Int) (k : Nat) (back : Bool) (d e : Nat) : Prop := k < m.roads.length ∧ 0 ≤ walkT m k back 6 9 12 ∧ (e : Int) = d + max 1 (walkT m k back 6 9 12) ∧ (∀ τ, d ≤ τ → τ < e → nth A τ = (nth m.roads k).src back) ∧ nth A e = (nth m.roads k).dst back ∧ e < A.length
def Trace (m : Mine) (A : List Int) : Prop := ∀ τ, τ + 1 < A.length → nth A (τ + 1) = nth A τ ∨ ∃ k back d, Trip m A k back d (τ + 1)
/-- Under way, or not. -/
def wkW (m : Mine) (l : List Int) (place road left : Int) : Prop := road = -1 ∨ ∃ (k : Nat) (back : Bool) (d : Nat), road = k ∧ k < m.roads.length ∧ 0 ≤ walkT m k back 6 9 12 ∧ (nth m.roads k).src back = place ∧ d < l.length ∧ left = walkT m k back 6 9 12 - ((l.length : Int) - 1 - d) ∧ (1 ≤ left ∨ d + 1 = l.length) ∧ ∀ τ, d ≤ τ → τ < l.length → nth l τ = place
def wkI (m : Mine) (start : Int) (l : List Int) (place road left : Int) : Prop :=
  (0 ≤ place ∧ place < m.places.length) ∧ (∀ x ∈ l, 0 ≤ x ∧ x < m.places.length) ∧ Trace m l ∧ (-1 ≤ left ∧ left ≤ 1000012) ∧ (l.length = 0 → place = start) ∧ (0 < l.length → nth l 0 = start ∧ nth l (l.length - 1) = place) ∧ wkW m l place road left
end Go.Ev

/- PlacesShift. -/
namespace Go.Ev
open Go
variable [Lib] [Has1] [Has2] [Has3] [Has4] [Has5] [Has6] [Has7] [Has8] [Has9]

def shW (s : Int) (w : Wh) : Wh := ⟨w.time + s, shL s w.frm⟩
/-- The times are not too late. -/
def FB (K : Int) (w : Wh) : Prop := ∀ j, nth w.frm j < 1099511627776 → nth w.frm j ≤ K
end Go.Ev

/- PlacesMade. -/
namespace Go.Ev
open Go
variable [Lib] [Has1] [Has2] [Has3] [Has4] [Has5] [Has6] [Has7] [Has8] [Has9]

def flipR (l : List Road) (k : Nat) : List Road := l.set k { nth l k with closed := !(nth l k).closed }
abbrev pmS (e : Dice) (m : Mine) (w v : Wh) (j : Int) : St := ⟨[.und, .und, .bp 0 0, .bp 1 0, .bp 2 0, .bp 3 0, I j, .und, .und, .und, .und, .und], [e.obj, .box (mineCells m), .box [I w.time, .t (tL w.frm)], .box [I v.time, .t (tL v.frm)]]⟩
end Go.Ev

/- PlacesShift's law. -/
namespace Go.Ev
open Go
variable [Lib] [Has1] [Has2] [Has3] [Has4] [Has5] [Has6] [Has7] [Has8] [Has9]

abbrev psS (e : Dice) (m : Mine) (s : Int) (w : Wh) (now k : Int) : St := ⟨[.und, .und, .und, .bp 0 0, .bp 1 0, I s, .und, .bp 2 0, .und, .bp 3 0, .und, I now, I k, .und, .und, .und, .und, .und], [e.obj, .box (mineCells m), .box [I w.time, .t (tL w.frm)], .box [I (w.time + s), .t (tL (shL s w.frm))]]⟩
def psP (m : Mine) (s : Int) (k0 j : Nat) (st : St) : Prop := ∃ (e : Dice) (w : Wh) (now : Int), st = psS e m s w now ((k0 : Int) - j) ∧ e.light ∧ validB m w = true ∧ FB (1000 + 150 * (j : Int) + (2 * (j : Int) + 1) * ((m.places.length : Int) * 1000012)) w ∧ w.time ≤ now ∧ 50 ≤ now ∧ now ≤ 50 + 150 * (j : Int)
end Go.Ev

/- Whoever walks is never lost: the plain law. -/
namespace Go.Ev
open Go
variable [Lib] [Has1] [Has2] [Has3] [Has4] [Has5] [Has6] [Has7] [Has8] [Has9]

/-- The walker is where they can be, from some time on. -/
def WkInv (m : Mine) (A : List Int) (w : Wh) : Prop := (∀ τ : Nat, w.time ≤ τ → τ ≤ 400 → nth w.frm (nth A τ).toNat ≤ τ) ∧ ∀ k back d e, Trip m A k back d e → w.time < e → nth w.frm ((nth m.roads k).src back).toNat + walkT m k back 6 9 12 ≤ e
end Go.Ev

/- Whoever walks is never lost: the longest stay. -/
namespace Go.Ev
open Go
variable [Lib] [Has1] [Has2] [Has3] [Has4] [Has5] [Has6] [Has7] [Has8] [Has9]

theorem setB_snoc {l : List Int} {n : Nat} (h : setB l n = true) : setB l ((n + 1 : Nat) : Int) = true ∧ setB (l ++ [(n : Int)]) ((n + 1 : Nat) : Int) = true := by
  simp only [setB, List.all_eq_true, List.mem_range, decide_eq_true_eq] at h ⊢
  refine ⟨fun j hj => ?_, fun j hj => ?_⟩
  · obtain ⟨a, b, c⟩ := h j hj; exact ⟨a, by omega, c⟩
  · by_cases c : j < l.length
    · obtain ⟨a, b, c⟩ := h j c
      rw [nth_snocL _ _ (by omega)]
      refine ⟨a, by omega, fun hj => ?_⟩
      rw [nth_snocL _ _ (by omega)]; exact c hj
    · have e : j = l.length := by simp at hj; omega
      subst e
      rw [nth_snocR]
      refine ⟨by omega, by omega, fun hj => ?_⟩
      rw [nth_snocL _ _ (by omega)]
      exact (h (l.length - 1) (by omega)).2.1
theorem someN_setB (d : Dice) : ∀ n : Nat, setB (d.someN n).1 n = true
  | 0 => rfl
  | n + 1 => by
    have ih := someN_setB d n
    have := setB_snoc ih
    simp only [Dice.someN]
    split
    · exact this.2
    · exact this.1
/-- The runs up to a time, and the longest. -/
def Runs (A l : List Int) (a : Int) (t : Nat) (stay g : Int) : Prop :=
  (∀ u : Nat, a ≤ u → u ≤ t → (∀ τ, u ≤ τ → τ < t → nth A τ ∈ l) → (t : Int) - u ≤ stay) ∧ (∀ u v : Nat, a ≤ u → v ≤ t → u ≤ v → (∀ τ, u ≤ τ → τ < v → nth A τ ∈ l) → (v : Int) - u ≤ g)
abbrev ptS (o1 o2 ox o3 : Obj) (R : List Obj) (A l : List Int) (next a stay g s : Int) : St := ⟨[.und, .und, .und, .bp 0 0, .bp 1 0, .und, .t (tL A), .bp 3 0, .und, .und, .t (tL l), I next, .und, .und, .und, .und, .und, I a, I stay, I g, I s, .und, .und], o1 :: o2 :: ox :: o3 :: R⟩
end Go.Ev

/- FireRulesMade's law. -/
namespace Go.Ev
open Go
variable [Lib] [Has1] [Has2] [Has3] [Has4] [Has5] [Has6] [Has7] [Has8] [Has9] [Has10] [Has11]

theorem mch_in (d : Dice) (n : Nat) : (1 ≤ (d.mch n).1.kind ∧ (d.mch n).1.kind ≤ 2) ∧ 0 ≤ (d.mch n).1.num ∧ (d.mch n).1.num < 5 := by
  unfold Dice.mch
  simp only
  have a := d.next_lo 2
  have b := d.next_hi (n := 2) (by omega)
  have a2 := (d.next 2).2.next_lo 5
  have b2 := (d.next 2).2.next_hi (n := 5) (by omega)
  split <;> (simp only; omega)
theorem mch_set (d : Dice) {n : Nat} (hn : 1 ≤ n) : setB (d.mch n).1.pl n = true := by
  unfold Dice.mch
  simp only
  split
  · have a := ((((d.next 2).2.next 5).2).someN n).2.next_lo n
    have b := ((((d.next 2).2.next 5).2).someN n).2.next_hi (n := n) (by omega)
    exact setB_one a b
  · exact someN_setB _ n
theorem mch_even (d : Dice) {n : Nat} (hn : 1 ≤ n) : oddM n (d.mch n).1 = false := by
  have a := mch_in d n
  have b := mch_set d hn
  have c := d.mch_good hn
  unfold oddM
  rw [b]
  simp only [Bool.not_true, Bool.or_false, Bool.not_eq_false', decide_eq_true_eq]
  omega
theorem mchN_even (d : Dice) {n : Nat} (hn : 1 ≤ n) : ∀ k, ∀ y ∈ (d.mchN n k).1, oddM n y = false
  | 0, y, hy => by simp [Dice.mchN] at hy
  | k + 1, y, hy => by
    simp only [Dice.mchN, List.mem_append, List.mem_singleton] at hy
    rcases hy with hy | rfl
    · exact mchN_even d hn k y hy
    · exact mch_even _ hn
theorem mchs_x {d : Dice} (hd : d.light) {m : Mine} (hn : 1 ≤ m.places.length) (hn2 : m.places.length ≤ 1000) :
    ∃ (l : List Mch) (e : Dice), CALL 0 N.law40_some [.bp 0 0, .t m.e] [d.obj] = some (.t (.sl (l.map Mch.e)), [e.obj]) ∧ e.light ∧ l.length ≤ 3 ∧ (∀ x ∈ l, x.pl.length ≤ m.places.length) ∧ mchB m l = true := by
  have s9 := d.next_hi (n := 4) (by omega)
  have sl := Dice.mchN_len (d.next 4).2 m.places.length (d.next 4).1.toNat
  refine ⟨_, _, mchs_ok hn hn2 d hd, Dice.mchN_light (Dice.next_light hd 4) _ _, ?_, fun x hx => (Dice.mchN_good _ hn _ x hx).1, ?_⟩
  · show ((d.next 4).2.mchN m.places.length (d.next 4).1.toNat).1.length ≤ 3
    omega
  · have ev := mchN_even (d.next 4).2 hn (d.next 4).1.toNat
    show mchB m ((d.next 4).2.mchN m.places.length (d.next 4).1.toNat).1 = true
    unfold mchB
    rw [decide_eq_true (by omega), Bool.true_and, Bool.not_eq_true', List.any_eq_false]
    intro x hx
    rw [ev x hx]; simp
theorem belief_x {d : Dice} (hd : d.light) {m : Mine} (hm : m.ok) (h1 : 1 ≤ m.places.length) :
    ∃ (b : Bel) (e : Dice) (np : Nat), CALL 0 N.made_Dice_Belief [.bp 0 0, .t m.e] [d.obj] = some (.t b.e, [e.obj]) ∧ e.light ∧ BOk m np b :=
  ⟨_, _, _, belief_ok hm h1 d hd, (belF_good hm h1 hd).2, (belF_good hm h1 hd).1⟩
abbrev fmH (e : Dice) (m : Mine) (s : Wh) (b : Bel) : Heap := [e.obj, .box (mineCells m), .box [I s.time, .t (tL s.frm)], .box [.t (.sl (b.worlds.map World.e))]]
end Go.Ev

/- FireRulesRaw's law. -/
namespace Go.Ev
open Go
variable [Lib] [Has1] [Has2] [Has3] [Has4] [Has5] [Has6] [Has7] [Has8] [Has9] [Has10] [Has11]

theorem raw_loop (aw : CALL 0 N.law40_awake [] [] = some (B true, [])) (li : T) (l : List Mch) (hl : l.length ≤ 1000) (st : Int) (fr : T) : ∀ z2 z4 z6 z7 z8 z9 z10 : D,
    exS CALL K.law40_FireRulesRaw_l1 ⟨[.t li, .t (.sl (l.map Mch.e)), z2, .bp 0 0, z4, I 0, z6, z7, z8, z9, z10], [.box [I st, .t fr]]⟩ =
    some (match (List.range l.length).find? (fun j => decide (70 < (nth l j).pl.length)) with
      | some j => (.ret, ⟨[.t li, .t (.sl (l.map Mch.e)), .und, .bp 0 0, B true, I j, .und, .und, .und, .und, .und], [.box [I st, .t fr]]⟩)
      | none => (.exit 0, ⟨[.t li, .t (.sl (l.map Mch.e)), .und, .bp 0 0, .und, I l.length, .und, .und, .und, .und, .und], [.box [I st, .t fr]]⟩)) := by
  intro z2 z4 z6 z7 z8 z9 z10
  refine loop_first (fun j => ⟨[.t li, .t (.sl (l.map Mch.e)), .und, .bp 0 0, .und, I j, .und, .und, .und, .und, .und], [.box [I st, .t fr]]⟩) l.length (fun j => decide (70 < (nth l j).pl.length)) _ _ rfl ?_ ?_ ?_ (by simp)
  · intro j hj hp
    have ex : (l.map Mch.e)[j]? = some (nth l j).e := map_nth _ hj
    have hp : ¬ 70 < (nth l j).pl.length := by simpa using hp
    generalize nth l j = x at *
    obtain ⟨kind, num, pl⟩ := x
    simp only at *
    simp (disch := omega) only [go_sem, K.law40_FireRulesRaw_l1b, ↓reduceIte, ex, Nat.reduceAdd, Nat.reduceSub]
  · intro j hj hp
    refine ⟨?_, by simp⟩
    have ex : (l.map Mch.e)[j]? = some (nth l j).e := map_nth _ hj
    have hp : 70 < (nth l j).pl.length := by simpa using hp
    generalize nth l j = x at *
    obtain ⟨kind, num, pl⟩ := x
    simp only at *
    simp (disch := omega) only [go_sem, K.law40_FireRulesRaw_l1b, ↓reduceIte, ex, aw, Nat.reduceAdd, Nat.reduceSub]
  · simp (disch := omega) only [go_sem, K.law40_FireRulesRaw_l1b, ↓reduceIte, Nat.reduceAdd, Nat.reduceSub]
theorem nilBel_sz : (Bel.mk []).sz := ⟨by simp, fun x hx => by cases hx⟩
theorem FireRulesRaw_law (aw : CALL 0 N.law40_awake [] [] = some (B true, [])) (li : List Int) (l : List Mch) (s : Wh) : CALL 0 N.law40_FireRulesRaw [.t (tL li), .t (.sl (l.map Mch.e)), .t s.e] [] = some (B true, []) := by
  refine CALL_of K.t_law40_FireRulesRaw rfl ?_
  have lo := light_ok li
  obtain ⟨st, fr⟩ := s
  by_cases c : li.length ≤ 400
  · simp only [c, decide_true] at lo
    by_cases c1 : l.length ≤ 60
    · by_cases c2 : fr.length ≤ 100
      · have rl := raw_loop aw (tL li) l (by omega) st (tL fr)
        cases hf : (List.range l.length).find? (fun j => decide (70 < (nth l j).pl.length)) with
        | some j =>
          simp only [hf] at rl
          simp (disch := omega) only [go_sem, K.law40_FireRulesRaw, ↓reduceIte, lo, c1, c2, rl, Nat.reduceAdd, Nat.reduceSub]
        | none =>
          simp only [hf] at rl
          have lp : ∀ x ∈ l, x.pl.length ≤ 1000000 := fun x hx => by
            obtain ⟨j, hj⟩ := List.mem_iff_getElem?.1 hx
            have := List.find?_eq_none.1 hf j (List.mem_range.2 (List.getElem?_eq_some_iff.1 hj).1)
            rw [nth_eq hj] at this
            have : ¬ 70 < x.pl.length := by simpa using this
            omega
          have ro := roll_x li
          have d0 : (Dice.mk li 0).light := c
          generalize (Dice.mk li 0) = d at *
          obtain ⟨m, e1, mo, l1, hm, p1, p2, r1, r2⟩ := mine_x d0
          obtain ⟨fl, e3, fo, l3, f1, f2⟩ := flows_x l1 hm
          obtain ⟨x, e4, po, l4, s1, s2, s3⟩ := spread_x l3 hm (by omega) f1 f2
          obtain ⟨b, e5, np, bo, l5, bg⟩ := belief_x l4 hm (by omega)
          obtain ⟨t, e6, to, l6, tm⟩ := of_x l5 [100, 0, -1, 2147483648, 2147483649] (by simp) (by simp)
          obtain ⟨a, e7, ao, l7, am⟩ := of_x l6 [60, 0, -1, 2147483648, 2147483649] (by simp) (by simp)
          obtain ⟨k, e8, ko, l8, kl, kp, kv⟩ := mchs_x l7 (m := m) (by omega) (by omega)
          have sz := bg.sz hm
          have kp : ∀ x ∈ k, x.pl.length ≤ 1000000 := fun x hx => by have := kp x hx; omega
          have g1 := agree40_ok hm l (by omega) lp x (by omega) b sz t a
          have g2 := agree40_ok hm k (by omega) kp ⟨st, fr⟩ (by simp only; omega) b sz t a
          have g3 : CALL 0 N.law40_agree [.t m.e, .t (.sl (l.map Mch.e)), .t x.e, .t (.agg [.sl []]), I 5, I 5] [] = some (B true, []) := agree40_ok hm l (by omega) lp x (by omega) ⟨[]⟩ nilBel_sz 5 5
          clear tm am
          obtain ⟨ws⟩ := b
          obtain ⟨time, frm⟩ := x
          obtain ⟨places, roads⟩ := m
          simp only [tL, List.map_cons, List.map_nil] at *
          simp (disch := omega) only [go_sem, K.law40_FireRulesRaw, ↓reduceIte, lo, c1, c2, rl, ro, mo, fo, po, bo, to, ao, ko, g1, g2, g3, aw, Nat.reduceMul, Nat.reduceAdd, Nat.reduceSub]
      · simp (disch := omega) only [go_sem, K.law40_FireRulesRaw, ↓reduceIte, lo, c1, c2, aw, Nat.reduceAdd, Nat.reduceSub]
    · simp (disch := omega) only [go_sem, K.law40_FireRulesRaw, ↓reduceIte, lo, c1, aw, Nat.reduceAdd, Nat.reduceSub]
  · simp only [c, decide_false] at lo
    simp (disch := omega) only [go_sem, K.law40_FireRulesRaw, ↓reduceIte, lo, aw, Nat.reduceAdd, Nat.reduceSub]
end Go.Ev

