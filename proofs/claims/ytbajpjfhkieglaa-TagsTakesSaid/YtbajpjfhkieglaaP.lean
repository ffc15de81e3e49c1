/- The statement TagsTakes holds of the program for every input. Conditions: none. -/
import Derived.Test.YtbajpjfhkieglaaRows
import Derived.Test.YtbajpjfhkieglaaS
import Derived.ProofKit
import Derived.JoinedCond
set_option linter.all false
namespace Go.Proofs.Ytbajpjfhkieglaa
open Go.Ev Go.ChangeShapes Go.WideShapes Go.ChangeAt Go.RowKit

theorem own : ownKnob Try.prog.godebug = none := by kernel_rfl
theorem laidOut : laidOutB Try.prog = true := by kernel_rfl
theorem awake_ok : bS 0 N.bI [] [] = some (B true, []) := om (n := 400) (by kernel_rfl)
theorem params_are : Try.f5.params.toList = [22, 43, 24] := by kernel_rfl

set_option maxRecDepth 100000 in
theorem law_eval : ∀ xs : List T, oc Try.prog 40 Try.f5.params.toList xs → dI Lib.fs 0 N.aJ (xs.map .t) [] = some (.t (.bool true), []) := by
  intro xs h
  rw [params_are] at h
  obtain ⟨x0, x1, x2, rfl, h0, h1, h2⟩ := KF h
  obtain ⟨t, rfl, -, -⟩ := uS (n := 38) (e := 3) (by kernel_rfl) (by kernel_rfl) h0
  obtain ⟨zs, rfl, zl, zf⟩ := qb (n := 39) (ts := [22, 22]) (by kernel_rfl) h1
  obtain ⟨ys, rfl, yl, yf⟩ := qb (n := 39) (ts := [3, 3, 3, 22]) (by kernel_rfl) h2
  match ys, yl, yf, zs, zl, zf with
  | [y0, y1, y2, y3], _, yf, [z0, z1], _, zf =>
    obtain ⟨_, g0, c0⟩ := yf 0 _ rfl
    obtain ⟨_, g1, c1⟩ := yf 1 _ rfl
    obtain ⟨_, g2, c2⟩ := yf 2 _ rfl
    obtain ⟨_, g3, c3⟩ := yf 3 _ rfl
    obtain ⟨_, k0, d0⟩ := zf 0 _ rfl
    obtain ⟨_, k1, d1⟩ := zf 1 _ rfl
    cases g0; cases g1; cases g2; cases g3; cases k0; cases k1
    obtain ⟨a0, rfl, -⟩ := yM (n := 38) (by kernel_rfl) c0
    obtain ⟨a1, rfl, -⟩ := yM (n := 38) (by kernel_rfl) c1
    obtain ⟨a2, rfl, -⟩ := yM (n := 38) (by kernel_rfl) c2
    obtain ⟨a3, rfl, -, -⟩ := uT (n := 37) (e := 3) (by kernel_rfl) (by kernel_rfl) c3
    obtain ⟨b0, rfl, -, -⟩ := uT (n := 37) (e := 3) (by kernel_rfl) (by kernel_rfl) d0
    obtain ⟨b1, rfl, -, -⟩ := uT (n := 37) (e := 3) (by kernel_rfl) (by kernel_rfl) d1
    exact wD awake_ok t ⟨b0, b1⟩ ⟨a0, a1, a2, a3⟩

theorem calls_ok : ∀ n, cK Try.prog (a7 Lib.fs n) := yE (rs := real) (fs := tab) (fun f => rfl) Ic Ie Ig (by kernel_rfl) wF

set_option maxRecDepth 100000 in
theorem lifted (os : Os) (started : os.Started) (H : Type) (enc : TypeId × Value → H) :
    ReturnsInHanded {} Try.checked os 5 .any (Rows.tagsTakesSpec.pre6 enc Try.prog Try.f5 Rows.tagsTakesRow.domain false) (Rows.tagsTakesSpec.post enc Try.prog Try.f5 false true false false) := by
  refine returnsInHanded_of_change (C := Try.checked) own started (by kernel_rfl) Try.func5
    (ChangeSpec.witness6 (enc := enc) (C := Try.checked) false ⟨#[], #[.slice none 0 0, .agg #[.slice none 0 0, .slice none 0 0], .agg #[.int .i64 0, .int .i64 0, .int .i64 0, .slice none 0 0]], []⟩ 8 (by kernel_rfl) (by kernel_rfl) (by kernel_rfl) (by kernel_rfl)) ?_
  intro W base args ds gs before hval hW _ _
  exact rV calls_ok (N := N.aJ) (by kernel_rfl) laidOut (n := 40) (by kernel_rfl) (tb := 4) (by kernel_rfl) (by kernel_rfl) rfl
    (fun H ds hl => by
      match ds, hl with
      | [d0, d1, d2], _ => rfl) law_eval W base args ds gs before hval hW

set_option maxRecDepth 100000 in
theorem over : Rows.tagsTakesRow.holds Try.pinned (OpenSpec.ofChange Rows.tagsTakesSpec) :=
  OpenClaim.holds_of_wide 5 Try.f5 rfl rfl rfl rfl rfl rfl rfl ⟨rfl, rfl, rfl, rfl, rfl⟩ rfl rfl rfl rfl rfl (by kernel_rfl) Try.func5 (by kernel_rfl)
    (of_decide_eq_true (by kernel_rfl)) (by unfold Func.isWrapper; first | (rw [if_pos (by decide +kernel)]; kernel_rfl) | (rw [if_neg (by decide +kernel)]; exact ⟨rfl, rfl⟩))
    (fun os started H enc _ => lifted os started H enc)

theorem proved : Rows.TagsTakesSaid := over
end Go.Proofs.Ytbajpjfhkieglaa
