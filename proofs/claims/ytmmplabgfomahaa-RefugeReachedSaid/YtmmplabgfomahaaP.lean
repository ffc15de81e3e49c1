/- The statement RefugeReached holds of the program for every input. Conditions: none. -/
import Derived.Test.YtmmplabgfomahaaRows
import Derived.Test.YtmmplabgfomahaaS
import Derived.ProofKit
import Derived.JoinedCond
set_option linter.all false
namespace Go.Proofs.Ytmmplabgfomahaa
open Go.Ev Go.ChangeShapes Go.WideShapes Go.ChangeAt Go.RowKit

theorem own : ownKnob Try.prog.godebug = none := by kernel_rfl
theorem laidOut : laidOutB Try.prog = true := by kernel_rfl
theorem awake_ok : bM 0 N.c8 [] [] = some (B true, []) := tM (n := 400) (by kernel_rfl)
theorem params_are : Try.f6.params.toList = [23] := by kernel_rfl

set_option maxRecDepth 100000 in
theorem law_eval : ∀ xs : List T, tG Try.prog 40 Try.f6.params.toList xs → gp Lib.fs 0 N.aE (xs.map .t) [] = some (.t (.bool true), []) := by
  intro xs h
  rw [params_are] at h
  obtain ⟨x0, rfl, h0⟩ := SF h
  obtain ⟨l, rfl, -, -⟩ := BJ (n := 38) (e := 3) (by kernel_rfl) (by kernel_rfl) h0
  exact xA awake_ok l

theorem calls_ok : ∀ n, eD Try.prog (bU Lib.fs n) := Fo (rs := real) (fs := tab) (fun f => rfl) P8 P9 Jr (by kernel_rfl) C8

set_option maxRecDepth 100000 in
theorem lifted (os : Os) (started : os.Started) (H : Type) (enc : TypeId × Value → H) :
    ReturnsInHanded {} Try.checked os 6 .any (Rows.refugeReachedSpec.pre6 enc Try.prog Try.f6 Rows.refugeReachedRow.domain false) (Rows.refugeReachedSpec.post enc Try.prog Try.f6 false true false false) := by
  refine returnsInHanded_of_change (C := Try.checked) own started (by kernel_rfl) Try.func6
    (ChangeSpec.witness6 (enc := enc) (C := Try.checked) false ⟨#[], #[.slice none 0 0], []⟩ 8 (by kernel_rfl) (by kernel_rfl) (by kernel_rfl) (by kernel_rfl)) ?_
  intro W base args ds gs before hval hW _ _
  exact yS calls_ok (N := N.aE) (by kernel_rfl) laidOut (n := 40) (by kernel_rfl) (tb := 4) (by kernel_rfl) (by kernel_rfl) rfl
    (fun H ds hl => by
      match ds, hl with
      | [d0], _ => rfl) law_eval W base args ds gs before hval hW

set_option maxRecDepth 100000 in
theorem over : Rows.refugeReachedRow.holds Try.pinned (OpenSpec.ofChange Rows.refugeReachedSpec) :=
  OpenClaim.holds_of_wide 6 Try.f6 rfl rfl rfl rfl rfl rfl rfl ⟨rfl, rfl, rfl, rfl, rfl⟩ rfl rfl rfl rfl rfl (by kernel_rfl) Try.func6 (by kernel_rfl)
    (of_decide_eq_true (by kernel_rfl)) (by unfold Func.isWrapper; first | (rw [if_pos (by decide +kernel)]; kernel_rfl) | (rw [if_neg (by decide +kernel)]; exact ⟨rfl, rfl⟩))
    (fun os started H enc _ => lifted os started H enc)

theorem proved : Rows.RefugeReachedSaid := over
end Go.Proofs.Ytmmplabgfomahaa
