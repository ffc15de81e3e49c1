/- The statement TruthTwice holds of the program for every input. Conditions: none. -/
import Derived.Test.YtafioeehabcnhaaRows
import Derived.Test.YtafioeehabcnhaaS
import Derived.ProofKit
import Derived.JoinedCond
set_option linter.all false
namespace Go.Proofs.Ytafioeehabcnhaa
open Go.Ev Go.ChangeShapes Go.WideShapes Go.ChangeAt Go.RowKit

theorem own : ownKnob Try.prog.godebug = none := by kernel_rfl
theorem laidOut : laidOutB Try.prog = true := by kernel_rfl
theorem awake_ok : aT 0 N.dT [] [] = some (B true, []) := xN (n := 400) (by kernel_rfl)
theorem params_are : Try.f5.params.toList = [22] := by kernel_rfl

set_option maxRecDepth 100000 in
theorem law_eval : ∀ xs : List T, xJ Try.prog 40 Try.f5.params.toList xs → jh Lib.fs 0 N.bK (xs.map .t) [] = some (.t (.bool true), []) := by
  intro xs h
  rw [params_are] at h
  obtain ⟨x0, rfl, h0⟩ := Uk h
  obtain ⟨l, rfl, -, -⟩ := EB (n := 38) (e := 3) (by kernel_rfl) (by kernel_rfl) h0
  exact Eh awake_ok l

theorem calls_ok : ∀ n, hX Try.prog (df Lib.fs n) := Ic (rs := real) (fs := tab) (fun f => rfl) RM RN L0 (by kernel_rfl) Gc

set_option maxRecDepth 100000 in
theorem lifted (os : Os) (started : os.Started) (H : Type) (enc : TypeId × Value → H) :
    ReturnsInHanded {} Try.checked os 5 .any (Rows.truthTwiceSpec.pre6 enc Try.prog Try.f5 Rows.truthTwiceRow.domain false) (Rows.truthTwiceSpec.post enc Try.prog Try.f5 false true false false) := by
  refine returnsInHanded_of_change (C := Try.checked) own started (by kernel_rfl) Try.func5
    (ChangeSpec.witness6 (enc := enc) (C := Try.checked) false ⟨#[], #[.slice none 0 0], []⟩ 8 (by kernel_rfl) (by kernel_rfl) (by kernel_rfl) (by kernel_rfl)) ?_
  intro W base args ds gs before hval hW _ _
  exact BL calls_ok (N := N.bK) (by kernel_rfl) laidOut (n := 40) (by kernel_rfl) (tb := 4) (by kernel_rfl) (by kernel_rfl) rfl
    (fun H ds hl => by
      match ds, hl with
      | [d0], _ => rfl) law_eval W base args ds gs before hval hW

set_option maxRecDepth 100000 in
theorem over : Rows.truthTwiceRow.holds Try.pinned (OpenSpec.ofChange Rows.truthTwiceSpec) :=
  OpenClaim.holds_of_wide 5 Try.f5 rfl rfl rfl rfl rfl rfl rfl ⟨rfl, rfl, rfl, rfl, rfl⟩ rfl rfl rfl rfl rfl (by kernel_rfl) Try.func5 (by kernel_rfl)
    (of_decide_eq_true (by kernel_rfl)) (by unfold Func.isWrapper; first | (rw [if_pos (by decide +kernel)]; kernel_rfl) | (rw [if_neg (by decide +kernel)]; exact ⟨rfl, rfl⟩))
    (fun os started H enc _ => lifted os started H enc)

theorem proved : Rows.TruthTwiceSaid := over
end Go.Proofs.Ytafioeehabcnhaa
