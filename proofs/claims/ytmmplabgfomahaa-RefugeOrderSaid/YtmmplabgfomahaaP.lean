/- The statement RefugeOrder holds of the program for every input. Conditions: none. -/
import Derived.Test.YtmmplabgfomahaaRows
import Derived.Test.YtmmplabgfomahaaS
import Derived.ProofKit
import Derived.JoinedCond
set_option linter.all false
namespace Go.Proofs.Ytmmplabgfomahaa
open Go.Ev Go.ChangeShapes Go.WideShapes Go.ChangeAt Go.RowKit

theorem own : ownKnob Try.prog.godebug = none := by kernel_rfl
theorem laidOut : laidOutB Try.prog = true := by kernel_rfl
theorem awake_ok : c9 0 N.bD [] [] = some (B true, []) := p7 (n := 400) (by kernel_rfl)
theorem params_are : Try.f5.params.toList = [23] := by kernel_rfl

set_option maxRecDepth 100000 in
theorem law_eval : ∀ xs : List T, p0 Try.prog 40 Try.f5.params.toList xs → ea Lib.fs 0 N.aF (xs.map .t) [] = some (.t (.bool true), []) := by
  intro xs h
  rw [params_are] at h
  obtain ⟨x0, rfl, h0⟩ := Py h
  obtain ⟨l, rfl, -, -⟩ := yl (n := 38) (e := 3) (by kernel_rfl) (by kernel_rfl) h0
  exact xd awake_ok l

theorem calls_ok : ∀ n, cJ Try.prog (aX Lib.fs n) := BW (rs := real) (fs := tab) (fun f => rfl) MP MQ FM (by kernel_rfl) zB

set_option maxRecDepth 100000 in
theorem lifted (os : Os) (started : os.Started) (H : Type) (enc : TypeId × Value → H) :
    ReturnsInHanded {} Try.checked os 5 .any (Rows.refugeOrderSpec.pre6 enc Try.prog Try.f5 Rows.refugeOrderRow.domain false) (Rows.refugeOrderSpec.post enc Try.prog Try.f5 false true false false) := by
  refine returnsInHanded_of_change (C := Try.checked) own started (by kernel_rfl) Try.func5
    (ChangeSpec.witness6 (enc := enc) (C := Try.checked) false ⟨#[], #[.slice none 0 0], []⟩ 8 (by kernel_rfl) (by kernel_rfl) (by kernel_rfl) (by kernel_rfl)) ?_
  intro W base args ds gs before hval hW _ _
  exact vf calls_ok (N := N.aF) (by kernel_rfl) laidOut (n := 40) (by kernel_rfl) (tb := 4) (by kernel_rfl) (by kernel_rfl) rfl
    (fun H ds hl => by
      match ds, hl with
      | [d0], _ => rfl) law_eval W base args ds gs before hval hW

set_option maxRecDepth 100000 in
theorem over : Rows.refugeOrderRow.holds Try.pinned (OpenSpec.ofChange Rows.refugeOrderSpec) :=
  OpenClaim.holds_of_wide 5 Try.f5 rfl rfl rfl rfl rfl rfl rfl ⟨rfl, rfl, rfl, rfl, rfl⟩ rfl rfl rfl rfl rfl (by kernel_rfl) Try.func5 (by kernel_rfl)
    (of_decide_eq_true (by kernel_rfl)) (by unfold Func.isWrapper; first | (rw [if_pos (by decide +kernel)]; kernel_rfl) | (rw [if_neg (by decide +kernel)]; exact ⟨rfl, rfl⟩))
    (fun os started H enc _ => lifted os started H enc)

theorem proved : Rows.RefugeOrderSaid := over
end Go.Proofs.Ytmmplabgfomahaa
