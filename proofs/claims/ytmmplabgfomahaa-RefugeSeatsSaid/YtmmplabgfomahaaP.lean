/- The statement RefugeSeats holds of the program for every input. Conditions: none. -/
import Derived.Test.YtmmplabgfomahaaRows
import Derived.Test.YtmmplabgfomahaaS
import Derived.ProofKit
import Derived.JoinedCond
set_option linter.all false
namespace Go.Proofs.Ytmmplabgfomahaa
open Go.Ev Go.ChangeShapes Go.WideShapes Go.ChangeAt Go.RowKit

theorem own : ownKnob Try.prog.godebug = none := by kernel_rfl
theorem laidOut : laidOutB Try.prog = true := by kernel_rfl
theorem awake_ok : bV 0 N.b9 [] [] = some (B true, []) := sP (n := 400) (by kernel_rfl)
theorem params_are : Try.f4.params.toList = [23] := by kernel_rfl

set_option maxRecDepth 100000 in
theorem law_eval : ∀ xs : List T, sL Try.prog 40 Try.f4.params.toList xs → fh Lib.fs 0 N.aB (xs.map .t) [] = some (.t (.bool true), []) := by
  intro xs h
  rw [params_are] at h
  obtain ⟨x0, rfl, h0⟩ := Tq h
  obtain ⟨l, rfl, -, -⟩ := BG (n := 38) (e := 3) (by kernel_rfl) (by kernel_rfl) h0
  exact Av awake_ok l

theorem calls_ok : ∀ n, dN Try.prog (bq Lib.fs n) := FA (rs := real) (fs := tab) (fun f => rfl) QJ QK JJ (by kernel_rfl) Df

set_option maxRecDepth 100000 in
theorem lifted (os : Os) (started : os.Started) (H : Type) (enc : TypeId × Value → H) :
    ReturnsInHanded {} Try.checked os 4 .any (Rows.refugeSeatsSpec.pre6 enc Try.prog Try.f4 Rows.refugeSeatsRow.domain false) (Rows.refugeSeatsSpec.post enc Try.prog Try.f4 false true false false) := by
  refine returnsInHanded_of_change (C := Try.checked) own started (by kernel_rfl) Try.func4
    (ChangeSpec.witness6 (enc := enc) (C := Try.checked) false ⟨#[], #[.slice none 0 0], []⟩ 8 (by kernel_rfl) (by kernel_rfl) (by kernel_rfl) (by kernel_rfl)) ?_
  intro W base args ds gs before hval hW _ _
  exact yq calls_ok (N := N.aB) (by kernel_rfl) laidOut (n := 40) (by kernel_rfl) (tb := 4) (by kernel_rfl) (by kernel_rfl) rfl
    (fun H ds hl => by
      match ds, hl with
      | [d0], _ => rfl) law_eval W base args ds gs before hval hW

set_option maxRecDepth 100000 in
theorem over : Rows.refugeSeatsRow.holds Try.pinned (OpenSpec.ofChange Rows.refugeSeatsSpec) :=
  OpenClaim.holds_of_wide 4 Try.f4 rfl rfl rfl rfl rfl rfl rfl ⟨rfl, rfl, rfl, rfl, rfl⟩ rfl rfl rfl rfl rfl (by kernel_rfl) Try.func4 (by kernel_rfl)
    (of_decide_eq_true (by kernel_rfl)) (by unfold Func.isWrapper; first | (rw [if_pos (by decide +kernel)]; kernel_rfl) | (rw [if_neg (by decide +kernel)]; exact ⟨rfl, rfl⟩))
    (fun os started H enc _ => lifted os started H enc)

theorem proved : Rows.RefugeSeatsSaid := over
end Go.Proofs.Ytmmplabgfomahaa
