/- The statement TruthLooks holds of the program for every input. Conditions: none. -/
import Derived.Test.YtafioeehabcnhaaRows
import Derived.Test.YtafioeehabcnhaaS
import Derived.ProofKit
import Derived.JoinedCond
set_option linter.all false
namespace Go.Proofs.Ytafioeehabcnhaa
open Go.Ev Go.ChangeShapes Go.WideShapes Go.ChangeAt Go.RowKit

theorem own : ownKnob Try.prog.godebug = none := by kernel_rfl
theorem laidOut : laidOutB Try.prog = true := by kernel_rfl
theorem awake_ok : aX 0 N.dK [] [] = some (B true, []) := uS (n := 400) (by kernel_rfl)
theorem params_are : Try.f4.params.toList = [22] := by kernel_rfl

set_option maxRecDepth 100000 in
theorem law_eval : ∀ xs : List T, uO Try.prog 40 Try.f4.params.toList xs → gY Lib.fs 0 N.bG (xs.map .t) [] = some (.t (.bool true), []) := by
  intro xs h
  rw [params_are] at h
  obtain ⟨x0, rfl, h0⟩ := R3 h
  obtain ⟨l, rfl, -, -⟩ := Cc (n := 38) (e := 3) (by kernel_rfl) (by kernel_rfl) h0
  exact BT awake_ok l

theorem calls_ok : ∀ n, fK Try.prog (cC Lib.fs n) := FI (rs := real) (fs := tab) (fun f => rfl) Pz PA Ju (by kernel_rfl) DH

set_option maxRecDepth 100000 in
theorem lifted (os : Os) (started : os.Started) (H : Type) (enc : TypeId × Value → H) :
    ReturnsInHanded {} Try.checked os 4 .any (Rows.truthLooksSpec.pre6 enc Try.prog Try.f4 Rows.truthLooksRow.domain false) (Rows.truthLooksSpec.post enc Try.prog Try.f4 false true false false) := by
  refine returnsInHanded_of_change (C := Try.checked) own started (by kernel_rfl) Try.func4
    (ChangeSpec.witness6 (enc := enc) (C := Try.checked) false ⟨#[], #[.slice none 0 0], []⟩ 8 (by kernel_rfl) (by kernel_rfl) (by kernel_rfl) (by kernel_rfl)) ?_
  intro W base args ds gs before hval hW _ _
  exact zf calls_ok (N := N.bG) (by kernel_rfl) laidOut (n := 40) (by kernel_rfl) (tb := 4) (by kernel_rfl) (by kernel_rfl) rfl
    (fun H ds hl => by
      match ds, hl with
      | [d0], _ => rfl) law_eval W base args ds gs before hval hW

set_option maxRecDepth 100000 in
theorem over : Rows.truthLooksRow.holds Try.pinned (OpenSpec.ofChange Rows.truthLooksSpec) :=
  OpenClaim.holds_of_wide 4 Try.f4 rfl rfl rfl rfl rfl rfl rfl ⟨rfl, rfl, rfl, rfl, rfl⟩ rfl rfl rfl rfl rfl (by kernel_rfl) Try.func4 (by kernel_rfl)
    (of_decide_eq_true (by kernel_rfl)) (by unfold Func.isWrapper; first | (rw [if_pos (by decide +kernel)]; kernel_rfl) | (rw [if_neg (by decide +kernel)]; exact ⟨rfl, rfl⟩))
    (fun os started H enc _ => lifted os started H enc)

theorem proved : Rows.TruthLooksSaid := over
end Go.Proofs.Ytafioeehabcnhaa
