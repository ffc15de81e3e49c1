/- The statement SwapsAlone holds of the program for every input. Conditions: none. -/
import Derived.Test.YtgedjeljhicagaaGreatRows
import Derived.Test.YtgedjeljhicagaaGreatS
import Derived.ProofKit
import Derived.JoinedCond
set_option linter.all false
namespace Go.Proofs.YtgedjeljhicagaaGreat
open Go.Ev Go.ChangeShapes Go.WideShapes Go.ChangeAt Go.RowKit

theorem own : ownKnob Tryz.prog.godebug = none := by kernel_rfl
theorem laidOut : laidOutB Tryz.prog = true := by kernel_rfl
theorem awake_ok : CALL 0 N.law26_awake [] [] = some (B true, []) := runsTrue_ok (n := 400) (by kernel_rfl)
theorem params_are : Tryz.f6.params.toList = [22] := by kernel_rfl

set_option maxRecDepth 100000 in
theorem law_eval : ∀ xs : List T, okAll Tryz.prog 40 Tryz.f6.params.toList xs → callL Lib.fs 0 N.law26_SwapsAlone (xs.map .t) [] = some (.t (.bool true), []) := by
  intro xs h
  rw [params_are] at h
  obtain ⟨x0, rfl, h0⟩ := okAll_1 h
  obtain ⟨l, rfl, -, -⟩ := okT_ints (n := 38) (e := 3) (by kernel_rfl) (by kernel_rfl) h0
  exact SwapsAlone_law awake_ok l

theorem calls_ok : ∀ n, CallOK Tryz.prog (evCall Lib.fs n) := tab_okP (rs := real) (fs := tab) (fun f => rfl) all_ok prims (by kernel_rfl) prims_ok

set_option maxRecDepth 100000 in
theorem lifted (os : Os) (started : os.Started) (H : Type) (enc : TypeId × Value → H) :
    ReturnsInHanded {} Tryz.checked os 6 .any (Rows.swapsAloneSpec.pre6 enc Tryz.prog Tryz.f6 Rows.swapsAloneRow.domain false) (Rows.swapsAloneSpec.post enc Tryz.prog Tryz.f6 false true false false) := by
  refine returnsInHanded_of_change (C := Tryz.checked) own started (by kernel_rfl) Tryz.func6
    (ChangeSpec.witness6 (enc := enc) (C := Tryz.checked) false ⟨#[], #[.slice none 0 0], []⟩ 8 (by kernel_rfl) (by kernel_rfl) (by kernel_rfl) (by kernel_rfl)) ?_
  intro W base args ds gs before hval hW _ _
  exact law_calls calls_ok (N := N.law26_SwapsAlone) (by kernel_rfl) laidOut (n := 40) (by kernel_rfl) (tb := 4) (by kernel_rfl) (by kernel_rfl) rfl
    (fun H ds hl => by
      match ds, hl with
      | [d0], _ => rfl) law_eval W base args ds gs before hval hW

set_option maxRecDepth 100000 in
theorem over : Rows.swapsAloneRow.holds Tryz.pinned (OpenSpec.ofChange Rows.swapsAloneSpec) :=
  OpenClaim.holds_of_wide 6 Tryz.f6 rfl rfl rfl rfl rfl rfl rfl ⟨rfl, rfl, rfl, rfl, rfl⟩ rfl rfl rfl rfl rfl (by kernel_rfl) Tryz.func6 (by kernel_rfl)
    (of_decide_eq_true (by kernel_rfl)) (by unfold Func.isWrapper; first | (rw [if_pos (by decide +kernel)]; kernel_rfl) | (rw [if_neg (by decide +kernel)]; exact ⟨rfl, rfl⟩))
    (fun os started H enc _ => lifted os started H enc)

theorem proved : Rows.SwapsAloneSaid := over
end Go.Proofs.YtgedjeljhicagaaGreat
