/- The statement AreaOf holds of the program for every input. Conditions: none. -/
import Derived.Test.YtljlbkjecjloaaaGreatRows
import Derived.Test.YtljlbkjecjloaaaGreatS
import Derived.ProofKit
import Derived.JoinedCond
set_option linter.all false
namespace Go.Proofs.YtljlbkjecjloaaaGreat
open Go.Ev Go.ChangeShapes Go.WideShapes Go.ChangeAt Go.RowKit

theorem own : ownKnob Tryz.prog.godebug = none := by kernel_rfl
theorem laidOut : laidOutB Tryz.prog = true := by kernel_rfl
theorem awake_ok : CALL 0 N.law32_awake [] [] = some (B true, []) := runsTrue_ok (n := 400) (by kernel_rfl)
theorem params_are : Tryz.f3.params.toList = [22, 3] := by kernel_rfl

set_option maxRecDepth 100000 in
theorem law_eval : ∀ xs : List T, okAll Tryz.prog 40 Tryz.f3.params.toList xs → callL Lib.fs 0 N.law32_AreaOf (xs.map .t) [] = some (.t (.bool true), []) := by
  intro xs h
  rw [params_are] at h
  obtain ⟨x0, x1, rfl, h0, h1⟩ := okAll_2 h
  obtain ⟨t, rfl, -, -⟩ := okT_ints (n := 38) (e := 3) (by kernel_rfl) (by kernel_rfl) h0
  obtain ⟨r, rfl, -⟩ := okT_int (n := 39) (by kernel_rfl) h1
  exact AreaOf_law awake_ok t r

theorem calls_ok : ∀ n, CallOK Tryz.prog (evCall Lib.fs n) := tab_okP (rs := real) (fs := tab) (fun f => rfl) all_ok prims (by kernel_rfl) prims_ok

set_option maxRecDepth 100000 in
theorem lifted (os : Os) (started : os.Started) (H : Type) (enc : TypeId × Value → H) :
    ReturnsInHanded {} Tryz.checked os 3 .any (Rows.areaOfSpec.pre6 enc Tryz.prog Tryz.f3 Rows.areaOfRow.domain false) (Rows.areaOfSpec.post enc Tryz.prog Tryz.f3 false true false false) := by
  refine returnsInHanded_of_change (C := Tryz.checked) own started (by kernel_rfl) Tryz.func3
    (ChangeSpec.witness6 (enc := enc) (C := Tryz.checked) false ⟨#[], #[.slice none 0 0, .int .i64 0], []⟩ 8 (by kernel_rfl) (by kernel_rfl) (by kernel_rfl) (by kernel_rfl)) ?_
  intro W base args ds gs before hval hW _ _
  exact law_calls calls_ok (N := N.law32_AreaOf) (by kernel_rfl) laidOut (n := 40) (by kernel_rfl) (tb := 4) (by kernel_rfl) (by kernel_rfl) rfl
    (fun H ds hl => by
      match ds, hl with
      | [d0, d1], _ => rfl) law_eval W base args ds gs before hval hW

set_option maxRecDepth 100000 in
theorem over : Rows.areaOfRow.holds Tryz.pinned (OpenSpec.ofChange Rows.areaOfSpec) :=
  OpenClaim.holds_of_wide 3 Tryz.f3 rfl rfl rfl rfl rfl rfl rfl ⟨rfl, rfl, rfl, rfl, rfl⟩ rfl rfl rfl rfl rfl (by kernel_rfl) Tryz.func3 (by kernel_rfl)
    (of_decide_eq_true (by kernel_rfl)) (by unfold Func.isWrapper; first | (rw [if_pos (by decide +kernel)]; kernel_rfl) | (rw [if_neg (by decide +kernel)]; exact ⟨rfl, rfl⟩))
    (fun os started H enc _ => lifted os started H enc)

theorem proved : Rows.AreaOfSaid := over
end Go.Proofs.YtljlbkjecjloaaaGreat
