/- The statement SwapsMade holds of the program for every input. Conditions: none. -/
import Derived.Test.YtgedjeljhicagaaGreatRows
import Derived.Test.YtgedjeljhicagaaGreatS
import Derived.ProofKit
import Derived.JoinedCond
set_option linter.all false
namespace Go.Proofs.YtgedjeljhicagaaGreat
open Go.Ev Go.ChangeShapes Go.WideShapes Go.ChangeAt Go.RowKit

theorem own : ownKnob Tryz.prog.godebug = none := by kernel_rfl
theorem laidOut : laidOutB Tryz.prog = true := by kernel_rfl
theorem awake_ok : aH 0 N.cA [] [] = some (B true, []) := GK (n := 400) (by kernel_rfl)
theorem params_are : Tryz.f8.params.toList = [22, 63] := by kernel_rfl

set_option maxRecDepth 100000 in
theorem law_eval : ∀ xs : List T, GG Tryz.prog 40 Tryz.f8.params.toList xs → oc Lib.fs 0 N.aB (xs.map .t) [] = some (.t (.bool true), []) := by
  intro xs h
  rw [params_are] at h
  obtain ⟨x0, x1, rfl, h0, h1⟩ := adL h
  obtain ⟨t, rfl, -, -⟩ := OS (n := 38) (e := 3) (by kernel_rfl) (by kernel_rfl) h0
  obtain ⟨n0, n1, n2, rfl⟩ := OT (n := 38) (e := 3) (by kernel_rfl) (by kernel_rfl) (by kernel_rfl) (by kernel_rfl) h1
  exact QI awake_ok t n0 n1 n2

theorem calls_ok : ∀ n, lA Tryz.prog (eu Lib.fs n) := SE (rs := real) (fs := tab) (fun f => rfl) abf abg VM (by kernel_rfl) QP

set_option maxRecDepth 100000 in
theorem lifted (os : Os) (started : os.Started) (H : Type) (enc : TypeId × Value → H) :
    ReturnsInHanded {} Tryz.checked os 8 .any (Rows.swapsMadeSpec.pre6 enc Tryz.prog Tryz.f8 Rows.swapsMadeRow.domain false) (Rows.swapsMadeSpec.post enc Tryz.prog Tryz.f8 false true false false) := by
  refine returnsInHanded_of_change (C := Tryz.checked) own started (by kernel_rfl) Tryz.func8
    (ChangeSpec.witness6 (enc := enc) (C := Tryz.checked) false ⟨#[], #[.slice none 0 0, .agg #[.int .i64 0, .int .i64 0, .int .i64 0]], []⟩ 8 (by kernel_rfl) (by kernel_rfl) (by kernel_rfl) (by kernel_rfl)) ?_
  intro W base args ds gs before hval hW _ _
  exact LH calls_ok (N := N.aB) (by kernel_rfl) laidOut (n := 40) (by kernel_rfl) (tb := 4) (by kernel_rfl) (by kernel_rfl) rfl
    (fun H ds hl => by
      match ds, hl with
      | [d0, d1], _ => rfl) law_eval W base args ds gs before hval hW

set_option maxRecDepth 100000 in
theorem over : Rows.swapsMadeRow.holds Tryz.pinned (OpenSpec.ofChange Rows.swapsMadeSpec) :=
  OpenClaim.holds_of_wide 8 Tryz.f8 rfl rfl rfl rfl rfl rfl rfl ⟨rfl, rfl, rfl, rfl, rfl⟩ rfl rfl rfl rfl rfl (by kernel_rfl) Tryz.func8 (by kernel_rfl)
    (of_decide_eq_true (by kernel_rfl)) (by unfold Func.isWrapper; first | (rw [if_pos (by decide +kernel)]; kernel_rfl) | (rw [if_neg (by decide +kernel)]; exact ⟨rfl, rfl⟩))
    (fun os started H enc _ => lifted os started H enc)

theorem proved : Rows.SwapsMadeSaid := over
end Go.Proofs.YtgedjeljhicagaaGreat
