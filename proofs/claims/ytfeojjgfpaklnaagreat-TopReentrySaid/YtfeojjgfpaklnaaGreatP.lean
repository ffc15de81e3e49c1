/- The statement TopReentry holds of the program for every input. Conditions: none. -/
import Derived.Test.YtfeojjgfpaklnaaGreatRows
import Derived.Test.YtfeojjgfpaklnaaGreatC
import Derived.Test.YtfeojjgfpaklnaaGreatA
import Derived.ProofKit
import Derived.JoinedCond
set_option linter.all false
namespace Go.Proofs.YtfeojjgfpaklnaaGreat
open Go.Ev Go.ChangeShapes Go.WideShapes Go.ChangeAt Go.RowKit

theorem own : ownKnob Tryz.prog.godebug = none := by kernel_rfl
theorem params_are : Tryz.f3.params.toList = [22, 5] := by kernel_rfl

set_option maxRecDepth 100000 in
theorem law_eval : ∀ xs : List T, Dw Tryz.prog 40 Tryz.f3.params.toList xs → me Lib.fs 0 N.cy (xs.map .t) [] = some (.t (.bool true), []) := by
  intro xs h
  rw [params_are] at h
  obtain ⟨x0, x1, rfl, h0, h1⟩ := aaW h
  obtain ⟨t, rfl, -, -⟩ := KR (n := 38) (e := 3) (by kernel_rfl) (by kernel_rfl) h0
  obtain ⟨w, rfl, w0, w1⟩ := RY (n := 39) (by kernel_rfl) h1
  exact Kz awake_ok t w w0 (by omega)

theorem calls_ok : ∀ n, jW Tryz.prog (dh Lib.fs n) := Ow (rs := real) (fs := tab) (fun f => rfl) Yp Yq R5 (by kernel_rfl) Mo

set_option maxRecDepth 100000 in
theorem lifted (os : Os) (started : os.Started) (H : Type) (enc : TypeId × Value → H) :
    ReturnsInHanded {} Tryz.checked os 3 .any (Rows.topReentrySpec.pre6 enc Tryz.prog Tryz.f3 Rows.topReentryRow.domain false) (Rows.topReentrySpec.post enc Tryz.prog Tryz.f3 false true false false) := by
  refine returnsInHanded_of_change (C := Tryz.checked) own started (by kernel_rfl) Tryz.func3
    (ChangeSpec.witness6 (enc := enc) (C := Tryz.checked) false ⟨#[], #[.slice none 0 0, .int .u8 0], []⟩ 8 (by kernel_rfl) (by kernel_rfl) (by kernel_rfl) (by kernel_rfl)) ?_
  intro W base args ds gs before hval hW _ _
  exact Ip calls_ok (N := N.cy) (by kernel_rfl) laidOut (n := 40) (by kernel_rfl) (tb := 4) (by kernel_rfl) (by kernel_rfl) rfl
    (fun H ds hl => by
      match ds, hl with
      | [d0, d1], _ => rfl) law_eval W base args ds gs before hval hW

set_option maxRecDepth 100000 in
theorem over : Rows.topReentryRow.holds Tryz.pinned (OpenSpec.ofChange Rows.topReentrySpec) :=
  OpenClaim.holds_of_wide 3 Tryz.f3 rfl rfl rfl rfl rfl rfl rfl ⟨rfl, rfl, rfl, rfl, rfl⟩ rfl rfl rfl rfl rfl cellFunc Tryz.func3 cells
    (of_decide_eq_true (by kernel_rfl)) (by unfold Func.isWrapper; first | (rw [if_pos (by decide +kernel)]; kernel_rfl) | (rw [if_neg (by decide +kernel)]; exact ⟨rfl, rfl⟩))
    (fun os started H enc _ => lifted os started H enc)

theorem proved : Rows.TopReentrySaid := over
end Go.Proofs.YtfeojjgfpaklnaaGreat
