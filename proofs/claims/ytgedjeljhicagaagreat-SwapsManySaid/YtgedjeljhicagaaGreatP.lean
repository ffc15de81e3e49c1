/- The statement SwapsMany holds of the program for every input. Conditions: none. -/
import Derived.Test.YtgedjeljhicagaaGreatRows
import Derived.Test.YtgedjeljhicagaaGreatS
import Derived.ProofKit
import Derived.JoinedCond
set_option linter.all false
namespace Go.Proofs.YtgedjeljhicagaaGreat
open Go.Ev Go.ChangeShapes Go.WideShapes Go.ChangeAt Go.RowKit

theorem own : ownKnob Tryz.prog.godebug = none := by kernel_rfl
theorem laidOut : laidOutB Tryz.prog = true := by kernel_rfl
theorem awake_ok : aS 0 N.fB [] [] = some (B true, []) := A2 (n := 400) (by kernel_rfl)
theorem params_are : Tryz.f4.params.toList = [22] := by kernel_rfl

set_option maxRecDepth 100000 in
theorem law_eval : ∀ xs : List T, AY Tryz.prog 40 Tryz.f4.params.toList xs → kE Lib.fs 0 N.cO (xs.map .t) [] = some (.t (.bool true), []) := by
  intro xs h
  rw [params_are] at h
  obtain ⟨x0, rfl, h0⟩ := Wd h
  obtain ⟨l, rfl, -, -⟩ := HM (n := 38) (e := 3) (by kernel_rfl) (by kernel_rfl) h0
  exact Ji awake_ok l

theorem calls_ok : ∀ n, ji Tryz.prog (du Lib.fs n) := K5 (rs := real) (fs := tab) (fun f => rfl) TK TL Of (by kernel_rfl) Jp

set_option maxRecDepth 100000 in
theorem lifted (os : Os) (started : os.Started) (H : Type) (enc : TypeId × Value → H) :
    ReturnsInHanded {} Tryz.checked os 4 .any (Rows.swapsManySpec.pre6 enc Tryz.prog Tryz.f4 Rows.swapsManyRow.domain false) (Rows.swapsManySpec.post enc Tryz.prog Tryz.f4 false true false false) := by
  refine returnsInHanded_of_change (C := Tryz.checked) own started (by kernel_rfl) Tryz.func4
    (ChangeSpec.witness6 (enc := enc) (C := Tryz.checked) false ⟨#[], #[.slice none 0 0], []⟩ 8 (by kernel_rfl) (by kernel_rfl) (by kernel_rfl) (by kernel_rfl)) ?_
  intro W base args ds gs before hval hW _ _
  exact Ff calls_ok (N := N.cO) (by kernel_rfl) laidOut (n := 40) (by kernel_rfl) (tb := 4) (by kernel_rfl) (by kernel_rfl) rfl
    (fun H ds hl => by
      match ds, hl with
      | [d0], _ => rfl) law_eval W base args ds gs before hval hW

set_option maxRecDepth 100000 in
theorem over : Rows.swapsManyRow.holds Tryz.pinned (OpenSpec.ofChange Rows.swapsManySpec) :=
  OpenClaim.holds_of_wide 4 Tryz.f4 rfl rfl rfl rfl rfl rfl rfl ⟨rfl, rfl, rfl, rfl, rfl⟩ rfl rfl rfl rfl rfl (by kernel_rfl) Tryz.func4 (by kernel_rfl)
    (of_decide_eq_true (by kernel_rfl)) (by unfold Func.isWrapper; first | (rw [if_pos (by decide +kernel)]; kernel_rfl) | (rw [if_neg (by decide +kernel)]; exact ⟨rfl, rfl⟩))
    (fun os started H enc _ => lifted os started H enc)

theorem proved : Rows.SwapsManySaid := over
end Go.Proofs.YtgedjeljhicagaaGreat
