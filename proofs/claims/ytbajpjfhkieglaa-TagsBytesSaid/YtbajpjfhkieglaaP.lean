/- The statement TagsBytes holds of the program for every input. Conditions: none. -/
import Derived.Test.YtbajpjfhkieglaaRows
import Derived.Test.YtbajpjfhkieglaaS
import Derived.ProofKit
import Derived.JoinedCond
set_option linter.all false
namespace Go.Proofs.Ytbajpjfhkieglaa
open Go.Ev Go.ChangeShapes Go.WideShapes Go.ChangeAt Go.RowKit

theorem own : ownKnob Try.prog.godebug = none := by kernel_rfl
theorem laidOut : laidOutB Try.prog = true := by kernel_rfl
theorem awake_ok : cY 0 N.bo [] [] = some (B true, []) := m7 (n := 400) (by kernel_rfl)
theorem params_are : Try.f7.params.toList = [22, 22] := by kernel_rfl

set_option maxRecDepth 100000 in
theorem law_eval : ∀ xs : List T, mZ Try.prog 40 Try.f7.params.toList xs → dk Lib.fs 0 N.aF (xs.map .t) [] = some (.t (.bool true), []) := by
  intro xs h
  rw [params_are] at h
  obtain ⟨x0, x1, rfl, h0, h1⟩ := Ji h
  obtain ⟨t, rfl, -, -⟩ := th (n := 38) (e := 3) (by kernel_rfl) (by kernel_rfl) h0
  obtain ⟨r, rfl, -, -⟩ := th (n := 38) (e := 3) (by kernel_rfl) (by kernel_rfl) h1
  exact uJ awake_ok t r

theorem calls_ok : ∀ n, cj Try.prog (aN Lib.fs n) := w6 (rs := real) (fs := tab) (fun f => rfl) Gw Gx Gy (by kernel_rfl) uL

set_option maxRecDepth 100000 in
theorem lifted (os : Os) (started : os.Started) (H : Type) (enc : TypeId × Value → H) :
    ReturnsInHanded {} Try.checked os 7 .any (Rows.tagsBytesSpec.pre6 enc Try.prog Try.f7 Rows.tagsBytesRow.domain false) (Rows.tagsBytesSpec.post enc Try.prog Try.f7 false true false false) := by
  refine returnsInHanded_of_change (C := Try.checked) own started (by kernel_rfl) Try.func7
    (ChangeSpec.witness6 (enc := enc) (C := Try.checked) false ⟨#[], #[.slice none 0 0, .slice none 0 0], []⟩ 8 (by kernel_rfl) (by kernel_rfl) (by kernel_rfl) (by kernel_rfl)) ?_
  intro W base args ds gs before hval hW _ _
  exact qF calls_ok (N := N.aF) (by kernel_rfl) laidOut (n := 40) (by kernel_rfl) (tb := 4) (by kernel_rfl) (by kernel_rfl) rfl
    (fun H ds hl => by
      match ds, hl with
      | [d0, d1], _ => rfl) law_eval W base args ds gs before hval hW

set_option maxRecDepth 100000 in
theorem over : Rows.tagsBytesRow.holds Try.pinned (OpenSpec.ofChange Rows.tagsBytesSpec) :=
  OpenClaim.holds_of_wide 7 Try.f7 rfl rfl rfl rfl rfl rfl rfl ⟨rfl, rfl, rfl, rfl, rfl⟩ rfl rfl rfl rfl rfl (by kernel_rfl) Try.func7 (by kernel_rfl)
    (of_decide_eq_true (by kernel_rfl)) (by unfold Func.isWrapper; first | (rw [if_pos (by decide +kernel)]; kernel_rfl) | (rw [if_neg (by decide +kernel)]; exact ⟨rfl, rfl⟩))
    (fun os started H enc _ => lifted os started H enc)

theorem proved : Rows.TagsBytesSaid := over
end Go.Proofs.Ytbajpjfhkieglaa
