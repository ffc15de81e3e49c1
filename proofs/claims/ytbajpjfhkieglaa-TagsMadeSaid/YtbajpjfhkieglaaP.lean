/- The statement TagsMade holds of the program for every input. Conditions: none. -/
import Derived.Test.YtbajpjfhkieglaaRows
import Derived.Test.YtbajpjfhkieglaaS
import Derived.ProofKit
import Derived.JoinedCond
set_option linter.all false
namespace Go.Proofs.Ytbajpjfhkieglaa
open Go.Ev Go.ChangeShapes Go.WideShapes Go.ChangeAt Go.RowKit

theorem own : ownKnob Try.prog.godebug = none := by kernel_rfl
theorem laidOut : laidOutB Try.prog = true := by kernel_rfl
theorem awake_ok : bW 0 N.bG [] [] = some (B true, []) := oG (n := 400) (by kernel_rfl)
theorem params_are : Try.f4.params.toList = [22, 3, 3] := by kernel_rfl

set_option maxRecDepth 100000 in
theorem law_eval : ∀ xs : List T, oC Try.prog 40 Try.f4.params.toList xs → dL Lib.fs 0 N.ay (xs.map .t) [] = some (.t (.bool true), []) := by
  intro xs h
  rw [params_are] at h
  obtain ⟨x0, x1, x2, rfl, h0, h1, h2⟩ := Kt h
  obtain ⟨t, rfl, -, -⟩ := uU (n := 38) (e := 3) (by kernel_rfl) (by kernel_rfl) h0
  obtain ⟨a, rfl, -⟩ := so (n := 39) (by kernel_rfl) h1
  obtain ⟨b, rfl, -⟩ := so (n := 39) (by kernel_rfl) h2
  exact xV awake_ok t a b

theorem calls_ok : ∀ n, cH Try.prog (aR Lib.fs n) := yo (rs := real) (fs := tab) (fun f => rfl) HL HM HN (by kernel_rfl) wx

set_option maxRecDepth 100000 in
theorem lifted (os : Os) (started : os.Started) (H : Type) (enc : TypeId × Value → H) :
    ReturnsInHanded {} Try.checked os 4 .any (Rows.tagsMadeSpec.pre6 enc Try.prog Try.f4 Rows.tagsMadeRow.domain false) (Rows.tagsMadeSpec.post enc Try.prog Try.f4 false true false false) := by
  refine returnsInHanded_of_change (C := Try.checked) own started (by kernel_rfl) Try.func4
    (ChangeSpec.witness6 (enc := enc) (C := Try.checked) false ⟨#[], #[.slice none 0 0, .int .i64 0, .int .i64 0], []⟩ 8 (by kernel_rfl) (by kernel_rfl) (by kernel_rfl) (by kernel_rfl)) ?_
  intro W base args ds gs before hval hW _ _
  exact sn calls_ok (N := N.ay) (by kernel_rfl) laidOut (n := 40) (by kernel_rfl) (tb := 4) (by kernel_rfl) (by kernel_rfl) rfl
    (fun H ds hl => by
      match ds, hl with
      | [d0, d1, d2], _ => rfl) law_eval W base args ds gs before hval hW

set_option maxRecDepth 100000 in
theorem over : Rows.tagsMadeRow.holds Try.pinned (OpenSpec.ofChange Rows.tagsMadeSpec) :=
  OpenClaim.holds_of_wide 4 Try.f4 rfl rfl rfl rfl rfl rfl rfl ⟨rfl, rfl, rfl, rfl, rfl⟩ rfl rfl rfl rfl rfl (by kernel_rfl) Try.func4 (by kernel_rfl)
    (of_decide_eq_true (by kernel_rfl)) (by unfold Func.isWrapper; first | (rw [if_pos (by decide +kernel)]; kernel_rfl) | (rw [if_neg (by decide +kernel)]; exact ⟨rfl, rfl⟩))
    (fun os started H enc _ => lifted os started H enc)

theorem proved : Rows.TagsMadeSaid := over
end Go.Proofs.Ytbajpjfhkieglaa
