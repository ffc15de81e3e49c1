/- The statement AcceptanceMade holds of the program for every input. Conditions: none. -/
import Derived.Test.YtifghciaddehaaaGreatRows
import Derived.Test.YtifghciaddehaaaGreatS
import Derived.ProofKit
import Derived.JoinedCond
set_option linter.all false
namespace Go.Proofs.YtifghciaddehaaaGreat
open Go.Ev Go.ChangeShapes Go.WideShapes Go.ChangeAt Go.RowKit

theorem own : ownKnob Tryz.prog.godebug = none := by kernel_rfl
theorem laidOut : laidOutB Tryz.prog = true := by kernel_rfl
theorem awake_ok : aD 0 N.iZ [] [] = some (B true, []) := JD (n := 400) (by kernel_rfl)
theorem params_are : Tryz.f5.params.toList = [22] := by kernel_rfl

set_option maxRecDepth 100000 in
theorem law_eval : ∀ xs : List T, Jz Tryz.prog 40 Tryz.f5.params.toList xs → pz Lib.fs 0 N.bW (xs.map .t) [] = some (.t (.bool true), []) := by
  intro xs h
  rw [params_are] at h
  obtain ⟨x0, rfl, h0⟩ := ah7 h
  obtain ⟨l, rfl, -, -⟩ := To (n := 38) (e := 3) (by kernel_rfl) (by kernel_rfl) h0
  exact Mx awake_ok l

theorem calls_ok : ∀ n, my Tryz.prog (fq Lib.fs n) := XC (rs := real) (fs := tab) (fun f => rfl) agb agc aa0 (by kernel_rfl) VB

set_option maxRecDepth 100000 in
theorem lifted (os : Os) (started : os.Started) (H : Type) (enc : TypeId × Value → H) :
    ReturnsInHanded {} Tryz.checked os 5 .any (Rows.acceptanceMadeSpec.pre6 enc Tryz.prog Tryz.f5 Rows.acceptanceMadeRow.domain false) (Rows.acceptanceMadeSpec.post enc Tryz.prog Tryz.f5 false true false false) := by
  refine returnsInHanded_of_change (C := Tryz.checked) own started (by kernel_rfl) Tryz.func5
    (ChangeSpec.witness6 (enc := enc) (C := Tryz.checked) false ⟨#[], #[.slice none 0 0], []⟩ 8 (by kernel_rfl) (by kernel_rfl) (by kernel_rfl) (by kernel_rfl)) ?_
  intro W base args ds gs before hval hW _ _
  exact Pq calls_ok (N := N.bW) (by kernel_rfl) laidOut (n := 40) (by kernel_rfl) (tb := 4) (by kernel_rfl) (by kernel_rfl) rfl
    (fun H ds hl => by
      match ds, hl with
      | [d0], _ => rfl) law_eval W base args ds gs before hval hW

set_option maxRecDepth 100000 in
theorem over : Rows.acceptanceMadeRow.holds Tryz.pinned (OpenSpec.ofChange Rows.acceptanceMadeSpec) :=
  OpenClaim.holds_of_wide 5 Tryz.f5 rfl rfl rfl rfl rfl rfl rfl ⟨rfl, rfl, rfl, rfl, rfl⟩ rfl rfl rfl rfl rfl (by kernel_rfl) Tryz.func5 (by kernel_rfl)
    (of_decide_eq_true (by kernel_rfl)) (by unfold Func.isWrapper; first | (rw [if_pos (by decide +kernel)]; kernel_rfl) | (rw [if_neg (by decide +kernel)]; exact ⟨rfl, rfl⟩))
    (fun os started H enc _ => lifted os started H enc)

theorem proved : Rows.AcceptanceMadeSaid := over
end Go.Proofs.YtifghciaddehaaaGreat
