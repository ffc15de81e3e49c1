/- The statement AreaSeals holds of the program for every input. Conditions: none. -/
import Derived.Test.YtljlbkjecjloaaaGreatRows
import Derived.Test.YtljlbkjecjloaaaGreatS
import Derived.ProofKit
import Derived.JoinedCond
set_option linter.all false
namespace Go.Proofs.YtljlbkjecjloaaaGreat
open Go.Ev Go.ChangeShapes Go.WideShapes Go.ChangeAt Go.RowKit

theorem own : ownKnob Tryz.prog.godebug = none := by kernel_rfl
theorem laidOut : laidOutB Tryz.prog = true := by kernel_rfl
theorem awake_ok : aO 0 N.fX [] [] = some (B true, []) := DV (n := 400) (by kernel_rfl)
theorem params_are : Tryz.f7.params.toList = [22] := by kernel_rfl

set_option maxRecDepth 100000 in
theorem law_eval : ∀ xs : List T, DR Tryz.prog 40 Tryz.f7.params.toList xs → nI Lib.fs 0 N.b5 (xs.map .t) [] = some (.t (.bool true), []) := by
  intro xs h
  rw [params_are] at h
  obtain ⟨x0, rfl, h0⟩ := Z8 h
  obtain ⟨l, rfl, -, -⟩ := LD (n := 38) (e := 3) (by kernel_rfl) (by kernel_rfl) h0
  exact Ni awake_ok l

theorem calls_ok : ∀ n, lQ Tryz.prog (dU Lib.fs n) := Pk (rs := real) (fs := tab) (fun f => rfl) XL Sl (by kernel_rfl) Nq

set_option maxRecDepth 100000 in
theorem lifted (os : Os) (started : os.Started) (H : Type) (enc : TypeId × Value → H) :
    ReturnsInHanded {} Tryz.checked os 7 .any (Rows.areaSealsSpec.pre6 enc Tryz.prog Tryz.f7 Rows.areaSealsRow.domain false) (Rows.areaSealsSpec.post enc Tryz.prog Tryz.f7 false true false false) := by
  refine returnsInHanded_of_change (C := Tryz.checked) own started (by kernel_rfl) Tryz.func7
    (ChangeSpec.witness6 (enc := enc) (C := Tryz.checked) false ⟨#[], #[.slice none 0 0], []⟩ 8 (by kernel_rfl) (by kernel_rfl) (by kernel_rfl) (by kernel_rfl)) ?_
  intro W base args ds gs before hval hW _ _
  exact IM calls_ok (N := N.b5) (by kernel_rfl) laidOut (n := 40) (by kernel_rfl) (tb := 4) (by kernel_rfl) (by kernel_rfl) rfl
    (fun H ds hl => by
      match ds, hl with
      | [d0], _ => rfl) law_eval W base args ds gs before hval hW

set_option maxRecDepth 100000 in
theorem over : Rows.areaSealsRow.holds Tryz.pinned (OpenSpec.ofChange Rows.areaSealsSpec) :=
  OpenClaim.holds_of_wide 7 Tryz.f7 rfl rfl rfl rfl rfl rfl rfl ⟨rfl, rfl, rfl, rfl, rfl⟩ rfl rfl rfl rfl rfl (by kernel_rfl) Tryz.func7 (by kernel_rfl)
    (of_decide_eq_true (by kernel_rfl)) (by unfold Func.isWrapper; first | (rw [if_pos (by decide +kernel)]; kernel_rfl) | (rw [if_neg (by decide +kernel)]; exact ⟨rfl, rfl⟩))
    (fun os started H enc _ => lifted os started H enc)

theorem proved : Rows.AreaSealsSaid := over
end Go.Proofs.YtljlbkjecjloaaaGreat
