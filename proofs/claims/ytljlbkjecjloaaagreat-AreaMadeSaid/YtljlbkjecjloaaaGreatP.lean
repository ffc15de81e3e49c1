/- The statement AreaMade holds of the program for every input. Conditions: none. -/
import Derived.Test.YtljlbkjecjloaaaGreatRows
import Derived.Test.YtljlbkjecjloaaaGreatS
import Derived.ProofKit
import Derived.JoinedCond
set_option linter.all false
namespace Go.Proofs.YtljlbkjecjloaaaGreat
open Go.Ev Go.ChangeShapes Go.WideShapes Go.ChangeAt Go.RowKit

theorem own : ownKnob Tryz.prog.godebug = none := by kernel_rfl
theorem laidOut : laidOutB Tryz.prog = true := by kernel_rfl
theorem awake_ok : aE 0 N.gv [] [] = some (B true, []) := HH (n := 400) (by kernel_rfl)
theorem params_are : Tryz.f6.params.toList = [22] := by kernel_rfl

set_option maxRecDepth 100000 in
theorem law_eval : ∀ xs : List T, HD Tryz.prog 40 Tryz.f6.params.toList xs → ot Lib.fs 0 N.bV (xs.map .t) [] = some (.t (.bool true), []) := by
  intro xs h
  rw [params_are] at h
  obtain ⟨x0, rfl, h0⟩ := ae0 h
  obtain ⟨l, rfl, -, -⟩ := Qr (n := 38) (e := 3) (by kernel_rfl) (by kernel_rfl) h0
  exact TS awake_ok l

theorem calls_ok : ∀ n, ly Tryz.prog (ed Lib.fs n) := Uj (rs := real) (fs := tab) (fun f => rfl) acW acX XN (by kernel_rfl) Sm

set_option maxRecDepth 100000 in
theorem lifted (os : Os) (started : os.Started) (H : Type) (enc : TypeId × Value → H) :
    ReturnsInHanded {} Tryz.checked os 6 .any (Rows.areaMadeSpec.pre6 enc Tryz.prog Tryz.f6 Rows.areaMadeRow.domain false) (Rows.areaMadeSpec.post enc Tryz.prog Tryz.f6 false true false false) := by
  refine returnsInHanded_of_change (C := Tryz.checked) own started (by kernel_rfl) Tryz.func6
    (ChangeSpec.witness6 (enc := enc) (C := Tryz.checked) false ⟨#[], #[.slice none 0 0], []⟩ 8 (by kernel_rfl) (by kernel_rfl) (by kernel_rfl) (by kernel_rfl)) ?_
  intro W base args ds gs before hval hW _ _
  exact M6 calls_ok (N := N.bV) (by kernel_rfl) laidOut (n := 40) (by kernel_rfl) (tb := 4) (by kernel_rfl) (by kernel_rfl) rfl
    (fun H ds hl => by
      match ds, hl with
      | [d0], _ => rfl) law_eval W base args ds gs before hval hW

set_option maxRecDepth 100000 in
theorem over : Rows.areaMadeRow.holds Tryz.pinned (OpenSpec.ofChange Rows.areaMadeSpec) :=
  OpenClaim.holds_of_wide 6 Tryz.f6 rfl rfl rfl rfl rfl rfl rfl ⟨rfl, rfl, rfl, rfl, rfl⟩ rfl rfl rfl rfl rfl (by kernel_rfl) Tryz.func6 (by kernel_rfl)
    (of_decide_eq_true (by kernel_rfl)) (by unfold Func.isWrapper; first | (rw [if_pos (by decide +kernel)]; kernel_rfl) | (rw [if_neg (by decide +kernel)]; exact ⟨rfl, rfl⟩))
    (fun os started H enc _ => lifted os started H enc)

theorem proved : Rows.AreaMadeSaid := over
end Go.Proofs.YtljlbkjecjloaaaGreat
