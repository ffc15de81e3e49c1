/- The statement PlayStarts holds of the program for every input. Conditions: none. -/
import Derived.Test.YtjjghpgeifjojaaGreatRows
import Derived.Test.YtjjghpgeifjojaaGreatC
import Derived.Test.YtjjghpgeifjojaaGreatA
import Derived.ProofKit
import Derived.JoinedCond
set_option linter.all false
namespace Go.Proofs.YtjjghpgeifjojaaGreat
open Go.Ev Go.ChangeShapes Go.WideShapes Go.ChangeAt Go.RowKit

theorem own : ownKnob Tryz.prog.godebug = none := by kernel_rfl
theorem params_are : Tryz.f3.params.toList = [22, 3] := by kernel_rfl

set_option maxRecDepth 100000 in
theorem law_eval : ∀ xs : List T, Ja Tryz.prog 40 Tryz.f3.params.toList xs → oY Lib.fs 0 N.bn (xs.map .t) [] = some (.t (.bool true), []) := by
  intro xs h
  rw [params_are] at h
  obtain ⟨x0, x1, rfl, h0, h1⟩ := agV h
  obtain ⟨t, rfl, -, -⟩ := QX (n := 38) (e := 3) (by kernel_rfl) (by kernel_rfl) h0
  obtain ⟨r, rfl, -⟩ := N6 (n := 39) (by kernel_rfl) h1
  exact QE awake_ok t r

theorem calls_ok : ∀ n, mu Tryz.prog (eT Lib.fs n) := UL (rs := real) (fs := tab) (fun f => rfl) aej aek Yj (by kernel_rfl) SR

set_option maxRecDepth 100000 in
theorem lifted (os : Os) (started : os.Started) (H : Type) (enc : TypeId × Value → H) :
    ReturnsInHanded {} Tryz.checked os 3 .any (Rows.playStartsSpec.pre6 enc Tryz.prog Tryz.f3 Rows.playStartsRow.domain false) (Rows.playStartsSpec.post enc Tryz.prog Tryz.f3 false true false false) := by
  refine returnsInHanded_of_change (C := Tryz.checked) own started (by kernel_rfl) Tryz.func3
    (ChangeSpec.witness6 (enc := enc) (C := Tryz.checked) false ⟨#[], #[.slice none 0 0, .int .i64 0], []⟩ 8 (by kernel_rfl) (by kernel_rfl) (by kernel_rfl) (by kernel_rfl)) ?_
  intro W base args ds gs before hval hW _ _
  exact N5 calls_ok (N := N.bn) (by kernel_rfl) laidOut (n := 40) (by kernel_rfl) (tb := 4) (by kernel_rfl) (by kernel_rfl) rfl
    (fun H ds hl => by
      match ds, hl with
      | [d0, d1], _ => rfl) law_eval W base args ds gs before hval hW

set_option maxRecDepth 100000 in
theorem over : Rows.playStartsRow.holds Tryz.pinned (OpenSpec.ofChange Rows.playStartsSpec) :=
  OpenClaim.holds_of_wide 3 Tryz.f3 rfl rfl rfl rfl rfl rfl rfl ⟨rfl, rfl, rfl, rfl, rfl⟩ rfl rfl rfl rfl rfl cellFunc Tryz.func3 cells
    (of_decide_eq_true (by kernel_rfl)) (by unfold Func.isWrapper; first | (rw [if_pos (by decide +kernel)]; kernel_rfl) | (rw [if_neg (by decide +kernel)]; exact ⟨rfl, rfl⟩))
    (fun os started H enc _ => lifted os started H enc)

theorem proved : Rows.PlayStartsSaid := over
end Go.Proofs.YtjjghpgeifjojaaGreat
