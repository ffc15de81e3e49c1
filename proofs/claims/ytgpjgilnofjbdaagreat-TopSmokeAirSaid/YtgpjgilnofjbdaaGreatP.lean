/- The statement TopSmokeAir holds of the program for every input. Conditions: none. -/
import Derived.Test.YtgpjgilnofjbdaaGreatRows
import Derived.Test.YtgpjgilnofjbdaaGreatC
import Derived.Test.YtgpjgilnofjbdaaGreatA
import Derived.ProofKit
import Derived.JoinedCond
set_option linter.all false
namespace Go.Proofs.YtgpjgilnofjbdaaGreat
open Go.Ev Go.ChangeShapes Go.WideShapes Go.ChangeAt Go.RowKit

theorem own : ownKnob Tryz.prog.godebug = none := by kernel_rfl
theorem params_are : Tryz.f3.params.toList = [22, 5] := by kernel_rfl

set_option maxRecDepth 100000 in
theorem law_eval : ∀ xs : List T, KI Tryz.prog 40 Tryz.f3.params.toList xs → rq Lib.fs 0 N.dA (xs.map .t) [] = some (.t (.bool true), []) := by
  intro xs h
  rw [params_are] at h
  obtain ⟨x0, x1, rfl, h0, h1⟩ := ak9 h
  obtain ⟨t, rfl, -, tb⟩ := abF (n := 38) (e := 5) (by kernel_rfl) (by kernel_rfl) h0
  obtain ⟨w, rfl, w0, w1⟩ := Sy (n := 39) (by kernel_rfl) h1
  exact SB awake_ok t tb w w0 (by omega)

theorem calls_ok : ∀ n, od Tryz.prog (eO Lib.fs n) := XZ (rs := real) (fs := tab) (fun f => rfl) aiw aix abJ (by kernel_rfl) VK

set_option maxRecDepth 100000 in
theorem lifted (os : Os) (started : os.Started) (H : Type) (enc : TypeId × Value → H) :
    ReturnsInHanded {} Tryz.checked os 3 .any (Rows.topSmokeAirSpec.pre6 enc Tryz.prog Tryz.f3 Rows.topSmokeAirRow.domain false) (Rows.topSmokeAirSpec.post enc Tryz.prog Tryz.f3 false true false false) := by
  refine returnsInHanded_of_change (C := Tryz.checked) own started (by kernel_rfl) Tryz.func3
    (ChangeSpec.witness6 (enc := enc) (C := Tryz.checked) false ⟨#[], #[.slice none 0 0, .int .u8 0], []⟩ 8 (by kernel_rfl) (by kernel_rfl) (by kernel_rfl) (by kernel_rfl)) ?_
  intro W base args ds gs before hval hW _ _
  exact Ql calls_ok (N := N.dA) (by kernel_rfl) laidOut (n := 40) (by kernel_rfl) (tb := 4) (by kernel_rfl) (by kernel_rfl) rfl
    (fun H ds hl => by
      match ds, hl with
      | [d0, d1], _ => rfl) law_eval W base args ds gs before hval hW

set_option maxRecDepth 100000 in
theorem over : Rows.topSmokeAirRow.holds Tryz.pinned (OpenSpec.ofChange Rows.topSmokeAirSpec) :=
  OpenClaim.holds_of_wide 3 Tryz.f3 rfl rfl rfl rfl rfl rfl rfl ⟨rfl, rfl, rfl, rfl, rfl⟩ rfl rfl rfl rfl rfl cellFunc Tryz.func3 cells
    (of_decide_eq_true (by kernel_rfl)) (by unfold Func.isWrapper; first | (rw [if_pos (by decide +kernel)]; kernel_rfl) | (rw [if_neg (by decide +kernel)]; exact ⟨rfl, rfl⟩))
    (fun os started H enc _ => lifted os started H enc)

theorem proved : Rows.TopSmokeAirSaid := over
end Go.Proofs.YtgpjgilnofjbdaaGreat
