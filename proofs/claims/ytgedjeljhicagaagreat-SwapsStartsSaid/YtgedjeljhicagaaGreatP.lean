/- The statement SwapsStarts holds of the program for every input. Conditions: none. -/
import Derived.Test.YtgedjeljhicagaaGreatRows
import Derived.Test.YtgedjeljhicagaaGreatS
import Derived.ProofKit
import Derived.JoinedCond
set_option linter.all false
namespace Go.Proofs.YtgedjeljhicagaaGreat
open Go.Ev Go.ChangeShapes Go.WideShapes Go.ChangeAt Go.RowKit

theorem own : ownKnob Tryz.prog.godebug = none := by kernel_rfl
theorem laidOut : laidOutB Tryz.prog = true := by kernel_rfl
theorem awake_ok : CALL 0 N.law26_awake [] [] = some (B true, []) := runsTrue_ok (n := 400) (by kernel_rfl)
theorem params_are : Tryz.f3.params.toList = [22, 23, 3] := by kernel_rfl

set_option maxRecDepth 100000 in
theorem law_eval : ∀ xs : List T, okAll Tryz.prog 40 Tryz.f3.params.toList xs → callL Lib.fs 0 N.law26_SwapsStarts (xs.map .t) [] = some (.t (.bool true), []) := by
  intro xs h
  rw [params_are] at h
  obtain ⟨x0, x1, x2, rfl, h0, h1, h2⟩ := okAll_3 h
  obtain ⟨t, rfl, -, -⟩ := okT_ints (n := 38) (e := 3) (by kernel_rfl) (by kernel_rfl) h0
  obtain ⟨l, rfl, -, -⟩ := okT_slice (n := 39) (e := 22) (by kernel_rfl) tL (fun _ => True) (fun x hx => by
    obtain ⟨a, rfl, -, -⟩ := okT_ints (n := 37) (e := 3) (by kernel_rfl) (by kernel_rfl) hx
    exact ⟨a, rfl, trivial⟩) h1
  obtain ⟨r, rfl, -⟩ := okT_int (n := 39) (by kernel_rfl) h2
  exact SwapsStarts_law awake_ok t l r

theorem calls_ok : ∀ n, CallOK Tryz.prog (evCall Lib.fs n) := tab_okP (rs := real) (fs := tab) (fun f => rfl) all_ok prims (by kernel_rfl) prims_ok

set_option maxRecDepth 100000 in
theorem lifted (os : Os) (started : os.Started) (H : Type) (enc : TypeId × Value → H) :
    ReturnsInHanded {} Tryz.checked os 3 .any (Rows.swapsStartsSpec.pre6 enc Tryz.prog Tryz.f3 Rows.swapsStartsRow.domain false) (Rows.swapsStartsSpec.post enc Tryz.prog Tryz.f3 false true false false) := by
  refine returnsInHanded_of_change (C := Tryz.checked) own started (by kernel_rfl) Tryz.func3
    (ChangeSpec.witness6 (enc := enc) (C := Tryz.checked) false ⟨#[], #[.slice none 0 0, .slice none 0 0, .int .i64 0], []⟩ 8 (by kernel_rfl) (by kernel_rfl) (by kernel_rfl) (by kernel_rfl)) ?_
  intro W base args ds gs before hval hW _ _
  exact law_calls calls_ok (N := N.law26_SwapsStarts) (by kernel_rfl) laidOut (n := 40) (by kernel_rfl) (tb := 4) (by kernel_rfl) (by kernel_rfl) rfl
    (fun H ds hl => by
      match ds, hl with
      | [d0, d1, d2], _ => rfl) law_eval W base args ds gs before hval hW

set_option maxRecDepth 100000 in
theorem over : Rows.swapsStartsRow.holds Tryz.pinned (OpenSpec.ofChange Rows.swapsStartsSpec) :=
  OpenClaim.holds_of_wide 3 Tryz.f3 rfl rfl rfl rfl rfl rfl rfl ⟨rfl, rfl, rfl, rfl, rfl⟩ rfl rfl rfl rfl rfl (by kernel_rfl) Tryz.func3 (by kernel_rfl)
    (of_decide_eq_true (by kernel_rfl)) (by unfold Func.isWrapper; first | (rw [if_pos (by decide +kernel)]; kernel_rfl) | (rw [if_neg (by decide +kernel)]; exact ⟨rfl, rfl⟩))
    (fun os started H enc _ => lifted os started H enc)

theorem proved : Rows.SwapsStartsSaid := over
end Go.Proofs.YtgedjeljhicagaaGreat
