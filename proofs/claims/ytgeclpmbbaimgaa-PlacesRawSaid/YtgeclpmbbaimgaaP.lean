/- The statement PlacesRaw holds of the program for every input. Conditions: none. -/
import Derived.Test.YtgeclpmbbaimgaaRows
import Derived.Test.YtgeclpmbbaimgaaS
import Derived.ProofKit
import Derived.JoinedCond
set_option linter.all false
namespace Go.Proofs.Ytgeclpmbbaimgaa
open Go.Ev Go.ChangeShapes Go.WideShapes Go.ChangeAt Go.RowKit

theorem own : ownKnob Try.prog.godebug = none := by kernel_rfl
theorem laidOut : laidOutB Try.prog = true := by kernel_rfl
theorem awake_ok : CALL 0 N.law25_awake [] [] = some (B true, []) := runsTrue_ok (n := 400) (by kernel_rfl)
theorem params_are : Try.f8.params.toList = [22, 35, 56] := by kernel_rfl

set_option maxRecDepth 100000 in
theorem law_eval : ∀ xs : List T, okAll Try.prog 40 Try.f8.params.toList xs → callL Lib.fs 0 N.law25_PlacesRaw (xs.map .t) [] = some (.t (.bool true), []) := by
  intro xs h
  rw [params_are] at h
  obtain ⟨x0, x1, x2, rfl, h0, h1, h2⟩ := okAll_3 h
  obtain ⟨t, rfl, -, -⟩ := okT_ints (n := 38) (e := 3) (by kernel_rfl) (by kernel_rfl) h0
  obtain ⟨ys, rfl, yl, yf⟩ := okT_struct (n := 39) (ts := [3, 22]) (by kernel_rfl) h1
  obtain ⟨n0, n1, n2, rfl⟩ := okT_int3 (n := 38) (e := 3) (by kernel_rfl) (by kernel_rfl) (by kernel_rfl) (by kernel_rfl) h2
  match ys, yl, yf with
  | [y0, y1], _, yf =>
    obtain ⟨_, g0, c0⟩ := yf 0 _ rfl
    obtain ⟨_, g1, c1⟩ := yf 1 _ rfl
    cases g0; cases g1
    obtain ⟨time, rfl, -⟩ := okC_i64 (n := 38) (by kernel_rfl) c0
    obtain ⟨frm, rfl, -, -⟩ := okC_ints (n := 37) (e := 3) (by kernel_rfl) (by kernel_rfl) c1
    exact PlacesRaw_law awake_ok t ⟨time, frm⟩ n0 n1 n2

theorem calls_ok : ∀ n, CallOK Try.prog (evCall Lib.fs n) := tab_ok (rs := real) (fs := tab) (fun f => rfl) all_ok

set_option maxRecDepth 100000 in
theorem lifted (os : Os) (started : os.Started) (H : Type) (enc : TypeId × Value → H) :
    ReturnsInHanded {} Try.checked os 8 .any (Rows.placesRawSpec.pre6 enc Try.prog Try.f8 Rows.placesRawRow.domain false) (Rows.placesRawSpec.post enc Try.prog Try.f8 false true false false) := by
  refine returnsInHanded_of_change (C := Try.checked) own started (by kernel_rfl) Try.func8
    (ChangeSpec.witness6 (enc := enc) (C := Try.checked) false ⟨#[], #[.slice none 0 0, .agg #[.int .i64 0, .slice none 0 0], .agg #[.int .i64 0, .int .i64 0, .int .i64 0]], []⟩ 8 (by kernel_rfl) (by kernel_rfl) (by kernel_rfl) (by kernel_rfl)) ?_
  intro W base args ds gs before hval hW _ _
  exact law_calls calls_ok (N := N.law25_PlacesRaw) (by kernel_rfl) laidOut (n := 40) (by kernel_rfl) (tb := 4) (by kernel_rfl) (by kernel_rfl) rfl
    (fun H ds hl => by
      match ds, hl with
      | [d0, d1, d2], _ => rfl) law_eval W base args ds gs before hval hW

set_option maxRecDepth 100000 in
theorem over : Rows.placesRawRow.holds Try.pinned (OpenSpec.ofChange Rows.placesRawSpec) :=
  OpenClaim.holds_of_wide 8 Try.f8 rfl rfl rfl rfl rfl rfl rfl ⟨rfl, rfl, rfl, rfl, rfl⟩ rfl rfl rfl rfl rfl (by kernel_rfl) Try.func8 (by kernel_rfl)
    (of_decide_eq_true (by kernel_rfl)) (by unfold Func.isWrapper; first | (rw [if_pos (by decide +kernel)]; kernel_rfl) | (rw [if_neg (by decide +kernel)]; exact ⟨rfl, rfl⟩))
    (fun os started H enc _ => lifted os started H enc)

theorem proved : Rows.PlacesRawSaid := over
end Go.Proofs.Ytgeclpmbbaimgaa
