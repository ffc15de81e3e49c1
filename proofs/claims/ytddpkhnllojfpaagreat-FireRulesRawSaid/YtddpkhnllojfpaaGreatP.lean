/- The statement FireRulesRaw holds of the program for every input. Conditions: none. -/
import Derived.Test.YtddpkhnllojfpaaGreatRows
import Derived.Test.YtddpkhnllojfpaaGreatS
import Derived.ProofKit
import Derived.JoinedCond
set_option linter.all false
namespace Go.Proofs.YtddpkhnllojfpaaGreat
open Go.Ev Go.ChangeShapes Go.WideShapes Go.ChangeAt Go.RowKit

theorem own : ownKnob Tryz.prog.godebug = none := by kernel_rfl
theorem laidOut : laidOutB Tryz.prog = true := by kernel_rfl
theorem awake_ok : CALL 0 N.law40_awake [] [] = some (B true, []) := runsTrue_ok (n := 400) (by kernel_rfl)
theorem params_are : Tryz.f3.params.toList = [22, 23, 25] := by kernel_rfl

set_option maxRecDepth 100000 in
theorem law_eval : ∀ xs : List T, okAll Tryz.prog 40 Tryz.f3.params.toList xs → callL Lib.fs 0 N.law40_FireRulesRaw (xs.map .t) [] = some (.t (.bool true), []) := by
  intro xs h
  rw [params_are] at h
  obtain ⟨x0, x1, x2, rfl, h0, h1, h2⟩ := okAll_3 h
  obtain ⟨t, rfl, -, -⟩ := okT_ints (n := 38) (e := 3) (by kernel_rfl) (by kernel_rfl) h0
  obtain ⟨l, rfl, -, -⟩ := okT_slice (n := 39) (e := 29) (by kernel_rfl) Mch.e (fun _ => True) (fun x hx => by
    obtain ⟨ys, rfl, yl, yf⟩ := okT_struct (n := 38) (ts := [3, 3, 22]) (by kernel_rfl) hx
    match ys, yl, yf with
    | [y0, y1, y2], _, yf =>
      obtain ⟨_, g0, c0⟩ := yf 0 _ rfl
      obtain ⟨_, g1, c1⟩ := yf 1 _ rfl
      obtain ⟨_, g2, c2⟩ := yf 2 _ rfl
      cases g0; cases g1; cases g2
      obtain ⟨k, rfl, -⟩ := okC_i64 (n := 37) (by kernel_rfl) c0
      obtain ⟨n, rfl, -⟩ := okC_i64 (n := 37) (by kernel_rfl) c1
      obtain ⟨pl, rfl, -, -⟩ := okC_ints (n := 36) (e := 3) (by kernel_rfl) (by kernel_rfl) c2
      exact ⟨⟨k, n, pl⟩, rfl, trivial⟩) h1
  obtain ⟨zs, rfl, zl, zf⟩ := okT_struct (n := 39) (ts := [3, 22]) (by kernel_rfl) h2
  match zs, zl, zf with
  | [y0, y1], _, yf =>
    obtain ⟨_, g0, c0⟩ := yf 0 _ rfl
    obtain ⟨_, g1, c1⟩ := yf 1 _ rfl
    cases g0; cases g1
    obtain ⟨time, rfl, -⟩ := okC_i64 (n := 38) (by kernel_rfl) c0
    obtain ⟨frm, rfl, -, -⟩ := okC_ints (n := 37) (e := 3) (by kernel_rfl) (by kernel_rfl) c1
    exact FireRulesRaw_law awake_ok t l ⟨time, frm⟩

theorem calls_ok : ∀ n, CallOK Tryz.prog (evCall Lib.fs n) := tab_okP (rs := real) (fs := tab) (fun f => rfl) all_ok prims (by kernel_rfl) prims_ok

set_option maxRecDepth 100000 in
theorem lifted (os : Os) (started : os.Started) (H : Type) (enc : TypeId × Value → H) :
    ReturnsInHanded {} Tryz.checked os 3 .any (Rows.fireRulesRawSpec.pre6 enc Tryz.prog Tryz.f3 Rows.fireRulesRawRow.domain false) (Rows.fireRulesRawSpec.post enc Tryz.prog Tryz.f3 false true false false) := by
  refine returnsInHanded_of_change (C := Tryz.checked) own started (by kernel_rfl) Tryz.func3
    (ChangeSpec.witness6 (enc := enc) (C := Tryz.checked) false ⟨#[], #[.slice none 0 0, .slice none 0 0, .agg #[.int .i64 0, .slice none 0 0]], []⟩ 8 (by kernel_rfl) (by kernel_rfl) (by kernel_rfl) (by kernel_rfl)) ?_
  intro W base args ds gs before hval hW _ _
  exact law_calls calls_ok (N := N.law40_FireRulesRaw) (by kernel_rfl) laidOut (n := 40) (by kernel_rfl) (tb := 4) (by kernel_rfl) (by kernel_rfl) rfl
    (fun H ds hl => by
      match ds, hl with
      | [d0, d1, d2], _ => rfl) law_eval W base args ds gs before hval hW

set_option maxRecDepth 100000 in
theorem over : Rows.fireRulesRawRow.holds Tryz.pinned (OpenSpec.ofChange Rows.fireRulesRawSpec) :=
  OpenClaim.holds_of_wide 3 Tryz.f3 rfl rfl rfl rfl rfl rfl rfl ⟨rfl, rfl, rfl, rfl, rfl⟩ rfl rfl rfl rfl rfl (by kernel_rfl) Tryz.func3 (by kernel_rfl)
    (of_decide_eq_true (by kernel_rfl)) (by unfold Func.isWrapper; first | (rw [if_pos (by decide +kernel)]; kernel_rfl) | (rw [if_neg (by decide +kernel)]; exact ⟨rfl, rfl⟩))
    (fun os started H enc _ => lifted os started H enc)

theorem proved : Rows.FireRulesRawSaid := over
end Go.Proofs.YtddpkhnllojfpaaGreat
