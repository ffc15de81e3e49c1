/- The statement SwapsRaw holds of the program for every input. Conditions: none. -/
import Derived.Test.YtgedjeljhicagaaGreatRows
import Derived.Test.YtgedjeljhicagaaGreatS
import Derived.ProofKit
import Derived.JoinedCond
set_option linter.all false
namespace Go.Proofs.YtgedjeljhicagaaGreat
open Go.Ev Go.ChangeShapes Go.WideShapes Go.ChangeAt Go.RowKit

theorem own : ownKnob Tryz.prog.godebug = none := by kernel_rfl
theorem laidOut : laidOutB Tryz.prog = true := by kernel_rfl
theorem awake_ok : CALL 0 N.law26_awake [] [] = some (B true, []) := runsTrue_ok (n := 400) (by kernel_rfl)
theorem params_are : Tryz.f7.params.toList = [22, 35, 63] := by kernel_rfl

set_option maxRecDepth 100000 in
theorem law_eval : ∀ xs : List T, okAll Tryz.prog 40 Tryz.f7.params.toList xs → callL Lib.fs 0 N.law26_SwapsRaw (xs.map .t) [] = some (.t (.bool true), []) := by
  intro xs h
  rw [params_are] at h
  obtain ⟨x0, x1, x2, rfl, h0, h1, h2⟩ := okAll_3 h
  obtain ⟨t, rfl, -, -⟩ := okT_ints (n := 38) (e := 3) (by kernel_rfl) (by kernel_rfl) h0
  obtain ⟨n0, n1, n2, rfl⟩ := okT_int3 (n := 38) (e := 3) (by kernel_rfl) (by kernel_rfl) (by kernel_rfl) (by kernel_rfl) h2
  obtain ⟨ys, rfl, yl, yf⟩ := okT_struct (n := 39) (ts := [33]) (by kernel_rfl) h1
  match ys, yl, yf with
  | [y0], _, yf =>
    obtain ⟨_, g0, c0⟩ := yf 0 _ rfl
    cases g0
    obtain ⟨l, e0, hl, -⟩ := okC_slice (n := 38) (e := 55) (by kernel_rfl) Go.Ev.World.e (fun _ => True) (fun x hx => by
      obtain ⟨zs, rfl, zl, zf⟩ := okT_struct (n := 37) (ts := [22, 53]) (by kernel_rfl) hx
      match zs, zl, zf with
      | [z0, z1], _, zf =>
        obtain ⟨_, k0, d0⟩ := zf 0 _ rfl
        obtain ⟨_, k1, d1⟩ := zf 1 _ rfl
        cases k0; cases k1
        obtain ⟨tags, rfl, -, -⟩ := okC_ints (n := 35) (e := 3) (by kernel_rfl) (by kernel_rfl) d0
        obtain ⟨whr, e1, -, -⟩ := okC_slice (n := 36) (e := 46) (by kernel_rfl) Wh.e (fun _ => True) (fun v hv => by
          obtain ⟨us, rfl, ul, uf⟩ := okT_struct (n := 35) (ts := [3, 22]) (by kernel_rfl) hv
          match us, ul, uf with
          | [u0, u1], _, uf =>
            obtain ⟨_, m0, f0⟩ := uf 0 _ rfl
            obtain ⟨_, m1, f1⟩ := uf 1 _ rfl
            cases m0; cases m1
            obtain ⟨time, rfl, -⟩ := okC_i64 (n := 34) (by kernel_rfl) f0
            obtain ⟨frm, rfl, -, -⟩ := okC_ints (n := 33) (e := 3) (by kernel_rfl) (by kernel_rfl) f1
            exact ⟨⟨time, frm⟩, rfl, trivial⟩) d1
        cases e1
        exact ⟨⟨tags, whr⟩, rfl, trivial⟩) c0
    cases e0
    exact SwapsRaw_law awake_ok t ⟨l⟩ (Nat.le_trans hl (by decide : Go.maxLen ≤ 9223372036854775807)) n0 n1 n2

theorem calls_ok : ∀ n, CallOK Tryz.prog (evCall Lib.fs n) := tab_okP (rs := real) (fs := tab) (fun f => rfl) all_ok prims (by kernel_rfl) prims_ok

set_option maxRecDepth 100000 in
theorem lifted (os : Os) (started : os.Started) (H : Type) (enc : TypeId × Value → H) :
    ReturnsInHanded {} Tryz.checked os 7 .any (Rows.swapsRawSpec.pre6 enc Tryz.prog Tryz.f7 Rows.swapsRawRow.domain false) (Rows.swapsRawSpec.post enc Tryz.prog Tryz.f7 false true false false) := by
  refine returnsInHanded_of_change (C := Tryz.checked) own started (by kernel_rfl) Tryz.func7
    (ChangeSpec.witness6 (enc := enc) (C := Tryz.checked) false ⟨#[], #[.slice none 0 0, .agg #[.slice none 0 0], .agg #[.int .i64 0, .int .i64 0, .int .i64 0]], []⟩ 8 (by kernel_rfl) (by kernel_rfl) (by kernel_rfl) (by kernel_rfl)) ?_
  intro W base args ds gs before hval hW _ _
  exact law_calls calls_ok (N := N.law26_SwapsRaw) (by kernel_rfl) laidOut (n := 40) (by kernel_rfl) (tb := 4) (by kernel_rfl) (by kernel_rfl) rfl
    (fun H ds hl => by
      match ds, hl with
      | [d0, d1, d2], _ => rfl) law_eval W base args ds gs before hval hW

set_option maxRecDepth 100000 in
theorem over : Rows.swapsRawRow.holds Tryz.pinned (OpenSpec.ofChange Rows.swapsRawSpec) :=
  OpenClaim.holds_of_wide 7 Tryz.f7 rfl rfl rfl rfl rfl rfl rfl ⟨rfl, rfl, rfl, rfl, rfl⟩ rfl rfl rfl rfl rfl (by kernel_rfl) Tryz.func7 (by kernel_rfl)
    (of_decide_eq_true (by kernel_rfl)) (by unfold Func.isWrapper; first | (rw [if_pos (by decide +kernel)]; kernel_rfl) | (rw [if_neg (by decide +kernel)]; exact ⟨rfl, rfl⟩))
    (fun os started H enc _ => lifted os started H enc)

theorem proved : Rows.SwapsRawSaid := over
end Go.Proofs.YtgedjeljhicagaaGreat
