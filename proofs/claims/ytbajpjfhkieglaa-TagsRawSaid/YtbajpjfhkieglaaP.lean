/- The statement TagsRaw holds of the program for every input. Conditions: none. -/
import Derived.Test.YtbajpjfhkieglaaRows
import Derived.Test.YtbajpjfhkieglaaS
import Derived.ProofKit
import Derived.JoinedCond
set_option linter.all false
namespace Go.Proofs.Ytbajpjfhkieglaa
open Go.Ev Go.ChangeShapes Go.WideShapes Go.ChangeAt Go.RowKit

theorem own : ownKnob Try.prog.godebug = none := by kernel_rfl
theorem laidOut : laidOutB Try.prog = true := by kernel_rfl
theorem awake_ok : cB 0 N.bB [] [] = some (B true, []) := nM (n := 400) (by kernel_rfl)
theorem params_are : Try.f3.params.toList = [24, 27] := by kernel_rfl

set_option maxRecDepth 100000 in
theorem law_eval : ∀ xs : List T, nI Try.prog 40 Try.f3.params.toList xs → dy Lib.fs 0 N.aL (xs.map .t) [] = some (.t (.bool true), []) := by
  intro xs h
  rw [params_are] at h
  obtain ⟨x0, x1, rfl, h0, h1⟩ := JQ h
  obtain ⟨ys, rfl, yl, yf⟩ := pD (n := 39) (ts := [3, 3, 3, 22]) (by kernel_rfl) h0
  obtain ⟨zs, rfl, zl, zf⟩ := pD (n := 39) (ts := [3, 3, 25]) (by kernel_rfl) h1
  match ys, yl, yf, zs, zl, zf with
  | [y0, y1, y2, y3], _, yf, [z0, z1, z2], _, zf =>
    obtain ⟨_, g0, c0⟩ := yf 0 _ rfl
    obtain ⟨_, g1, c1⟩ := yf 1 _ rfl
    obtain ⟨_, g2, c2⟩ := yf 2 _ rfl
    obtain ⟨_, g3, c3⟩ := yf 3 _ rfl
    obtain ⟨_, k0, d0⟩ := zf 0 _ rfl
    obtain ⟨_, k1, d1⟩ := zf 1 _ rfl
    obtain ⟨_, k2, d2⟩ := zf 2 _ rfl
    cases g0; cases g1; cases g2; cases g3; cases k0; cases k1; cases k2
    obtain ⟨a0, rfl, -⟩ := xH (n := 38) (by kernel_rfl) c0
    obtain ⟨a1, rfl, -⟩ := xH (n := 38) (by kernel_rfl) c1
    obtain ⟨a2, rfl, -⟩ := xH (n := 38) (by kernel_rfl) c2
    obtain ⟨a3, rfl, -, -⟩ := tW (n := 37) (e := 3) (by kernel_rfl) (by kernel_rfl) c3
    obtain ⟨b0, rfl, -⟩ := xH (n := 38) (by kernel_rfl) d0
    obtain ⟨b1, rfl, -⟩ := xH (n := 38) (by kernel_rfl) d1
    obtain ⟨b2, rfl, hb⟩ := sF (n := 37) (e := 5) (by kernel_rfl) (by kernel_rfl) d2
    exact A3 awake_ok ⟨a0, a1, a2, a3⟩ ⟨b0, b1, b2⟩ hb

theorem calls_ok : ∀ n, cr Try.prog (aP Lib.fs n) := xz (rs := real) (fs := tab) (fun f => rfl) G5 G6 G7 (by kernel_rfl) vn

set_option maxRecDepth 100000 in
theorem lifted (os : Os) (started : os.Started) (H : Type) (enc : TypeId × Value → H) :
    ReturnsInHanded {} Try.checked os 3 .any (Rows.tagsRawSpec.pre6 enc Try.prog Try.f3 Rows.tagsRawRow.domain false) (Rows.tagsRawSpec.post enc Try.prog Try.f3 false true false false) := by
  refine returnsInHanded_of_change (C := Try.checked) own started (by kernel_rfl) Try.func3
    (ChangeSpec.witness6 (enc := enc) (C := Try.checked) false ⟨#[], #[.agg #[.int .i64 0, .int .i64 0, .int .i64 0, .slice none 0 0], .agg #[.int .i64 0, .int .i64 0, .slice none 0 0]], []⟩ 8 (by kernel_rfl) (by kernel_rfl) (by kernel_rfl) (by kernel_rfl)) ?_
  intro W base args ds gs before hval hW _ _
  exact rh calls_ok (N := N.aL) (by kernel_rfl) laidOut (n := 40) (by kernel_rfl) (tb := 4) (by kernel_rfl) (by kernel_rfl) rfl
    (fun H ds hl => by
      match ds, hl with
      | [d0, d1], _ => rfl) law_eval W base args ds gs before hval hW

set_option maxRecDepth 100000 in
theorem over : Rows.tagsRawRow.holds Try.pinned (OpenSpec.ofChange Rows.tagsRawSpec) :=
  OpenClaim.holds_of_wide 3 Try.f3 rfl rfl rfl rfl rfl rfl rfl ⟨rfl, rfl, rfl, rfl, rfl⟩ rfl rfl rfl rfl rfl (by kernel_rfl) Try.func3 (by kernel_rfl)
    (of_decide_eq_true (by kernel_rfl)) (by unfold Func.isWrapper; first | (rw [if_pos (by decide +kernel)]; kernel_rfl) | (rw [if_neg (by decide +kernel)]; exact ⟨rfl, rfl⟩))
    (fun os started H enc _ => lifted os started H enc)

theorem proved : Rows.TagsRawSaid := over
end Go.Proofs.Ytbajpjfhkieglaa
