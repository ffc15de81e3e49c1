/- The statement TagsLost holds of the program for every input. Conditions: none. -/
import Derived.Test.YtbajpjfhkieglaaRows
import Derived.Test.YtbajpjfhkieglaaS
import Derived.ProofKit
import Derived.JoinedCond
set_option linter.all false
namespace Go.Proofs.Ytbajpjfhkieglaa
open Go.Ev Go.ChangeShapes Go.WideShapes Go.ChangeAt Go.RowKit

theorem own : ownKnob Try.prog.godebug = none := by kernel_rfl
theorem laidOut : laidOutB Try.prog = true := by kernel_rfl
theorem awake_ok : ct 0 N.bw [] [] = some (B true, []) := m9 (n := 400) (by kernel_rfl)
theorem params_are : Try.f6.params.toList = [22, 3] := by kernel_rfl

set_option maxRecDepth 100000 in
theorem law_eval : ∀ xs : List T, m5 Try.prog 40 Try.f6.params.toList xs → dg Lib.fs 0 N.aP (xs.map .t) [] = some (.t (.bool true), []) := by
  intro xs h
  rw [params_are] at h
  obtain ⟨x0, x1, rfl, h0, h1⟩ := JD h
  obtain ⟨t, rfl, -, -⟩ := tD (n := 38) (e := 3) (by kernel_rfl) (by kernel_rfl) h0
  obtain ⟨a, rfl, -⟩ := qI (n := 39) (by kernel_rfl) h1
  exact w7 awake_ok t a

theorem calls_ok : ∀ n, cj Try.prog (aT Lib.fs n) := xB (rs := real) (fs := tab) (fun f => rfl) G5 G6 G7 (by kernel_rfl) vg

set_option maxRecDepth 100000 in
theorem lifted (os : Os) (started : os.Started) (H : Type) (enc : TypeId × Value → H) :
    ReturnsInHanded {} Try.checked os 6 .any (Rows.tagsLostSpec.pre6 enc Try.prog Try.f6 Rows.tagsLostRow.domain false) (Rows.tagsLostSpec.post enc Try.prog Try.f6 false true false false) := by
  refine returnsInHanded_of_change (C := Try.checked) own started (by kernel_rfl) Try.func6
    (ChangeSpec.witness6 (enc := enc) (C := Try.checked) false ⟨#[], #[.slice none 0 0, .int .i64 0], []⟩ 8 (by kernel_rfl) (by kernel_rfl) (by kernel_rfl) (by kernel_rfl)) ?_
  intro W base args ds gs before hval hW _ _
  exact qH calls_ok (N := N.aP) (by kernel_rfl) laidOut (n := 40) (by kernel_rfl) (tb := 4) (by kernel_rfl) (by kernel_rfl) rfl
    (fun H ds hl => by
      match ds, hl with
      | [d0, d1], _ => rfl) law_eval W base args ds gs before hval hW

set_option maxRecDepth 100000 in
theorem over : Rows.tagsLostRow.holds Try.pinned (OpenSpec.ofChange Rows.tagsLostSpec) :=
  OpenClaim.holds_of_wide 6 Try.f6 rfl rfl rfl rfl rfl rfl rfl ⟨rfl, rfl, rfl, rfl, rfl⟩ rfl rfl rfl rfl rfl (by kernel_rfl) Try.func6 (by kernel_rfl)
    (of_decide_eq_true (by kernel_rfl)) (by unfold Func.isWrapper; first | (rw [if_pos (by decide +kernel)]; kernel_rfl) | (rw [if_neg (by decide +kernel)]; exact ⟨rfl, rfl⟩))
    (fun os started H enc _ => lifted os started H enc)

theorem proved : Rows.TagsLostSaid := over
end Go.Proofs.Ytbajpjfhkieglaa
