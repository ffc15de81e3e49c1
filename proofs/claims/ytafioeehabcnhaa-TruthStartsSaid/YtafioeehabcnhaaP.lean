/- The statement TruthStarts holds of the program for every input. Conditions: none. -/
import Derived.Test.YtafioeehabcnhaaRows
import Derived.Test.YtafioeehabcnhaaS
import Derived.ProofKit
import Derived.JoinedCond
set_option linter.all false
namespace Go.Proofs.Ytafioeehabcnhaa
open Go.Ev Go.ChangeShapes Go.WideShapes Go.ChangeAt Go.RowKit

theorem own : ownKnob Try.prog.godebug = none := by kernel_rfl
theorem laidOut : laidOutB Try.prog = true := by kernel_rfl
theorem awake_ok : br 0 N.cK [] [] = some (B true, []) := tf (n := 400) (by kernel_rfl)
theorem params_are : Try.f3.params.toList = [22, 23, 3] := by kernel_rfl

set_option maxRecDepth 100000 in
theorem law_eval : ∀ xs : List T, tc Try.prog 40 Try.f3.params.toList xs → gB Lib.fs 0 N.aD (xs.map .t) [] = some (.t (.bool true), []) := by
  intro xs h
  rw [params_are] at h
  obtain ⟨x0, x1, x2, rfl, h0, h1, h2⟩ := O6 h
  obtain ⟨t, rfl, -, -⟩ := zP (n := 38) (e := 3) (by kernel_rfl) (by kernel_rfl) h0
  obtain ⟨l, rfl, -, -⟩ := ru (n := 39) (e := 22) (by kernel_rfl) tL (fun _ => True) (fun x hx => by
    obtain ⟨a, rfl, -, -⟩ := zP (n := 37) (e := 3) (by kernel_rfl) (by kernel_rfl) hx
    exact ⟨a, rfl, trivial⟩) h1
  obtain ⟨r, rfl, -⟩ := xv (n := 39) (by kernel_rfl) h2
  exact yY awake_ok t l r

theorem calls_ok : ∀ n, fF Try.prog (bR Lib.fs n) := De (rs := real) (fs := tab) (fun f => rfl) Mv GI (by kernel_rfl) Bj

set_option maxRecDepth 100000 in
theorem lifted (os : Os) (started : os.Started) (H : Type) (enc : TypeId × Value → H) :
    ReturnsInHanded {} Try.checked os 3 .any (Rows.truthStartsSpec.pre6 enc Try.prog Try.f3 Rows.truthStartsRow.domain false) (Rows.truthStartsSpec.post enc Try.prog Try.f3 false true false false) := by
  refine returnsInHanded_of_change (C := Try.checked) own started (by kernel_rfl) Try.func3
    (ChangeSpec.witness6 (enc := enc) (C := Try.checked) false ⟨#[], #[.slice none 0 0, .slice none 0 0, .int .i64 0], []⟩ 8 (by kernel_rfl) (by kernel_rfl) (by kernel_rfl) (by kernel_rfl)) ?_
  intro W base args ds gs before hval hW _ _
  exact xu calls_ok (N := N.aD) (by kernel_rfl) laidOut (n := 40) (by kernel_rfl) (tb := 4) (by kernel_rfl) (by kernel_rfl) rfl
    (fun H ds hl => by
      match ds, hl with
      | [d0, d1, d2], _ => rfl) law_eval W base args ds gs before hval hW

set_option maxRecDepth 100000 in
theorem over : Rows.truthStartsRow.holds Try.pinned (OpenSpec.ofChange Rows.truthStartsSpec) :=
  OpenClaim.holds_of_wide 3 Try.f3 rfl rfl rfl rfl rfl rfl rfl ⟨rfl, rfl, rfl, rfl, rfl⟩ rfl rfl rfl rfl rfl (by kernel_rfl) Try.func3 (by kernel_rfl)
    (of_decide_eq_true (by kernel_rfl)) (by unfold Func.isWrapper; first | (rw [if_pos (by decide +kernel)]; kernel_rfl) | (rw [if_neg (by decide +kernel)]; exact ⟨rfl, rfl⟩))
    (fun os started H enc _ => lifted os started H enc)

theorem proved : Rows.TruthStartsSaid := over
end Go.Proofs.Ytafioeehabcnhaa
