/- The statement RefugeRaw holds of the program for every input. Conditions: none. -/
import Derived.Test.YtmmplabgfomahaaRows
import Derived.Test.YtmmplabgfomahaaS
import Derived.ProofKit
import Derived.JoinedCond
set_option linter.all false
namespace Go.Proofs.Ytmmplabgfomahaa
open Go.Ev Go.ChangeShapes Go.WideShapes Go.ChangeAt Go.RowKit

theorem own : ownKnob Try.prog.godebug = none := by kernel_rfl
theorem laidOut : laidOutB Try.prog = true := by kernel_rfl
theorem awake_ok : bD 0 N.bQ [] [] = some (B true, []) := sW (n := 400) (by kernel_rfl)
theorem params_are : Try.f3.params.toList = [22, 23] := by kernel_rfl

set_option maxRecDepth 100000 in
theorem law_eval : ∀ xs : List T, sR Try.prog 40 Try.f3.params.toList xs → eY Lib.fs 0 N.aJ (xs.map .t) [] = some (.t (.bool true), []) := by
  intro xs h
  rw [params_are] at h
  obtain ⟨x0, x1, rfl, h0, h1⟩ := Ts h
  obtain ⟨W, rfl, -, -⟩ := q8 (n := 39) (e := 23) (by kernel_rfl) Ev.tL (fun _ => True) (fun x hx => by
    obtain ⟨l, rfl, -, -⟩ := BP (n := 37) (e := 3) (by kernel_rfl) (by kernel_rfl) hx
    exact ⟨l, rfl, trivial⟩) h0
  obtain ⟨S, rfl, -, sf⟩ := BP (n := 38) (e := 3) (by kernel_rfl) (by kernel_rfl) h1
  exact Dr awake_ok W S fun s hs => by have := sf s hs; unfold J4 at this; omega

theorem calls_ok : ∀ n, dJ Try.prog (bj Lib.fs n) := FP (rs := real) (fs := tab) (fun f => rfl) QI QJ JW (by kernel_rfl) Dv

set_option maxRecDepth 100000 in
theorem lifted (os : Os) (started : os.Started) (H : Type) (enc : TypeId × Value → H) :
    ReturnsInHanded {} Try.checked os 3 .any (Rows.refugeRawSpec.pre6 enc Try.prog Try.f3 Rows.refugeRawRow.domain false) (Rows.refugeRawSpec.post enc Try.prog Try.f3 false true false false) := by
  refine returnsInHanded_of_change (C := Try.checked) own started (by kernel_rfl) Try.func3
    (ChangeSpec.witness6 (enc := enc) (C := Try.checked) false ⟨#[], #[.slice none 0 0, .slice none 0 0], []⟩ 8 (by kernel_rfl) (by kernel_rfl) (by kernel_rfl) (by kernel_rfl)) ?_
  intro W base args ds gs before hval hW _ _
  exact yz calls_ok (N := N.aJ) (by kernel_rfl) laidOut (n := 40) (by kernel_rfl) (tb := 4) (by kernel_rfl) (by kernel_rfl) rfl
    (fun H ds hl => by
      match ds, hl with
      | [d0, d1], _ => rfl) law_eval W base args ds gs before hval hW

set_option maxRecDepth 100000 in
theorem over : Rows.refugeRawRow.holds Try.pinned (OpenSpec.ofChange Rows.refugeRawSpec) :=
  OpenClaim.holds_of_wide 3 Try.f3 rfl rfl rfl rfl rfl rfl rfl ⟨rfl, rfl, rfl, rfl, rfl⟩ rfl rfl rfl rfl rfl (by kernel_rfl) Try.func3 (by kernel_rfl)
    (of_decide_eq_true (by kernel_rfl)) (by unfold Func.isWrapper; first | (rw [if_pos (by decide +kernel)]; kernel_rfl) | (rw [if_neg (by decide +kernel)]; exact ⟨rfl, rfl⟩))
    (fun os started H enc _ => lifted os started H enc)

theorem proved : Rows.RefugeRawSaid := over
end Go.Proofs.Ytmmplabgfomahaa
