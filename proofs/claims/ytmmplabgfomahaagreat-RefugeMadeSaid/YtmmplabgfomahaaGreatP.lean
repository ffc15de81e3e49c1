/- The statement RefugeMade holds of the program for every input. Conditions: none. -/
import Derived.Test.YtmmplabgfomahaaGreatRows
import Derived.Test.YtmmplabgfomahaaGreatS
import Derived.ProofKit
import Derived.JoinedCond
set_option linter.all false
namespace Go.Proofs.YtmmplabgfomahaaGreat
open Go.Ev Go.ChangeShapes Go.WideShapes Go.ChangeAt Go.RowKit

theorem own : ownKnob Tryz.prog.godebug = none := by kernel_rfl
theorem laidOut : laidOutB Tryz.prog = true := by kernel_rfl
theorem awake_ok : aG 0 N.eQ [] [] = some (B true, []) := Cl (n := 400) (by kernel_rfl)
theorem params_are : Tryz.f3.params.toList = [22, 23, 22] := by kernel_rfl

set_option maxRecDepth 100000 in
theorem law_eval : ∀ xs : List T, Ch Tryz.prog 40 Tryz.f3.params.toList xs → j8 Lib.fs 0 N.bC (xs.map .t) [] = some (.t (.bool true), []) := by
  intro xs h
  rw [params_are] at h
  obtain ⟨x0, x1, x2, rfl, h0, h1, h2⟩ := adn h
  obtain ⟨t, rfl, -, -⟩ := LH (n := 38) (e := 3) (by kernel_rfl) (by kernel_rfl) h0
  obtain ⟨l, rfl, -, -⟩ := An (n := 39) (e := 38) (by kernel_rfl) Rfg.e (fun _ => True) (fun x hx => by
    obtain ⟨ys, rfl, yl, yf⟩ := FH (n := 38) (ts := [3, 3]) (by kernel_rfl) hx
    match ys, yl, yf with
    | [y0, y1], _, yf =>
      obtain ⟨_, g0, c0⟩ := yf 0 _ rfl
      obtain ⟨_, g1, c1⟩ := yf 1 _ rfl
      cases g0; cases g1
      obtain ⟨k, rfl, -⟩ := Qa (n := 37) (by kernel_rfl) c0
      obtain ⟨n, rfl, -⟩ := Qa (n := 37) (by kernel_rfl) c1
      exact ⟨⟨k, n⟩, rfl, trivial⟩) h1
  obtain ⟨p, rfl, -, -⟩ := LH (n := 38) (e := 3) (by kernel_rfl) (by kernel_rfl) h2
  exact Li awake_ok t l p

theorem calls_ok : ∀ n, iF Tryz.prog (cT Lib.fs n) := P0 (rs := real) (fs := tab) (fun f => rfl) aaQ aaR Uf (by kernel_rfl) NH

set_option maxRecDepth 100000 in
theorem lifted (os : Os) (started : os.Started) (H : Type) (enc : TypeId × Value → H) :
    ReturnsInHanded {} Tryz.checked os 3 .any (Rows.refugeMadeSpec.pre6 enc Tryz.prog Tryz.f3 Rows.refugeMadeRow.domain false) (Rows.refugeMadeSpec.post enc Tryz.prog Tryz.f3 false true false false) := by
  refine returnsInHanded_of_change (C := Tryz.checked) own started (by kernel_rfl) Tryz.func3
    (ChangeSpec.witness6 (enc := enc) (C := Tryz.checked) false ⟨#[], #[.slice none 0 0, .slice none 0 0, .slice none 0 0], []⟩ 8 (by kernel_rfl) (by kernel_rfl) (by kernel_rfl) (by kernel_rfl)) ?_
  intro W base args ds gs before hval hW _ _
  exact HZ calls_ok (N := N.bC) (by kernel_rfl) laidOut (n := 40) (by kernel_rfl) (tb := 4) (by kernel_rfl) (by kernel_rfl) rfl
    (fun H ds hl => by
      match ds, hl with
      | [d0, d1, d2], _ => rfl) law_eval W base args ds gs before hval hW

set_option maxRecDepth 100000 in
theorem over : Rows.refugeMadeRow.holds Tryz.pinned (OpenSpec.ofChange Rows.refugeMadeSpec) :=
  OpenClaim.holds_of_wide 3 Tryz.f3 rfl rfl rfl rfl rfl rfl rfl ⟨rfl, rfl, rfl, rfl, rfl⟩ rfl rfl rfl rfl rfl (by kernel_rfl) Tryz.func3 (by kernel_rfl)
    (of_decide_eq_true (by kernel_rfl)) (by unfold Func.isWrapper; first | (rw [if_pos (by decide +kernel)]; kernel_rfl) | (rw [if_neg (by decide +kernel)]; exact ⟨rfl, rfl⟩))
    (fun os started H enc _ => lifted os started H enc)

theorem proved : Rows.RefugeMadeSaid := over
end Go.Proofs.YtmmplabgfomahaaGreat
