/- Parts of the proof: see the text that holds the theorem. -/
import Derived.Test.YtifghciaddehaaaGreatZPP
import Derived.Shelf.Spec.SlicesGrow
set_option linter.all false
namespace Go.Ev
open Go
section
variable [Names]
theorem Sw {P : Program} {ρs : Go.Shelf.Ren} (L : Go.Proofs.Lays8.n4 P ρs) {i0 : TypeInfo} (hi0 : P.info? (ρs.t 25) = some i0) (hz0 : i0.zero = some (.int .i64 0)) (hs0 : i0.size = 1) (hb0 : i0.bytes ≤ 64) : wT P (ρs.f 4) [4] := by
  intro args H r H' h F g w vargs hrel hH K hK
  have main : ∀ (n : Int), vargs = [.slice none 0 0, .int .i64 n] → 0 ≤ n → n ≤ 4294967296 → r = .ref H.length 0 0 → H' = H ++ [.arr 1 false 0 []] → Calls P (ρs.f 4) vargs.toArray w fun e w' => ∃ v, e = .returned v ∧ K v w' := by
    rintro n rfl n0 n1 rfl rfl
    obtain ⟨k, rfl⟩ := Int.eq_ofNat_of_zero_le n0
    by_cases hk : k = 0
    · subst hk
      refine (Go.Proofs.Any8.slices_Grow_room L none 0 0 0 w (Nat.le_refl _) (by omega) (by omega) (Nat.le_refl _)).mono ?_
      rintro e w' ⟨rfl, rfl⟩
      obtain ⟨g', h1, h2, h3, h4⟩ := add_nil hH 1
      exact ⟨_, rfl, hK _ _ F g' h4 h1 h2 h3⟩
    · have hk1 : k ≤ 4294967296 := by omega
      have hbig : (0 + k) * i0.bytes ≤ 140737488355328 := by
        have : (0 + k) * i0.bytes ≤ 4294967296 * 64 := Nat.mul_le_mul (by omega) hb0
        omega
      refine (Go.Proofs.Any8.slices_Grow_grow L i0 (.int .i64 0) hi0 hz0 (by omega) none 0 0 k [] w (Nat.le_refl _) (by omega) hbig (by omega) (by simp) (fun _ => rfl) (fun a e => by cases e)).mono ?_
      rintro e w' ⟨rfl, rfl⟩
      have hG : 0 + k ≤ grownCap w (0 + k) 0 (ρs.t 25) := grownCap_ge w _ _ _
      generalize grownCap w (0 + k) 0 (ρs.t 25) = G at *
      obtain ⟨g', h1, h2, h3, h4⟩ := E8 (F := F) (g := g) (H := H) (w := w.drew) hH.drew (c := ([] : List Value).toArray ++ Builtin.zeroCells (Value.int .i64 0).cells (0 + k - 0) ++ Builtin.zeroCells (Value.int .i64 0).cells (G - (0 + k))) (es := []) (sz := 1) (cap := G)
        (by
          have e1 : (Value.int .i64 0).cells.size = 1 := rfl
          simp only [Array.size_append, Go.size_zeroCells, e1, List.size_toArray, List.length_nil]
          omega) (by simp) (fun e he => by cases he) (fun i e k d he => by simp at he) (ρs.t 25)
      exact ⟨_, rfl, hK _ _ F g' h4 h1 ⟨h2.sub, h2.size, h2.keep, h2.blks, h2.newF, h2.io⟩ h3⟩
  simp only [Bl] at h
  split at h
  · rename_i n
    obtain ⟨v, u, rfl⟩ : ∃ v u, vargs = [v, u] := by
      have := hrel.1
      match vargs, this with
      | [v, u], _ => exact ⟨v, u, rfl⟩
    have hv := hrel.2 0 v _ rfl rfl
    have hu := hrel.2 1 u _ rfl rfl
    split at h
    · rename_i hn
      simp only [Option.some.injEq, Prod.mk.injEq] at h
      cases hu with
      | t v2 x hx =>
        cases hx
        cases hv
        exact main n rfl hn.1 hn.2 h.1.symm h.2.symm
    · cases h
  · cases h
end
end Go.Ev
