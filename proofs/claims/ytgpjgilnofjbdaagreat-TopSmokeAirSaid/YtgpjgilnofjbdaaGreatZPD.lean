/- Parts of the proof: see the text that holds the theorem. -/
import Derived.Test.YtgpjgilnofjbdaaGreatZPPP
import Derived.Tactics
import Derived.MapKept
set_option linter.all false
namespace Go.Ev
open Go
def AZ (l : List Nat) : Array MapEntry := (l.mapIdx fun i j => ({ key := .int .i64 (i + 1), val := .func (.func j) #[] #[], born := i } : MapEntry)).toArray
theorem aiu (l : List Nat) : (AZ l).size = l.length := by simp [AZ]
theorem SK (l : List Nat) (j : Nat) : (AZ l).push { key := .int .i64 (l.length + 1), val := .func (.func j) #[] #[], born := l.length } = AZ (l ++ [j]) := by
  simp [AZ, List.mapIdx_append]
theorem aiv (l : List Nat) (n : Nat) : Instr.findNow (.int .i64) (.int .i64 (n + 1)) (AZ l).toList 0 = some ((l[n]?).map fun j => (n, .func (.func j) #[] #[])) := by
  have gen : ∀ (l : List Nat) (c k : Nat), Instr.findNow (.int .i64) (.int .i64 (k + 1)) (l.mapIdx fun i j => ({ key := .int .i64 ((i + c : Nat) + 1), val := .func (.func j) #[] #[], born := i + c } : MapEntry)) c =
      some (if c ≤ k then (l[k - c]?).map fun j => (k, .func (.func j) #[] #[]) else none) := by
    intro l
    induction l with
    | nil => intro c k; simp [Instr.findNow]
    | cons j l ih =>
      intro c k
      have h := ih (c + 1) k
      simp only [List.mapIdx_cons, Instr.findNow, Instr.sameNow, if_pos]
      by_cases hk : k = c
      · subst hk; simp
      · have e : (((k : Int) + 1 == ((0 + c : Nat) : Int) + 1)) = false := by simp; omega
        rw [e]
        simp only
        have e2 : (l.mapIdx fun i j => ({ key := Value.int .i64 (((i + 1) + c : Nat) + 1), val := .func (.func j) #[] #[], born := (i + 1) + c } : MapEntry)) = l.mapIdx fun i j => ({ key := Value.int .i64 ((i + (c + 1) : Nat) + 1), val := .func (.func j) #[] #[], born := i + (c + 1) } : MapEntry) := by
          congr 1
          funext i j
          have e3 : i + 1 + c = i + (c + 1) := by omega
          rw [e3]
        rw [e2, h]
        by_cases hc : c ≤ k
        · obtain ⟨d, rfl⟩ : ∃ d, k = c + 1 + d := ⟨k - c - 1, by omega⟩
          have e4 : c + 1 + d - c = d + 1 := by omega
          have e5 : c + 1 + d - (c + 1) = d := by omega
          simp [e4, e5, hc]
        · have : ¬ c + 1 ≤ k := by omega
          simp [hc, this]
  have h := gen l 0 n
  simp only [Nat.add_zero, Nat.zero_le, if_true, Nat.sub_zero] at h
  simpa [AZ] using h
theorem OV {P : Program} (w : Go.World) {ops : Array Oper} {rest : List Oper} {o : Oper} {a : Act} {Q : Exit → Act → Go.World → Prop}
    (hg : o.guard = none) (m x v : Operand) (t : TypeId) (hop : o.op = Op.insert t m x v) (k e : TypeId) (ht : P.underlying t = some (.map k e)) (hk : P.underlying k = some (.int .i64))
    (hm : a.eval m = .map (some w.heap.size)) (l : List Nat) (j : Nat) (hx : a.eval x = .int .i64 (l.length + 1)) (hv : a.eval v = .func (.func j) #[] #[])
    (hK : wpList P ops Q rest (a.put o.dst undef) (w.alloc (.map (AZ (l ++ [j])) (l ++ [j]).length))) :
    wpList P ops Q (o :: rest) a (w.alloc (.map (AZ l) l.length)) := by
  refine wpList_plain hg fun K' hK' => ?_
  have hb : (w.alloc (.map (AZ l) l.length)).heap[w.heap.size]? = some (.map (AZ l) l.length) := by
    show (w.heap.push _)[w.heap.size]? = _
    simp
  have hf := aiv l l.length
  rw [List.getElem?_eq_none (Nat.le_refl _)] at hf
  have hc : (Instr.checkKey false 10000 k (.int .i64 (l.length + 1))).run P (w.alloc (.map (AZ l) l.length)) = .ok () (w.alloc (.map (AZ l) l.length)) := MapKept.run_checkKey hk (by simp [MapKept.IsKey]) false 9999
  have hrun : (Instr.mapUpdate t (.map (some w.heap.size)) (.int .i64 (l.length + 1)) (.func (.func j) #[] #[])).run P (w.alloc (.map (AZ l) l.length)) = .ok () (w.alloc (.map (AZ (l ++ [j])) (l ++ [j]).length)) := by
    simp [Instr.mapUpdate, run_underlying ht, MapKept.run_getObj_map hb, hc, MapKept.run_findKey hk hf, MapKept.run_setObj_map _ hb, Result.andThen]
    rw [SK]
    show ({ w with heap := (w.heap.push _).setIfInBounds w.heap.size _ } : Go.World) = { w with heap := w.heap.push _ }
    have ea : ∀ o1 o2 : Go.Obj, (w.heap.push o1).setIfInBounds w.heap.size o2 = w.heap.push o2 := fun o1 o2 => by
      apply Array.ext_getElem?
      intro i
      rw [Array.getElem?_setIfInBounds, Array.getElem?_push, Array.getElem?_push]
      by_cases h : w.heap.size = i
      · subst h; simp
      · rw [if_neg h, if_neg (fun e => h e.symm), if_neg (fun e => h e.symm)]
    rw [ea]
  unfold Oper.wp
  rw [List.length_append, List.length_singleton] at hK hrun
  simp [execOp, hop, hm, hx, hv, hrun, Result.andThen]
  exact hK' _ _ hK
theorem OW {P : Program} (w : Go.World) {ops : Array Oper} {rest : List Oper} {o : Oper} {a : Act} {Q : Exit → Act → Go.World → Prop}
    (hg : o.guard = none) (m x : Operand) (t : TypeId) (hop : o.op = Op.lookup t m x false) (k e : TypeId) (ht : P.underlying t = some (.map k e)) (hk : P.underlying k = some (.int .i64))
    (hm : a.eval m = .map (some w.heap.size)) (l : List Nat) (n j : Nat) (hx : a.eval x = .int .i64 (n + 1)) (hj : l[n]? = some j) (c : Nat)
    (hK : wpList P ops Q rest (a.put o.dst (.func (.func j) #[] #[])) (w.alloc (.map (AZ l) c))) :
    wpList P ops Q (o :: rest) a (w.alloc (.map (AZ l) c)) := by
  refine wpList_plain hg fun K' hK' => ?_
  have hb : (w.alloc (.map (AZ l) c)).heap[w.heap.size]? = some (.map (AZ l) c) := by
    show (w.heap.push _)[w.heap.size]? = _
    simp
  have hf := aiv l n
  rw [hj] at hf
  have hc : ∀ b, (Instr.checkKey b 10000 k (.int .i64 (n + 1))).run P (w.alloc (.map (AZ l) c)) = .ok () (w.alloc (.map (AZ l) c)) := fun b => MapKept.run_checkKey hk (by simp [MapKept.IsKey]) b 9999
  have hrun : (Instr.lookup t (.map (some w.heap.size)) (.int .i64 (n + 1)) false).run P (w.alloc (.map (AZ l) c)) = .ok (.func (.func j) #[] #[]) (w.alloc (.map (AZ l) c)) := by
    simp [Instr.lookup, run_underlying ht, MapKept.run_getObj_map hb, hc, MapKept.run_findKey hk hf, Result.andThen]
  unfold Oper.wp
  simp [execOp, hop, hm, hx, hrun, Result.andThen]
  exact hK' _ _ hK
section
variable [Names]
theorem OX {P : Program} {f : Nat} {fs ids : List Nat} (hb : (fs.length == ids.length && (fs.zip ids).all fun p => Names.ρ p.1 == some p.2) = true)
    (C : ∀ (n j : Nat) w, ids[n]? = some j → Calls P f #[.int .i64 (n + 1)] w fun e w' => e = .returned (.func (.func j) #[] #[]) ∧ w' = w.alloc (.map (AZ ids) ids.length)) : sE P f (6 :: fs) := by
  have hρ : ∀ (n g : Nat), fs[n]? = some g → ∃ j, ids[n]? = some j ∧ Names.ρ g = some j := by
    intro n g hg
    simp only [Bool.and_eq_true, beq_iff_eq, List.all_eq_true] at hb
    have hn := (List.getElem?_eq_some_iff.1 hg).1
    have hj : ids[n]? = some (ids[n]'(by omega)) := List.getElem?_eq_getElem _
    exact ⟨_, hj, hb.2 (g, _) (List.mem_of_getElem? (i := n) (by rw [List.getElem?_zip_eq_some]; exact ⟨hg, hj⟩))⟩
  intro args H r H' h F g w vargs hrel hH K hK
  simp only [GM] at h
  split at h
  · rename_i n
    split at h
    · rename_i hn
      obtain ⟨q, hq, hr⟩ := Option.map_eq_some_iff.1 h
      simp only [Prod.mk.injEq] at hr
      obtain ⟨rfl, rfl⟩ := hr
      obtain ⟨v, rfl⟩ : ∃ v, vargs = [v] := by
        have := hrel.1
        match vargs, this with
        | [v], _ => exact ⟨v, rfl⟩
      have hv := hrel.2 0 v _ rfl rfl
      cases hv with
      | t v2 x hx =>
        cases hx
        obtain ⟨j, hj, hρj⟩ := hρ _ _ hq
        obtain ⟨k, rfl⟩ : ∃ k : Nat, n = k + 1 := ⟨(n - 1).toNat, by omega⟩
        have e : ((k : Int) + 1 - 1).toNat = k := by omega
        rw [e] at hj
        refine (C k j w hj).mono ?_
        rintro e w' ⟨rfl, rfl⟩
        have hg : ∀ b, b < w.heap.size → (w.alloc (.map (AZ ids) ids.length)).heap[b]? = w.heap[b]? := fun b hb => by
          show (w.heap.push _)[b]? = _
          simp [Array.getElem?_push, Nat.ne_of_lt hb]
        exact ⟨_, rfl, hK _ _ F g (.fn q j hρj [] [] rfl (fun i v c hv => by simp at hv)) (hH.grow hg) (Ext.grow (by show _ ≤ (w.heap.push _).size; simp) hg) (Aft.refl g _)⟩
    · cases h
  · cases h
end
end Go.Ev
