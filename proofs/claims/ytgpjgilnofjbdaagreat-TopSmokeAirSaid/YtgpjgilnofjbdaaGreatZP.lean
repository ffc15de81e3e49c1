/- Parts of the proof: see the text that holds the theorem. -/
import Derived.Test.YtgpjgilnofjbdaaGreatZ6
import Derived.Shelf.Sort.Plain
import Derived.Shelf.Slices.In.SortNone
set_option linter.all false
namespace Go.Ev
open Go
section
variable [Names]
theorem LB (w : Go.World) (k b : Nat) (zs : List Int) (os : Array Go.Obj) {c : Array Value} {ty : TypeId} (hb : w.heap[b]? = some (.cells c ty (0, 0))) :
    (∀ b', b' < w.heap.size → b' ≠ b → (Go.Sort.grow (Go.Sort.putRow (Value.int .i64) (Go.Sort.ahead w k) b 0 zs.toArray) os).heap[b']? = w.heap[b']?) ∧
    (Go.Sort.grow (Go.Sort.putRow (Value.int .i64) (Go.Sort.ahead w k) b 0 zs.toArray) os).heap[b]? = some (.cells (Go.Sort.putCells (Value.int .i64) 0 zs.toArray c) ty (0, 0)) ∧
    w.heap.size ≤ (Go.Sort.grow (Go.Sort.putRow (Value.int .i64) (Go.Sort.ahead w k) b 0 zs.toArray) os).heap.size := by
  have hl := gH hb
  have hs : (w.heap.modify b (Go.Sort.onCells (Go.Sort.putCells (Value.int .i64) 0 zs.toArray))).size = w.heap.size := by simp
  refine ⟨fun b' h1 h2 => ?_, ?_, ?_⟩
  · show (w.heap.modify b _ ++ os)[b']? = _
    rw [Array.getElem?_append_left (by rw [hs]; exact h1), Array.getElem?_modify, if_neg (fun e => h2 e.symm)]
  · show (w.heap.modify b _ ++ os)[b]? = _
    rw [Array.getElem?_append_left (by rw [hs]; exact hl), Array.getElem?_modify, if_pos rfl, hb]
    rfl
  · show _ ≤ (w.heap.modify b _ ++ os).size
    rw [Array.size_append, hs]; omega
theorem SD {P : Program} {ρ : Go.Shelf.Ren} (Ly : Go.Proofs.Lays.n189 P ρ) : sE P (ρ.f 189) [1] := by
  intro args H r H' h F g w vargs hrel hH K hK
  have none_ok : ∀ (p : Option Addr) (cap : Nat), vargs = [.slice p 0 cap] → r = .tup [] → H' = H → Calls P (ρ.f 189) vargs.toArray w fun e w' => ∃ v, e = .returned v ∧ K v w' := by
    rintro p cap rfl rfl rfl
    refine (Go.Proofs.Any.slices_Sort_int_none Ly p cap w).mono ?_
    rintro e w' ⟨rfl, rfl⟩
    exact ⟨_, rfl, hK _ _ F g (.tup [] [] rfl (fun i v c hv => by simp at hv)) hH (Ext.refl F g _) (Aft.refl g _)⟩
  simp only [GM] at h
  split at h
  · rename_i id ep n
    obtain ⟨v, rfl⟩ : ∃ v, vargs = [v] := by
      have := hrel.1
      match vargs, this with
      | [v], _ => exact ⟨v, rfl⟩
    have hv := hrel.2 0 v _ rfl rfl
    split at h
    · rename_i ep' es ho
      split at h
      · rename_i he
        obtain ⟨rfl, rfl, hlim⟩ := he
        obtain ⟨l, hl, hr⟩ := Option.map_eq_some_iff.1 h
        have es_ := Rq hl
        subst es_
        simp only [Prod.mk.injEq] at hr
        obtain ⟨rfl, rfl⟩ := hr
        have hsh : shp H id = some (.arr 1 ep (l.map fun x => D.t (.int .i64 x)).length) := by simp [shp, ho, Obj.sh]
        cases hv with
        | refOld a c id ep n sz ep' n' hs hp =>
          rw [hsh] at hs
          simp only [Option.some.injEq, Sh.arr.injEq] at hs
          obtain ⟨-, rfl, rfl⟩ := hs
          exact absurd hp (by unfold L0; omega)
        | ref id ep n sz og hg hs hn =>
          obtain ⟨og', hg', fit⟩ := hH.og ho
          rw [hg] at hg'; cases hg'
          by_cases l0 : l = []
          · subst l0
            have hset : H.set id (.arr 1 false ep (List.map (fun x => D.t (.int .i64 x)) (oS []))) = H := by
              have e0 : oS [] = [] := rfl
              rw [e0]
              simp only [List.map_nil] at ho ⊢
              apply List.ext_getElem? 
              intro i
              by_cases hi : id = i
              · subst hi; rw [List.getElem?_set_self (aj ho), ho]
              · rw [List.getElem?_set_ne hi]
            cases hb : og.blk with
            | none => exact none_ok none 0 (by simp [dE, hb]) rfl hset
            | some b => exact none_ok (some ⟨b, 0, none⟩) og.cap (by simp [dE, hb]) rfl hset
          · rcases fit.old hn with ⟨-, e⟩ | ⟨b, c, ty, hb, hc, hsz, hcap, hes, hcell, hF⟩
            · exact absurd (by simpa using e) l0
            · have ev : dE og (l.map fun x => D.t (.int .i64 x)).length = .slice (some ⟨b, 0, none⟩) l.length og.cap := by
                unfold dE; rw [hb]; simp
              rw [ev]
              have cells : ∀ j, j < l.length → c[j]? = some (.int .i64 (l[j]!)) := by
                intro j hj
                obtain ⟨v, h1, h2, h3⟩ := hcell j (.t (.int .i64 l[j])) 0 (.t (.int .i64 l[j])) (by simp [hj]) rfl
                rw [Nat.mul_one, Nat.add_zero] at h1
                rw [h1, getElem!_pos l j hj]
                cases h3 with
                | t v x h4 => cases h4; rfl
              have cellw : ∀ j, w.cell? ⟨b, j, none⟩ = c[j]? ∧ w.frozen? ⟨b, j, none⟩ = false := by
                intro j
                constructor
                · simp [Go.World.cell?, hc]
                · simp [Go.World.frozen?, hc]
              have hH2 : Go.Sort.Holds (Value.int .i64) w b 0 l.toArray := by
                intro j hj
                have hj : j < l.length := by simpa using hj
                rw [Nat.zero_add, (cellw j).1, cells j hj]
                exact ⟨by simp [getElem!_pos, hj], (cellw j).2⟩
              have big : l.length < 4611686018427387904 := by
                simp at hlim; unfold lim at hlim; omega
              refine (Go.Proofs.Any.slices_Sort_int Ly b 0 og.cap l w hH2 (gH hc) big).mono ?_
              rintro e w' ⟨rfl, k, os, rfl⟩
              rw [Hx]
              obtain ⟨s1, s2, s3⟩ := LB w k b (oS l) os hc
              have noF : ∀ o v, F b o ≠ some v := fun o v e => by have := (hF o v e).1; cases this
              refine ⟨_, rfl, ?_⟩
              have A : Aft g H (g.set id og) (H.set id (.arr 1 false ep ((oS l).map fun x => .t (.int .i64 x)))) :=
                Aft.set hg ho (.inr ⟨1, ep, l.length, 1, ep, l.length, by simp [Obj.sh], by simp [Obj.sh, ov], .inr ⟨rfl, rfl, rfl, rfl⟩⟩)
              refine hK _ _ F (g.set id og) (.tup [] [] rfl (fun i v c hv => by simp at hv)) (hH.upd hg ho A ?_ (fun b' h => .inl h) (fun b' h1 h2 => s1 b' h1 (fun e => h2 (by rw [hb, e]))) (fun b' o v hv e => ?_)) (Ext.upd hg s3 (fun b' h => .inl h) (fun b' h1 h2 => s1 b' h1 (fun e => h2 (by rw [hb, e])))) A
              · refine .inr ⟨b, _, ty, hb, s2, by simp [Go.Sort.putCells, hsz], by simpa [ov] using hcap, ?_, ?_, fun o v hv => absurd hv (noF o v)⟩
                · intro e he
                  obtain ⟨x, -, rfl⟩ := List.mem_map.1 he
                  exact ⟨rfl, rfl⟩
                · intro i e k d he hd
                  have hi : i < (oS l).length := by simpa using (List.getElem?_eq_some_iff.1 he).1
                  rw [List.getElem?_map, List.getElem?_eq_getElem hi] at he
                  cases he
                  have hk : k = 0 := by
                    have : k < 1 := (List.getElem?_eq_some_iff.1 hd).1
                    omega
                  subst hk
                  cases hd
                  refine ⟨.int .i64 (oS l)[i], ?_, rfl, .t _ _ (.int _ _)⟩
                  have hi2 : i < l.length := by rw [← ov]; exact hi
                  rw [Nat.mul_one, Nat.add_zero, Go.Sort.putCells, Array.getElem?_mapIdx, cells i hi2]
                  simp [hi]
              · rw [hb] at e; cases e; exact absurd hv (noF o v)
      · cases h
    · cases h
  · obtain ⟨v, rfl⟩ : ∃ v, vargs = [v] := by
      have := hrel.1
      match vargs, this with
      | [v], _ => exact ⟨v, rfl⟩
    have hv := hrel.2 0 v _ rfl rfl
    cases hv
    simp only [Option.some.injEq, Prod.mk.injEq] at h
    exact none_ok none 0 rfl h.1.symm h.2.symm
  · cases h
end
end Go.Ev
