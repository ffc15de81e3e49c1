/- Parts of the proof: see the text that holds the theorem. -/
import Derived.Test.YtgpjgilnofjbdaaGreatZP
import Derived.Shelf.SlIterI.Sorted
import Derived.RangeFuncBox
import Derived.RangeFuncLeaves
import Derived.WalkKit
import Derived.OwnWalkIn
import Derived.TacticsInMore
import Derived.LoopNIn
import Derived.LoopIn
set_option linter.all false
namespace Go.Proofs
open Go.RowKit Go.Maps Go.Sort Go.Shelf
def Nu (F : Fence) (n : Nat) (P : Program) (g : Nat) (lb : Array Value) (zs : List Int) (w : World) : Prop :=
  ∀ (l : Nat) (J : List Int → World → Prop) (W : World), Below w.heap.size w W → (∀ s W1, J s W1 → Below w.heap.size w W1) →
    (∀ pre x W1, J pre W1 → pre.length < zs.length → YieldAt F (n - 1) P l #[encZ x] W1 fun e W' => e = .returned (.bool true) ∧ J (pre ++ [x]) W' ∧ KeepsWalks W1 W') →
    J [] W →
    CallsIn F n P g (#[.func (.yield l) #[] #[]] ++ lb) W fun e W' => (∃ v, e = .returned v) ∧ J zs W'
section
variable {P : Program} {ρ : Ren}
set_option maxRecDepth 100000 in
set_option maxHeartbeats 2000000 in
theorem OS (L : SlLaysZI.n11 P ρ) (F : Fence) (n : Nat) (h11 : F.fn (ρ.f 11)) (hro : F.round = none) (hn : 2 ≤ n) (g : Nat) (lb : Array Value) (hFg : F.fn g) (eg : ∀ args w, (callFunc g args).run P w = .ok (.enter g args) w)
    (zs : List Int) (hN : zs.length ≤ maxLen) (hNb : zs.length * 8 ≤ 140737488355328) (w : World) (hseq : Nu F (n - 1) P g lb zs w) :
    CallsIn F n P (ρ.f 11) #[.slice none 0 0, .func (.func g) #[] lb] w fun e w' => ∃ v : Value, e = .returned v ∧ w'.ownsRow w.heap.size (ρ.t 26) 1 v zs.length (zs.map encZ) ∧ (v = .slice none 0 0 ↔ zs = []) ∧ Below w.heap.size w w' := by
  have h1 : 1 ≤ n := by omega
  have mixed := L.mixed; have t0 := L.t0; have a0 := L.a0; have z0 := L.z0; have v0 := L.v0; have t24 := L.t24; have a24 := L.a24; have z24 := L.z24; have v24 := L.v24; have t26 := L.t26; have a26 := L.a26; have z26 := L.z26; have v26 := L.v26; have t28 := L.t28; have a28 := L.a28; have z28 := L.z28; have v28 := L.v28
  have hne : ρ.t 24 ≠ ρ.t 26 := fun e => by have h := L.t24; rw [e, L.t26] at h; cases h
  have u0 := run_underlying L.t0; have u24 := run_underlying L.t24; have u26 := run_underlying L.t26; have u28 := run_underlying L.t28
  obtain ⟨_, _, FG⟩ := L.f11
  refine callsIn_of_wp_marks FG rfl h11 ?_ hro
  simp only [SlBodyZ.n11_ntmps ρ, List.size_toArray, List.length_cons, List.length_nil, Nat.reduceAdd, Nat.reduceSub, Array.replicate_succ, Array.replicate_zero, List.push_toArray, List.append_toArray, List.nil_append, List.cons_append]
  gi_wp2
  refine wpIn_rangeFunc ?_
  intro fn hfn
  rw [hro]
  obtain ⟨W0, hW0⟩ : ∃ W0, w.alloc (.cells #[.slice none 0 0] (ρ.t 24)) = W0 := ⟨_, rfl⟩
  have hs0 : W0.heap.size = w.heap.size + 1 := by rw [← hW0]; simp
  have hv0 : W0.heap[w.heap.size]? = some (.cells #[.slice none 0 0] (ρ.t 24) (0, 0)) := by rw [← hW0]; exact World.alloc_heap_new w _
  have hb0 : Below w.heap.size w W0 := by rw [← hW0]; exact (Below.refl _ w).alloc (Nat.le_refl _) _
  rw [hW0]
  obtain ⟨W1, hW1⟩ : ∃ W1, (W0.alloc (.deferred (some []))).alloc (.loop (AnyZI.apRec ρ fn (.func (.func g) #[] lb) w.heap.size W0.heap.size .ready none)) = W1 := ⟨_, rfl⟩
  have hold : ∀ k, k < W0.heap.size → W1.heap[k]? = W0.heap[k]? := fun k hk => by
    rw [← hW1]; exact (Below.heap_alloc _ _ k (by simp; omega)).trans (Below.heap_alloc _ _ k hk)
  have hb1 : Below w.heap.size w W1 := by rw [← hW1]; exact (hb0.alloc hb0.size _).alloc (by have := hb0.size; simp; omega) _
  have hs1 : W1.heap.size = W0.heap.size + 2 := by rw [← hW1]; simp
  have hM : AnyZI.ApAt ρ w fn (.func (.func g) #[] lb) w.heap.size (W0.heap.size + 1) W0.heap.size [] W1 :=
    ⟨⟨_, (hold w.heap.size (by omega)).trans hv0, ⟨rfl, .inl ⟨rfl, rfl⟩⟩, by simp⟩,
     by rw [← hW1]; have := World.alloc_heap_new (W0.alloc (.deferred (some []))) (.loop (AnyZI.apRec ρ fn (.func (.func g) #[] lb) w.heap.size W0.heap.size .ready none)); rwa [World.size_alloc] at this,
     by rw [← hW1]; exact (Below.heap_alloc _ _ _ (by simp)).trans (World.alloc_heap_new W0 _), hb1⟩
  refine ⟨W0.heap.size + 1, [{ target := .collected W0.heap.size, args := #[] }], W1, { target := .fn (.func g) lb, args := #[.func (.yield (W0.heap.size + 1)) #[] #[]] }, W1, g,
    #[.func (.yield (W0.heap.size + 1)) #[] #[]] ++ lb, W1, ?_, ?_, ?_, ?_, fun _ => h1, ?_⟩
  · rw [← hW1]; exact run_enterLoop_outer _ _ _ _ _
  · simp [resolve, go_sem]
  · intro f' hf'; simp [Target.leads] at hf'; subst hf'; exact hFg
  · simp [invoke, go_sem, eg]
  · refine (hseq (W0.heap.size + 1) (AnyZI.ApAt ρ w fn (.func (.func g) #[] lb) w.heap.size (W0.heap.size + 1) W0.heap.size) W1 hb1 (fun s W1 h => h.below)
      (fun pre x W hJ hl => AnyZI.apYield { L with } F (n - 1 - 1) w fn hfn _ w.heap.size (W0.heap.size + 1) W0.heap.size (by omega) (by omega) (by omega) (Nat.le_refl _) (by omega) zs.length hN hNb pre x W hJ hl) hM).mono ?_
    rintro e W2 ⟨⟨v0, rfl⟩, h2⟩
    obtain ⟨v, hv, hrow, hnil⟩ := h2.box
    have hend := run_endLoop (P := P) h2.L (by simp [AnyZI.apRec])
    obtain ⟨W3, hW3⟩ : ∃ W3, W2.putObj (W0.heap.size + 1) (.loop { AnyZI.apRec ρ fn (.func (.func g) #[] lb) w.heap.size W0.heap.size .ready none with state := .exhausted }) = W3 := ⟨_, rfl⟩
    rw [hW3] at hend
    have hg3 : W2.grownBy W3 (some (W0.heap.size + 1)) := by rw [← hW3]; exact grownBy_putObj_a _ _ _
    have hv3 : W3.heap[w.heap.size]? = some (.cells #[v] (ρ.t 24) (0, 0)) := by rw [← hW3]; exact (World.putObj_heap_other (by omega)).trans hv
    have hK3 : W3.heap[W0.heap.size]? = some (.deferred (some [])) := by rw [← hW3]; exact (World.putObj_heap_other (by omega)).trans h2.K
    have hrow3 := hrow.kept hg3 (ownsRow_ne_a hrow h2.L (fun cur e => by first | cases e | exact hne (Obj.cells.inj e).2.1))
    have hb3 : Below w.heap.size w W3 := h2.below.grown hg3 h2.below.size (fun k e => by cases e; omega)
    obtain ⟨hc3, hf3⟩ := cell_of_box_a hv3
    clear hW3
    refine ⟨none, W3, hend, ?_⟩
    gi_wp2
    rw [← hs0]
    refine ⟨by simp, .inl ⟨_, _, rfl, run_takeDeferred hK3, ?_⟩⟩
    exact ⟨_, results_tmp rfl _ _ _, v, rfl, hrow3.kept (grownBy_putObj_a _ _ _) (ownsRow_ne_a hrow3 hK3 (fun cur e => by first | cases e | exact hne (Obj.cells.inj e).2.1)), hnil, hb3.grown (grownBy_putObj_a _ _ _) hb3.size (fun k e => by cases e; omega)⟩
set_option maxHeartbeats 1000000 in
theorem LC (L : SlLaysZI.n8 P ρ) (F : Fence) (n : Nat) (h8 : F.fn (ρ.f 8)) (h11 : F.fn (ρ.f 11)) (hro : F.round = none) (hn : 3 ≤ n) (g : Nat) (lb : Array Value) (hFg : F.fn g) (eg : ∀ args w, (callFunc g args).run P w = .ok (.enter g args) w)
    (zs : List Int) (hN : zs.length ≤ maxLen) (hNb : zs.length * 8 ≤ 140737488355328) (w : World) (hseq : Nu F (n - 1 - 1) P g lb zs w) :
    CallsIn F n P (ρ.f 8) #[.func (.func g) #[] lb] w fun e w' => ∃ v : Value, e = .returned v ∧ w'.ownsRow w.heap.size (ρ.t 26) 1 v zs.length (zs.map encZ) ∧ (v = .slice none 0 0 ↔ zs = []) ∧ Below w.heap.size w w' := by
  have h1 : 1 ≤ n := by omega
  have e11 : ∀ args w, (callFunc (ρ.f 11) args).run P w = .ok (.enter (ρ.f 11) args) w := L.f11.enters rfl
  have mixed := L.mixed; have t0 := L.t0; have a0 := L.a0; have z0 := L.z0; have v0 := L.v0; have t24 := L.t24; have a24 := L.a24; have z24 := L.z24; have v24 := L.v24; have t26 := L.t26; have a26 := L.a26; have z26 := L.z26; have v26 := L.v26; have t28 := L.t28; have a28 := L.a28; have z28 := L.z28; have v28 := L.v28
  have u0 := run_underlying L.t0; have u24 := run_underlying L.t24; have u26 := run_underlying L.t26; have u28 := run_underlying L.t28
  obtain ⟨_, _, FG⟩ := L.f8
  refine callsIn_of_wp FG rfl h8 ?_ hro
  simp only [SlBodyZ.n8_ntmps ρ, List.size_toArray, List.length_cons, List.length_nil, Nat.reduceAdd, Nat.reduceSub, Array.replicate_succ, Array.replicate_zero, List.push_toArray, List.append_toArray, List.nil_append, List.cons_append]
  gi_wp2_with (gi_at_fn (ρ.f 11); refine (OS { L with } F (n - 1) h11 hro (by omega) g lb hFg eg zs hN hNb _ hseq).mono ?_; rintro e w' ⟨v, rfl, hrow, hnil, hb⟩)
  go_ret
  exact ⟨v, rfl, hrow, hnil, hb⟩
set_option maxRecDepth 100000 in
set_option maxHeartbeats 2000000 in
theorem GH (L : SlLaysZI.n6 P ρ) (F : Fence) (n : Nat) (h6 : F.fn (ρ.f 6)) (h8 : F.fn (ρ.f 8)) (h9 : F.fn (ρ.f 9)) (h11 : F.fn (ρ.f 11)) (hro : F.round = none) (hn : 4 ≤ n) (hsort : AnyZI.SortsIn P ρ F (n - 1)) (e9 : ∀ args w, (callFunc (ρ.f 9) args).run P w = .ok (.enter (ρ.f 9) args) w) (g : Nat) (lb : Array Value) (hFg : F.fn g) (eg : ∀ args w, (callFunc g args).run P w = .ok (.enter g args) w)
    (zs : List Int) (hN : zs.length ≤ maxLen) (hNb : zs.length * 8 ≤ 140737488355328) (w : World) (hseq : Nu F (n - 1 - 1 - 1) P g lb zs w) :
    CallsIn F n P (ρ.f 6) #[.func (.func g) #[] lb] w fun e w' => ∃ v : Value, e = .returned v ∧
      w'.ownsRow w.heap.size (ρ.t 26) 1 v zs.length ((zs.mergeSort (fun x y => decide (x ≤ y))).map encZ) ∧ (v = .slice none 0 0 ↔ zs = []) ∧ Below w.heap.size w w' := by
  have h1 : 1 ≤ n := by omega
  have e8 : ∀ args w, (callFunc (ρ.f 8) args).run P w = .ok (.enter (ρ.f 8) args) w := L.f8.enters rfl
  have mixed := L.mixed; have t0 := L.t0; have a0 := L.a0; have z0 := L.z0; have v0 := L.v0; have t24 := L.t24; have a24 := L.a24; have z24 := L.z24; have v24 := L.v24; have t26 := L.t26; have a26 := L.a26; have z26 := L.z26; have v26 := L.v26; have t28 := L.t28; have a28 := L.a28; have z28 := L.z28; have v28 := L.v28
  have u0 := run_underlying L.t0; have u24 := run_underlying L.t24; have u26 := run_underlying L.t26; have u28 := run_underlying L.t28
  obtain ⟨_, _, FG⟩ := L.f6
  refine callsIn_of_wp FG rfl h6 ?_ hro
  simp only [SlBodyZ.n6_ntmps ρ, List.size_toArray, List.length_cons, List.length_nil, Nat.reduceAdd, Nat.reduceSub, Array.replicate_succ, Array.replicate_zero, List.push_toArray, List.append_toArray, List.nil_append, List.cons_append]
  gi_wp2_with (gi_at_fn (ρ.f 8); refine (LC { L with } F (n - 1) h8 h11 hro (by omega) g lb hFg eg zs hN hNb _ hseq).mono ?_; rintro e W ⟨v, rfl, hrow, hnil, hb⟩)
  rcases hrow.2 with ⟨rfl, hz⟩ | ⟨gb, cap, cur, rfl, hbase, hgb, r1, r2, r3, r4⟩
  · have hss : zs = [] := List.eq_nil_of_length_eq_zero hz
    subst hss
    gi_wp2_with (gi_at_fn (ρ.f 9); refine (hsort.2 none 0 W).mono ?_; rintro e w' ⟨rfl, rfl⟩)
    go_ret
    exact ⟨.slice none 0 0, rfl, by simpa using hrow, by simp, hb⟩
  · have hH : Holds encZ W gb 0 zs.toArray := holds_of_block_i hgb (by simpa using r4)
    have hgl : gb < W.heap.size := (Array.getElem?_eq_some_iff.1 hgb).1
    have hsz : zs.length < 4611686018427387904 := by omega
    have cS := hsort.1 gb 0 cap zs W hH hgl hsz
    gi_wp2_with (gi_at_fn (ρ.f 9); refine cS.mono ?_; rintro e w' ⟨rfl, nn, os, rfl⟩)
    go_ret
    exact ⟨_, rfl, ownsRow_sorted_i (by simp) hbase hgb r1 r2 r3, hnil, hb.grown (grownBy_sorted_i _) hb.size (fun j hj => by cases hj; exact hbase)⟩
end
def Xu (w : World) (sv : Value) (zs : List Int) : Prop :=
  (∃ p cap, sv = .slice p 0 cap ∧ zs = []) ∨ ∃ b off cap, sv = .slice (some ⟨b, off, none⟩) zs.length cap ∧ b < w.heap.size ∧ ∀ j, j < zs.length → w.cell? ⟨b, off + j, none⟩ = some (.int .i64 (zs[j]?.getD 0))
def SE (P : Program) (j : Nat) : Prop :=
  ∀ (n Bs : Nat) (sv : Value) (zs : List Int) (w : World), 1 ≤ n → zs.length * 8 ≤ 140737488351232 → Bs < w.heap.size → w.cell? ⟨Bs, 0, none⟩ = some sv → Xu w sv zs →
    Nu Fence.wide n P j #[.pointer (some ⟨Bs, 0, none⟩)] zs w
end Go.Proofs
namespace Go.Ev
open Go
section
variable [Names]
theorem JJ {F : Fz} {g : Gh} {H : af} {w : Go.World} (hH : az F g H w) {v : Value} {d : D} {x : T} (hv : bF F g (shp H) v d) (h : xX H d = some (.t x)) :
    ∃ F1 : Fz, lP F1 v x ∧ ∀ b o u, F1 b o = some u → w.cell? ⟨b, o, none⟩ = some u := by
  have byF : frz H depth d = some x → ∃ F1 : Fz, lP F1 v x ∧ ∀ b o u, F1 b o = some u → w.cell? ⟨b, o, none⟩ = some u := fun hf =>
    ⟨_, C2 hH depth hv hf, (hH.frz _).agree⟩
  cases d with
  | t y =>
    simp only [xX, Option.some.injEq, D.t.injEq] at h
    subst h
    cases hv with
    | t v x h => exact ⟨F, h, hH.agree⟩
  | nil =>
    simp only [xX, Option.some.injEq, D.t.injEq] at h
    subst h
    cases hv
    exact ⟨F, .sl0 none 0, hH.agree⟩
  | agg cs =>
    simp only [xX, Option.map_eq_some_iff, D.t.injEq, exists_eq_right] at h
    exact byF h
  | ref id ep n =>
    simp only [xX, Option.map_eq_some_iff, D.t.injEq, exists_eq_right] at h
    exact byF h
  | sub id ep n lo hi =>
    simp only [xX, Option.map_eq_some_iff, D.t.injEq, exists_eq_right] at h
    exact byF h
  | _ => simp [xX] at h
theorem GI {x : T} {l : List Int} (h : GL x = some l) : x = .sl (l.map (.int .i64)) := by
  unfold GL at h
  split at h
  · rename_i es
    congr 1
    induction es generalizing l with
    | nil => simp [cK] at h; subst h; rfl
    | cons e es ih =>
      simp only [cK, Option.bind_eq_some_iff, Option.map_eq_some_iff] at h
      obtain ⟨y, hy, r, hr, rfl⟩ := h
      split at hy
      · cases hy; rw [ih hr]; rfl
      · cases hy
  · cases h
theorem ints_at {F : Fz} {w : Go.World} {v : Value} {zs : List Int} (h : lP F v (.sl (zs.map (.int .i64)))) (ha : ∀ b o u, F b o = some u → w.cell? ⟨b, o, none⟩ = some u) : Go.Proofs.Xu w v zs := by
  generalize hx : T.sl (zs.map (.int .i64)) = x at h
  cases h with
  | sl0 a cap =>
    simp only [T.sl.injEq, List.map_eq_nil_iff] at hx
    exact .inl ⟨a, cap, rfl, hx⟩
  | sl b off cap sz es cv hcap hsz hF hr =>
    simp only [T.sl.injEq] at hx
    subst hx
    rw [List.length_map]
    by_cases h0 : zs = []
    · subst h0; exact .inl ⟨_, _, rfl, rfl⟩
    · have hz : sz = 1 := by
        obtain ⟨z, r, rfl⟩ := List.exists_cons_of_ne_nil h0
        exact (hsz (.int .i64 z) (by simp)).symm
      subst hz
      have cell : ∀ j, j < zs.length → w.cell? ⟨b, off + j, none⟩ = some (.int .i64 (zs[j]?.getD 0)) := by
        intro j hj
        have e1 : (zs.map (T.int .i64))[j]? = some (.int .i64 (zs[j]?.getD 0)) := by simp [hj]
        have f := (hF j _ 0 _ e1 rfl).1
        have r := hr j _ 0 _ e1 rfl
        rw [Nat.mul_one, Nat.add_zero] at f
        generalize cv j 0 = u at f r
        cases r
        exact ha _ _ _ f
      refine .inr ⟨b, off, cap, rfl, ?_, cell⟩
      have c := cell 0 (List.length_pos_iff.2 h0)
      unfold Go.World.cell? at c
      cases hh : w.heap[b]? with
      | none => simp [hh] at c
      | some o => exact gH hh
  | _ => cases hx
theorem LD {P : Program} {ρ ρs : Go.Shelf.Ren} (L : Go.Proofs.SlLaysZI.n6 P ρs) (Ly : Go.Proofs.Lays.n189 P ρ) (same : ρs.f 9 = ρ.f 189) (e9 : ∀ args w, (callFunc (ρs.f 9) args).run P w = .ok (.enter (ρs.f 9) args) w) {f j : Nat} (hj : Names.ρ f = some j)
    (ej : ∀ args w, (callFunc j args).run P w = .ok (.enter j args) w) (V : Go.Proofs.SE P j) : sE P (ρs.f 6) [2, f] := by
  intro args H r H' h F g w vargs hrel hH K hK
  simp only [GM] at h
  split at h
  · rename_i f' id
    split at h
    · rename_i hff
      subst hff
      split at h
      · rename_i d ho
        obtain ⟨a, ha, h⟩ := Option.bind_eq_some_iff.1 h
        split at h
        · rename_i x
          obtain ⟨l, hl, h⟩ := Option.bind_eq_some_iff.1 h
          split at h
          · rename_i hlim
            simp only [Option.some.injEq, Prod.mk.injEq] at h
            obtain ⟨rfl, rfl⟩ := h
            have hx := GI hl
            subst hx
            obtain ⟨v, rfl⟩ : ∃ v, vargs = [v] := by
              have := hrel.1
              match vargs, this with
              | [v], _ => exact ⟨v, rfl⟩
            have hv := hrel.2 0 v _ rfl rfl
            generalize hd : D.fn f [D.bp id 0] = fd at hv
            cases hv with
            | fn f2 j2 hj2 vs cs hlen hvs =>
              simp only [D.fn.injEq] at hd
              obtain ⟨rfl, rfl⟩ := hd
              rw [hj] at hj2; cases hj2
              obtain ⟨p, rfl⟩ : ∃ p, vs = [p] := by
                match vs, hlen with
                | [p], _ => exact ⟨p, rfl⟩
              have hp := hvs 0 p _ rfl rfl
              cases hp with
              | bp id off b c hg hs =>
                obtain ⟨b', c', ty, hb', hc, hsz, hcv, hnF⟩ := (hH.fits id _ _ ho hg).born
                cases hb'
                obtain ⟨sv, hsv⟩ : ∃ sv, c'[0]? = some sv := ⟨c'[0]'(by rw [hsz]; exact Nat.zero_lt_one), Array.getElem?_eq_getElem _⟩
                have hrel2 := (hcv 0 sv d hsv rfl).2
                obtain ⟨F1, hr1, hag⟩ := JJ hH hrel2 ha
                have hI := ints_at hr1 hag
                have hcell : w.cell? ⟨b, 0, none⟩ = some sv := by simp [Go.World.cell?, hc, hsv]
                have big : l.length ≤ 4294967296 := hlim
                have gives := V 1 b sv l w (Nat.le_refl _) (by omega) (gH hc) hcell hI
                have sorts : Go.Proofs.AnyZI.SortsIn P ρs Fence.wide 3 :=
                  ⟨fun blk off cap ss W h1 h2 h3 => callsIn_wide.2 (by rw [same]; exact Go.Proofs.Any.slices_Sort_int Ly blk off cap ss W h1 h2 h3),
                   fun p cap W => callsIn_wide.2 (by rw [same]; exact Go.Proofs.Any.slices_Sort_int_none Ly p cap W)⟩
                have hml : l.length ≤ Go.maxLen := by unfold Go.maxLen; omega
                have C := callsIn_wide.1 (Go.Proofs.GH L Fence.wide 4 trivial trivial trivial trivial rfl (Nat.le_refl _) sorts e9 j #[.pointer (some ⟨b, 0, none⟩)] trivial ej l hml (by omega) w gives)
                refine C.mono ?_
                rintro e w' ⟨v, rfl, hrow, -, hB⟩
                refine ⟨v, rfl, ?_⟩
                have hgrow := hH.grow (w' := w') hB.block
                have hio : xk w w' := ⟨hB.os, hB.output⟩
                rw [Hx] at hrow
                rcases hrow.2 with ⟨rfl, hz⟩ | ⟨gb, cap, cur, rfl, hbase, hgb, r1, r2, r3, r4⟩
                · have hl0 : l = [] := List.eq_nil_of_length_eq_zero hz
                  subst hl0
                  exact hK _ _ F g (.t _ _ (.sl0 none 0)) hgrow (Ext.grow hB.size hB.block hio) (Aft.refl g _)
                · have hno : ¬ g.has gb := fun h => by have := hH.lt h; omega
                  have hF0 : ∀ o v, F gb o ≠ some v := fun o v h => by have := hH.ltF h; omega
                  have hsub : mS F (fun b o => if b = gb then (if o < l.length then cur[o]? else none) else F b o) := by
                    intro b o v h
                    have : b ≠ gb := fun e => hF0 o v (e ▸ h)
                    simp only [this, if_false]; exact h
                  have cells : ∀ j, j < l.length → cur[j]? = some (.int .i64 ((oS l)[j]?.getD 0)) := by
                    intro j hj
                    have h1 : (cur.toList.take (l.length * 1))[j]? = some (.int .i64 ((oS l)[j]?.getD 0)) := by
                      rw [r4]
                      have hj2 : j < (oS l).length := by rw [ov]; exact hj
                      rw [List.getElem?_map, List.getElem?_eq_getElem hj2]; rfl
                    rw [List.getElem?_take, if_pos (by omega)] at h1
                    simpa using h1
                  have hH2 : az (fun b o => if b = gb then (if o < l.length then cur[o]? else none) else F b o) g H w' := by
                    refine PV hgrow hsub (fun b o v h hg => ?_) (fun b o v h => ?_)
                    · have : b ≠ gb := fun e => hno (e ▸ hg)
                      simpa only [this, if_false] using h
                    · by_cases e : b = gb
                      · subst e
                        simp only [if_true] at h
                        split at h
                        · simp [Go.World.cell?, hgb, h]
                        · cases h
                      · simp only [e, if_false] at h
                        exact hgrow.agree b o v h
                  refine hK _ _ _ g ?_ hH2 ⟨hsub, hB.size, fun b hb _ => hB.block b hb, fun _ h => .inl h, fun b o v h => ?_, hio⟩ (Aft.refl g _)
                  · have hls : ((oS l).map (T.int .i64)).length = l.length := by rw [List.length_map, ov]
                    have := lP.sl (F := fun b o => if b = gb then (if o < l.length then cur[o]? else none) else F b o) gb 0 cap 1 ((oS l).map (T.int .i64)) (fun i _ => .int .i64 ((oS l)[i]?.getD 0)) (by rw [hls]; exact r1)
                      (fun e he => by obtain ⟨x, -, rfl⟩ := List.mem_map.1 he; rfl)
                      (fun i e k c he hc => by
                        have hi := aj he
                        rw [hls] at hi
                        have hk : k = 0 := by
                          obtain ⟨x, -, rfl⟩ := List.mem_map.1 (List.mem_of_getElem? he)
                          have : k < 1 := aj hc
                          omega
                        subst hk
                        simp only [Nat.zero_add, Nat.mul_one, Nat.add_zero, if_true, if_pos hi]
                        exact ⟨cells i hi, rfl⟩)
                      (fun i e k c he hc => by
                        have hi := aj he
                        rw [List.length_map] at hi
                        rw [List.getElem?_map, List.getElem?_eq_getElem hi] at he
                        cases he
                        have hk : k = 0 := by
                          have : k < 1 := aj hc
                          omega
                        subst hk
                        cases hc
                        rw [List.getElem?_eq_getElem hi]
                        exact .int _ _)
                    rw [hls] at this
                    exact .t _ _ this
                  · by_cases e : b = gb
                    · exact .inr (.inr (by omega))
                    · simp only [e, if_false] at h; exact .inl h
            | _ => cases hd
          · cases h
        · cases h
      · cases h
    · cases h
  · cases h
theorem Xv {P : Program} {ρ ρs : Go.Shelf.Ren} (L : Go.Proofs.SlLaysZI.n6 P ρs) (Ly : Go.Proofs.Lays.n189 P ρ) (same : ρs.f 9 = ρ.f 189) (e9 : ∀ args w, (callFunc (ρs.f 9) args).run P w = .ok (.enter (ρs.f 9) args) w) {f j : Nat} (hj : Names.ρ f = some j)
    (ej : ∀ args w, (callFunc j args).run P w = .ok (.enter j args) w) (V : Go.Proofs.SE P j) : sE P (ρs.f 6) [5, f] := by
  intro args H r H' h F g w vargs hrel hH K hK
  simp only [GM] at h
  split at h
  · rename_i f' id
    split at h
    · rename_i hff
      subst hff
      split at h
      · rename_i d ho
        obtain ⟨a, ha, h⟩ := Option.bind_eq_some_iff.1 h
        split at h
        · rename_i x
          obtain ⟨l, hl, h⟩ := Option.bind_eq_some_iff.1 h
          split at h
          · rename_i hlim
            have hres := h
            clear h
            have hx := GI hl
            subst hx
            obtain ⟨v, rfl⟩ : ∃ v, vargs = [v] := by
              have := hrel.1
              match vargs, this with
              | [v], _ => exact ⟨v, rfl⟩
            have hv := hrel.2 0 v _ rfl rfl
            generalize hd : D.fn f [D.bp id 0] = fd at hv
            cases hv with
            | fn f2 j2 hj2 vs cs hlen hvs =>
              simp only [D.fn.injEq] at hd
              obtain ⟨rfl, rfl⟩ := hd
              rw [hj] at hj2; cases hj2
              obtain ⟨p, rfl⟩ : ∃ p, vs = [p] := by
                match vs, hlen with
                | [p], _ => exact ⟨p, rfl⟩
              have hp := hvs 0 p _ rfl rfl
              cases hp with
              | bp id off b c hg hs =>
                obtain ⟨b', c', ty, hb', hc, hsz, hcv, hnF⟩ := (hH.fits id _ _ ho hg).born
                cases hb'
                obtain ⟨sv, hsv⟩ : ∃ sv, c'[0]? = some sv := ⟨c'[0]'(by rw [hsz]; exact Nat.zero_lt_one), Array.getElem?_eq_getElem _⟩
                have hrel2 := (hcv 0 sv d hsv rfl).2
                obtain ⟨F1, hr1, hag⟩ := JJ hH hrel2 ha
                have hI := ints_at hr1 hag
                have hcell : w.cell? ⟨b, 0, none⟩ = some sv := by simp [Go.World.cell?, hc, hsv]
                have big : l.length ≤ 4294967296 := hlim
                have gives := V 1 b sv l w (Nat.le_refl _) (by omega) (gH hc) hcell hI
                have sorts : Go.Proofs.AnyZI.SortsIn P ρs Fence.wide 3 :=
                  ⟨fun blk off cap ss W h1 h2 h3 => callsIn_wide.2 (by rw [same]; exact Go.Proofs.Any.slices_Sort_int Ly blk off cap ss W h1 h2 h3),
                   fun p cap W => callsIn_wide.2 (by rw [same]; exact Go.Proofs.Any.slices_Sort_int_none Ly p cap W)⟩
                have hml : l.length ≤ Go.maxLen := by unfold Go.maxLen; omega
                have C := callsIn_wide.1 (Go.Proofs.GH L Fence.wide 4 trivial trivial trivial trivial rfl (Nat.le_refl _) sorts e9 j #[.pointer (some ⟨b, 0, none⟩)] trivial ej l hml (by omega) w gives)
                refine C.mono ?_
                rintro e w' ⟨v, rfl, hrow, hnil, hB⟩
                refine ⟨v, rfl, ?_⟩
                have hgrow := hH.grow (w' := w') hB.block
                have hio : xk w w' := ⟨hB.os, hB.output⟩
                rw [Hx] at hrow
                by_cases h0 : l = []
                · rw [if_pos (by simpa using h0)] at hres
                  simp only [Option.some.injEq, Prod.mk.injEq] at hres
                  obtain ⟨rfl, rfl⟩ := hres
                  have vz := hnil.2 h0
                  subst vz
                  exact hK _ _ F g .nil hgrow (Ext.grow hB.size hB.block hio) (Aft.refl g _)
                · rw [if_neg (by simpa using h0)] at hres
                  simp only [Option.some.injEq, Prod.mk.injEq] at hres
                  obtain ⟨rfl, rfl⟩ := hres
                  rcases hrow.2 with ⟨rfl, hz⟩ | ⟨gb, cap, cur, rfl, hbase, hgb, r1, r2, r3, r4⟩
                  · exact absurd (List.eq_nil_of_length_eq_zero hz) h0
                  · have hno : ¬ g.has gb := fun h => by have := hH.lt h; omega
                    have hF0 : ∀ o v, F gb o ≠ some v := fun o v h => by have := hH.ltF h; omega
                    have A := Aft.append hH.len [(⟨some gb, cap⟩ : OG)] [Obj.arr 1 false 0 ((oS l).map fun x => D.t (T.int .i64 x))]
                    have hls : ((oS l).map fun x => D.t (T.int .i64 x)).length = l.length := by rw [List.length_map, ov]
                    have cells : ∀ j, j < l.length → cur[j]? = some (.int .i64 ((oS l)[j]?.getD 0)) := by
                      intro j hj
                      have h1 : (cur.toList.take (l.length * 1))[j]? = some (.int .i64 ((oS l)[j]?.getD 0)) := by
                        rw [r4]
                        have hj2 : j < (oS l).length := by rw [ov]; exact hj
                        rw [List.getElem?_map, List.getElem?_eq_getElem hj2]; rfl
                      rw [List.getElem?_take, if_pos (by omega)] at h1
                      simpa using h1
                    refine hK _ _ F (g ++ [⟨some gb, cap⟩]) ?_ (hgrow.add ⟨some gb, cap⟩ (.arr 1 false 0 ((oS l).map fun x => D.t (T.int .i64 x))) (.inr ⟨gb, cur, _, rfl, hgb, r3, by rw [hls]; omega, fun e he => ?_, fun i e k d he hd => ?_, fun o v hv => absurd hv (hF0 o v)⟩) ?_) ?_ A
                    · have := bF.ref (F := F) (g := g ++ [⟨some gb, cap⟩]) (S := shp (H ++ [.arr 1 false 0 ((oS l).map fun x => D.t (T.int .i64 x))])) H.length 0 l.length 1 ⟨some gb, cap⟩ (by rw [← hH.len]; simp) (by simp [shp, Obj.sh, ov]) (by simp)
                      exact this
                    · obtain ⟨x, hx, rfl⟩ := List.mem_map.1 he
                      exact ⟨rfl, rfl⟩
                    · rw [List.getElem?_map] at he
                      obtain ⟨x, hx, rfl⟩ := Option.map_eq_some_iff.1 he
                      have hi := aj hx
                      rw [ov] at hi
                      have hk : k = 0 := by
                        have : k < 1 := aj hd
                        omega
                      subst hk
                      cases hd
                      refine ⟨.int .i64 x, ?_, rfl, .t _ _ (.int _ _)⟩
                      have := cells i hi
                      rw [hx] at this
                      simpa using this
                    · intro b hb; cases hb; exact hno
                    · refine ⟨mS.refl F, hB.size, fun b hb _ => hB.block b hb, fun b hb => ?_, fun b o v h => .inl h, hio⟩
                      obtain ⟨og, hog, e⟩ := hb
                      rcases List.mem_append.1 hog with hog | hog
                      · exact .inl ⟨og, hog, e⟩
                      · rw [List.mem_singleton.1 hog] at e; cases e; exact .inr hbase
            | _ => cases hd
          · cases h
        · cases h
      · cases h
    · cases h
  · cases h
end
end Go.Ev
