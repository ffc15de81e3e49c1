/- Parts of the proof: see the text that holds the theorem. -/
import Derived.Test.YtgpjgilnofjbdaaGreatZPP
set_option linter.all false
namespace Go.Proofs
open Go.RowKit Go.Maps Go.Sort Go.Shelf
abbrev ais (p : Value × Value) : Value := .agg #[p.1, p.2]
def Nv (l : List (Value × Value)) : List Value := l.flatMap fun p => [p.1, p.2]
theorem SF (l : List (Value × Value)) (x : Value × Value) : Nv (l ++ [x]) = Nv l ++ [x.1, x.2] := by simp [Nv]
theorem ak1 (l : List (Value × Value)) : (Nv l).length = l.length * 2 := by
  induction l with
  | nil => rfl
  | cons x l ih => simp only [Nv, List.flatMap_cons, List.length_append, List.length_cons, List.length_nil] at ih ⊢; omega
def Ac (ρ : Ren) : Code := (Code.region 2 #[{ dst := some 5, op := Op.alloc (ρ.t 26), type := ρ.t 0, pos := "iter.go:51", after := #[], guard := none }, { dst := none, op := Op.store (ρ.t 26) (Operand.tmp 5) (Operand.tmp 7), type := ρ.t 0, pos := "iter.go:51", after := #[{ on := 0, ground := Ground.data }, { on := 0, ground := Ground.phase }], guard := none }] false)
def HL (ρ : Ren) : Code := (Code.block 1 (Code.region 3 #[{ dst := some 8, op := Op.load (ρ.t 24) (Operand.tmp 2), type := ρ.t 24, pos := "iter.go:52", after := #[], guard := none }, { dst := some 9, op := Op.load (ρ.t 26) (Operand.tmp 5), type := ρ.t 26, pos := "iter.go:52", after := #[], guard := none }, { dst := some 10, op := Op.buildSlice (ρ.t 24) 1 #[(0, Operand.tmp 9)], type := ρ.t 24, pos := "iter.go:52", after := #[{ on := 1, ground := Ground.data }], guard := none }, { dst := some 11, op := Op.call { callee := Callee.builtin Builtin.append, args := #[Operand.tmp 8, Operand.tmp 10], argTypes := #[ρ.t 24, ρ.t 24] }, type := ρ.t 24, pos := "iter.go:52", after := #[{ on := 0, ground := Ground.data }, { on := 2, ground := Ground.data }], guard := none }, { dst := none, op := Op.store (ρ.t 24) (Operand.tmp 2) (Operand.tmp 11), type := ρ.t 0, pos := "iter.go:52", after := #[{ on := 3, ground := Ground.data }, { on := 3, ground := Ground.chain }, { on := 0, ground := Ground.phase }, { on := 1, ground := Ground.phase }, { on := 2, ground := Ground.phase }, { on := 3, ground := Ground.phase }], guard := none }] false))
def u9 (ρ : Ren) (fn : FuncId) (sv : Value) (Bs D : Nat) (st : LoopState) (pend : Option Code) : Loop :=
  { state := st, pending := pend, fn, tmps := #[.slice none 0 0, sv, .pointer (some ⟨Bs, 0, none⟩), undef, .slice none 0 0, undef, sv, undef, undef, undef, undef, undef, undef], params := #[7], assign := Ac ρ, body := HL ρ, defers := D }
def apm (ρ : Ren) : Func :=
  { name := "", origin := "slices.AppendSeq", targs := #[ρ.t 24, ρ.t 26], params := #[ρ.t 24, ρ.t 28], resultTypes := #[ρ.t 24], nfree := 0, ntmps := 13, results := #[ResultVar.tmp 4],
    body := some ((Code.region 0 #[{ dst := some 2, op := Op.box (ρ.t 24) (Operand.tmp 0), type := ρ.t 0, pos := "iter.go:50", after := #[], guard := none }, { dst := some 4, op := Op.assign (Operand.const (Value.slice none 0 0)), type := ρ.t 24, pos := "iter.go:50", after := #[], guard := none }] false).seq
      (((Code.region 1 #[{ dst := some 6, op := Op.move (Operand.tmp 1), type := ρ.t 28, pos := "iter.go:51", after := #[], guard := none }] false).seq (Code.block 0 (Code.rangeFunc (Operand.tmp 6) #[7] (Ac ρ) (HL ρ)))).seq
        ((Code.region 4 #[{ dst := some 12, op := Op.load (ρ.t 24) (Operand.tmp 2), type := ρ.t 24, pos := "iter.go:54", after := #[], guard := none }, { dst := some 4, op := Op.assign (Operand.tmp 12), type := ρ.t 24, pos := "iter.go:54", after := #[{ on := 0, ground := Ground.data }, { on := 0, ground := Ground.phase }], guard := none }] false).seq Code.ret))),
    norace := false, file := "slices/iter.go", endLine := 55, tmpNames := #["s", "seq", "s", "seq", "", "v", "", "", "", "", "", "", ""] }
theorem OT (ρ : Ren) : (apm ρ).ntmps = 13 := rfl
structure ait (P : Program) (ρ : Ren) : Prop where
  mixed : P.follows .mixedOrders = true
  f8 : Bears P (ρ.f 8) (SlBodyZ.n8 ρ)
  f11 : Bears P (ρ.f 11) (apm ρ)
  t0 : P.underlying (ρ.t 0) = some (TypeDesc.tuple #[])
  a0 : ∀ w, (isAgg (ρ.t 0)).run P w = .ok false w
  z0 : ∀ w, (Go.sizeOf (ρ.t 0)).run P w = .ok 1 w
  v0 : ∀ w, (zeroValue (ρ.t 0)).run P w = .ok (Value.tuple #[]) w
  t24 : P.underlying (ρ.t 24) = some (TypeDesc.slice (ρ.t 26))
  a24 : ∀ w, (isAgg (ρ.t 24)).run P w = .ok false w
  z24 : ∀ w, (Go.sizeOf (ρ.t 24)).run P w = .ok 1 w
  v24 : ∀ w, (zeroValue (ρ.t 24)).run P w = .ok (Value.slice none 0 0) w
  t26 : ∃ fs, P.underlying (ρ.t 26) = some (TypeDesc.struct fs)
  a26 : ∀ w, (isAgg (ρ.t 26)).run P w = .ok true w
  z26 : ∀ w, (Go.sizeOf (ρ.t 26)).run P w = .ok 2 w
  v26 : ∀ w, (zeroValue (ρ.t 26)).run P w = .ok (.agg #[.slice none 0 0, .slice none 0 0]) w
  t28 : P.underlying (ρ.t 28) = some (TypeDesc.func #[ρ.t 33] #[] false)
  a28 : ∀ w, (isAgg (ρ.t 28)).run P w = .ok false w
  z28 : ∀ w, (Go.sizeOf (ρ.t 28)).run P w = .ok 1 w
  v28 : ∀ w, (zeroValue (ρ.t 28)).run P w = .ok (Value.nilFunc) w
  i26 : (P.info? (ρ.t 26)).map (fun i => (i.zero, i.size, i.bytes)) = some (some (.agg #[.slice none 0 0, .slice none 0 0]), 2, 48)
theorem pY (w : World) (x y : Value) (t : TypeId) : ∀ j u, [x, y][j]? = some u → (w.alloc (.cells #[x, y] t)).cell? ((⟨w.heap.size, 0, none⟩ : Addr).add j) = some u := by
  intro j u hj
  have key : (w.alloc (.cells #[x, y] t)).heap[w.heap.size]? = some (.cells #[x, y] t (0, 0)) := World.alloc_heap_new w _
  match j, hj with
  | 0, hj => simp at hj; subst hj; simp only [World.cell?, Addr.add, if_true, key, Option.isSome_none, Bool.false_eq_true, if_false]; rfl
  | 1, hj => simp at hj; subst hj; simp only [World.cell?, Addr.add, Nat.one_ne_zero, if_false, Nat.zero_add, key, Option.isSome_none, Bool.false_eq_true]; rfl
theorem LF {α : Type} (h : Array α) (o : α) (f : α → α) : (h.push o).modify h.size f = h.push (f o) := by
  refine Array.ext (by simp) fun i h1 h2 => ?_
  rw [Array.getElem_modify]
  simp only [Array.getElem_push]
  simp at h2
  by_cases hi : i < h.size
  · rw [if_neg (by omega)]; simp [hi]
  · rw [if_pos (by omega)]; simp [hi]
theorem Ep (W : World) (c : Array Value) (t : TypeId) (o : Nat) (x : Value) : (W.alloc (.cells c t)).setCell ⟨W.heap.size, o, none⟩ x = W.alloc (.cells (c.setIfInBounds o x) t) :=
  congrArg (fun h => { W with heap := h }) (LF W.heap (.cells c t) _)
theorem GJ (W : World) (c : Array Value) (t : TypeId) (o : Nat) : (W.alloc (.cells c t)).frozen? ⟨W.heap.size, o, none⟩ = false := by
  have key : (W.alloc (.cells c t)).heap[W.heap.size]? = some (.cells c t (0, 0)) := World.alloc_heap_new W _
  unfold World.frozen?
  rw [key]
  simp
theorem JK (P : Program) (W : World) (x y z0 z1 : Value) (t : TypeId) (hx : x.oneCell' = true) (hy : y.oneCell' = true) :
    (((store ⟨W.heap.size, 0, none⟩ x).run P (W.alloc (.cells #[z0, z1] t))).andThen fun _ w' => (store ⟨W.heap.size, 1, none⟩ y).run P w') = .ok () (W.alloc (.cells #[x, y] t)) := by
  rw [run_store _ _ _ _ _ hx]
  have c0 : (W.alloc (.cells #[z0, z1] t)).cell? ⟨W.heap.size, 0, none⟩ = some z0 := pY W z0 z1 t 0 z0 rfl
  simp only [c0, GJ, Ep, Bool.false_eq_true, if_false]
  have c1 : (W.alloc (.cells #[x, z1] t)).cell? ⟨W.heap.size, 1, none⟩ = some z1 := pY W x z1 t 1 z1 rfl
  have e0 : (#[z0, z1] : Array Value).setIfInBounds 0 x = #[x, z1] := rfl
  have e1 : (#[x, z1] : Array Value).setIfInBounds 1 y = #[x, y] := rfl
  simp only [Result.andThen, e0]
  rw [run_store _ _ _ _ _ hy]
  simp only [c1, GJ, Ep, e1, Bool.false_eq_true, if_false]
def SG (F : Fence) (n : Nat) (P : Program) (g : Nat) (lb : Array Value) (zs : List (Value × Value)) (w : World) : Prop :=
  ∀ (l : Nat) (J : List (Value × Value) → World → Prop) (W : World), Below w.heap.size w W → (∀ s W1, J s W1 → Below w.heap.size w W1) → (∀ s W1 o, J s W1 → J s (W1.alloc o)) →
    (∀ pre x W1, J pre W1 → pre.length < zs.length → x ∈ zs → YieldAt F (n - 1) P l #[ais x] W1 fun e W' => e = .returned (.bool true) ∧ J (pre ++ [x]) W' ∧ KeepsWalks W1 W') →
    J [] W →
    CallsIn F n P g (#[.func (.yield l) #[] #[]] ++ lb) W fun e W' => (∃ v, e = .returned v) ∧ J zs W'
section
variable {P : Program} {ρ : Ren}
structure LG (ρ : Ren) (w0 : World) (fn : FuncId) (sv : Value) (Bs l D : Nat) (ss : List (Value × Value)) (W : World) : Prop where
  box : ∃ v, W.heap[Bs]? = some (.cells #[v] (ρ.t 24) (0, 0)) ∧ W.ownsRow w0.heap.size (ρ.t 26) 2 v ss.length (Nv ss) ∧ (v = .slice none 0 0 ↔ ss = [])
  L : W.heap[l]? = some (.loop (u9 ρ fn sv Bs D .ready none))
  K : W.heap[D]? = some (.deferred (some []))
  below : Below w0.heap.size w0 W
theorem LG.alloc {w0 : World} {fn : FuncId} {sv : Value} {Bs l D : Nat} {ss : List (Value × Value)} {W : World} (h : LG ρ w0 fn sv Bs l D ss W) (o : Obj) : LG ρ w0 fn sv Bs l D ss (W.alloc o) := by
  obtain ⟨v, hv, hrow, hn⟩ := h.box
  exact ⟨⟨v, (Below.heap_alloc _ _ Bs (Array.getElem?_eq_some_iff.1 hv).1).trans hv, hrow.alloc _, hn⟩, (Below.heap_alloc _ _ l (Array.getElem?_eq_some_iff.1 h.L).1).trans h.L,
    (Below.heap_alloc _ _ D (Array.getElem?_eq_some_iff.1 h.K).1).trans h.K, h.below.alloc h.below.size _⟩
set_option maxRecDepth 100000 in
set_option maxHeartbeats 2000000 in
theorem VD (L : ait P ρ) (F : Fence) (m : Nat) (w0 : World) (fn : FuncId) (hfn : F.fn fn) (sv : Value) (Bs l D : Nat) (hBl : Bs ≠ l) (hDl : D ≠ l) (hDB : D ≠ Bs) (h0B : w0.heap.size ≤ Bs) (h0l : w0.heap.size ≤ l)
    (N : Nat) (hN : N ≤ maxLen) (hNb : N * 48 ≤ 140737488355328) (ss : List (Value × Value)) (x : Value × Value) (W : World) (hx : x.1.oneCell' = true ∧ x.2.oneCell' = true) (h : LG ρ w0 fn sv Bs l D ss W) (hlen : ss.length < N) :
    YieldAt F m P l #[ais x] W fun e W' => e = .returned (.bool true) ∧ LG ρ w0 fn sv Bs l D (ss ++ [x]) W' ∧ KeepsWalks W W' := by
  have mixed := L.mixed; have t0 := L.t0; have a0 := L.a0; have z0 := L.z0; have v0 := L.v0; have t24 := L.t24; have a24 := L.a24; have z24 := L.z24; have v24 := L.v24; obtain ⟨fs26, t26⟩ := L.t26; have a26 := L.a26; have z26 := L.z26; have v26 := L.v26; have t28 := L.t28; have a28 := L.a28; have z28 := L.z28; have v28 := L.v28
  have hne : ρ.t 24 ≠ ρ.t 26 := fun e => by have h := L.t24; rw [e, t26] at h; cases h
  have u0 := run_underlying L.t0; have u24 := run_underlying L.t24; have u26 := run_underlying t26; have u28 := run_underlying L.t28
  obtain ⟨i0, hi, hz0, hz1, hz2⟩ := info_parts L.i26
  obtain ⟨hx1, hx2⟩ := hx
  obtain ⟨v, hv, hrow, _⟩ := h.box
  refine ⟨fn, #[.slice none 0 0, sv, .pointer (some ⟨Bs, 0, none⟩), undef, .slice none 0 0, undef, sv, ais x, undef, undef, undef, undef, undef], Ac ρ, HL ρ, by simpa [u9] using run_yield (P := P) (args := #[ais x]) h.L rfl, roundIn_of_wpIn hfn ?_⟩
  have hl0 : l < W.heap.size := (Array.getElem?_eq_some_iff.1 h.L).1
  have hB0 : Bs < W.heap.size := (Array.getElem?_eq_some_iff.1 hv).1
  have hD0 : D < W.heap.size := (Array.getElem?_eq_some_iff.1 h.K).1
  have hst := JK P W x.1 x.2 (.slice none 0 0) (.slice none 0 0) (ρ.t 26) hx1 hx2
  obtain ⟨Wa, hWa⟩ : ∃ Wa, W.alloc (.cells #[x.1, x.2] (ρ.t 26)) = Wa := ⟨_, rfl⟩
  have haL : Wa.heap[l]? = some (.loop (u9 ρ fn sv Bs D .ready none)) := by rw [← hWa]; exact (Below.heap_alloc _ _ l hl0).trans h.L
  have haB : Wa.heap[Bs]? = some (.cells #[v] (ρ.t 24) (0, 0)) := by rw [← hWa]; exact (Below.heap_alloc _ _ Bs hB0).trans hv
  have haK : Wa.heap[D]? = some (.deferred (some [])) := by rw [← hWa]; exact (Below.heap_alloc _ _ D hD0).trans h.K
  have haA : Wa.heap[W.heap.size]? = some (.cells #[x.1, x.2] (ρ.t 26) (0, 0)) := by rw [← hWa]; exact World.alloc_heap_new W _
  have hrowa : Wa.ownsRow w0.heap.size (ρ.t 26) 2 v ss.length (Nv ss) := by rw [← hWa]; exact hrow.alloc _
  have hba : Below w0.heap.size w0 Wa := by rw [← hWa]; exact h.below.alloc h.below.size _
  have hka : KeepsWalks W Wa := by rw [← hWa]; exact KeepsWalks.alloc _ _
  have hl : l < Wa.heap.size := (Array.getElem?_eq_some_iff.1 haL).1
  have hbr := run_beginRound (P := P) haL rfl
  obtain ⟨W2, hW2⟩ : ∃ W2, Wa.putObj l (.loop { u9 ρ fn sv Bs D .ready none with state := .busy }) = W2 := ⟨_, rfl⟩
  rw [hW2] at hbr
  have hg2 : Wa.grownBy W2 (some l) := by rw [← hW2]; exact grownBy_putObj_a _ _ _
  have hk2 : KeepsWalks W W2 := hka.trans (by rw [← hW2]; exact KeepsWalks.putObj _ haL rfl)
  have hA2 : W2.heap[W.heap.size]? = some (.cells #[x.1, x.2] (ρ.t 26) (0, 0)) := by rw [← hW2]; exact (World.putObj_heap_other (by omega)).trans haA
  have cA0 : W2.cell? ⟨W.heap.size, 0, none⟩ = some x.1 := by unfold World.cell?; simp only [hA2]; rfl
  have cA1 : W2.cell? ⟨W.heap.size, 1, none⟩ = some x.2 := by unfold World.cell?; simp only [hA2]; rfl
  have hv2 : W2.heap[Bs]? = some (.cells #[v] (ρ.t 24) (0, 0)) := by rw [← hW2]; exact (World.putObj_heap_other hBl).trans haB
  have hK2 : W2.heap[D]? = some (.deferred (some [])) := by rw [← hW2]; exact (World.putObj_heap_other hDl).trans haK
  have hL2 : W2.heap[l]? = some (.loop { u9 ρ fn sv Bs D .ready none with state := .busy }) := by rw [← hW2]; exact World.putObj_heap_same hl
  have hrow2 : W2.ownsRow w0.heap.size (ρ.t 26) 2 v ss.length (Nv ss) := hrowa.kept hg2 (ownsRow_ne_a hrowa haL (fun cur e => by first | cases e | exact hne (Obj.cells.inj e).2.1))
  have hb2 : Below w0.heap.size w0 W2 := hba.grown hg2 hba.size (fun k e => by cases e; exact h0l)
  obtain ⟨hc2, hf2⟩ := cell_of_box_a hv2
  have hBlt : Bs < W2.heap.size := (Array.getElem?_eq_some_iff.1 hv2).1
  have hl2 : l < W2.heap.size := (Array.getElem?_eq_some_iff.1 hL2).1
  have hDlt : D < W2.heap.size := (Array.getElem?_eq_some_iff.1 hK2).1
  have ne_of : ∀ {j : Nat} {o : Obj}, W2.heap[j]? = some o → (∀ cur, o ≠ .cells cur (ρ.t 26) (0, 0)) → some j ≠ v.ownBlock := fun hj hno => by
    rcases ownsRow_ne_a hrow2 hj hno with e | e
    · rw [e]; simp
    · exact fun e' => e e'.symm
  clear hW2
  unfold Ac
  gi_wp2_with gi_round_op_a
  unfold HL
  gi_wp2_with (first
    | (gi_at_builtin; refine wpListIn_append_own _ rfl _ _ (ρ.t 24) rfl w0.heap.size (ρ.t 26) i0 (.agg #[.slice none 0 0, .slice none 0 0]) 2 48 L.t24 hi hz0 hz1 hz2 rfl (by decide) _ _ _ rfl (hrow2.alloc _) ⟨W2.heap.size, 0, none⟩ 1 1 [x.1, x.2] rfl rfl (pY _ _ _ _) (by simp [hx1, hx2]) (by omega) (by omega) (by have := hb2.size; simp; omega) ?_; intro v' w3 hown' hg3 hnil3
       have hv3 : w3.heap[Bs]? = some (.cells #[v] (ρ.t 24) (0, 0)) := (hg3.block Bs (by simp; omega) (ne_of hv2 (fun cur e => by first | cases e | exact hne (Obj.cells.inj e).2.1))).trans ((Below.heap_alloc _ _ Bs hBlt).trans hv2)
       obtain ⟨hc3, hf3⟩ := cell_of_box_a hv3
       obtain ⟨g', cap', cur', rfl, hbase', hgb', hr1, hr2, hr3, hr4⟩ : ∃ g' cap' cur', v' = .slice (some ⟨g', 0, none⟩) (ss.length + 1) cap' ∧ w0.heap.size ≤ g' ∧ w3.heap[g']? = some (.cells cur' (ρ.t 26) (0, 0)) ∧ ss.length + 1 ≤ cap' ∧ cap' ≤ maxLen ∧ cur'.size = cap' * 2 ∧ cur'.toList.take ((ss.length + 1) * 2) = Nv ss ++ [x.1, x.2] := by
         rcases hown'.2 with ⟨_, h0⟩ | h'
         · exact absurd h0 (by omega)
         · exact h'
       go_frame)
    | gi_round_op_a)
  have hg3' : (W2.alloc (.cells #[x.1, x.2] (ρ.t 26))).grownBy w3 v.ownBlock := hg3
  have hL3 : w3.heap[l]? = some (.loop { u9 ρ fn sv Bs D .ready none with state := .busy }) := (hg3'.block l (by simp; omega) (ne_of hL2 (fun cur e => by first | cases e | exact hne (Obj.cells.inj e).2.1))).trans ((Below.heap_alloc _ _ l hl2).trans hL2)
  have hK3 : w3.heap[D]? = some (.deferred (some [])) := (hg3'.block D (by simp; omega) (ne_of hK2 (fun cur e => by first | cases e | exact hne (Obj.cells.inj e).2.1))).trans ((Below.heap_alloc _ _ D hDlt).trans hK2)
  obtain ⟨w4, hw4⟩ : ∃ w4, w3.setCell ⟨Bs, 0, none⟩ (.slice (some ⟨g', 0, none⟩) (ss.length + 1) cap') = w4 := ⟨_, rfl⟩
  rw [hw4]
  have hg4 : w3.grownBy w4 (some Bs) := by rw [← hw4]; exact grownBy_setCell0_a _ _ _
  have hv4 : w4.heap[Bs]? = some (.cells #[.slice (some ⟨g', 0, none⟩) (ss.length + 1) cap'] (ρ.t 24) (0, 0)) := by rw [← hw4]; exact heap_setCell_box_a _ hv3
  have hL4 : w4.heap[l]? = some (.loop { u9 ρ fn sv Bs D .ready none with state := .busy }) := (hg4.block l (Array.getElem?_eq_some_iff.1 hL3).1 (fun e => hBl (by cases e; rfl))).trans hL3
  have hK4 : w4.heap[D]? = some (.deferred (some [])) := (hg4.block D (Array.getElem?_eq_some_iff.1 hK3).1 (fun e => hDB (by cases e; rfl))).trans hK3
  have hrow4 := hown'.kept hg4 (ownsRow_ne_a hown' hv3 (fun cur e => by first | cases e | exact hne (Obj.cells.inj e).2.1))
  have hl4 : l < w4.heap.size := (Array.getElem?_eq_some_iff.1 hL4).1
  have hb3 : Below w0.heap.size w0 w3 := (hb2.alloc hb2.size _).grown hg3' (by have := hb2.size; simp; omega) (fun k e => (hrow2.lt k e).1)
  have hb4 : Below w0.heap.size w0 w4 := hb3.grown hg4 hb3.size (fun k e => by cases e; exact h0B)
  have hk4 : KeepsWalks W w4 := ((hk2.trans (KeepsWalks.alloc _ _)).trans (KeepsWalks.of_grownBy hg3' (ownsRow_not_walk_a (hrow2.alloc _)))).trans (by rw [← hw4]; exact KeepsWalks.setCell _ _ _)
  clear hw4
  refine ⟨_, _, run_endRound none hL4, rfl, ⟨⟨_, (World.putObj_heap_other hBl).trans hv4, ?_, by simp⟩, World.putObj_heap_same hl4, (World.putObj_heap_other hDl).trans hK4, hb4.grown (grownBy_putObj_a _ _ _) hb4.size (fun k e => by cases e; exact h0l)⟩, hk4.trans (KeepsWalks.putObj _ hL4 rfl)⟩
  have := hrow4.kept (grownBy_putObj_a w4 l (.loop { { u9 ρ fn sv Bs D .ready none with state := .busy } with state := if (none : Option Code).isNone then .ready else .done, pending := none })) (ownsRow_ne_a hrow4 hL4 (fun cur e => by first | cases e | exact hne (Obj.cells.inj e).2.1))
  rw [SF]
  simpa using this
set_option maxRecDepth 100000 in
set_option maxHeartbeats 2000000 in
theorem OU (L : ait P ρ) (F : Fence) (n : Nat) (h11 : F.fn (ρ.f 11)) (hro : F.round = none) (hn : 2 ≤ n) (g : Nat) (lb : Array Value) (hFg : F.fn g) (eg : ∀ args w, (callFunc g args).run P w = .ok (.enter g args) w)
    (zs : List (Value × Value)) (hz : ∀ x ∈ zs, x.1.oneCell' = true ∧ x.2.oneCell' = true) (hN : zs.length ≤ maxLen) (hNb : zs.length * 48 ≤ 140737488355328) (w : World) (hseq : SG F (n - 1) P g lb zs w) :
    CallsIn F n P (ρ.f 11) #[.slice none 0 0, .func (.func g) #[] lb] w fun e w' => ∃ v : Value, e = .returned v ∧ w'.ownsRow w.heap.size (ρ.t 26) 2 v zs.length (Nv zs) ∧ (v = .slice none 0 0 ↔ zs = []) ∧ Below w.heap.size w w' := by
  have h1 : 1 ≤ n := by omega
  have mixed := L.mixed; have t0 := L.t0; have a0 := L.a0; have z0 := L.z0; have v0 := L.v0; have t24 := L.t24; have a24 := L.a24; have z24 := L.z24; have v24 := L.v24; obtain ⟨fs26, t26⟩ := L.t26; have a26 := L.a26; have z26 := L.z26; have v26 := L.v26; have t28 := L.t28; have a28 := L.a28; have z28 := L.z28; have v28 := L.v28
  have hne : ρ.t 24 ≠ ρ.t 26 := fun e => by have h := L.t24; rw [e, t26] at h; cases h
  have u0 := run_underlying L.t0; have u24 := run_underlying L.t24; have u26 := run_underlying t26; have u28 := run_underlying L.t28
  obtain ⟨_, _, FG⟩ := L.f11
  refine callsIn_of_wp_marks FG rfl h11 ?_ hro
  simp only [OT ρ, List.size_toArray, List.length_cons, List.length_nil, Nat.reduceAdd, Nat.reduceSub, Array.replicate_succ, Array.replicate_zero, List.push_toArray, List.append_toArray, List.nil_append, List.cons_append]
  gi_wp2
  refine wpIn_rangeFunc ?_
  intro fn hfn
  rw [hro]
  obtain ⟨W0, hW0⟩ : ∃ W0, w.alloc (.cells #[.slice none 0 0] (ρ.t 24)) = W0 := ⟨_, rfl⟩
  have hs0 : W0.heap.size = w.heap.size + 1 := by rw [← hW0]; simp
  have hv0 : W0.heap[w.heap.size]? = some (.cells #[.slice none 0 0] (ρ.t 24) (0, 0)) := by rw [← hW0]; exact World.alloc_heap_new w _
  have hb0 : Below w.heap.size w W0 := by rw [← hW0]; exact (Below.refl _ w).alloc (Nat.le_refl _) _
  rw [hW0]
  obtain ⟨W1, hW1⟩ : ∃ W1, (W0.alloc (.deferred (some []))).alloc (.loop (u9 ρ fn (.func (.func g) #[] lb) w.heap.size W0.heap.size .ready none)) = W1 := ⟨_, rfl⟩
  have hold : ∀ k, k < W0.heap.size → W1.heap[k]? = W0.heap[k]? := fun k hk => by
    rw [← hW1]; exact (Below.heap_alloc _ _ k (by simp; omega)).trans (Below.heap_alloc _ _ k hk)
  have hb1 : Below w.heap.size w W1 := by rw [← hW1]; exact (hb0.alloc hb0.size _).alloc (by have := hb0.size; simp; omega) _
  have hs1 : W1.heap.size = W0.heap.size + 2 := by rw [← hW1]; simp
  have hM : LG ρ w fn (.func (.func g) #[] lb) w.heap.size (W0.heap.size + 1) W0.heap.size [] W1 :=
    ⟨⟨_, (hold w.heap.size (by omega)).trans hv0, ⟨rfl, .inl ⟨rfl, rfl⟩⟩, by simp⟩,
     by rw [← hW1]; have := World.alloc_heap_new (W0.alloc (.deferred (some []))) (.loop (u9 ρ fn (.func (.func g) #[] lb) w.heap.size W0.heap.size .ready none)); rwa [World.size_alloc] at this,
     by rw [← hW1]; exact (Below.heap_alloc _ _ _ (by simp)).trans (World.alloc_heap_new W0 _), hb1⟩
  refine ⟨W0.heap.size + 1, [{ target := .collected W0.heap.size, args := #[] }], W1, { target := .fn (.func g) lb, args := #[.func (.yield (W0.heap.size + 1)) #[] #[]] }, W1, g,
    #[.func (.yield (W0.heap.size + 1)) #[] #[]] ++ lb, W1, ?_, ?_, ?_, ?_, fun _ => h1, ?_⟩
  · rw [← hW1]; exact run_enterLoop_outer _ _ _ _ _
  · simp [resolve, go_sem]
  · intro f' hf'; simp [Target.leads] at hf'; subst hf'; exact hFg
  · simp [invoke, go_sem, eg]
  · refine (hseq (W0.heap.size + 1) (LG ρ w fn (.func (.func g) #[] lb) w.heap.size (W0.heap.size + 1) W0.heap.size) W1 hb1 (fun s W1 h => h.below) (fun s W1 o h => h.alloc o)
      (fun pre x W hJ hl hm => VD L F (n - 1 - 1) w fn hfn _ w.heap.size (W0.heap.size + 1) W0.heap.size (by omega) (by omega) (by omega) (Nat.le_refl _) (by omega) zs.length hN hNb pre x W (hz x hm) hJ hl) hM).mono ?_
    rintro e W2 ⟨⟨v0, rfl⟩, h2⟩
    obtain ⟨v, hv, hrow, hnil⟩ := h2.box
    have hend := run_endLoop (P := P) h2.L (by simp [u9])
    obtain ⟨W3, hW3⟩ : ∃ W3, W2.putObj (W0.heap.size + 1) (.loop { u9 ρ fn (.func (.func g) #[] lb) w.heap.size W0.heap.size .ready none with state := .exhausted }) = W3 := ⟨_, rfl⟩
    rw [hW3] at hend
    have hg3 : W2.grownBy W3 (some (W0.heap.size + 1)) := by rw [← hW3]; exact grownBy_putObj_a _ _ _
    have hv3 : W3.heap[w.heap.size]? = some (.cells #[v] (ρ.t 24) (0, 0)) := by rw [← hW3]; exact (World.putObj_heap_other (by omega)).trans hv
    have hK3 : W3.heap[W0.heap.size]? = some (.deferred (some [])) := by rw [← hW3]; exact (World.putObj_heap_other (by omega)).trans h2.K
    have hrow3 := hrow.kept hg3 (ownsRow_ne_a hrow h2.L (fun cur e => by first | cases e | exact hne (Obj.cells.inj e).2.1))
    have hb3 : Below w.heap.size w W3 := h2.below.grown hg3 h2.below.size (fun k e => by cases e; omega)
    obtain ⟨hc3, hf3⟩ := cell_of_box_a hv3
    clear hW3
    refine ⟨none, W3, hend, ?_⟩
    gi_wp2
    rw [← hs0]
    refine ⟨by simp, .inl ⟨_, _, rfl, run_takeDeferred hK3, ?_⟩⟩
    exact ⟨_, results_tmp rfl _ _ _, v, rfl, hrow3.kept (grownBy_putObj_a _ _ _) (ownsRow_ne_a hrow3 hK3 (fun cur e => by first | cases e | exact hne (Obj.cells.inj e).2.1)), hnil, hb3.grown (grownBy_putObj_a _ _ _) hb3.size (fun k e => by cases e; omega)⟩
set_option maxHeartbeats 1000000 in
theorem LH (L : ait P ρ) (F : Fence) (n : Nat) (h8 : F.fn (ρ.f 8)) (h11 : F.fn (ρ.f 11)) (hro : F.round = none) (hn : 3 ≤ n) (g : Nat) (lb : Array Value) (hFg : F.fn g) (eg : ∀ args w, (callFunc g args).run P w = .ok (.enter g args) w)
    (zs : List (Value × Value)) (hz : ∀ x ∈ zs, x.1.oneCell' = true ∧ x.2.oneCell' = true) (hN : zs.length ≤ maxLen) (hNb : zs.length * 48 ≤ 140737488355328) (w : World) (hseq : SG F (n - 1 - 1) P g lb zs w) :
    CallsIn F n P (ρ.f 8) #[.func (.func g) #[] lb] w fun e w' => ∃ v : Value, e = .returned v ∧ w'.ownsRow w.heap.size (ρ.t 26) 2 v zs.length (Nv zs) ∧ (v = .slice none 0 0 ↔ zs = []) ∧ Below w.heap.size w w' := by
  have h1 : 1 ≤ n := by omega
  have e11 : ∀ args w, (callFunc (ρ.f 11) args).run P w = .ok (.enter (ρ.f 11) args) w := L.f11.enters rfl
  have mixed := L.mixed; have t0 := L.t0; have a0 := L.a0; have z0 := L.z0; have v0 := L.v0; have t24 := L.t24; have a24 := L.a24; have z24 := L.z24; have v24 := L.v24; obtain ⟨fs26, t26⟩ := L.t26; have a26 := L.a26; have z26 := L.z26; have v26 := L.v26; have t28 := L.t28; have a28 := L.a28; have z28 := L.z28; have v28 := L.v28
  have u0 := run_underlying L.t0; have u24 := run_underlying L.t24; have u26 := run_underlying t26; have u28 := run_underlying L.t28
  obtain ⟨_, _, FG⟩ := L.f8
  refine callsIn_of_wp FG rfl h8 ?_ hro
  simp only [SlBodyZ.n8_ntmps ρ, List.size_toArray, List.length_cons, List.length_nil, Nat.reduceAdd, Nat.reduceSub, Array.replicate_succ, Array.replicate_zero, List.push_toArray, List.append_toArray, List.nil_append, List.cons_append]
  gi_wp2_with (gi_at_fn (ρ.f 11); refine (OU L F (n - 1) h11 hro (by omega) g lb hFg eg zs hz hN hNb _ hseq).mono ?_; rintro e w' ⟨v, rfl, hrow, hnil, hb⟩)
  go_ret
  exact ⟨v, rfl, hrow, hnil, hb⟩
end
def SI (w : World) (sv : Value) (zs : List (Value × Value)) : Prop :=
  (∃ p cap, sv = .slice p 0 cap ∧ zs = []) ∨ ∃ b off cap, sv = .slice (some ⟨b, off, none⟩) zs.length cap ∧ b < w.heap.size ∧ ∀ j p, zs[j]? = some p → w.cell? ⟨b, off + j * 2, none⟩ = some p.1 ∧ w.cell? ⟨b, off + j * 2 + 1, none⟩ = some p.2
def SJ (P : Program) (j : Nat) : Prop :=
  ∀ (n Bs : Nat) (sv : Value) (zs : List (Value × Value)) (w : World), 1 ≤ n → (∀ x ∈ zs, x.1.oneCell' = true ∧ x.2.oneCell' = true) → zs.length * 48 ≤ 140737488351232 → Bs < w.heap.size → w.cell? ⟨Bs, 0, none⟩ = some sv → SI w sv zs →
    SG Fence.wide n P j #[.pointer (some ⟨Bs, 0, none⟩)] zs w
end Go.Proofs
namespace Go.Ev
open Go
section
variable [Names]
theorem Nw {v : Value} (h : fM v = true) : v.oneCell' = true := by cases v <;> first | rfl | exact h
theorem CY {x : T} (h : PH x = true) : ∃ a b, x = .agg [a, b] := by
  unfold PH at h
  split at h
  · exact ⟨_, _, rfl⟩
  · cases h
theorem VE {F : Fz} {w : Go.World} {v : Value} {es : List T} (h : lP F v (.sl es)) (ha : ∀ b o u, F b o = some u → w.cell? ⟨b, o, none⟩ = some u) (hp : ∀ e ∈ es, PH e = true) :
    ∃ zs : List (Value × Value), zs.length = es.length ∧ Go.Proofs.SI w v zs ∧ (∀ x ∈ zs, x.1.oneCell' = true ∧ x.2.oneCell' = true) ∧
      ∀ (i : Nat) (p : Value × Value) (e : T), zs[i]? = some p → es[i]? = some e → ∃ a b, e = T.agg [a, b] ∧ lP F p.1 a ∧ lP F p.2 b ∧ fM p.1 = true ∧ fM p.2 = true := by
  generalize hx : T.sl es = x at h
  cases h with
  | sl0 a cap =>
    simp only [T.sl.injEq] at hx
    subst hx
    exact ⟨[], rfl, .inl ⟨a, cap, rfl, rfl⟩, (fun x hx => by cases hx), fun i p e h _ => by simp at h⟩
  | sl b off cap sz es' cv hcap hsz hF hr =>
    simp only [T.sl.injEq] at hx
    subst hx
    by_cases h0 : es = []
    · subst h0
      exact ⟨[], rfl, .inl ⟨_, _, rfl, rfl⟩, (fun x hx => by cases hx), fun i p e h _ => by simp at h⟩
    · have hz : sz = 2 := by
        obtain ⟨e, r, rfl⟩ := List.exists_cons_of_ne_nil h0
        obtain ⟨a, c, rfl⟩ := CY (hp e (by simp))
        exact (hsz (.agg [a, c]) List.mem_cons_self).symm
      subst hz
      have key : ∀ i, i < es.length → ∃ e, es[i]? = some e ∧ ∃ a c, e = .agg [a, c] := fun i hi => by
        obtain ⟨a, c, h⟩ := CY (hp _ (List.getElem_mem hi))
        exact ⟨_, List.getElem?_eq_getElem hi, a, c, h⟩
      have cells : ∀ i e a c, es[i]? = some e → e = .agg [a, c] → (F b (off + i * 2 + 0) = some (cv i 0) ∧ fM (cv i 0) = true) ∧ (F b (off + i * 2 + 1) = some (cv i 1) ∧ fM (cv i 1) = true) ∧ lP F (cv i 0) a ∧ lP F (cv i 1) c := fun i e a c he h => by
        subst h
        exact ⟨hF i _ 0 a he rfl, hF i _ 1 c he rfl, hr i _ 0 a he rfl, hr i _ 1 c he rfl⟩
      have zget : ∀ i p, ((List.range es.length).map fun i => (cv i 0, cv i 1))[i]? = some p → i < es.length ∧ p = (cv i 0, cv i 1) := fun i p h => by
        rw [List.getElem?_map] at h
        obtain ⟨k, hk, rfl⟩ := Option.map_eq_some_iff.1 h
        obtain ⟨h1, h2⟩ := List.getElem?_eq_some_iff.1 hk
        simp at h1 h2; subst h2
        exact ⟨h1, rfl⟩
      refine ⟨(List.range es.length).map fun i => (cv i 0, cv i 1), by simp, .inr ⟨b, off, cap, by simp, ?_, fun j p h => ?_⟩, fun p h => ?_, fun i p e h he => ?_⟩
      · obtain ⟨e, he, a, c, h⟩ := key 0 (List.length_pos_iff.2 h0)
        have c0 := ha _ _ _ (cells 0 e a c he h).1.1
        unfold Go.World.cell? at c0
        cases hh : w.heap[b]? with
        | none => simp [hh] at c0
        | some o => exact gH hh
      · obtain ⟨hj, rfl⟩ := zget j p h
        obtain ⟨e, he, a, c, h⟩ := key j hj
        have k := cells j e a c he h
        exact ⟨ha _ _ _ k.1.1, ha _ _ _ k.2.1.1⟩
      · obtain ⟨i, hi⟩ := List.mem_iff_getElem?.1 h
        obtain ⟨hj, rfl⟩ := zget i p hi
        obtain ⟨e, he, a, c, h⟩ := key i hj
        have k := cells i e a c he h
        exact ⟨Nw k.1.2, Nw k.2.1.2⟩
      · obtain ⟨hj, rfl⟩ := zget i p h
        obtain ⟨a, c, hh⟩ := CY (hp e (List.mem_of_getElem? he))
        have k := cells i e a c he hh
        exact ⟨a, c, hh, k.2.2.1, k.2.2.2, k.1.2, k.2.1.2⟩
  | _ => cases hx
theorem Nx : ∀ {zs : List (Value × Value)} {i : Nat} {p : Value × Value}, zs[i]? = some p → (Go.Proofs.Nv zs)[i * 2]? = some p.1 ∧ (Go.Proofs.Nv zs)[i * 2 + 1]? = some p.2
  | [], i, p, h => by simp at h
  | x :: zs, 0, p, h => by simp at h; subst h; exact ⟨rfl, rfl⟩
  | x :: zs, i + 1, p, h => by
    simp only [List.getElem?_cons_succ] at h
    have := Nx h
    rw [show (i + 1) * 2 = i * 2 + 2 by omega, show i * 2 + 2 + 1 = (i * 2 + 1) + 2 by omega]
    exact this
theorem JL {P : Program} {ρs : Go.Shelf.Ren} (L : Go.Proofs.ait P ρs) {f j : Nat} (hj : Names.ρ f = some j)
    (ej : ∀ args w, (callFunc j args).run P w = .ok (.enter j args) w) (V : Go.Proofs.SJ P j) : sE P (ρs.f 8) [3, f] := by
  intro args H r H' h F g w vargs hrel hH K hK
  simp only [GM] at h
  split at h
  · rename_i f' id
    split at h
    · rename_i hff
      subst hff
      split at h
      · rename_i es ho
        split at h
        · rename_i hc
          obtain ⟨hlim, hall⟩ := hc
          have hp : ∀ e ∈ es, PH e = true := List.all_eq_true.1 hall
          obtain ⟨v, rfl⟩ : ∃ v, vargs = [v] := by
            have := hrel.1
            match vargs, this with
            | [v], _ => exact ⟨v, rfl⟩
          have hv := hrel.2 0 v _ rfl rfl
          generalize hd : D.fn f [D.bp id 0] = fd at hv
          cases hv with
          | fn f2 j2 hj2 vs cs hlen hvs =>
            simp only [D.fn.injEq] at hd
            obtain ⟨rfl, rfl⟩ := hd
            rw [hj] at hj2; cases hj2
            obtain ⟨p, rfl⟩ : ∃ p, vs = [p] := by
              match vs, hlen with
              | [p], _ => exact ⟨p, rfl⟩
            have hp2 := hvs 0 p _ rfl rfl
            cases hp2 with
            | bp id off b c hg hs =>
              obtain ⟨b', c', ty, hb', hc, hsz, hcv, hnF⟩ := (hH.fits id _ _ ho hg).born
              cases hb'
              obtain ⟨sv, hsv⟩ : ∃ sv, c'[0]? = some sv := ⟨c'[0]'(by rw [hsz]; exact Nat.zero_lt_one), Array.getElem?_eq_getElem _⟩
              have hrel2 := (hcv 0 sv _ hsv rfl).2
              have hr1 : lP F sv (.sl es) := by cases hrel2 with | t v x h => exact h
              obtain ⟨zs, zl, hI, hone, hcells⟩ := VE hr1 hH.agree hp
              have hcell : w.cell? ⟨b, 0, none⟩ = some sv := by simp [Go.World.cell?, hc, hsv]
              have big : es.length ≤ 4294967296 := hlim
              have gives := V 1 b sv zs w (Nat.le_refl _) hone (by omega) (gH hc) hcell hI
              have hml : zs.length ≤ Go.maxLen := by unfold Go.maxLen; omega
              have C := callsIn_wide.1 (Go.Proofs.LH L Fence.wide 3 trivial trivial rfl (Nat.le_refl _) j #[.pointer (some ⟨b, 0, none⟩)] trivial ej zs hone hml (by omega) w gives)
              refine C.mono ?_
              rintro e w' ⟨v, rfl, hrow, hnil, hB⟩
              refine ⟨v, rfl, ?_⟩
              have hgrow := hH.grow (w' := w') hB.block
              have hio : xk w w' := ⟨hB.os, hB.output⟩
              by_cases h0 : es = []
              · subst h0
                have z0 : zs = [] := List.eq_nil_of_length_eq_zero zl
                simp only [List.isEmpty_nil, if_true, Option.some.injEq, Prod.mk.injEq] at h
                obtain ⟨rfl, rfl⟩ := h
                have vz := hnil.2 z0
                subst vz
                exact hK _ _ F g .nil hgrow (Ext.grow hB.size hB.block hio) (Aft.refl g _)
              · rw [if_neg (by simpa using h0)] at h
                simp only [Option.some.injEq, Prod.mk.injEq] at h
                obtain ⟨rfl, rfl⟩ := h
                rcases hrow.2 with ⟨rfl, hz⟩ | ⟨gb, cap, cur, rfl, hbase, hgb, r1, r2, r3, r4⟩
                · exact absurd (List.eq_nil_of_length_eq_zero (by omega)) h0
                · have hno : ¬ g.has gb := fun h => by have := hH.lt h; omega
                  have hF0 : ∀ o v, F gb o ≠ some v := fun o v h => by have := hH.ltF h; omega
                  have A := Aft.append hH.len [(⟨some gb, cap⟩ : OG)] [Obj.arr 2 false 0 (es.map D.t)]
                  rw [zl]
                  refine hK _ _ F (g ++ [⟨some gb, cap⟩]) ?_ (hgrow.add ⟨some gb, cap⟩ (.arr 2 false 0 (es.map .t)) (.inr ⟨gb, cur, _, rfl, hgb, r3, by simp; omega, fun e he => ?_, fun i e k d he hd => ?_, fun o v hv => absurd hv (hF0 o v)⟩) ?_) ?_ A
                  · have := bF.ref (F := F) (g := g ++ [⟨some gb, cap⟩]) (S := shp (H ++ [.arr 2 false 0 (es.map .t)])) H.length 0 es.length 2 ⟨some gb, cap⟩ (by rw [← hH.len]; simp) (by simp [shp, Obj.sh]) (by simp)
                    exact this
                  · obtain ⟨x, hx, rfl⟩ := List.mem_map.1 he
                    obtain ⟨a, c, rfl⟩ := CY (hp x hx)
                    exact ⟨rfl, rfl⟩
                  · rw [List.getElem?_map] at he
                    obtain ⟨x, hx, rfl⟩ := Option.map_eq_some_iff.1 he
                    have hi := aj hx
                    obtain ⟨p, hp3⟩ : ∃ p, zs[i]? = some p := ⟨_, List.getElem?_eq_getElem (by omega)⟩
                    obtain ⟨a, c, rfl, ra, rc, la, lc⟩ := hcells i p x hp3 hx
                    have rg := Nx hp3
                    have tk : ∀ q v, q < es.length * 2 → (Go.Proofs.Nv zs)[q]? = some v → cur[q]? = some v := fun q v hq h => by
                      rw [← r4, List.getElem?_take, if_pos (by omega)] at h
                      simpa using h
                    have hk : k < 2 := aj hd
                    have : k = 0 ∨ k = 1 := by omega
                    rcases this with rfl | rfl
                    · cases hd
                      exact ⟨p.1, tk _ _ (by omega) rg.1, la, .t _ _ ra⟩
                    · cases hd
                      exact ⟨p.2, tk _ _ (by omega) rg.2, lc, .t _ _ rc⟩
                  · intro b hb; cases hb; exact hno
                  · refine ⟨mS.refl F, hB.size, fun b hb _ => hB.block b hb, fun b hb => ?_, fun b o v h => .inl h, hio⟩
                    obtain ⟨og, hog, e⟩ := hb
                    rcases List.mem_append.1 hog with hog | hog
                    · exact .inl ⟨og, hog, e⟩
                    · rw [List.mem_singleton.1 hog] at e; cases e; exact .inr hbase
          | _ => cases hd
        · cases h
      · cases h
    · cases h
  · cases h
end
end Go.Ev
