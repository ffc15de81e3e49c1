/- Parts of the proof: see the text that holds the theorem. -/
import Derived.Test.YtljlbkjecjloaaaGreatZ2
set_option linter.all false
set_option maxRecDepth 100000
namespace Go.Ev
open Go Go.ChangeShapes Go.RowKit
variable [Names]
def isAggTy (P : Program) (t : TypeId) : Bool := match P.underlying t with
  | some (.struct _) => true
  | some (.array _ _) => true
  | _ => false
def tileB (P : Program) (total : Nat) : Nat → List Field → Bool
  | off, [] => off == total
  | off, f :: r => (f.offset == off) && tileB P total (off + P.cellsOf f.type) r
def plainTyB (P : Program) : Nat → TypeId → Bool
  | 0, _ => false
  | n + 1, t => match P.underlying t with
    | some .bool => P.cellsOf t == 1
    | some (.int _) => P.cellsOf t == 1
    | some .string => P.cellsOf t == 1
    | some (.slice e) => (P.cellsOf t == 1) && decide (0 < P.cellsOf e) && plainTyB P n e
    | some (.struct fs) => tileB P (P.cellsOf t) 0 fs.toList && fs.toList.all fun f => plainTyB P n f.type
    | some (.array m e) => (P.cellsOf t == m * P.cellsOf e) && plainTyB P n e
    | _ => false
def okC (P : Program) : Nat → TypeId → List T → Prop
  | 0, _, _ => False
  | n + 1, t, cs => match P.underlying t with
    | some .bool => ∃ b, cs = [.bool b]
    | some (.int k) => ∃ m, cs = [.int k m] ∧ (Lit.int k m).wf = true
    | some .string => ∃ s : ByteArray, cs = [.str s] ∧ s.size ≤ maxLen
    | some (.slice e) => ∃ es, cs = [.sl es] ∧ es.length ≤ maxLen ∧ ∀ x ∈ es, okC P n e x.cells ∧ (isAggTy P e = true → ∃ ys, x = .agg ys) ∧ (isAggTy P e = false → ∀ ys, x ≠ .agg ys)
    | some (.struct fs) => cs.length = P.cellsOf t ∧ ∀ f ∈ fs.toList, okC P n f.type ((cs.drop f.offset).take (P.cellsOf f.type))
    | some (.array m e) => cs.length = P.cellsOf t ∧ ∀ i, i < m → okC P n e ((cs.drop (i * P.cellsOf e)).take (P.cellsOf e))
    | _ => False
def allF (w : World) : Fz := fun b o => w.cell? ⟨b, o, none⟩
def RelK (F : Fz) (vs : List Value) (cs : List T) : Prop := vs.length = cs.length ∧ ∀ (i : Nat) v c, vs[i]? = some v → cs[i]? = some c → RelT F v c ∧ leafV v = true
theorem RelK.append {F : Fz} {vs vs' : List Value} {cs cs' : List T} (h : RelK F vs cs) (h' : RelK F vs' cs') : RelK F (vs ++ vs') (cs ++ cs') := by
  refine ⟨by simp [h.1, h'.1], fun i v c hv hc => ?_⟩
  by_cases hi : i < vs.length
  · rw [List.getElem?_append_left hi] at hv
    rw [List.getElem?_append_left (h.1 ▸ hi)] at hc
    exact h.2 i v c hv hc
  · rw [List.getElem?_append_right (by omega)] at hv
    rw [List.getElem?_append_right (by have := h.1; omega), ← h.1] at hc
    exact h'.2 _ v c hv hc
section
variable {P : Program} {w : World} {H : Type} {enc : TypeId × Value → H} {spare : Nat → Bool} {held : Bool}
theorem choose_list {α β : Type} {l : List α} {Q : Nat → α → β → Prop} (h : ∀ (i : Nat) a, l[i]? = some a → ∃ b, Q i a b) : ∃ m : List β, m.length = l.length ∧ ∀ (i : Nat) a b, l[i]? = some a → m[i]? = some b → Q i a b := by
  induction l generalizing Q with
  | nil => exact ⟨[], rfl, fun i a b h => by simp at h⟩
  | cons a l ih =>
    obtain ⟨b, hb⟩ := h 0 a rfl
    obtain ⟨m, h1, h2⟩ := ih (Q := fun i => Q (i + 1)) fun i x hx => h (i + 1) x (by simpa using hx)
    refine ⟨b :: m, by simp [h1], fun i x y hx hy => ?_⟩
    cases i with
    | zero => simp at hx hy; subst hx; subst hy; exact hb
    | succ i => exact h2 i x y (by simpa using hx) (by simpa using hy)
theorem tile_rel {F : Fz} {Q : Field → List T → Prop} : ∀ {fs : List Field} {off total : Nat} {cs : List Value}, tileB P total off fs = true → cs.length = total → off ≤ total →
    (∀ f ∈ fs, ∃ xs, RelK F ((cs.drop f.offset).take (P.cellsOf f.type)) xs ∧ xs.length = P.cellsOf f.type ∧ Q f xs) →
    ∃ xs, RelK F (cs.drop off) xs ∧ ∀ f ∈ fs, off ≤ f.offset ∧ Q f ((xs.drop (f.offset - off)).take (P.cellsOf f.type))
  | [], off, total, cs, ht, hl, hle, _ => by
    simp only [tileB, beq_iff_eq] at ht
    exact ⟨[], ⟨by simp; omega, fun i v c hv hc => by simp at hc⟩, fun f hf => by cases hf⟩
  | f :: r, off, total, cs, ht, hl, hle, hq => by
    simp only [tileB, Bool.and_eq_true, beq_iff_eq] at ht
    obtain ⟨h1, h2⟩ := ht
    obtain ⟨xs, k1, k2, k3⟩ := hq f (List.mem_cons_self)
    have hle2 : off + P.cellsOf f.type ≤ total := by
      have := k1.1
      rw [k2, List.length_take, List.length_drop, h1] at this
      omega
    obtain ⟨ys, j1, j2⟩ := tile_rel h2 hl hle2 fun g hg => hq g (List.mem_cons_of_mem _ hg)
    refine ⟨xs ++ ys, ?_, fun g hg => ?_⟩
    · have : cs.drop off = (cs.drop off).take (P.cellsOf f.type) ++ cs.drop (off + P.cellsOf f.type) := by
        rw [← List.drop_drop, List.take_append_drop]
      rw [this]
      rw [h1] at k1
      exact k1.append j1
    · rcases List.mem_cons.1 hg with hg | hg
      · subst hg
        refine ⟨by omega, ?_⟩
        rw [h1, Nat.sub_self, List.drop_zero, List.take_append_of_le_length (by omega), List.take_of_length_le (by omega)]
        exact k3
      · obtain ⟨i1, i2⟩ := j2 g hg
        refine ⟨by omega, ?_⟩
        rw [List.drop_append, List.drop_eq_nil_of_le (by omega), List.nil_append, k2, show g.offset - off - P.cellsOf f.type = g.offset - (off + P.cellsOf f.type) by omega]
        exact i2
theorem arr_rel {F : Fz} {Q : List T → Prop} {sz : Nat} : ∀ (m : Nat) (cs : List Value), cs.length = m * sz →
    (∀ i, i < m → ∃ xs, RelK F ((cs.drop (i * sz)).take sz) xs ∧ xs.length = sz ∧ Q xs) →
    ∃ xs, RelK F cs xs ∧ ∀ i, i < m → Q ((xs.drop (i * sz)).take sz)
  | 0, cs, hl, _ => by
    have : cs = [] := List.eq_nil_of_length_eq_zero (by omega)
    exact ⟨[], ⟨by simp [this], fun i v c hv hc => by simp at hc⟩, fun i hi => by omega⟩
  | m + 1, cs, hl, hq => by
    obtain ⟨xs, k1, k2, k3⟩ := hq 0 (by omega)
    rw [Nat.zero_mul, List.drop_zero] at k1
    have hl' : (cs.drop sz).length = m * sz := by rw [List.length_drop, hl, Nat.succ_mul]; omega
    obtain ⟨ys, j1, j2⟩ := arr_rel m (cs.drop sz) hl' fun i hi => by
      obtain ⟨zs, a1, a2, a3⟩ := hq (i + 1) (by omega)
      refine ⟨zs, ?_, a2, a3⟩
      rw [List.drop_drop, show sz + i * sz = (i + 1) * sz by rw [Nat.succ_mul]; omega]
      exact a1
    refine ⟨xs ++ ys, ?_, fun i hi => ?_⟩
    · have : cs = cs.take sz ++ cs.drop sz := (List.take_append_drop _ _).symm
      rw [this]; exact k1.append j1
    · cases i with
      | zero => rw [Nat.zero_mul, List.drop_zero, List.take_append_of_le_length (by omega), List.take_of_length_le (by omega)]; exact k3
      | succ i =>
        rw [List.drop_append, List.drop_eq_nil_of_le (by rw [k2, Nat.succ_mul]; omega), List.nil_append, k2, show (i + 1) * sz - sz = i * sz by rw [Nat.succ_mul]; omega]
        exact j2 i (by omega)
theorem cells?_get {base n : Nat} {a : Addr} {cs : List Value} (h : w.cells? base a n = some cs) : cs.length = n ∧ ∀ i v, cs[i]? = some v → w.cell? (a.add i) = some v := by
  unfold World.cells? at h
  split at h
  · have h1 := mapM_some_length h
    refine ⟨by simpa using h1, fun i v hv => ?_⟩
    have hi : i < cs.length := (List.getElem?_eq_some_iff.1 hv).1
    rw [h1, List.length_range] at hi
    have := mapM_some_get h i i (by simp [hi])
    rw [this, hv]
  · cases h
theorem leaf_of {F : Fz} {v : Value} {c : T} (h : RelT F v c) (hc : ∀ ys, c ≠ .agg ys) : leafV v = true := by
  cases h with
  | agg vs cs => exact (hc cs rfl).elim
  | _ => rfl
theorem spot_none {a : Addr} {v : Value} (h : w.cell? (a.add 0) = some v) : a.spot = none := by
  cases hs : a.spot with
  | none => rfl
  | some s =>
    have : (a.add 0).spot = some s := hs
    unfold World.cell? at h
    split at h
    · rw [this] at h; simp at h
    · cases h
theorem read_rel : ∀ (n : Nat) (t : TypeId) (fuel : Nat) (cs : List Value) (x : DataW H × List MemPlace), plainTyB P n t = true → DataW.trod enc P w 0 spare held fuel t cs = some x →
    ∃ xs, RelK (allF w) cs xs ∧ okC P n t xs ∧ (isAggTy P t = false → ∃ c, xs = [c] ∧ ∀ ys, c ≠ .agg ys) ∧ cs.length = P.cellsOf t := by
  intro n
  induction n with
  | zero => intro t fuel cs x hp; simp [plainTyB] at hp
  | succ n ih =>
    intro t fuel cs x hp h
    have one : ∀ (v : Value) (c : T), RelT (allF w) v c → (∀ ys, c ≠ .agg ys) → RelK (allF w) [v] [c] := fun v c hr hc => ⟨rfl, fun i v' c' hv hc' => by
      cases i with
      | zero => simp at hv hc'; subst hv; subst hc'; exact ⟨hr, leaf_of hr hc⟩
      | succ i => simp at hv⟩
    unfold plainTyB at hp
    cases hu : P.underlying t with
    | none => rw [hu] at hp; simp at hp
    | some d =>
      rw [hu] at hp
      cases d <;> simp only [Bool.false_eq_true] at hp
      case bool =>
        obtain ⟨b, rfl, _⟩ := DataW.trod_bool hu h
        exact ⟨[.bool b], one _ _ (.bool b) (fun _ e => by cases e), by simp only [okC, hu]; exact ⟨b, rfl⟩, fun _ => ⟨_, rfl, fun _ e => by cases e⟩, by simp only [beq_iff_eq] at hp; simp [hp]⟩
      case int k =>
        obtain ⟨m, rfl, _, hw⟩ := DataW.trod_int hu h
        exact ⟨[.int k m], one _ _ (.int k m) (fun _ e => by cases e), by simp only [okC, hu]; exact ⟨m, rfl, hw⟩, fun _ => ⟨_, rfl, fun _ e => by cases e⟩, by simp only [beq_iff_eq] at hp; simp [hp]⟩
      case string =>
        obtain ⟨s, rfl, _, hw⟩ := DataW.trod_string hu h
        exact ⟨[.str s], one _ _ (.str s) (fun _ e => by cases e), by simp only [okC, hu]; exact ⟨s, rfl, hw⟩, fun _ => ⟨_, rfl, fun _ e => by cases e⟩, by simp only [beq_iff_eq] at hp; simp [hp]⟩
      case slice e =>
        simp only [Bool.and_eq_true, decide_eq_true_eq, Bool.or_eq_true, beq_iff_eq] at hp
        obtain ⟨⟨hsz, hpos⟩, hpe⟩ := hp
        rcases DataW.trod_slice hu h with ⟨rfl, _⟩ | ⟨a, len, cap, elems, rest, fu, _, rfl, _, _, hcap, hmax, hlen, hel, _⟩
        · exact ⟨[.sl []], one _ _ (.sl0 none 0) (fun _ e => by cases e), by simp only [okC, hu]; exact ⟨[], rfl, by simp, by simp⟩, fun _ => ⟨_, rfl, fun _ e => by cases e⟩, by simp [hsz]⟩
        · -- the elements, one by one
          have hch := choose_list (l := List.range len) (Q := fun i _ (e' : T) => ∃ cs', w.cells? 0 (a.add (i * P.cellsOf e)) (P.cellsOf e) = some cs' ∧ RelK (allF w) cs' e'.cells ∧ okC P n e e'.cells ∧
              (isAggTy P e = true → ∃ ys, e' = .agg ys) ∧ (isAggTy P e = false → ∀ ys, e' ≠ .agg ys)) fun i j hj => by
            have hi : i < len := by
              have := (List.getElem?_eq_some_iff.1 hj).1; simpa using this
            have hg := hel i hi
            have hle : i < elems.length := by omega
            rw [List.getElem?_eq_getElem hle] at hg
            obtain ⟨cs', hc1, hc2⟩ := Option.bind_eq_some_iff.1 hg
            obtain ⟨xs, r1, r2, r3, r4⟩ := ih e fu cs' _ hpe hc2
            cases hA : isAggTy P e with
            | true => exact ⟨.agg xs, cs', hc1, r1, r2, fun _ => ⟨xs, rfl⟩, fun h => by cases h⟩
            | false =>
              obtain ⟨c, rfl, hc⟩ := r3 hA
              refine ⟨c, cs', hc1, ?_, ?_, (fun h => by cases h), fun _ => hc⟩
              · cases c <;> first | exact r1 | exact (hc _ rfl).elim
              · cases c <;> first | exact r2 | exact (hc _ rfl).elim
          obtain ⟨es, he1, he2⟩ := hch
          rw [List.length_range] at he1
          have hes : ∀ (i : Nat) e', es[i]? = some e' → ∃ cs', w.cells? 0 (a.add (i * P.cellsOf e)) (P.cellsOf e) = some cs' ∧ RelK (allF w) cs' e'.cells ∧ okC P n e e'.cells ∧
              (isAggTy P e = true → ∃ ys, e' = .agg ys) ∧ (isAggTy P e = false → ∀ ys, e' ≠ .agg ys) := fun i e' hi => by
            have hlt : i < len := by rw [← he1]; exact (List.getElem?_eq_some_iff.1 hi).1
            exact he2 i i e' (by simp [hlt]) hi
          have hok : okC P (n + 1) t [.sl es] := by
            simp only [okC, hu]
            refine ⟨es, rfl, by omega, fun x hx => ?_⟩
            obtain ⟨i, hi⟩ := List.mem_iff_getElem?.1 hx
            obtain ⟨_, _, _, k1, k2, k3⟩ := hes i x hi
            exact ⟨k1, k2, k3⟩
          refine ⟨[.sl es], one _ _ ?_ (fun _ e => by cases e), hok, fun _ => ⟨_, rfl, fun _ e => by cases e⟩, by simp [hsz]⟩
          by_cases h0 : len = 0
          · have : es = [] := List.eq_nil_of_length_eq_zero (by omega)
            subst this
            rw [h0]; exact .sl0 _ _
          · have hlt0 : 0 < es.length := by omega
            obtain ⟨cs', hc1, hc2, _⟩ := hes 0 _ (List.getElem?_eq_getElem hlt0)
            obtain ⟨l1, l2⟩ := cells?_get hc1
            have hspot : a.spot = none := by
              have hv := l2 0 _ (List.getElem?_eq_getElem (by omega))
              have : (a.add (0 * P.cellsOf e)).add 0 = a.add 0 := by rw [Nat.zero_mul]; rfl
              rw [this] at hv
              exact spot_none hv
            have ha : a = ⟨a.block, a.off, none⟩ := by cases a; simp only at hspot; subst hspot; rfl
            have hcell : ∀ (i : Nat) e' (k : Nat) c, es[i]? = some e' → e'.cells[k]? = some c → ∃ v, w.cell? ⟨a.block, a.off + i * P.cellsOf e + k, none⟩ = some v ∧ RelT (allF w) v c ∧ leafV v = true := by
              intro i e' k c hi hk
              obtain ⟨cs', hc1, hc2, _⟩ := hes i e' hi
              obtain ⟨l1, l2⟩ := cells?_get hc1
              have hkl : k < cs'.length := by rw [hc2.1]; exact (List.getElem?_eq_some_iff.1 hk).1
              refine ⟨cs'[k], ?_, hc2.2 k _ c (List.getElem?_eq_getElem hkl) hk⟩
              rw [← l2 k _ (List.getElem?_eq_getElem hkl)]
              have : (a.add (i * P.cellsOf e)).add k = ⟨a.block, a.off + i * P.cellsOf e + k, none⟩ := by rw [ha, addr_add, addr_add]
              rw [this]
            have hr := RelT.sl (F := allF w) a.block a.off cap (P.cellsOf e) es (fun i k => (w.cell? ⟨a.block, a.off + i * P.cellsOf e + k, none⟩).getD undef) (by omega)
              (fun e' he' => by
                obtain ⟨i, hi⟩ := List.mem_iff_getElem?.1 he'
                obtain ⟨cs', hc1, hc2, _⟩ := hes i e' hi
                rw [← hc2.1]; exact (cells?_get hc1).1)
              (fun i e' k c hi hk => by obtain ⟨v, v1, v2, v3⟩ := hcell i e' k c hi hk; simp only [allF, v1, Option.getD_some, v3, and_self])
              (fun i e' k c hi hk => by obtain ⟨v, v1, v2, v3⟩ := hcell i e' k c hi hk; simp only [v1, Option.getD_some]; exact v2)
            rw [he1, ← ha] at hr
            exact hr
      case struct fs =>
        rw [Bool.and_eq_true] at hp
        obtain ⟨ys, m, _, _, hl, hyl, hf⟩ := DataW.trod_struct hu h
        obtain ⟨xs, k1, k2⟩ := tile_rel (F := allF w) (Q := fun f xs => okC P n f.type xs) hp.1 hl (Nat.zero_le _) fun f hfm => by
          obtain ⟨i, hi⟩ := List.mem_iff_getElem?.1 hfm
          have hi' : fs[i]? = some f := by simpa using hi
          have hil : i < ys.length := by
            have := (Array.getElem?_eq_some_iff.1 hi').1; omega
          have hg := hf i f hi'
          rw [List.getElem?_eq_getElem hil] at hg
          obtain ⟨zs, r1, r2, r3, r4⟩ := ih f.type m _ _ (List.all_eq_true.1 hp.2 f hfm) hg
          refine ⟨zs, r1, ?_, r2⟩
          rw [← r1.1]; exact r4
        rw [List.drop_zero] at k1
        exact ⟨xs, k1, by simp only [okC, hu]; exact ⟨by rw [← k1.1, hl], fun f hfm => by simpa using (k2 f hfm).2⟩, fun e => by simp [isAggTy, hu] at e, hl⟩
      case array m e =>
        simp only [Bool.and_eq_true, beq_iff_eq] at hp
        obtain ⟨ys, fu, _, _, hl, hyl, hf⟩ := DataW.trod_array hu h
        obtain ⟨xs, k1, k2⟩ := arr_rel (F := allF w) (Q := fun xs => okC P n e xs) (sz := P.cellsOf e) m cs (by rw [hl, hp.1]) fun i hi => by
          have hil : i < ys.length := by omega
          have hg := hf i hi
          rw [List.getElem?_eq_getElem hil] at hg
          obtain ⟨zs, r1, r2, r3, r4⟩ := ih e fu _ _ hp.2 hg
          refine ⟨zs, r1, ?_, r2⟩
          rw [← r1.1]; exact r4
        exact ⟨xs, k1, by simp only [okC, hu]; exact ⟨by rw [← k1.1, hl], k2⟩, fun e => by simp [isAggTy, hu] at e, hl⟩
def okT (P : Program) (n : Nat) (t : TypeId) (x : T) : Prop := okC P n t x.cells ∧ (isAggTy P t = true → ∃ ys, x = .agg ys) ∧ (isAggTy P t = false → ∀ ys, x ≠ .agg ys)
def okAll (P : Program) (n : Nat) : List TypeId → List T → Prop
  | [], [] => True
  | t :: ts, x :: xs => okT P n t x ∧ okAll P n ts xs
  | _, _ => False
theorem not_agg {n : Nat} {t : TypeId} (hp : plainTyB P n t = true) (hA : isAggTy P t = false) {base : Nat} {v : Value} (h : Value.okWide P w .any base t v) : v.cells.toList = [v] := by
  cases n with
  | zero => simp [plainTyB] at hp
  | succ n =>
    unfold plainTyB at hp
    unfold isAggTy at hA
    cases hu : P.underlying t with
    | none => rw [hu] at hp; simp at hp
    | some d =>
      rw [hu] at hp hA
      cases d <;> simp only [Bool.false_eq_true] at hp <;> try (simp at hA; done)
      · obtain ⟨b, rfl⟩ := WideShapes.okWide_bool hu h; rfl
      · obtain ⟨b, rfl⟩ := WideShapes.okWide_int hu h; rfl
      · obtain ⟨b, rfl⟩ := WideShapes.okWide_string hu h; rfl
      · obtain ⟨a, l, c, rfl⟩ := WideShapes.okWide_slice hu h; rfl
theorem arg_rel {n : Nat} {t : TypeId} (hp : plainTyB P n t = true) {base : Nat} {v : Value} (hok : Value.okWide P w .any base t v) {d : DataW H} {ps : List MemPlace}
    (h : DataW.Trod enc P w 0 spare held t v d ps) : ∃ x, okT P n t x ∧ RelT (allF w) v x := by
  obtain ⟨fuel, h⟩ := h
  obtain ⟨xs, h1, h2, h3, h4⟩ := read_rel n t fuel _ _ hp h
  cases hA : isAggTy P t with
  | true =>
    obtain ⟨cs, rfl⟩ : ∃ cs, v = .agg cs := by
      unfold isAggTy at hA
      unfold Value.okWide at hok
      split at hA <;> first | cases hA | skip
      · rename_i hu; rw [hu] at hok; obtain ⟨cs, h, _⟩ := hok; exact ⟨cs, h⟩
      · rename_i hu; rw [hu] at hok; obtain ⟨cs, h, _⟩ := hok; exact ⟨cs, h⟩
    refine ⟨.agg xs, ⟨h2, fun _ => ⟨xs, rfl⟩, (fun h => by rw [hA] at h; cases h)⟩, ?_⟩
    have := RelT.agg (F := allF w) cs.toList xs h1.1 (fun v hv => by
      obtain ⟨i, hi⟩ := List.mem_iff_getElem?.1 hv
      obtain ⟨c, hc⟩ := getElem?_of_len h1.1 hi
      exact (h1.2 i v c hi hc).2) (fun i v c hv hc => (h1.2 i v c hv hc).1)
    simpa using this
  | false =>
    obtain ⟨c, rfl, hc⟩ := h3 hA
    have hv := not_agg hp hA hok
    rw [hv] at h1
    refine ⟨c, ⟨?_, (fun h => by rw [hA] at h; cases h), fun _ => hc⟩, (h1.2 0 v c rfl rfl).1⟩
    cases c <;> first | exact h2 | exact (hc _ rfl).elim
theorem args_rel {n : Nat} {base : Nat} : ∀ {ts : List TypeId} {vs : List Value} {ds : List (DataW H)} {ps : List MemPlace}, (∀ t ∈ ts, plainTyB P n t = true) →
    (∀ (j : Nat) t v, ts[j]? = some t → vs[j]? = some v → Value.okWide P w .any base t v) → DataW.TrodAll enc P w 0 spare held ts vs ds ps →
    ds.length = ts.length ∧ ∃ xs, okAll P n ts xs ∧ RelL (allF w) [] (shp []) vs (xs.map .t)
  | [], [], [], _, _, _, _ => ⟨rfl, [], trivial, RelL.nil⟩
  | [], [], _ :: _, _, _, _, h => h.elim
  | [], _ :: _, _, _, _, _, h => h.elim
  | _ :: _, [], _, _, _, _, h => h.elim
  | _ :: _, _ :: _, [], _, _, _, h => h.elim
  | t :: ts, v :: vs, d :: ds, ps, hp, hok, h => by
    obtain ⟨p, q, h1, h2, rfl⟩ := h
    obtain ⟨x, k1, k2⟩ := arg_rel (hp t List.mem_cons_self) (hok 0 t v rfl rfl) h1
    obtain ⟨l1, xs, l2, l3⟩ := args_rel (fun t ht => hp t (List.mem_cons_of_mem _ ht)) (fun j t v hj hv => hok (j + 1) t v (by simpa using hj) (by simpa using hv)) h2
    exact ⟨by simp [l1], x :: xs, ⟨k1, l2⟩, RelL.cons (.t _ _ k2) l3⟩
theorem trodAll_stays {W W' : World} (hl : laidOutB P = true) {sp' : Nat → Bool} : ∀ {ts : List TypeId} {vs : List Value} {ds : List (DataW H)} {ps : List MemPlace}, (∀ t ∈ ts, P.readableRec t = true ∧ t < P.types.size) →
    DataW.TrodAll enc P W 0 (fun _ => true) true ts vs ds ps → (∀ p ∈ ps, W.sameAt W' p) → (∀ p ∈ ps, sp' p.block = true) → DataW.TrodAll enc P W' 0 sp' true ts vs ds ps
  | [], [], [], _, _, h, _, _ => h
  | [], [], _ :: _, _, _, h, _, _ => h.elim
  | [], _ :: _, _, _, _, h, _, _ => h.elim
  | _ :: _, [], _, _, _, h, _, _ => h.elim
  | _ :: _, _ :: _, [], _, _, h, _, _ => h.elim
  | t :: ts, v :: vs, d :: ds, ps, hr, h, hs, hb => by
    obtain ⟨p, q, h1, h2, rfl⟩ := h
    exact ⟨p, q, WideElems.Trod_stays hl (hr t List.mem_cons_self).1 (hr t List.mem_cons_self).2 h1 (fun x hx => hs x (List.mem_append_left _ hx)) (fun x hx => hb x (List.mem_append_left _ hx)),
      trodAll_stays hl (fun t ht => hr t (List.mem_cons_of_mem _ ht)) h2 (fun x hx => hs x (List.mem_append_right _ hx)) (fun x hx => hb x (List.mem_append_right _ hx)), rfl⟩
theorem allF_ok (w : World) : HeapOK (allF w) [] [] w :=
  ⟨rfl, fun i o og h => by simp at h, fun i j ogi ogj b _ h => by simp at h, fun b o v h => h⟩
theorem law_calls {fs : Nat → Option Fn} (hcall : ∀ n, CallOK P (evCall fs n)) {f : Func} {j N : Nat} (hj : Names.ρ N = some j) {s : ChangeSpec} (hl : laidOutB P = true) {n : Nat}
    (hpar : f.params.toList.all (fun t => plainTyB P n t && P.readableRec t && decide (t < P.types.size)) = true)
    {tb : TypeId} (hres : f.resultTypes = #[tb]) (hb : P.underlying tb = some .bool) (hvars : s.vars = [])
    (hfn : ∀ (H : Type) (ds : List (DataW H)), ds.length = f.params.toList.length → s.fn H ds = { results := [.lit (.bool true)], args := ds })
    (hlaw : ∀ xs : List T, okAll P n f.params.toList xs → callL fs 0 N (xs.map .t) [] = some (.t (.bool true), []))
    (W : World) (base : Nat) (args : Array Value) (ds gs : List (DataW H)) (before : List MemPlace)
    (hval : ∀ (j : Nat) t v, f.params[j]? = some t → args[j]? = some v → Value.okWide P W .any base t v)
    (hW : DataW.Whole enc P f.params.toList s.vars false W args.toList ds gs before) :
    Calls P j args W fun e W' => ∃ v, e = .returned v ∧ s.post enc P f false true false false W args v W' := by
  have hW' := hW
  obtain ⟨p, q, hA, hV, rfl, hfz, hnd⟩ := hW
  rw [hvars] at hV
  obtain ⟨rfl, rfl⟩ : gs = [] ∧ q = [] := by
    cases gs with
    | nil => exact ⟨rfl, hV⟩
    | cons g gs => exact hV.elim
  have hpar' : ∀ t ∈ f.params.toList, plainTyB P n t = true ∧ P.readableRec t = true ∧ t < P.types.size := fun t ht => by
    have := List.all_eq_true.1 hpar t ht
    simp only [Bool.and_eq_true, decide_eq_true_eq] at this
    exact ⟨this.1.1, this.1.2, this.2⟩
  obtain ⟨hdl, xs, hxs, hrel⟩ := args_rel (fun t ht => (hpar' t ht).1) (fun j t v hj hv => hval j t v (by simpa using hj) (by simpa using hv)) hA
  obtain ⟨m, hm⟩ := callL_iff.1 (hlaw xs hxs)
  have hfn' := hfn H ds hdl
  refine (hcall m 0 N _ _ _ _ hm j hj (allF W) [] W args.toList hrel (allF_ok W) (fun v w' => v = .bool true ∧ W.heap.size ≤ w'.heap.size ∧ (∀ b, b < W.heap.size → w'.heap[b]? = W.heap[b]?) ∧ SameIO W w') ?_).mono ?_
  · intro v w' F' g' hv hH hE hA
    refine ⟨?_, hE.size, fun b hb => hE.keep b hb (fun ⟨og, hm, _⟩ => by cases hm), hE.io⟩
    cases hv with | t _ _ hv => cases hv; rfl
  · rintro e W' ⟨v, rfl, rfl, hsz, hkeep, hio⟩
    have hlt : ∀ x ∈ p, x.block < W.heap.size := fun x hx => by simpa using hW'.lt x (by simpa using hx)
    have hsame : ∀ x ∈ p, W.sameAt W' x := fun x hx => by
      have := hlt x hx
      cases x with
      | cell b o => simp only [World.sameAt, World.cell?, hkeep b this]
      | map b => exact hkeep b this
    refine ⟨.bool true, rfl, ds, [], p, [], p, [], by simpa using hW', ?_, ?_, ?_, ?_, fun h => by cases h⟩
    · rw [List.append_nil, hfn', hres]
      exact ⟨[], [], ⟨1, by simp [DataW.trod, hb, Value.resultList, Value.cells]⟩, rfl, rfl⟩
    · rw [List.append_nil, hfn']
      exact trodAll_stays hl (fun t ht => (hpar' t ht).2) hA hsame fun x hx => by simpa using hlt x hx
    · rw [hvars, List.append_nil, hfn']; rfl
    · refine ⟨hio.1, hio.2, fun i hi => ?_⟩
      rw [hkeep i hi]
      split <;> simp_all
end
end Go.Ev

namespace Go.Ev
open Go
def intR (n : Int) : Prop := -9223372036854775808 ≤ n ∧ n ≤ 9223372036854775807
theorem lit_i64 {m : Int} (h : (Lit.int .i64 m).wf = true) : intR m := by
  have e1 : IntKind.i64.min = -9223372036854775808 := rfl
  have e2 : IntKind.i64.max = 9223372036854775807 := rfl
  simp only [Lit.wf, e1, e2, Bool.and_eq_true, decide_eq_true_eq] at h
  exact h
theorem okC_int {P : Program} {n : Nat} {t : TypeId} {cs : List T} (hu : P.underlying t = some (.int .i64)) (h : okC P (n + 1) t cs) : ∃ m, cs = [.int .i64 m] ∧ intR m := by
  unfold okC at h
  rw [hu] at h
  obtain ⟨m, h1, h2⟩ := h
  exact ⟨m, h1, lit_i64 h2⟩
theorem cells_one {x : T} (hA : ∀ ys, x ≠ .agg ys) : x.cells = [x] := by
  cases x <;> first | rfl | exact (hA _ rfl).elim
theorem okT_int {P : Program} {n : Nat} {t : TypeId} {x : T} (hu : P.underlying t = some (.int .i64)) (h : okT P (n + 1) t x) : ∃ m, x = .int .i64 m ∧ intR m := by
  obtain ⟨h1, h2, h3⟩ := h
  have hA : isAggTy P t = false := by unfold isAggTy; rw [hu]
  obtain ⟨m, h4, h5⟩ := okC_int hu h1
  rw [cells_one (h3 hA)] at h4
  exact ⟨m, by simpa using h4, h5⟩
theorem okC_slice {P : Program} {n : Nat} {t e : TypeId} {cs : List T} (hu : P.underlying t = some (.slice e)) {α : Type} (f : α → T) (Q : α → Prop) (hd : ∀ x, okT P n e x → ∃ a, x = f a ∧ Q a)
    (h : okC P (n + 1) t cs) : ∃ l : List α, cs = [.sl (l.map f)] ∧ l.length ≤ maxLen ∧ ∀ a ∈ l, Q a := by
  unfold okC at h
  rw [hu] at h
  obtain ⟨es, rfl, h2, h3⟩ := h
  have key : ∀ es : List T, (∀ x ∈ es, okT P n e x) → ∃ l : List α, es = l.map f ∧ ∀ a ∈ l, Q a := by
    intro es
    induction es with
    | nil => intro _; exact ⟨[], rfl, fun a ha => by cases ha⟩
    | cons x es ih =>
      intro hx
      obtain ⟨a, ha, hq⟩ := hd x (hx x List.mem_cons_self)
      obtain ⟨l, hl, hq2⟩ := ih fun y hy => hx y (List.mem_cons_of_mem _ hy)
      refine ⟨a :: l, by rw [List.map_cons, ha, hl], fun b hb => ?_⟩
      rcases List.mem_cons.1 hb with rfl | hb
      · exact hq
      · exact hq2 b hb
  obtain ⟨l, hl, hq⟩ := key es h3
  subst hl
  exact ⟨l, rfl, by simpa using h2, hq⟩
theorem okT_slice {P : Program} {n : Nat} {t e : TypeId} {x : T} (hu : P.underlying t = some (.slice e)) {α : Type} (f : α → T) (Q : α → Prop) (hd : ∀ x, okT P n e x → ∃ a, x = f a ∧ Q a)
    (h : okT P (n + 1) t x) : ∃ l : List α, x = .sl (l.map f) ∧ l.length ≤ maxLen ∧ ∀ a ∈ l, Q a := by
  obtain ⟨h1, h2, h3⟩ := h
  have hA : isAggTy P t = false := by unfold isAggTy; rw [hu]
  obtain ⟨l, h4, h5⟩ := okC_slice hu f Q hd h1
  rw [cells_one (h3 hA)] at h4
  exact ⟨l, by simpa using h4, h5⟩
theorem okT_ints {P : Program} {n : Nat} {t e : TypeId} {x : T} (hu : P.underlying t = some (.slice e)) (he : P.underlying e = some (.int .i64)) (h : okT P (n + 2) t x) :
    ∃ l : List Int, x = .sl (l.map (T.int .i64)) ∧ l.length ≤ maxLen ∧ ∀ m ∈ l, intR m :=
  okT_slice hu (T.int .i64) intR (fun _ hx => okT_int he hx) h
theorem okAll_1 {P : Program} {n : Nat} {t : TypeId} {xs : List T} (h : okAll P n [t] xs) : ∃ x, xs = [x] ∧ okT P n t x := by
  match xs, h with
  | [x], h => exact ⟨x, rfl, h.1⟩
theorem okAll_2 {P : Program} {n : Nat} {t u : TypeId} {xs : List T} (h : okAll P n [t, u] xs) : ∃ x y, xs = [x, y] ∧ okT P n t x ∧ okT P n u y := by
  match xs, h with
  | [x, y], h => exact ⟨x, y, rfl, h.1, h.2.1⟩
theorem okAll_3 {P : Program} {n : Nat} {t u v : TypeId} {xs : List T} (h : okAll P n [t, u, v] xs) : ∃ x y z, xs = [x, y, z] ∧ okT P n t x ∧ okT P n u y ∧ okT P n v z := by
  match xs, h with
  | [x, y, z], h => exact ⟨x, y, z, rfl, h.1, h.2.1, h.2.2.1⟩
end Go.Ev

namespace Go.Ev
open Go
def eqL {α : Type} (f : α → α → Bool) : List α → List α → Bool
  | [], [] => true
  | a :: x, b :: y => f a b && eqL f x y
  | _, _ => false
theorem eqL_eq {α : Type} {f : α → α → Bool} (h : ∀ a b, f a b = true → a = b) : ∀ {x y : List α}, eqL f x y = true → x = y
  | [], [], _ => rfl
  | [], _ :: _, h' => by simp [eqL] at h'
  | _ :: _, [], h' => by simp [eqL] at h'
  | a :: x, b :: y, h' => by
    simp only [eqL, Bool.and_eq_true] at h'
    rw [h a b h'.1, eqL_eq h h'.2]
def eqTn : Nat → T → T → Bool
  | _, .int j a, .int k b => decide (j = k) && decide (a = b)
  | _, .bool a, .bool b => a == b
  | n + 1, .agg a, .agg b => eqL (eqTn n) a b
  | n + 1, .sl a, .sl b => eqL (eqTn n) a b
  | _, _, _ => false
theorem eqTn_eq : ∀ {n : Nat} {a b : T}, eqTn n a b = true → a = b := by
  intro n
  induction n with
  | zero => intro a b h; cases a <;> cases b <;> simp_all [eqTn]
  | succ n ih =>
    intro a b h
    cases a <;> cases b <;> simp only [eqTn, Bool.false_eq_true] at h
    · simp at h; rw [h.1, h.2]
    · simp at h; rw [h]
    · rw [eqL_eq (fun _ _ h => ih h) h]
    · rw [eqL_eq (fun _ _ h => ih h) h]
def eqDn : Nat → D → D → Bool
  | n, .t a, .t b => eqTn n a b
  | _, .nil, .nil => true
  | n + 1, .agg a, .agg b => eqL (eqDn n) a b
  | _, .bp a b, .bp c d => decide (a = c) && decide (b = d)
  | _, .ap a b c d e, .ap a' b' c' d' e' => decide (a = a') && decide (b = b') && decide (c = c') && decide (d = d') && decide (e = e')
  | n, .ep a, .ep b => eqL (eqTn n) a b
  | _, .ref a b c, .ref a' b' c' => decide (a = a') && decide (b = b') && decide (c = c')
  | _, .sub a b c d e, .sub a' b' c' d' e' => decide (a = a') && decide (b = b') && decide (c = c') && decide (d = d') && decide (e = e')
  | n + 1, .fn f a, .fn g b => decide (f = g) && eqL (eqDn n) a b
  | n + 1, .tup a, .tup b => eqL (eqDn n) a b
  | _, .nilp, .nilp => true
  | _, .und, .und => true
  | _, _, _ => false
theorem eqDn_eq : ∀ {n : Nat} {a b : D}, eqDn n a b = true → a = b := by
  intro n
  induction n with
  | zero =>
    intro a b h
    cases a <;> cases b <;> simp only [eqDn, Bool.false_eq_true, Bool.and_eq_true, decide_eq_true_eq] at h <;> try rfl
    · rw [eqTn_eq h]
    · rw [h.1, h.2]
    · obtain ⟨⟨⟨⟨h1, h2⟩, h3⟩, h4⟩, h5⟩ := h; rw [h1, h2, h3, h4, h5]
    · rw [eqL_eq (fun _ _ h => eqTn_eq h) h]
    · obtain ⟨⟨h1, h2⟩, h3⟩ := h; rw [h1, h2, h3]
    · obtain ⟨⟨⟨⟨h1, h2⟩, h3⟩, h4⟩, h5⟩ := h; rw [h1, h2, h3, h4, h5]
  | succ n ih =>
    intro a b h
    cases a <;> cases b <;> simp only [eqDn, Bool.false_eq_true, Bool.and_eq_true, decide_eq_true_eq] at h <;> try rfl
    · rw [eqTn_eq h]
    · rw [eqL_eq (fun _ _ h => ih h) h]
    · rw [h.1, h.2]
    · obtain ⟨⟨⟨⟨h1, h2⟩, h3⟩, h4⟩, h5⟩ := h; rw [h1, h2, h3, h4, h5]
    · rw [eqL_eq (fun _ _ h => eqTn_eq h) h]
    · obtain ⟨⟨h1, h2⟩, h3⟩ := h; rw [h1, h2, h3]
    · obtain ⟨⟨⟨⟨h1, h2⟩, h3⟩, h4⟩, h5⟩ := h; rw [h1, h2, h3, h4, h5]
    · rw [h.1, eqL_eq (fun _ _ h => ih h) h.2]
    · rw [eqL_eq (fun _ _ h => ih h) h]
def eqOb : Obj → Obj → Bool
  | .box a, .box b => eqL (eqDn 16) a b
  | .arr a b c d, .arr a' b' c' d' => decide (a = a') && (b == b') && decide (c = c') && eqL (eqDn 16) d d'
  | _, _ => false
theorem eqOb_eq {a b : Obj} (h : eqOb a b = true) : a = b := by
  cases a <;> cases b <;> simp only [eqOb, Bool.false_eq_true, Bool.and_eq_true, decide_eq_true_eq, beq_iff_eq] at h
  · rw [eqL_eq (fun _ _ h => eqDn_eq h) h]
  · obtain ⟨⟨⟨h1, h2⟩, h3⟩, h4⟩ := h
    rw [h1, h2, h3, eqL_eq (fun _ _ h => eqDn_eq h) h4]
def eqOp {α : Type} (f : α → α → Bool) : Option α → Option α → Bool
  | none, none => true
  | some a, some b => f a b
  | _, _ => false
theorem eqOp_eq {α : Type} {f : α → α → Bool} (h : ∀ a b, f a b = true → a = b) {x y : Option α} (h' : eqOp f x y = true) : x = y := by
  cases x <;> cases y <;> simp only [eqOp, Bool.false_eq_true] at h'
  · rfl
  · rw [h _ _ h']
def steadyC (tr : List (List D × List D × Heap)) (rs : List R) (p : Nat × Nat) : Bool :=
  match tr[p.1]?, rs[p.1]?, tr[p.2]?, tr[p.1 + 1]? with
  | some s, some r, some a, some s' => (match r.o with
    | .al _ _ => eqOp eqOb a.2.2[s.2.2.length]? s'.2.2[s.2.2.length]?
    | o => (wantedR s.1 r.g == some false) ||
      (eqOp (eqDn 16) (peek (X.get s.2.1 s.1) a.2.2 o) (peek (X.get s.2.1 s.1) s.2.2 o) && (peek (X.get s.2.1 s.1) s.2.2 o).isSome))
  | _, _, _, _ => false
open Classical in
theorem steadyC_some {tr : List (List D × List D × Heap)} {rs : List R} {p : Nat × Nat} (h : steadyC tr rs p = true) : steady tr rs p = true := by
  unfold steadyC at h
  unfold steady
  split at h
  · rename_i s r a s' e1 e2 e3 e4
    rw [e1, e2, e3, e4]
    simp only
    split at h
    · rename_i e; rw [e]; simp only; exact decide_eq_true (eqOp_eq (fun _ _ h => eqOb_eq h) h)
    · rename_i o hne
      have h2 : ((wantedR s.1 r.g == some false) || (decide (peek (X.get s.2.1 s.1) a.2.2 r.o = peek (X.get s.2.1 s.1) s.2.2 r.o) && (peek (X.get s.2.1 s.1) s.2.2 r.o).isSome)) = true := by
        rw [Bool.or_eq_true] at h ⊢
        rcases h with h | h
        · exact .inl h
        · rw [Bool.and_eq_true] at h ⊢
          exact .inr ⟨decide_eq_true (eqOp_eq (fun _ _ h => eqDn_eq h) h.1), h.2⟩
      split
      · rename_i z l e; exact (hne z l e).elim
      · exact h2
  · cases h
def evRgC (call : Oracle) (rs : List R) (ps : List (Nat × Nat)) (vs : List D) (H : Heap) : Option (List D × List D × Heap) :=
  if ps.isEmpty || ps.all (steadyC (trace call rs [] vs H) rs) then evR call rs [] vs H else none
theorem evRgC_some {call call' : Oracle} (h : Ap call call') {rs : List R} {ps : List (Nat × Nat)} {vs : List D} {H : Heap} {q : List D × List D × Heap} (hq : evRgC call rs ps vs H = some q) : evRg call' rs ps vs H = some q := by
  unfold evRgC at hq
  unfold evRg
  split at hq
  · rename_i hc
    obtain ⟨h1, h2⟩ := evR_mono h hq
    rw [h2, if_pos ?_, h1]
    rw [Bool.or_eq_true] at hc ⊢
    rcases hc with hc | hc
    · exact .inl hc
    · refine .inr (List.all_eq_true.2 fun x hx => steadyC_some (List.all_eq_true.1 hc x hx))
  · cases hq
def condK (c : Option D) (a b : Option (Ex × St)) : Option (Ex × St) := match c with
  | some (.t (.bool x)) => if x then a else b
  | _ => none
theorem condK_mono {c : Option D} {a b a' b' : Option (Ex × St)} {p : Ex × St} (h : condK c a b = some p) (ha : a = some p → a' = some p) (hb : b = some p → b' = some p) : condC c a' b' = some p := by
  unfold condK at h
  unfold condC
  split at h
  · rename_i x
    cases x with
    | true => simpa using ha (by simpa using h)
    | false => simpa using hb (by simpa using h)
  · cases h
def evCC (call : Oracle) (fuel : Nat) : C → St → Option (Ex × St)
  | .skip, st => some (.normal, st)
  | .reg rs ps, st => (evRgC call rs ps st.vs st.H).map fun q => (.normal, ⟨q.2.1, q.2.2⟩)
  | .seq a b, st => (evCC call fuel a st).bind fun p => thenC p (evCC call fuel b)
  | .ite rs ps k a b, st => (evRgC call rs ps st.vs st.H).bind fun q =>
      condK q.1[k]? (evCC call fuel a ⟨q.2.1, q.2.2⟩) (evCC call fuel b ⟨q.2.1, q.2.2⟩)
  | .its rs ps k a b c, st => ((evRgC call rs ps st.vs st.H).bind fun q =>
      condK q.1[k]? (evCC call fuel a ⟨q.2.1, q.2.2⟩) (evCC call fuel b ⟨q.2.1, q.2.2⟩)).bind fun p => thenC p (evCC call fuel c)
  | .itk rs ps k a b c, st => (evRgC call rs ps st.vs st.H).bind fun q =>
      condK q.1[k]? ((evCC call fuel a ⟨q.2.1, q.2.2⟩).bind fun p => thenC p (evCC call fuel c)) ((evCC call fuel b ⟨q.2.1, q.2.2⟩).bind fun p => thenC p (evCC call fuel c))
  | .itv j a b, st => condK st.vs[j]? (evCC call fuel a st) (evCC call fuel b st)
  | .blk id c, st => (evCC call fuel c st).map (leave id)
  | .loop gc dead c, st => iter gc dead (evCC call fuel c) fuel ⟨dropV dead st.vs, st.H⟩
  | .exit id, st => some (.exit id, st)
  | .ret, st => some (.ret, st)
  | .fail, _ => none
  | .cnd _ c, st => evCC call fuel c st
theorem evCC_some {call call' : Oracle} (h : Ap call call') {n : Nat} : ∀ (c : C) (st : St) (p : Ex × St), evCC call n c st = some p → evC call' n c st = some p := by
  intro c
  induction c with
  | skip => intro st p hp; exact hp
  | reg rs ps =>
    intro st p hp
    simp only [evCC, evC] at hp ⊢
    obtain ⟨q, hq, rfl⟩ := Option.map_eq_some_iff.1 hp
    rw [evRgC_some h hq]; rfl
  | seq a b iha ihb =>
    intro st p hp
    simp only [evCC, evC] at hp ⊢
    obtain ⟨q, hq, hp⟩ := Option.bind_eq_some_iff.1 hp
    rw [iha _ _ hq, Option.bind_some]
    exact thenC_mono hp ihb
  | ite rs ps k a b iha ihb =>
    intro st p hp
    simp only [evCC, evC] at hp ⊢
    obtain ⟨q, hq, hp⟩ := Option.bind_eq_some_iff.1 hp
    rw [evRgC_some h hq, Option.bind_some]
    exact condK_mono hp (iha _ _) (ihb _ _)
  | its rs ps k a b c iha ihb ihc =>
    intro st p hp
    simp only [evCC, evC] at hp ⊢
    obtain ⟨p1, hp1, hp⟩ := Option.bind_eq_some_iff.1 hp
    obtain ⟨q, hq, hp1⟩ := Option.bind_eq_some_iff.1 hp1
    rw [evRgC_some h hq, Option.bind_some, condK_mono hp1 (iha _ _) (ihb _ _), Option.bind_some]
    exact thenC_mono hp ihc
  | itk rs ps k a b c iha ihb ihc =>
    intro st p hp
    simp only [evCC, evC] at hp ⊢
    obtain ⟨q, hq, hp⟩ := Option.bind_eq_some_iff.1 hp
    rw [evRgC_some h hq, Option.bind_some]
    refine condK_mono hp (fun h1 => ?_) (fun h1 => ?_)
    · obtain ⟨p1, h2, h3⟩ := Option.bind_eq_some_iff.1 h1
      rw [iha _ _ h2, Option.bind_some]
      exact thenC_mono h3 ihc
    · obtain ⟨p1, h2, h3⟩ := Option.bind_eq_some_iff.1 h1
      rw [ihb _ _ h2, Option.bind_some]
      exact thenC_mono h3 ihc
  | itv j a b iha ihb =>
    intro st p hp
    simp only [evCC, evC] at hp ⊢
    exact condK_mono hp (iha _ _) (ihb _ _)
  | blk id c ih =>
    intro st p hp
    simp only [evCC, evC] at hp ⊢
    obtain ⟨q, hq, rfl⟩ := Option.map_eq_some_iff.1 hp
    rw [ih _ _ hq]; rfl
  | loop gc dead c ih =>
    intro st p hp
    simp only [evCC, evC] at hp ⊢
    exact iter_mono ih hp
  | exit id => intro st p hp; exact hp
  | ret => intro st p hp; exact hp
  | fail => intro st p hp; cases hp
  | cnd v c ih => intro st p hp; exact ih st p hp
def evCallC (fs : Nat → Option Fn) : Nat → Oracle
  | 0, _, _, _, _ => none
  | n + 1, raw, f, args, H => (fs f).bind fun fn => if fn.prim ≠ [] then primF fn.prim args H else if fn.nargs = args.length then
      (evCC (evCallC fs n) n fn.body ⟨initVs args fn.vars, H⟩).bind fun p => match p.1 with
        | .exit _ => none
        | _ => (getRes p.2 fn.res).bind (finish H.length raw p.2.H)
    else none
theorem evCallC_ap {fs : Nat → Option Fn} : ∀ n, Ap (evCallC fs n) (evCall fs n)
  | 0 => fun raw f args H r h => by cases h
  | n + 1 => fun raw f args H r h => by
    simp only [evCallC, evCall] at h ⊢
    obtain ⟨fn, hfn, h⟩ := Option.bind_eq_some_iff.1 h
    rw [hfn, Option.bind_some]
    split at h
    · rename_i hn; rw [if_pos hn]; exact h
    rename_i hpr
    rw [if_neg hpr]
    split at h
    · rename_i hn
      rw [if_pos hn]
      obtain ⟨p, hp, h⟩ := Option.bind_eq_some_iff.1 h
      rw [evCC_some (evCallC_ap n) _ _ _ hp, Option.bind_some]; exact h
    · cases h
theorem callL_run {fs : Nat → Option Fn} (n : Nat) {raw f : Nat} {args : List D} {H : Heap} {r : D × Heap} (h : evCallC fs n raw f args H = some r) : callL fs raw f args H = some r :=
  evCall_ap n _ _ _ _ _ (evCallC_ap n _ _ _ _ _ h)
def runsTrue (fs : Nat → Option Fn) (n f : Nat) : Bool := match evCallC fs n 0 f [] [] with
  | some (.t (.bool true), []) => true
  | _ => false
theorem runsTrue_ok {fs : Nat → Option Fn} {n f : Nat} (h : runsTrue fs n f = true) : callL fs 0 f [] [] = some (.t (.bool true), []) := by
  refine callL_run n ?_
  unfold runsTrue at h
  split at h
  · assumption
  · cases h
end Go.Ev

namespace Go.Ev
open Go
abbrev Tr := List D × List D × Heap
def fst? (x : Option (D × Heap)) : Option D := x.map Prod.fst
def lateOK : O → Bool
  | .ld .. => true
  | .ia .. => true
  | .sc .. => true
  | .mkt .. => true
  | _ => false
def pairQ (call : Oracle) (all : List R) (n : Nat) (acc : List Tr) (p m : Nat) : Prop :=
  match all[p]?, acc[n - p]?, acc[n - m]?, acc[n - (p + 1)]? with
  | some r, some s, some a, some s' => (match r.o with
    | .al _ _ => a.2.2[s.2.2.length]? = s'.2.2[s.2.2.length]?
    | .bs xs _ => wantedR s.1 r.g = some false ∨ ((mapO (X.get s.2.1 s.1) xs).bind allT).isSome = true
    | o => lateOK o = true ∧ (wantedR s.1 r.g = some false ∨ fst? (evO call (X.get s.2.1 s.1) a.2.2 o) = fst? (evO call (X.get s.2.1 s.1) s.2.2 o)))
  | _, _, _, _ => False
def pairsQ (call : Oracle) (all : List R) (n : Nat) (acc : List Tr) : List (Nat × Nat) → Prop
  | [] => True
  | (p, m) :: r => pairQ call all n acc p m ∧ m ≤ n ∧ pairsQ call all n acc r
open Classical in
noncomputable def evRq (call : Oracle) (rs : List R) (ps : List (Nat × Nat)) (vs : List D) (H : Heap) : Option (List D × List D × Heap) :=
  if pairsQ call rs rs.length (trace call rs [] vs H).reverse ps then evR call rs [] vs H else none
theorem trace_step {call : Oracle} : ∀ {rs : List R} {L vs : List D} {H : Heap} {res : List D × List D × Heap}, evR call rs L vs H = some res →
    (trace call rs L vs H).length = rs.length + 1 ∧
    ∀ p r s s', rs[p]? = some r → (trace call rs L vs H)[p]? = some s → (trace call rs L vs H)[p + 1]? = some s' →
      (∃ q, wantedR s.1 r.g = some true ∧ evO call (X.get s.2.1 s.1) s.2.2 r.o = some q ∧ s' = (q.1 :: s.1, wr s.2.1 r.d q.1, q.2)) ∨ wantedR s.1 r.g = some false
  | [], L, vs, H, res, h => by simp [trace]
  | r :: rs, L, vs, H, res, h => by
    simp only [evR] at h
    obtain ⟨b, hb, h⟩ := Option.bind_eq_some_iff.1 h
    cases b with
    | true =>
      simp only [if_true] at h
      obtain ⟨q, hq, h⟩ := Option.bind_eq_some_iff.1 h
      obtain ⟨a1, a2⟩ := trace_step h
      have e : trace call (r :: rs) L vs H = (L, vs, H) :: trace call rs (q.1 :: L) (wr vs r.d q.1) q.2 := by simp [trace, hb, hq]
      rw [e]
      refine ⟨by simp [a1], fun p r' s s' hr hs hs' => ?_⟩
      cases p with
      | zero =>
        simp at hr hs hs'
        subst hr; subst hs
        have : (trace call rs (q.1 :: L) (wr vs r.d q.1) q.2)[0]? = some (q.1 :: L, wr vs r.d q.1, q.2) := by cases rs <;> simp [trace]
        rw [this] at hs'
        exact .inl ⟨q, hb, hq, (Option.some.inj hs').symm⟩
      | succ p => simp at hr hs hs'; exact a2 p r' s s' hr hs hs'
    | false =>
      simp only [Bool.false_eq_true, if_false] at h
      obtain ⟨a1, a2⟩ := trace_step h
      have e : trace call (r :: rs) L vs H = (L, vs, H) :: trace call rs (.tup [] :: L) (wr vs r.d (.tup [])) H := by simp [trace, hb]
      rw [e]
      refine ⟨by simp [a1], fun p r' s s' hr hs hs' => ?_⟩
      cases p with
      | zero =>
        simp at hr hs
        subst hr; subst hs
        exact .inr hb
      | succ p => simp at hr hs hs'; exact a2 p r' s s' hr hs hs'
theorem peek_of {call : Oracle} {get : X → Option D} {o : O} (h : lateOK o = true) (H : Heap) : fst? (evO call get H o) = peek get H o := by
  cases o <;> simp only [lateOK, Bool.false_eq_true] at h
  case ia x i sz =>
    simp only [evO, peek, fst?]
    cases get x with
    | none => rfl
    | some a =>
      simp only [Option.bind_some]
      cases (get i).bind intOf with
      | none => rfl
      | some n => simp only [Option.bind_some]; cases iaddr H a n sz <;> rfl
  case ld x n agg =>
    simp only [evO, peek, fst?]
    cases get x with
    | none => rfl
    | some a => simp only [Option.bind_some]; cases loadD H a n agg <;> rfl
  case mkt len zero sz =>
    simp only [evO, peek, fst?]
    cases (get len).bind intOf with
    | none => rfl
    | some n =>
      simp only [Option.bind_some]
      cases idx n with
      | none => rfl
      | some m => simp only [Option.bind_some]; split <;> rfl
  case sc x lo hi sz =>
    simp only [evO, peek, fst?]
    cases get x with
    | none => rfl
    | some a =>
      simp only [Option.bind_some]
      cases optI get lo with
      | none => rfl
      | some l =>
        simp only [Option.bind_some]
        cases optI get hi with
        | none => rfl
        | some h => simp only [Option.bind_some]; cases sliceD H a l h sz <;> rfl
theorem evRq_some {call : Oracle} {rs : List R} {ps : List (Nat × Nat)} {vs : List D} {H : Heap} {q : List D × List D × Heap} (h : evRq call rs ps vs H = some q) : evRg call rs ps vs H = some q := by
  unfold evRq at h
  split at h
  · rename_i hp
    unfold evRg
    obtain ⟨h1, h2⟩ := trace_step h
    have key : ps.all (steady (trace call rs [] vs H) rs) = true := by
      rw [List.all_eq_true]
      have : ∀ (ps : List (Nat × Nat)), pairsQ call rs rs.length (trace call rs [] vs H).reverse ps → ∀ x ∈ ps, steady (trace call rs [] vs H) rs x = true := by
        intro ps
        induction ps with
        | nil => intro _ x hx; cases hx
        | cons y ps ih =>
          intro hps x hx
          obtain ⟨p, m⟩ := y
          obtain ⟨hp, hm, hps⟩ := hps
          rcases List.mem_cons.1 hx with rfl | hx
          · unfold pairQ at hp
            have hidx : ∀ k, k ≤ rs.length → (trace call rs [] vs H).reverse[rs.length - k]? = (trace call rs [] vs H)[k]? := by
              intro k hk
              rw [List.getElem?_reverse (by omega), h1]
              congr 1; omega
            split at hp
            · rename_i r s a s' hr hs ha hs'
              have hpl : p < rs.length := (List.getElem?_eq_some_iff.1 hr).1
              rw [hidx p (by omega)] at hs
              rw [hidx m hm] at ha
              rw [hidx (p + 1) (by omega)] at hs'
              simp only [steady, hs, hr, ha, hs']
              have hst := h2 p r s s' hr hs hs'
              have gen : ∀ o, r.o = o → lateOK o = true → (wantedR s.1 r.g = some false ∨ fst? (evO call (X.get s.2.1 s.1) a.2.2 o) = fst? (evO call (X.get s.2.1 s.1) s.2.2 o)) →
                  wantedR s.1 r.g = some false ∨ (peek (X.get s.2.1 s.1) a.2.2 o = peek (X.get s.2.1 s.1) s.2.2 o ∧ (peek (X.get s.2.1 s.1) s.2.2 o).isSome = true) := by
                intro o ho hl hor
                rcases hor with h3 | h3
                · exact .inl h3
                · rw [peek_of hl, peek_of hl] at h3
                  rcases hst with ⟨q, k1, k2, _⟩ | k
                  · rw [ho] at k2
                    have h4 : peek (X.get s.2.1 s.1) s.2.2 o = some q.1 := by rw [← peek_of hl (call := call), k2]; rfl
                    exact .inr ⟨h3, by rw [h4]; rfl⟩
                  · exact .inl k
              split
              · rename_i zero live ho
                rw [ho] at hp
                simp only at hp
                simp [hp]
              · rename_i hnal
                simp only [Bool.or_eq_true, beq_iff_eq, Bool.and_eq_true, decide_eq_true_eq]
                cases ho : r.o with
                | ld x n agg => rw [ho] at hp; exact gen _ ho rfl hp.2
                | ia x i sz => rw [ho] at hp; exact gen _ ho rfl hp.2
                | sc x lo hi sz => rw [ho] at hp; exact gen _ ho rfl hp.2
                | mkt x z sz => rw [ho] at hp; exact gen _ ho rfl hp.2
                | al z l => exact (hnal _ _ ho).elim
                | bs xs sz =>
                  rw [ho] at hp
                  simp only at hp
                  rcases hp with h3 | h3
                  · exact .inl h3
                  · rcases hst with ⟨q, k1, k2, _⟩ | k
                    · obtain ⟨ts, hts⟩ := Option.isSome_iff_exists.1 h3
                      obtain ⟨ds, hds, hts⟩ := Option.bind_eq_some_iff.1 hts
                      rw [ho] at k2
                      simp only [evO, hds, Option.bind_some] at k2
                      split at k2
                      · rename_i hall
                        have har : ∀ (H : Heap) (ds : List D) (ts : List T), allT ds = some ts → ds.flatMap (arrs H depth) = [] ∧ mapO (frz H depth) ds = some ts := by
                          intro H ds
                          induction ds with
                          | nil => intro ts h; simp [allT] at h; subst h; exact ⟨rfl, rfl⟩
                          | cons d ds ih =>
                            intro ts h
                            cases d with
                            | t x =>
                              simp only [allT, Option.map_eq_some_iff] at h
                              obtain ⟨r, hr, rfl⟩ := h
                              obtain ⟨i1, i2⟩ := ih r hr
                              exact ⟨by rw [List.flatMap_cons, i1]; simp [arrs, depth], by simp [mapO, frz, i2]⟩
                            | _ => simp [allT] at h
                        right
                        simp only [peek, hds, Option.bind_some, hall, (har _ ds ts hts).1, (har _ ds ts hts).2, List.isEmpty_nil, Bool.and_self, if_true, Option.map_some, Option.isSome_some, and_self]
                      · cases k2
                    · exact .inl k
                | _ => rw [ho] at hp; simp [lateOK] at hp
            · exact hp.elim
          · exact ih hps x hx
      exact fun x hx => this ps hp x hx
    rw [if_pos (by simp [key])]
    exact h
  · cases h
noncomputable def exS (call : Oracle) : C → St → Option (Ex × St)
  | .skip, st => some (.normal, st)
  | .reg rs ps, st => (evRq call rs ps st.vs st.H).map fun q => (.normal, ⟨q.2.1, q.2.2⟩)
  | .seq a b, st => (exS call a st).bind fun p => thenC p (exS call b)
  | .ite rs ps k a b, st => (evRq call rs ps st.vs st.H).bind fun q =>
      condC q.1[k]? (exS call a ⟨q.2.1, q.2.2⟩) (exS call b ⟨q.2.1, q.2.2⟩)
  | .its rs ps k a b c, st => ((evRq call rs ps st.vs st.H).bind fun q =>
      condC q.1[k]? (exS call a ⟨q.2.1, q.2.2⟩) (exS call b ⟨q.2.1, q.2.2⟩)).bind fun p => thenC p (exS call c)
  | .itk rs ps k a b c, st => (evRq call rs ps st.vs st.H).bind fun q =>
      condC q.1[k]? ((exS call a ⟨q.2.1, q.2.2⟩).bind fun p => thenC p (exS call c)) ((exS call b ⟨q.2.1, q.2.2⟩).bind fun p => thenC p (exS call c))
  | .itv j a b, st => condC st.vs[j]? (exS call a st) (exS call b st)
  | .blk id c, st => (exS call c st).map (leave id)
  | .loop gc dead c, st => loopC gc dead (exS call c) ⟨dropV dead st.vs, st.H⟩
  | .exit id, st => some (.exit id, st)
  | .ret, st => some (.ret, st)
  | .fail, _ => none
  | .cnd _ c, st => exS call c st
theorem exS_some {call : Oracle} : ∀ (c : C) (st : St) (p : Ex × St), exS call c st = some p → exC call c st = some p := by
  intro c
  induction c with
  | skip => intro st p h; exact h
  | reg rs ps =>
    intro st p h
    simp only [exS, exC] at h ⊢
    obtain ⟨q, hq, rfl⟩ := Option.map_eq_some_iff.1 h
    rw [evRq_some hq]; rfl
  | seq a b iha ihb =>
    intro st p h
    simp only [exS, exC] at h ⊢
    obtain ⟨q, hq, h⟩ := Option.bind_eq_some_iff.1 h
    rw [iha _ _ hq, Option.bind_some]
    exact thenC_mono h ihb
  | ite rs ps k a b iha ihb =>
    intro st p h
    simp only [exS, exC] at h ⊢
    obtain ⟨q, hq, h⟩ := Option.bind_eq_some_iff.1 h
    rw [evRq_some hq, Option.bind_some]
    exact condC_mono h (iha _ _) (ihb _ _)
  | its rs ps k a b c iha ihb ihc =>
    intro st p h
    simp only [exS, exC] at h ⊢
    obtain ⟨p1, hp1, h⟩ := Option.bind_eq_some_iff.1 h
    obtain ⟨q, hq, hp1⟩ := Option.bind_eq_some_iff.1 hp1
    rw [evRq_some hq, Option.bind_some, condC_mono hp1 (iha _ _) (ihb _ _), Option.bind_some]
    exact thenC_mono h ihc
  | itk rs ps k a b c iha ihb ihc =>
    intro st p h
    simp only [exS, exC] at h ⊢
    obtain ⟨q, hq, h⟩ := Option.bind_eq_some_iff.1 h
    rw [evRq_some hq, Option.bind_some]
    refine condC_mono h (fun h1 => ?_) (fun h1 => ?_)
    · obtain ⟨p1, h2, h3⟩ := Option.bind_eq_some_iff.1 h1
      rw [iha _ _ h2, Option.bind_some]
      exact thenC_mono h3 ihc
    · obtain ⟨p1, h2, h3⟩ := Option.bind_eq_some_iff.1 h1
      rw [ihb _ _ h2, Option.bind_some]
      exact thenC_mono h3 ihc
  | itv j a b iha ihb =>
    intro st p h
    simp only [exS, exC] at h ⊢
    exact condC_mono h (iha _ _) (ihb _ _)
  | blk id c ih =>
    intro st p h
    simp only [exS, exC] at h ⊢
    obtain ⟨q, hq, rfl⟩ := Option.map_eq_some_iff.1 h
    rw [ih _ _ hq]; rfl
  | loop gc dead c ih =>
    intro st p h
    simp only [exS, exC] at h ⊢
    obtain ⟨n, hn⟩ := loopC_iff.1 h
    exact loopC_iff.2 ⟨n, iter_mono ih hn⟩
  | exit id => intro st p h; exact h
  | ret => intro st p h; exact h
  | fail => intro st p h; cases h
  | cnd v c ih => intro st p h; exact ih st p h
end Go.Ev

namespace Go.Ev
open Go
abbrev I (n : Int) : D := .t (.int .i64 n)
abbrev B (b : Bool) : D := .t (.bool b)
def runR {β : Type} (call : Oracle) : List R → List D → List D → Heap → (List D → List D → Heap → Option β) → Option β
  | rs, L, vs, H, K => (evR call rs L vs H).bind fun q => K q.1 q.2.1 q.2.2
def contR {β : Type} (call : Oracle) (rs : List R) (d : Option Nat) (L vs : List D) (K : List D → List D → Heap → Option β) (p : D × Heap) : Option β :=
  runR call rs (p.1 :: L) (wr vs d p.1) p.2 K
@[go_sem] theorem contR_mk {β : Type} (call : Oracle) (rs : List R) (d : Option Nat) (L vs : List D) (K : List D → List D → Heap → Option β) (x : D) (H : Heap) :
    contR call rs d L vs K (x, H) = runR call rs (x :: L) (wr vs d x) H K := (rfl)
@[go_sem] theorem runR_nil {β : Type} (call : Oracle) (L vs : List D) (H : Heap) (K : List D → List D → Heap → Option β) : runR call [] L vs H K = K L vs H := (rfl)
@[go_sem] theorem runR_cons {β : Type} (call : Oracle) (o : O) (d : Option Nat) (rs : List R) (L vs : List D) (H : Heap) (K : List D → List D → Heap → Option β) :
    runR call (⟨o, d, none⟩ :: rs) L vs H K = (evO call (X.get vs L) H o).bind (contR call rs d L vs K) := by
  simp [runR, evR, wantedR, Option.bind_assoc]
  rfl
def gate {β : Type} (c : Option D) (w : Bool) (a b : Option β) : Option β := match c with
  | some (.t (.bool x)) => if x = w then a else b
  | some (.tup []) => b
  | _ => none
@[congr] theorem gate_congr {β : Type} {c c' : Option D} {w : Bool} {a b : Option β} (h : True → c = c') : gate c w a b = gate c' w a b := by rw [h trivial]
@[go_sem] theorem gate_dec {β : Type} (p : Prop) [Decidable p] (a b : Option β) : gate (some (.t (.bool (decide p)))) true a b = if p then a else b := by
  by_cases h : p <;> simp [gate, h]
@[go_sem] theorem gate_fdec {β : Type} (p : Prop) [Decidable p] (a b : Option β) : gate (some (.t (.bool (decide p)))) false a b = if p then b else a := by
  by_cases h : p <;> simp [gate, h]
@[go_sem] theorem gate_true {β : Type} (x : Bool) (a b : Option β) : gate (some (.t (.bool x))) true a b = if x = true then a else b := (rfl)
@[go_sem] theorem gate_false {β : Type} (x : Bool) (a b : Option β) : gate (some (.t (.bool x))) false a b = if x = true then b else a := by cases x <;> rfl
@[go_sem] theorem gate_skip {β : Type} (w : Bool) (a b : Option β) : gate (some (.tup [])) w a b = b := (rfl)
@[go_sem] theorem runR_gate {β : Type} (call : Oracle) (o : O) (d : Option Nat) (k : Nat) (w : Bool) (rs : List R) (L vs : List D) (H : Heap) (K : List D → List D → Heap → Option β) :
    runR call (⟨o, d, some (k, w)⟩ :: rs) L vs H K = gate L[k]? w ((evO call (X.get vs L) H o).bind (contR call rs d L vs K)) (runR call rs (.tup [] :: L) (wr vs d (.tup [])) H K) := by
  simp only [runR, evR, wantedR]
  cases hL : L[k]? with
  | none => simp [gate]
  | some c =>
    simp only [Option.bind_some]
    cases c with
    | t x =>
      cases x with
      | bool b => cases b <;> cases w <;> simp [gate, Option.bind_assoc] <;> rfl
      | _ => simp [gate]
    | tup ds =>
      cases ds with
      | nil => simp [gate]
      | cons => simp [gate]
    | _ => simp [gate]
open Classical in
noncomputable def guardP {β : Type} (p : Prop) (x : Option β) : Option β := if p then x else none
@[go_sem] theorem guardP_true {β : Type} (x : Option β) : guardP True x = x := by simp [guardP]
noncomputable def runQ {β : Type} (call : Oracle) (all : List R) (n : Nat) (ps : List (Nat × Nat)) (rs : List R) (L vs : List D) (H : Heap) (acc : List Tr) (K : List D → List D → Heap → Option β) : Option β :=
  (evR call rs L vs H).bind fun q => guardP (pairsQ call all n ((trace call rs L vs H).reverse ++ acc) ps) (K q.1 q.2.1 q.2.2)
noncomputable def contQ {β : Type} (call : Oracle) (all : List R) (n : Nat) (ps : List (Nat × Nat)) (rs : List R) (d : Option Nat) (L vs : List D) (H : Heap) (acc : List Tr) (K : List D → List D → Heap → Option β) (p : D × Heap) : Option β :=
  runQ call all n ps rs (p.1 :: L) (wr vs d p.1) p.2 ((L, vs, H) :: acc) K
@[go_sem] theorem contQ_mk {β : Type} (call : Oracle) (all : List R) (n : Nat) (ps : List (Nat × Nat)) (rs : List R) (d : Option Nat) (L vs : List D) (H : Heap) (acc : List Tr) (K : List D → List D → Heap → Option β) (x : D) (H' : Heap) :
    contQ call all n ps rs d L vs H acc K (x, H') = runQ call all n ps rs (x :: L) (wr vs d x) H' ((L, vs, H) :: acc) K := (rfl)
@[go_sem] theorem runQ_nil {β : Type} (call : Oracle) (all : List R) (n : Nat) (ps : List (Nat × Nat)) (L vs : List D) (H : Heap) (acc : List Tr) (K : List D → List D → Heap → Option β) :
    runQ call all n ps [] L vs H acc K = guardP (pairsQ call all n ((L, vs, H) :: acc) ps) (K L vs H) := by
  simp [runQ, evR, trace]
theorem runQ_step {β : Type} (call : Oracle) (all : List R) (n : Nat) (ps : List (Nat × Nat)) (r : R) (rs : List R) (L vs : List D) (H : Heap) (acc : List Tr) (K : List D → List D → Heap → Option β) :
    runQ call all n ps (r :: rs) L vs H acc K = (wantedR L r.g).bind fun w =>
      if w then (evO call (X.get vs L) H r.o).bind (contQ call all n ps rs r.d L vs H acc K) else runQ call all n ps rs (.tup [] :: L) (wr vs r.d (.tup [])) H ((L, vs, H) :: acc) K := by
  obtain hw | ⟨w, hw⟩ : wantedR L r.g = none ∨ ∃ w, wantedR L r.g = some w := by cases wantedR L r.g <;> simp
  · simp [runQ, evR, trace, hw]
  · cases w with
    | true =>
      obtain hq | ⟨q, hq⟩ : evO call (X.get vs L) H r.o = none ∨ ∃ q, evO call (X.get vs L) H r.o = some q := by cases evO call (X.get vs L) H r.o <;> simp
      · simp [runQ, evR, trace, hw, hq]
      · simp [runQ, evR, trace, hw, hq, contQ]
    | false => simp [runQ, evR, trace, hw]
@[go_sem] theorem runQ_cons {β : Type} (call : Oracle) (all : List R) (n : Nat) (ps : List (Nat × Nat)) (o : O) (d : Option Nat) (rs : List R) (L vs : List D) (H : Heap) (acc : List Tr) (K : List D → List D → Heap → Option β) :
    runQ call all n ps (⟨o, d, none⟩ :: rs) L vs H acc K = (evO call (X.get vs L) H o).bind (contQ call all n ps rs d L vs H acc K) := by
  rw [runQ_step]; simp [wantedR]
@[go_sem] theorem runQ_gate {β : Type} (call : Oracle) (all : List R) (n : Nat) (ps : List (Nat × Nat)) (o : O) (d : Option Nat) (k : Nat) (w : Bool) (rs : List R) (L vs : List D) (H : Heap) (acc : List Tr) (K : List D → List D → Heap → Option β) :
    runQ call all n ps (⟨o, d, some (k, w)⟩ :: rs) L vs H acc K =
      gate L[k]? w ((evO call (X.get vs L) H o).bind (contQ call all n ps rs d L vs H acc K)) (runQ call all n ps rs (.tup [] :: L) (wr vs d (.tup [])) H ((L, vs, H) :: acc) K) := by
  rw [runQ_step]
  simp only [wantedR]
  cases hL : L[k]? with
  | none => simp [gate]
  | some c =>
    simp only [Option.bind_some]
    cases c with
    | t x =>
      cases x with
      | bool b => cases b <;> cases w <;> simp [gate]
      | _ => simp [gate]
    | tup ds =>
      cases ds with
      | nil => simp [gate]
      | cons => simp [gate]
    | _ => simp [gate]
def pairO (call : Oracle) : Option R → Option Tr → Option Tr → Option Tr → Prop
  | some r, some s, some a, some s' => (match r.o with
    | .al _ _ => a.2.2[s.2.2.length]? = s'.2.2[s.2.2.length]?
    | .bs xs _ => wantedR s.1 r.g = some false ∨ ((mapO (X.get s.2.1 s.1) xs).bind allT).isSome = true
    | o => lateOK o = true ∧ (wantedR s.1 r.g = some false ∨ fst? (evO call (X.get s.2.1 s.1) a.2.2 o) = fst? (evO call (X.get s.2.1 s.1) s.2.2 o)))
  | _, _, _, _ => False
@[go_sem] theorem pairsQ_nil (call : Oracle) (all : List R) (n : Nat) (acc : List Tr) : pairsQ call all n acc [] = True := (rfl)
@[go_sem] theorem pairsQ_cons (call : Oracle) (all : List R) (n : Nat) (acc : List Tr) (p m : Nat) (r : List (Nat × Nat)) :
    pairsQ call all n acc ((p, m) :: r) = (pairO call all[p]? acc[n - p]? acc[n - m]? acc[n - (p + 1)]? ∧ m ≤ n ∧ pairsQ call all n acc r) := by
  simp only [pairsQ, pairQ, pairO]
  try rfl
section
variable (call : Oracle) (d : Option Nat) (gd : Option (Nat × Bool)) (L vs L' vs' : List D) (H H' : Heap) (s' : Tr)
@[go_sem] theorem pairO_ld (x : X) (n : Nat) (agg : Bool) : pairO call (some ⟨.ld x n agg, d, gd⟩) (some (L, vs, H)) (some (L', vs', H')) (some s') =
    (wantedR L gd = some false ∨ fst? (evO call (X.get vs L) H' (.ld x n agg)) = fst? (evO call (X.get vs L) H (.ld x n agg))) := by simp [pairO, lateOK]
@[go_sem] theorem pairO_ia (x i : X) (sz : Nat) : pairO call (some ⟨.ia x i sz, d, gd⟩) (some (L, vs, H)) (some (L', vs', H')) (some s') =
    (wantedR L gd = some false ∨ fst? (evO call (X.get vs L) H' (.ia x i sz)) = fst? (evO call (X.get vs L) H (.ia x i sz))) := by simp [pairO, lateOK]
@[go_sem] theorem pairO_sc (x : X) (lo hi : Option X) (sz : Nat) : pairO call (some ⟨.sc x lo hi sz, d, gd⟩) (some (L, vs, H)) (some (L', vs', H')) (some s') =
    (wantedR L gd = some false ∨ fst? (evO call (X.get vs L) H' (.sc x lo hi sz)) = fst? (evO call (X.get vs L) H (.sc x lo hi sz))) := by simp [pairO, lateOK]
@[go_sem] theorem pairO_mkt (x : X) (z : T) (sz : Nat) : pairO call (some ⟨.mkt x z sz, d, gd⟩) (some (L, vs, H)) (some (L', vs', H')) (some s') =
    (wantedR L gd = some false ∨ fst? (evO call (X.get vs L) H' (.mkt x z sz)) = fst? (evO call (X.get vs L) H (.mkt x z sz))) := by simp [pairO, lateOK]
@[go_sem] theorem pairO_al (z : List D) (l : List (Nat × Nat)) (L2 vs2 : List D) (H2 : Heap) : pairO call (some ⟨.al z l, d, gd⟩) (some (L, vs, H)) (some (L', vs', H')) (some (L2, vs2, H2)) = (H'[H.length]? = H2[H.length]?) := (rfl)
@[go_sem] theorem pairO_bs (xs : List X) (sz : Nat) : pairO call (some ⟨.bs xs sz, d, gd⟩) (some (L, vs, H)) (some (L', vs', H')) (some s') =
    (wantedR L gd = some false ∨ ((mapO (X.get vs L) xs).bind allT).isSome = true) := (rfl)
@[go_sem] theorem wantedR_none (L : List D) : wantedR L none = some true := (rfl)
def wantB (w : Bool) : Option D → Option Bool
  | some (.t (.bool b)) => some (b == w)
  | some (.tup []) => some false
  | _ => none
@[go_sem] theorem wantB_bool (w b : Bool) : wantB w (some (.t (.bool b))) = some (b == w) := (rfl)
@[go_sem] theorem wantB_tup (w : Bool) : wantB w (some (.tup [])) = some false := (rfl)
@[go_sem] theorem wantedR_some (L : List D) (k : Nat) (w : Bool) : wantedR L (some (k, w)) = wantB w L[k]? := by
  simp only [wantedR]
  cases L[k]? with
  | none => rfl
  | some c => cases c with
    | t x => cases x <;> rfl
    | tup ds => cases ds <;> rfl
    | _ => rfl
@[go_sem] theorem fst?_some (x : D) : fst? (some (x, H)) = some x := (rfl)
attribute [go_sem] beq_true beq_false or_true true_or or_self
end
theorem evRq_nil (call : Oracle) (rs : List R) (vs : List D) (H : Heap) : evRq call rs [] vs H = evR call rs [] vs H := by
  simp [evRq, pairsQ]
def kReg (L vs : List D) (H : Heap) : Option (Ex × St) := some (.normal, ⟨vs, H⟩)
noncomputable def kIte (call : Oracle) (k : Nat) (a b : C) (L vs : List D) (H : Heap) : Option (Ex × St) := condC L[k]? (exS call a ⟨vs, H⟩) (exS call b ⟨vs, H⟩)
@[go_sem] theorem kReg_eq (L vs : List D) (H : Heap) : kReg L vs H = some (.normal, ⟨vs, H⟩) := (rfl)
@[go_sem] theorem kIte_eq (call : Oracle) (k : Nat) (a b : C) (L vs : List D) (H : Heap) : kIte call k a b L vs H = condC L[k]? (exS call a ⟨vs, H⟩) (exS call b ⟨vs, H⟩) := (rfl)
def andThen (x : Option (Ex × St)) (k : St → Option (Ex × St)) : Option (Ex × St) := x.bind fun p => thenC p k
@[go_sem] theorem andThen_normal (st : St) (k : St → Option (Ex × St)) : andThen (some (.normal, st)) k = k st := (rfl)
@[go_sem] theorem andThen_ret (st : St) (k : St → Option (Ex × St)) : andThen (some (.ret, st)) k = some (.ret, st) := (rfl)
@[go_sem] theorem andThen_exit (i : Nat) (st : St) (k : St → Option (Ex × St)) : andThen (some (.exit i, st)) k = some (.exit i, st) := (rfl)
@[go_sem] theorem andThen_none (k : St → Option (Ex × St)) : andThen none k = none := (rfl)
@[go_sem] theorem andThen_ite (c : Prop) [Decidable c] (a b : Option (Ex × St)) (k : St → Option (Ex × St)) : andThen (if c then a else b) k = if c then andThen a k else andThen b k := by
  split <;> rfl
@[go_sem] theorem exS_skip (call : Oracle) (st : St) : exS call .skip st = some (.normal, st) := (rfl)
@[go_sem] theorem exS_reg (call : Oracle) (rs : List R) (vs : List D) (H : Heap) : exS call (.reg rs []) ⟨vs, H⟩ = runR call rs [] vs H kReg := by
  simp only [exS, evRq_nil, runR]
  cases evR call rs [] vs H <;> rfl
@[go_sem] theorem exS_regp (call : Oracle) (rs : List R) (p : Nat × Nat) (ps : List (Nat × Nat)) (vs : List D) (H : Heap) :
    exS call (.reg rs (p :: ps)) ⟨vs, H⟩ = runQ call rs rs.length (p :: ps) rs [] vs H [] kReg := by
  simp only [exS, evRq, runQ, List.append_nil]
  by_cases h : pairsQ call rs rs.length (trace call rs [] vs H).reverse (p :: ps)
  · rw [if_pos h]
    simp only [guardP, if_pos h]
    cases evR call rs [] vs H <;> rfl
  · rw [if_neg h]
    simp only [guardP, if_neg h]
    cases evR call rs [] vs H <;> rfl
@[go_sem] theorem exS_seq (call : Oracle) (a b : C) (st : St) : exS call (.seq a b) st = andThen (exS call a st) (exS call b) := (rfl)
@[go_sem] theorem exS_ite (call : Oracle) (rs : List R) (k : Nat) (a b : C) (vs : List D) (H : Heap) : exS call (.ite rs [] k a b) ⟨vs, H⟩ = runR call rs [] vs H (kIte call k a b) := by
  simp only [exS, evRq_nil, runR]
  cases evR call rs [] vs H <;> rfl
@[go_sem] theorem exS_itep (call : Oracle) (rs : List R) (p : Nat × Nat) (ps : List (Nat × Nat)) (k : Nat) (a b : C) (vs : List D) (H : Heap) :
    exS call (.ite rs (p :: ps) k a b) ⟨vs, H⟩ = runQ call rs rs.length (p :: ps) rs [] vs H [] (kIte call k a b) := by
  simp only [exS, evRq, runQ, List.append_nil]
  by_cases h : pairsQ call rs rs.length (trace call rs [] vs H).reverse (p :: ps)
  · rw [if_pos h]
    simp only [guardP, if_pos h]
    cases evR call rs [] vs H <;> rfl
  · rw [if_neg h]
    simp only [guardP, if_neg h]
    cases evR call rs [] vs H <;> rfl
@[go_sem] theorem exS_its (call : Oracle) (rs : List R) (ps : List (Nat × Nat)) (k : Nat) (a b c : C) (st : St) : exS call (.its rs ps k a b c) st = andThen (exS call (.ite rs ps k a b) st) (exS call c) := (rfl)
@[go_sem] theorem exS_itk (call : Oracle) (rs : List R) (ps : List (Nat × Nat)) (k : Nat) (a b c : C) (st : St) : exS call (.itk rs ps k a b c) st = exS call (.ite rs ps k (.seq a c) (.seq b c)) st := (rfl)
@[go_sem] theorem exS_itv (call : Oracle) (j : Nat) (a b : C) (vs : List D) (H : Heap) : exS call (.itv j a b) ⟨vs, H⟩ = condC vs[j]? (exS call a ⟨vs, H⟩) (exS call b ⟨vs, H⟩) := (rfl)
@[go_sem] theorem exS_exit (call : Oracle) (id : Nat) (st : St) : exS call (.exit id) st = some (.exit id, st) := (rfl)
@[go_sem] theorem exS_ret (call : Oracle) (st : St) : exS call .ret st = some (.ret, st) := (rfl)
@[go_sem] theorem exS_fail (call : Oracle) (st : St) : exS call .fail st = none := (rfl)
@[go_sem] theorem exS_cnd (call : Oracle) (v : Bool) (c : C) (st : St) : exS call (.cnd v c) st = exS call c st := (rfl)
def outOf (id : Nat) (x : Option (Ex × St)) : Option (Ex × St) := x.map (leave id)
@[go_sem] theorem exS_blk (call : Oracle) (id : Nat) (c : C) (st : St) : exS call (.blk id c) st = outOf id (exS call c st) := (rfl)
@[go_sem] theorem outOf_normal (id : Nat) (st : St) : outOf id (some (.normal, st)) = some (.normal, st) := by simp [outOf, leave]
@[go_sem] theorem outOf_ret (id : Nat) (st : St) : outOf id (some (.ret, st)) = some (.ret, st) := by simp [outOf, leave]
@[go_sem] theorem outOf_exit (id i : Nat) (st : St) : outOf id (some (.exit i, st)) = if i = id then some (.normal, st) else some (.exit i, st) := by
  simp only [outOf, leave, Option.map_some, Ex.exit.injEq]
  split <;> rfl
@[go_sem] theorem outOf_none (id : Nat) : outOf id none = none := (rfl)
@[go_sem] theorem outOf_ite (id : Nat) (c : Prop) [Decidable c] (a b : Option (Ex × St)) : outOf id (if c then a else b) = if c then outOf id a else outOf id b := by
  split <;> rfl
@[congr] theorem condC_congr {c c' : Option D} {a b : Option (Ex × St)} (h : True → c = c') : condC c a b = condC c' a b := by rw [h trivial]
@[go_sem] theorem condC_dec (p : Prop) [Decidable p] (a b : Option (Ex × St)) : condC (some (.t (.bool (decide p)))) a b = if p then a else b := by
  by_cases h : p <;> simp [condC, h]
@[go_sem] theorem condC_ndec (p : Prop) [Decidable p] (a b : Option (Ex × St)) : condC (some (.t (.bool (!decide p)))) a b = if p then b else a := by
  by_cases h : p <;> simp [condC, h]
@[go_sem] theorem condC_ub (a : Option (Ex × St)) : condC (some .ub) a a = a := by simp [condC]
@[go_sem] theorem condC_bool (x : Bool) (a b : Option (Ex × St)) : condC (some (.t (.bool x))) a b = if x = true then a else b := (rfl)
def roundC (gc : Bool) (dead : List Nat) (k : Nat) (x : Option (Ex × St)) : Option St := x.bind fun p => match p.1 with
  | .normal => tidy gc dead k p.2
  | _ => none
@[go_sem] theorem roundC_normal (gc : Bool) (dead : List Nat) (k : Nat) (st : St) : roundC gc dead k (some (.normal, st)) = tidy gc dead k st := (rfl)
@[go_sem] theorem roundC_ite (gc : Bool) (dead : List Nat) (k : Nat) (c : Prop) [Decidable c] (a b : Option (Ex × St)) : roundC gc dead k (if c then a else b) = if c then roundC gc dead k a else roundC gc dead k b := by
  split <;> rfl
theorem loopC_step {gc : Bool} {dead : List Nat} {body : St → Option (Ex × St)} {st st2 : St} (h : roundC gc dead st.H.length (body st) = some st2)
    {p : Ex × St} (h2 : loopC gc dead body st2 = some p) : loopC gc dead body st = some p := by
  unfold roundC at h
  obtain ⟨⟨e, st1⟩, hq, h⟩ := Option.bind_eq_some_iff.1 h
  cases e with
  | normal => exact loopC_next hq h h2
  | ret => cases h
  | exit => cases h
theorem loopC_up {gc : Bool} {dead : List Nat} {body : St → Option (Ex × St)} (s : Nat → St) {p : Ex × St} (n : Nat)
    (h : ∀ j, j < n → roundC gc dead (s j).H.length (body (s j)) = some (s (j + 1))) (he : loopC gc dead body (s n) = some p) : loopC gc dead body (s 0) = some p := by
  have := loopC_rounds (s := s) n 0 (fun j _ hj => by
    have h := h j (by omega)
    unfold roundC at h
    obtain ⟨⟨e, st1⟩, hq, h⟩ := Option.bind_eq_some_iff.1 h
    cases e with
    | normal => exact ⟨st1, hq, h⟩
    | ret => cases h
    | exit => cases h) (by simpa using he)
  exact this
def endR (res : List (Nat × Option (Nat × Bool))) (k raw : Nat) (p : Ex × St) : Option (D × Heap) := match p.1 with
  | .exit _ => none
  | _ => (getRes p.2 res).bind (finish k raw p.2.H)
@[go_sem] theorem endR_ret (res : List (Nat × Option (Nat × Bool))) (k raw : Nat) (vs : List D) (H : Heap) : endR res k raw (.ret, ⟨vs, H⟩) = (getRes ⟨vs, H⟩ res).bind (finish k raw H) := (rfl)
@[go_sem] theorem endR_normal (res : List (Nat × Option (Nat × Bool))) (k raw : Nat) (vs : List D) (H : Heap) : endR res k raw (.normal, ⟨vs, H⟩) = (getRes ⟨vs, H⟩ res).bind (finish k raw H) := (rfl)
theorem call_of {fs : Nat → Option Fn} {raw f : Nat} {args : List D} {H : Heap} {fn : Fn} {r : D × Heap} (hf : fs f = some fn) (hn : fn.nargs = args.length)
    (h : (exS (callL fs) fn.body ⟨initVs args fn.vars, H⟩).bind (endR fn.res H.length raw) = some r) (h0 : fn.prim = [] := by rfl) : callL fs raw f args H = some r := by
  obtain ⟨p, hp, he⟩ := Option.bind_eq_some_iff.1 h
  exact callL_of hf hn (exS_some _ _ _ hp) he h0
@[go_sem] theorem bind_ite {α β : Type} (c : Prop) [Decidable c] (a b : Option α) (k : α → Option β) : (if c then a else b).bind k = if c then a.bind k else b.bind k := by
  split <;> rfl
@[go_sem] theorem map_ite {α β : Type} (c : Prop) [Decidable c] (a b : Option α) (k : α → β) : (if c then a else b).map k = if c then a.map k else b.map k := by
  split <;> rfl
theorem beqI (a b : Int) : (a == b) = decide (a = b) := by rw [Bool.eq_iff_iff]; simp
theorem wrap_id {n : Int} (h1 : -9223372036854775808 ≤ n) (h2 : n ≤ 9223372036854775807) : IntKind.i64.wrap n = n := by
  have e : IntKind.i64.wrap n = if n % 18446744073709551616 ≥ 9223372036854775808 then n % 18446744073709551616 - 18446744073709551616 else n % 18446744073709551616 := by
    simp [IntKind.wrap, IntKind.signed, IntKind.bits]
  rw [e]; split <;> omega
section
variable {α β : Type}
@[go_sem] theorem q_bind_some (a : α) (f : α → Option β) : (some a).bind f = f a := (rfl)
@[go_sem] theorem q_map_some (a : α) (f : α → β) : (some a).map f = some (f a) := (rfl)
@[go_sem] theorem q_bind_none (f : α → Option β) : (none : Option α).bind f = none := (rfl)
@[go_sem] theorem q_map_none (f : α → β) : (none : Option α).map f = none := (rfl)
@[go_sem] theorem q_map_cons (a : α) (l : List α) (f : α → β) : (a :: l).map f = f a :: l.map f := (rfl)
@[go_sem] theorem q_map_nil (f : α → β) : ([] : List α).map f = [] := (rfl)
@[go_sem] theorem q_get_zero (a : α) (l : List α) : (a :: l)[0]? = some a := (rfl)
@[go_sem] theorem q_get_succ (a : α) (l : List α) (n : Nat) : (a :: l)[n + 1]? = l[n]? := (rfl)
@[go_sem] theorem q_getD_zero (a d : α) (l : List α) : (a :: l).getD 0 d = a := (rfl)
@[go_sem] theorem q_getD_succ (a d : α) (l : List α) (n : Nat) : (a :: l).getD (n + 1) d = l.getD n d := (rfl)
@[go_sem] theorem q_getD_nil (d : α) (n : Nat) : ([] : List α).getD n d = d := by simp
@[go_sem] theorem q_set_zero (a b : α) (l : List α) : (a :: l).set 0 b = b :: l := (rfl)
@[go_sem] theorem q_set_succ (a b : α) (l : List α) (n : Nat) : (a :: l).set (n + 1) b = a :: l.set n b := (rfl)
@[go_sem] theorem q_cons_append (a : α) (l m : List α) : (a :: l) ++ m = a :: (l ++ m) := (rfl)
@[go_sem] theorem q_nil_append (l : List α) : [] ++ l = l := (rfl)
@[go_sem] theorem q_append_nil (l : List α) : l ++ [] = l := by simp
@[go_sem] theorem q_flatMap_cons (a : α) (l : List α) (f : α → List β) : (a :: l).flatMap f = f a ++ l.flatMap f := by simp
@[go_sem] theorem q_flatMap_nil (f : α → List β) : ([] : List α).flatMap f = [] := by simp
@[go_sem] theorem q_length_nil : ([] : List α).length = 0 := (rfl)
@[go_sem] theorem q_length_cons (a : α) (l : List α) : (a :: l).length = l.length + 1 := (rfl)
@[go_sem] theorem q_length_map (l : List α) (f : α → β) : (l.map f).length = l.length := by simp
@[go_sem] theorem q_length_append (l m : List α) : (l ++ m).length = l.length + m.length := by simp
@[go_sem] theorem q_length_replicate (n : Nat) (a : α) : (List.replicate n a).length = n := by simp
@[go_sem] theorem q_length_set (l : List α) (i : Nat) (a : α) : (l.set i a).length = l.length := by simp
@[go_sem] theorem q_drop_zero (l : List α) : l.drop 0 = l := (rfl)
@[go_sem] theorem q_drop_succ (a : α) (l : List α) (n : Nat) : (a :: l).drop (n + 1) = l.drop n := (rfl)
@[go_sem] theorem q_drop_nil (n : Nat) : ([] : List α).drop n = [] := by simp
@[go_sem] theorem q_take_zero (l : List α) : l.take 0 = [] := (rfl)
@[go_sem] theorem q_take_succ (a : α) (l : List α) (n : Nat) : (a :: l).take (n + 1) = a :: l.take n := (rfl)
@[go_sem] theorem q_take_nil (n : Nat) : ([] : List α).take n = [] := by simp
@[go_sem] theorem q_cond_true (a b : α) : (bif true then a else b) = a := (rfl)
@[go_sem] theorem q_cond_false (a b : α) : (bif false then a else b) = b := (rfl)
@[go_sem] theorem q_add_zero (n : Nat) : n + 0 = n := (rfl)
@[go_sem] theorem q_zero_add (n : Nat) : 0 + n = n := by simp
@[go_sem] theorem q_some_inj (a b : α) : (some a = some b) = (a = b) := by simp
@[go_sem] theorem q_isSome (a : α) : (some a).isSome = true := (rfl)
end
attribute [go_sem] decide_true decide_false if_true if_false Bool.false_eq_true Bool.true_eq_false decide_eq_true_eq decide_eq_false_iff_not Bool.and_eq_true Bool.or_eq_true Bool.not_eq_true' Bool.not_eq_true Bool.not_eq_false
  Bool.and_true Bool.true_and Bool.and_false Bool.false_and Bool.or_true Bool.true_or Bool.or_false Bool.false_or and_true true_and and_self not_true_eq_false not_false_eq_true beq_iff_eq bne_iff_ne ne_eq
@[go_sem] theorem q_not_true : (!true) = false := (rfl)
@[go_sem] theorem q_not_false : (!false) = true := (rfl)
@[go_sem] theorem get_v (vs L : List D) (j : Nat) : X.get vs L (.v j) = vs[j]? := (rfl)
@[go_sem] theorem get_l (vs L : List D) (k : Nat) : X.get vs L (.l k) = L[k]? := (rfl)
@[go_sem] theorem get_c (vs L : List D) (d : D) : X.get vs L (.c d) = some d := (rfl)
@[go_sem] theorem get_i (vs L : List D) (n : Int) : X.get vs L (.i n) = some (I n) := (rfl)
@[go_sem] theorem get_b (vs L : List D) (x : Bool) : X.get vs L (.b x) = some (B x) := (rfl)
@[go_sem] theorem wr_none (vs : List D) (x : D) : wr vs none x = vs := (rfl)
@[go_sem] theorem wr_some (vs : List D) (s : Nat) (x : D) : wr vs (some s) x = vs.set s x := (rfl)
@[go_sem] theorem initVs_nil (args : List D) : initVs args [] = [] := (rfl)
@[go_sem] theorem initVs_cons (args : List D) (s : Nat) (r : List Nat) : initVs args (s :: r) = args.getD s .und :: initVs args r := (rfl)
def retD (H : Heap) (d : D) : Option (D × Heap) := some (d, H)
@[go_sem] theorem retD_eq (H : Heap) (d : D) : retD H d = some (d, H) := (rfl)
def consO {α : Type} (a : α) (l : Option (List α)) : Option (List α) := l.map (a :: ·)
@[go_sem] theorem consO_some {α : Type} (a : α) (l : List α) : consO a (some l) = some (a :: l) := (rfl)
@[go_sem] theorem consO_none {α : Type} (a : α) : consO a none = none := (rfl)
@[go_sem] theorem mapO_nil {α β : Type} (f : α → Option β) : mapO f [] = some [] := (rfl)
def mapC {α β : Type} (f : α → Option β) (r : List α) (y : β) : Option (List β) := consO y (mapO f r)
@[go_sem] theorem mapC_eq {α β : Type} (f : α → Option β) (r : List α) (y : β) : mapC f r y = consO y (mapO f r) := (rfl)
@[go_sem] theorem mapO_cons {α β : Type} (f : α → Option β) (x : α) (r : List α) : mapO f (x :: r) = (f x).bind (mapC f r) := (rfl)
section
variable (call : Oracle) (get : X → Option D) (H : Heap)
@[go_sem] theorem ev_mv (x : X) : evO call get H (.mv x) = (get x).bind (retD H) := by simp only [evO]; cases get x <;> rfl
def opPk (c a b : Option D) : Option (D × Heap) := c.bind fun c => a.bind fun a => b.bind fun b => (pickD c a b).map fun d => (d, H)
@[go_sem] theorem ev_pk (c a b : X) : evO call get H (.pk c a b) = opPk H (get c) (get a) (get b) := (rfl)
@[go_sem] theorem opPk_bool (x p q : Bool) : opPk H (some (.t (.bool x))) (some (.t (.bool p))) (some (.t (.bool q))) = some (.t (.bool (bif x then p else q)), H) := by cases x <;> rfl
@[go_sem] theorem opPk_true (a b : D) : opPk H (some (.t (.bool true))) (some a) (some b) = some (a, H) := (rfl)
@[go_sem] theorem opPk_false (a b : D) : opPk H (some (.t (.bool false))) (some a) (some b) = some (b, H) := (rfl)
@[go_sem] theorem cond_and (x p : Bool) : (bif x then p else false) = (x && p) := by cases x <;> rfl
@[go_sem] theorem cond_or (x q : Bool) : (bif x then true else q) = (x || q) := by cases x <;> rfl
def opBin (f : BinOp) (x y : Option D) : Option (D × Heap) := x.bind fun a => y.bind fun b => (binD f a b).map fun d => (d, H)
@[go_sem] theorem ev_bin (f : BinOp) (x y : X) : evO call get H (.bin f x y) = opBin H f (get x) (get y) := (rfl)
section
variable (k j : IntKind) (a b : Int)
@[go_sem] theorem opBin_add : opBin H .add (some (.t (.int k a))) (some (.t (.int k b))) = some (.t (.int k (k.wrap (a + b))), H) := by simp [opBin, binD, binI]
@[go_sem] theorem opBin_sub : opBin H .sub (some (.t (.int k a))) (some (.t (.int k b))) = some (.t (.int k (k.wrap (a - b))), H) := by simp [opBin, binD, binI]
@[go_sem] theorem opBin_mul : opBin H .mul (some (.t (.int k a))) (some (.t (.int k b))) = some (.t (.int k (k.wrap (a * b))), H) := by simp [opBin, binD, binI]
@[go_sem] theorem opBin_quo : opBin H .quo (some (.t (.int k a))) (some (.t (.int k b))) = if b = 0 then none else some (.t (.int k (k.wrap (a.tdiv b))), H) := by simp only [opBin, binD, binI]; by_cases h : b = 0 <;> simp [h]
@[go_sem] theorem opBin_rem : opBin H .rem (some (.t (.int k a))) (some (.t (.int k b))) = if b = 0 then none else some (.t (.int k (a.tmod b)), H) := by simp only [opBin, binD, binI]; by_cases h : b = 0 <;> simp [h]
@[go_sem] theorem opBin_eql : opBin H .eql (some (.t (.int k a))) (some (.t (.int k b))) = some (.t (.bool (decide (a = b))), H) := by simp [opBin, binD, binI, beqI]
@[go_sem] theorem opBin_neq : opBin H .neq (some (.t (.int k a))) (some (.t (.int k b))) = some (.t (.bool (decide (¬ a = b))), H) := by simp [opBin, binD, binI, bne, beqI]
@[go_sem] theorem opBin_lss : opBin H .lss (some (.t (.int k a))) (some (.t (.int k b))) = some (.t (.bool (decide (a < b))), H) := by simp [opBin, binD, binI]
@[go_sem] theorem opBin_leq : opBin H .leq (some (.t (.int k a))) (some (.t (.int k b))) = some (.t (.bool (decide (a ≤ b))), H) := by simp [opBin, binD, binI]
@[go_sem] theorem opBin_gtr : opBin H .gtr (some (.t (.int k a))) (some (.t (.int k b))) = some (.t (.bool (decide (b < a))), H) := by simp [opBin, binD, binI]
@[go_sem] theorem opBin_geq : opBin H .geq (some (.t (.int k a))) (some (.t (.int k b))) = some (.t (.bool (decide (b ≤ a))), H) := by simp [opBin, binD, binI]
@[go_sem] theorem opBin_shl (h : 0 ≤ b) : opBin H .shl (some (.t (.int k a))) (some (.t (.int j b))) = some (.t (.int k (k.wrap (a * 2 ^ min b.toNat k.bits))), H) := by simp [opBin, binD, shiftI, Int.not_lt.2 h]
@[go_sem] theorem opBin_shr (h : 0 ≤ b) : opBin H .shr (some (.t (.int k a))) (some (.t (.int j b))) = some (.t (.int k (a.fdiv (2 ^ min b.toNat k.bits))), H) := by simp [opBin, binD, shiftI, Int.not_lt.2 h]
@[go_sem] theorem opBin_and : opBin H .and (some (.t (.int k a))) (some (.t (.int k b))) = some (.t (.int k (k.wrap (BitVec.ofInt k.bits a &&& BitVec.ofInt k.bits b).toNat)), H) := by simp [opBin, binD, binI]
@[go_sem] theorem opBin_or : opBin H .or (some (.t (.int k a))) (some (.t (.int k b))) = some (.t (.int k (k.wrap (BitVec.ofInt k.bits a ||| BitVec.ofInt k.bits b).toNat)), H) := by simp [opBin, binD, binI]
@[go_sem] theorem opBin_xor : opBin H .xor (some (.t (.int k a))) (some (.t (.int k b))) = some (.t (.int k (k.wrap (BitVec.ofInt k.bits a ^^^ BitVec.ofInt k.bits b).toNat)), H) := by simp [opBin, binD, binI]
def opUn (f : UnOp) (a : D) : Option (D × Heap) := (unD f a).map fun d => (d, H)
@[go_sem] theorem ev_un (f : UnOp) (x : X) : evO call get H (.un f x) = (get x).bind (opUn H f) := (rfl)
@[go_sem] theorem opUn_not (x : Bool) : opUn H .not (.t (.bool x)) = some (.t (.bool (!x)), H) := (rfl)
@[go_sem] theorem opUn_neg : opUn H .neg (.t (.int k a)) = some (.t (.int k (k.wrap (0 - a))), H) := (rfl)
def opCv (k : IntKind) (a : D) : Option (D × Heap) := (convD k a).map fun d => (d, H)
@[go_sem] theorem ev_cv (x : X) : evO call get H (.cv k x) = (get x).bind (opCv H k) := (rfl)
@[go_sem] theorem opCv_int : opCv H k (.t (.int j a)) = some (.t (.int k (k.wrap a)), H) := (rfl)
end
def opEqk (q : EqK) (neg : Bool) (x y : Option D) : Option (D × Heap) := x.bind fun a => y.bind fun b => (eqkD q neg a b).map fun d => (d, H)
@[go_sem] theorem ev_eqk (q : EqK) (neg : Bool) (x y : X) : evO call get H (.eqk q neg x y) = opEqk H q neg (get x) (get y) := (rfl)
@[go_sem] theorem opEqk_bool (x y : Bool) : opEqk H .bool false (some (.t (.bool x))) (some (.t (.bool y))) = some (.t (.bool (x == y)), H) := (rfl)
@[go_sem] theorem opEqk_nbool (x y : Bool) : opEqk H .bool true (some (.t (.bool x))) (some (.t (.bool y))) = some (.t (.bool (!(x == y))), H) := (rfl)
def eqI2 : List T → List T → Bool
  | .int _ a :: xs, .int _ b :: ys => decide (a = b) && eqI2 xs ys
  | _, _ => true
def eqOK : Nat → List T → List T → Bool
  | 0, [], [] => true
  | n + 1, .int j _ :: xs, .int k _ :: ys => decide (j = k) && eqOK n xs ys
  | _, _, _ => false
@[go_sem] theorem eqI2_cons (k j : IntKind) (a b : Int) (xs ys : List T) : eqI2 (.int k a :: xs) (.int j b :: ys) = (decide (a = b) && eqI2 xs ys) := (rfl)
@[go_sem] theorem eqI2_nil : eqI2 [] [] = true := (rfl)
@[go_sem] theorem eqOK_nil : eqOK 0 [] [] = true := (rfl)
@[go_sem] theorem eqOK_cons (n : Nat) (k : IntKind) (a b : Int) (xs ys : List T) : eqOK (n + 1) (.int k a :: xs) (.int k b :: ys) = eqOK n xs ys := by simp [eqOK]
theorem eqInts_of : ∀ {n : Nat} {xs ys : List T}, eqOK n xs ys = true → xs.length = n ∧ eqInts xs ys = some (eqI2 xs ys)
  | 0, [], [], _ => ⟨rfl, rfl⟩
  | 0, [], _ :: _, h => by simp [eqOK] at h
  | 0, _ :: _, _, h => by simp [eqOK] at h
  | n + 1, [], _, h => by simp [eqOK] at h
  | n + 1, x :: xs, [], h => by cases x <;> simp [eqOK] at h
  | n + 1, x :: xs, y :: ys, h => by
    cases x <;> cases y <;> simp only [eqOK, Bool.and_eq_true, decide_eq_true_eq, Bool.false_eq_true] at h
    obtain ⟨rfl, h⟩ := h
    obtain ⟨h1, h2⟩ := eqInts_of h
    exact ⟨by simp [h1], by simp [eqInts, h2, eqI2, beqI]⟩
@[go_sem] theorem opEqk_ints (n : Nat) (xs ys : List T) (h : eqOK n xs ys = true) : opEqk H (.ints n) false (some (.t (.agg xs))) (some (.t (.agg ys))) = some (.t (.bool (eqI2 xs ys)), H) := by
  obtain ⟨h1, h2⟩ := eqInts_of h; simp [opEqk, eqkD, eqD, h1, h2]
@[go_sem] theorem opEqk_nints (n : Nat) (xs ys : List T) (h : eqOK n xs ys = true) : opEqk H (.ints n) true (some (.t (.agg xs))) (some (.t (.agg ys))) = some (.t (.bool (!eqI2 xs ys)), H) := by
  obtain ⟨h1, h2⟩ := eqInts_of h; simp [opEqk, eqkD, eqD, h1, h2]
@[go_sem] theorem opEqk_nil : opEqk H .sl false (some .nil) (some .nil) = some (.t (.bool true), H) := (rfl)
@[go_sem] theorem opEqk_amb : opEqk H .sl false (some (.t (.sl []))) (some .nil) = some (.ub, H) := (rfl)
@[go_sem] theorem opEqk_namb : opEqk H .sl true (some (.t (.sl []))) (some .nil) = some (.ub, H) := (rfl)
@[go_sem] theorem opEqk_nnil : opEqk H .sl true (some .nil) (some .nil) = some (.t (.bool false), H) := (rfl)
def opNc (a : D) : Option (D × Heap) := (nckD a).map fun d => (d, H)
@[go_sem] theorem ev_nc (x : X) : evO call get H (.nc x) = (get x).bind (opNc H) := (rfl)
@[go_sem] theorem opNc_bp (id off : Nat) : opNc H (.bp id off) = some (.bp id off, H) := (rfl)
@[go_sem] theorem opNc_ap (id ep n i off : Nat) : opNc H (.ap id ep n i off) = some (.ap id ep n i off, H) := (rfl)
@[go_sem] theorem opNc_ep (cs : List T) : opNc H (.ep cs) = some (.ep cs, H) := (rfl)
def opFa (off : Nat) (a : D) : Option (D × Heap) := (faddr a off).map fun d => (d, H)
@[go_sem] theorem ev_fa (x : X) (off : Nat) : evO call get H (.fa x off) = (get x).bind (opFa H off) := (rfl)
@[go_sem] theorem opFa_bp (id o off : Nat) : opFa H off (.bp id o) = some (.bp id (o + off), H) := (rfl)
@[go_sem] theorem opFa_ap (id ep n i o off : Nat) : opFa H off (.ap id ep n i o) = some (.ap id ep n i (o + off), H) := (rfl)
@[go_sem] theorem opFa_ep (cs : List T) (off : Nat) : opFa H off (.ep cs) = some (.ep (cs.drop off), H) := (rfl)
@[go_sem] theorem cut_0 (cs : List D) : cut cs 0 0 = some [] := by simp [cut]
@[go_sem] theorem cut_1 (c : D) (cs : List D) : cut (c :: cs) 0 1 = some [c] := by simp [cut]
@[go_sem] theorem cut_n (c : D) (cs : List D) (n : Nat) : cut (c :: cs) 0 (n + 1) = consO c (cut cs 0 n) := by
  simp only [cut, consO]; by_cases h : n ≤ cs.length <;> simp [h]
@[go_sem] theorem cut_s (c : D) (cs : List D) (off n : Nat) : cut (c :: cs) (off + 1) n = cut cs off n := by
  simp only [cut, List.length_cons, List.drop_succ_cons]
  by_cases h : off + n ≤ cs.length
  · rw [if_pos h, if_pos (by omega)]
  · rw [if_neg h, if_neg (by omega)]
@[go_sem] theorem ofCells_f (c : D) : ofCells false [c] = some c := (rfl)
@[go_sem] theorem ofCells_t (cs : List D) : ofCells true cs = some (mkAgg cs) := (rfl)
def mkA (cs : List D) : Option (List T) → D
  | some ts => .t (.agg ts)
  | none => .agg cs
@[go_sem] theorem mkA_some (cs : List D) (ts : List T) : mkA cs (some ts) = .t (.agg ts) := (rfl)
@[go_sem] theorem mkA_none (cs : List D) : mkA cs none = .agg cs := (rfl)
@[go_sem] theorem mkAgg_eq (cs : List D) : mkAgg cs = mkA cs (allT cs) := by unfold mkAgg; cases allT cs <;> rfl
@[go_sem] theorem allT_nil : allT [] = some [] := (rfl)
@[go_sem] theorem allT_t (x : T) (r : List D) : allT (.t x :: r) = consO x (allT r) := (rfl)
@[go_sem] theorem allT_n (r : List D) : allT (.nil :: r) = none := (rfl)
@[go_sem] theorem allT_ref (a b c : Nat) (r : List D) : allT (.ref a b c :: r) = none := (rfl)
@[go_sem] theorem allT_sub (a b c d e : Nat) (r : List D) : allT (.sub a b c d e :: r) = none := (rfl)
@[go_sem] theorem allT_map (l : List T) : allT (l.map .t) = some l := by induction l with | nil => rfl | cons a l ih => simp [allT, ih]
def opFl (off n : Nat) (agg : Bool) (a : D) : Option (D × Heap) := (fieldD a off n agg).map fun d => (d, H)
@[go_sem] theorem ev_fl (x : X) (off n : Nat) (agg : Bool) : evO call get H (.fl x off n agg) = (get x).bind (opFl H off n agg) := (rfl)
def ofC (agg : Bool) (cs : Option (List D)) : Option (D × Heap) := (cs.bind (ofCells agg)).bind (retD H)
@[go_sem] theorem ofC_f (c : D) : ofC H false (some [c]) = some (c, H) := (rfl)
@[go_sem] theorem ofC_t (cs : List D) : ofC H true (some cs) = some (mkAgg cs, H) := (rfl)
@[go_sem] theorem opFl_t (cs : List T) (off n : Nat) (agg : Bool) : opFl H off n agg (.t (.agg cs)) = ofC H agg (cut (cs.map .t) off n) := by
  simp only [opFl, fieldD, D.isAgg, if_true, D.cells, T.cells, ofC]; cases (cut (cs.map .t) off n).bind (ofCells agg) <;> rfl
@[go_sem] theorem opFl_agg (cs : List D) (off n : Nat) (agg : Bool) : opFl H off n agg (.agg cs) = ofC H agg (cut cs off n) := by
  simp only [opFl, fieldD, D.isAgg, if_true, D.cells, ofC]; cases (cut cs off n).bind (ofCells agg) <;> rfl
@[go_sem] theorem idx_nat (n : Nat) : idx (n : Int) = some n := by simp [idx]
@[go_sem] theorem idx_0 : idx 0 = some 0 := (rfl)
theorem idx_pos {i : Int} (h : 0 ≤ i) : idx i = some i.toNat := by simp [idx, h]
def opIa (sz : Nat) (x i : Option D) : Option (D × Heap) := x.bind fun a => (i.bind intOf).bind fun n => (iaddr H a n sz).map fun d => (d, H)
@[go_sem] theorem ev_ia (x i : X) (sz : Nat) : evO call get H (.ia x i sz) = opIa H sz (get x) (get i) := (rfl)
def epOf (sz : Nat) (e : T) : Option (D × Heap) := if e.cells.length = sz then some (.ep e.cells, H) else none
def epAt (sz : Nat) (es : List T) (j : Nat) : Option (D × Heap) := es[j]?.bind (epOf H sz)
@[go_sem] theorem epAt_eq (sz : Nat) (es : List T) (j : Nat) : epAt H sz es j = es[j]?.bind (epOf H sz) := (rfl)
@[go_sem] theorem opIa_sl (k : IntKind) (es : List T) (n : Int) (sz : Nat) : opIa H sz (some (.t (.sl es))) (some (.t (.int k n))) = (idx n).bind (epAt H sz es) := by
  simp only [opIa, Option.bind_some, intOf, iaddr]
  cases idx n with
  | none => rfl
  | some j =>
    simp only [Option.bind_some, epAt]
    cases es[j]? with
    | none => rfl
    | some e => simp only [Option.bind_some, epOf]; split <;> rfl
@[go_sem] theorem epOf_int (k : IntKind) (n : Int) : epOf H 1 (.int k n) = some (.ep [.int k n], H) := (rfl)
@[go_sem] theorem epOf_bool (b : Bool) : epOf H 1 (.bool b) = some (.ep [.bool b], H) := (rfl)
@[go_sem] theorem epOf_sl (es : List T) : epOf H 1 (.sl es) = some (.ep [.sl es], H) := (rfl)
def lenIs {α : Type} : Nat → List α → Bool
  | 0, [] => true
  | n + 1, _ :: r => lenIs n r
  | _, _ => false
@[go_sem] theorem lenIs_0 {α : Type} : lenIs 0 ([] : List α) = true := (rfl)
@[go_sem] theorem lenIs_s {α : Type} (n : Nat) (a : α) (l : List α) : lenIs (n + 1) (a :: l) = lenIs n l := (rfl)
theorem lenIs_iff {α : Type} : ∀ {n : Nat} {l : List α}, lenIs n l = true ↔ l.length = n
  | 0, [] => by simp [lenIs]
  | 0, _ :: _ => by simp [lenIs]
  | n + 1, [] => by simp [lenIs]
  | n + 1, _ :: r => by simp only [lenIs, List.length_cons, Nat.add_right_cancel_iff]; exact lenIs_iff
@[go_sem] theorem epOf_agg (cs : List T) (sz : Nat) : epOf H sz (.agg cs) = if lenIs sz cs = true then some (.ep cs, H) else none := by
  by_cases h : cs.length = sz
  · rw [epOf, if_pos (show (T.agg cs).cells.length = sz from h), if_pos (lenIs_iff.2 h)]; rfl
  · rw [epOf, if_neg (show ¬ (T.agg cs).cells.length = sz from h), if_neg fun e => h (lenIs_iff.1 e)]
def opIaR (sz id ep n j : Nat) : Option Obj → Option (D × Heap)
  | some (.arr sz' _ ep' es) => if ep = ep' ∧ n = es.length then (if j < n ∧ sz' = sz then some (.ap id ep n j 0, H) else none) else none
  | _ => none
@[go_sem] theorem opIa_ref (k : IntKind) (id ep n : Nat) (i : Int) (sz : Nat) : opIa H sz (some (.ref id ep n)) (some (.t (.int k i))) = (idx i).bind fun j => opIaR H sz id ep n j H[id]? := by
  simp only [opIa, Option.bind_some, intOf, iaddr]
  cases idx i with
  | none => rfl
  | some j =>
    simp only [Option.bind_some, arrAt]
    generalize H[id]? = o
    rcases o with _ | (_ | ⟨sz', pin, ep', es⟩)
    · rfl
    · rfl
    · simp only [opIaR]
      by_cases h : ep = ep' ∧ n = es.length
      · rw [if_pos h, if_pos h, Option.bind_some]; split <;> rfl
      · rw [if_neg h, if_neg h]; rfl
@[go_sem] theorem opIaR_arr (sz id ep n j sz' : Nat) (pin : Bool) (ep' : Nat) (es : List D) : opIaR H sz id ep n j (some (.arr sz' pin ep' es)) =
    if ep = ep' ∧ n = es.length then (if j < n ∧ sz' = sz then some (.ap id ep n j 0, H) else none) else none := (rfl)
def opIaS (sz id ep n lo hi j : Nat) : Option Obj → Option (D × Heap)
  | some (.arr sz' _ ep' es) => if ep = ep' ∧ n = es.length then (if lo + j < hi ∧ hi ≤ n ∧ sz' = sz then some (.ap id ep n (lo + j) 0, H) else none) else none
  | _ => none
@[go_sem] theorem opIa_sub (k : IntKind) (id ep n lo hi : Nat) (i : Int) (sz : Nat) : opIa H sz (some (.sub id ep n lo hi)) (some (.t (.int k i))) = (idx i).bind fun j => opIaS H sz id ep n lo hi j H[id]? := by
  simp only [opIa, Option.bind_some, intOf, iaddr]
  cases idx i with
  | none => rfl
  | some j =>
    simp only [Option.bind_some, arrAt]
    generalize H[id]? = o
    rcases o with _ | (_ | ⟨sz', pin, ep', es⟩)
    · rfl
    · rfl
    · simp only [opIaS]
      by_cases h : ep = ep' ∧ n = es.length
      · rw [if_pos h, if_pos h, Option.bind_some]; split <;> rfl
      · rw [if_neg h, if_neg h]; rfl
@[go_sem] theorem opIaS_arr (sz id ep n lo hi j sz' : Nat) (pin : Bool) (ep' : Nat) (es : List D) : opIaS H sz id ep n lo hi j (some (.arr sz' pin ep' es)) =
    if ep = ep' ∧ n = es.length then (if lo + j < hi ∧ hi ≤ n ∧ sz' = sz then some (.ap id ep n (lo + j) 0, H) else none) else none := (rfl)
def opIx (len sz : Nat) (agg : Bool) (x i : Option D) : Option (D × Heap) := x.bind fun a => (i.bind intOf).bind fun n => (idx n).bind fun j => (indexD a j len sz agg).map fun d => (d, H)
def ixAt (len sz : Nat) (agg : Bool) (a : D) (j : Nat) : Option (D × Heap) := (indexD a j len sz agg).map fun d => (d, H)
@[go_sem] theorem ev_ix (x i : X) (len sz : Nat) (agg : Bool) : evO call get H (.ix x i len sz agg) = opIx H len sz agg (get x) (get i) := (rfl)
@[go_sem] theorem opIx_eq (len sz : Nat) (agg : Bool) (a : D) (k : IntKind) (n : Int) : opIx H len sz agg (some a) (some (.t (.int k n))) = (idx n).bind (ixAt H len sz agg a) := by
  simp only [opIx, Option.bind_some, intOf]; cases idx n <;> rfl
@[go_sem] theorem ixAt_one (len j : Nat) (ts : List T) (h : j < len) (hs : (ts.all fun t => t.scalar) = true) : ixAt H len 1 false (.t (.agg ts)) j = (ts[j]?).map fun t => (.t t, H) := by
  have h0 : len ≠ 0 := by omega
  unfold ixAt indexD
  rw [if_neg h0, if_pos h]
  unfold fieldD cut
  simp only [D.isAgg, D.cells, T.cells, if_true, Nat.mul_one, List.length_map]
  by_cases hj : j < ts.length
  · rw [if_pos (by omega), List.getElem?_eq_getElem hj]
    have e : ((ts.map D.t).drop j).take 1 = [D.t ts[j]] := by
      rw [List.drop_eq_getElem_cons (by simpa using hj)]; simp
    rw [e]; rfl
  · rw [if_neg (by omega), List.getElem?_eq_none (by omega)]; rfl
def opIaa (len sz : Nat) (x i : Option D) : Option (D × Heap) := x.bind fun a => (i.bind intOf).bind fun n => (idx n).bind fun j => if j < len then (faddr a (j * sz)).map fun d => (d, H) else none
@[go_sem] theorem ev_iaa (x i : X) (len sz : Nat) : evO call get H (.iaa x i len sz) = opIaa H len sz (get x) (get i) := (rfl)
def faAt (len sz : Nat) (a : D) (j : Nat) : Option (D × Heap) := if j < len then opFa H (j * sz) a else none
@[go_sem] theorem faAt_eq (len sz : Nat) (a : D) (j : Nat) : faAt H len sz a j = if j < len then opFa H (j * sz) a else none := (rfl)
@[go_sem] theorem opIaa_eq (len sz : Nat) (a : D) (k : IntKind) (n : Int) : opIaa H len sz (some a) (some (.t (.int k n))) = (idx n).bind (faAt H len sz a) := by
  simp only [opIaa, Option.bind_some, intOf]; cases idx n <;> rfl
def opLd (n : Nat) (agg : Bool) (a : D) : Option (D × Heap) := (loadD H a n agg).map fun d => (d, H)
@[go_sem] theorem ev_ld (x : X) (n : Nat) (agg : Bool) : evO call get H (.ld x n agg) = (get x).bind (opLd H n agg) := (rfl)
def ldBox (off n : Nat) (agg : Bool) : Option Obj → Option (D × Heap)
  | some (.box cs) => ofC H agg (cut cs off n)
  | _ => none
@[go_sem] theorem ldBox_eq (off n : Nat) (agg : Bool) (cs : List D) : ldBox H off n agg (some (.box cs)) = ofC H agg (cut cs off n) := (rfl)
@[go_sem] theorem opLd_bp (id off n : Nat) (agg : Bool) : opLd H n agg (.bp id off) = ldBox H off n agg H[id]? := by
  simp only [opLd, loadD]
  generalize H[id]? = o
  rcases o with _ | (cs | _)
  · rfl
  · simp only [ldBox, ofC]; cases (cut cs off n).bind (ofCells agg) <;> rfl
  · rfl
@[go_sem] theorem opLd_ep (cs : List T) (n : Nat) (agg : Bool) : opLd H n agg (.ep cs) = ofC H agg (cut (cs.map .t) 0 n) := by
  simp only [opLd, loadD, ofC]; cases (cut _ 0 n).bind (ofCells agg) <;> rfl
def ldEl (off n : Nat) (agg : Bool) (e : D) : Option (D × Heap) := ofC H agg (cut e.cells off n)
@[go_sem] theorem ldEl_eq (off n : Nat) (agg : Bool) (e : D) : ldEl H off n agg e = ofC H agg (cut e.cells off n) := (rfl)
def ldArr (ep m i off n : Nat) (agg : Bool) : Option Obj → Option (D × Heap)
  | some (.arr _ _ ep' es) => if ep = ep' ∧ m = es.length then es[i]?.bind (ldEl H off n agg) else none
  | _ => none
@[go_sem] theorem ldArr_eq (ep m i off n : Nat) (agg : Bool) (sz : Nat) (pin : Bool) (ep' : Nat) (es : List D) :
    ldArr H ep m i off n agg (some (.arr sz pin ep' es)) = if ep = ep' ∧ m = es.length then es[i]?.bind (ldEl H off n agg) else none := (rfl)
@[go_sem] theorem opLd_ap (id ep m i off n : Nat) (agg : Bool) : opLd H n agg (.ap id ep m i off) = ldArr H ep m i off n agg H[id]? := by
  simp only [opLd, loadD, arrAt]
  generalize H[id]? = o
  rcases o with _ | (_ | ⟨sz', pin, ep', es⟩)
  · rfl
  · rfl
  · simp only [ldArr]
    by_cases h : ep = ep' ∧ m = es.length
    · rw [if_pos h, if_pos h, Option.bind_some]
      cases es[i]? with
      | none => rfl
      | some e => simp only [Option.bind_some, ldEl, ofC]; cases (cut e.cells off n).bind (ofCells agg) <;> rfl
    · rw [if_neg h, if_neg h]; rfl
@[go_sem] theorem dcells_agg (cs : List D) : (D.agg cs).cells = cs := (rfl)
@[go_sem] theorem dcells_t (x : T) : (D.t x).cells = x.cells.map .t := (rfl)
@[go_sem] theorem dcells_nil : D.nil.cells = [.nil] := (rfl)
@[go_sem] theorem dcells_bp (a b : Nat) : (D.bp a b).cells = [.bp a b] := (rfl)
@[go_sem] theorem dcells_ref (a b c : Nat) : (D.ref a b c).cells = [.ref a b c] := (rfl)
@[go_sem] theorem dcells_sub (a b c d e : Nat) : (D.sub a b c d e).cells = [.sub a b c d e] := (rfl)
@[go_sem] theorem dcells_fn (f : Nat) (cs : List D) : (D.fn f cs).cells = [.fn f cs] := (rfl)
@[go_sem] theorem dcells_nilp : D.nilp.cells = [.nilp] := (rfl)
@[go_sem] theorem tcells_agg (cs : List T) : (T.agg cs).cells = cs := (rfl)
@[go_sem] theorem tcells_int (k : IntKind) (n : Int) : (T.int k n).cells = [.int k n] := (rfl)
@[go_sem] theorem tcells_bool (b : Bool) : (T.bool b).cells = [.bool b] := (rfl)
@[go_sem] theorem tcells_str (b : ByteArray) : (T.str b).cells = [.str b] := (rfl)
@[go_sem] theorem tcells_sl (es : List T) : (T.sl es).cells = [.sl es] := (rfl)
def fits (n : Nat) (v : D) : Bool := decide (v.cells.length = n) && v.solid
section
variable (n : Nat)
@[go_sem] theorem fits_int (k : IntKind) (a : Int) : fits 1 (.t (.int k a)) = true := (rfl)
@[go_sem] theorem fits_bool (b : Bool) : fits 1 (.t (.bool b)) = true := (rfl)
@[go_sem] theorem fits_sl (es : List T) : fits 1 (.t (.sl es)) = true := (rfl)
@[go_sem] theorem fits_nil : fits 1 .nil = true := (rfl)
@[go_sem] theorem fits_ref (a b c : Nat) : fits 1 (.ref a b c) = true := (rfl)
@[go_sem] theorem fits_sub (a b c d e : Nat) : fits 1 (.sub a b c d e) = true := (rfl)
@[go_sem] theorem fits_bp (a b : Nat) : fits 1 (.bp a b) = true := (rfl)
@[go_sem] theorem fits_fn (f : Nat) (cs : List D) : fits 1 (.fn f cs) = true := (rfl)
@[go_sem] theorem fits_agg (cs : List D) : fits n (.agg cs) = lenIs n cs := by rw [Bool.eq_iff_iff, lenIs_iff]; show (decide (cs.length = n) && true) = true ↔ _; simp
@[go_sem] theorem fits_tagg (cs : List T) : fits n (.t (.agg cs)) = lenIs n cs := by rw [Bool.eq_iff_iff, lenIs_iff]; simp [fits, D.cells, T.cells, D.solid]
end
@[go_sem] theorem fillCells_0 {α : Type} (cs : List α) : fillCells cs 0 [] = some cs := by simp [fillCells]
@[go_sem] theorem fillCells_n {α : Type} (c x : α) (cs xs : List α) : fillCells (c :: cs) 0 (x :: xs) = consO x (fillCells cs 0 xs) := by
  simp only [fillCells, consO]; by_cases h : xs.length ≤ cs.length <;> simp [h]
@[go_sem] theorem fillCells_s {α : Type} (c : α) (cs : List α) (off : Nat) (xs : List α) : fillCells (c :: cs) (off + 1) xs = consO c (fillCells cs off xs) := by
  simp only [fillCells, consO, List.length_cons]
  by_cases h : off + xs.length ≤ cs.length
  · rw [if_pos h, if_pos (by omega)]; simp [show off + 1 + xs.length = (off + xs.length) + 1 by omega]
  · rw [if_neg h, if_neg (by omega)]; rfl
def opSt (n : Nat) (live : List (Nat × Nat)) (a x : Option D) : Option (D × Heap) := a.bind fun p => x.bind fun d => (storeD H p d n).bind fun H' => (makeLive H' p live).map fun H'' => (.tup [], H'')
@[go_sem] theorem ev_st (a x : X) (n : Nat) (live : List (Nat × Nat)) : evO call get H (.st a x n live) = opSt H n live (get a) (get x) := (rfl)
def liveAt (H : Heap) (id : Nat) (live : List (Nat × Nat)) : Option (D × Heap) := (makeLive H (.bp id 0) live).map fun H' => (.tup [], H')
def setBox (id : Nat) (live : List (Nat × Nat)) (cs : List D) : Option (D × Heap) := liveAt (H.set id (.box cs)) id live
@[go_sem] theorem setBox_eq (id : Nat) (live : List (Nat × Nat)) (cs : List D) : setBox H id live cs = liveAt (H.set id (.box cs)) id live := (rfl)
@[go_sem] theorem liveAt_nil (H : Heap) (id : Nat) : liveAt H id [] = some (.tup [], H) := (rfl)
def stBox (id off : Nat) (live : List (Nat × Nat)) (xs : List D) : Option Obj → Option (D × Heap)
  | some (.box cs) => (fillCells cs off xs).bind (setBox H id live)
  | _ => none
@[go_sem] theorem stBox_eq (id off : Nat) (live : List (Nat × Nat)) (xs cs : List D) : stBox H id off live xs (some (.box cs)) = (fillCells cs off xs).bind (setBox H id live) := (rfl)
@[go_sem] theorem opSt_bp (n id off : Nat) (live : List (Nat × Nat)) (v : D) : opSt H n live (some (.bp id off)) (some v) = if fits n v = true then stBox H id off live v.cells H[id]? else none := by
  by_cases h : fits n v = true
  case neg =>
    rw [if_neg h]
    simp only [fits, Bool.and_eq_true, decide_eq_true_eq] at h
    simp only [opSt, Option.bind_some, storeD, if_neg h]; rfl
  rw [if_pos h]
  simp only [fits, Bool.and_eq_true, decide_eq_true_eq] at h
  simp only [opSt, Option.bind_some, storeD, h.1, h.2, and_self, if_true]
  generalize H[id]? = o
  rcases o with _ | (cs | _)
  · rfl
  · simp only [stBox]
    cases fillCells cs off v.cells with
    | none => rfl
    | some cs' => simp only [Option.map_some, Option.bind_some, setBox, liveAt, makeLive]
  · rfl
def setEl (id sz ep i : Nat) (es : List D) (agg : Bool) (cs : List D) : Option (D × Heap) := (ofCells agg cs).bind fun e => if e.solid then some (.tup [], H.set id (.arr sz false ep (es.set i e))) else none
def stEl (id sz ep i off : Nat) (es xs : List D) (e : D) : Option (D × Heap) := (fillCells e.cells off xs).bind (setEl H id sz ep i es e.isAgg)
@[go_sem] theorem stEl_eq (id sz ep i off : Nat) (es xs : List D) (e : D) : stEl H id sz ep i off es xs e = (fillCells e.cells off xs).bind (setEl H id sz ep i es e.isAgg) := (rfl)
@[go_sem] theorem isAgg_agg (cs : List D) : (D.agg cs).isAgg = true := (rfl)
@[go_sem] theorem isAgg_tagg (cs : List T) : (D.t (.agg cs)).isAgg = true := (rfl)
@[go_sem] theorem isAgg_int (k : IntKind) (n : Int) : (D.t (.int k n)).isAgg = false := (rfl)
@[go_sem] theorem isAgg_bool (b : Bool) : (D.t (.bool b)).isAgg = false := (rfl)
@[go_sem] theorem isAgg_str (b : ByteArray) : (D.t (.str b)).isAgg = false := (rfl)
@[go_sem] theorem isAgg_sl (es : List T) : (D.t (.sl es)).isAgg = false := (rfl)
@[go_sem] theorem isAgg_nil : D.nil.isAgg = false := (rfl)
@[go_sem] theorem isAgg_ref (a b c : Nat) : (D.ref a b c).isAgg = false := (rfl)
@[go_sem] theorem isAgg_sub (a b c d e : Nat) : (D.sub a b c d e).isAgg = false := (rfl)
@[go_sem] theorem setEl_f (id sz ep i : Nat) (es : List D) (x : T) : setEl H id sz ep i es false [.t x] = some (.tup [], H.set id (.arr sz false ep (es.set i (.t x)))) := (rfl)
@[go_sem] theorem setEl_nil (id sz ep i : Nat) (es : List D) : setEl H id sz ep i es false [.nil] = some (.tup [], H.set id (.arr sz false ep (es.set i .nil))) := (rfl)
@[go_sem] theorem setEl_ref (id sz ep i a b c : Nat) (es : List D) : setEl H id sz ep i es false [.ref a b c] = some (.tup [], H.set id (.arr sz false ep (es.set i (.ref a b c)))) := (rfl)
theorem mkAgg_solid (cs : List D) : (mkAgg cs).solid = true := by unfold mkAgg; cases allT cs <;> rfl
@[go_sem] theorem setEl_t (id sz ep i : Nat) (es cs : List D) : setEl H id sz ep i es true cs = some (.tup [], H.set id (.arr sz false ep (es.set i (mkAgg cs)))) := by
  simp [setEl, ofCells, mkAgg_solid]
def stArr (id ep m i off : Nat) (xs : List D) : Option Obj → Option (D × Heap)
  | some (.arr sz pin ep' es) => if ep = ep' ∧ m = es.length then (if pin then none else es[i]?.bind (stEl H id sz ep i off es xs)) else none
  | _ => none
@[go_sem] theorem stArr_eq (id ep m i off : Nat) (xs : List D) (sz : Nat) (pin : Bool) (ep' : Nat) (es : List D) :
    stArr H id ep m i off xs (some (.arr sz pin ep' es)) = if ep = ep' ∧ m = es.length then (if pin = true then none else es[i]?.bind (stEl H id sz ep i off es xs)) else none := (rfl)
@[go_sem] theorem opSt_ap (n id ep m i off : Nat) (v : D) : opSt H n [] (some (.ap id ep m i off)) (some v) = if fits n v = true then stArr H id ep m i off v.cells H[id]? else none := by
  by_cases h : fits n v = true
  case neg =>
    rw [if_neg h]
    simp only [fits, Bool.and_eq_true, decide_eq_true_eq] at h
    simp only [opSt, Option.bind_some, storeD, if_neg h]; rfl
  rw [if_pos h]
  simp only [fits, Bool.and_eq_true, decide_eq_true_eq] at h
  simp only [opSt, Option.bind_some, storeD, h.1, h.2, and_self, if_true, arrAt]
  generalize H[id]? = o
  rcases o with _ | (_ | ⟨sz', pin, ep', es⟩)
  · rfl
  · rfl
  · simp only [stArr]
    by_cases h : ep = ep' ∧ m = es.length
    · rw [if_pos h, if_pos h, Option.bind_some]
      cases pin with
      | true => rfl
      | false =>
        simp only [Bool.false_eq_true, if_false]
        cases es[i]? with
        | none => rfl
        | some e =>
          simp only [Option.bind_some, stEl]
          cases fillCells e.cells off v.cells with
          | none => rfl
          | some cs' =>
            simp only [Option.bind_some, setEl]
            cases ofCells e.isAgg cs' with
            | none => rfl
            | some e' =>
              simp only [Option.bind_some]
              by_cases h3 : e'.solid = true
              · rw [if_pos h3, if_pos h3, h.1]; rfl
              · rw [if_neg h3, if_neg h3]; rfl
    · rw [if_neg h, if_neg h]; rfl
def opBd (zero : List D) (ps : List (Nat × Nat × D)) : Option (D × Heap) := (buildD zero ps).map fun cs => (mkAgg cs, H)
@[go_sem] theorem ev_bd (zero : List D) (parts : List (Nat × Nat × X)) : evO call get H (.bd zero parts) = (getParts get parts).bind (opBd H zero) := (rfl)
@[go_sem] theorem getParts_nil : getParts get [] = some [] := (rfl)
def partC (off n : Nat) (r : List (Nat × Nat × X)) (d : D) : Option (List (Nat × Nat × D)) := consO (off, n, d) (getParts get r)
@[go_sem] theorem partC_eq (off n : Nat) (r : List (Nat × Nat × X)) (d : D) : partC get off n r d = consO (off, n, d) (getParts get r) := (rfl)
@[go_sem] theorem getParts_cons (off n : Nat) (x : X) (r : List (Nat × Nat × X)) : getParts get ((off, n, x) :: r) = (get x).bind (partC get off n r) := (rfl)
@[go_sem] theorem opBd_nil (zero : List D) : opBd H zero [] = some (mkAgg zero, H) := (rfl)
def bdC (r : List (Nat × Nat × D)) (z : List D) : Option (D × Heap) := opBd H z r
@[go_sem] theorem bdC_eq (r : List (Nat × Nat × D)) (z : List D) : bdC H r z = opBd H z r := (rfl)
@[go_sem] theorem opBd_cons (zero : List D) (off n : Nat) (x : D) (r : List (Nat × Nat × D)) : opBd H zero ((off, n, x) :: r) = if fits n x = true then (fillCells zero off x.cells).bind (bdC H r) else none := by
  by_cases h : fits n x = true
  case neg =>
    rw [if_neg h]
    have h2 : (x.solid && x.cells.length == n) = false := by rw [← Bool.not_eq_true, Bool.and_comm]; simpa [fits] using h
    simp only [opBd, buildD, h2]; rfl
  rw [if_pos h]
  simp only [fits, Bool.and_eq_true, decide_eq_true_eq] at h
  simp only [opBd, buildD, h.1, h.2, beq_self_eq_true, Bool.and_self, if_true]
  cases fillCells zero off x.cells <;> rfl
def cellsAre (n : Nat) : List T → Bool
  | [] => true
  | x :: r => lenIs n x.cells && cellsAre n r
@[go_sem] theorem cellsAre_nil (n : Nat) : cellsAre n [] = true := (rfl)
@[go_sem] theorem cellsAre_cons (n : Nat) (x : T) (r : List T) : cellsAre n (x :: r) = (lenIs n x.cells && cellsAre n r) := (rfl)
def opBs (sz : Nat) (ds : List D) : Option (D × Heap) := if ds.all (fun d => d.cells.length == sz) then (mapO (frz H depth) ds).map fun ts => (.t (.sl ts), pins H (ds.flatMap (arrs H depth))) else none
@[go_sem] theorem ev_bs (xs : List X) (sz : Nat) : evO call get H (.bs xs sz) = (mapO get xs).bind (opBs H sz) := (rfl)
theorem opBs_t (sz : Nat) (ds : List D) (ts : List T) (h : allT ds = some ts) (hc : cellsAre sz ts = true) : opBs H sz ds = some (.t (.sl ts), H) := by
  have key : ∀ (ds : List D) (ts : List T), allT ds = some ts → cellsAre sz ts = true → ds.all (fun d => d.cells.length == sz) = true ∧ mapO (frz H depth) ds = some ts ∧ ds.flatMap (arrs H depth) = [] := by
    intro ds
    induction ds with
    | nil => intro ts h hc; simp [allT] at h; subst h; simp [mapO]
    | cons d ds ih =>
      intro ts h hc
      cases d with
      | t x =>
        simp only [allT, Option.map_eq_some_iff] at h
        obtain ⟨r, hr, rfl⟩ := h
        simp only [cellsAre, Bool.and_eq_true, lenIs_iff] at hc
        obtain ⟨h1, h2, h3⟩ := ih r hr hc.2
        refine ⟨by rw [List.all_cons, h1, Bool.and_true]; simp [D.cells, hc.1], by simp [mapO, frz, h2], by rw [List.flatMap_cons, h3]; simp [arrs]⟩
      | _ => simp [allT] at h
  obtain ⟨h1, h2, h3⟩ := key ds ts h hc
  simp [opBs, h1, h2, h3, pins]
theorem opBs_if (sz : Nat) (ts : List T) : opBs H sz (ts.map D.t) = if cellsAre sz ts = true then some (.t (.sl ts), H) else none := by
  by_cases h : cellsAre sz ts = true
  · rw [if_pos h]; exact opBs_t H sz _ ts (allT_map ts) h
  · rw [if_neg h]
    have : (ts.map D.t).all (fun d => d.cells.length == sz) = false := by
      rw [← Bool.not_eq_true]; intro ha; apply h
      clear h
      induction ts with
      | nil => rfl
      | cons a r ih =>
        simp only [List.map_cons, List.all_cons, Bool.and_eq_true, beq_iff_eq] at ha
        simp only [cellsAre, Bool.and_eq_true, lenIs_iff]
        exact ⟨by simpa [D.cells] using ha.1, ih ha.2⟩
    simp only [opBs, this]; rfl
@[go_sem] theorem opBs_0 (sz : Nat) : opBs H sz [] = some (.t (.sl []), H) := (rfl)
@[go_sem] theorem opBs_1 (sz : Nat) (a : T) : opBs H sz [.t a] = if cellsAre sz [a] = true then some (.t (.sl [a]), H) else none := opBs_if H sz [a]
@[go_sem] theorem opBs_2 (sz : Nat) (a b : T) : opBs H sz [.t a, .t b] = if cellsAre sz [a, b] = true then some (.t (.sl [a, b]), H) else none := opBs_if H sz [a, b]
@[go_sem] theorem opBs_3 (sz : Nat) (a b c : T) : opBs H sz [.t a, .t b, .t c] = if cellsAre sz [a, b, c] = true then some (.t (.sl [a, b, c]), H) else none := opBs_if H sz [a, b, c]
@[go_sem] theorem opBs_4 (sz : Nat) (a b c d : T) : opBs H sz [.t a, .t b, .t c, .t d] = if cellsAre sz [a, b, c, d] = true then some (.t (.sl [a, b, c, d]), H) else none := opBs_if H sz [a, b, c, d]
@[go_sem] theorem opBs_5 (sz : Nat) (a b c d e : T) : opBs H sz [.t a, .t b, .t c, .t d, .t e] = if cellsAre sz [a, b, c, d, e] = true then some (.t (.sl [a, b, c, d, e]), H) else none := opBs_if H sz [a, b, c, d, e]
def opLn (a : D) : Option (D × Heap) := (lenD a).map fun (n : Nat) => (D.t (.int .i64 (n : Int)), H)
@[go_sem] theorem ev_ln (x : X) : evO call get H (.ln x) = (get x).bind (opLn H) := (rfl)
@[go_sem] theorem opLn_sl (es : List T) : opLn H (.t (.sl es)) = some (I es.length, H) := (rfl)
@[go_sem] theorem opLn_nil : opLn H .nil = some (I 0, H) := (rfl)
@[go_sem] theorem opLn_ref (id ep n : Nat) : opLn H (.ref id ep n) = some (I n, H) := (rfl)
@[go_sem] theorem opLn_sub (id ep n lo hi : Nat) : opLn H (.sub id ep n lo hi) = some (I ((hi - lo : Nat) : Int), H) := (rfl)
def opMn (ds : List D) : Option (D × Heap) := (minI ds).map fun d => (d, H)
def opMx (ds : List D) : Option (D × Heap) := (maxI ds).map fun d => (d, H)
@[go_sem] theorem ev_mn (xs : List X) : evO call get H (.mn xs) = (mapO get xs).bind (opMn H) := (rfl)
@[go_sem] theorem ev_mx (xs : List X) : evO call get H (.mx xs) = (mapO get xs).bind (opMx H) := (rfl)
@[go_sem] theorem opMn_2 (k : IntKind) (a b : Int) : opMn H [.t (.int k a), .t (.int k b)] = some (.t (.int k (min a b)), H) := by
  simp only [opMn, minI, fold2, if_true, Option.map_some]; congr 4; omega
@[go_sem] theorem opMx_2 (k : IntKind) (a b : Int) : opMx H [.t (.int k a), .t (.int k b)] = some (.t (.int k (max a b)), H) := by
  simp only [opMx, maxI, fold2, if_true, Option.map_some]; congr 4; omega
@[go_sem] theorem opMn_3 (k : IntKind) (a b c : Int) : opMn H [.t (.int k a), .t (.int k b), .t (.int k c)] = some (.t (.int k (min (min a b) c)), H) := by
  simp only [opMn, minI, fold2, if_true, Option.map_some]; congr 4; omega
@[go_sem] theorem opMx_3 (k : IntKind) (a b c : Int) : opMx H [.t (.int k a), .t (.int k b), .t (.int k c)] = some (.t (.int k (max (max a b) c)), H) := by
  simp only [opMx, maxI, fold2, if_true, Option.map_some]; congr 4; omega
def opSc (sz : Nat) (x : Option D) (lo hi : Option (Option Int)) : Option (D × Heap) := x.bind fun a => lo.bind fun l => hi.bind fun h => (sliceD H a l h sz).map fun d => (d, H)
@[go_sem] theorem ev_sc (x : X) (lo hi : Option X) (sz : Nat) : evO call get H (.sc x lo hi sz) = opSc H sz (get x) (optI get lo) (optI get hi) := (rfl)
def someI : D → Option (Option Int)
  | .t (.int _ n) => some (some n)
  | _ => none
@[go_sem] theorem someI_eq (k : IntKind) (n : Int) : someI (.t (.int k n)) = some (some n) := (rfl)
@[go_sem] theorem optI_none : optI get none = some none := (rfl)
@[go_sem] theorem optI_some (x : X) : optI get (some x) = (get x).bind someI := by
  simp only [optI]; cases get x with
  | none => rfl
  | some d => cases d with
    | t y => cases y <;> rfl
    | _ => rfl
def opEx (i : Nat) (a : D) : Option (D × Heap) := (tupD i a).map fun d => (d, H)
@[go_sem] theorem ev_ex (x : X) (i : Nat) : evO call get H (.ex x i) = (get x).bind (opEx H i) := (rfl)
def exO : Option D → Option (D × Heap)
  | some d => some (d, H)
  | none => none
@[go_sem] theorem exO_some (d : D) : exO H (some d) = some (d, H) := (rfl)
@[go_sem] theorem opEx_tup (i : Nat) (ds : List D) : opEx H i (.tup ds) = exO H ds[i]? := by simp only [opEx, tupD, exO]; cases ds[i]? <;> rfl
def opMf (f : Nat) (ds : List D) : Option (D × Heap) := some (.fn f ds, H)
@[go_sem] theorem opMf_eq (f : Nat) (ds : List D) : opMf H f ds = some (.fn f ds, H) := (rfl)
@[go_sem] theorem ev_mf (f : Nat) (caps : List X) : evO call get H (.mf f caps) = (mapO get caps).bind (opMf H f) := by simp only [evO, opMf]; cases mapO get caps <;> rfl
@[go_sem] theorem ev_nw (sz : Nat) : evO call get H (.nw sz) = some (.ref H.length 0 0, H ++ [.arr sz false 0 []]) := (rfl)
def alP (p : List D × Heap) : Option (D × Heap) := some (.bp H.length 0, H ++ .box p.1 :: p.2)
@[go_sem] theorem alP_eq (cs : List D) (os : Heap) : alP H (cs, os) = some (.bp H.length 0, H ++ .box cs :: os) := (rfl)
@[go_sem] theorem ev_al (zero : List D) (live : List (Nat × Nat)) : evO call get H (.al zero live) = alP H (liveBox (H.length + 1) zero live) := (rfl)
@[go_sem] theorem liveBox_nil (base : Nat) (cs : List D) : liveBox base cs [] = (cs, []) := (rfl)
def opBx (n : Nat) (a : D) : Option (D × Heap) := if a.cells.length = n ∧ a.solid then some (.bp H.length 0, H ++ [.box a.cells]) else none
@[go_sem] theorem ev_bx (x : X) (n : Nat) : evO call get H (.bx x n) = (get x).bind (opBx H n) := (rfl)
@[go_sem] theorem opBx_eq (n : Nat) (a : D) : opBx H n a = if fits n a = true then some (.bp H.length 0, H ++ [.box a.cells]) else none := by
  simp [opBx, fits]
def opMk (sz : Nat) (zero : D) (n : Option Nat) : Option (D × Heap) := n.bind fun m => if m ≤ lim then some (.ref H.length 0 m, H ++ [.arr sz false 0 (List.replicate m zero)]) else none
def mkN (sz : Nat) (zero : D) : D → Option (D × Heap)
  | .t (.int _ n) => opMk H sz zero (idx n)
  | _ => none
@[go_sem] theorem mkN_int (sz : Nat) (zero : D) (k : IntKind) (n : Int) : mkN H sz zero (.t (.int k n)) = opMk H sz zero (idx n) := (rfl)
@[go_sem] theorem ev_mk (len : X) (zero : D) (sz : Nat) : evO call get H (.mk len zero sz) = (get len).bind (mkN H sz zero) := by
  simp only [evO]; cases get len with
  | none => rfl
  | some d => cases d with
    | t y => cases y <;> rfl
    | _ => rfl
@[go_sem] theorem opMk_eq (sz : Nat) (zero : D) (m : Nat) (h : m ≤ 4294967296) : opMk H sz zero (some m) = some (.ref H.length 0 m, H ++ [.arr sz false 0 (List.replicate m zero)]) := by
  simp [opMk, lim, h]
def opMkt (zero : T) (n : Option Nat) : Option (D × Heap) := n.bind fun m => if m ≤ lim then some (.t (.sl (List.replicate m zero)), H) else none
def mktN (zero : T) : D → Option (D × Heap)
  | .t (.int _ n) => opMkt H zero (idx n)
  | _ => none
@[go_sem] theorem mktN_int (zero : T) (k : IntKind) (n : Int) : mktN H zero (.t (.int k n)) = opMkt H zero (idx n) := (rfl)
@[go_sem] theorem ev_mkt (len : X) (zero : T) (sz : Nat) : evO call get H (.mkt len zero sz) = (get len).bind (mktN H zero) := by
  simp only [evO]; cases get len with
  | none => rfl
  | some d => cases d with
    | t y => cases y <;> rfl
    | _ => rfl
@[go_sem] theorem opMkt_eq (zero : T) (m : Nat) (h : m ≤ 4294967296) : opMkt H zero (some m) = some (.t (.sl (List.replicate m zero)), H) := by
  simp [opMkt, lim, h]
def opApp (sz : Nat) (fz : Bool) (x y : Option D) : Option (D × Heap) := x.bind fun a => y.bind fun b => appendD H a b fz sz
@[go_sem] theorem ev_app (x y : X) (fz : Bool) (sz : Nat) : evO call get H (.app x y fz sz) = opApp H sz fz (get x) (get y) := (rfl)
def appRef (sz id ep n : Nat) (ys : List D) : Option Obj → Option (D × Heap)
  | some (.arr sz' pin ep' es) => if ep = ep' ∧ n = es.length ∧ sz' = sz ∧ n + ys.length ≤ lim then some (.ref id ep (n + ys.length), H.set id (.arr sz pin ep (es ++ ys))) else none
  | _ => none
@[go_sem] theorem appRef_eq (sz id ep n : Nat) (ys : List D) (pin : Bool) (es : List D) :
    appRef H sz id ep n ys (some (.arr sz pin ep es)) = if n = es.length then (if n + ys.length ≤ 4294967296 then some (.ref id ep (n + ys.length), H.set id (.arr sz pin ep (es ++ ys))) else none) else none := by
  simp only [appRef, lim]
  by_cases h1 : n = es.length
  · rw [if_pos h1]
    by_cases h2 : n + ys.length ≤ 4294967296
    · rw [if_pos h2, if_pos ⟨trivial, h1, trivial, h2⟩]
    · rw [if_neg h2, if_neg fun h => h2 h.2.2.2]
  · rw [if_neg h1, if_neg fun h => h1 h.2.1]
theorem mapO_frz (ts : List T) : mapO (fun d => (frz H depth d).map D.t) (ts.map D.t) = some (ts.map D.t) := by
  induction ts with
  | nil => rfl
  | cons t ts ih => simp [mapO, frz, ih]
theorem arrs_t (ts : List T) : (ts.map D.t).flatMap (arrs H depth) = [] := by
  induction ts with
  | nil => rfl
  | cons t ts ih => rw [List.map_cons, List.flatMap_cons, ih]; simp [arrs, depth]
theorem opApp_bad (sz : Nat) (fz : Bool) (x : D) (ts : List T) (h : headSize sz (ts.map D.t) = false) : opApp H sz fz (some x) (some (.t (.sl ts))) = none := by
  have e1 : (if fz then mapO (fun d => (frz H depth d).map D.t) (ts.map D.t) else some (ts.map D.t)) = some (ts.map D.t) := by
    cases fz <;> simp [mapO_frz]
  simp only [opApp, Option.bind_some, appendD, elems, e1, h, Bool.false_eq_true, if_false]
def appOK (sz : Nat) (ts : List T) : Bool := headSize sz (ts.map D.t)
theorem appOK_ref (sz id ep n : Nat) (fz : Bool) (ts : List T) (h : appOK sz ts = true) : opApp H sz fz (some (.ref id ep n)) (some (.t (.sl ts))) = appRef H sz id ep n (ts.map .t) H[id]? := by
  have e1 : (if fz then mapO (fun d => (frz H depth d).map D.t) (ts.map D.t) else some (ts.map D.t)) = some (ts.map D.t) := by
    cases fz <;> simp [mapO_frz]
  have e2 : (if fz then pins H ((ts.map D.t).flatMap (arrs H depth)) else H) = H := by
    cases fz
    · rfl
    · simp only [if_true]; rw [arrs_t]; rfl
  unfold appOK at h
  simp only [opApp, Option.bind_some, appendD, elems, e1, h, if_true, e2, arrAt]
  generalize H[id]? = o
  rcases o with _ | (_ | ⟨sz', pin, ep', es⟩)
  · rfl
  · rfl
  · simp only [appRef]
    by_cases h1 : ep = ep' ∧ n = es.length
    · rw [if_pos h1, Option.bind_some]
      by_cases h2 : sz' = sz ∧ n + (ts.map D.t).length ≤ lim
      · rw [if_pos h2, if_pos ⟨h1.1, h1.2, h2⟩]
      · rw [if_neg h2, if_neg fun h => h2 h.2.2]
    · rw [if_neg h1, if_neg fun h => h1 ⟨h.1, h.2.1⟩]; rfl
@[go_sem] theorem opApp_ref (sz id ep n : Nat) (fz : Bool) (ts : List T) : opApp H sz fz (some (.ref id ep n)) (some (.t (.sl ts))) = if appOK sz ts = true then appRef H sz id ep n (ts.map .t) H[id]? else none := by
  by_cases h : appOK sz ts = true
  · rw [if_pos h, appOK_ref H sz id ep n fz ts h]
  · rw [if_neg h]; exact opApp_bad H sz fz _ ts (by simpa [appOK] using h)
@[go_sem] theorem opApp_nil (sz : Nat) (fz : Bool) (ts : List T) : opApp H sz fz (some .nil) (some (.t (.sl ts))) =
    if appOK sz ts = true then (if ts.length ≤ 4294967296 then some (.ref H.length 0 ts.length, H ++ [.arr sz false 0 (ts.map .t)]) else none) else none := by
  by_cases h : appOK sz ts = true
  · rw [if_pos h]
    have e1 : (if fz then mapO (fun d => (frz H depth d).map D.t) (ts.map D.t) else some (ts.map D.t)) = some (ts.map D.t) := by
      cases fz <;> simp [mapO_frz]
    have e2 : (if fz then pins H ((ts.map D.t).flatMap (arrs H depth)) else H) = H := by
      cases fz
      · rfl
      · simp only [if_true]; rw [arrs_t]; rfl
    unfold appOK at h
    simp only [opApp, Option.bind_some, appendD, elems, e1, h, if_true, e2, lim, List.length_map]
  · rw [if_neg h]; exact opApp_bad H sz fz _ ts (by simpa [appOK] using h)
@[go_sem] theorem appOK_nil (sz : Nat) : appOK sz [] = true := (rfl)
@[go_sem] theorem appOK_cons (sz : Nat) (x : T) (r : List T) : appOK sz (x :: r) = lenIs sz x.cells := by
  rw [Bool.eq_iff_iff, lenIs_iff]; simp [appOK, headSize, D.cells]
@[go_sem] theorem appOK_int (l : List Int) (k : IntKind) : appOK 1 (l.map (.int k)) = true := by cases l <;> rfl
@[go_sem] theorem appOK_bool (l : List Bool) : appOK 1 (l.map .bool) = true := by cases l <;> rfl
@[go_sem] theorem appOK_sl (l : List (List T)) : appOK 1 (l.map .sl) = true := by cases l <;> rfl
def opCa (call : Oracle) (f raw : Nat) (keep : List Nat) (ds : List D) : Option (D × Heap) := callD call H f raw keep ds
@[go_sem] theorem ev_ca (f raw : Nat) (keep : List Nat) (xs : List X) : evO call get H (.ca f raw keep xs) = (mapO get xs).bind (opCa H call f raw keep) := (rfl)
def opCw (call : Oracle) (raw : Nat) (keep : List Nat) (x : Option D) (xs : Option (List D)) : Option (D × Heap) := x.bind fun
  | .fn f caps => xs.bind fun ds => callD call H f raw keep (ds ++ caps)
  | _ => none
@[go_sem] theorem ev_cw (x : X) (raw : Nat) (keep : List Nat) (xs : List X) : evO call get H (.cw x raw keep xs) = opCw H call raw keep (get x) (mapO get xs) := (rfl)
@[go_sem] theorem opCw_fn (raw : Nat) (keep : List Nat) (f : Nat) (caps ds : List D) : opCw H call raw keep (some (.fn f caps)) (some ds) = opCa H call f raw keep (ds ++ caps) := (rfl)
def argsT (H : Heap) : List D → Option (List T)
  | [] => some []
  | .t x :: r => consO x (argsT H r)
  | .nil :: r => consO (.sl []) (argsT H r)
  | _ :: _ => none
@[go_sem] theorem argsT_e : argsT H [] = some [] := (rfl)
@[go_sem] theorem argsT_t (x : T) (r : List D) : argsT H (.t x :: r) = consO x (argsT H r) := (rfl)
@[go_sem] theorem argsT_nil (r : List D) : argsT H (.nil :: r) = consO (.sl []) (argsT H r) := (rfl)
@[go_sem] theorem argsT_agg (cs : List D) (r : List D) : argsT H (.agg cs :: r) = none := (rfl)
@[go_sem] theorem argsT_bp (a b : Nat) (r : List D) : argsT H (.bp a b :: r) = none := (rfl)
@[go_sem] theorem argsT_ref (a b c : Nat) (r : List D) : argsT H (.ref a b c :: r) = none := (rfl)
@[go_sem] theorem argsT_sub (a b c d e : Nat) (r : List D) : argsT H (.sub a b c d e :: r) = none := (rfl)
@[go_sem] theorem argsT_fn (f : Nat) (cs : List D) (r : List D) : argsT H (.fn f cs :: r) = none := (rfl)
@[go_sem] theorem argsT_ap (a b c d e : Nat) (r : List D) : argsT H (.ap a b c d e :: r) = none := (rfl)
@[go_sem] theorem argsT_ep (cs : List T) (r : List D) : argsT H (.ep cs :: r) = none := (rfl)
@[go_sem] theorem argsT_nilp (r : List D) : argsT H (.nilp :: r) = none := (rfl)
@[go_sem] theorem argsT_und (r : List D) : argsT H (.und :: r) = none := (rfl)
end
theorem argsT_argsD (H : Heap) : ∀ {ds : List D} {ts : List T}, argsT H ds = some ts → ∀ i, argsD H [] i ds = some (ts.map .t) ∧ frozenArrs H [] i ds = []
  | [], ts, h, i => by simp [argsT] at h; subst h; exact ⟨rfl, rfl⟩
  | d :: r, ts, h, i => by
    cases d with
    | t x =>
      simp only [argsT, consO, Option.map_eq_some_iff] at h
      obtain ⟨l, hl, rfl⟩ := h
      obtain ⟨h1, h2⟩ := argsT_argsD H hl (i + 1)
      exact ⟨by simp [argsD, argD, h1], by simp [frozenArrs, arrs, depth, h2]⟩
    | nil =>
      simp only [argsT, consO, Option.map_eq_some_iff] at h
      obtain ⟨l, hl, rfl⟩ := h
      obtain ⟨h1, h2⟩ := argsT_argsD H hl (i + 1)
      exact ⟨by simp [argsD, argD, h1], by simp [frozenArrs, arrs, depth, h2]⟩
    | _ => simp [argsT] at h
theorem ids_map (ts : List T) (n : Nat) : (ts.map D.t).flatMap (ids n) = [] := by
  induction ts with
  | nil => rfl
  | cons t ts ih => rw [List.map_cons, List.flatMap_cons, ih]; simp [ids]
theorem ren_map (f : Nat → Option Nat) (ts : List T) : mapO (ren f depth) (ts.map .t) = some (ts.map .t) := by
  induction ts with
  | nil => rfl
  | cons t ts ih => simp [mapO, ren, depth] at ih ⊢; exact ih
def pureD : D → Bool
  | .t _ => true
  | .tup ds => ds.all fun | .t _ => true | _ => false
  | _ => false
theorem ren_pure {f : Nat → Option Nat} {d : D} (h : pureD d = true) : ren f depth d = some d := by
  cases d with
  | t x => rfl
  | tup ds =>
    simp only [pureD] at h
    have : mapO (ren f 7) ds = some ds := by
      induction ds with
      | nil => rfl
      | cons d ds ih =>
        simp only [List.all_cons, Bool.and_eq_true] at h
        cases d with
        | t x => simp [mapO, ren, ih h.2]
        | _ => simp at h
    simp [ren, depth, this]
  | _ => simp [pureD] at h
def backP (H : Heap) (p : D × Heap) : Option (D × Heap) := if pureD p.1 && p.2.isEmpty then some (p.1, H) else
  (ren (backTo [] H.length) depth p.1).bind fun r' => (mapO (renObj (backTo [] H.length)) p.2).map fun os => (r', H ++ os)
@[go_sem] theorem backP_t (H : Heap) (x : T) : backP H (.t x, []) = some (.t x, H) := (rfl)
@[go_sem] theorem backP_0 (H : Heap) : backP H (.tup [], []) = some (.tup [], H) := (rfl)
@[go_sem] theorem backP_2 (H : Heap) (x y : T) : backP H (.tup [.t x, .t y], []) = some (.tup [.t x, .t y], H) := (rfl)
@[go_sem] theorem backP_3 (H : Heap) (x y z : T) : backP H (.tup [.t x, .t y, .t z], []) = some (.tup [.t x, .t y, .t z], H) := (rfl)
@[go_sem] theorem backP_4 (H : Heap) (x y z u : T) : backP H (.tup [.t x, .t y, .t z, .t u], []) = some (.tup [.t x, .t y, .t z, .t u], H) := (rfl)
theorem opCa_args (H : Heap) (call : Oracle) (f raw : Nat) (ds : List D) (ts : List T) (h : argsT H ds = some ts) :
    opCa H call f raw [] ds = (call raw f (ts.map .t) []).bind (backP H) := by
  obtain ⟨h1, h2⟩ := argsT_argsD H h 0
  simp only [opCa, callD, h1, Option.bind_some, ids_map, addNew, reach, idsOf, List.flatMap_nil, h2, pins, ren_map, pick, mapO]
  cases hc : call raw f (ts.map .t) [] with
  | none => rfl
  | some p =>
    obtain ⟨d, os⟩ := p
    simp only [Option.bind_some, List.isEmpty_nil, Bool.true_and, backP]
    by_cases h3 : os = []
    · subst h3
      simp only [List.isEmpty_nil, Bool.true_and, Bool.and_true, mapO, Option.map_some, List.length_nil, List.take_nil, putBack, List.drop_nil, List.append_nil]
      by_cases h4 : pureD d = true
      · rw [if_pos h4]
        split
        · rfl
        · rw [ren_pure h4]; rfl
      · rw [if_neg h4]
        split
        · rename_i h5
          exfalso
          apply h4
          cases d with
          | t x => rfl
          | tup ds =>
            simp only [scalarR, List.all_eq_true] at h5
            simp only [pureD, List.all_eq_true]
            intro y hy
            have := h5 y hy
            cases y <;> simp_all [scalarD]
          | _ => simp [scalarR] at h5
        · rfl
    · have : os.isEmpty = false := by cases os <;> simp_all
      simp only [this, Bool.false_and, Bool.and_false, if_false, Bool.false_eq_true, List.length_nil, List.take_zero, putBack, List.drop_zero]
@[go_sem] theorem getRes_nil (st : St) : getRes st [] = some [] := (rfl)
def resC (st : St) (r : List (Nat × Option (Nat × Bool))) (d : D) : Option (List D) := consO d (getRes st r)
@[go_sem] theorem resC_eq (vs : List D) (H : Heap) (r : List (Nat × Option (Nat × Bool))) (d : D) : resC ⟨vs, H⟩ r d = consO d (getRes ⟨vs, H⟩ r) := (rfl)
@[go_sem] theorem getRes_tmp (vs : List D) (H : Heap) (j : Nat) (r : List (Nat × Option (Nat × Bool))) : getRes ⟨vs, H⟩ ((j, none) :: r) = vs[j]?.bind (resC ⟨vs, H⟩ r) := (rfl)
def resP (st : St) (r : List (Nat × Option (Nat × Bool))) (p : D × Heap) : Option (List D) := consO p.1 (getRes st r)
@[go_sem] theorem resP_eq (vs : List D) (H : Heap) (r : List (Nat × Option (Nat × Bool))) (d : D) (H' : Heap) : resP ⟨vs, H⟩ r (d, H') = consO d (getRes ⟨vs, H⟩ r) := (rfl)
def resL (st : St) (n : Nat) (agg : Bool) (r : List (Nat × Option (Nat × Bool))) (p : D) : Option (List D) := (opLd st.H n agg p).bind (resP st r)
@[go_sem] theorem resL_eq (vs : List D) (H : Heap) (n : Nat) (agg : Bool) (r : List (Nat × Option (Nat × Bool))) (p : D) : resL ⟨vs, H⟩ n agg r p = (opLd H n agg p).bind (resP ⟨vs, H⟩ r) := (rfl)
@[go_sem] theorem getRes_cell (vs : List D) (H : Heap) (j n : Nat) (agg : Bool) (r : List (Nat × Option (Nat × Bool))) : getRes ⟨vs, H⟩ ((j, some (n, agg)) :: r) = vs[j]?.bind (resL ⟨vs, H⟩ n agg r) := by
  simp only [getRes]
  cases vs[j]? with
  | none => rfl
  | some p =>
    simp only [Option.bind_some, resL, opLd]
    cases loadD H p n agg <;> rfl
@[go_sem] theorem frz_t (H : Heap) (n : Nat) (x : T) : frz H n (.t x) = some x := by cases n <;> rfl
@[go_sem] theorem frz_nil (H : Heap) (n : Nat) : frz H n .nil = some (.sl []) := by cases n <;> rfl
@[go_sem] theorem frz_agg (H : Heap) (n : Nat) (cs : List D) : frz H (n + 1) (.agg cs) = (mapO (frz H n) cs).map .agg := (rfl)
@[go_sem] theorem mapO_frz_t (H : Heap) (n : Nat) (ts : List T) : mapO (frz H n) (ts.map .t) = some ts := by
  induction ts with
  | nil => rfl
  | cons t ts ih => simp [mapO, frz_t, ih]
def frA (H : Heap) (n ep m lo hi : Nat) : Option Obj → Option T
  | some (.arr _ _ ep' es) => if ep = ep' ∧ m = es.length then (mapO (frz H n) ((es.drop lo).take (hi - lo))).map .sl else none
  | _ => none
def frR (H : Heap) (n ep m : Nat) : Option Obj → Option T
  | some (.arr _ _ ep' es) => if ep = ep' ∧ m = es.length then (mapO (frz H n) es).map .sl else none
  | _ => none
@[go_sem] theorem frz_ref (H : Heap) (n id ep m : Nat) : frz H (n + 1) (.ref id ep m) = frR H n ep m H[id]? := by
  simp only [frz, arrAt]
  generalize H[id]? = o
  rcases o with _ | (_ | ⟨sz', pin, ep', es⟩)
  · rfl
  · rfl
  · simp only [frR]
    by_cases h : ep = ep' ∧ m = es.length
    · rw [if_pos h, if_pos h]; rfl
    · rw [if_neg h, if_neg h]; rfl
@[go_sem] theorem frz_sub (H : Heap) (n id ep m lo hi : Nat) : frz H (n + 1) (.sub id ep m lo hi) = frA H n ep m lo hi H[id]? := by
  simp only [frz, arrAt]
  generalize H[id]? = o
  rcases o with _ | (_ | ⟨sz', pin, ep', es⟩)
  · rfl
  · rfl
  · simp only [frA]
    by_cases h : ep = ep' ∧ m = es.length
    · rw [if_pos h, if_pos h]; rfl
    · rw [if_neg h, if_neg h]; rfl
@[go_sem] theorem frR_arr (H : Heap) (n ep m sz : Nat) (pin : Bool) (es : List D) : frR H n ep m (some (.arr sz pin ep es)) = if m = es.length then (mapO (frz H n) es).map .sl else none := by simp [frR]
@[go_sem] theorem frA_arr (H : Heap) (n ep m lo hi sz : Nat) (pin : Bool) (es : List D) : frA H n ep m lo hi (some (.arr sz pin ep es)) = if m = es.length then (mapO (frz H n) ((es.drop lo).take (hi - lo))).map .sl else none := by simp [frA]
@[go_sem] theorem argD_t (H : Heap) (x : T) : argD H (.t x) = some (.t x) := (rfl)
@[go_sem] theorem argD_nil (H : Heap) : argD H .nil = some (.t (.sl [])) := (rfl)
@[go_sem] theorem argD_agg (H : Heap) (cs : List D) : argD H (.agg cs) = (frz H 8 (.agg cs)).map .t := (rfl)
@[go_sem] theorem argD_ref (H : Heap) (id ep n : Nat) : argD H (.ref id ep n) = (frz H 8 (.ref id ep n)).map .t := (rfl)
@[go_sem] theorem argD_sub (H : Heap) (id ep n lo hi : Nat) : argD H (.sub id ep n lo hi) = (frz H 8 (.sub id ep n lo hi)).map .t := (rfl)
@[go_sem] theorem argD_bp (H : Heap) (id off : Nat) : argD H (.bp id off) = some (.bp id off) := (rfl)
@[go_sem] theorem argD_ap (H : Heap) (id ep n i off : Nat) : argD H (.ap id ep n i off) = some (.ap id ep n i off) := (rfl)
@[go_sem] theorem argD_ep (H : Heap) (cs : List T) : argD H (.ep cs) = some (.ep cs) := (rfl)
@[go_sem] theorem argD_fn (H : Heap) (f : Nat) (cs : List D) : argD H (.fn f cs) = some (.fn f cs) := (rfl)
def ltB : Nat → Nat → Bool
  | _, 0 => false
  | 0, _ + 1 => true
  | m + 1, n + 1 => ltB m n
@[go_sem] theorem ltB_z (m : Nat) : ltB m 0 = false := by cases m <;> rfl
@[go_sem] theorem ltB_0s (n : Nat) : ltB 0 (n + 1) = true := (rfl)
@[go_sem] theorem ltB_ss (m n : Nat) : ltB (m + 1) (n + 1) = ltB m n := (rfl)
theorem ltB_iff : ∀ {m n : Nat}, ltB m n = decide (m < n)
  | m, 0 => by cases m <;> simp [ltB]
  | 0, n + 1 => by simp [ltB]
  | m + 1, n + 1 => by simp [ltB, ltB_iff (m := m) (n := n)]
def eqB : Nat → Nat → Bool
  | 0, 0 => true
  | m + 1, n + 1 => eqB m n
  | _, _ => false
@[go_sem] theorem eqB_00 : eqB 0 0 = true := (rfl)
@[go_sem] theorem eqB_0s (n : Nat) : eqB 0 (n + 1) = false := (rfl)
@[go_sem] theorem eqB_s0 (n : Nat) : eqB (n + 1) 0 = false := (rfl)
@[go_sem] theorem eqB_ss (m n : Nat) : eqB (m + 1) (n + 1) = eqB m n := (rfl)
theorem eqB_iff : ∀ {m n : Nat}, eqB m n = decide (m = n)
  | 0, 0 => rfl
  | 0, n + 1 => rfl
  | m + 1, 0 => rfl
  | m + 1, n + 1 => by simp [eqB, eqB_iff (m := m) (n := n)]
section
variable (k n : Nat)
@[go_sem] theorem old_t (x : T) : old k n (.t x) = true := by cases n <;> rfl
@[go_sem] theorem old_nil : old k n .nil = true := by cases n <;> rfl
@[go_sem] theorem old_ep (cs : List T) : old k n (.ep cs) = true := by cases n <;> rfl
@[go_sem] theorem old_nilp : old k n .nilp = true := by cases n <;> rfl
@[go_sem] theorem old_und : old k n .und = true := by cases n <;> rfl
@[go_sem] theorem old_bp (id off : Nat) : old k n (.bp id off) = ltB id k := by cases n <;> simp [old, ltB_iff]
@[go_sem] theorem old_ap (id ep m i off : Nat) : old k n (.ap id ep m i off) = ltB id k := by cases n <;> simp [old, ltB_iff]
@[go_sem] theorem old_ref (id ep m : Nat) : old k n (.ref id ep m) = ltB id k := by cases n <;> simp [old, ltB_iff]
@[go_sem] theorem old_sub (id ep m lo hi : Nat) : old k n (.sub id ep m lo hi) = ltB id k := by cases n <;> simp [old, ltB_iff]
def allOld (n : Nat) (cs : List D) : Bool := cs.all (old k n)
@[go_sem] theorem allOld_nil : allOld k n [] = true := (rfl)
@[go_sem] theorem allOld_cons (d : D) (r : List D) : allOld k n (d :: r) = (old k n d && allOld k n r) := (rfl)
@[go_sem] theorem allOld_t (ts : List T) : allOld k n (ts.map .t) = true := by
  induction ts with
  | nil => rfl
  | cons t ts ih => rw [List.map_cons, allOld_cons, old_t, ih]; rfl
@[go_sem] theorem allOld_rep (m : Nat) (x : T) : allOld k n (List.replicate m (.t x)) = true := by
  have : List.replicate m (D.t x) = (List.replicate m x).map .t := by simp
  rw [this, allOld_t]
@[go_sem] theorem allOld_app (a b : List D) : allOld k n (a ++ b) = (allOld k n a && allOld k n b) := by simp [allOld]
@[go_sem] theorem old_agg (cs : List D) : old k (n + 1) (.agg cs) = allOld k n cs := (rfl)
@[go_sem] theorem old_tup (cs : List D) : old k (n + 1) (.tup cs) = allOld k n cs := (rfl)
@[go_sem] theorem old_fn (f : Nat) (cs : List D) : old k (n + 1) (.fn f cs) = allOld k n cs := (rfl)
end
def heapOld (k : Nat) : Heap → Bool
  | [] => true
  | .box cs :: r => allOld k 8 cs && heapOld k r
  | .arr _ _ _ es :: r => allOld k 8 es && heapOld k r
@[go_sem] theorem heapOld_nil (k : Nat) : heapOld k [] = true := (rfl)
@[go_sem] theorem heapOld_box (k : Nat) (cs : List D) (r : Heap) : heapOld k (.box cs :: r) = (allOld k 8 cs && heapOld k r) := (rfl)
@[go_sem] theorem heapOld_arr (k sz ep : Nat) (pin : Bool) (es : List D) (r : Heap) : heapOld k (.arr sz pin ep es :: r) = (allOld k 8 es && heapOld k r) := (rfl)
theorem heapOld_eq (k : Nat) (H : Heap) : H.all (fun o => o.ds.all (old k depth)) = heapOld k H := by
  induction H with
  | nil => rfl
  | cons o r ih => rw [List.all_cons, ih]; cases o <;> rfl
def killO (d : D) (b : Bool) : D := if b then d else .und
@[go_sem] theorem killO_true (d : D) : killO d true = d := (rfl)
@[go_sem] theorem killO_false (d : D) : killO d false = .und := (rfl)
@[go_sem] theorem kill_eq (k : Nat) (d : D) : kill k d = killO d (old k 8 d) := (rfl)
def killL (k : Nat) : List D → List D
  | [] => []
  | d :: r => kill k d :: killL k r
@[go_sem] theorem killL_nil (k : Nat) : killL k [] = [] := (rfl)
@[go_sem] theorem killL_cons (k : Nat) (d : D) (r : List D) : killL k (d :: r) = kill k d :: killL k r := (rfl)
theorem killL_eq (k : Nat) (vs : List D) : vs.map (kill k) = killL k vs := by
  induction vs with
  | nil => rfl
  | cons d r ih => rw [List.map_cons, ih]; rfl
@[go_sem] theorem trunc_eq (k : Nat) (vs : List D) (H : Heap) : trunc k ⟨vs, H⟩ = if heapOld k (H.take k) = true then some ⟨killL k vs, H.take k⟩ else none := by
  simp only [trunc, heapOld_eq, killL_eq]
@[go_sem] theorem arrs_tt (H : Heap) (n : Nat) (x : T) : arrs H n (.t x) = [] := by cases n <;> rfl
@[go_sem] theorem arrs_nil (H : Heap) (n : Nat) : arrs H n .nil = [] := by cases n <;> rfl
@[go_sem] theorem arrs_bp (H : Heap) (n id off : Nat) : arrs H n (.bp id off) = [] := by cases n <;> rfl
@[go_sem] theorem arrs_fn (H : Heap) (n f : Nat) (cs : List D) : arrs H n (.fn f cs) = [] := by cases n <;> rfl
@[go_sem] theorem arrs_ep (H : Heap) (n : Nat) (cs : List T) : arrs H n (.ep cs) = [] := by cases n <;> rfl
@[go_sem] theorem arrs_ap (H : Heap) (n a b c d e : Nat) : arrs H n (.ap a b c d e) = [] := by cases n <;> rfl
def arrsL (H : Heap) (n : Nat) (cs : List D) : List Nat := cs.flatMap (arrs H n)
@[go_sem] theorem arrsL_nil (H : Heap) (n : Nat) : arrsL H n [] = [] := (rfl)
@[go_sem] theorem arrsL_cons (H : Heap) (n : Nat) (d : D) (r : List D) : arrsL H n (d :: r) = arrs H n d ++ arrsL H n r := (rfl)
@[go_sem] theorem arrsL_t (H : Heap) (n : Nat) (ts : List T) : arrsL H n (ts.map .t) = [] := by
  induction ts with
  | nil => rfl
  | cons t ts ih => rw [List.map_cons, arrsL_cons, ih, arrs_tt]; rfl
@[go_sem] theorem arrsL_app (H : Heap) (n : Nat) (a b : List D) : arrsL H n (a ++ b) = arrsL H n a ++ arrsL H n b := by simp [arrsL]
@[go_sem] theorem arrs_agg (H : Heap) (n : Nat) (cs : List D) : arrs H (n + 1) (.agg cs) = arrsL H n cs := (rfl)
def arrsO (H : Heap) (n : Nat) : Option Obj → List Nat
  | some (.arr _ _ _ es) => arrsL H n es
  | _ => []
@[go_sem] theorem arrsO_arr (H : Heap) (n sz ep : Nat) (pin : Bool) (es : List D) : arrsO H n (some (.arr sz pin ep es)) = arrsL H n es := (rfl)
@[go_sem] theorem arrs_ref (H : Heap) (n id ep m : Nat) : arrs H (n + 1) (.ref id ep m) = id :: arrsO H n H[id]? := (rfl)
@[go_sem] theorem arrs_sub (H : Heap) (n id ep m lo hi : Nat) : arrs H (n + 1) (.sub id ep m lo hi) = id :: arrsO H n H[id]? := (rfl)
@[go_sem] theorem tupOf_0 : tupOf [] = .tup [] := (rfl)
@[go_sem] theorem tupOf_1 (d : D) : tupOf [d] = d := (rfl)
@[go_sem] theorem tupOf_2 (a b : D) (r : List D) : tupOf (a :: b :: r) = .tup (a :: b :: r) := (rfl)
def allGe (k : Nat) : List Nat → Bool
  | [] => true
  | i :: r => !ltB i k && allGe k r
@[go_sem] theorem allGe_nil (k : Nat) : allGe k [] = true := (rfl)
@[go_sem] theorem allGe_cons (k i : Nat) (r : List Nat) : allGe k (i :: r) = (!ltB i k && allGe k r) := (rfl)
theorem allGe_eq (k : Nat) (l : List Nat) : l.all (fun i => decide (k ≤ i)) = allGe k l := by
  induction l with
  | nil => rfl
  | cons i r ih =>
    rw [List.all_cons, ih]
    simp only [allGe, ltB_iff]
    congr 1
    rw [Bool.eq_iff_iff]; simp
def finG (k raw : Nat) (H : Heap) (ds rs : List D) : Option (D × Heap) :=
  (keepLv H (max raw 1) (List.range k) (rs.flatMap (ids depth) ++ idsOf H (List.range k))).bind fun q =>
    if (resArrs H raw ds).all (fun i => !(List.range k ++ q.1).contains i) then
      (mapO (ren (idxOf (List.range k ++ q.1)) depth) rs).bind fun rs' =>
        (mapO (renObj (idxOf (List.range k ++ q.1))) (H.take k ++ q.2)).map fun hs' => (tupOf rs', hs')
    else none
def finB (k raw : Nat) (H : Heap) (ds rs : List D) (b : Bool) : Option (D × Heap) :=
  if b then (if allGe k (resArrs H raw ds) = true then some (tupOf rs, H.take k) else none) else finG k raw H ds rs
@[go_sem] theorem finB_true (k raw : Nat) (H : Heap) (ds rs : List D) : finB k raw H ds rs true = if allGe k (resArrs H raw ds) = true then some (tupOf rs, H.take k) else none := (rfl)
def finA (k raw : Nat) (H : Heap) (ds rs : List D) : Option (D × Heap) := finB k raw H ds rs (allOld k 8 rs && heapOld k (H.take k))
@[go_sem] theorem finA_eq (k raw : Nat) (H : Heap) (ds rs : List D) : finA k raw H ds rs = finB k raw H ds rs (allOld k 8 rs && heapOld k (H.take k)) := (rfl)
@[go_sem] theorem finish_eq (k : Nat) (H : Heap) (ds : List D) : finish k 0 H ds = (mapO (argD H) ds).bind (finA k 0 H ds) := by
  simp only [finish, if_true, heapOld_eq, allGe_eq]
  cases mapO (argD H) ds with
  | none => rfl
  | some rs =>
    simp only [Option.bind_some, finA, finB]
    show (if (allOld k 8 rs && heapOld k (H.take k)) = true then _ else _) = _
    cases (allOld k 8 rs && heapOld k (H.take k)) <;> rfl
@[go_sem] theorem resArrs_0 (H : Heap) (ds : List D) : resArrs H 0 ds = arrsL H 8 ds := (rfl)
@[go_sem] theorem dropV_nil (vs : List D) : dropV [] vs = vs := (rfl)
@[go_sem] theorem dropV_cons (i : Nat) (r : List Nat) (vs : List D) : dropV (i :: r) vs = dropV r (vs.set i .und) := (rfl)
@[go_sem] theorem tidy_ff (dead : List Nat) (k : Nat) (vs : List D) (H : Heap) : tidy false dead k ⟨vs, H⟩ = some ⟨dropV dead vs, H⟩ := (rfl)
@[go_sem] theorem tidy_tt (dead : List Nat) (k : Nat) (vs : List D) (H : Heap) : tidy true dead k ⟨vs, H⟩ = trunc k ⟨dropV dead vs, H⟩ := (rfl)
section
variable (H : Heap) (call : Oracle) (f raw : Nat) (keep : List Nat) (ds : List D)
def callB (H1 : Heap) (n : Nat) (sel : List Nat) (p : D × Heap) : Option (D × Heap) :=
  (ren (backTo sel n) depth p.1).bind fun r' => (mapO (renObj (backTo sel n)) p.2).map fun os => (r', putBack H1 sel (os.take sel.length) ++ os.drop sel.length)
def callW (H1 : Heap) (sel : List Nat) (p : D × Heap) : Option (D × Heap) :=
  if sel.isEmpty && p.2.isEmpty && scalarR p.1 then some (p.1, H) else callB H1 H.length sel p
def callQ (args : List D) (H1 : Heap) (sel : List Nat) (hs : Heap) : Option (D × Heap) := (call raw f args hs).bind (callW H H1 sel)
def callP (args : List D) (H1 : Heap) (sel : List Nat) (hs : Heap) : Option (D × Heap) := (mapO (renObj (idxOf sel)) hs).bind (callQ H call f raw args H1 sel)
def callR (H1 : Heap) (sel : List Nat) (args : List D) : Option (D × Heap) := (pick H1 sel).bind (callP H call f raw args H1 sel)
def callS (args : List D) (sel : List Nat) : Option (D × Heap) := (mapO (ren (idxOf sel) depth) args).bind (callR H call f raw (pins H (frozenArrs H keep 0 ds)) sel)
def idsL (n : Nat) (cs : List D) : List Nat := cs.flatMap (ids n)
def callA (args : List D) : Option (D × Heap) := callS H call f raw keep ds args (reach H 3 (addNew [] (idsL 8 args)))
def callG : Option (D × Heap) := (argsD H keep 0 ds).bind (callA H call f raw keep ds)
@[go_sem] theorem callG_eq : callG H call f raw keep ds = (argsD H keep 0 ds).bind (callA H call f raw keep ds) := (rfl)
@[go_sem] theorem callA_eq (args : List D) : callA H call f raw keep ds args = callS H call f raw keep ds args (reach H 3 (addNew [] (idsL 8 args))) := (rfl)
@[go_sem] theorem callS_eq (args : List D) (sel : List Nat) : callS H call f raw keep ds args sel = (mapO (ren (idxOf sel) 8) args).bind (callR H call f raw (pins H (frozenArrs H keep 0 ds)) sel) := (rfl)
@[go_sem] theorem callR_eq (H1 : Heap) (sel : List Nat) (args : List D) : callR H call f raw H1 sel args = (pick H1 sel).bind (callP H call f raw args H1 sel) := (rfl)
@[go_sem] theorem callP_eq (args : List D) (H1 : Heap) (sel : List Nat) (hs : Heap) : callP H call f raw args H1 sel hs = (mapO (renObj (idxOf sel)) hs).bind (callQ H call f raw args H1 sel) := (rfl)
@[go_sem] theorem callQ_eq (args : List D) (H1 : Heap) (sel : List Nat) (hs : Heap) : callQ H call f raw args H1 sel hs = (call raw f args hs).bind (callW H H1 sel) := (rfl)
def callY (H1 : Heap) (sel : List Nat) (r : D) (os : Heap) : Option (D × Heap) := some (r, putBack H1 sel (os.take sel.length) ++ os.drop sel.length)
@[go_sem] theorem callY_eq (H1 : Heap) (sel : List Nat) (r : D) (os : Heap) : callY H1 sel r os = some (r, putBack H1 sel (os.take sel.length) ++ os.drop sel.length) := (rfl)
def callZ (H1 : Heap) (n : Nat) (sel : List Nat) (os : Heap) (r : D) : Option (D × Heap) := (mapO (renObj (backTo sel n)) os).bind (callY H1 sel r)
@[go_sem] theorem callZ_eq (H1 : Heap) (n : Nat) (sel : List Nat) (os : Heap) (r : D) : callZ H1 n sel os r = (mapO (renObj (backTo sel n)) os).bind (callY H1 sel r) := (rfl)
@[go_sem] theorem callB_eq (H1 : Heap) (n : Nat) (sel : List Nat) (r : D) (os : Heap) : callB H1 n sel (r, os) = (ren (backTo sel n) 8 r).bind (callZ H1 n sel os) := by
  simp only [callB, depth]
  cases ren (backTo sel n) 8 r with
  | none => rfl
  | some r' => simp only [Option.bind_some, callZ]; cases mapO (renObj (backTo sel n)) os <;> rfl
@[go_sem] theorem callW_sel (H1 : Heap) (i : Nat) (sel : List Nat) (p : D × Heap) : callW H H1 (i :: sel) p = callB H1 H.length (i :: sel) p := (rfl)
@[go_sem] theorem callW_os (H1 : Heap) (sel : List Nat) (r : D) (o : Obj) (os : Heap) : callW H H1 sel (r, o :: os) = callB H1 H.length sel (r, o :: os) := by
  simp [callW]
@[go_sem] theorem callW_t (H1 : Heap) (k : IntKind) (n : Int) : callW H H1 [] (.t (.int k n), []) = some (.t (.int k n), H) := (rfl)
@[go_sem] theorem callW_b (H1 : Heap) (b : Bool) : callW H H1 [] (.t (.bool b), []) = some (.t (.bool b), H) := (rfl)
@[go_sem] theorem callW_sl (H1 : Heap) (es : List T) : callW H H1 [] (.t (.sl es), []) = some (.t (.sl es), H1) := by simp [callW, callB, scalarR, T.scalar, ren, depth, mapO, putBack]
@[go_sem] theorem callW_agg (H1 : Heap) (es : List T) : callW H H1 [] (.t (.agg es), []) = some (.t (.agg es), H1) := by simp [callW, callB, scalarR, T.scalar, ren, depth, mapO, putBack]
@[go_sem] theorem callW_tup (H1 : Heap) (ds : List D) : callW H H1 [] (.tup ds, []) = if ds.all scalarD then some (.tup ds, H) else callB H1 H.length [] (.tup ds, []) := by
  simp [callW, scalarR]
def callI : Option (List T) → Option (D × Heap)
  | some ts => (call raw f (ts.map .t) []).bind (backP H)
  | none => callG H call f raw [] ds
@[go_sem] theorem callI_some (ts : List T) : callI H call f raw ds (some ts) = (call raw f (ts.map .t) []).bind (backP H) := (rfl)
@[go_sem] theorem callI_none : callI H call f raw ds none = callG H call f raw [] ds := (rfl)
@[go_sem] theorem opCa_nk : opCa H call f raw [] ds = callI H call f raw ds (argsT H ds) := by
  cases h : argsT H ds with
  | none => rfl
  | some ts => exact opCa_args H call f raw ds ts h
@[go_sem] theorem opCa_k (k : Nat) : opCa H call f raw (k :: keep) ds = callG H call f raw (k :: keep) ds := (rfl)
end
section
variable (H : Heap) (keep : List Nat)
@[go_sem] theorem argsD_nil (i : Nat) : argsD H keep i [] = some [] := (rfl)
def memB (i : Nat) : List Nat → Bool
  | [] => false
  | j :: r => eqB i j || memB i r
@[go_sem] theorem memB_nil (i : Nat) : memB i [] = false := (rfl)
@[go_sem] theorem memB_cons (i j : Nat) (r : List Nat) : memB i (j :: r) = (eqB i j || memB i r) := (rfl)
theorem memB_eq (i : Nat) (l : List Nat) : l.contains i = memB i l := by
  induction l with
  | nil => rfl
  | cons j r ih => rw [List.contains_cons, ih]; simp only [memB, eqB_iff]; rw [beq_eq_decide_nat]
where beq_eq_decide_nat {a b : Nat} : (a == b) = decide (a = b) := by rw [Bool.eq_iff_iff]; simp
def argK (d : D) : Bool → Option D
  | true => some d
  | false => argD H d
@[go_sem] theorem argK_t (d : D) : argK H d true = some d := (rfl)
@[go_sem] theorem argK_f (d : D) : argK H d false = argD H d := (rfl)
def argC (i : Nat) (r : List D) (x : D) : Option (List D) := consO x (argsD H keep (i + 1) r)
@[go_sem] theorem argC_eq (i : Nat) (r : List D) (x : D) : argC H keep i r x = consO x (argsD H keep (i + 1) r) := (rfl)
@[go_sem] theorem argsD_cons (i : Nat) (d : D) (r : List D) : argsD H keep i (d :: r) = (argK H d (memB i keep)).bind (argC H keep i r) := by
  simp only [argsD, memB_eq]
  cases memB i keep <;> rfl
@[go_sem] theorem frozenArrs_nil (i : Nat) : frozenArrs H keep i [] = [] := (rfl)
def frK (l : List Nat) : Bool → List Nat
  | true => []
  | false => l
@[go_sem] theorem frK_t (l : List Nat) : frK l true = [] := (rfl)
@[go_sem] theorem frK_f (l : List Nat) : frK l false = l := (rfl)
@[go_sem] theorem frozenArrs_cons (i : Nat) (d : D) (r : List D) : frozenArrs H keep i (d :: r) = frK (arrs H 8 d) (memB i keep) ++ frozenArrs H keep (i + 1) r := by
  simp only [frozenArrs, memB_eq]
  cases memB i keep <;> rfl
@[go_sem] theorem pins_nil (H : Heap) : pins H [] = H := (rfl)
@[go_sem] theorem pins_cons (H : Heap) (i : Nat) (r : List Nat) : pins H (i :: r) = pins (H.modify i pin1) r := (rfl)
def pinAt (i : Nat) : Option Obj → Heap
  | some (.arr sz _ ep es) => H.set i (.arr sz true ep es)
  | _ => H
@[go_sem] theorem pinAt_box (i : Nat) (cs : List D) : pinAt H i (some (.box cs)) = H := (rfl)
@[go_sem] theorem pinAt_arr (i sz ep : Nat) (pin : Bool) (es : List D) : pinAt H i (some (.arr sz pin ep es)) = H.set i (.arr sz true ep es) := (rfl)
@[go_sem] theorem modify_pin (i : Nat) : List.modify H i pin1 = pinAt H i H[i]? := by
  apply List.ext_getElem?
  intro j
  rw [List.getElem?_modify]
  cases h : H[i]? with
  | none =>
    simp only [pinAt]
    by_cases e : i = j
    · subst e; rw [h]; simp
    · simp [e]
  | some o =>
    have hi : i < H.length := (List.getElem?_eq_some_iff.1 h).1
    cases o with
    | box cs =>
      simp only [pinAt]
      by_cases e : i = j
      · subst e; rw [h]; simp [pin1]
      · simp [e]
    | arr sz pin ep es =>
      simp only [pinAt]
      rw [List.getElem?_set]
      by_cases e : i = j
      · subst e; rw [h]; simp [pin1, hi]
      · simp [e]
section
variable (n : Nat)
@[go_sem] theorem ids_t (x : T) : ids n (.t x) = [] := by cases n <;> rfl
@[go_sem] theorem ids_nil : ids n .nil = [] := by cases n <;> rfl
@[go_sem] theorem ids_nilp : ids n .nilp = [] := by cases n <;> rfl
@[go_sem] theorem ids_und : ids n .und = [] := by cases n <;> rfl
@[go_sem] theorem ids_ep (cs : List T) : ids n (.ep cs) = [] := by cases n <;> rfl
@[go_sem] theorem ids_bp (id off : Nat) : ids n (.bp id off) = [id] := by cases n <;> rfl
@[go_sem] theorem ids_ap (id ep m i off : Nat) : ids n (.ap id ep m i off) = [id] := by cases n <;> rfl
@[go_sem] theorem ids_ref (id ep m : Nat) : ids n (.ref id ep m) = [id] := by cases n <;> rfl
@[go_sem] theorem ids_sub (id ep m lo hi : Nat) : ids n (.sub id ep m lo hi) = [id] := by cases n <;> rfl
@[go_sem] theorem ids_agg (cs : List D) : ids (n + 1) (.agg cs) = idsL n cs := (rfl)
@[go_sem] theorem ids_tup (cs : List D) : ids (n + 1) (.tup cs) = idsL n cs := (rfl)
@[go_sem] theorem ids_fn (f : Nat) (cs : List D) : ids (n + 1) (.fn f cs) = idsL n cs := (rfl)
@[go_sem] theorem idsL_nil : idsL n [] = [] := (rfl)
@[go_sem] theorem idsL_cons (d : D) (r : List D) : idsL n (d :: r) = ids n d ++ idsL n r := (rfl)
@[go_sem] theorem idsL_t (ts : List T) : idsL n (ts.map .t) = [] := ids_map ts n
@[go_sem] theorem idsL_app (a b : List D) : idsL n (a ++ b) = idsL n a ++ idsL n b := by simp [idsL]
@[go_sem] theorem idsL_rep (m : Nat) (x : T) : idsL n (List.replicate m (.t x)) = [] := by
  have : List.replicate m (D.t x) = (List.replicate m x).map .t := by simp
  rw [this, idsL_t]
end
def addOne (sel : List Nat) (i : Nat) : Bool → List Nat
  | true => sel
  | false => sel ++ [i]
@[go_sem] theorem addOne_t (sel : List Nat) (i : Nat) : addOne sel i true = sel := (rfl)
@[go_sem] theorem addOne_f (sel : List Nat) (i : Nat) : addOne sel i false = sel ++ [i] := (rfl)
@[go_sem] theorem addNew_nil (sel : List Nat) : addNew sel [] = sel := (rfl)
@[go_sem] theorem addNew_cons (sel : List Nat) (i : Nat) (r : List Nat) : addNew sel (i :: r) = addNew (addOne sel i (memB i sel)) r := by
  simp only [addNew, memB_eq]
  cases memB i sel <;> rfl
def idsObj : Option Obj → List Nat
  | some (.box cs) => idsL 8 cs
  | some (.arr _ _ _ es) => idsL 8 es
  | none => []
@[go_sem] theorem idsObj_box (cs : List D) : idsObj (some (.box cs)) = idsL 8 cs := (rfl)
@[go_sem] theorem idsObj_arr (sz ep : Nat) (pin : Bool) (es : List D) : idsObj (some (.arr sz pin ep es)) = idsL 8 es := (rfl)
@[go_sem] theorem idsOf_nil : idsOf H [] = [] := (rfl)
@[go_sem] theorem idsOf_cons (i : Nat) (r : List Nat) : idsOf H (i :: r) = idsObj H[i]? ++ idsOf H r := by
  simp only [idsOf, List.flatMap_cons]
  congr 1
  cases H[i]? with
  | none => rfl
  | some o => cases o <;> rfl
@[go_sem] theorem reach_0 (sel : List Nat) : reach H 0 sel = sel := (rfl)
@[go_sem] theorem reach_s (n : Nat) (sel : List Nat) : reach H (n + 1) sel = reach H n (addNew sel (idsOf H sel)) := (rfl)
@[go_sem] theorem pick_nil : pick H [] = some [] := (rfl)
def pickC (r : List Nat) (o : Obj) : Option Heap := consO o (pick H r)
@[go_sem] theorem pickC_eq (r : List Nat) (o : Obj) : pickC H r o = consO o (pick H r) := (rfl)
@[go_sem] theorem pick_cons (i : Nat) (r : List Nat) : pick H (i :: r) = H[i]?.bind (pickC H r) := (rfl)
end
section
variable (f : Nat → Option Nat) (n : Nat)
@[go_sem] theorem ren_t (x : T) : ren f n (.t x) = some (.t x) := by cases n <;> rfl
@[go_sem] theorem ren_nil : ren f n .nil = some .nil := by cases n <;> rfl
@[go_sem] theorem ren_nilp : ren f n .nilp = some .nilp := by cases n <;> rfl
@[go_sem] theorem ren_und : ren f n .und = some .und := by cases n <;> rfl
@[go_sem] theorem ren_ep (cs : List T) : ren f n (.ep cs) = some (.ep cs) := by cases n <;> rfl
def bpTo (off : Nat) (i : Nat) : D := .bp i off
@[go_sem] theorem bpTo_eq (off i : Nat) : bpTo off i = .bp i off := (rfl)
@[go_sem] theorem ren_bp (id off : Nat) : ren f n (.bp id off) = (f id).map (bpTo off) := by cases n <;> rfl
def apTo (ep m i off : Nat) (j : Nat) : D := .ap j ep m i off
@[go_sem] theorem apTo_eq (ep m i off j : Nat) : apTo ep m i off j = .ap j ep m i off := (rfl)
@[go_sem] theorem ren_ap (id ep m i off : Nat) : ren f n (.ap id ep m i off) = (f id).map (apTo ep m i off) := by cases n <;> rfl
def refTo (ep m : Nat) (j : Nat) : D := .ref j ep m
@[go_sem] theorem refTo_eq (ep m j : Nat) : refTo ep m j = .ref j ep m := (rfl)
@[go_sem] theorem ren_ref (id ep m : Nat) : ren f n (.ref id ep m) = (f id).map (refTo ep m) := by cases n <;> rfl
def subTo (ep m lo hi : Nat) (j : Nat) : D := .sub j ep m lo hi
@[go_sem] theorem subTo_eq (ep m lo hi j : Nat) : subTo ep m lo hi j = .sub j ep m lo hi := (rfl)
@[go_sem] theorem ren_sub (id ep m lo hi : Nat) : ren f n (.sub id ep m lo hi) = (f id).map (subTo ep m lo hi) := by cases n <;> rfl
@[go_sem] theorem ren_fn (g : Nat) (cs : List D) : ren f (n + 1) (.fn g cs) = (mapO (ren f n) cs).map (.fn g) := (rfl)
@[go_sem] theorem ren_agg (cs : List D) : ren f (n + 1) (.agg cs) = (mapO (ren f n) cs).map .agg := (rfl)
@[go_sem] theorem ren_tup (cs : List D) : ren f (n + 1) (.tup cs) = (mapO (ren f n) cs).map .tup := (rfl)
@[go_sem] theorem mapO_ren_t (ts : List T) : mapO (ren f n) (ts.map .t) = some (ts.map .t) := by
  induction ts with
  | nil => rfl
  | cons t ts ih => rw [List.map_cons, mapO_cons, ren_t, Option.bind_some, mapC_eq, ih]; rfl
@[go_sem] theorem mapO_ren_rep (m : Nat) (x : T) : mapO (ren f n) (List.replicate m (.t x)) = some (List.replicate m (.t x)) := by
  have : List.replicate m (D.t x) = (List.replicate m x).map .t := by simp
  rw [this, mapO_ren_t]
@[go_sem] theorem renObj_box (cs : List D) : renObj f (.box cs) = (mapO (ren f 8) cs).map .box := (rfl)
@[go_sem] theorem renObj_arr (sz ep : Nat) (pin : Bool) (es : List D) : renObj f (.arr sz pin ep es) = (mapO (ren f 8) es).map (.arr sz pin ep) := (rfl)
end
def idxB (x : Option Nat) : Bool → Option Nat
  | true => some 0
  | false => x.map (· + 1)
@[go_sem] theorem idxB_t (x : Option Nat) : idxB x true = some 0 := (rfl)
@[go_sem] theorem idxB_f (k : Nat) : idxB (some k) false = some (k + 1) := (rfl)
@[go_sem] theorem idxB_n : idxB none false = none := (rfl)
@[go_sem] theorem idxOf_nil (i : Nat) : idxOf [] i = none := (rfl)
@[go_sem] theorem idxOf_cons (j i : Nat) (r : List Nat) : idxOf (j :: r) i = idxB (idxOf r i) (eqB j i) := by
  simp only [idxOf, eqB_iff]
  by_cases h : j = i
  · simp [h, idxB]
  · simp [h, idxB]
@[go_sem] theorem backTo_nil (n i : Nat) : backTo [] n i = some (n + i) := by simp [backTo]
@[go_sem] theorem backTo_0 (j n : Nat) (r : List Nat) : backTo (j :: r) n 0 = some j := by simp [backTo]
@[go_sem] theorem backTo_s (j n i : Nat) (r : List Nat) : backTo (j :: r) n (i + 1) = backTo r n i := by
  simp only [backTo, List.length_cons, Nat.add_lt_add_iff_right, List.getElem?_cons_succ, Nat.add_sub_add_right]
@[go_sem] theorem putBack_nil {α : Type} (H os : List α) : putBack H [] os = H := by cases os <;> rfl
@[go_sem] theorem putBack_cons {α : Type} (H : List α) (i : Nat) (r : List Nat) (o : α) (os : List α) : putBack H (i :: r) (o :: os) = putBack (H.set i o) r os := (rfl)
def lbP (sz : Nat) (p : List D × Heap) : List D × Heap := (p.1, .arr sz false 0 [] :: p.2)
@[go_sem] theorem lbP_eq (sz : Nat) (cs : List D) (os : Heap) : lbP sz (cs, os) = (cs, .arr sz false 0 [] :: os) := (rfl)
def lbC (base : Nat) (cs : List D) (off sz : Nat) (r : List (Nat × Nat)) : Option D → List D × Heap
  | some .nil => lbP sz (liveBox (base + 1) (cs.set off (.ref base 0 0)) r)
  | _ => liveBox base cs r
@[go_sem] theorem lbC_nil (base : Nat) (cs : List D) (off sz : Nat) (r : List (Nat × Nat)) : lbC base cs off sz r (some .nil) = lbP sz (liveBox (base + 1) (cs.set off (.ref base 0 0)) r) := (rfl)
@[go_sem] theorem lbC_t (base : Nat) (cs : List D) (off sz : Nat) (r : List (Nat × Nat)) (x : T) : lbC base cs off sz r (some (.t x)) = liveBox base cs r := (rfl)
@[go_sem] theorem lbC_ref (base : Nat) (cs : List D) (off sz : Nat) (r : List (Nat × Nat)) (a b c : Nat) : lbC base cs off sz r (some (.ref a b c)) = liveBox base cs r := (rfl)
@[go_sem] theorem liveBox_cons (base : Nat) (cs : List D) (off sz : Nat) (r : List (Nat × Nat)) : liveBox base cs ((off, sz) :: r) = lbC base cs off sz r cs[off]? := by
  simp only [liveBox, lbC]
  split <;> split <;> simp_all [lbP]
def lvP (H : Heap) (id : Nat) (p : List D × Heap) : Option (D × Heap) := some (.tup [], H.set id (.box p.1) ++ p.2)
@[go_sem] theorem lvP_eq (H : Heap) (id : Nat) (cs : List D) (os : Heap) : lvP H id (cs, os) = some (.tup [], H.set id (.box cs) ++ os) := (rfl)
def lvB (H : Heap) (id : Nat) (l : List (Nat × Nat)) : Option Obj → Option (D × Heap)
  | some (.box cs) => lvP H id (liveBox H.length cs l)
  | _ => none
@[go_sem] theorem lvB_eq (H : Heap) (id : Nat) (l : List (Nat × Nat)) (cs : List D) : lvB H id l (some (.box cs)) = lvP H id (liveBox H.length cs l) := (rfl)
@[go_sem] theorem liveAt_cons (H : Heap) (id : Nat) (x : Nat × Nat) (r : List (Nat × Nat)) : liveAt H id (x :: r) = lvB H id (x :: r) H[id]? := by
  simp only [liveAt, makeLive]
  generalize H[id]? = o
  rcases o with _ | (cs | _)
  · rfl
  · rfl
  · rfl
section
variable (H : Heap)
def klE (n : Nat) (sel new : List Nat) (os : Heap) (q : List Nat × Heap) : Option (List Nat × Heap) := some (new ++ q.1, os ++ q.2)
@[go_sem] theorem klE_eq (n : Nat) (sel new : List Nat) (os : Heap) (a : List Nat) (b : Heap) : klE n sel new os (a, b) = some (new ++ a, os ++ b) := (rfl)
def klD (n : Nat) (sel new : List Nat) (os : Heap) : Option (List Nat × Heap) := (keepLv H n (sel ++ new) (idsOf H new)).bind (klE n sel new os)
@[go_sem] theorem klD_eq (n : Nat) (sel new : List Nat) (os : Heap) : klD H n sel new os = (keepLv H n (sel ++ new) (idsOf H new)).bind (klE n sel new os) := (rfl)
def noneIn (sel : List Nat) : List Nat → Bool
  | [] => true
  | i :: r => !memB i sel && noneIn sel r
@[go_sem] theorem noneIn_nil (sel : List Nat) : noneIn sel [] = true := (rfl)
@[go_sem] theorem noneIn_cons (sel : List Nat) (i : Nat) (r : List Nat) : noneIn sel (i :: r) = (!memB i sel && noneIn sel r) := (rfl)
theorem noneIn_eq (sel l : List Nat) : l.all (fun i => !sel.contains i) = noneIn sel l := by
  induction l with
  | nil => rfl
  | cons i r ih => rw [List.all_cons, ih, memB_eq]; rfl
def klC (n : Nat) (sel new : List Nat) (os : Heap) : Option (List Nat × Heap) :=
  (if n = 0 then (if (os.flatMap fun o => o.ds.flatMap (arrs H depth)).all (fun i => !(sel ++ new).contains i) then mapO (freezeArr H) os else none) else some os).bind (klD H n sel new)
def arrsOs : Heap → List Nat
  | [] => []
  | .box cs :: r => arrsL H 8 cs ++ arrsOs r
  | .arr _ _ _ es :: r => arrsL H 8 es ++ arrsOs r
@[go_sem] theorem arrsOs_nil : arrsOs H [] = [] := (rfl)
@[go_sem] theorem arrsOs_box (cs : List D) (r : Heap) : arrsOs H (.box cs :: r) = arrsL H 8 cs ++ arrsOs H r := (rfl)
@[go_sem] theorem arrsOs_arr (sz ep : Nat) (pin : Bool) (es : List D) (r : Heap) : arrsOs H (.arr sz pin ep es :: r) = arrsL H 8 es ++ arrsOs H r := (rfl)
theorem arrsOs_eq (os : Heap) : (os.flatMap fun o => o.ds.flatMap (arrs H depth)) = arrsOs H os := by
  induction os with
  | nil => rfl
  | cons o r ih => rw [List.flatMap_cons, ih]; cases o <;> rfl
@[go_sem] theorem klC_0 (sel new : List Nat) (os : Heap) : klC H 0 sel new os = (if noneIn (sel ++ new) (arrsOs H os) = true then mapO (freezeArr H) os else none).bind (klD H 0 sel new) := by
  simp only [klC, arrsOs_eq, noneIn_eq, if_true]
@[go_sem] theorem klC_s (n : Nat) (sel new : List Nat) (os : Heap) : klC H (n + 1) sel new os = klD H (n + 1) sel new os := by
  simp [klC]
def klN (n : Nat) (sel new : List Nat) : Option (List Nat × Heap) := (pick H new).bind (klC H n sel new)
@[go_sem] theorem klN_eq (n : Nat) (sel new : List Nat) : klN H n sel new = (pick H new).bind (klC H n sel new) := (rfl)
@[go_sem] theorem keepLv_0 (sel front : List Nat) : keepLv H 0 sel front = some ([], []) := (rfl)
@[go_sem] theorem keepLv_s (n : Nat) (sel front : List Nat) : keepLv H (n + 1) sel front = klN H n sel ((addNew sel front).drop sel.length) := by
  simp only [keepLv, klN]
  generalize (addNew sel front).drop sel.length = new
  cases pick H new with
  | none => rfl
  | some os =>
    simp only [Option.bind_some, klC]
    congr 1
    funext os'
    simp only [klD]
    cases keepLv H n (sel ++ new) (idsOf H new) <;> rfl
@[go_sem] theorem freezeArr_box (cs : List D) : freezeArr H (.box cs) = (mapO (argD H) cs).map .box := (rfl)
@[go_sem] theorem freezeArr_arr (sz ep : Nat) (pin : Bool) (ts : List T) : freezeArr H (.arr sz pin ep (ts.map .t)) = some (.arr sz pin ep (ts.map .t)) := by
  simp only [freezeArr, mapO_frz, Option.map_some]
@[go_sem] theorem freezeArr_nil (sz ep : Nat) (pin : Bool) : freezeArr H (.arr sz pin ep []) = some (.arr sz pin ep []) := (rfl)
@[go_sem] theorem freezeArr_rep (sz ep : Nat) (pin : Bool) (m : Nat) (x : T) : freezeArr H (.arr sz pin ep (List.replicate m (.t x))) = some (.arr sz pin ep (List.replicate m (.t x))) := by
  have : List.replicate m (D.t x) = (List.replicate m x).map .t := by simp
  rw [this, freezeArr_arr]
def finR (k raw : Nat) (H : Heap) (ds rs : List D) (q : List Nat × Heap) : Option (D × Heap) :=
  if noneIn (List.range k ++ q.1) (resArrs H raw ds) = true then
    (mapO (ren (idxOf (List.range k ++ q.1)) depth) rs).bind fun rs' => (mapO (renObj (idxOf (List.range k ++ q.1))) (H.take k ++ q.2)).map fun hs' => (tupOf rs', hs')
  else none
def finT1 (sel : List Nat) (H2 : Heap) (rs' : List D) : Option (D × Heap) := (mapO (renObj (idxOf sel)) H2).bind (finT3 rs')
where finT3 (rs' : List D) (hs : Heap) : Option (D × Heap) := some (tupOf rs', hs)
@[go_sem] theorem finT3_eq (rs' : List D) (hs : Heap) : finT1.finT3 rs' hs = some (tupOf rs', hs) := (rfl)
@[go_sem] theorem finT1_eq (sel : List Nat) (H2 : Heap) (rs' : List D) : finT1 sel H2 rs' = (mapO (renObj (idxOf sel)) H2).bind (finT1.finT3 rs') := (rfl)
@[go_sem] theorem finR_eq (k raw : Nat) (ds rs : List D) (sel : List Nat) (os : Heap) : finR k raw H ds rs (sel, os) =
    if noneIn (List.range k ++ sel) (resArrs H raw ds) = true then (mapO (ren (idxOf (List.range k ++ sel)) 8) rs).bind (finT1 (List.range k ++ sel) (H.take k ++ os)) else none := by
  simp only [finR, depth]
  split
  · cases mapO (ren (idxOf (List.range k ++ sel)) 8) rs with
    | none => rfl
    | some rs' => simp only [Option.bind_some, finT1]; cases mapO (renObj (idxOf (List.range k ++ sel))) (H.take k ++ os) <;> rfl
  · rfl
@[go_sem] theorem finG_eq (k raw : Nat) (ds rs : List D) : finG k raw H ds rs = (keepLv H (max raw 1) (List.range k) (idsL 8 rs ++ idsOf H (List.range k))).bind (finR k raw H ds rs) := by
  simp only [finG, noneIn_eq, idsL, depth]; rfl
@[go_sem] theorem finB_false (k raw : Nat) (ds rs : List D) : finB k raw H ds rs false = finG k raw H ds rs := (rfl)
@[go_sem] theorem finish_raw (k raw : Nat) (ds : List D) : finish k (raw + 1) H ds = finA k (raw + 1) H ds ds := by
  simp only [finish, Nat.add_one_ne_zero, if_false, Option.bind_some, heapOld_eq, allGe_eq, finA, finB]
  show (if (allOld k 8 ds && heapOld k (H.take k)) = true then _ else _) = _
  cases (allOld k 8 ds && heapOld k (H.take k)) <;> rfl
@[go_sem] theorem resArrs_raw (raw : Nat) (ds : List D) : resArrs H (raw + 1) ds = [] := by simp [resArrs]
@[go_sem] theorem max_raw0 : max 0 1 = 1 := (rfl)
@[go_sem] theorem max_raw (r : Nat) : max (r + 1) 1 = r + 1 := by omega
@[go_sem] theorem range_lit0 : List.range 0 = [] := (rfl)
@[go_sem] theorem range_lit1 : List.range 1 = [0] := (rfl)
@[go_sem] theorem range_lit2 : List.range 2 = [0, 1] := (rfl)
@[go_sem] theorem range_lit3 : List.range 3 = [0, 1, 2] := (rfl)
@[go_sem] theorem range_lit4 : List.range 4 = [0, 1, 2, 3] := (rfl)
end
theorem set_map2 {α : Type} (f : α → T) (l : List α) (i : Nat) (x : α) (y : D) (h : y = .t (f x)) : ((l.map f).map D.t).set i y = ((l.set i x).map f).map D.t := by
  rw [h, List.map_map, List.map_map]
  exact (List.map_set (f := D.t ∘ f)).symm
@[go_sem] theorem set_int (l : List Int) (i : Nat) (k : IntKind) (x : Int) : ((l.map (T.int k)).map D.t).set i (.t (.int k x)) = ((l.set i x).map (T.int k)).map D.t := set_map2 _ l i x _ rfl
@[go_sem] theorem set_bool (l : List Bool) (i : Nat) (x : Bool) : ((l.map T.bool).map D.t).set i (.t (.bool x)) = ((l.set i x).map T.bool).map D.t := set_map2 _ l i x _ rfl
end Go.Ev

namespace Go.Ev
class Lib where
  fs : Nat → Option Fn
end Go.Ev

namespace Go.Ev.N
def law40_FireRulesStay : Nat := 0
def made_Light : Nat := 1
def law40_awake : Nat := 2
def made_Roll : Nat := 3
def made_Dice_Mine : Nat := 4
def law40_some : Nat := 5
def made_Dice_Spread : Nat := 6
def made_Dice_Flows : Nat := 7
def made_Dice_Belief : Nat := 8
def made_Dice_Next : Nat := 9
def made_Dice_Of : Nat := 10
def firerules_Command : Nat := 11
def ref23_Has : Nat := 12
def ref26_Possible : Nat := 13
def firerules_Drawn : Nat := 14
def made_Dice_One : Nat := 15
def made_Dice_Some : Nat := 16
def ref28_Start : Nat := 17
def ref28_Change : Nat := 18
def ref26_Start : Nat := 19
def ref26_Exchange : Nat := 20
def ref26_See : Nat := 21
def ref26_Absent : Nat := 22
def made_Mod : Nat := 23
def smoke_Filled : Nat := 24
def firerules_meets : Nat := 25
def firerules_near : Nat := 26
def ref25_Possible : Nat := 27
def ref01_Check : Nat := 28
def ref28_Flows : Nat := 29
def ref23_Set : Nat := 30
def ref28_Close : Nat := 31
def ref28_Copy : Nat := 32
def ref28_Valid : Nat := 33
def ref28_Travel : Nat := 34
def ref26_proper : Nat := 35
def ref25_Start : Nat := 36
def ref26_Copy : Nat := 37
def ref26_Valid : Nat := 38
def ref26_CopyWorld : Nat := 39
def ref26_meet : Nat := 40
def ref25_Raise : Nat := 41
def ref26_Tidy : Nat := 42
def ref26_borne : Nat := 43
def ref26_bearer : Nat := 44
def ref25_See : Nat := 45
def ref25_Absent : Nat := 46
def lists_Where : Nat := 47
def smoke_Filled_1 : Nat := 48
def slices_ContainsFunc_int_int : Nat := 49
def firerules_meets_1 : Nat := 50
def slices_Contains_int_int : Nat := 51
def firerules_near_1 : Nat := 52
def swaps_Possible : Nat := 53
def ref01_Span : Nat := 54
def ref28_Span : Nat := 55
def ref25_inTime : Nat := 56
def ref25_never : Nat := 57
def ref25_Close : Nat := 58
def ref26_Less : Nat := 59
def ref25_Valid : Nat := 60
def ref25_Copy : Nat := 61
def ref23_SameInts : Nat := 62
def ref25_Join : Nat := 63
def ref25_asked : Nat := 64
def ref25_close : Nat := 65
def slices_IndexFunc_int_int : Nat := 66
def slices_Index_int_int : Nat := 67
def swaps_Possible_1 : Nat := 68
def slices_ContainsFunc_api_World_api_World : Nat := 69
def swaps_Possible_1_1 : Nat := 70
def lists_In : Nat := 71
def ref25_Plain : Nat := 72
def ref25_lower : Nat := 73
def ref03_Time : Nat := 74
def slices_IndexFunc_api_World_api_World : Nat := 75
def ref03_walked : Nat := 76
def ref03_ends : Nat := 77
end Go.Ev.N

namespace Go.Ev.K
open Go.Ev
def made_Light : Fn := { nargs := 1, vars := [0, 2], body := (.seq (.reg [{ o := .mv (.b false), d := some 1 }] []) (.seq (.reg [{ o := .mv (.v 0) }, { o := .ln (.l 0) }, { o := .bin .leq (.l 0) (.i 400) }, { o := .mv (.l 0), d := some 1 }] []) .ret)), res := [(1, none)] }
def made_Roll : Fn := { nargs := 1, vars := [0, 2], body := (.seq (.reg [{ o := .mv (.c (.nilp)), d := some 1 }] []) (.seq (.reg [{ o := .mv (.v 0) }, { o := .bd [.nil, .t (.int .i64 (0))] [(0, 1, .l 0)] }, { o := .bx (.l 0) 2 }, { o := .mv (.l 0), d := some 1 }] []) .ret)), res := [(1, none)] }
def made_Dice_Mine_l1b : C := (.seq (.ite [{ o := .mv (.v 4) }, { o := .mv (.v 3) }, { o := .bin .lss (.l 1) (.l 0) }] [] 0 .skip (.exit 0)) (.seq (.blk 1 (.reg [{ o := .fa (.v 2) 0 }, { o := .ld (.l 0) 1 false }, { o := .mv (.v 0) }, { o := .ca N.made_Dice_Next 0 [] [.l 0, .i 4] }, { o := .bin .mul (.i (-10)) (.l 0) }, { o := .mv (.v 4) }, { o := .bin .eql (.l 0) (.i 0) }, { o := .mv (.l 0) }, { o := .mv (.v 0), g := some (0, false) }, { o := .ca N.made_Dice_One 0 [] [.l 0, .i 6], g := some (1, false) }, { o := .pk (.l 2) (.b true) (.l 0) }, { o := .bd [.t (.int .i64 (0)), .t (.bool false)] [(0, 1, .l 6), (1, 1, .l 0)] }, { o := .bs [.l 0] 2 }, { o := .app (.l 11) (.l 0) true 2 }, { o := .fa (.v 2) 0 }, { o := .st (.l 0) (.l 1) 1 [] }] [(1, 4), (1, 10), (1, 13)])) (.reg [{ o := .mv (.v 4) }, { o := .bin .add (.l 0) (.i 1) }, { o := .mv (.l 0), d := some 4 }] [])))
def made_Dice_Mine_l1 : C := .loop true [5, 6, 7, 8, 9] K.made_Dice_Mine_l1b
def made_Dice_Mine_l2b : C := (.seq (.ite [{ o := .mv (.v 6) }, { o := .mv (.v 3) }, { o := .bin .lss (.l 1) (.l 0) }] [] 0 .skip (.exit 2)) (.seq (.blk 3 (.seq (.reg [{ o := .ld (.v 5) 10 true }, { o := .al [.t (.int .i64 (0)), .t (.int .i64 (0)), .t (.int .i64 (0)), .t (.int .i64 (0)), .t (.bool false), .t (.bool false), .t (.int .i64 (0)), .t (.int .i64 (0)), .t (.int .i64 (0)), .t (.int .i64 (0))] [], d := some 7 }, { o := .st (.l 0) (.l 1) 10 [] }] []) (.seq (.reg [{ o := .mv (.v 6) }, { o := .bin .sub (.l 0) (.i 1) }, { o := .mv (.v 0) }, { o := .mv (.v 6) }, { o := .mn [.l 0, .i 2] }, { o := .ca N.made_Dice_Next 0 [] [.l 2, .l 0] }, { o := .bin .sub (.l 4) (.l 0) }, { o := .mv (.v 6) }, { o := .mv (.v 0) }, { o := .bs [.i 11, .i 59, .i 119, .i 4] 1 }, { o := .ca N.made_Dice_Of 0 [] [.l 1, .l 0] }, { o := .bin .add (.i 1) (.l 0) }, { o := .mv (.v 0) }, { o := .bs [.i 9, .i 3, .i 19] 1 }, { o := .ca N.made_Dice_Of 0 [] [.l 1, .l 0] }, { o := .bin .add (.i 1) (.l 0) }, { o := .fa (.v 7) 0 }, { o := .st (.l 0) (.l 10) 1 [] }, { o := .fa (.v 7) 1 }, { o := .st (.l 0) (.l 11) 1 [] }, { o := .fa (.v 7) 2 }, { o := .st (.l 0) (.l 9) 1 [] }, { o := .fa (.v 7) 3 }, { o := .st (.l 0) (.l 7) 1 [] }] []) (.reg [{ o := .fa (.v 2) 1 }, { o := .ld (.l 0) 1 false }, { o := .ld (.v 7) 10 true }, { o := .bs [.l 0] 10 }, { o := .app (.l 2) (.l 0) true 10 }, { o := .fa (.v 2) 1 }, { o := .st (.l 0) (.l 1) 1 [] }] [])))) (.reg [{ o := .mv (.v 6) }, { o := .bin .add (.l 0) (.i 1) }, { o := .mv (.l 0), d := some 6 }] [])))
def made_Dice_Mine_l2 : C := .loop true [4, 7, 8, 9] K.made_Dice_Mine_l2b
def made_Dice_Mine_l3b : C := (.seq (.ite [{ o := .mv (.v 8) }, { o := .bin .gtr (.l 0) (.i 0) }, { o := .mv (.l 0) }, { o := .fa (.v 2) 1, g := some (0, true) }, { o := .ld (.l 0) 1 false, g := some (1, true) }, { o := .ln (.l 0), g := some (2, true) }, { o := .bin .lss (.l 0) (.i 10), g := some (3, true) }, { o := .pk (.l 4) (.l 0) (.b false) }] [] 0 .skip (.exit 4)) (.seq (.blk 5 (.seq (.reg [{ o := .ld (.v 5) 10 true }, { o := .al [.t (.int .i64 (0)), .t (.int .i64 (0)), .t (.int .i64 (0)), .t (.int .i64 (0)), .t (.bool false), .t (.bool false), .t (.int .i64 (0)), .t (.int .i64 (0)), .t (.int .i64 (0)), .t (.int .i64 (0))] [], d := some 9 }, { o := .st (.l 0) (.l 1) 10 [] }] []) (.seq (.reg [{ o := .mv (.v 0) }, { o := .mv (.v 3) }, { o := .ca N.made_Dice_Next 0 [] [.l 1, .l 0] }, { o := .mv (.v 0) }, { o := .mv (.v 3) }, { o := .ca N.made_Dice_Next 0 [] [.l 1, .l 0] }, { o := .mv (.v 0) }, { o := .bs [.i 11, .i 59, .i 199] 1 }, { o := .ca N.made_Dice_Of 0 [] [.l 1, .l 0] }, { o := .bin .add (.i 1) (.l 0) }, { o := .mv (.v 0) }, { o := .bs [.i 9, .i 3] 1 }, { o := .ca N.made_Dice_Of 0 [] [.l 1, .l 0] }, { o := .bin .add (.i 1) (.l 0) }, { o := .fa (.v 9) 0 }, { o := .st (.l 0) (.l 12) 1 [] }, { o := .fa (.v 9) 1 }, { o := .st (.l 0) (.l 11) 1 [] }, { o := .fa (.v 9) 2 }, { o := .st (.l 0) (.l 9) 1 [] }, { o := .fa (.v 9) 3 }, { o := .st (.l 0) (.l 7) 1 [] }] []) (.seq (.reg [{ o := .mv (.v 0) }, { o := .ca N.made_Dice_Next 0 [] [.l 0, .i 5] }, { o := .bin .gtr (.l 0) (.i 0) }, { o := .mv (.v 0) }, { o := .ca N.made_Dice_One 0 [] [.l 0, .i 6] }, { o := .fa (.v 9) 4 }, { o := .st (.l 0) (.l 3) 1 [] }, { o := .fa (.v 9) 5 }, { o := .st (.l 0) (.l 3) 1 [] }] []) (.ite [{ o := .fa (.v 9) 0 }, { o := .ld (.l 0) 1 false }, { o := .fa (.v 9) 1 }, { o := .ld (.l 0) 1 false }, { o := .bin .neq (.l 2) (.l 0) }] [] 0 (.reg [{ o := .fa (.v 2) 1 }, { o := .ld (.l 0) 1 false }, { o := .ld (.v 9) 10 true }, { o := .bs [.l 0] 10 }, { o := .app (.l 2) (.l 0) true 10 }, { o := .fa (.v 2) 1 }, { o := .st (.l 0) (.l 1) 1 [] }] []) .skip))))) (.reg [{ o := .mv (.v 8) }, { o := .bin .sub (.l 0) (.i 1) }, { o := .mv (.l 0), d := some 8 }] [])))
def made_Dice_Mine_l3 : C := .loop true [4, 6, 7, 9] K.made_Dice_Mine_l3b
def made_Dice_Mine : Fn := { nargs := 1, vars := [0, 2, 3, 4, 5, 6, 7, 8, 9, 10], body := (.seq (.reg [{ o := .al [.nil, .nil] [], d := some 1 }] []) (.seq (.reg [{ o := .al [.nil, .nil] [(0, 2), (1, 10)], d := some 2 }] []) (.seq (.reg [{ o := .mv (.v 0) }, { o := .ca N.made_Dice_Next 0 [] [.l 0, .i 6] }, { o := .bin .add (.i 2) (.l 0) }, { o := .mv (.l 0), d := some 3 }] []) (.seq (.ite [{ o := .mv (.v 0) }, { o := .nc (.l 0) }, { o := .fa (.l 0) 0 }, { o := .ld (.l 0) 1 false }, { o := .ln (.l 0) }, { o := .bin .eql (.l 0) (.i 0) }] [] 0 (.reg [{ o := .mv (.i 4), d := some 3 }] []) .skip) (.seq (.seq (.reg [{ o := .mv (.i 0), d := some 4 }] []) (.blk 0 K.made_Dice_Mine_l1)) (.seq (.reg [{ o := .bd [.t (.int .i64 (0)), .t (.int .i64 (0))] [(0, 1, .i 1), (1, 1, .i 1)] }, { o := .bd [.t (.int .i64 (0)), .t (.int .i64 (0)), .t (.int .i64 (0)), .t (.int .i64 (0)), .t (.bool false), .t (.bool false), .t (.int .i64 (0)), .t (.int .i64 (0)), .t (.int .i64 (0)), .t (.int .i64 (0))] [(2, 1, .i 12), (3, 1, .i 10), (4, 1, .b true), (6, 2, .l 0)] }, { o := .al [.t (.int .i64 (0)), .t (.int .i64 (0)), .t (.int .i64 (0)), .t (.int .i64 (0)), .t (.bool false), .t (.bool false), .t (.int .i64 (0)), .t (.int .i64 (0)), .t (.int .i64 (0)), .t (.int .i64 (0))] [], d := some 5 }, { o := .st (.l 0) (.l 1) 10 [] }] []) (.seq (.seq (.reg [{ o := .mv (.i 1), d := some 6 }] []) (.blk 2 K.made_Dice_Mine_l2)) (.seq (.seq (.reg [{ o := .mv (.v 0) }, { o := .ca N.made_Dice_Next 0 [] [.l 0, .i 4] }, { o := .mv (.l 0), d := some 8 }] []) (.blk 4 K.made_Dice_Mine_l3)) (.seq (.reg [{ o := .ld (.v 2) 2 true }, { o := .st (.v 1) (.l 0) 2 [] }] []) .ret))))))))), res := [(1, some (2, true))] }
def made_Dice_Next : Fn := { nargs := 2, vars := [0, 1, 4], body := (.seq (.reg [{ o := .mv (.i 0), d := some 2 }] []) (.seq (.ite [{ o := .mv (.v 0) }, { o := .nc (.l 0) }, { o := .fa (.l 0) 1 }, { o := .ld (.l 0) 1 false }, { o := .mv (.v 0) }, { o := .nc (.l 0) }, { o := .fa (.l 0) 0 }, { o := .ld (.l 0) 1 false }, { o := .ln (.l 0) }, { o := .bin .geq (.l 5) (.l 0) }] [] 0 (.seq (.reg [{ o := .mv (.i 0), d := some 2 }] []) .ret) .skip) (.seq (.reg [{ o := .mv (.v 0) }, { o := .nc (.l 0) }, { o := .fa (.l 0) 1 }, { o := .ld (.l 0) 1 false }, { o := .bin .add (.l 0) (.i 1) }, { o := .nc (.l 4) }, { o := .fa (.l 0) 1 }, { o := .st (.l 0) (.l 2) 1 [] }] []) (.seq (.reg [{ o := .mv (.v 0) }, { o := .nc (.l 0) }, { o := .fa (.l 0) 0 }, { o := .ld (.l 0) 1 false }, { o := .mv (.v 0) }, { o := .nc (.l 0) }, { o := .fa (.l 0) 1 }, { o := .ld (.l 0) 1 false }, { o := .bin .sub (.l 0) (.i 1) }, { o := .ia (.l 5) (.l 0) 1 }, { o := .ld (.l 0) 1 false }, { o := .mv (.v 1) }, { o := .ca N.made_Mod 0 [] [.l 1, .l 0] }, { o := .mv (.l 0), d := some 2 }] []) .ret)))), res := [(2, none)] }
def made_Dice_Of : Fn := { nargs := 2, vars := [0, 1, 4], body := (.seq (.reg [{ o := .mv (.i 0), d := some 2 }] []) (.seq (.reg [{ o := .mv (.v 1) }, { o := .mv (.v 0) }, { o := .mv (.v 1) }, { o := .ln (.l 0) }, { o := .ca N.made_Dice_Next 0 [] [.l 2, .l 0] }, { o := .ia (.l 4) (.l 0) 1 }, { o := .ld (.l 0) 1 false }, { o := .mv (.l 0), d := some 2 }] []) .ret)), res := [(2, none)] }
def ref23_Has_l1b : C := (.seq (.ite [{ o := .mv (.v 3) }, { o := .mv (.v 0) }, { o := .ln (.l 0) }, { o := .bin .lss (.l 2) (.l 0) }] [] 0 .skip (.exit 0)) (.seq (.blk 1 (.ite [{ o := .mv (.v 0) }, { o := .mv (.v 3) }, { o := .ia (.l 1) (.l 0) 1 }, { o := .ld (.l 0) 1 false }, { o := .mv (.v 1) }, { o := .bin .eql (.l 1) (.l 0) }] [] 0 (.seq (.reg [{ o := .mv (.b true), d := some 2 }] []) .ret) .skip)) (.reg [{ o := .mv (.v 3) }, { o := .bin .add (.l 0) (.i 1) }, { o := .mv (.l 0), d := some 3 }] [])))
def ref23_Has_l1 : C := .loop true [2] K.ref23_Has_l1b
def ref23_Has : Fn := { nargs := 2, vars := [0, 1, 4, 5], body := (.seq (.reg [{ o := .mv (.b false), d := some 2 }] []) (.seq (.seq (.reg [{ o := .mv (.i 0), d := some 3 }] []) (.blk 0 K.ref23_Has_l1)) (.seq (.reg [{ o := .mv (.b false), d := some 2 }] []) .ret))), res := [(2, none)] }
def made_Dice_One : Fn := { nargs := 2, vars := [0, 1, 4], body := (.seq (.reg [{ o := .mv (.b false), d := some 2 }] []) (.seq (.reg [{ o := .mv (.v 0) }, { o := .mv (.v 1) }, { o := .ca N.made_Dice_Next 0 [] [.l 1, .l 0] }, { o := .mv (.v 1) }, { o := .bin .sub (.l 0) (.i 1) }, { o := .bin .eql (.l 2) (.l 0) }, { o := .mv (.l 0), d := some 2 }] []) .ret)), res := [(2, none)] }
def ref26_Start_l1b : C := (.seq (.ite [{ o := .mv (.v 8) }, { o := .mv (.v 1) }, { o := .ln (.l 0) }, { o := .bin .lss (.l 2) (.l 0) }] [] 0 .skip (.exit 0)) (.seq (.blk 1 (.seq (.reg [{ o := .al [.t (.int .i64 (0)), .nil] [], d := some 9 }, { o := .ld (.v 4) 2 true }, { o := .mv (.v 2) }, { o := .mv (.v 8) }, { o := .ia (.l 1) (.l 0) 1 }, { o := .ld (.l 0) 1 false }, { o := .mv (.v 3) }, { o := .ca N.ref25_Start 0 [] [.l 5, .l 1, .l 0] }, { o := .mv (.l 0) }, { o := .ex (.l 0) 0 }, { o := .ex (.l 1) 1 }, { o := .st (.l 10) (.l 1) 2 [] }, { o := .mv (.l 1), d := some 10 }] [(0, 8)]) (.seq (.ite [{ o := .mv (.v 10) }, { o := .bin .neq (.l 0) (.i 0) }] [] 0 (.seq (.reg [{ o := .bd [.nil] [] }, { o := .mv (.v 10) }, { o := .st (.v 5) (.l 1) 1 [] }, { o := .mv (.l 1), d := some 6 }] []) .ret) .skip) (.reg [{ o := .fa (.v 7) 1 }, { o := .ld (.l 0) 1 false }, { o := .ld (.v 9) 2 true }, { o := .bs [.l 0] 2 }, { o := .app (.l 2) (.l 0) true 2 }, { o := .fa (.v 7) 1 }, { o := .st (.l 0) (.l 1) 1 [] }] [])))) (.reg [{ o := .mv (.v 8) }, { o := .bin .add (.l 0) (.i 1) }, { o := .mv (.l 0), d := some 8 }] [])))
def ref26_Start_l1 : C := .loop true [0, 6, 9, 10] K.ref26_Start_l1b
def ref26_Start : Fn := { nargs := 4, vars := [0, 1, 2, 3, 4, 8, 9, 10, 11, 12, 13], body := (.seq (.reg [{ o := .bx (.v 0) 2, d := some 4 }, { o := .al [.nil] [], d := some 5 }, { o := .mv (.i 0), d := some 6 }] []) (.seq (.ite [{ o := .ld (.v 4) 2 true }, { o := .ca N.ref01_Check 0 [] [.l 0] }, { o := .bin .neq (.l 0) (.i 0) }, { o := .mv (.l 0) }, { o := .mv (.v 1), g := some (0, false) }, { o := .ln (.l 0), g := some (1, false) }, { o := .mv (.v 2), g := some (2, false) }, { o := .ln (.l 0), g := some (3, false) }, { o := .bin .neq (.l 2) (.l 0), g := some (4, false) }, { o := .pk (.l 5) (.b true) (.l 0) }, { o := .mv (.l 0) }, { o := .mv (.v 1), g := some (0, false) }, { o := .ln (.l 0), g := some (1, false) }, { o := .bin .lss (.l 0) (.i 1), g := some (2, false) }, { o := .pk (.l 3) (.b true) (.l 0) }, { o := .mv (.l 0) }, { o := .mv (.v 1), g := some (0, false) }, { o := .ln (.l 0), g := some (1, false) }, { o := .bin .gtr (.l 0) (.i 12), g := some (2, false) }, { o := .pk (.l 3) (.b true) (.l 0) }] [] 0 (.seq (.reg [{ o := .bd [.nil] [] }, { o := .st (.v 5) (.l 0) 1 [] }, { o := .mv (.i 6), d := some 6 }] []) .ret) .skip) (.seq (.ite [{ o := .mv (.v 1) }, { o := .ca N.ref26_proper 0 [] [.l 0] }, { o := .un .not (.l 0) }] [] 0 (.seq (.reg [{ o := .bd [.nil] [] }, { o := .st (.v 5) (.l 0) 1 [] }, { o := .mv (.i 41), d := some 6 }] []) .ret) .skip) (.seq (.reg [{ o := .mv (.v 1) }, { o := .app (.c (.nil)) (.l 0) true 1 }, { o := .bd [.nil, .nil] [(0, 1, .l 0)] }, { o := .al [.nil, .nil] [(1, 2)], d := some 7 }, { o := .st (.l 0) (.l 1) 2 [(1, 2)] }] []) (.seq (.seq (.reg [{ o := .mv (.i 0), d := some 8 }] []) (.blk 0 K.ref26_Start_l1)) (.seq (.reg [{ o := .ld (.v 7) 2 true }, { o := .bs [.l 0] 2 }, { o := .bd [.nil] [(0, 1, .l 0)] }, { o := .st (.v 5) (.l 0) 1 [] }, { o := .mv (.i 0), d := some 6 }] []) .ret)))))), res := [(5, some (1, true)), (6, none)] }
def made_Mod : Fn := { nargs := 2, vars := [0, 1, 4], body := (.seq (.reg [{ o := .mv (.i 0), d := some 2 }] []) (.seq (.ite [{ o := .mv (.v 1) }, { o := .bin .lss (.l 0) (.i 1) }] [] 0 (.seq (.reg [{ o := .mv (.i 0), d := some 2 }] []) .ret) .skip) (.seq (.reg [{ o := .mv (.v 0) }, { o := .mv (.v 1) }, { o := .bin .rem (.l 1) (.l 0) }, { o := .mv (.l 0), d := some 0 }] []) (.seq (.ite [{ o := .mv (.v 0) }, { o := .bin .lss (.l 0) (.i 0) }] [] 0 (.reg [{ o := .mv (.v 0) }, { o := .mv (.v 1) }, { o := .bin .add (.l 1) (.l 0) }, { o := .mv (.l 0), d := some 0 }] []) .skip) (.seq (.reg [{ o := .mv (.v 0) }, { o := .mv (.l 0), d := some 2 }] []) .ret))))), res := [(2, none)] }
def ref01_Check_l1b : C := (.seq (.ite [{ o := .mv (.v 3) }, { o := .fa (.v 1) 0 }, { o := .ld (.l 0) 1 false }, { o := .ln (.l 0) }, { o := .bin .lss (.l 3) (.l 0) }] [] 0 .skip (.exit 0)) (.seq (.blk 1 (.seq (.reg [{ o := .fa (.v 1) 0 }, { o := .ld (.l 0) 1 false }, { o := .mv (.v 3) }, { o := .ia (.l 1) (.l 0) 2 }, { o := .fa (.l 0) 0 }, { o := .ld (.l 0) 1 false }, { o := .mv (.l 0), d := some 4 }] []) (.ite [{ o := .mv (.v 4) }, { o := .bin .lss (.l 0) (.i (-10000)) }, { o := .mv (.l 0) }, { o := .mv (.v 4), g := some (0, false) }, { o := .bin .gtr (.l 0) (.i 10000), g := some (1, false) }, { o := .pk (.l 2) (.b true) (.l 0) }] [] 0 (.seq (.reg [{ o := .mv (.i 1), d := some 2 }] []) .ret) .skip))) (.reg [{ o := .mv (.v 3) }, { o := .bin .add (.l 0) (.i 1) }, { o := .mv (.l 0), d := some 3 }] [])))
def ref01_Check_l1 : C := .loop true [0, 2, 4, 5, 6] K.ref01_Check_l1b
def ref01_Check_l2b : C := (.seq (.ite [{ o := .mv (.v 5) }, { o := .fa (.v 1) 1 }, { o := .ld (.l 0) 1 false }, { o := .ln (.l 0) }, { o := .bin .lss (.l 3) (.l 0) }] [] 0 .skip (.exit 2)) (.seq (.blk 3 (.seq (.reg [{ o := .fa (.v 1) 1 }, { o := .ld (.l 0) 1 false }, { o := .mv (.v 5) }, { o := .ia (.l 1) (.l 0) 10 }, { o := .ld (.l 0) 10 true }, { o := .al [.t (.int .i64 (0)), .t (.int .i64 (0)), .t (.int .i64 (0)), .t (.int .i64 (0)), .t (.bool false), .t (.bool false), .t (.int .i64 (0)), .t (.int .i64 (0)), .t (.int .i64 (0)), .t (.int .i64 (0))] [], d := some 6 }, { o := .st (.l 0) (.l 1) 10 [] }] []) (.seq (.ite [{ o := .fa (.v 6) 0 }, { o := .ld (.l 0) 1 false }, { o := .bin .lss (.l 0) (.i 0) }, { o := .mv (.l 0) }, { o := .fa (.v 6) 0, g := some (0, false) }, { o := .ld (.l 0) 1 false, g := some (1, false) }, { o := .fa (.v 1) 0, g := some (2, false) }, { o := .ld (.l 0) 1 false, g := some (3, false) }, { o := .ln (.l 0), g := some (4, false) }, { o := .bin .geq (.l 3) (.l 0), g := some (5, false) }, { o := .pk (.l 6) (.b true) (.l 0) }, { o := .mv (.l 0) }, { o := .fa (.v 6) 1, g := some (0, false) }, { o := .ld (.l 0) 1 false, g := some (1, false) }, { o := .bin .lss (.l 0) (.i 0), g := some (2, false) }, { o := .pk (.l 3) (.b true) (.l 0) }, { o := .mv (.l 0) }, { o := .fa (.v 6) 1, g := some (0, false) }, { o := .ld (.l 0) 1 false, g := some (1, false) }, { o := .fa (.v 1) 0, g := some (2, false) }, { o := .ld (.l 0) 1 false, g := some (3, false) }, { o := .ln (.l 0), g := some (4, false) }, { o := .bin .geq (.l 3) (.l 0), g := some (5, false) }, { o := .pk (.l 6) (.b true) (.l 0) }, { o := .mv (.l 0) }, { o := .fa (.v 6) 0, g := some (0, false) }, { o := .ld (.l 0) 1 false, g := some (1, false) }, { o := .fa (.v 6) 1, g := some (2, false) }, { o := .ld (.l 0) 1 false, g := some (3, false) }, { o := .bin .eql (.l 2) (.l 0), g := some (4, false) }, { o := .pk (.l 5) (.b true) (.l 0) }] [] 0 (.seq (.reg [{ o := .mv (.i 4), d := some 2 }] []) .ret) .skip) (.ite [{ o := .fa (.v 6) 2 }, { o := .ld (.l 0) 1 false }, { o := .bin .lss (.l 0) (.i 1) }, { o := .mv (.l 0) }, { o := .fa (.v 6) 2, g := some (0, false) }, { o := .ld (.l 0) 1 false, g := some (1, false) }, { o := .bin .gtr (.l 0) (.i 100000), g := some (2, false) }, { o := .pk (.l 3) (.b true) (.l 0) }, { o := .mv (.l 0) }, { o := .fa (.v 6) 3, g := some (0, false) }, { o := .ld (.l 0) 1 false, g := some (1, false) }, { o := .bin .lss (.l 0) (.i 1), g := some (2, false) }, { o := .pk (.l 3) (.b true) (.l 0) }, { o := .mv (.l 0) }, { o := .fa (.v 6) 3, g := some (0, false) }, { o := .ld (.l 0) 1 false, g := some (1, false) }, { o := .bin .gtr (.l 0) (.i 1000), g := some (2, false) }, { o := .pk (.l 3) (.b true) (.l 0) }, { o := .mv (.l 0) }, { o := .fa (.v 6) 6, g := some (0, false) }, { o := .ld (.l 0) 2 true, g := some (1, false) }, { o := .ca N.ref01_Span 0 [] [.l 0, .i 1, .i 262144], g := some (2, false) }, { o := .un .not (.l 0), g := some (3, false) }, { o := .pk (.l 4) (.b true) (.l 0) }, { o := .mv (.l 0) }, { o := .fa (.v 6) 8, g := some (0, false) }, { o := .ld (.l 0) 2 true, g := some (1, false) }, { o := .ca N.ref01_Span 0 [] [.l 0, .i (-2199023255552), .i 2199023255552], g := some (2, false) }, { o := .un .not (.l 0), g := some (3, false) }, { o := .pk (.l 4) (.b true) (.l 0) }] [] 0 (.seq (.reg [{ o := .mv (.i 1), d := some 2 }] []) .ret) .skip)))) (.reg [{ o := .mv (.v 5) }, { o := .bin .add (.l 0) (.i 1) }, { o := .mv (.l 0), d := some 5 }] [])))
def ref01_Check_l2 : C := .loop true [0, 2, 3, 4, 6] K.ref01_Check_l2b
def ref01_Check : Fn := { nargs := 1, vars := [0, 1, 2, 3, 4, 5, 6], body := (.seq (.reg [{ o := .bx (.v 0) 2, d := some 1 }, { o := .mv (.i 0), d := some 2 }] []) (.seq (.ite [{ o := .fa (.v 1) 0 }, { o := .ld (.l 0) 1 false }, { o := .ln (.l 0) }, { o := .bin .gtr (.l 0) (.i 64) }, { o := .mv (.l 0) }, { o := .fa (.v 1) 1, g := some (0, false) }, { o := .ld (.l 0) 1 false, g := some (1, false) }, { o := .ln (.l 0), g := some (2, false) }, { o := .bin .gtr (.l 0) (.i 128), g := some (3, false) }, { o := .pk (.l 4) (.b true) (.l 0) }] [] 0 (.seq (.reg [{ o := .mv (.i 2), d := some 2 }] []) .ret) .skip) (.seq (.seq (.reg [{ o := .mv (.i 0), d := some 3 }] []) (.blk 0 K.ref01_Check_l1)) (.seq (.seq (.reg [{ o := .mv (.i 0), d := some 5 }] []) (.blk 2 K.ref01_Check_l2)) (.seq (.reg [{ o := .mv (.i 0), d := some 2 }] []) .ret))))), res := [(2, none)] }
def ref23_Set_l1b : C := (.seq (.ite [{ o := .mv (.v 3) }, { o := .mv (.v 0) }, { o := .ln (.l 0) }, { o := .bin .lss (.l 2) (.l 0) }] [] 0 .skip (.exit 0)) (.seq (.blk 1 (.ite [{ o := .mv (.v 0) }, { o := .mv (.v 3) }, { o := .ia (.l 1) (.l 0) 1 }, { o := .ld (.l 0) 1 false }, { o := .bin .lss (.l 0) (.i 0) }, { o := .mv (.l 0) }, { o := .mv (.v 0), g := some (0, false) }, { o := .mv (.v 3), g := some (1, false) }, { o := .ia (.l 1) (.l 0) 1, g := some (2, false) }, { o := .ld (.l 0) 1 false, g := some (3, false) }, { o := .mv (.v 1), g := some (4, false) }, { o := .bin .geq (.l 1) (.l 0), g := some (5, false) }, { o := .pk (.l 6) (.b true) (.l 0) }, { o := .mv (.l 0) }, { o := .mv (.v 3), g := some (0, false) }, { o := .bin .gtr (.l 0) (.i 0), g := some (1, false) }, { o := .mv (.l 0), g := some (2, false) }, { o := .mv (.v 0), g := some (0, true) }, { o := .mv (.v 3), g := some (1, true) }, { o := .ia (.l 1) (.l 0) 1, g := some (2, true) }, { o := .ld (.l 0) 1 false, g := some (3, true) }, { o := .mv (.v 0), g := some (4, true) }, { o := .mv (.v 3), g := some (5, true) }, { o := .bin .sub (.l 0) (.i 1), g := some (6, true) }, { o := .ia (.l 2) (.l 0) 1, g := some (7, true) }, { o := .ld (.l 0) 1 false, g := some (8, true) }, { o := .bin .leq (.l 5) (.l 0), g := some (9, true) }, { o := .pk (.l 10) (.l 0) (.b false), g := some (13, false) }, { o := .pk (.l 14) (.b true) (.l 0) }] [] 0 (.seq (.reg [{ o := .mv (.b false), d := some 2 }] []) .ret) .skip)) (.reg [{ o := .mv (.v 3) }, { o := .bin .add (.l 0) (.i 1) }, { o := .mv (.l 0), d := some 3 }] [])))
def ref23_Set_l1 : C := .loop true [2] K.ref23_Set_l1b
def ref23_Set : Fn := { nargs := 2, vars := [0, 1, 4, 5], body := (.seq (.reg [{ o := .mv (.b false), d := some 2 }] []) (.seq (.seq (.reg [{ o := .mv (.i 0), d := some 3 }] []) (.blk 0 K.ref23_Set_l1)) (.seq (.reg [{ o := .mv (.b true), d := some 2 }] []) .ret))), res := [(2, none)] }
def ref26_proper_l1b : C := (.seq (.ite [{ o := .mv (.v 2) }, { o := .mv (.v 0) }, { o := .ln (.l 0) }, { o := .bin .lss (.l 2) (.l 0) }] [] 0 .skip (.exit 0)) (.seq (.blk 1 (.ite [{ o := .mv (.v 0) }, { o := .mv (.v 2) }, { o := .ia (.l 1) (.l 0) 1 }, { o := .ld (.l 0) 1 false }, { o := .bin .lss (.l 0) (.i 1) }, { o := .mv (.l 0) }, { o := .mv (.v 0), g := some (0, false) }, { o := .mv (.v 2), g := some (1, false) }, { o := .ia (.l 1) (.l 0) 1, g := some (2, false) }, { o := .ld (.l 0) 1 false, g := some (3, false) }, { o := .bin .gtr (.l 0) (.i 65535), g := some (4, false) }, { o := .pk (.l 5) (.b true) (.l 0) }, { o := .mv (.l 0) }, { o := .mv (.v 0), g := some (0, false) }, { o := .mv (.v 2), g := some (1, false) }, { o := .sc (.l 1) none (some (.l 0)) 1, g := some (2, false) }, { o := .mv (.v 0), g := some (3, false) }, { o := .mv (.v 2), g := some (4, false) }, { o := .ia (.l 1) (.l 0) 1, g := some (5, false) }, { o := .ld (.l 0) 1 false, g := some (6, false) }, { o := .ca N.ref26_bearer 0 [] [.l 4, .l 0], g := some (7, false) }, { o := .bin .geq (.l 0) (.i 0), g := some (8, false) }, { o := .pk (.l 9) (.b true) (.l 0) }] [] 0 (.seq (.reg [{ o := .mv (.b false), d := some 1 }] []) .ret) .skip)) (.reg [{ o := .mv (.v 2) }, { o := .bin .add (.l 0) (.i 1) }, { o := .mv (.l 0), d := some 2 }] [])))
def ref26_proper_l1 : C := .loop true [1] K.ref26_proper_l1b
def ref26_proper : Fn := { nargs := 1, vars := [0, 2, 3], body := (.seq (.reg [{ o := .mv (.b false), d := some 1 }] []) (.seq (.seq (.reg [{ o := .mv (.i 0), d := some 2 }] []) (.blk 0 K.ref26_proper_l1)) (.seq (.reg [{ o := .mv (.b true), d := some 1 }] []) .ret))), res := [(1, none)] }
def ref25_Start : Fn := { nargs := 3, vars := [0, 1, 2, 3, 6, 7, 8], body := (.seq (.reg [{ o := .bx (.v 0) 2, d := some 3 }, { o := .al [.t (.int .i64 (0)), .nil] [], d := some 4 }, { o := .mv (.i 0), d := some 5 }] []) (.seq (.blk 0 (.ite [{ o := .ld (.v 3) 2 true }, { o := .ca N.ref01_Check 0 [] [.l 0] }, { o := .bin .neq (.l 0) (.i 0) }, { o := .mv (.l 0) }] [] 0 (.seq (.reg [{ o := .bd [.t (.int .i64 (0)), .nil] [] }, { o := .st (.v 4) (.l 0) 2 [] }, { o := .mv (.i 6), d := some 5 }] []) .ret) (.ite [{ o := .mv (.v 1) }, { o := .bin .lss (.l 0) (.i 0) }, { o := .mv (.l 0) }, { o := .mv (.v 1), g := some (0, false) }, { o := .fa (.v 3) 0, g := some (1, false) }, { o := .ld (.l 0) 1 false, g := some (2, false) }, { o := .ln (.l 0), g := some (3, false) }, { o := .bin .geq (.l 3) (.l 0), g := some (4, false) }, { o := .pk (.l 5) (.b true) (.l 0) }, { o := .mv (.l 0) }] [] 0 (.seq (.reg [{ o := .bd [.t (.int .i64 (0)), .nil] [] }, { o := .st (.v 4) (.l 0) 2 [] }, { o := .mv (.i 3), d := some 5 }] []) .ret) (.ite [{ o := .mv (.v 2) }, { o := .ca N.ref25_inTime 0 [] [.l 0] }, { o := .un .not (.l 0) }, { o := .mv (.l 0) }] [] 0 (.seq (.reg [{ o := .bd [.t (.int .i64 (0)), .nil] [] }, { o := .st (.v 4) (.l 0) 2 [] }, { o := .mv (.i 8), d := some 5 }] []) .ret) .skip)))) (.seq (.reg [{ o := .fa (.v 3) 0 }, { o := .ld (.l 0) 1 false }, { o := .ln (.l 0) }, { o := .ca N.ref25_never 1 [] [.l 0] }, { o := .mv (.l 0), d := some 6 }] []) (.seq (.reg [{ o := .mv (.v 6) }, { o := .mv (.v 1) }, { o := .mv (.v 2) }, { o := .ia (.l 2) (.l 1) 1 }, { o := .st (.l 0) (.l 1) 1 [] }] []) (.seq (.reg [{ o := .mv (.v 2) }, { o := .ld (.v 3) 2 true }, { o := .mv (.v 6) }, { o := .mv (.v 2) }, { o := .ca N.ref25_Close 0 [] [.l 2, .l 1, .l 0] }, { o := .bd [.t (.int .i64 (0)), .nil] [(0, 1, .l 4), (1, 1, .l 0)] }, { o := .st (.v 4) (.l 0) 2 [] }, { o := .mv (.i 0), d := some 5 }] []) .ret))))), res := [(4, some (2, true)), (5, none)] }
end Go.Ev.K
namespace Go.Ev
class Has1 [Lib] : Prop where
  t_made_Light : Lib.fs N.made_Light = some K.made_Light
  t_made_Roll : Lib.fs N.made_Roll = some K.made_Roll
  t_made_Dice_Mine : Lib.fs N.made_Dice_Mine = some K.made_Dice_Mine
  t_made_Dice_Next : Lib.fs N.made_Dice_Next = some K.made_Dice_Next
  t_made_Dice_Of : Lib.fs N.made_Dice_Of = some K.made_Dice_Of
  t_ref23_Has : Lib.fs N.ref23_Has = some K.ref23_Has
  t_made_Dice_One : Lib.fs N.made_Dice_One = some K.made_Dice_One
  t_ref26_Start : Lib.fs N.ref26_Start = some K.ref26_Start
  t_made_Mod : Lib.fs N.made_Mod = some K.made_Mod
  t_ref01_Check : Lib.fs N.ref01_Check = some K.ref01_Check
  t_ref23_Set : Lib.fs N.ref23_Set = some K.ref23_Set
  t_ref26_proper : Lib.fs N.ref26_proper = some K.ref26_proper
  t_ref25_Start : Lib.fs N.ref25_Start = some K.ref25_Start
namespace K
variable [Lib] [Has1]
theorem t_made_Light : Lib.fs N.made_Light = some K.made_Light := Has1.t_made_Light
theorem t_made_Roll : Lib.fs N.made_Roll = some K.made_Roll := Has1.t_made_Roll
theorem t_made_Dice_Mine : Lib.fs N.made_Dice_Mine = some K.made_Dice_Mine := Has1.t_made_Dice_Mine
theorem t_made_Dice_Next : Lib.fs N.made_Dice_Next = some K.made_Dice_Next := Has1.t_made_Dice_Next
theorem t_made_Dice_Of : Lib.fs N.made_Dice_Of = some K.made_Dice_Of := Has1.t_made_Dice_Of
theorem t_ref23_Has : Lib.fs N.ref23_Has = some K.ref23_Has := Has1.t_ref23_Has
theorem t_made_Dice_One : Lib.fs N.made_Dice_One = some K.made_Dice_One := Has1.t_made_Dice_One
theorem t_ref26_Start : Lib.fs N.ref26_Start = some K.ref26_Start := Has1.t_ref26_Start
theorem t_made_Mod : Lib.fs N.made_Mod = some K.made_Mod := Has1.t_made_Mod
theorem t_ref01_Check : Lib.fs N.ref01_Check = some K.ref01_Check := Has1.t_ref01_Check
theorem t_ref23_Set : Lib.fs N.ref23_Set = some K.ref23_Set := Has1.t_ref23_Set
theorem t_ref26_proper : Lib.fs N.ref26_proper = some K.ref26_proper := Has1.t_ref26_proper
theorem t_ref25_Start : Lib.fs N.ref25_Start = some K.ref25_Start := Has1.t_ref25_Start
end K
end Go.Ev

namespace Go.Ev.K
open Go.Ev
def ref26_bearer_l1b : C := (.seq (.ite [{ o := .mv (.v 3) }, { o := .mv (.v 0) }, { o := .ln (.l 0) }, { o := .bin .lss (.l 2) (.l 0) }] [] 0 .skip (.exit 0)) (.seq (.blk 1 (.ite [{ o := .mv (.v 0) }, { o := .mv (.v 3) }, { o := .ia (.l 1) (.l 0) 1 }, { o := .ld (.l 0) 1 false }, { o := .mv (.v 1) }, { o := .bin .eql (.l 1) (.l 0) }] [] 0 (.seq (.reg [{ o := .mv (.v 3) }, { o := .mv (.l 0), d := some 2 }] []) .ret) .skip)) (.reg [{ o := .mv (.v 3) }, { o := .bin .add (.l 0) (.i 1) }, { o := .mv (.l 0), d := some 3 }] [])))
def ref26_bearer_l1 : C := .loop true [2] K.ref26_bearer_l1b
def ref26_bearer : Fn := { nargs := 2, vars := [0, 1, 4, 5], body := (.seq (.reg [{ o := .mv (.i 0), d := some 2 }] []) (.seq (.seq (.reg [{ o := .mv (.i 0), d := some 3 }] []) (.blk 0 K.ref26_bearer_l1)) (.seq (.reg [{ o := .mv (.i (-1)), d := some 2 }] []) .ret))), res := [(2, none)] }
def lists_Where_l1b : C := (.its  [{ o := .bin .lss (.v 6) (.v 5) }] [] 0 .skip (.exit 0) (.seq (.blk 1 (.seq (.reg [{ o := .mv (.v 6) }, { o := .mv (.l 0), d := some 4 }] []) (.ite [{ o := .mv (.v 1) }, { o := .mv (.v 4) }, { o := .cw (.l 1) 0 [] [.l 0] }] [] 0 (.reg [{ o := .mv (.v 3) }, { o := .mv (.v 4) }, { o := .bs [.l 0] 1 }, { o := .app (.l 2) (.l 0) true 1 }, { o := .mv (.l 0), d := some 3 }] []) .skip))) (.reg [{ o := .bin .add (.v 6) (.i 1) }, { o := .mv (.l 0), d := some 6 }] [])))
def lists_Where_l1 : C := .loop true [0, 2, 4] K.lists_Where_l1b
def lists_Where : Fn := { nargs := 2, vars := [0, 1, 4, 5, 6, 7, 8], body := (.seq (.reg [{ o := .mv (.c (.nil)), d := some 2 }] []) (.seq (.reg [{ o := .nw 1, d := some 3 }] []) (.seq (.seq (.reg [{ o := .mv (.v 0), d := some 5 }, { o := .mv (.i 0), d := some 6 }] []) (.blk 0 K.lists_Where_l1)) (.seq (.reg [{ o := .mv (.v 3) }, { o := .mv (.l 0), d := some 2 }] []) .ret)))), res := [(2, none)] }
def slices_ContainsFunc_int_int : Fn := { nargs := 2, vars := [0, 1, 4], body := (.seq (.reg [{ o := .mv (.b false), d := some 2 }] []) (.seq (.reg [{ o := .mv (.v 0) }, { o := .mv (.v 1) }, { o := .ca N.slices_IndexFunc_int_int 0 [] [.l 1, .l 0] }, { o := .bin .geq (.l 0) (.i 0) }, { o := .mv (.l 0), d := some 2 }] []) .ret)), res := [(2, none)] }
def slices_Contains_int_int : Fn := { nargs := 2, vars := [0, 1, 4], body := (.seq (.reg [{ o := .mv (.b false), d := some 2 }] []) (.seq (.reg [{ o := .mv (.v 0) }, { o := .mv (.v 1) }, { o := .ca N.slices_Index_int_int 0 [] [.l 1, .l 0] }, { o := .bin .geq (.l 0) (.i 0) }, { o := .mv (.l 0), d := some 2 }] []) .ret)), res := [(2, none)] }
def ref01_Span : Fn := { nargs := 3, vars := [0, 1, 2, 3, 6], body := (.seq (.reg [{ o := .bx (.v 0) 2, d := some 3 }, { o := .mv (.b false), d := some 4 }] []) (.seq (.reg [{ o := .mv (.v 1) }, { o := .fa (.v 3) 0 }, { o := .ld (.l 0) 1 false }, { o := .bin .leq (.l 2) (.l 0) }, { o := .mv (.l 0) }, { o := .fa (.v 3) 0, g := some (0, true) }, { o := .ld (.l 0) 1 false, g := some (1, true) }, { o := .fa (.v 3) 1, g := some (2, true) }, { o := .ld (.l 0) 1 false, g := some (3, true) }, { o := .bin .leq (.l 2) (.l 0), g := some (4, true) }, { o := .pk (.l 5) (.l 0) (.b false) }, { o := .mv (.l 0) }, { o := .fa (.v 3) 1, g := some (0, true) }, { o := .ld (.l 0) 1 false, g := some (1, true) }, { o := .mv (.v 2), g := some (2, true) }, { o := .bin .leq (.l 1) (.l 0), g := some (3, true) }, { o := .pk (.l 4) (.l 0) (.b false) }, { o := .mv (.l 0), d := some 4 }] []) .ret)), res := [(4, none)] }
def ref25_inTime : Fn := { nargs := 1, vars := [0, 2], body := (.seq (.reg [{ o := .mv (.b false), d := some 1 }] []) (.seq (.reg [{ o := .mv (.v 0) }, { o := .bin .geq (.l 0) (.i 0) }, { o := .mv (.l 0) }, { o := .mv (.v 0), g := some (0, true) }, { o := .bin .leq (.l 0) (.i 2147483648), g := some (1, true) }, { o := .pk (.l 2) (.l 0) (.b false) }, { o := .mv (.l 0), d := some 1 }] []) .ret)), res := [(1, none)] }
def ref25_never_l1b : C := (.seq (.ite [{ o := .mv (.v 3) }, { o := .mv (.v 0) }, { o := .bin .lss (.l 1) (.l 0) }] [] 0 .skip (.exit 0)) (.seq (.blk 1 (.reg [{ o := .mv (.v 2) }, { o := .bs [.i 1099511627776] 1 }, { o := .app (.l 1) (.l 0) true 1 }, { o := .mv (.l 0), d := some 2 }] [])) (.reg [{ o := .mv (.v 3) }, { o := .bin .add (.l 0) (.i 1) }, { o := .mv (.l 0), d := some 3 }] [])))
def ref25_never_l1 : C := .loop true [1] K.ref25_never_l1b
def ref25_never : Fn := { nargs := 1, vars := [0, 2, 3, 4], body := (.seq (.reg [{ o := .mv (.c (.nil)), d := some 1 }] []) (.seq (.reg [{ o := .nw 1, d := some 2 }] []) (.seq (.seq (.reg [{ o := .mv (.i 0), d := some 3 }] []) (.blk 0 K.ref25_never_l1)) (.seq (.reg [{ o := .mv (.v 2) }, { o := .mv (.l 0), d := some 1 }] []) .ret)))), res := [(1, none)] }
def ref25_Close : Fn := { nargs := 3, vars := [0, 1, 2, 3, 6], body := (.seq (.reg [{ o := .bx (.v 0) 2, d := some 3 }, { o := .mv (.c (.nil)), d := some 4 }] []) (.seq (.reg [{ o := .ld (.v 3) 2 true }, { o := .mv (.v 1) }, { o := .mv (.v 2) }, { o := .ca N.ref25_close 0 [3] [.l 2, .l 1, .l 0, .c (.nil)] }, { o := .mv (.l 0), d := some 4 }] []) .ret)), res := [(4, none)] }
def ref25_close_l2b : C := (.seq (.ite [{ o := .mv (.v 8) }, { o := .fa (.v 4) 1 }, { o := .ld (.l 0) 1 false }, { o := .ln (.l 0) }, { o := .bin .lss (.l 3) (.l 0) }] [] 0 .skip (.exit 2)) (.seq (.blk 3 (.seq (.reg [{ o := .fa (.v 4) 1 }, { o := .ld (.l 0) 1 false }, { o := .mv (.v 8) }, { o := .ia (.l 1) (.l 0) 10 }, { o := .ld (.l 0) 10 true }, { o := .al [.t (.int .i64 (0)), .t (.int .i64 (0)), .t (.int .i64 (0)), .t (.int .i64 (0)), .t (.bool false), .t (.bool false), .t (.int .i64 (0)), .t (.int .i64 (0)), .t (.int .i64 (0)), .t (.int .i64 (0))] [], d := some 9 }, { o := .st (.l 0) (.l 1) 10 [] }] []) (.seq (.ite [{ o := .mv (.v 3) }, { o := .eqk (.sl) false (.l 0) (.c (.nil)) }, { o := .mv (.l 0) }, { o := .mv (.v 3), g := some (0, false) }, { o := .fa (.v 9) 1, g := some (1, false) }, { o := .ld (.l 0) 1 false, g := some (2, false) }, { o := .ca N.ref23_Has 0 [] [.l 2, .l 0], g := some (3, false) }, { o := .pk (.l 4) (.b true) (.l 0) }, { o := .mv (.l 0) }, { o := .mv (.v 6), g := some (0, true) }, { o := .fa (.v 9) 0, g := some (1, true) }, { o := .ld (.l 0) 1 false, g := some (2, true) }, { o := .fa (.v 9) 1, g := some (3, true) }, { o := .ld (.l 0) 1 false, g := some (4, true) }, { o := .ld (.v 4) 2 true, g := some (5, true) }, { o := .mv (.v 8), g := some (6, true) }, { o := .ca N.ref03_Time 0 [] [.l 1, .l 0, .b false], g := some (7, true) }, { o := .mv (.v 2), g := some (8, true) }, { o := .ca N.ref25_lower 0 [0] [.l 8, .l 6, .l 4, .l 1, .l 0], g := some (9, true) }, { o := .pk (.l 10) (.l 0) (.b false) }] [(11, 17), (13, 17)] 0 (.reg [{ o := .mv (.b true), d := some 7 }] []) .skip) (.ite [{ o := .mv (.v 3) }, { o := .eqk (.sl) false (.l 0) (.c (.nil)) }, { o := .mv (.l 0) }, { o := .mv (.v 3), g := some (0, false) }, { o := .fa (.v 9) 0, g := some (1, false) }, { o := .ld (.l 0) 1 false, g := some (2, false) }, { o := .ca N.ref23_Has 0 [] [.l 2, .l 0], g := some (3, false) }, { o := .pk (.l 4) (.b true) (.l 0) }, { o := .mv (.l 0) }, { o := .mv (.v 6), g := some (0, true) }, { o := .fa (.v 9) 1, g := some (1, true) }, { o := .ld (.l 0) 1 false, g := some (2, true) }, { o := .fa (.v 9) 0, g := some (3, true) }, { o := .ld (.l 0) 1 false, g := some (4, true) }, { o := .ld (.v 4) 2 true, g := some (5, true) }, { o := .mv (.v 8), g := some (6, true) }, { o := .ca N.ref03_Time 0 [] [.l 1, .l 0, .b true], g := some (7, true) }, { o := .mv (.v 2), g := some (8, true) }, { o := .ca N.ref25_lower 0 [0] [.l 8, .l 6, .l 4, .l 1, .l 0], g := some (9, true) }, { o := .pk (.l 10) (.l 0) (.b false) }] [(11, 17), (13, 17)] 0 (.reg [{ o := .mv (.b true), d := some 7 }] []) .skip)))) (.reg [{ o := .mv (.v 8) }, { o := .bin .add (.l 0) (.i 1) }, { o := .mv (.l 0), d := some 8 }] [])))
def ref25_close_l2 : C := .loop true [0, 1, 5, 9] K.ref25_close_l2b
def ref25_close_l1b : C := (.seq (.ite [{ o := .mv (.v 7) }] [] 0 .skip (.exit 0)) (.blk 1 (.seq (.reg [{ o := .mv (.b false), d := some 7 }] []) (.seq (.reg [{ o := .mv (.i 0), d := some 8 }] []) (.blk 2 K.ref25_close_l2)))))
def ref25_close_l1 : C := .loop true [0, 1, 5, 8, 9] K.ref25_close_l1b
def ref25_close : Fn := { nargs := 4, vars := [0, 1, 2, 3, 4, 8, 9, 10, 11, 12], body := (.seq (.reg [{ o := .bx (.v 0) 2, d := some 4 }, { o := .mv (.c (.nil)), d := some 5 }] []) (.seq (.reg [{ o := .mv (.v 1) }, { o := .app (.c (.nil)) (.l 0) true 1 }, { o := .mv (.l 0), d := some 6 }] []) (.seq (.seq (.reg [{ o := .mv (.b true), d := some 7 }] []) (.blk 0 K.ref25_close_l1)) (.seq (.reg [{ o := .mv (.v 6) }, { o := .mv (.l 0), d := some 5 }] []) .ret)))), res := [(5, none)] }
def slices_IndexFunc_int_int_l1b : C := (.its  [{ o := .bin .lss (.v 5) (.v 4) }] [] 0 .skip (.exit 0) (.seq (.blk 1 (.seq (.reg [{ o := .mv (.v 5) }, { o := .mv (.l 0), d := some 3 }] []) (.ite [{ o := .mv (.v 1) }, { o := .mv (.v 0) }, { o := .mv (.v 3) }, { o := .ia (.l 1) (.l 0) 1 }, { o := .ld (.l 0) 1 false }, { o := .cw (.l 4) 0 [] [.l 0] }] [] 0 (.seq (.reg [{ o := .mv (.v 3) }, { o := .mv (.l 0), d := some 2 }] []) .ret) .skip))) (.reg [{ o := .bin .add (.v 5) (.i 1) }, { o := .mv (.l 0), d := some 5 }] [])))
def slices_IndexFunc_int_int_l1 : C := .loop true [2, 3] K.slices_IndexFunc_int_int_l1b
def slices_IndexFunc_int_int : Fn := { nargs := 2, vars := [0, 1, 4, 5, 7, 8], body := (.seq (.reg [{ o := .mv (.i 0), d := some 2 }] []) (.seq (.seq (.reg [{ o := .mv (.v 0) }, { o := .ln (.l 0), d := some 4 }, { o := .mv (.i 0), d := some 5 }] []) (.blk 0 K.slices_IndexFunc_int_int_l1)) (.seq (.reg [{ o := .mv (.i (-1)), d := some 2 }] []) .ret))), res := [(2, none)] }
def slices_Index_int_int_l1b : C := (.its  [{ o := .bin .lss (.v 5) (.v 4) }] [] 0 .skip (.exit 0) (.seq (.blk 1 (.seq (.reg [{ o := .mv (.v 5) }, { o := .mv (.l 0), d := some 3 }] []) (.ite [{ o := .mv (.v 1) }, { o := .mv (.v 0) }, { o := .mv (.v 3) }, { o := .ia (.l 1) (.l 0) 1 }, { o := .ld (.l 0) 1 false }, { o := .bin .eql (.l 4) (.l 0) }] [] 0 (.seq (.reg [{ o := .mv (.v 3) }, { o := .mv (.l 0), d := some 2 }] []) .ret) .skip))) (.reg [{ o := .bin .add (.v 5) (.i 1) }, { o := .mv (.l 0), d := some 5 }] [])))
def slices_Index_int_int_l1 : C := .loop true [2, 3] K.slices_Index_int_int_l1b
def slices_Index_int_int : Fn := { nargs := 2, vars := [0, 1, 4, 5, 7, 8], body := (.seq (.reg [{ o := .mv (.i 0), d := some 2 }] []) (.seq (.seq (.reg [{ o := .mv (.v 0) }, { o := .ln (.l 0), d := some 4 }, { o := .mv (.i 0), d := some 5 }] []) (.blk 0 K.slices_Index_int_int_l1)) (.seq (.reg [{ o := .mv (.i (-1)), d := some 2 }] []) .ret))), res := [(2, none)] }
def slices_ContainsFunc_api_World_api_World : Fn := { nargs := 2, vars := [0, 1, 4], body := (.seq (.reg [{ o := .mv (.b false), d := some 2 }] []) (.seq (.reg [{ o := .mv (.v 0) }, { o := .mv (.v 1) }, { o := .ca N.slices_IndexFunc_api_World_api_World 0 [] [.l 1, .l 0] }, { o := .bin .geq (.l 0) (.i 0) }, { o := .mv (.l 0), d := some 2 }] []) .ret)), res := [(2, none)] }
def lists_In : Fn := { nargs := 3, vars := [0, 1, 2, 6], body := (.seq (.reg [{ o := .mv (.b false), d := some 3 }] []) (.seq (.reg [{ o := .mv (.v 0) }, { o := .mv (.v 1) }, { o := .bin .geq (.l 1) (.l 0) }, { o := .mv (.l 0) }, { o := .mv (.v 0), g := some (0, true) }, { o := .mv (.v 2), g := some (1, true) }, { o := .bin .leq (.l 1) (.l 0), g := some (2, true) }, { o := .pk (.l 3) (.l 0) (.b false) }, { o := .mv (.l 0), d := some 3 }] []) .ret)), res := [(3, none)] }
def ref25_lower : Fn := { nargs := 5, vars := [0, 1, 2, 3, 4, 10, 11], body := (.seq (.reg [{ o := .mv (.b false), d := some 5 }] []) (.seq (.ite [{ o := .mv (.v 3) }, { o := .bin .lss (.l 0) (.i 0) }, { o := .mv (.l 0) }, { o := .mv (.v 0), g := some (0, false) }, { o := .mv (.v 1), g := some (1, false) }, { o := .ia (.l 1) (.l 0) 1, g := some (2, false) }, { o := .ld (.l 0) 1 false, g := some (3, false) }, { o := .bin .geq (.l 0) (.i 1099511627776), g := some (4, false) }, { o := .pk (.l 5) (.b true) (.l 0) }] [] 0 (.seq (.reg [{ o := .mv (.b false), d := some 5 }] []) .ret) .skip) (.seq (.reg [{ o := .mv (.v 4) }, { o := .mv (.v 0) }, { o := .mv (.v 1) }, { o := .ia (.l 1) (.l 0) 1 }, { o := .ld (.l 0) 1 false }, { o := .mv (.v 3) }, { o := .bin .add (.l 1) (.l 0) }, { o := .mx [.l 6, .l 0] }, { o := .mv (.l 0), d := some 6 }] []) (.seq (.ite [{ o := .mv (.v 6) }, { o := .bin .gtr (.l 0) (.i 2147483648) }, { o := .mv (.l 0) }, { o := .mv (.v 6), g := some (0, false) }, { o := .mv (.v 0), g := some (1, false) }, { o := .mv (.v 2), g := some (2, false) }, { o := .ia (.l 1) (.l 0) 1, g := some (3, false) }, { o := .ld (.l 0) 1 false, g := some (4, false) }, { o := .bin .geq (.l 4) (.l 0), g := some (5, false) }, { o := .pk (.l 6) (.b true) (.l 0) }] [] 0 (.seq (.reg [{ o := .mv (.b false), d := some 5 }] []) .ret) .skip) (.seq (.reg [{ o := .mv (.v 0) }, { o := .mv (.v 2) }, { o := .mv (.v 6) }, { o := .ia (.l 2) (.l 1) 1 }, { o := .st (.l 0) (.l 1) 1 [] }] []) (.seq (.reg [{ o := .mv (.b true), d := some 5 }] []) .ret)))))), res := [(5, none)] }
def ref03_Time : Fn := { nargs := 3, vars := [0, 1, 2, 3, 6], body := (.seq (.reg [{ o := .bx (.v 0) 2, d := some 3 }, { o := .mv (.i 0), d := some 4 }] []) (.seq (.reg [{ o := .ld (.v 3) 2 true }, { o := .mv (.v 1) }, { o := .mv (.v 2) }, { o := .ca N.ref03_walked 0 [] [.l 2, .l 1, .l 0, .i 6, .i 9, .i 12] }, { o := .mv (.l 0), d := some 4 }] []) .ret)), res := [(4, none)] }
def slices_IndexFunc_api_World_api_World_l1b : C := (.its  [{ o := .bin .lss (.v 5) (.v 4) }] [] 0 .skip (.exit 0) (.seq (.blk 1 (.seq (.reg [{ o := .mv (.v 5) }, { o := .mv (.l 0), d := some 3 }] []) (.ite [{ o := .mv (.v 1) }, { o := .mv (.v 0) }, { o := .mv (.v 3) }, { o := .ia (.l 1) (.l 0) 2 }, { o := .ld (.l 0) 2 true }, { o := .cw (.l 4) 0 [] [.l 0] }] [] 0 (.seq (.reg [{ o := .mv (.v 3) }, { o := .mv (.l 0), d := some 2 }] []) .ret) .skip))) (.reg [{ o := .bin .add (.v 5) (.i 1) }, { o := .mv (.l 0), d := some 5 }] [])))
def slices_IndexFunc_api_World_api_World_l1 : C := .loop true [2, 3] K.slices_IndexFunc_api_World_api_World_l1b
def slices_IndexFunc_api_World_api_World : Fn := { nargs := 2, vars := [0, 1, 4, 5, 7, 8], body := (.seq (.reg [{ o := .mv (.i 0), d := some 2 }] []) (.seq (.seq (.reg [{ o := .mv (.v 0) }, { o := .ln (.l 0), d := some 4 }, { o := .mv (.i 0), d := some 5 }] []) (.blk 0 K.slices_IndexFunc_api_World_api_World_l1)) (.seq (.reg [{ o := .mv (.i (-1)), d := some 2 }] []) .ret))), res := [(2, none)] }
def ref03_walked : Fn := { nargs := 6, vars := [0, 1, 2, 3, 4, 5, 6, 12, 13, 14, 15, 16, 17], body := (.seq (.reg [{ o := .bx (.v 0) 2, d := some 6 }, { o := .mv (.i 0), d := some 7 }] []) (.seq (.ite [{ o := .ld (.v 6) 2 true }, { o := .ca N.ref01_Check 0 [] [.l 0] }, { o := .bin .neq (.l 0) (.i 0) }, { o := .mv (.l 0) }, { o := .mv (.v 1), g := some (0, false) }, { o := .bin .lss (.l 0) (.i 0), g := some (1, false) }, { o := .pk (.l 2) (.b true) (.l 0) }, { o := .mv (.l 0) }, { o := .mv (.v 1), g := some (0, false) }, { o := .fa (.v 6) 1, g := some (1, false) }, { o := .ld (.l 0) 1 false, g := some (2, false) }, { o := .ln (.l 0), g := some (3, false) }, { o := .bin .geq (.l 3) (.l 0), g := some (4, false) }, { o := .pk (.l 5) (.b true) (.l 0) }, { o := .mv (.l 0) }, { o := .fa (.v 6) 1, g := some (0, false) }, { o := .ld (.l 0) 1 false, g := some (1, false) }, { o := .mv (.v 1), g := some (2, false) }, { o := .ia (.l 1) (.l 0) 10, g := some (3, false) }, { o := .fa (.l 0) 5, g := some (4, false) }, { o := .ld (.l 0) 1 false, g := some (5, false) }, { o := .pk (.l 6) (.b true) (.l 0) }, { o := .mv (.l 0) }, { o := .fa (.v 6) 1, g := some (0, false) }, { o := .ld (.l 0) 1 false, g := some (1, false) }, { o := .mv (.v 1), g := some (2, false) }, { o := .ia (.l 1) (.l 0) 10, g := some (3, false) }, { o := .fa (.l 0) 4, g := some (4, false) }, { o := .ld (.l 0) 1 false, g := some (5, false) }, { o := .un .not (.l 0), g := some (6, false) }, { o := .pk (.l 7) (.b true) (.l 0) }] [] 0 (.seq (.reg [{ o := .mv (.i (-1)), d := some 7 }] []) .ret) .skip) (.seq (.reg [{ o := .fa (.v 6) 1 }, { o := .ld (.l 0) 1 false }, { o := .mv (.v 1) }, { o := .ia (.l 1) (.l 0) 10 }, { o := .ld (.l 0) 10 true }, { o := .al [.t (.int .i64 (0)), .t (.int .i64 (0)), .t (.int .i64 (0)), .t (.int .i64 (0)), .t (.bool false), .t (.bool false), .t (.int .i64 (0)), .t (.int .i64 (0)), .t (.int .i64 (0)), .t (.int .i64 (0))] [], d := some 8 }, { o := .st (.l 0) (.l 1) 10 [] }] []) (.seq (.reg [{ o := .ld (.v 8) 10 true }, { o := .mv (.v 2) }, { o := .ca N.ref03_ends 0 [] [.l 1, .l 0] }, { o := .mv (.l 0) }, { o := .ex (.l 0) 0 }, { o := .ex (.l 1) 1 }, { o := .mv (.l 1), d := some 9 }, { o := .mv (.l 1), d := some 10 }] []) (.seq (.reg [{ o := .fa (.v 6) 0 }, { o := .ld (.l 0) 1 false }, { o := .mv (.v 10) }, { o := .ia (.l 1) (.l 0) 2 }, { o := .fa (.l 0) 0 }, { o := .ld (.l 0) 1 false }, { o := .fa (.v 6) 0 }, { o := .ld (.l 0) 1 false }, { o := .mv (.v 9) }, { o := .ia (.l 1) (.l 0) 2 }, { o := .fa (.l 0) 0 }, { o := .ld (.l 0) 1 false }, { o := .bin .sub (.l 6) (.l 0) }, { o := .mv (.l 0), d := some 11 }] []) (.seq (.reg [{ o := .mv (.v 5) }, { o := .mv (.l 0), d := some 12 }] []) (.seq (.ite [{ o := .mv (.v 11) }, { o := .bin .mul (.i 10) (.l 0) }, { o := .fa (.v 8) 2 }, { o := .ld (.l 0) 1 false }, { o := .bin .gtr (.l 2) (.l 0) }] [] 0 (.reg [{ o := .mv (.v 3) }, { o := .mv (.l 0), d := some 12 }] []) .skip) (.seq (.ite [{ o := .mv (.v 11) }, { o := .bin .mul (.i (-10)) (.l 0) }, { o := .fa (.v 8) 2 }, { o := .ld (.l 0) 1 false }, { o := .bin .gtr (.l 2) (.l 0) }] [] 0 (.reg [{ o := .mv (.v 4) }, { o := .mv (.l 0), d := some 12 }] []) .skip) (.seq (.reg [{ o := .fa (.v 8) 2 }, { o := .ld (.l 0) 1 false }, { o := .bin .mul (.i 10) (.l 0) }, { o := .mv (.v 12) }, { o := .bin .add (.l 1) (.l 0) }, { o := .bin .sub (.l 0) (.i 1) }, { o := .mv (.v 12) }, { o := .bin .quo (.l 1) (.l 0) }, { o := .mv (.l 0), d := some 7 }] []) .ret))))))))), res := [(7, none)] }
def ref03_ends : Fn := { nargs := 2, vars := [0, 1, 2, 4, 5], body := (.seq (.reg [{ o := .bx (.v 0) 10, d := some 2 }, { o := .mv (.i 0), d := some 3 }, { o := .mv (.i 0), d := some 4 }] []) (.seq (.ite [{ o := .mv (.v 1) }] [] 0 (.seq (.reg [{ o := .fa (.v 2) 1 }, { o := .ld (.l 0) 1 false }, { o := .fa (.v 2) 0 }, { o := .ld (.l 0) 1 false }, { o := .mv (.l 2), d := some 3 }, { o := .mv (.l 1), d := some 4 }] []) .ret) .skip) (.seq (.reg [{ o := .fa (.v 2) 0 }, { o := .ld (.l 0) 1 false }, { o := .fa (.v 2) 1 }, { o := .ld (.l 0) 1 false }, { o := .mv (.l 2), d := some 3 }, { o := .mv (.l 1), d := some 4 }] []) .ret))), res := [(3, none), (4, none)] }
end Go.Ev.K
namespace Go.Ev
class Has2 [Lib] : Prop where
  t_ref26_bearer : Lib.fs N.ref26_bearer = some K.ref26_bearer
  t_lists_Where : Lib.fs N.lists_Where = some K.lists_Where
  t_slices_ContainsFunc_int_int : Lib.fs N.slices_ContainsFunc_int_int = some K.slices_ContainsFunc_int_int
  t_slices_Contains_int_int : Lib.fs N.slices_Contains_int_int = some K.slices_Contains_int_int
  t_ref01_Span : Lib.fs N.ref01_Span = some K.ref01_Span
  t_ref25_inTime : Lib.fs N.ref25_inTime = some K.ref25_inTime
  t_ref25_never : Lib.fs N.ref25_never = some K.ref25_never
  t_ref25_Close : Lib.fs N.ref25_Close = some K.ref25_Close
  t_ref25_close : Lib.fs N.ref25_close = some K.ref25_close
  t_slices_IndexFunc_int_int : Lib.fs N.slices_IndexFunc_int_int = some K.slices_IndexFunc_int_int
  t_slices_Index_int_int : Lib.fs N.slices_Index_int_int = some K.slices_Index_int_int
  t_slices_ContainsFunc_api_World_api_World : Lib.fs N.slices_ContainsFunc_api_World_api_World = some K.slices_ContainsFunc_api_World_api_World
  t_lists_In : Lib.fs N.lists_In = some K.lists_In
  t_ref25_lower : Lib.fs N.ref25_lower = some K.ref25_lower
  t_ref03_Time : Lib.fs N.ref03_Time = some K.ref03_Time
  t_slices_IndexFunc_api_World_api_World : Lib.fs N.slices_IndexFunc_api_World_api_World = some K.slices_IndexFunc_api_World_api_World
  t_ref03_walked : Lib.fs N.ref03_walked = some K.ref03_walked
  t_ref03_ends : Lib.fs N.ref03_ends = some K.ref03_ends
namespace K
variable [Lib] [Has2]
theorem t_ref26_bearer : Lib.fs N.ref26_bearer = some K.ref26_bearer := Has2.t_ref26_bearer
theorem t_lists_Where : Lib.fs N.lists_Where = some K.lists_Where := Has2.t_lists_Where
theorem t_slices_ContainsFunc_int_int : Lib.fs N.slices_ContainsFunc_int_int = some K.slices_ContainsFunc_int_int := Has2.t_slices_ContainsFunc_int_int
theorem t_slices_Contains_int_int : Lib.fs N.slices_Contains_int_int = some K.slices_Contains_int_int := Has2.t_slices_Contains_int_int
theorem t_ref01_Span : Lib.fs N.ref01_Span = some K.ref01_Span := Has2.t_ref01_Span
theorem t_ref25_inTime : Lib.fs N.ref25_inTime = some K.ref25_inTime := Has2.t_ref25_inTime
theorem t_ref25_never : Lib.fs N.ref25_never = some K.ref25_never := Has2.t_ref25_never
theorem t_ref25_Close : Lib.fs N.ref25_Close = some K.ref25_Close := Has2.t_ref25_Close
theorem t_ref25_close : Lib.fs N.ref25_close = some K.ref25_close := Has2.t_ref25_close
theorem t_slices_IndexFunc_int_int : Lib.fs N.slices_IndexFunc_int_int = some K.slices_IndexFunc_int_int := Has2.t_slices_IndexFunc_int_int
theorem t_slices_Index_int_int : Lib.fs N.slices_Index_int_int = some K.slices_Index_int_int := Has2.t_slices_Index_int_int
theorem t_slices_ContainsFunc_api_World_api_World : Lib.fs N.slices_ContainsFunc_api_World_api_World = some K.slices_ContainsFunc_api_World_api_World := Has2.t_slices_ContainsFunc_api_World_api_World
theorem t_lists_In : Lib.fs N.lists_In = some K.lists_In := Has2.t_lists_In
theorem t_ref25_lower : Lib.fs N.ref25_lower = some K.ref25_lower := Has2.t_ref25_lower
theorem t_ref03_Time : Lib.fs N.ref03_Time = some K.ref03_Time := Has2.t_ref03_Time
theorem t_slices_IndexFunc_api_World_api_World : Lib.fs N.slices_IndexFunc_api_World_api_World = some K.slices_IndexFunc_api_World_api_World := Has2.t_slices_IndexFunc_api_World_api_World
theorem t_ref03_walked : Lib.fs N.ref03_walked = some K.ref03_walked := Has2.t_ref03_walked
theorem t_ref03_ends : Lib.fs N.ref03_ends = some K.ref03_ends := Has2.t_ref03_ends
end K
end Go.Ev

namespace Go.Ev
open Go
variable [Lib]
noncomputable def CALL : Oracle := callL Lib.fs
theorem CALL_of {raw f : Nat} {args : List D} {H : Heap} {fn : Fn} {r : D × Heap} (hf : Lib.fs f = some fn) (hn : fn.nargs = args.length)
    (h : (exS CALL fn.body ⟨initVs args fn.vars, H⟩).bind (endR fn.res H.length raw) = some r) (h0 : fn.prim = [] := by rfl) : CALL raw f args H = some r := call_of hf hn h h0
theorem loop_up {gc : Bool} {dead : List Nat} {c : C} {vs : List D} {H : Heap} (s : Nat → St) (n : Nat) {e : Ex} {st : St}
    (h0 : (⟨dropV dead vs, H⟩ : St) = s 0) (h : ∀ j, j < n → roundC gc dead (s j).H.length (exS CALL c (s j)) = some (s (j + 1)))
    (he : exS CALL c (s n) = some (e, st)) (hn : e ≠ .normal) : exS CALL (.loop gc dead c) ⟨vs, H⟩ = some (e, st) := by
  show loopC gc dead (exS CALL c) ⟨dropV dead vs, H⟩ = _
  rw [h0]
  exact loopC_up s n h (loopC_exit he hn)
theorem loop_is {gc : Bool} {dead : List Nat} {c : C} {vs : List D} {H : Heap} {p : Ex × St} (h : loopC gc dead (exS CALL c) ⟨dropV dead vs, H⟩ = some p) : exS CALL (.loop gc dead c) ⟨vs, H⟩ = some p := h
class Dat (α : Type) where
  dflt : α
instance : Dat Int := ⟨0⟩
instance : Dat Nat := ⟨0⟩
instance : Dat Bool := ⟨false⟩
instance {α : Type} : Dat (List α) := ⟨[]⟩
def nth {α : Type} [Dat α] (l : List α) (j : Nat) : α := l.getD j Dat.dflt
theorem nth_some {α : Type} [Dat α] {l : List α} {j : Nat} (h : j < l.length) : l[j]? = some (nth l j) := by simp [nth, h]
theorem map_nth {α β : Type} [Dat α] (f : α → β) {l : List α} {j : Nat} (h : j < l.length) : (l.map f)[j]? = some (f (nth l j)) := by rw [List.getElem?_map, nth_some h]; rfl
theorem map2_nth {α β γ : Type} [Dat α] (f : β → γ) (g : α → β) {l : List α} {j : Nat} (h : j < l.length) : ((l.map g).map f)[j]? = some (f (g (nth l j))) := by rw [List.getElem?_map, map_nth g h]; rfl
theorem nth_mem {α : Type} [Dat α] {l : List α} {j : Nat} (h : j < l.length) : nth l j ∈ l := List.mem_of_getElem? (nth_some h)
theorem nth_eq {α : Type} [Dat α] {l : List α} {j : Nat} {x : α} (h : l[j]? = some x) : nth l j = x := by simp [nth, h]
theorem ltI_t {a b : Int} (h : a < b) : (a < b) = True := by simp [h]
theorem ltI_f {a b : Int} (h : b ≤ a) : (a < b) = False := by simp [Int.not_lt.2 h]
theorem leI_t {a b : Int} (h : a ≤ b) : (a ≤ b) = True := by simp [h]
theorem leI_f {a b : Int} (h : b < a) : (a ≤ b) = False := by simp [Int.not_le.2 h]
theorem eqI_t {a b : Int} (h : a = b) : (a = b) = True := by simp [h]
theorem eqI_f {a b : Int} (h : a ≠ b) : (a = b) = False := by simp [h]
theorem ltN_t {a b : Nat} (h : a < b) : (a < b) = True := by simp [h]
theorem ltN_f {a b : Nat} (h : b ≤ a) : (a < b) = False := by simp [Nat.not_lt.2 h]
theorem leN_t {a b : Nat} (h : a ≤ b) : (a ≤ b) = True := by simp [h]
theorem leN_f {a b : Nat} (h : b < a) : (a ≤ b) = False := by simp [Nat.not_le.2 h]
theorem eqN_t {a b : Nat} (h : a = b) : (a = b) = True := by simp [h]
theorem eqN_f {a b : Nat} (h : a ≠ b) : (a = b) = False := by simp [h]
attribute [go_sem] eqN_t eqN_f ltI_t ltI_f leI_t leI_f eqI_t eqI_f ltN_t ltN_f leN_t leN_f wrap_id map_nth map2_nth idx_pos
@[go_sem] theorem q_cast_add (a b : Nat) : ((a + b : Nat) : Int) = (a : Int) + (b : Int) := (rfl)
@[go_sem] theorem q_cast_one : ((1 : Nat) : Int) = 1 := (rfl)
@[go_sem] theorem q_cast_zero : ((0 : Nat) : Int) = 0 := (rfl)
@[go_sem] theorem q_add_sub (a b : Int) : a + b - b = a := Int.add_sub_cancel a b
@[go_sem] theorem q_toNat_zero : (0 : Int).toNat = 0 := (rfl)
@[go_sem] theorem q_toNat_nat (n : Nat) : (n : Int).toNat = n := (rfl)
@[go_sem] theorem q_toNat_one (n : Nat) : ((n : Int) + 1).toNat = n + 1 := (rfl)
@[go_sem] theorem q_izero_add (a : Int) : 0 + a = a := Int.zero_add a
@[go_sem] theorem q_iadd_zero (a : Int) : a + 0 = a := Int.add_zero a
@[go_sem] theorem q_isub_zero (a : Int) : a - 0 = a := Int.sub_zero a
abbrev tI (n : Int) : T := .int .i64 n
abbrev tL (l : List Int) : T := .sl (l.map (.int .i64))
@[go_sem] theorem mapO_frz_snoc (H : Heap) (n : Nat) (ts : List T) (x : T) : mapO (frz H n) (ts.map .t ++ [.t x]) = some (ts ++ [x]) := by
  have : ts.map D.t ++ [.t x] = (ts ++ [x]).map .t := by simp
  rw [this, mapO_frz_t]
@[go_sem] theorem q_map_append {α β : Type} (f : α → β) (a b : List α) : (a ++ b).map f = a.map f ++ b.map f := List.map_append
end Go.Ev

namespace Go.Ev
open Go
variable [Lib] [Has1] [Has2]
def Mod (n m : Int) : Int := if m < 1 then 0 else if n.tmod m < 0 then n.tmod m + m else n.tmod m
theorem Mod_lo (n m : Int) : 0 ≤ Mod n m := by
  unfold Mod
  split
  · omega
  · have h5 := Int.lt_tmod_of_pos n (b := m) (by omega)
    split <;> omega
theorem Mod_hi (n m : Int) (h : 1 ≤ m) : Mod n m < m := by
  unfold Mod
  rw [if_neg (by omega)]
  have h3 := Int.tmod_lt_of_pos n (b := m) (by omega)
  split <;> omega
theorem mod_ok (n m : Int) (hm : m ≤ 4611686018427387904) : CALL 0 N.made_Mod [I n, I m] [] = some (I (Mod n m), []) := by
  refine CALL_of K.t_made_Mod rfl ?_
  unfold Mod
  by_cases h1 : m < 1
  · simp only [go_sem, K.made_Mod, h1, ↓reduceIte]
  · have h2 : m ≠ 0 := by omega
    have h3 := Int.tmod_lt_of_pos n (b := m) (by omega)
    have h5 := Int.lt_tmod_of_pos n (b := m) (by omega)
    by_cases h4 : n.tmod m < 0
    · simp (disch := omega) only [go_sem, K.made_Mod, h1, ↓reduceIte, h2, h4]
    · simp (disch := omega) only [go_sem, K.made_Mod, h1, ↓reduceIte, h2, h4]
theorem light_ok (l : List Int) : CALL 0 N.made_Light [.t (tL l)] [] = some (B (decide (l.length ≤ 400)), []) := by
  refine CALL_of K.t_made_Light rfl ?_
  simp (disch := omega) only [go_sem, K.made_Light, ↓reduceIte]
  simp only [show ((l.length : Int) ≤ 400) = (l.length ≤ 400) by rw [eq_iff_iff]; omega]
structure Dice where
  L : List Int
  at_ : Nat
def Dice.obj (d : Dice) : Obj := .box [.t (tL d.L), I d.at_]
def Dice.light (d : Dice) : Prop := d.L.length ≤ 400
def Dice.next (d : Dice) (n : Int) : Int × Dice := if d.at_ < d.L.length then (Mod (nth d.L d.at_) n, ⟨d.L, d.at_ + 1⟩) else (0, d)
theorem Dice.next_L (d : Dice) (n : Int) : (d.next n).2.L = d.L := by unfold Dice.next; split <;> rfl
theorem Dice.next_light {d : Dice} (h : d.light) (n : Int) : (d.next n).2.light := by unfold Dice.light; rw [d.next_L]; exact h
theorem Dice.next_lo (d : Dice) (n : Int) : 0 ≤ (d.next n).1 := by unfold Dice.next; split <;> simp [Mod_lo]
theorem Dice.next_hi (d : Dice) {n : Int} (h : 1 ≤ n) : (d.next n).1 < n := by unfold Dice.next; split <;> simp [Mod_hi _ _ h]; omega
theorem next_ok (d : Dice) (n : Int) (hn : n ≤ 4611686018427387904) (hd : d.light) : CALL 0 N.made_Dice_Next [.bp 0 0, I n] [d.obj] = some (I (d.next n).1, [(d.next n).2.obj]) := by
  refine CALL_of K.t_made_Dice_Next rfl ?_
  have hm := mod_ok (nth d.L d.at_) n hn
  unfold Dice.light at hd
  unfold Dice.next Dice.obj
  by_cases h1 : d.at_ < d.L.length
  · simp (disch := omega) only [go_sem, K.made_Dice_Next, ↓reduceIte, ↓if_pos, ↓if_neg, Int.add_sub_cancel, hm, Int.natCast_add]
  · simp (disch := omega) only [go_sem, K.made_Dice_Next, ↓reduceIte, ↓if_pos, ↓if_neg]
@[go_sem] theorem ids_dice (d : Dice) : idsObj (some d.obj) = [] := by simp only [Dice.obj, go_sem]
@[go_sem] theorem ren_dice (f : Nat → Option Nat) (d : Dice) : renObj f d.obj = some d.obj := by simp only [Dice.obj, go_sem]
@[go_sem] theorem old_dice (k : Nat) (d : Dice) (r : Heap) : heapOld k (d.obj :: r) = heapOld k r := by simp only [Dice.obj, go_sem]
def Dice.one (d : Dice) (n : Int) : Bool × Dice := (decide ((d.next n).1 = n - 1), (d.next n).2)
theorem Dice.one_light {d : Dice} (h : d.light) (n : Int) : (d.one n).2.light := Dice.next_light h n
theorem one_ok (d : Dice) (n : Int) (h1 : 0 ≤ n) (hn : n ≤ 4611686018427387904) (hd : d.light) : CALL 0 N.made_Dice_One [.bp 0 0, I n] [d.obj] = some (B (d.one n).1, [(d.one n).2.obj]) := by
  refine CALL_of K.t_made_Dice_One rfl ?_
  have hm := next_ok d n hn hd
  unfold Dice.one
  simp (disch := omega) only [go_sem, K.made_Dice_One, ↓reduceIte, hm]
def Dice.of (d : Dice) (l : List Int) : Int × Dice := (nth l (d.next l.length).1.toNat, (d.next l.length).2)
theorem Dice.of_light {d : Dice} (h : d.light) (l : List Int) : (d.of l).2.light := Dice.next_light h _
theorem Dice.of_mem (d : Dice) {l : List Int} (h : l ≠ []) : (d.of l).1 ∈ l := by
  unfold Dice.of
  have hl : 0 < l.length := List.length_pos_iff.2 h
  have := d.next_lo l.length
  have := d.next_hi (n := l.length) (by omega)
  exact nth_mem (by omega)
theorem of_ok (d : Dice) (l : List Int) (hl : l ≠ []) (hl2 : l.length ≤ 4294967296) (hd : d.light) : CALL 0 N.made_Dice_Of [.bp 0 0, .t (tL l)] [d.obj] = some (I (d.of l).1, [(d.of l).2.obj]) := by
  refine CALL_of K.t_made_Dice_Of rfl ?_
  have hm := next_ok d l.length (by omega) hd
  have h0 : 0 < l.length := List.length_pos_iff.2 hl
  have h1 := d.next_lo l.length
  have h2 := d.next_hi (n := l.length) (by omega)
  unfold Dice.of
  simp (disch := omega) only [go_sem, K.made_Dice_Of, ↓reduceIte, hm]
end Go.Ev

namespace Go.Ev
open Go
variable [Lib] [Has1] [Has2]
theorem loop_first {gc : Bool} {dead : List Nat} {c : C} {vs : List D} {H : Heap} (s : Nat → St) (n : Nat) (p : Nat → Bool) (e : Nat → Ex × St) (eN : Ex × St)
    (h0 : (⟨dropV dead vs, H⟩ : St) = s 0) (hs : ∀ j, j < n → p j = false → roundC gc dead (s j).H.length (exS CALL c (s j)) = some (s (j + 1)))
    (he : ∀ j, j < n → p j = true → exS CALL c (s j) = some (e j) ∧ (e j).1 ≠ .normal) (hN : exS CALL c (s n) = some eN) (hn : eN.1 ≠ .normal) :
    exS CALL (.loop gc dead c) ⟨vs, H⟩ = some (match (List.range n).find? p with | some j => e j | none => eN) := by
  show loopC gc dead (exS CALL c) ⟨dropV dead vs, H⟩ = _
  rw [h0]
  cases hf : (List.range n).find? p with
  | none =>
    refine loopC_up s n (fun j hj => hs j hj ?_) (loopC_exit hN hn)
    have := List.find?_eq_none.1 hf j (List.mem_range.2 hj)
    simpa using this
  | some k =>
    obtain ⟨h1, as, bs, h2, h3⟩ := List.find?_eq_some_iff_append.1 hf
    have hk : k < n := List.mem_range.1 (List.mem_of_find?_eq_some hf)
    have hlt : ∀ j, j < k → p j = false := by
      intro j hj
      have hlen : as.length = k := by
        have h4 : (List.range n)[as.length]? = some k := by rw [h2]; simp
        have h5 : as.length < n := by
          have := congrArg List.length h2; simp at this; omega
        rw [List.getElem?_range h5] at h4
        exact Option.some.inj h4
      have : j ∈ as := by
        have h6 : (List.range n)[j]? = some j := List.getElem?_range (by omega)
        rw [h2, List.getElem?_append_left (by omega)] at h6
        exact List.mem_of_getElem? h6
      simpa using h3 j this
    obtain ⟨k1, k2⟩ := he k hk h1
    exact loopC_up s k (fun j hj => hs j (by omega) (hlt j hj)) (loopC_exit k1 k2)
def closeN {α : Type} (f : α → α × Bool) : Nat → α → α
  | 0, l => l
  | n + 1, l => if (f l).2 then closeN f n (f l).1 else (f l).1
theorem loop_again {α : Type} {gc : Bool} {dead : List Nat} {c : C} {vs : List D} {H : Heap} (S : α → Bool → St) (E : α → Ex × St) (f : α → α × Bool) (inv : α → Prop) (mes : α → Nat)
    (hinv : ∀ l, inv l → inv (f l).1 ∧ ((f l).2 = true → mes (f l).1 < mes l))
    (hs : ∀ l, inv l → roundC gc dead (S l true).H.length (exS CALL c (S l true)) = some (S (f l).1 (f l).2))
    (he : ∀ l, inv l → exS CALL c (S l false) = some (E l) ∧ (E l).1 ≠ .normal) (l : α) (hl : inv l) (h0 : (⟨dropV dead vs, H⟩ : St) = S l true) :
    exS CALL (.loop gc dead c) ⟨vs, H⟩ = some (E (closeN f (mes l + 1) l)) ∧ inv (closeN f (mes l + 1) l) := by
  have key : ∀ (n : Nat) (l : α), inv l → mes l < n → loopC gc dead (exS CALL c) (S l true) = some (E (closeN f n l)) ∧ inv (closeN f n l) := by
    intro n
    induction n with
    | zero => intro l _ h; omega
    | succ n ih =>
      intro l hl hm
      obtain ⟨h1, h2⟩ := hinv l hl
      have hr := hs l hl
      cases hf : (f l).2 with
      | true =>
        rw [hf] at hr
        obtain ⟨k1, k2⟩ := ih (f l).1 h1 (by have := h2 hf; omega)
        simp only [closeN, hf, if_true]
        exact ⟨loopC_step hr k1, k2⟩
      | false =>
        rw [hf] at hr
        obtain ⟨k1, k2⟩ := he (f l).1 h1
        simp only [closeN, hf, Bool.false_eq_true, if_false]
        exact ⟨loopC_step hr (loopC_exit k1 k2), h1⟩
  have := key (mes l + 1) l hl (Nat.lt_succ_self _)
  show loopC gc dead (exS CALL c) ⟨dropV dead vs, H⟩ = _ ∧ _
  rw [h0]; exact this
def capsN (m : Nat) : List D := (List.range m).map fun i => .bp i 0
def boxesT (bs : List (List T)) : Heap := bs.map fun cs => .box (cs.map .t)
theorem boxesT_len (bs : List (List T)) : (boxesT bs).length = bs.length := by simp [boxesT]
section
variable (bs : List (List T)) (o o' : Obj)
@[go_sem] theorem boxesT_length : (boxesT bs).length = bs.length := boxesT_len bs
@[go_sem] theorem boxes_last : (boxesT bs ++ [o])[bs.length]? = some o := by
  rw [List.getElem?_append_right (by rw [boxesT_len]; exact Nat.le_refl _), boxesT_len]; simp
@[go_sem] theorem boxes_set : (boxesT bs ++ [o]).set bs.length o' = boxesT bs ++ [o'] := by
  rw [List.set_append_right _ _ (by rw [boxesT_len]; exact Nat.le_refl _), boxesT_len]; simp
@[go_sem] theorem boxes_take : (boxesT bs ++ [o]).take bs.length = boxesT bs := by
  rw [List.take_append_of_le_length (by rw [boxesT_len]; exact Nat.le_refl _), List.take_of_length_le (by rw [boxesT_len]; exact Nat.le_refl _)]
@[go_sem] theorem boxes_take1 : (boxesT bs ++ [o]).take (bs.length + 1) = boxesT bs ++ [o] := List.take_of_length_le (by simp [boxesT_len])
@[go_sem] theorem boxes_take0 : (boxesT bs).take bs.length = boxesT bs := List.take_of_length_le (by simp [boxesT_len])
@[go_sem] theorem heapOld_app (k : Nat) (a b : Heap) : heapOld k (a ++ b) = (heapOld k a && heapOld k b) := by
  rw [← heapOld_eq, ← heapOld_eq, ← heapOld_eq, List.all_append]
@[go_sem] theorem heapOld_boxes (k : Nat) : heapOld k (boxesT bs) = true := by
  induction bs with
  | nil => rfl
  | cons b r ih =>
    show (allOld k 8 (b.map .t) && heapOld k (boxesT r)) = true
    rw [allOld_t, ih]; rfl
@[go_sem] theorem ltB_succ (n : Nat) : ltB n (n + 1) = true := by rw [ltB_iff]; simp
@[go_sem] theorem ltB_self (n : Nat) : ltB n n = false := by rw [ltB_iff]; simp
theorem allOld_capsN (k n m : Nat) (h : m ≤ k) : allOld k n (capsN m) = true := by
  unfold allOld capsN
  rw [List.all_eq_true]
  intro d hd
  obtain ⟨i, hi, rfl⟩ := List.mem_map.1 hd
  rw [old_bp, ltB_iff]
  have := List.mem_range.1 hi
  simp; omega
@[go_sem] theorem allOld_caps (n m : Nat) : allOld m n (capsN m) = true := allOld_capsN _ _ _ (Nat.le_refl _)
@[go_sem] theorem allOld_caps1 (n m : Nat) : allOld (m + 1) n (capsN m) = true := allOld_capsN _ _ _ (Nat.le_succ _)
end
def whereF (n : Nat) (p : Nat → Bool) : List Int := ((List.range n).filter p).map (fun (i : Nat) => (i : Int))
theorem whereF_succ (n : Nat) (p : Nat → Bool) : whereF (n + 1) p = if p n = true then whereF n p ++ [(n : Int)] else whereF n p := by
  unfold whereF
  rw [List.range_succ, List.filter_append, List.map_append]
  by_cases h : p n = true <;> simp [h]
theorem whereF_len (n : Nat) (p : Nat → Bool) : (whereF n p).length ≤ n := by
  unfold whereF
  rw [List.length_map]
  have := List.length_filter_le p (List.range n)
  simpa using this
end Go.Ev

namespace Go.Ev
open Go
variable [Lib] [Has1] [Has2]
theorem cellsAre_map {α : Type} (sz : Nat) (f : α → T) (h : ∀ a, lenIs sz (f a).cells = true) : ∀ l : List α, cellsAre sz (l.map f) = true
  | [] => rfl
  | a :: l => by rw [List.map_cons, cellsAre_cons, h, cellsAre_map sz f h l]; rfl
@[go_sem] theorem cellsAre_int (k : IntKind) (l : List Int) : cellsAre 1 (l.map (.int k)) = true := cellsAre_map 1 _ (fun _ => rfl) l
theorem all_lenIs (sz : Nat) : ∀ ts : List T, (ts.all fun e => e.cells.length == sz) = cellsAre sz ts
  | [] => rfl
  | t :: ts => by
    rw [List.all_cons, cellsAre_cons, all_lenIs sz ts]
    congr 1
    rw [Bool.eq_iff_iff, lenIs_iff]; simp
section
variable (H : Heap) (sz : Nat) (ts : List T) (i j : Int)
@[go_sem] theorem opSc_hi : opSc H sz (some (.t (.sl ts))) (some none) (some (some i)) = if 0 ≤ i then (if i ≤ ts.length then (if cellsAre sz ts = true then some (.t (.sl (ts.take i.toNat)), H) else none) else none) else none := by
  simp only [opSc, Option.bind_some, sliceD, bound, all_lenIs, idx]
  by_cases h1 : 0 ≤ i
  · rw [if_pos h1, if_pos h1, Option.bind_some]
    by_cases h2 : i ≤ ts.length
    · rw [if_pos h2]
      by_cases h3 : cellsAre sz ts = true
      · rw [if_pos h3, if_pos ⟨by omega, by omega, h3⟩]; rfl
      · rw [if_neg h3, if_neg fun h => h3 h.2.2]; rfl
    · rw [if_neg h2, if_neg fun h => h2 (by omega)]; rfl
  · rw [if_neg h1, if_neg h1]; rfl
@[go_sem] theorem opSc_lo : opSc H sz (some (.t (.sl ts))) (some (some i)) (some none) = if 0 ≤ i then (if i ≤ ts.length then (if cellsAre sz ts = true then some (.t (.sl (ts.drop i.toNat)), H) else none) else none) else none := by
  simp only [opSc, Option.bind_some, sliceD, bound, all_lenIs, idx]
  by_cases h1 : 0 ≤ i
  · rw [if_pos h1, if_pos h1, Option.bind_some]
    by_cases h2 : i ≤ ts.length
    · rw [if_pos h2]
      by_cases h3 : cellsAre sz ts = true
      · rw [if_pos h3, if_pos ⟨by omega, by omega, h3⟩, List.take_of_length_le (by simp)]; rfl
      · rw [if_neg h3, if_neg fun h => h3 h.2.2]; rfl
    · rw [if_neg h2, if_neg fun h => h2 (by omega)]; rfl
  · rw [if_neg h1, if_neg h1]; rfl
@[go_sem] theorem opSc_lohi : opSc H sz (some (.t (.sl ts))) (some (some i)) (some (some j)) = if 0 ≤ i then (if i ≤ j then (if j ≤ ts.length then (if cellsAre sz ts = true then some (.t (.sl ((ts.drop i.toNat).take (j.toNat - i.toNat))), H) else none) else none) else none) else none := by
  simp only [opSc, Option.bind_some, sliceD, bound, all_lenIs, idx]
  by_cases h1 : 0 ≤ i
  · rw [if_pos h1, if_pos h1, Option.bind_some]
    by_cases h0 : i ≤ j
    · rw [if_pos h0, if_pos (by omega : 0 ≤ j), Option.bind_some]
      by_cases h2 : j ≤ ts.length
      · rw [if_pos h2]
        by_cases h3 : cellsAre sz ts = true
        · rw [if_pos h3, if_pos ⟨by omega, by omega, h3⟩]; rfl
        · rw [if_neg h3, if_neg fun h => h3 h.2.2]; rfl
      · rw [if_neg h2, if_neg fun h => h2 (by omega)]; rfl
    · rw [if_neg h0]
      by_cases h2 : 0 ≤ j
      · rw [if_pos h2, Option.bind_some, if_neg fun h => h0 (by omega)]; rfl
      · rw [if_neg h2]; rfl
  · rw [if_neg h1, if_neg h1]; rfl
end
def bsK (H : Heap) (l : List Nat) : Option T → Option (D × Heap)
  | some t => some (.t (.sl [t]), pins H l)
  | none => none
@[go_sem] theorem bsK_some (H : Heap) (l : List Nat) (t : T) : bsK H l (some t) = some (.t (.sl [t]), pins H l) := (rfl)
@[go_sem] theorem opBs_agg (H : Heap) (sz : Nat) (cs : List D) : opBs H sz [.agg cs] = if lenIs sz cs = true then bsK H (arrs H 8 (.agg cs)) (frz H 8 (.agg cs)) else none := by
  simp only [opBs, List.all_cons, List.all_nil, Bool.and_true, D.cells]
  by_cases h : lenIs sz cs = true
  · rw [if_pos h, if_pos (by simpa using lenIs_iff.1 h)]
    simp only [mapO, depth, List.flatMap_cons, List.flatMap_nil, List.append_nil]
    cases frz H 8 (.agg cs) <;> rfl
  · rw [if_neg h, if_neg (by intro e; exact h (lenIs_iff.2 (by simpa using e)))]
@[go_sem] theorem opBs_ref (H : Heap) (id ep n : Nat) : opBs H 1 [.ref id ep n] = bsK H (arrs H 8 (.ref id ep n)) (frz H 8 (.ref id ep n)) := by
  simp only [opBs, List.all_cons, List.all_nil, Bool.and_true, D.cells, List.length_cons, List.length_nil, beq_self_eq_true, if_true, mapO, depth, List.flatMap_cons, List.flatMap_nil, List.append_nil]
  cases frz H 8 (.ref id ep n) <;> rfl
def backR (H : Heap) (r : D) (os : Heap) : D × Heap := (r, H ++ os)
@[go_sem] theorem backR_eq (H : Heap) (r : D) (os : Heap) : backR H r os = (r, H ++ os) := (rfl)
def backQ (H : Heap) (os : Heap) (r : D) : Option (D × Heap) := (mapO (renObj (backTo [] H.length)) os).map (backR H r)
@[go_sem] theorem backQ_eq (H : Heap) (os : Heap) (r : D) : backQ H os r = (mapO (renObj (backTo [] H.length)) os).map (backR H r) := (rfl)
@[go_sem] theorem backP_new (H : Heap) (r : D) (o : Obj) (os : Heap) : backP H (r, o :: os) = (ren (backTo [] H.length) 8 r).bind (backQ H (o :: os)) := by
  simp only [backP, List.isEmpty_cons, Bool.and_false, Bool.false_eq_true, if_false]
  rfl
end Go.Ev

namespace Go.Ev
open Go
variable [Lib] [Has1] [Has2]
structure Place where
  h : Int
  surf : Bool
instance : Dat Place := ⟨⟨0, false⟩⟩
abbrev Place.e (p : Place) : T := .agg [tI p.h, .bool p.surf]
structure Road where
  frm : Int
  to : Int
  len : Int
  area : Int
  walk : Bool
  closed : Bool
  restL : Int
  restH : Int
  liftL : Int
  liftH : Int
instance : Dat Road := ⟨⟨0, 0, 0, 0, false, false, 0, 0, 0, 0⟩⟩
abbrev Road.e (r : Road) : T := .agg [tI r.frm, tI r.to, tI r.len, tI r.area, .bool r.walk, .bool r.closed, tI r.restL, tI r.restH, tI r.liftL, tI r.liftH]
structure Mine where
  places : List Place
  roads : List Road
instance : Dat Mine := ⟨⟨[], []⟩⟩
abbrev Mine.e (m : Mine) : T := .agg [.sl (m.places.map Place.e), .sl (m.roads.map Road.e)]
structure Road.ok (n : Nat) (r : Road) : Prop where
  f0 : 0 ≤ r.frm
  f1 : r.frm < n
  t0 : 0 ≤ r.to
  t1 : r.to < n
  ne : r.frm ≠ r.to
  l0 : 1 ≤ r.len
  l1 : r.len ≤ 100000
  a0 : 1 ≤ r.area
  a1 : r.area ≤ 1000
  r0 : 1 ≤ r.restL
  r1 : r.restL ≤ r.restH
  r2 : r.restH ≤ 262144
  i0 : -2199023255552 ≤ r.liftL
  i1 : r.liftL ≤ r.liftH
  i2 : r.liftH ≤ 2199023255552
structure Mine.ok (m : Mine) : Prop where
  np : m.places.length ≤ 64
  nr : m.roads.length ≤ 128
  hs : ∀ p ∈ m.places, -10000 ≤ p.h ∧ p.h ≤ 10000
  rs : ∀ r ∈ m.roads, r.ok m.places.length
end Go.Ev

namespace Go.Ev
open Go
variable [Lib] [Has1] [Has2]
theorem any_nth {l : List Int} {p : Int → Bool} : ((List.range l.length).find? fun j => p (nth l j)).isSome = l.any p := by
  rw [List.isSome_find?, Bool.eq_iff_iff, List.any_eq_true, List.any_eq_true]
  constructor
  · rintro ⟨j, hj, h⟩
    exact ⟨_, nth_mem (List.mem_range.1 hj), h⟩
  · rintro ⟨x, hx, h⟩
    obtain ⟨j, hj⟩ := List.mem_iff_getElem?.1 hx
    exact ⟨j, List.mem_range.2 (List.getElem?_eq_some_iff.1 hj).1, by rw [nth_eq hj]; exact h⟩
theorem has_ok (l : List Int) (x : Int) (hl : l.length ≤ 4294967296) : CALL 0 N.ref23_Has [.t (tL l), I x] [] = some (B (decide (x ∈ l)), []) := by
  refine CALL_of K.t_ref23_Has rfl ?_
  have loop : ∀ a : D, exS CALL K.ref23_Has_l1 ⟨[.t (tL l), I x, a, I 0], []⟩ =
      some (match (List.range l.length).find? (fun j => decide (nth l j = x)) with
        | some j => (.ret, ⟨[.t (tL l), I x, B true, I j], []⟩)
        | none => (.exit 0, ⟨[.t (tL l), I x, .und, I l.length], []⟩)) := by
    intro a
    refine loop_first (fun j => ⟨[.t (tL l), I x, .und, I j], []⟩) l.length (fun j => decide (nth l j = x)) _ _ rfl ?_ ?_ ?_ (by simp)
    · intro j hj hp
      have hp : ¬ nth l j = x := of_decide_eq_false hp
      simp (disch := omega) only [go_sem, K.ref23_Has_l1b, ↓reduceIte]
    · intro j hj hp
      have hp : nth l j = x := of_decide_eq_true hp
      simp (disch := omega) only [go_sem, K.ref23_Has_l1b, ↓reduceIte, hp]
      simp
    · simp (disch := omega) only [go_sem, K.ref23_Has_l1b, ↓reduceIte]
  have e := any_nth (l := l) (p := fun y => decide (y = x))
  have e2 : l.any (fun y => decide (y = x)) = decide (x ∈ l) := by rw [Bool.eq_iff_iff]; simp
  rw [e2] at e
  simp only [go_sem, K.ref23_Has, ↓reduceIte, loop]
  cases hf : (List.range l.length).find? (fun j => decide (nth l j = x)) with
  | some j => rw [hf] at e; simp (disch := omega) only [go_sem, ↓reduceIte, ← e]
  | none => rw [hf] at e; simp (disch := omega) only [go_sem, ↓reduceIte, ← e, Option.isSome_none]
def setB (l : List Int) (n : Int) : Bool := (List.range l.length).all fun j => decide (0 ≤ nth l j ∧ nth l j < n ∧ (0 < j → nth l (j - 1) < nth l j))
theorem find_all {n : Nat} {p : Nat → Bool} : ((List.range n).all p) = ((List.range n).find? fun j => !p j).isNone := by
  rw [← Option.not_isSome, List.isSome_find?, List.not_any_eq_all_not]
  simp
theorem set_ok (l : List Int) (n : Int) (hl : l.length ≤ 4294967296) : CALL 0 N.ref23_Set [.t (tL l), I n] [] = some (B (setB l n), []) := by
  refine CALL_of K.t_ref23_Set rfl ?_
  have loop : ∀ c : D, exS CALL K.ref23_Set_l1 ⟨[.t (tL l), I n, c, I 0], []⟩ =
      some (match (List.range l.length).find? (fun j => !decide (0 ≤ nth l j ∧ nth l j < n ∧ (0 < j → nth l (j - 1) < nth l j))) with
        | some j => (.ret, ⟨[.t (tL l), I n, B false, I j], []⟩)
        | none => (.exit 0, ⟨[.t (tL l), I n, .und, I l.length], []⟩)) := by
    intro c
    refine loop_first (fun j => ⟨[.t (tL l), I n, .und, I j], []⟩) l.length _ _ _ rfl ?_ ?_ ?_ (by simp)
    · intro j hj hp
      simp only [Bool.not_eq_false', decide_eq_true_eq] at hp
      obtain ⟨h1, h2, h3⟩ := hp
      cases j with
      | zero => simp (disch := omega) only [go_sem, K.ref23_Set_l1b, ↓reduceIte]
      | succ j =>
        have h3 := h3 (by omega)
        rw [Nat.add_sub_cancel] at h3
        simp (disch := omega) only [go_sem, K.ref23_Set_l1b, ↓reduceIte]
    · intro j hj hp
      simp only [Bool.not_eq_true', decide_eq_false_iff_not] at hp
      refine ⟨?_, by simp⟩
      by_cases h1 : 0 ≤ nth l j
      · by_cases h2 : nth l j < n
        · cases j with
          | zero => exact absurd ⟨h1, h2, fun h => absurd h (by omega)⟩ hp
          | succ j =>
            have h3 : ¬ nth l j < nth l (j + 1) := fun h => hp ⟨h1, h2, fun _ => by simpa using h⟩
            simp (disch := omega) only [go_sem, K.ref23_Set_l1b, ↓reduceIte]
        · simp (disch := omega) only [go_sem, K.ref23_Set_l1b, ↓reduceIte]
      · simp (disch := omega) only [go_sem, K.ref23_Set_l1b, ↓reduceIte]
    · simp (disch := omega) only [go_sem, K.ref23_Set_l1b, ↓reduceIte]
  have e : setB l n = _ := find_all
  simp only [go_sem, K.ref23_Set, ↓reduceIte, loop]
  cases hf : (List.range l.length).find? (fun j => !decide (0 ≤ nth l j ∧ nth l j < n ∧ (0 < j → nth l (j - 1) < nth l j))) with
  | some j => rw [hf] at e; simp (disch := omega) only [go_sem, ↓reduceIte, e, Option.isNone_some]
  | none => rw [hf] at e; simp (disch := omega) only [go_sem, ↓reduceIte, e, Option.isNone_none]
theorem in_ok (x lo hi : Int) : CALL 0 N.lists_In [I x, I lo, I hi] [] = some (B (decide (lo ≤ x ∧ x ≤ hi)), []) := by
  refine CALL_of K.t_lists_In rfl ?_
  by_cases h1 : lo ≤ x <;> by_cases h2 : x ≤ hi <;> simp (disch := omega) only [go_sem, K.lists_In, ↓reduceIte]
end Go.Ev

namespace Go.Ev
open Go
variable [Lib] [Has1] [Has2]
def walkT (m : Mine) (k : Nat) (back : Bool) (up down level : Int) : Int :=
  let x := nth m.roads k
  if x.closed = true ∨ x.walk = false then -1 else
  let a := if back then x.to else x.frm
  let b := if back then x.frm else x.to
  let rise := (nth m.places b.toNat).h - (nth m.places a.toNat).h
  let speed := if -10 * rise > x.len then down else if 10 * rise > x.len then up else level
  (10 * x.len + speed - 1).tdiv speed
def bnd (l : List Int) : Prop := ∀ x ∈ l, 0 ≤ x ∧ x ≤ 1099511627776
def lowerC (l : List Int) (p q : Nat) (walk t : Int) : Bool :=
  decide (0 ≤ walk) && decide (nth l p < 1099511627776) && decide (max t (nth l p + walk) ≤ 2147483648) && decide (max t (nth l p + walk) < nth l q)
def lowerF (l : List Int) (p q : Nat) (walk t : Int) : List Int := if lowerC l p q walk t = true then l.set q (max t (nth l p + walk)) else l
def inOK (into : Option (List Int)) (p : Int) : Bool := match into with
  | none => true
  | some l => decide (p ∈ l)
def intoD (into : Option (List Int)) : D := match into with
  | none => .nil
  | some l => .t (tL l)
def Road.src (r : Road) (back : Bool) : Int := if back then r.to else r.frm
def Road.dst (r : Road) (back : Bool) : Int := if back then r.frm else r.to
theorem Road.src_ok {n : Nat} {r : Road} (h : r.ok n) (back : Bool) : 0 ≤ r.src back ∧ r.src back < n := by
  unfold Road.src; have := h.f0; have := h.f1; have := h.t0; have := h.t1; cases back <;> simp <;> omega
def halfF (m : Mine) (t : Int) (into : Option (List Int)) (k : Nat) (back : Bool) (l : List Int) : List Int × Bool :=
  if inOK into ((nth m.roads k).dst back) = true then
    (lowerF l ((nth m.roads k).src back).toNat ((nth m.roads k).dst back).toNat (walkT m k back 6 9 12) t, lowerC l ((nth m.roads k).src back).toNat ((nth m.roads k).dst back).toNat (walkT m k back 6 9 12) t)
  else (l, false)
def stepF (m : Mine) (t : Int) (into : Option (List Int)) (k : Nat) (s : List Int × Bool) : List Int × Bool :=
  let a := halfF m t into k false s.1
  let b := halfF m t into k true a.1
  (b.1, s.2 || a.2 || b.2)
def stepsF (m : Mine) (t : Int) (into : Option (List Int)) (l : List Int) : Nat → List Int × Bool
  | 0 => (l, false)
  | k + 1 => stepF m t into k (stepsF m t into l k)
def roundF (m : Mine) (t : Int) (into : Option (List Int)) (l : List Int) : List Int × Bool := stepsF m t into l m.roads.length
theorem bnd_set {l : List Int} (h : bnd l) {q : Nat} {x : Int} (h0 : 0 ≤ x) (h1 : x ≤ 1099511627776) : bnd (l.set q x) := by
  intro y hy
  rcases List.mem_or_eq_of_mem_set hy with hy | hy
  · exact h y hy
  · subst hy; exact ⟨h0, h1⟩
section
variable {m : Mine} (h : m.ok) {t : Int} {into : Option (List Int)}
include h
end
def sumN (l : List Int) : Nat := (l.map Int.toNat).sum
theorem sumN_set : ∀ {l : List Int} {q : Nat} {x : Int}, q < l.length → 0 ≤ x → x < nth l q → sumN (l.set q x) < sumN l
  | [], q, x, h, _, _ => by simp at h
  | a :: l, 0, x, _, h0, h1 => by
    have h1 : x < a := by simpa [nth] using h1
    simp only [sumN, List.set_cons_zero, List.map_cons, List.sum_cons]; omega
  | a :: l, q + 1, x, h, h0, h1 => by
    have := sumN_set (l := l) (q := q) (x := x) (by simpa using h) h0 (by simpa [nth] using h1)
    simp only [sumN, List.set_cons_succ, List.map_cons, List.sum_cons] at this ⊢; omega
section
variable {m : Mine} (h : m.ok) {t : Int} {into : Option (List Int)}
include h
end
end Go.Ev

namespace Go.Ev
open Go
variable [Lib] [Has1] [Has2]
abbrev mineCells (m : Mine) : List D := [.t (.sl (m.places.map Place.e)), .t (.sl (m.roads.map Road.e))]
@[go_sem] theorem old_intoD (k n : Nat) (into : Option (List Int)) : old k n (intoD into) = true := by
  cases into <;> simp only [intoD, go_sem]
end Go.Ev

namespace Go.Ev
open Go
variable [Lib] [Has1] [Has2]
structure Wh where
  time : Int
  frm : List Int
instance : Dat Wh := ⟨⟨0, []⟩⟩
abbrev Wh.e (w : Wh) : T := .agg [tI w.time, tL w.frm]
def closeF (m : Mine) (t : Int) (into : Option (List Int)) (l : List Int) : List Int := closeN (roundF m t into) (sumN l + 1) l
def inT (t : Int) : Prop := 0 ≤ t ∧ t ≤ 2147483648
instance (t : Int) : Decidable (inT t) := by unfold inT; infer_instance
def plT (x : Int) : Prop := x = 1099511627776 ∨ inT x
instance (t : Int) : Decidable (plT t) := by unfold plT; infer_instance
end Go.Ev

namespace Go.Ev
open Go
variable [Lib] [Has1] [Has2]
def neverL (n : Nat) : List Int := List.replicate n 1099511627776
@[simp] theorem neverL_len (n : Nat) : (neverL n).length = n := List.length_replicate
def startF (m : Mine) (p t : Int) : Wh × Int :=
  if p < 0 ∨ (m.places.length : Int) ≤ p then (⟨0, []⟩, 3) else if inT t then (⟨t, closeF m t none ((neverL m.places.length).set p.toNat t)⟩, 0) else (⟨0, []⟩, 8)
end Go.Ev

namespace Go.Ev
open Go
variable [Lib] [Has1] [Has2]
end Go.Ev

namespace Go.Ev
open Go
variable [Lib] [Has1] [Has2]
def minN (a b : List Int) : Nat → List Int
  | 0 => []
  | j + 1 => minN a b j ++ [min (nth a j) (nth b j)]
def joinF (a b : Wh) : Wh × Int := if a.frm.length = b.frm.length then (⟨max a.time b.time, minN a.frm b.frm a.frm.length⟩, 0) else (⟨0, []⟩, 6)
end Go.Ev

namespace Go.Ev
open Go
variable [Lib] [Has1] [Has2]
theorem set_nthW {α : Type} [Dat α] (l : List α) (k : Nat) (hk : k < l.length) (x : α) (j : Nat) : nth (l.set k x) j = if j = k then x else nth l j := by
  unfold nth
  by_cases h : j = k
  · subst h; rw [if_pos rfl]; simp [hk]
  · rw [if_neg h]
    have : ¬ k = j := fun e => h e.symm
    simp [List.getElem?_set, this]
theorem ext_nthW {α : Type} [Dat α] {a b : List α} (h : a.length = b.length) (e : ∀ j, j < a.length → nth a j = nth b j) : a = b := by
  apply List.ext_getElem h
  intro j h1 h2
  have := e j h1
  rwa [nth_eq (List.getElem?_eq_getElem h1), nth_eq (List.getElem?_eq_getElem h2)] at this
theorem closeN_fixW {α : Type} {f : α → α × Bool} (P : α → Prop) (mes : α → Nat) (hP : ∀ l, P l → P (f l).1 ∧ ((f l).2 = true → mes (f l).1 < mes l) ∧ ((f l).2 = false → (f l).1 = l)) : ∀ n l, P l → mes l < n → (f (closeN f n l)).2 = false ∧ P (closeN f n l)
  | 0, l, _, h => by omega
  | n + 1, l, hp, h => by
    obtain ⟨h1, h2, h3⟩ := hP l hp
    unfold closeN
    cases hf : (f l).2 with
    | true =>
      rw [if_pos rfl]
      have := h2 hf
      exact closeN_fixW P mes hP n _ h1 (by omega)
    | false =>
      rw [if_neg (by simp), h3 hf]
      exact ⟨hf, hp⟩
section
variable {m : Mine} (h : m.ok) {t : Int} {into : Option (List Int)}
include h
end
end Go.Ev

