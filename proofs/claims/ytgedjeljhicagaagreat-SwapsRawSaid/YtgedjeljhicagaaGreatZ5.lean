/- Parts of the proof: see the text that holds the theorem. -/
import Derived.Test.YtgedjeljhicagaaGreatZ4
set_option linter.all false
set_option maxRecDepth 100000
namespace Go.Ev
open Go
variable [Lib] [Has1] [Has2]
def tagsN : Nat → List Int
 | 0 => []
 | k + 1 => tagsN k ++ [3 + (k : Int) * 2]
def Dice.nextsN (d : Dice) (n : Int) : Nat → List Int × Dice
 | 0 => ([], d)
 | k + 1 => ((d.nextsN n k).1 ++ [((d.nextsN n k).2.next n).1], ((d.nextsN n k).2.next n).2)
structure BSt where
 b : Bel
 t : Int
 d : Dice
def Dice.belStep (m : Mine) (n : Int) (s : BSt) : BSt :=
 let a := s.d.next 60
 let c := a.2.next 3
 if c.1 = 0 then
  let i := c.2.next n
  let j := i.2.next n
  let r := exchBel m s.b i.1 j.1 (s.t + a.1)
  ⟨if r.2 = 0 then r.1 else s.b, s.t + a.1, j.2⟩
 else if c.1 = 1 then
  let g := c.2.next n
  let l := g.2.someN m.places.length
  let e := l.2.next 9
  let r := seeBel m s.b (3 + 2 * g.1) l.1 (s.t + a.1) (s.t + a.1 + e.1)
  ⟨if r.2 = 0 then r.1 else s.b, s.t + a.1, e.2⟩
 else
  let g := c.2.next n
  let l := g.2.someN m.places.length
  let e := l.2.next 40
  let r := absBel m s.b (3 + 2 * g.1) l.1 (s.t + a.1) (s.t + a.1 + 50) e.1
  ⟨if r.2 = 0 then r.1 else s.b, s.t + a.1, e.2⟩
def Dice.belN (m : Mine) (n : Int) (s : BSt) : Nat → BSt
 | 0 => s
 | k + 1 => Dice.belStep m n (Dice.belN m n s k)
def Dice.belP (d : Dice) : Nat := (1 + (d.next 3).1).toNat
def Dice.belS (d : Dice) (m : Mine) : List Int × Dice := (d.next 3).2.nextsN m.places.length d.belP
def Dice.bel0 (d : Dice) (m : Mine) : BSt := ⟨(startBel m (tagsN d.belP) (d.belS m).1 ((d.belS m).2.next 100).1).1, 100, (((d.belS m).2.next 100).2.next 5).2⟩
def Dice.belK (d : Dice) (m : Mine) : Nat := (((d.belS m).2.next 100).2.next 5).1.toNat
def Dice.belF (d : Dice) (m : Mine) : BSt := Dice.belN m d.belP (d.bel0 m) (d.belK m)
def Dice.belief (d : Dice) (m : Mine) : Bel × Dice := ((d.belF m).b, (d.belF m).d)
structure WOk (m : Mine) (N : Nat) (x : World) : Prop where
 tg : x.tags.length = N
 wh : x.whr.length = N
 fr : ∀ w ∈ x.whr, w.frm.length = m.places.length
 ti : ∀ w ∈ x.whr, inT w.time
structure BOk (m : Mine) (N : Nat) (b : Bel) : Prop where
 w1 : 1 ≤ b.worlds.length
 w2 : b.worlds.length ≤ 24
 n1 : 1 ≤ N
 n2 : N ≤ 12
 ws : ∀ x ∈ b.worlds, WOk m N x
theorem WOk.sz {m : Mine} {N : Nat} {x : World} (h : WOk m N x) (hm : m.ok) (hn : N ≤ 12) : x.sz := by
 have np := hm.np
 obtain ⟨t1, t2, t3, -⟩ := h
 exact ⟨by omega, by omega, fun w hw => by rw [t3 w hw]; omega⟩
theorem BOk.sz {m : Mine} {N : Nat} {b : Bel} (h : BOk m N b) (hm : m.ok) : b.sz :=
 ⟨by have := h.w2; omega, fun x hx => (h.ws x hx).sz hm h.n2⟩
def Dice.spread (d : Dice) (m : Mine) (fl : List Spn) : Wh × Dice :=
 let p := d.next m.places.length
 let t := p.2.next 200
 let s := startS m fl [p.1] t.1
 let o := t.2.one 2
 if o.1 = true then
  let f := o.2.flows m
  let a := f.2.next 100
  let r := changeS m fl m f.1 s.1 (s.1.time + a.1)
  if r.2 = 0 then (r.1, a.2) else (s.1, a.2)
 else (s.1, o.2)
structure Mch where
 kind : Int
 num : Int
 pl : List Int
instance : Dat Mch := ⟨⟨0, 0, []⟩⟩
abbrev Mch.e (x : Mch) : T := .agg [tI x.kind, tI x.num, tL x.pl]
theorem mem_whereF {n : Nat} {p : Nat → Bool} {x : Int} : x ∈ whereF n p ↔ ∃ k : Nat, x = k ∧ k < n ∧ p k = true := by
 unfold whereF
 simp only [List.mem_map, List.mem_filter, List.mem_range]
 constructor
 · rintro ⟨k, ⟨h1, h2⟩, rfl⟩; exact ⟨k, rfl, h1, h2⟩
 · rintro ⟨k, rfl, h1, h2⟩; exact ⟨k, ⟨h1, h2⟩, rfl⟩
theorem mem_whereF_nat {n : Nat} {p : Nat → Bool} {k : Nat} : (k : Int) ∈ whereF n p ↔ k < n ∧ p k = true := by
 rw [mem_whereF]
 constructor
 · rintro ⟨j, h, h1, h2⟩
   obtain rfl : k = j := by omega
   exact ⟨h1, h2⟩
 · rintro ⟨h1, h2⟩; exact ⟨k, rfl, h1, h2⟩
theorem indexFuncW_ok (l : List World) (hl : l.length ≤ 4294967296) (f : Nat) (bs : List (List T)) (p : World → Bool) (h : ∀ x, x ∈ l → CALL 0 f (.t x.e :: capsN bs.length) (boxesT bs) = some (B (p x), boxesT bs)) :
 CALL 0 N.slices_IndexFunc_api_World_api_World [.t (.sl (l.map World.e)), .fn f (capsN bs.length)] (boxesT bs) =
 some (I (match (List.range l.length).find? (fun j => p (nth l j)) with | some j => (j : Int) | none => -1), boxesT bs) := by
 refine CALL_of K.t_slices_IndexFunc_api_World_api_World rfl ?_
 have loop : ∀ a b : D, exS CALL K.slices_IndexFunc_api_World_api_World_l1 ⟨[.t (.sl (l.map World.e)), .fn f (capsN bs.length), a, b, I l.length, I 0], boxesT bs⟩ =
  some (match (List.range l.length).find? (fun j => p (nth l j)) with
   | some j => (.ret, ⟨[.t (.sl (l.map World.e)), .fn f (capsN bs.length), I j, I j, I l.length, I j], boxesT bs⟩)
   | none => (.exit 0, ⟨[.t (.sl (l.map World.e)), .fn f (capsN bs.length), .und, .und, I l.length, I l.length], boxesT bs⟩)) := by
  intro a b
  refine loop_first (fun j => ⟨[.t (.sl (l.map World.e)), .fn f (capsN bs.length), .und, .und, I l.length, I j], boxesT bs⟩) l.length (fun j => p (nth l j)) _ _ rfl ?_ ?_ ?_ (by simp)
  · intro j hj hp
    have hc := clos_call0 (h _ (nth_mem hj)) rfl
    simp (disch := omega) only [go_sem, K.slices_IndexFunc_api_World_api_World_l1b, ↓reduceIte, hc, hp]
  · intro j hj hp
    have hc := clos_call0 (h _ (nth_mem hj)) rfl
    simp (disch := omega) only [go_sem, K.slices_IndexFunc_api_World_api_World_l1b, ↓reduceIte, hp, hc]
    simp
  · simp (disch := omega) only [go_sem, K.slices_IndexFunc_api_World_api_World_l1b, ↓reduceIte]
 simp (disch := omega) only [go_sem, K.slices_IndexFunc_api_World_api_World, ↓reduceIte, loop]
 cases hf : (List.range l.length).find? (fun j => p (nth l j)) with
 | some j => simp (disch := omega) only [go_sem, ↓reduceIte]
 | none => simp (disch := omega) only [go_sem, ↓reduceIte]
theorem any_nthW {α : Type} [Dat α] {l : List α} {p : α → Bool} : ((List.range l.length).find? fun j => p (nth l j)).isSome = l.any p := by
 rw [List.isSome_find?, Bool.eq_iff_iff, List.any_eq_true, List.any_eq_true]
 constructor
 · rintro ⟨j, hj, h⟩
   exact ⟨_, nth_mem (List.mem_range.1 hj), h⟩
 · rintro ⟨x, hx, h⟩
   obtain ⟨j, hj⟩ := List.mem_iff_getElem?.1 hx
   exact ⟨j, List.mem_range.2 (List.getElem?_eq_some_iff.1 hj).1, by rw [nth_eq hj]; exact h⟩
theorem any_range {α : Type} [Dat α] (l : List α) (p : α → Bool) : l.any p = (List.range l.length).any fun i => p (nth l i) := by
 rw [← any_nthW, List.isSome_find?]
theorem containsFuncW_ok (l : List World) (hl : l.length ≤ 4294967296) (f : Nat) (bs : List (List T)) (p : World → Bool) (h : ∀ x, x ∈ l → CALL 0 f (.t x.e :: capsN bs.length) (boxesT bs) = some (B (p x), boxesT bs)) :
 CALL 0 N.slices_ContainsFunc_api_World_api_World [.t (.sl (l.map World.e)), .fn f (capsN bs.length)] (boxesT bs) = some (B (l.any p), boxesT bs) := by
 refine CALL_of K.t_slices_ContainsFunc_api_World_api_World rfl ?_
 have h := indexFuncW_ok l hl f bs p h
 have hc := opCa_clos2 CALL bs f _ 0 (.sl (l.map World.e)) h rfl
 have e := any_nthW (l := l) (p := p)
 cases hf : (List.range l.length).find? (fun j => p (nth l j)) with
 | some j => rw [hf] at e hc; simp (disch := omega) only [go_sem, K.slices_ContainsFunc_api_World_api_World, ↓reduceIte, ← e, hc]
 | none => rw [hf] at e hc; simp (disch := omega) only [go_sem, K.slices_ContainsFunc_api_World_api_World, ↓reduceIte, ← e, hc, Option.isSome_none]
def mayW (person t : Int) (p : Nat) (x : World) : Bool := decide (0 ≤ person ∧ person < x.whr.length) && (decide (p < (nth x.whr person.toNat).frm.length) && decide (nth (nth x.whr person.toNat).frm p ≤ t))
theorem poss11_ok (x : World) (hx : x.sz) (person t : Int) (p : Nat) (hp : p ≤ 1000000) :
 CALL 0 N.swaps_Possible_1_1 [.t x.e, .bp 0 0, .bp 1 0, .bp 2 0] [.box [I person], .box [I p], .box [I t]] = some (B (mayW person t p x), [.box [I person], .box [I p], .box [I t]]) := by
 refine CALL_of K.t_swaps_Possible_1_1 rfl ?_
 have li := in_ok person 0 (x.whr.length - 1)
 obtain ⟨h1, h2, h3⟩ := hx
 unfold mayW
 by_cases c : 0 ≤ person ∧ person < x.whr.length
 · obtain ⟨c1, c2⟩ := c
   have e1 : (x.whr.map Wh.e)[person.toNat]? = some (nth x.whr person.toNat).e := map_nth _ (by omega)
   have h4 := h3 _ (nth_mem (l := x.whr) (j := person.toNat) (by omega))
   have li' : decide (0 ≤ person ∧ person ≤ (x.whr.length : Int) - 1) = true := by simp; omega
   rw [li'] at li
   generalize nth x.whr person.toNat = w at *
   obtain ⟨tags, whr⟩ := x
   obtain ⟨time, frm⟩ := w
   simp only at *
   by_cases c3 : p < frm.length
   · simp (disch := omega) only [go_sem, K.swaps_Possible_1_1, ↓reduceIte, Nat.reduceAdd, Nat.reduceSub, li, e1, c1, c2, c3, and_self]
   · simp (disch := omega) only [go_sem, K.swaps_Possible_1_1, ↓reduceIte, Nat.reduceAdd, Nat.reduceSub, li, e1, c1, c2, c3, and_self]
 · have li' : decide (0 ≤ person ∧ person ≤ (x.whr.length : Int) - 1) = false := by simp; omega
   rw [li'] at li
   obtain ⟨tags, whr⟩ := x
   simp only at *
   simp (disch := omega) only [go_sem, K.swaps_Possible_1_1, ↓reduceIte, Nat.reduceAdd, Nat.reduceSub, li, c]
theorem poss1_ok (b : Bel) (hb : b.sz) (person t : Int) (p : Nat) (hp : p ≤ 1000000) :
 CALL 0 N.swaps_Possible_1 [I p, .bp 0 0, .bp 1 0, .bp 2 0] [.box [.t (.sl (b.worlds.map World.e))], .box [I person], .box [I t]] = some (B (b.worlds.any (mayW person t p)), [.box [.t (.sl (b.worlds.map World.e))], .box [I person], .box [I t]]) := by
 refine CALL_of K.t_swaps_Possible_1 rfl ?_
 have cf := containsFuncW_ok b.worlds (by have := hb.1; omega) N.swaps_Possible_1_1 [[tI person], [tI p], [tI t]] (mayW person t p) (fun x hx => poss11_ok x (hb.2 x hx) person t p hp)
 have cf : CALL 0 N.slices_ContainsFunc_api_World_api_World [.t (.sl (b.worlds.map World.e)), .fn N.swaps_Possible_1_1 [.bp 0 0, .bp 1 0, .bp 2 0]] [.box [I person], .box [I p], .box [I t]] = some (B (b.worlds.any (mayW person t p)), [.box [I person], .box [I p], .box [I t]]) := cf
 simp (disch := omega) only [go_sem, K.swaps_Possible_1, ↓reduceIte, Nat.reduceAdd, Nat.reduceSub, cf]
theorem mayW_mayB (b : Bel) (person t : Int) (p : Nat) : b.worlds.any (mayW person t p) = mayB b person t p := by
 unfold mayB
 rw [any_range]
 congr 1
 funext i
 unfold mayW
 congr 1
 rw [Bool.eq_iff_iff]
 simp only [Bool.and_eq_true, decide_eq_true_eq, possF, mem_whereF_nat]
theorem possible_ok (b : Bel) (hb : b.sz) (person t : Int) : CALL 0 N.swaps_Possible [.t b.e, I person, I t] [] = some (.t (tL (possB b person t)), []) := by
 refine CALL_of K.t_swaps_Possible rfl ?_
 have wh := where_ok 64 (by omega) N.swaps_Possible_1 [[.sl (b.worlds.map World.e)], [tI person], [tI t]] (mayB b person t) (fun p hp => by rw [← mayW_mayB]; exact poss1_ok b hb person t p (by omega))
 have wh : CALL 0 N.lists_Where [I 64, .fn N.swaps_Possible_1 [.bp 0 0, .bp 1 0, .bp 2 0]] [.box [.t (.sl (b.worlds.map World.e))], .box [I person], .box [I t]] = some (.t (tL (possB b person t)), [.box [.t (.sl (b.worlds.map World.e))], .box [I person], .box [I t]]) := wh
 obtain ⟨ws⟩ := b
 simp only at wh
 generalize possB ⟨ws⟩ person t = r at *
 simp (disch := omega) only [go_sem, K.swaps_Possible, ↓reduceIte, wh, Nat.reduceAdd, Nat.reduceSub]
theorem possB_len (b : Bel) (person t : Int) : (possB b person t).length ≤ 64 := whereF_len _ _
theorem possF_len (s : Wh) (t : Int) : (possF s t).length ≤ s.frm.length := whereF_len _ _
end Go.Ev
namespace Go.Ev
open Go
variable [Lib] [Has1] [Has2] [Has3] [Has4] [Has5] [Has6] [Has7] [Has8] [Has9] [Has10] [Has11]
theorem indexFuncH_ok (l : List Wh) (hl : l.length ≤ 4294967296) (f : Nat) (bs : List (List T)) (p : Wh → Bool) (h : ∀ x, x ∈ l → CALL 0 f (.t x.e :: capsN bs.length) (boxesT bs) = some (B (p x), boxesT bs)) :
 CALL 0 N.slices_IndexFunc_api_Whereabouts_api_Whereabouts [.t (.sl (l.map Wh.e)), .fn f (capsN bs.length)] (boxesT bs) =
 some (I (match (List.range l.length).find? (fun j => p (nth l j)) with | some j => (j : Int) | none => -1), boxesT bs) := by
 refine CALL_of K.t_slices_IndexFunc_api_Whereabouts_api_Whereabouts rfl ?_
 have loop : ∀ a b : D, exS CALL K.slices_IndexFunc_api_Whereabouts_api_Whereabouts_l1 ⟨[.t (.sl (l.map Wh.e)), .fn f (capsN bs.length), a, b, I l.length, I 0], boxesT bs⟩ =
  some (match (List.range l.length).find? (fun j => p (nth l j)) with
   | some j => (.ret, ⟨[.t (.sl (l.map Wh.e)), .fn f (capsN bs.length), I j, I j, I l.length, I j], boxesT bs⟩)
   | none => (.exit 0, ⟨[.t (.sl (l.map Wh.e)), .fn f (capsN bs.length), .und, .und, I l.length, I l.length], boxesT bs⟩)) := by
  intro a b
  refine loop_first (fun j => ⟨[.t (.sl (l.map Wh.e)), .fn f (capsN bs.length), .und, .und, I l.length, I j], boxesT bs⟩) l.length (fun j => p (nth l j)) _ _ rfl ?_ ?_ ?_ (by simp)
  · intro j hj hp
    have hc := clos_call0 (h _ (nth_mem hj)) rfl
    simp (disch := omega) only [go_sem, K.slices_IndexFunc_api_Whereabouts_api_Whereabouts_l1b, ↓reduceIte, hc, hp]
  · intro j hj hp
    have hc := clos_call0 (h _ (nth_mem hj)) rfl
    simp (disch := omega) only [go_sem, K.slices_IndexFunc_api_Whereabouts_api_Whereabouts_l1b, ↓reduceIte, hp, hc]
    simp
  · simp (disch := omega) only [go_sem, K.slices_IndexFunc_api_Whereabouts_api_Whereabouts_l1b, ↓reduceIte]
 simp (disch := omega) only [go_sem, K.slices_IndexFunc_api_Whereabouts_api_Whereabouts, ↓reduceIte, loop]
 cases hf : (List.range l.length).find? (fun j => p (nth l j)) with
 | some j => simp (disch := omega) only [go_sem, ↓reduceIte]
 | none => simp (disch := omega) only [go_sem, ↓reduceIte]
theorem containsFuncH_ok (l : List Wh) (hl : l.length ≤ 4294967296) (f : Nat) (bs : List (List T)) (p : Wh → Bool) (h : ∀ x, x ∈ l → CALL 0 f (.t x.e :: capsN bs.length) (boxesT bs) = some (B (p x), boxesT bs)) :
 CALL 0 N.slices_ContainsFunc_api_Whereabouts_api_Whereabouts [.t (.sl (l.map Wh.e)), .fn f (capsN bs.length)] (boxesT bs) = some (B (l.any p), boxesT bs) := by
 refine CALL_of K.t_slices_ContainsFunc_api_Whereabouts_api_Whereabouts rfl ?_
 have h := indexFuncH_ok l hl f bs p h
 have hc := opCa_clos2 CALL bs f _ 0 (.sl (l.map Wh.e)) h rfl
 have e := any_nthW (l := l) (p := p)
 cases hf : (List.range l.length).find? (fun j => p (nth l j)) with
 | some j => rw [hf] at e hc; simp (disch := omega) only [go_sem, K.slices_ContainsFunc_api_Whereabouts_api_Whereabouts, ↓reduceIte, ← e, hc]
 | none => rw [hf] at e hc; simp (disch := omega) only [go_sem, K.slices_ContainsFunc_api_Whereabouts_api_Whereabouts, ↓reduceIte, ← e, hc, Option.isSome_none]
theorem properB_iff {l : List Int} : properB l = true ↔ l.Nodup ∧ ∀ x ∈ l, 1 ≤ x ∧ x ≤ 65535 := by
 constructor
 · intro h
   refine ⟨properB_nodup h, fun x hx => ?_⟩
   simp only [properB, List.all_eq_true, List.mem_range, properN, decide_eq_true_eq] at h
   obtain ⟨j, hj⟩ := List.mem_iff_getElem?.1 hx
   have := h j (List.getElem?_eq_some_iff.1 hj).1
   rw [nth_eq hj] at this
   exact ⟨this.1, this.2.1⟩
 · rintro ⟨h1, h2⟩
   simp only [properB, List.all_eq_true, List.mem_range, properN, decide_eq_true_eq]
   intro j hj
   obtain ⟨a, b⟩ := h2 _ (nth_mem hj)
   refine ⟨a, b, Decidable.byContradiction fun c => ?_⟩
   obtain ⟨d, e⟩ := bearerF_lt (l := l.take j) (x := nth l j) (by omega)
   have z : 0 ≤ bearerF (l.take j) (nth l j) := by omega
   generalize bearerF (l.take j) (nth l j) = k at *
   rw [List.length_take] at d
   have k1 : k.toNat < j := by omega
   have e1 : (l.take j)[k.toNat]? = l[k.toNat]? := List.getElem?_take_of_lt k1
   have e2 : l[k.toNat]? = some l[k.toNat] := List.getElem?_eq_getElem (by omega)
   rw [nth_eq (e1.trans e2), ← nth_eq e2] at e
   have n2 := (List.getElem?_inj (by omega : k.toNat < l.length) h1).1 (show l[k.toNat]? = l[j]? by rw [nth_some (by omega), nth_some hj, e])
   omega
theorem risB_iff {l : List Int} {lo hi : Int} : risB l lo hi = true ↔ l.Pairwise (· < ·) ∧ ∀ x ∈ l, lo ≤ x ∧ x ≤ hi := by
 have e : risB l lo hi = true ↔ ∀ j, j < l.length → lo ≤ nth l j ∧ nth l j ≤ hi ∧ (0 < j → nth l (j - 1) < nth l j) := by
  simp only [risB, Bool.not_eq_true', List.any_eq_false, List.mem_range, risP, Bool.not_eq_true]
  constructor
  · intro h j hj
    have := h j hj
    exact Decidable.byContradiction fun c => this (decide_eq_false c)
  · intro h j hj c
    exact (of_decide_eq_false c) (h j hj)
 rw [e]
 constructor
 · intro h
   refine ⟨?_, fun x hx => ?_⟩
   · have key : ∀ d i, i + d + 1 < l.length → nth l i < nth l (i + d + 1) := by
      intro d
      induction d with
      | zero => intro i hi; have := (h (i + 0 + 1) hi).2.2 (by omega); simpa using this
      | succ d ih =>
        intro i hi
        have a := ih i (by omega)
        have b := (h (i + (d + 1) + 1) hi).2.2 (by omega)
        rw [show i + (d + 1) + 1 - 1 = i + d + 1 by omega] at b
        omega
     rw [List.pairwise_iff_getElem]
     intro i j hi hj hij
     have := key (j - i - 1) i (by omega)
     rw [show i + (j - i - 1) + 1 = j by omega, nth_eq (List.getElem?_eq_getElem hi), nth_eq (List.getElem?_eq_getElem hj)] at this
     exact this
   · obtain ⟨j, hj⟩ := List.mem_iff_getElem?.1 hx
     have := h j (List.getElem?_eq_some_iff.1 hj).1
     rw [nth_eq hj] at this
     exact ⟨this.1, this.2.1⟩
 · rintro ⟨h1, h2⟩ j hj
   refine ⟨(h2 _ (nth_mem hj)).1, (h2 _ (nth_mem hj)).2, fun h0 => ?_⟩
   have := (List.pairwise_iff_getElem.1 h1) (j - 1) j (by omega) hj (by omega)
   rwa [← nth_eq (List.getElem?_eq_getElem (by omega : j - 1 < l.length)), ← nth_eq (List.getElem?_eq_getElem hj)] at this
theorem ris_proper (l : List Int) : risB (sortI l) 1 65535 = properB l := by
 rw [Bool.eq_iff_iff, risB_iff, properB_iff]
 have p := sortI_perm l
 have u := sortI_up l
 constructor
 · rintro ⟨h1, h2⟩
   refine ⟨p.nodup_iff.1 (h1.imp fun h => by omega), fun x hx => h2 x (p.mem_iff.2 hx)⟩
 · rintro ⟨h1, h2⟩
   have nd : (sortI l).Nodup := p.nodup_iff.2 h1
   refine ⟨?_, fun x hx => h2 x (p.mem_iff.1 hx)⟩
   have := List.Pairwise.and u nd
   exact this.imp fun h => by omega
theorem tagged_ok (l : List Int) (hl : l.length ≤ 1000000) : CALL 0 N.swaps_tagged [.t (tL l)] [] = some (B (properB l), []) := by
 refine CALL_of K.t_swaps_tagged rfl ?_
 have v := values_ok l
 have s := sorted_ok l hl
 have r := rising_ok (sortI l) 1 65535 (by rw [sortI_len]; omega)
 rw [ris_proper] at r
 simp (disch := omega) only [go_sem, K.swaps_tagged, ↓reduceIte, v, s, r, Nat.reduceAdd, Nat.reduceSub]
end Go.Ev
namespace Go.Ev
open Go
variable [Lib] [Has1] [Has2] [Has6] [Has7] [Has8] [Has9]
def smE (into : Option (List Int)) : Heap := match into with
 | none => []
 | some s => [.box [.t (tL s)]]
def smD (into : Option (List Int)) : D := match into with
 | none => .fn N.places_all []
 | some _ => .fn N.places_Absent_1 [.bp 5 0]
def smK (into : Option (List Int)) : Nat := match into with
 | none => 5
 | some _ => 6
@[go_sem] theorem ixAt_1 (H : Heap) (len j : Nat) (ts : List T) (h : j < len) : ixAt H len 1 false (.t (.agg ts)) j = (ts[j]?).map fun t => (.t t, H) := by
 have h0 : len ≠ 0 := by omega
 unfold ixAt indexD
 rw [if_neg h0, if_pos h]
 unfold fieldD cut
 simp only [D.isAgg, D.cells, T.cells, if_true, Nat.mul_one, List.length_map]
 by_cases hj : j < ts.length
 · rw [if_pos (by omega), List.getElem?_eq_getElem hj]
   have e : ((ts.map D.t).drop j).take 1 = [D.t ts[j]] := by
    rw [List.drop_eq_getElem_cons (by simpa using hj)]; simp
   rw [e]; rfl
 · rw [if_neg (by omega), List.getElem?_eq_none (by omega)]; rfl
def fallC (into : Option (List Int)) (l : List Int) (q : Nat) (x : Int) : Bool := decide (x ≤ 2147483648 ∧ x < nth l q) && inOK into q
theorem low1_ok (into : Option (List Int)) (hi : ∀ s, into = some s → s.length ≤ 64) (l : List Int) (hl : l.length ≤ 64) (hb : bnd l) (p : Int) (q : Nat) (hq : q < l.length) (n t : Int) (ch : Bool) :
 CALL 0 N.places_lowered_1 [I p, I q, I n, .bp 0 0, .bp 1 0, .bp 2 0, .bp 3 0] (.box [I t] :: .box [.ref 4 0 l.length] :: .box [smD into] :: .box [B ch] :: arr1 l :: smE into) =
  some (.tup [], if fallC into l q (max n t) = true then .box [I t] :: .box [.ref 4 0 l.length] :: .box [smD into] :: .box [B true] :: arr1 (l.set q (max n t)) :: smE into
   else .box [I t] :: .box [.ref 4 0 l.length] :: .box [smD into] :: .box [B ch] :: arr1 l :: smE into) := by
 refine CALL_of K.t_places_lowered_1 rfl ?_
 have ln : (l.set q (max n t)).length = l.length := List.length_set ..
 have a := pall_ok q
 have b := hb _ (nth_mem hq)
 unfold fallC
 cases into with
 | none =>
   simp only [smE, smD, inOK, Bool.and_true, decide_eq_true_eq]
   by_cases c1 : max n t ≤ 2147483648
   · by_cases c2 : max n t < nth l q
     · simp (disch := omega) only [go_sem, K.places_lowered_1, ↓reduceIte, a, c1, c2, and_self, Nat.reduceAdd, Nat.reduceSub]
     · simp (disch := omega) only [go_sem, K.places_lowered_1, ↓reduceIte, c1, c2, and_false, Nat.reduceAdd, Nat.reduceSub]
   · simp (disch := omega) only [go_sem, K.places_lowered_1, ↓reduceIte, c1, false_and, Nat.reduceAdd, Nat.reduceSub]
 | some s =>
   have a2 := pabs1_ok q s (by have := hi s rfl; omega)
   simp only [smE, smD, inOK]
   by_cases c1 : max n t ≤ 2147483648
   · by_cases c2 : max n t < nth l q
     · by_cases c3 : (q : Int) ∈ s
       · simp only [c3, decide_true] at a2
         simp (disch := omega) only [go_sem, K.places_lowered_1, ↓reduceIte, a2, c1, c2, c3, and_self, decide_true, Bool.and_true, Nat.reduceAdd, Nat.reduceSub]
       · simp only [c3, decide_false] at a2
         simp (disch := omega) only [go_sem, K.places_lowered_1, ↓reduceIte, a2, c1, c2, c3, and_self, decide_false, Bool.and_false, Nat.reduceAdd, Nat.reduceSub]
     · simp (disch := omega) only [go_sem, K.places_lowered_1, ↓reduceIte, c1, c2, and_false, decide_false, Bool.false_and, Nat.reduceAdd, Nat.reduceSub]
   · simp (disch := omega) only [go_sem, K.places_lowered_1, ↓reduceIte, c1, false_and, decide_false, Bool.false_and, Nat.reduceAdd, Nat.reduceSub]
theorem halfF_eq {m : Mine} (h : m.ok) (t : Int) (into : Option (List Int)) {k : Nat} (hk : k < m.roads.length) (back : Bool) (l : List Int) :
 halfF m t into k back l = if 0 ≤ walkT m k back 6 9 12 ∧ nth l ((nth m.roads k).src back).toNat < 1099511627776 ∧ fallC into l ((nth m.roads k).dst back).toNat (max (nth l ((nth m.roads k).src back).toNat + walkT m k back 6 9 12) t) = true
  then (l.set ((nth m.roads k).dst back).toNat (max (nth l ((nth m.roads k).src back).toNat + walkT m k back 6 9 12) t), true) else (l, false) := by
 have r2 := Road.dst_ok (h.rs _ (nth_mem hk)) back
 unfold halfF fallC lowerF lowerC
 have e : (((nth m.roads k).dst back).toNat : Int) = (nth m.roads k).dst back := by omega
 rw [e]
 generalize (nth m.roads k).dst back = d at *
 generalize ((nth m.roads k).src back).toNat = s at *
 generalize walkT m k back 6 9 12 = v at *
 rw [Int.max_comm t]
 generalize max (nth l s + v) t = x at *
 cases inOK into d with
 | false => simp
 | true =>
   simp only [↓reduceIte, Bool.and_true, Bool.and_eq_true, decide_eq_true_eq]
   by_cases c : ((0 ≤ v ∧ nth l s < 1099511627776) ∧ x ≤ 2147483648) ∧ x < nth l d.toNat
   · obtain ⟨⟨⟨c1, c2⟩, c3⟩, c4⟩ := c
     simp [c1, c2, c3, c4]
   · have c' : ¬ (0 ≤ v ∧ nth l s < 1099511627776 ∧ x ≤ 2147483648 ∧ x < nth l d.toNat) := fun h => c ⟨⟨⟨h.1, h.2.1⟩, h.2.2.1⟩, h.2.2.2⟩
     rw [if_neg c, if_neg c']
     simp only [Prod.mk.injEq, true_and]
     have : (decide (0 ≤ v) && decide (nth l s < 1099511627776) && decide (x ≤ 2147483648) && decide (x < nth l d.toNat)) = false := by
      rw [Bool.eq_false_iff]; intro h; simp only [Bool.and_eq_true, decide_eq_true_eq] at h; exact c h
     exact this
abbrev lowF : D := .fn N.places_lowered_1 [.bp 1 0, .bp 2 0, .bp 3 0, .bp 4 0]
abbrev arrH (into : Option (List Int)) (t : Int) (s : List Int × Bool) : Heap := arr1 s.1 :: .box [I t] :: .box [.ref 0 0 s.1.length] :: .box [smD into] :: .box [B s.2] :: smE into
abbrev roadC (x : Road) : List D := [I x.frm, I x.to, I x.len, I x.area, B x.walk, B x.closed, I x.restL, I x.restH, I x.liftL, I x.liftH]
theorem half_round {m : Mine} (h : m.ok) (t : Int) (ht : 0 ≤ t) (ht2 : t ≤ 1000000000000) (into : Option (List Int)) (hi : ∀ s, into = some s → s.length ≤ 64) (l : List Int) (hl : l.length = m.places.length) (hb : bnd l) (ch : Bool) {k : Nat} (hk : k < m.roads.length) (back : Bool) :
 roundC true [0, 6, 7, 8, 9] (arrH into t (l, ch) ++ [Obj.box (mineCells m), Obj.box (roadC (nth m.roads k))]).length (exS CALL K.places_arrivals_l2b ⟨[.und, .ref 0 0 l.length, lowF, .bp (smK into) 0, I k, .bp (smK into + 1) 0, .und, .und, .und, .und, .t (.sl (m.roads.map Road.e)), I m.roads.length, I k, .t (.agg [.bool false, .bool true]), I (if back then 1 else 0 : Nat)], arrH into t (l, ch) ++ [.box (mineCells m), .box (roadC (nth m.roads k))]⟩) =
  some ⟨[.und, .ref 0 0 l.length, lowF, .bp (smK into) 0, I k, .bp (smK into + 1) 0, .und, .und, .und, .und, .t (.sl (m.roads.map Road.e)), I m.roads.length, I k, .t (.agg [.bool false, .bool true]), I ((if back then 1 else 0 : Nat) + 1)], arrH into t ((halfF m t into k back l).1, ch || (halfF m t into k back l).2) ++ [.box (mineCells m), .box (roadC (nth m.roads k))]⟩ := by
 have np := h.np
 have nr := h.nr
 have ok := h.rs _ (nth_mem hk)
 have r1 := Road.src_ok ok back
 have r2 := Road.dst_ok ok back
 have wt := wtime_ok h k hk back
 have wl := walkT_lo h k hk back
 have b1 := hb _ (nth_mem (l := l) (j := ((nth m.roads k).src back).toNat) (by omega))
 have lo := low1_ok into hi l (by omega) hb ((nth m.roads k).src back) ((nth m.roads k).dst back).toNat (by omega) (nth l ((nth m.roads k).src back).toNat + walkT m k back 6 9 12) t ch
 have e : (((nth m.roads k).dst back).toNat : Int) = (nth m.roads k).dst back := by omega
 rw [e] at lo
 rw [halfF_eq h t into hk back l]
 have ls : ∀ x, (l.set ((nth m.roads k).dst back).toNat x).length = l.length := fun x => List.length_set ..
 generalize walkT m k back 6 9 12 = v at *
 generalize hx : nth m.roads k = x at *
 clear hx ok
 obtain ⟨frm, to, len, area, walk, closed, rl, rh, ll, lh⟩ := x
 obtain ⟨places, roads⟩ := m
 simp only at hl np nr hk
 have h01 : (1 : Int) = 0 + 1 := rfl
 by_cases c1 : 0 ≤ v
 · by_cases c2 : nth l ((Road.mk frm to len area walk closed rl rh ll lh).src back).toNat < 1099511627776
   · cases c3 : fallC into l ((Road.mk frm to len area walk closed rl rh ll lh).dst back).toNat (max (nth l ((Road.mk frm to len area walk closed rl rh ll lh).src back).toNat + v) t) <;>
     cases back <;> simp only [Road.src, Road.dst, Bool.false_eq_true, ↓reduceIte] at * <;> simp only [c1, c2, c3, and_true, true_and, and_self, and_false, Bool.false_eq_true, ↓reduceIte] at lo ⊢ <;>
     cases into <;> simp only [smE, smD, smK, mineCells, roadC, arrH, List.cons_append, List.nil_append] at * <;>
     simp (disch := omega) only [go_sem, K.places_arrivals_l2b, ↓reduceIte, wt, lo, c1, c2, ls, Bool.or_true, Bool.or_false, Nat.reduceAdd, Nat.reduceSub]
   · cases back <;> simp only [Road.src, Road.dst, Bool.false_eq_true, ↓reduceIte] at * <;> simp only [c1, c2, false_and, and_false, ↓reduceIte] <;>
     cases into <;> simp only [smE, smD, smK, mineCells, roadC, arrH, List.cons_append, List.nil_append] at * <;>
     simp (disch := omega) only [go_sem, K.places_arrivals_l2b, ↓reduceIte, wt, c1, c2, Bool.or_false, Nat.reduceAdd, Nat.reduceSub]
 · cases back <;> simp only [Road.src, Road.dst, Bool.false_eq_true, ↓reduceIte] at * <;> simp only [c1, false_and, ↓reduceIte] <;>
   cases into <;> simp only [smE, smD, smK, mineCells, roadC, arrH, List.cons_append, List.nil_append] at * <;>
   simp (disch := omega) only [go_sem, K.places_arrivals_l2b, ↓reduceIte, wt, c1, Bool.or_false, Nat.reduceAdd, Nat.reduceSub]
theorem arr_road {m : Mine} (h : m.ok) (t : Int) (ht : 0 ≤ t) (ht2 : t ≤ 1000000000000) (into : Option (List Int)) (hi : ∀ s, into = some s → s.length ≤ 64) (l : List Int) (hl : l.length = m.places.length) (hb : bnd l) (ch : Bool) {k : Nat} (hk : k < m.roads.length) :
 roundC true [0, 4, 5, 6, 7, 8, 9, 13, 14] (arrH into t (l, ch) ++ [Obj.box (mineCells m)]).length (exS CALL K.places_arrivals_l1b ⟨[.und, .ref 0 0 l.length, lowF, .bp (smK into) 0, .und, .und, .und, .und, .und, .und, .t (.sl (m.roads.map Road.e)), I m.roads.length, I k, .und, .und], arrH into t (l, ch) ++ [.box (mineCells m)]⟩) =
  some ⟨[.und, .ref 0 0 (stepF m t into k (l, ch)).1.length, lowF, .bp (smK into) 0, .und, .und, .und, .und, .und, .und, .t (.sl (m.roads.map Road.e)), I m.roads.length, I (k + 1), .und, .und], arrH into t (stepF m t into k (l, ch)) ++ [.box (mineCells m)]⟩ := by
 have nr := h.nr
 have g : (m.roads.map Road.e)[k]? = some (nth m.roads k).e := map_nth _ hk
 have h1 := half_round h t ht ht2 into hi l hl hb ch hk false
 have l1 : (halfF m t into k false l).1.length = l.length := halfF_len ..
 have l2 : (halfF m t into k true (halfF m t into k false l).1).1.length = l.length := by rw [halfF_len, l1]
 have h2 := half_round h t ht ht2 into hi (halfF m t into k false l).1 (by omega) (halfF_bnd h hl hb hk false) (ch || (halfF m t into k false l).2) hk true
 have st : stepF m t into k (l, ch) = ((halfF m t into k true (halfF m t into k false l).1).1, ch || (halfF m t into k false l).2 || (halfF m t into k true (halfF m t into k false l).1).2) := rfl
 rw [st]
 simp only [l1, l2, Bool.false_eq_true, ↓reduceIte] at h1 h2 ⊢
 have inner : ∀ z0 z6 z7 z8 z9 : D, exS CALL K.places_arrivals_l2 ⟨[z0, .ref 0 0 l.length, lowF, .bp (smK into) 0, I k, .bp (smK into + 1) 0, z6, z7, z8, z9, .t (.sl (m.roads.map Road.e)), I m.roads.length, I k, .t (.agg [.bool false, .bool true]), I 0], arrH into t (l, ch) ++ [.box (mineCells m), .box (roadC (nth m.roads k))]⟩ =
  some (.exit 2, ⟨[.und, .ref 0 0 l.length, lowF, .bp (smK into) 0, I k, .bp (smK into + 1) 0, .und, .und, .und, .und, .t (.sl (m.roads.map Road.e)), I m.roads.length, I k, .t (.agg [.bool false, .bool true]), I 2],
   arrH into t ((halfF m t into k true (halfF m t into k false l).1).1, ch || (halfF m t into k false l).2 || (halfF m t into k true (halfF m t into k false l).1).2) ++ [.box (mineCells m), .box (roadC (nth m.roads k))]⟩) := by
  intro z0 z6 z7 z8 z9
  refine loop_up (fun j => ⟨[.und, .ref 0 0 l.length, lowF, .bp (smK into) 0, I k, .bp (smK into + 1) 0, .und, .und, .und, .und, .t (.sl (m.roads.map Road.e)), I m.roads.length, I k, .t (.agg [.bool false, .bool true]), I j],
   arrH into t (match j with | 0 => (l, ch) | 1 => ((halfF m t into k false l).1, ch || (halfF m t into k false l).2) | _ => ((halfF m t into k true (halfF m t into k false l).1).1, ch || (halfF m t into k false l).2 || (halfF m t into k true (halfF m t into k false l).1).2)) ++ [.box (mineCells m), .box (roadC (nth m.roads k))]⟩) 2 rfl ?_ ?_ (by simp)
  · intro j hj
    have hj2 : j = 0 ∨ j = 1 := by omega
    rcases hj2 with rfl | rfl
    · exact h1
    · exact h2
  · clear h1 h2
    cases into <;> simp only [smE, smD, smK, mineCells, roadC, arrH, List.cons_append, List.nil_append] <;>
    simp (disch := omega) only [go_sem, K.places_arrivals_l2b, ↓reduceIte, Nat.reduceAdd, Nat.reduceSub]
 clear h1 h2 st
 generalize halfF m t into k true (halfF m t into k false l).1 = b2 at *
 generalize halfF m t into k false l = b1 at *
 generalize hx : nth m.roads k = x at *
 clear hx
 obtain ⟨frm, to, len, area, walk, closed, rl, rh, ll, lh⟩ := x
 obtain ⟨places, roads⟩ := m
 simp only at nr hk
 cases into <;> simp only [smE, smD, smK, mineCells, roadC, arrH, List.cons_append, List.nil_append] at * <;>
 simp (disch := omega) only [go_sem, K.places_arrivals_l1b, ↓reduceIte, g, inner, l2, Nat.reduceAdd, Nat.reduceSub]
theorem arrivals_ok {m : Mine} (h : m.ok) (t : Int) (ht : 0 ≤ t) (ht2 : t ≤ 1000000000000) (into : Option (List Int)) (hi : ∀ s, into = some s → s.length ≤ 64) (l : List Int) (hl : l.length = m.places.length) (hb : bnd l) (ch : Bool) :
 CALL 0 N.places_arrivals [.t m.e, .ref 0 0 l.length, lowF] (arrH into t (l, ch)) = some (.tup [], arrH into t ((roundF m t into l).1, ch || (roundF m t into l).2)) := by
 refine CALL_of K.t_places_arrivals rfl ?_
 have nr := h.nr
 have ls := fun k => stepsF_len m t into l k
 have loop : ∀ z0 z4 z5 z6 z7 z8 z9 z13 z14 : D, exS CALL K.places_arrivals_l1 ⟨[z0, .ref 0 0 l.length, lowF, .bp (smK into) 0, z4, z5, z6, z7, z8, z9, .t (.sl (m.roads.map Road.e)), I m.roads.length, I 0, z13, z14], arrH into t (l, ch) ++ [.box (mineCells m)]⟩ =
  some (.exit 0, ⟨[.und, .ref 0 0 l.length, lowF, .bp (smK into) 0, .und, .und, .und, .und, .und, .und, .t (.sl (m.roads.map Road.e)), I m.roads.length, I m.roads.length, .und, .und], arrH into t ((roundF m t into l).1, ch || (roundF m t into l).2) ++ [.box (mineCells m)]⟩) := by
  intro z0 z4 z5 z6 z7 z8 z9 z13 z14
  refine loop_up (fun j => ⟨[.und, .ref 0 0 l.length, lowF, .bp (smK into) 0, .und, .und, .und, .und, .und, .und, .t (.sl (m.roads.map Road.e)), I m.roads.length, I j, .und, .und], arrH into t ((stepsF m t into l j).1, ch || (stepsF m t into l j).2) ++ [.box (mineCells m)]⟩) m.roads.length ?_ ?_ ?_ (by simp)
  · simp only [stepsF, Bool.or_false]; rfl
  · intro j hj
    have r := arr_road h t ht ht2 into hi (stepsF m t into l j).1 (by rw [ls, hl]) (stepsF_bnd h hl hb j (by omega)) (ch || (stepsF m t into l j).2) hj
    have e : stepF m t into j ((stepsF m t into l j).1, ch || (stepsF m t into l j).2) = ((stepsF m t into l (j + 1)).1, ch || (stepsF m t into l (j + 1)).2) := by
     simp only [stepsF, stepF, Bool.or_assoc]
    rw [e] at r
    simp only [ls] at r
    exact r
  · clear ls
    cases into <;> simp only [smE, smD, smK, mineCells, roadC, arrH, List.cons_append, List.nil_append] <;>
    simp (disch := omega) only [go_sem, K.places_arrivals_l1b, ↓reduceIte, roundF, Nat.reduceAdd, Nat.reduceSub]
 have l2 : (roundF m t into l).1.length = l.length := by unfold roundF; rw [ls]
 clear ls
 generalize roundF m t into l = r at *
 obtain ⟨r1, r2⟩ := r
 obtain ⟨places, roads⟩ := m
 simp only at nr hl l2
 cases into <;> simp only [smE, smD, smK, mineCells, roadC, arrH, List.cons_append, List.nil_append] at * <;>
 simp (disch := omega) only [go_sem, K.places_arrivals, ↓reduceIte, loop, l2, Nat.reduceAdd, Nat.reduceSub]
section
variable (a0 a1 a2 a3 a4 a5 x y : Obj) (ds : Heap)
theorem h5_get : (a0 :: a1 :: a2 :: a3 :: a4 :: (ds ++ [x]))[ds.length + 5]? = some x := by simp
theorem h5_set : (a0 :: a1 :: a2 :: a3 :: a4 :: (ds ++ [x])).set (ds.length + 5) y = a0 :: a1 :: a2 :: a3 :: a4 :: (ds ++ [y]) := by simp
theorem h6_get : (a0 :: a1 :: a2 :: a3 :: a4 :: a5 :: (ds ++ [x]))[ds.length + 6]? = some x := by simp
theorem h6_set : (a0 :: a1 :: a2 :: a3 :: a4 :: a5 :: (ds ++ [x])).set (ds.length + 6) y = a0 :: a1 :: a2 :: a3 :: a4 :: a5 :: (ds ++ [y]) := by simp
theorem h_get1 (u : Obj) : (ds ++ [u] ++ [x])[ds.length + 1]? = some x := by simp
theorem h5_set1 (u : Obj) : (a0 :: a1 :: a2 :: a3 :: a4 :: (ds ++ [u] ++ [x])).set (ds.length + 1 + 1 + 1 + 1 + 1 + 1) y = a0 :: a1 :: a2 :: a3 :: a4 :: (ds ++ [u] ++ [y]) := by simp
theorem h6_set1 (u : Obj) : (a0 :: a1 :: a2 :: a3 :: a4 :: a5 :: (ds ++ [u] ++ [x])).set (ds.length + 1 + 1 + 1 + 1 + 1 + 1 + 1) y = a0 :: a1 :: a2 :: a3 :: a4 :: a5 :: (ds ++ [u] ++ [y]) := by simp
theorem h_len : (ds ++ [x]).length = ds.length + 1 := by simp
end
@[go_sem] theorem eqB_self (n : Nat) : eqB n n = true := by
 induction n with
 | zero => rfl
 | succ n ih => exact ih
abbrev lowH (m : Mine) (into : Option (List Int)) (t : Int) (l : List Int) (ds : Heap) (c : Bool) : Heap := match into with
 | none => .box (mineCells m) :: .box [I t] :: .box [.fn N.places_all []] :: arr1 l :: .box [.ref 3 0 l.length] :: (ds ++ [.box [B c]])
 | some s => .box [.t (tL s)] :: .box (mineCells m) :: .box [I t] :: .box [.fn N.places_Absent_1 [.bp 0 0]] :: arr1 l :: .box [.ref 4 0 l.length] :: (ds ++ [.box [B c]])
abbrev lowS (m : Mine) (into : Option (List Int)) (t : Int) (l : List Int) (ds : Heap) (c : Bool) : St := match into with
 | none => ⟨[.und, .und, .und, .und, .bp 0 0, .bp 1 0, .bp 2 0, .und, .bp 4 0, .bp (ds.length + 5) 0, .und], lowH m none t l ds c⟩
 | some s => ⟨[.und, .und, .und, .und, .bp 1 0, .bp 2 0, .bp 3 0, .und, .bp 5 0, .bp (ds.length + 6) 0, .und], lowH m (some s) t l ds c⟩
theorem low_round {m : Mine} (h : m.ok) (t : Int) (ht : 0 ≤ t) (ht2 : t ≤ 1000000000000) (into : Option (List Int)) (hi : ∀ s, into = some s → s.length ≤ 64) (l : List Int) (hl : l.length = m.places.length) (hb : bnd l) (ds : Heap) (k : Nat) :
 roundC false [0, 1, 2, 3, 7, 10] k (exS CALL K.places_lowered_l1b (lowS m into t l ds true)) = some (lowS m into t (roundF m t into l).1 (ds ++ [.box [B (roundF m t into l).2]]) (roundF m t into l).2) := by
 have nr := h.nr
 have ar := arrivals_ok h t ht ht2 into hi l hl hb false
 have l2 : (roundF m t into l).1.length = l.length := by unfold roundF; rw [stepsF_len]
 cases into with
 | none =>
   generalize roundF m t none l = r at *
   obtain ⟨r1, r2⟩ := r
   obtain ⟨places, roads⟩ := m
   simp only [lowH, lowS, arrH, smE, smD, mineCells, Bool.false_or] at *
   simp (disch := omega) only [go_sem, K.places_lowered_l1b, ↓reduceIte, ar, h5_get, h5_set, h_len, l2, h_get1, h5_set1, Nat.reduceAdd, Nat.reduceSub]
 | some s =>
   generalize roundF m t (some s) l = r at *
   obtain ⟨r1, r2⟩ := r
   obtain ⟨places, roads⟩ := m
   simp only [lowH, lowS, arrH, smE, smD, mineCells, Bool.false_or] at *
   simp (disch := omega) only [go_sem, K.places_lowered_l1b, ↓reduceIte, ar, h6_get, h6_set, h_len, l2, h_get1, h6_set1, Nat.reduceAdd, Nat.reduceSub]
theorem low_exit (m : Mine) (into : Option (List Int)) (t : Int) (l : List Int) (ds : Heap) : exS CALL K.places_lowered_l1b (lowS m into t l ds false) = some (.exit 0, lowS m into t l ds false) := by
 obtain ⟨places, roads⟩ := m
 cases into with
 | none =>
   simp only [lowH, lowS, mineCells]
   simp (disch := omega) only [go_sem, K.places_lowered_l1b, ↓reduceIte, h5_get, Nat.reduceAdd, Nat.reduceSub]
 | some s =>
   simp only [lowH, lowS, mineCells]
   simp (disch := omega) only [go_sem, K.places_lowered_l1b, ↓reduceIte, h6_get, Nat.reduceAdd, Nat.reduceSub]
theorem low_loop {m : Mine} (h : m.ok) (t : Int) (ht : 0 ≤ t) (ht2 : t ≤ 1000000000000) (into : Option (List Int)) (hi : ∀ s, into = some s → s.length ≤ 64) : ∀ (n : Nat) (l : List Int) (ds : Heap), sumN l < n → l.length = m.places.length → bnd l →
 ∃ ds', loopC false [0, 1, 2, 3, 7, 10] (exS CALL K.places_lowered_l1b) (lowS m into t l ds true) = some (.exit 0, lowS m into t (closeN (roundF m t into) n l) ds' false)
 | 0, l, ds, hn, _, _ => absurd hn (by omega)
 | n + 1, l, ds, hn, hl, hb => by
   have r := low_round h t ht ht2 into hi l hl hb ds (lowS m into t l ds true).H.length
   have s := (stepsF_sum h (t := t) (into := into) hl hb m.roads.length (Nat.le_refl _)).1
   change (roundF m t into l).2 = true → sumN (roundF m t into l).1 < sumN l at s
   unfold closeN
   cases hc : (roundF m t into l).2 with
   | true =>
     rw [hc] at r
     obtain ⟨ds', h2⟩ := low_loop h t ht ht2 into hi n (roundF m t into l).1 _ (by have := s hc; omega) (by unfold roundF; rw [stepsF_len, hl]) (stepsF_bnd h hl hb _ (Nat.le_refl _))
     exact ⟨ds', loopC_step r h2⟩
   | false =>
     rw [hc] at r
     exact ⟨_, loopC_step r (loopC_exit (low_exit m into t _ _) (by simp))⟩
theorem lowered_ok {m : Mine} (h : m.ok) (t : Int) (ht : 0 ≤ t) (ht2 : t ≤ 1000000000000) (l : List Int) (hl : l.length = m.places.length) (hb : bnd l) :
 CALL 0 N.places_lowered [.t m.e, .t (tL l), I t, .fn N.places_all []] [] = some (.t (tL (closeF m t none l)), []) ∧
 ∀ s : List Int, s.length ≤ 64 → CALL 1 N.places_lowered [.t m.e, .t (tL l), I t, .fn N.places_Absent_1 [.bp 0 0]] [.box [.t (tL s)]] = some (.ref 1 0 l.length, [.box [.t (tL s)], arr1 (closeF m t (some s) l)]) := by
 have np := h.np
 have c1 := clone1_ok l (by omega)
 have ln : ∀ into, (closeF m t into l).length = l.length := by
  intro into
  have key : ∀ n l, (closeN (roundF m t into) n l).length = l.length := by
   intro n
   induction n with
   | zero => intro l; rfl
   | succ n ih =>
     intro l
     unfold closeN
     split
     · rw [ih]; unfold roundF; rw [stepsF_len]
     · unfold roundF; rw [stepsF_len]
  exact key _ _
 refine ⟨CALL_of K.t_places_lowered rfl ?_, fun s hs => CALL_of K.t_places_lowered rfl ?_⟩
 · obtain ⟨ds, lp⟩ := low_loop h t ht ht2 none (by simp) (sumN l + 1) l [] (Nat.lt_succ_self _) hl hb
   have ln := ln none
   have lp : ∀ z0 z1 z2 z3 z7 z10 : D, exS CALL K.places_lowered_l1 ⟨[z0, z1, z2, z3, .bp 0 0, .bp 1 0, .bp 2 0, z7, .bp 4 0, .bp 5 0, z10], [.box (mineCells m), .box [I t], .box [.fn N.places_all []], arr1 l, .box [.ref 3 0 l.length], .box [B true]]⟩ = some (.exit 0, lowS m none t (closeF m t none l) ds false) := fun z0 z1 z2 z3 z7 z10 => lp
   generalize closeF m t none l = r at *
   obtain ⟨places, roads⟩ := m
   simp only [lowH, lowS, mineCells] at *
   simp (disch := omega) only [go_sem, K.places_lowered, ↓reduceIte, c1, lp, ln, Nat.reduceAdd, Nat.reduceSub]
 · obtain ⟨ds, lp⟩ := low_loop h t ht ht2 (some s) (by intro s' h; cases h; exact hs) (sumN l + 1) l [] (Nat.lt_succ_self _) hl hb
   have l2 := ln (some s)
   clear ln
   have lp : ∀ z0 z1 z2 z3 z7 z10 : D, exS CALL K.places_lowered_l1 ⟨[z0, z1, z2, z3, .bp 1 0, .bp 2 0, .bp 3 0, z7, .bp 5 0, .bp 6 0, z10], [.box [.t (tL s)], .box (mineCells m), .box [I t], .box [.fn N.places_Absent_1 [.bp 0 0]], arr1 l, .box [.ref 4 0 l.length], .box [B true]]⟩ = some (.exit 0, lowS m (some s) t (closeF m t (some s) l) ds false) := fun z0 z1 z2 z3 z7 z10 => lp
   generalize closeF m t (some s) l = r at *
   obtain ⟨places, roads⟩ := m
   simp only [lowH, lowS, mineCells] at *
   simp (disch := omega) only [go_sem, K.places_lowered, ↓reduceIte, c1, lp, l2, Nat.reduceAdd, Nat.reduceSub]
end Go.Ev
namespace Go.Ev
open Go
variable [Lib] [Has1] [Has2] [Has3] [Has4] [Has6] [Has7] [Has8] [Has9]
theorem shaped1_ok (x : Int) : CALL 0 N.places_shaped_1 [I x] [] = some (B (!decide (plT x)), []) := by
 refine CALL_of K.t_places_shaped_1 rfl ?_
 have i := in_ok x 0 2147483648
 unfold plT inT
 by_cases c : x = 1099511627776
 · subst c
   simp (disch := omega) only [go_sem, K.places_shaped_1, ↓reduceIte, Nat.reduceAdd, Nat.reduceSub]
 · by_cases c2 : 0 ≤ x ∧ x ≤ 2147483648
   · simp only [c2, and_self, decide_true] at i
     simp (disch := omega) only [go_sem, K.places_shaped_1, ↓reduceIte, i, c, c2, false_or, and_self, decide_true, Nat.reduceAdd, Nat.reduceSub]
   · simp only [c2, decide_false] at i
     simp (disch := omega) only [go_sem, K.places_shaped_1, ↓reduceIte, i, c, c2, false_or, decide_false, Nat.reduceAdd, Nat.reduceSub]
theorem shaped_ok (m : Mine) (hm : m.places.length ≤ 1000000) (w : Wh) (hl : w.frm.length ≤ 1000000) : CALL 0 N.places_shaped [.t m.e, .t w.e] [] = some (B (plainB w m.places.length), []) := by
 refine CALL_of K.t_places_shaped rfl ?_
 have i := in_ok w.time 0 2147483648
 have cf : CALL 0 N.slices_ContainsFunc_int_int [.t (tL w.frm), .fn N.places_shaped_1 []] [] = some (B (w.frm.any fun x => !decide (plT x)), []) := containsFunc_ok w.frm (by omega) N.places_shaped_1 [] (fun x => !decide (plT x)) (fun x _ => shaped1_ok x)
 have e : plainB w m.places.length = (decide ((w.frm.length : Int) = m.places.length ∧ inT w.time) && !(w.frm.any fun x => !decide (plT x))) := by
  unfold plainB
  rw [all_rng, any_rng w.frm (fun x => !decide (plT x))]
 rw [e]
 unfold inT
 generalize (w.frm.any fun x => !decide (plT x)) = r at *
 obtain ⟨places, roads⟩ := m
 obtain ⟨time, frm⟩ := w
 simp only at *
 clear e
 by_cases c1 : (frm.length : Int) = places.length
 · by_cases c2 : 0 ≤ time ∧ time ≤ 2147483648
   · simp only [c2, and_self, decide_true] at i
     cases r <;> simp (disch := omega) only [go_sem, K.places_shaped, ↓reduceIte, i, cf, c1, c2, and_self, decide_true, Bool.true_and, Nat.reduceAdd, Nat.reduceSub]
   · simp only [c2, decide_false] at i
     simp (disch := omega) only [go_sem, K.places_shaped, ↓reduceIte, i, cf, c1, c2, and_false, decide_false, Bool.false_and, Nat.reduceAdd, Nat.reduceSub]
 · simp (disch := omega) only [go_sem, K.places_shaped, ↓reduceIte, c1, false_and, decide_false, Bool.false_and, Nat.reduceAdd, Nat.reduceSub]
theorem pvalid_ok {m : Mine} (h : m.ok) (w : Wh) (hl : w.frm.length ≤ 1000000) : CALL 0 N.places_Valid [.t m.e, .t w.e] [] = some (B (validB m w), []) := by
 refine CALL_of K.t_places_Valid rfl ?_
 have np := h.np
 have v := planValid_ok h
 have s := shaped_ok m (by omega) w hl
 unfold validB
 cases hp : plainB w m.places.length with
 | false =>
   rw [hp] at s
   obtain ⟨places, roads⟩ := m
   obtain ⟨time, frm⟩ := w
   simp only at *
   simp (disch := omega) only [go_sem, K.places_Valid, ↓reduceIte, v, s, Bool.false_and, Nat.reduceAdd, Nat.reduceSub]
 | true =>
   rw [hp] at s
   obtain ⟨p1, p2, p3⟩ := plainB_spec hp
   have hb : bnd w.frm := fun x hx => plT_bnd (p3 x hx)
   have lo := (lowered_ok h w.time (by unfold inT at p2; omega) (by unfold inT at p2; omega) w.frm (by omega) hb).1
   have ll := closeF_len h w.time p2 none (by simp) (l := w.frm) (by omega) hb
   have eq := equal_ok (closeF m w.time none w.frm) w.frm (by omega) (by omega)
   generalize closeF m w.time none w.frm = c at *
   obtain ⟨places, roads⟩ := m
   obtain ⟨time, frm⟩ := w
   simp only at *
   clear hb p3
   simp (disch := omega) only [go_sem, K.places_Valid, ↓reduceIte, v, s, lo, eq, Bool.true_and, Nat.reduceAdd, Nat.reduceSub]
theorem given25_ok {m : Mine} (h : m.ok) (w : Wh) (hl : w.frm.length ≤ 1000000) (places : List Int) (hp : places.length ≤ 1000000) (a b : Int) :
 CALL 0 N.places_given [.t m.e, .t w.e, .t (tL places), I a, I b] [] = some (I (askedF m w places a b), []) := by
 refine CALL_of K.t_places_given rfl ?_
 have np := h.np
 have v := pvalid_ok h w hl
 have s := rising_ok places 0 (m.places.length - 1) (by omega)
 rw [ris_set] at s
 have i1 := in_ok a 0 2147483648
 have i2 := in_ok b 0 2147483648
 have e0 : (places ≠ []) ↔ (places.length : Int) ≠ 0 := by rw [ne_eq, ← List.length_eq_zero_iff]; omega
 unfold askedF
 cases hv : validB m w with
 | false =>
   rw [hv] at v
   rw [if_neg (by simp)]
   obtain ⟨pl, roads⟩ := m
   obtain ⟨time, frm⟩ := w
   simp only at *
   simp (disch := omega) only [go_sem, K.places_given, ↓reduceIte, v, Nat.reduceAdd, Nat.reduceSub]
 | true =>
   rw [hv] at v
   by_cases c0 : (places.length : Int) = 0
   · rw [if_neg (fun h => e0.1 h.2.1 c0)]
     obtain ⟨pl, roads⟩ := m
     obtain ⟨time, frm⟩ := w
     simp only at *
     simp (disch := omega) only [go_sem, K.places_given, ↓reduceIte, v, c0, Nat.reduceAdd, Nat.reduceSub]
   · cases hs : setB places m.places.length with
     | false =>
       rw [hs] at s
       rw [if_neg (by simp)]
       obtain ⟨pl, roads⟩ := m
       obtain ⟨time, frm⟩ := w
       simp only at *
       simp (disch := omega) only [go_sem, K.places_given, ↓reduceIte, v, s, c0, Nat.reduceAdd, Nat.reduceSub]
     | true =>
       rw [hs] at s
       rw [if_pos ⟨rfl, e0.2 c0, rfl⟩]
       obtain ⟨pl, roads⟩ := m
       obtain ⟨time, frm⟩ := w
       simp only at *
       by_cases c1 : inT a
       · rw [decide_eq_true (show 0 ≤ a ∧ a ≤ 2147483648 from c1)] at i1
         by_cases c2 : inT b
         · rw [decide_eq_true (show 0 ≤ b ∧ b ≤ 2147483648 from c2)] at i2
           by_cases c3 : a ≤ b
           · rw [if_pos ⟨c1, c2, c3⟩]
             simp (disch := omega) only [go_sem, K.places_given, ↓reduceIte, v, s, c0, i1, i2, c3, Nat.reduceAdd, Nat.reduceSub]
           · rw [if_neg (fun h => c3 h.2.2)]
             simp (disch := omega) only [go_sem, K.places_given, ↓reduceIte, v, s, c0, i1, i2, c3, Nat.reduceAdd, Nat.reduceSub]
         · rw [decide_eq_false (show ¬ (0 ≤ b ∧ b ≤ 2147483648) from c2)] at i2
           rw [if_neg (fun h => c2 h.2.1)]
           simp (disch := omega) only [go_sem, K.places_given, ↓reduceIte, v, s, c0, i1, i2, Nat.reduceAdd, Nat.reduceSub]
       · rw [decide_eq_false (show ¬ (0 ≤ a ∧ a ≤ 2147483648) from c1)] at i1
         rw [if_neg (fun h => c1 h.1)]
         simp (disch := omega) only [go_sem, K.places_given, ↓reduceIte, v, s, c0, i1, Nat.reduceAdd, Nat.reduceSub]
theorem praise_ok (w : Wh) (t : Int) (hl : w.frm.length ≤ 1000000) : CALL 0 N.places_Raise [.t w.e, I t] [] = some (.tup [.t (raiseF w t).1.e, I (raiseF w t).2], []) := by
 refine CALL_of K.t_places_Raise rfl ?_
 have c := clone0_ok w.frm hl
 unfold raiseF
 obtain ⟨time, frm⟩ := w
 simp only at *
 by_cases c1 : t < time
 · rw [if_pos (.inl c1)]
   simp (disch := omega) only [go_sem, K.places_Raise, ↓reduceIte, c1, Nat.reduceAdd, Nat.reduceSub]
 · by_cases c2 : 2147483648 < t
   · rw [if_pos (.inr c2)]
     simp (disch := omega) only [go_sem, K.places_Raise, ↓reduceIte, c1, c2, Nat.reduceAdd, Nat.reduceSub]
   · rw [if_neg (by omega)]
     simp (disch := omega) only [go_sem, K.places_Raise, ↓reduceIte, c1, c2, c, Nat.reduceAdd, Nat.reduceSub]
def renewF (m : Mine) (w : Wh) (t : Int) : Wh × Int := if plainB w m.places.length = false then (w, 6) else if t < w.time ∨ 2147483648 < t then (w, 8) else (⟨t, closeF m t none w.frm⟩, 0)
theorem prenew_ok {m : Mine} (h : m.ok) (w : Wh) (t : Int) (hl : w.frm.length ≤ 1000000) : CALL 0 N.places_Renew [.t m.e, .t w.e, I t] [] = some (.tup [.t (renewF m w t).1.e, I (renewF m w t).2], []) := by
 refine CALL_of K.t_places_Renew rfl ?_
 have np := h.np
 have v := planValid_ok h
 have s := shaped_ok m (by omega) w hl
 unfold renewF
 cases hp : plainB w m.places.length with
 | false =>
   rw [hp] at s
   rw [if_pos rfl]
   obtain ⟨places, roads⟩ := m
   obtain ⟨time, frm⟩ := w
   simp only at *
   simp (disch := omega) only [go_sem, K.places_Renew, ↓reduceIte, v, s, Nat.reduceAdd, Nat.reduceSub]
 | true =>
   rw [hp] at s
   obtain ⟨p1, p2, p3⟩ := plainB_spec hp
   have hb : bnd w.frm := fun x hx => plT_bnd (p3 x hx)
   unfold inT at p2
   by_cases c1 : t < w.time
   · rw [if_neg (by simp), if_pos (.inl c1)]
     obtain ⟨places, roads⟩ := m
     obtain ⟨time, frm⟩ := w
     simp only at *
     simp (disch := omega) only [go_sem, K.places_Renew, ↓reduceIte, v, s, c1, Nat.reduceAdd, Nat.reduceSub]
   · by_cases c2 : 2147483648 < t
     · rw [if_neg (by simp), if_pos (.inr c2)]
       obtain ⟨places, roads⟩ := m
       obtain ⟨time, frm⟩ := w
       simp only at *
       simp (disch := omega) only [go_sem, K.places_Renew, ↓reduceIte, v, s, c1, c2, Nat.reduceAdd, Nat.reduceSub]
     · have lo := (lowered_ok h t (by omega) (by omega) w.frm (by omega) hb).1
       rw [if_neg (by simp), if_neg (by omega)]
       generalize closeF m t none w.frm = c at *
       obtain ⟨places, roads⟩ := m
       obtain ⟨time, frm⟩ := w
       simp only at *
       clear hb p3
       simp (disch := omega) only [go_sem, K.places_Renew, ↓reduceIte, v, s, c1, c2, lo, Nat.reduceAdd, Nat.reduceSub]
theorem rrenew_ok {m : Mine} (h : m.ok) (w : Wh) (t : Int) (hl : w.frm.length ≤ 1000000) : CALL 0 N.ref25_Renew [.t m.e, .t w.e, I t] [] = some (.tup [.t (renewF m w t).1.e, I (renewF m w t).2], []) := by
 refine CALL_of K.t_ref25_Renew rfl ?_
 have np := h.np
 have v := check_ok h
 have s := plain_ok w m.places.length (by omega)
 have cp := copy_ok w (by omega)
 unfold renewF
 cases hp : plainB w m.places.length with
 | false =>
   rw [hp] at s
   rw [if_pos rfl]
   obtain ⟨places, roads⟩ := m
   obtain ⟨time, frm⟩ := w
   simp only at *
   simp (disch := omega) only [go_sem, K.ref25_Renew, ↓reduceIte, v, s, cp, Nat.reduceAdd, Nat.reduceSub]
 | true =>
   rw [hp] at s
   obtain ⟨p1, p2, p3⟩ := plainB_spec hp
   have hb : bnd w.frm := fun x hx => plT_bnd (p3 x hx)
   unfold inT at p2
   by_cases c1 : t < w.time
   · rw [if_neg (by simp), if_pos (.inl c1)]
     obtain ⟨places, roads⟩ := m
     obtain ⟨time, frm⟩ := w
     simp only at *
     simp (disch := omega) only [go_sem, K.ref25_Renew, ↓reduceIte, v, s, c1, cp, Nat.reduceAdd, Nat.reduceSub]
   · by_cases c2 : 2147483648 < t
     · rw [if_neg (by simp), if_pos (.inr c2)]
       obtain ⟨places, roads⟩ := m
       obtain ⟨time, frm⟩ := w
       simp only at *
       simp (disch := omega) only [go_sem, K.ref25_Renew, ↓reduceIte, v, s, c1, c2, cp, Nat.reduceAdd, Nat.reduceSub]
     · have lo := Close_ok h t (by unfold inT; omega) w.frm (by omega) hb
       rw [if_neg (by simp), if_neg (by omega)]
       generalize closeF m t none w.frm = c at *
       obtain ⟨places, roads⟩ := m
       obtain ⟨time, frm⟩ := w
       simp only at *
       clear hb p3
       simp (disch := omega) only [go_sem, K.ref25_Renew, ↓reduceIte, v, s, c1, c2, lo, Nat.reduceAdd, Nat.reduceSub]
theorem same25_ok (a b : Wh) (ha : a.frm.length ≤ 1000000) : CALL 0 N.ref25_Same [.t a.e, .t b.e] [] = some (B (decide (a.time = b.time ∧ a.frm = b.frm)), []) := by
 refine CALL_of K.t_ref25_Same rfl ?_
 have s := same_ok a.frm b.frm (by omega)
 obtain ⟨t1, f1⟩ := a
 obtain ⟨t2, f2⟩ := b
 simp only at *
 by_cases c : t1 = t2
 · simp (disch := omega) only [go_sem, K.ref25_Same, ↓reduceIte, s, c, true_and, Nat.reduceAdd, Nat.reduceSub]
 · simp (disch := omega) only [go_sem, K.ref25_Same, ↓reduceIte, s, c, false_and, decide_false, Nat.reduceAdd, Nat.reduceSub]
end Go.Ev
namespace Go.Ev
open Go
variable [Lib] [Has1] [Has2] [Has3] [Has4] [Has5] [Has6] [Has7] [Has8] [Has9] [Has10] [Has11]
theorem find_first_some {n j : Nat} {p : Nat → Bool} (h1 : j < n) (h2 : p j = true) (h3 : ∀ k, k < j → p k = false) : (List.range n).find? p = some j := by
 cases hf : (List.range n).find? p with
 | none => exact absurd h2 (by simpa using List.find?_eq_none.1 hf j (List.mem_range.2 h1))
 | some k =>
   obtain ⟨k1, k2⟩ := find_lt hf
   have : k ≤ j := by
    rcases Nat.lt_or_ge j k with c | c
    · rw [List.find?_range_eq_some] at hf
      exact absurd h2 (by simpa using hf.2.2 j c)
    · exact c
   rcases Nat.lt_or_ge k j with c | c
   · rw [h3 k c] at k2; cases k2
   · rw [show k = j by omega]
theorem find_none_of {n : Nat} {p : Nat → Bool} (h : ∀ k, k < n → p k = false) : (List.range n).find? p = none := List.find?_eq_none.2 fun x hx => by rw [h x (List.mem_range.1 hx)]; simp
theorem cmpL_less (a b : List Int) : decide (cmpL a b < 0) = lessB a b := by
 unfold cmpL lessB
 cases hf : (List.range (min a.length b.length)).find? (fun j => decide (nth a j ≠ nth b j)) with
 | some j =>
   rw [List.find?_range_eq_some] at hf
   obtain ⟨h2, h1, h3⟩ := hf
   have h1 := List.mem_range.1 h1
   have e : (List.range a.length).find? (cmpP a b) = some j := find_first_some (by omega) (by simp only [cmpP, h2, Bool.or_true]) (fun k hk => by
    have := h3 k hk
    simp only [cmpP, Bool.or_eq_false_iff, decide_eq_false_iff_not]
    exact ⟨by omega, by simpa using this⟩)
   have h2 : nth a j ≠ nth b j := by simpa using h2
   rw [e]
   simp only [if_neg (by omega : ¬ b.length ≤ j)]
   rw [decide_eq_decide]
   unfold cmpI
   split
   · omega
   · split <;> omega
 | none =>
   have h3 : ∀ k, k < min a.length b.length → nth a k = nth b k := fun k hk => by
    have := List.find?_eq_none.1 hf k (List.mem_range.2 hk)
    simpa using this
   by_cases c : a.length ≤ b.length
   · have e : (List.range a.length).find? (cmpP a b) = none := find_none_of fun k hk => by
      simp only [cmpP, Bool.or_eq_false_iff, decide_eq_false_iff_not, Decidable.not_not]
      exact ⟨by omega, h3 k (by omega)⟩
     rw [e]
     simp only [decide_eq_decide]
     split <;> omega
   · have e : (List.range a.length).find? (cmpP a b) = some b.length := find_first_some (by omega) (by simp [cmpP]) (fun k hk => by
      simp only [cmpP, Bool.or_eq_false_iff, decide_eq_false_iff_not, Decidable.not_not]
      exact ⟨by omega, h3 k (by omega)⟩)
     rw [e]
     simp only [Nat.le_refl, if_true, decide_eq_decide]
     omega
def pwB (m : Mine) (ws : List World) (first : List Int) (i : Nat) : Bool :=
 decide (1 ≤ (nth ws i).tags.length ∧ (nth ws i).tags.length ≤ 12) && decide ((nth ws i).whr.length = (nth ws i).tags.length) && properB (nth ws i).tags && decide (sortI (nth ws i).tags = sortI first) && (decide (i = 0) || lessB (nth ws (i - 1)).tags (nth ws i).tags) && !((nth ws i).whr.any fun x => !validB m x)
def pbelB (m : Mine) (b : Bel) : Bool := decide (1 ≤ b.worlds.length ∧ b.worlds.length ≤ 24) && (List.range b.worlds.length).all (pwB m b.worlds (nth b.worlds 0).tags)
theorem sort_perm_eq {a b : List Int} : sortI a = sortI b ↔ a.Perm b := by
 constructor
 · intro h
   exact (sortI_perm a).symm.trans (h ▸ sortI_perm b)
 · intro h
   exact up_eq (sortI_up a) (sortI_up b) ((sortI_perm a).trans (h.trans (sortI_perm b).symm))
theorem nodup_sub_perm {a b : List Int} (ha : a.Nodup) (hb : b.Nodup) (hl : a.length = b.length) (hs : ∀ x ∈ a, x ∈ b) : a.Perm b := by
 have key : ∀ y ∈ b, y ∈ a := fun y hy => Decidable.byContradiction fun hn => by
  have := nodup_sub_len ha (l' := b.erase y) (fun x hx => (List.mem_erase_of_ne (fun e => hn (by rw [← e]; exact hx))).2 (hs x hx))
  rw [List.length_erase_of_mem hy] at this
  have := List.length_pos_of_mem hy
  omega
 exact (List.perm_ext_iff_of_nodup ha hb).2 fun x => ⟨hs x, key x⟩
theorem pbel_bel (m : Mine) (b : Bel) : pbelB m b = belB m b := by
 obtain ⟨ws⟩ := b
 rw [Bool.eq_iff_iff]
 constructor
 · intro h
   simp only [pbelB, Bool.and_eq_true, decide_eq_true_eq, List.all_eq_true, List.mem_range, pwB, Bool.or_eq_true, Bool.not_eq_true', List.any_eq_false, Bool.not_eq_false'] at h
   obtain ⟨⟨h1, h2⟩, h⟩ := h
   have h0 := h 0 (by omega)
   simp only [belB, Bool.and_eq_true, decide_eq_true_eq, List.all_eq_true, List.mem_range, worldB, Bool.or_eq_true, whoB]
   refine ⟨⟨⟨h1, h2⟩, h0.1.1.1.1.1⟩, fun i hi => ?_⟩
   obtain ⟨⟨⟨⟨⟨a1, a2⟩, a3⟩, a4⟩, a5⟩, a6⟩ := h i hi
   have pm := sort_perm_eq.1 a4
   refine ⟨⟨⟨⟨pm.length_eq, by rw [a2, pm.length_eq]⟩, a3⟩, a5⟩, fun k hk => ⟨?_, ?_⟩⟩
   · exact bearerF_mem.2 (pm.mem_iff.1 (nth_mem hk))
   · simpa using a6 _ (nth_mem (l := (nth ws i).whr) (j := k) (by omega))
 · intro h
   obtain ⟨h1, h2, h3, h4, h5⟩ := belB_spec h
   simp only at h1 h2 h3 h4 h5
   have p0 := (worldB_spec (h5 0 (by omega))).2.2.1
   simp only [pbelB, Bool.and_eq_true, decide_eq_true_eq, List.all_eq_true, List.mem_range, pwB, Bool.or_eq_true, Bool.not_eq_true', List.any_eq_false, Bool.not_eq_false']
   refine ⟨⟨h1, h2⟩, fun i hi => ?_⟩
   obtain ⟨w1, w2, w3, w4⟩ := worldB_spec (h5 i hi)
   have ls := h5 i hi
   simp only [worldB, Bool.and_eq_true, Bool.or_eq_true, decide_eq_true_eq] at ls
   refine ⟨⟨⟨⟨⟨by omega, by omega⟩, w3⟩, ?_⟩, ls.1.2⟩, fun x hx => ?_⟩
   · refine sort_perm_eq.2 (nodup_sub_perm (properB_nodup w3) (properB_nodup p0) w1 fun x hx => ?_)
     obtain ⟨j, hj⟩ := List.mem_iff_getElem?.1 hx
     have := (w4 j (List.getElem?_eq_some_iff.1 hj).1).1
     rwa [nth_eq hj] at this
   · obtain ⟨j, hj⟩ := List.mem_iff_getElem?.1 hx
     have := (w4 j (by rw [w1, ← w2]; exact (List.getElem?_eq_some_iff.1 hj).1)).2
     rw [nth_eq hj] at this
     simpa using this
theorem swValid1_ok {m : Mine} (h : m.ok) (x : Wh) (hx : x.frm.length ≤ 1000000) : CALL 0 N.swaps_Valid_1 [.t x.e, .bp 0 0] [.box (mineCells m)] = some (B (!validB m x), [.box (mineCells m)]) := by
 refine CALL_of K.t_swaps_Valid_1 rfl ?_
 have v := pvalid_ok h x hx
 obtain ⟨places, roads⟩ := m
 obtain ⟨time, frm⟩ := x
 simp only at *
 simp (disch := omega) only [go_sem, K.swaps_Valid_1, ↓reduceIte, v, Nat.reduceAdd, Nat.reduceSub]
abbrev swS (m : Mine) (ws : List World) (first : List Int) (i : Nat) : St :=
 ⟨[.und, .und, .bp 0 0, .bp 1 0, .und, .t (tL (sortI first)), .und, .und, .t (.sl (ws.map World.e)), I ws.length, I i], [.box (mineCells m), .box [.t (.sl (ws.map World.e))], .box [.t (tL first)]]⟩
theorem pw_step {m : Mine} (h : m.ok) (ws : List World) (first : List Int) (hf : first.length ≤ 1000000) (hs : ∀ x ∈ ws, x.sz) (i : Nat) (hi : i < ws.length) (hl : ws.length ≤ 1000000) :
 (pwB m ws first i = true → roundC true [0, 1, 4, 6, 7] 3 (exS CALL K.swaps_Valid_l1b (swS m ws first i)) = some (swS m ws first (i + 1))) ∧
 (pwB m ws first i = false → ∃ q, exS CALL K.swaps_Valid_l1b (swS m ws first i) = some q ∧ q.1 = .ret ∧ q.2.vs[4]? = some (B false)) := by
 simp only [swS]
 have sz := hs _ (nth_mem hi)
 have ex : (ws.map World.e)[i]? = some (nth ws i).e := map_nth _ hi
 unfold pwB
 have ey : 0 < i → (ws.map World.e)[i - 1]? = some (nth ws (i - 1)).e ∧ (nth ws (i - 1)).tags.length ≤ 1000000 := fun h0 => ⟨map_nth _ (by omega), (hs _ (nth_mem (by omega))).1⟩
 generalize nth ws (i - 1) = y at *
 generalize nth ws i = x at *
 obtain ⟨tags, whr⟩ := x
 obtain ⟨ptags, pwhr⟩ := y
 obtain ⟨s1, s2, s3⟩ := sz
 simp only at s1 s2 s3 ey ⊢
 have li := in_ok tags.length 1 12
 have tg := tagged_ok tags s1
 have va := values_ok tags
 have so := sorted_ok tags s1
 have eq := equal_ok (sortI tags) (sortI first) (by rw [sortI_len]; omega) (by rw [sortI_len]; omega)
 have cf := containsFuncH_ok whr (by omega) N.swaps_Valid_1 [[.sl (m.places.map Place.e), .sl (m.roads.map Road.e)]] (fun x => !validB m x) (fun x hx => swValid1_ok h x (s3 x hx))
 have cf : CALL 0 N.slices_ContainsFunc_api_Whereabouts_api_Whereabouts [.t (.sl (whr.map Wh.e)), .fn N.swaps_Valid_1 [.bp 0 0]] [.box (mineCells m)] = some (B (whr.any fun x => !validB m x), [.box (mineCells m)]) := cf
 have cp : 0 < i → CALL 0 N.slices_Compare_int_int [.t (tL ptags), .t (tL tags)] [] = some (I (cmpL ptags tags), []) := fun h0 => compare_ok ptags tags (ey h0).2 s1
 have cl := cmpL_less ptags tags
 generalize sortI tags = st at *
 generalize sortI first = sf at *
 generalize (whr.any fun x => !validB m x) = an at *
 generalize properB tags = pr at *
 generalize lessB ptags tags = le at *
 generalize cmpL ptags tags = cc at *
 clear hs s3
 by_cases c1 : 1 ≤ tags.length ∧ tags.length ≤ 12
 · have li : CALL 0 N.lists_In [I tags.length, I 1, I 12] [] = some (B true, []) := by rw [li, decide_eq_true (by omega)]
   by_cases c2 : whr.length = tags.length
   · cases pr with
     | false =>
       refine ⟨fun h => by simp at h, fun _ => ?_⟩
       simp (disch := omega) only [go_sem, K.swaps_Valid_l1b, ↓reduceIte, li, tg, ex, c2, Nat.reduceAdd, Nat.reduceSub]
       refine ⟨_, rfl, ?_, ?_⟩ <;> rfl
     | true =>
       by_cases c4 : st = sf
       · subst c4
         simp only [decide_true] at eq
         cases i with
         | zero =>
           cases an with
           | true =>
             refine ⟨fun h => by simp at h, fun _ => ?_⟩
             simp (disch := omega) only [go_sem, K.swaps_Valid_l1b, ↓reduceIte, li, tg, ex, c2, va, so, eq, cf, Nat.reduceAdd, Nat.reduceSub]
             refine ⟨_, rfl, ?_, ?_⟩ <;> rfl
           | false =>
             refine ⟨fun _ => ?_, fun h => by simp [c1, c2] at h⟩
             simp (disch := omega) only [go_sem, K.swaps_Valid_l1b, ↓reduceIte, li, tg, ex, c2, va, so, eq, cf, Nat.reduceAdd, Nat.reduceSub]
         | succ i =>
           obtain ⟨ey, -⟩ := ey (by omega)
           have cp := cp (by omega)
           simp only [Nat.add_sub_cancel] at ey
           cases le with
           | false =>
             have cl : ¬ cc < 0 := by simpa using cl
             refine ⟨fun h => by simp at h, fun _ => ?_⟩
             simp (disch := omega) only [go_sem, K.swaps_Valid_l1b, ↓reduceIte, li, tg, ex, c2, va, so, eq, ey, cp, Nat.reduceAdd, Nat.reduceSub]
             refine ⟨_, rfl, ?_, ?_⟩ <;> rfl
           | true =>
             have cl : cc < 0 := by simpa using cl
             cases an with
             | true =>
               refine ⟨fun h => by simp at h, fun _ => ?_⟩
               simp (disch := omega) only [go_sem, K.swaps_Valid_l1b, ↓reduceIte, li, tg, ex, c2, va, so, eq, ey, cp, cf, Nat.reduceAdd, Nat.reduceSub]
               refine ⟨_, rfl, ?_, ?_⟩ <;> rfl
             | false =>
               refine ⟨fun _ => ?_, fun h => by simp [c1, c2] at h⟩
               simp (disch := omega) only [go_sem, K.swaps_Valid_l1b, ↓reduceIte, li, tg, ex, c2, va, so, eq, ey, cp, cf, Nat.reduceAdd, Nat.reduceSub]
       · simp only [c4, decide_false] at eq
         refine ⟨fun h => by simp [c4] at h, fun _ => ?_⟩
         simp (disch := omega) only [go_sem, K.swaps_Valid_l1b, ↓reduceIte, li, tg, ex, c2, va, so, eq, Nat.reduceAdd, Nat.reduceSub]
         refine ⟨_, rfl, ?_, ?_⟩ <;> rfl
   · refine ⟨fun h => by simp [c2] at h, fun _ => ?_⟩
     simp (disch := omega) only [go_sem, K.swaps_Valid_l1b, ↓reduceIte, li, ex, c2, Nat.reduceAdd, Nat.reduceSub]
     refine ⟨_, rfl, ?_, ?_⟩ <;> rfl
 · have li : CALL 0 N.lists_In [I tags.length, I 1, I 12] [] = some (B false, []) := by rw [li, decide_eq_false (by omega)]
   refine ⟨fun h => by simp [c1] at h, fun _ => ?_⟩
   simp (disch := omega) only [go_sem, K.swaps_Valid_l1b, ↓reduceIte, li, ex, Nat.reduceAdd, Nat.reduceSub]
   refine ⟨_, rfl, ?_, ?_⟩ <;> rfl
end Go.Ev
namespace Go.Ev
open Go
variable [Lib] [Has1] [Has2]
theorem set_nthW {α : Type} [Dat α] (l : List α) (k : Nat) (hk : k < l.length) (x : α) (j : Nat) : nth (l.set k x) j = if j = k then x else nth l j := by
 unfold nth
 by_cases h : j = k
 · subst h; rw [if_pos rfl]; simp [hk]
 · rw [if_neg h]
   have : ¬ k = j := fun e => h e.symm
   simp [List.getElem?_set, this]
theorem ext_nthW {α : Type} [Dat α] {a b : List α} (h : a.length = b.length) (e : ∀ j, j < a.length → nth a j = nth b j) : a = b := by
 apply List.ext_getElem h
 intro j h1 h2
 have := e j h1
 rwa [nth_eq (List.getElem?_eq_getElem h1), nth_eq (List.getElem?_eq_getElem h2)] at this
def clW (m : Mine) (t : Int) (into : Option (List Int)) (y : List Int) : Prop := ∀ k, k < m.roads.length → ∀ back, inOK into ((nth m.roads k).dst back) = true → 0 ≤ walkT m k back 6 9 12 →
 nth y ((nth m.roads k).src back).toNat < 1099511627776 → max t (nth y ((nth m.roads k).src back).toNat + walkT m k back 6 9 12) ≤ 2147483648 →
 nth y ((nth m.roads k).dst back).toNat ≤ max t (nth y ((nth m.roads k).src back).toNat + walkT m k back 6 9 12)
theorem clW_mono {m : Mine} {t t' : Int} (ht : t ≤ t') {into : Option (List Int)} {y : List Int} (h : clW m t none y) : clW m t' into y := by
 intro k hk back _ h1 h2 h3
 have := h k hk back rfl h1 h2 (by omega)
 omega
theorem closeN_invW {α : Type} {f : α → α × Bool} (P : α → Prop) (hP : ∀ l, P l → P (f l).1) : ∀ n l, P l → P (closeN f n l)
 | 0, l, h => h
 | n + 1, l, h => by
   unfold closeN
   split
   · exact closeN_invW P hP n _ (hP l h)
   · exact hP l h
theorem closeN_fixW {α : Type} {f : α → α × Bool} (P : α → Prop) (mes : α → Nat) (hP : ∀ l, P l → P (f l).1 ∧ ((f l).2 = true → mes (f l).1 < mes l) ∧ ((f l).2 = false → (f l).1 = l)) : ∀ n l, P l → mes l < n → (f (closeN f n l)).2 = false ∧ P (closeN f n l)
 | 0, l, _, h => by omega
 | n + 1, l, hp, h => by
   obtain ⟨h1, h2, h3⟩ := hP l hp
   unfold closeN
   cases hf : (f l).2 with
   | true =>
     rw [if_pos rfl]
     have := h2 hf
     exact closeN_fixW P mes hP n _ h1 (by omega)
   | false =>
     rw [if_neg (by simp), h3 hf]
     exact ⟨hf, hp⟩
theorem halfF_is {m : Mine} (t : Int) (into : Option (List Int)) (k : Nat) (back : Bool) (l : List Int) :
 (inOK into ((nth m.roads k).dst back) = true ∧ 0 ≤ walkT m k back 6 9 12 ∧ nth l ((nth m.roads k).src back).toNat < 1099511627776 ∧ max t (nth l ((nth m.roads k).src back).toNat + walkT m k back 6 9 12) ≤ 2147483648 ∧
  max t (nth l ((nth m.roads k).src back).toNat + walkT m k back 6 9 12) < nth l ((nth m.roads k).dst back).toNat ∧
  halfF m t into k back l = (l.set ((nth m.roads k).dst back).toNat (max t (nth l ((nth m.roads k).src back).toNat + walkT m k back 6 9 12)), true)) ∨
 (halfF m t into k back l = (l, false) ∧ ¬ (inOK into ((nth m.roads k).dst back) = true ∧ 0 ≤ walkT m k back 6 9 12 ∧ nth l ((nth m.roads k).src back).toNat < 1099511627776 ∧ max t (nth l ((nth m.roads k).src back).toNat + walkT m k back 6 9 12) ≤ 2147483648 ∧
  max t (nth l ((nth m.roads k).src back).toNat + walkT m k back 6 9 12) < nth l ((nth m.roads k).dst back).toNat)) := by
 unfold halfF lowerF lowerC
 cases inOK into ((nth m.roads k).dst back) with
 | false => right; simp
 | true =>
   simp only [↓reduceIte, true_and, Bool.and_eq_true, decide_eq_true_eq]
   by_cases c : ((0 ≤ walkT m k back 6 9 12 ∧ nth l ((nth m.roads k).src back).toNat < 1099511627776) ∧ max t (nth l ((nth m.roads k).src back).toNat + walkT m k back 6 9 12) ≤ 2147483648) ∧ max t (nth l ((nth m.roads k).src back).toNat + walkT m k back 6 9 12) < nth l ((nth m.roads k).dst back).toNat
   · left
     refine ⟨c.1.1.1, c.1.1.2, c.1.2, c.2, ?_⟩
     rw [if_pos c]
     simp [c.1.1.1, c.1.1.2, c.1.2, c.2]
   · right
     refine ⟨?_, fun h => c ⟨⟨⟨h.1, h.2.1⟩, h.2.2.1⟩, h.2.2.2⟩⟩
     rw [if_neg c]
     simp only [Prod.mk.injEq, true_and]
     rw [Bool.eq_false_iff]; intro h; simp only [Bool.and_eq_true, decide_eq_true_eq] at h; exact c h
section
variable {m : Mine} (h : m.ok) {t : Int} {into : Option (List Int)}
include h
theorem stepsF_inv (P : List Int → Prop) (hP : ∀ l, l.length = m.places.length → bnd l → P l → ∀ k, k < m.roads.length → ∀ back, P (halfF m t into k back l).1) {l : List Int} (hl : l.length = m.places.length) (hb : bnd l) (hp : P l) : ∀ k, k ≤ m.roads.length → P (stepsF m t into l k).1
 | 0, _ => hp
 | k + 1, hk => by
   have ih := stepsF_inv P hP hl hb hp k (by omega)
   have b1 := stepsF_bnd h (t := t) (into := into) hl hb k (by omega)
   have l1 : (stepsF m t into l k).1.length = m.places.length := by rw [stepsF_len, hl]
   simp only [stepsF, stepF]
   exact hP _ (by rw [halfF_len, l1]) (halfF_bnd h l1 b1 (by omega) false) (hP _ l1 b1 ih k (by omega) false) k (by omega) true
theorem closeF_inv (P : List Int → Prop) (hP : ∀ l, l.length = m.places.length → bnd l → P l → ∀ k, k < m.roads.length → ∀ back, P (halfF m t into k back l).1) {l : List Int} (hl : l.length = m.places.length) (hb : bnd l) (hp : P l) : P (closeF m t into l) :=
 (closeN_invW (f := roundF m t into) (fun l => (l.length = m.places.length ∧ bnd l) ∧ P l) (fun l hl => ⟨⟨by unfold roundF; rw [stepsF_len]; exact hl.1.1, stepsF_bnd h hl.1.1 hl.1.2 _ (Nat.le_refl _)⟩, stepsF_inv h P hP hl.1.1 hl.1.2 hl.2 _ (Nat.le_refl _)⟩) _ l ⟨⟨hl, hb⟩, hp⟩).2
theorem closeF_lb {l : List Int} (hl : l.length = m.places.length) (hb : bnd l) : (closeF m t into l).length = m.places.length ∧ bnd (closeF m t into l) :=
 (closeN_invW (f := roundF m t into) (fun l => (l.length = m.places.length ∧ bnd l)) (fun l hl => ⟨by unfold roundF; rw [stepsF_len]; exact hl.1, stepsF_bnd h hl.1 hl.2 _ (Nat.le_refl _)⟩) _ l ⟨hl, hb⟩)
theorem closeF_le {l : List Int} (hl : l.length = m.places.length) (hb : bnd l) (j : Nat) : nth (closeF m t into l) j ≤ nth l j :=
 closeF_inv h (fun l' => nth l' j ≤ nth l j) (fun l' hl' hb' hp k hk back => by
  have r2 := Road.dst_ok (h.rs _ (nth_mem hk)) back
  rcases halfF_is (m := m) t into k back l' with ⟨_, _, _, _, c, e⟩ | ⟨e, _⟩
  · rw [e]; simp only
    rw [set_nthW _ _ (by omega)]
    split
    · rename_i hj; rw [hj] at hp; rw [hj]; omega
    · exact hp
  · rw [e]; exact hp) hl hb (Int.le_refl _)
theorem closeF_ge {y l : List Int} (hy : clW m t into y) (hl : l.length = m.places.length) (hb : bnd l) (hle : ∀ j, nth y j ≤ nth l j) : ∀ j, nth y j ≤ nth (closeF m t into l) j :=
 closeF_inv h (fun l' => ∀ j, nth y j ≤ nth l' j) (fun l' hl' hb' hp k hk back => by
  have r2 := Road.dst_ok (h.rs _ (nth_mem hk)) back
  rcases halfF_is (m := m) t into k back l' with ⟨c1, c2, c3, c4, c5, e⟩ | ⟨e, _⟩
  · rw [e]; simp only
    intro j
    rw [set_nthW _ _ (by omega)]
    split
    · rename_i hj
      have := hp ((nth m.roads k).src back).toNat
      have := hy k hk back c1 c2 (by omega) (by omega)
      rw [hj]; omega
    · exact hp j
  · rw [e]; exact hp) hl hb hle
theorem stepsF_no {l : List Int} (hl : l.length = m.places.length) (hb : bnd l) : ∀ k, k ≤ m.roads.length → (stepsF m t into l k).2 = false → ∀ i, i < k → ∀ back, (halfF m t into i back l).2 = false
 | 0, _, _, i, hi, _ => by omega
 | k + 1, hk, hf, i, hi, back => by
   have e := (stepsF_sum h (t := t) (into := into) hl hb k (by omega)).2
   have ih := stepsF_no hl hb k (by omega)
   simp only [stepsF, stepF, Bool.or_eq_false_iff] at hf
   obtain ⟨⟨f1, f2⟩, f3⟩ := hf
   have e := e f1
   rw [e] at f2 f3
   have e2 := (halfF_sum h (t := t) (into := into) hl hb (k := k) (by omega) false).2 f2
   rw [e2] at f3
   by_cases c : i < k
   · exact ih f1 i c back
   · have : i = k := by omega
     subst this
     cases back
     · exact f2
     · exact f3
theorem closeF_cl {l : List Int} (hl : l.length = m.places.length) (hb : bnd l) : clW m t into (closeF m t into l) := by
 obtain ⟨h1, h2, h3⟩ := closeN_fixW (f := roundF m t into) (fun l => l.length = m.places.length ∧ bnd l) sumN (fun l ⟨hl, hb⟩ => ⟨⟨by unfold roundF; rw [stepsF_len]; exact hl, stepsF_bnd h hl hb _ (Nat.le_refl _)⟩, stepsF_sum h hl hb _ (Nat.le_refl _)⟩) (sumN l + 1) l ⟨hl, hb⟩ (Nat.lt_succ_self _)
 intro k hk back c1 c2 c3 c4
 have no := stepsF_no h (t := t) (into := into) h2 h3 m.roads.length (Nat.le_refl _) h1 k hk back
 change (halfF m t into k back (closeF m t into l)).2 = false at no
 rcases halfF_is (m := m) t into k back (closeF m t into l) with ⟨_, _, _, _, _, e⟩ | ⟨_, e⟩
 · rw [e] at no; cases no
 · exact Classical.byContradiction fun hc => e ⟨c1, c2, c3, c4, by omega⟩
theorem closeF_id {l : List Int} (hl : l.length = m.places.length) (hb : bnd l) (hc : clW m t into l) : closeF m t into l = l := by
 apply ext_nthW (by rw [(closeF_lb h hl hb).1, hl])
 intro j hj
 exact Int.le_antisymm (closeF_le h hl hb j) (closeF_ge h hc hl hb (fun _ => Int.le_refl _) j)
theorem closeF_mem (P : Int → Prop) {l : List Int} (hl : l.length = m.places.length) (hb : bnd l) (hp : ∀ x ∈ l, P x) (ht : ∀ x, t ≤ x → x ≤ 2147483648 → P x) : ∀ x ∈ closeF m t into l, P x :=
 closeF_inv h (fun l' => ∀ x ∈ l', P x) (fun l' hl' hb' hp k hk back => by
  rcases halfF_is (m := m) t into k back l' with ⟨c1, c2, c3, c4, c5, e⟩ | ⟨e, _⟩
  · rw [e]
    intro x hx
    rcases List.mem_or_eq_of_mem_set hx with hx | hx
    · exact hp x hx
    · subst hx; exact ht _ (by omega) c4
  · rw [e]; exact hp) hl hb hp
end
theorem validB_of {m : Mine} (h : m.ok) {w : Wh} (hl : w.frm.length = m.places.length) (ht : inT w.time) (hp : ∀ x ∈ w.frm, plT x) (hc : clW m w.time none w.frm) : validB m w = true := by
 have hb : bnd w.frm := fun x hx => plT_bnd (hp x hx)
 simp only [validB, plainB, Bool.and_eq_true, decide_eq_true_eq, List.all_eq_true, List.mem_range]
 exact ⟨⟨⟨by omega, ht⟩, fun j hj => hp _ (nth_mem hj)⟩, closeF_id h hl hb hc⟩
theorem validB_cl {m : Mine} (h : m.ok) {w : Wh} (hv : validB m w = true) : clW m w.time none w.frm := by
 obtain ⟨v1, v2, v3, v4⟩ := validB_spec hv
 have := closeF_cl h (t := w.time) (into := none) v1 (fun x hx => plT_bnd (v3 x hx))
 rwa [v4] at this
theorem close_valid {m : Mine} (h : m.ok) {l : List Int} (hl : l.length = m.places.length) (hp : ∀ x ∈ l, plT x) {a b : Int} (ha : 0 ≤ a) (hab : a ≤ b) (hb : inT b) : validB m ⟨b, closeF m a none l⟩ = true := by
 have bn : bnd l := fun x hx => plT_bnd (hp x hx)
 exact validB_of h (closeF_lb h hl bn).1 hb (closeF_mem h plT hl bn hp (fun x h1 h2 => .inr ⟨by omega, h2⟩)) (clW_mono hab (closeF_cl h hl bn))
theorem seeN_nth {w : Wh} {l : List Int} {b : Int} {n : Nat} (hl : ∀ p ∈ l, 0 ≤ p ∧ p < n) : ∀ k, k ≤ l.length → ∀ j, j < n → nth (seeN w l b n k).1 j = if (j : Int) ∈ l.take k ∧ nth w.frm j ≤ b then nth w.frm j else 1099511627776
 | 0, _, j, hj => by
   rw [if_neg (by simp)]
   exact nth_eq (by simp [seeN, neverL, hj])
 | k + 1, hk, j, hj => by
   have ih := seeN_nth (w := w) (b := b) hl k (by omega) j hj
   have p := hl _ (nth_mem (l := l) (j := k) (by omega))
   rw [take_nth (by omega)]
   simp only [seeN, seeStep]
   by_cases e : (j : Int) = nth l k
   · have e2 : j = (nth l k).toNat := by omega
     by_cases c : nth w.frm (nth l k).toNat ≤ b
     · rw [if_pos c, set_nthW _ _ (by rw [seeN_len]; omega), if_pos e2, if_pos ⟨by simp [e], by rw [e2]; exact c⟩, e2]
     · rw [if_neg c, ih, if_neg (fun x => c (by rw [← e2]; exact x.2)), if_neg (fun x => c (by rw [← e2]; exact x.2))]
   · have e2 : ¬ j = (nth l k).toNat := by omega
     have mm : ((j : Int) ∈ l.take k ++ [nth l k]) ↔ (j : Int) ∈ l.take k := by simp [e]
     simp only [mm]
     rw [← ih]
     split
     · rw [set_nthW _ _ (by rw [seeN_len]; omega), if_neg e2]
     · rfl
end Go.Ev
namespace Go.Ev
open Go
variable [Lib] [Has1] [Has2] [Has8] [Has9]
theorem setB_memW {l : List Int} {n : Int} (h : setB l n = true) : ∀ x ∈ l, 0 ≤ x ∧ x < n := by
 intro x hx
 simp only [setB, List.all_eq_true, List.mem_range, decide_eq_true_eq] at h
 obtain ⟨j, hj⟩ := List.mem_iff_getElem?.1 hx
 have := h j (List.getElem?_eq_some_iff.1 hj).1
 rw [nth_eq hj] at this
 exact ⟨this.1, this.2.1⟩
theorem seeN_pl {w : Wh} {l : List Int} {b : Int} {n : Nat} (hl : ∀ p ∈ l, 0 ≤ p ∧ p < n) (hw : ∀ x ∈ w.frm, plT x) (hn : w.frm.length = n) : ∀ x ∈ (seeN w l b n l.length).1, plT x := by
 intro x hx
 obtain ⟨j, hj⟩ := List.mem_iff_getElem?.1 hx
 have jl := (List.getElem?_eq_some_iff.1 hj).1
 rw [seeN_len] at jl
 have e := seeN_nth (w := w) (b := b) hl _ (Nat.le_refl _) j jl
 rw [nth_eq hj] at e
 rw [e]
 split
 · exact hw _ (nth_mem (by omega))
 · exact .inl rfl
theorem see_cases {m : Mine} (h : m.ok) {w : Wh} (hv : validB m w = true) (l : List Int) (a b : Int) :
 (seeF m w l a b = (⟨b, closeF m a none (seeN w l b m.places.length l.length).1⟩, 0) ∧ askedF m w l a b = 0 ∧ w.time ≤ a ∧ (seeN w l b m.places.length l.length).2 = true ∧ validB m (seeF m w l a b).1 = true) ∨ ((seeF m w l a b).1 = w ∧ (seeF m w l a b).2 ≠ 0) := by
 by_cases c0 : askedF m w l a b = 0
 · obtain ⟨-, h0, hs, ia, ib, hab⟩ := askedF_0 c0
   by_cases c1 : a < w.time
   · right; unfold seeF; rw [if_neg (by simpa using c0), if_pos c1]; exact ⟨rfl, by simp⟩
   · cases c2 : (seeN w l b m.places.length l.length).2 with
     | false => right; unfold seeF; rw [if_neg (by simpa using c0), if_neg c1, if_neg (by simp [c2])]; exact ⟨rfl, by simp⟩
     | true =>
       left
       have e : seeF m w l a b = (⟨b, closeF m a none (seeN w l b m.places.length l.length).1⟩, 0) := by
        unfold seeF; rw [if_neg (by simpa using c0), if_neg c1, if_pos c2]
       obtain ⟨v1, v2, v3, -⟩ := validB_spec hv
       refine ⟨e, c0, by omega, rfl, ?_⟩
       rw [e]
       exact close_valid h (seeN_len ..) (seeN_pl (setB_memW hs) v3 v1) ia.1 hab ib
 · right; unfold seeF; rw [if_pos c0]; exact ⟨rfl, c0⟩
theorem see_valid {m : Mine} (h : m.ok) {w : Wh} (hv : validB m w = true) (l : List Int) (a b : Int) : validB m (seeF m w l a b).1 = true := by
 rcases see_cases h hv l a b with ⟨-, -, -, -, v⟩ | ⟨e, -⟩
 · exact v
 · rw [e]; exact hv
end Go.Ev
namespace Go.Ev
open Go
variable [Lib] [Has1] [Has2] [Has3] [Has4] [Has6] [Has7] [Has8] [Has9]
theorem psee_ok {m : Mine} (h : m.ok) (h1 : 1 ≤ m.places.length) (w : Wh) (hl : w.frm.length ≤ 1000000) (l : List Int) (hp : l.length ≤ 1000000) (a b : Int) :
 CALL 0 N.places_See [.t m.e, .t w.e, .t (tL l), I a, I b] [] = some (.tup [.t (seeF m w l a b).1.e, I (seeF m w l a b).2], []) := by
 refine CALL_of K.t_places_See rfl ?_
 have np := h.np
 have g := given25_ok h w hl l hp a b
 have nw := nowhere1_ok h h1
 unfold seeF
 by_cases c0 : askedF m w l a b = 0
 · rw [if_neg (by simpa using c0)]
   rw [c0] at g
   obtain ⟨hv, h0, hs, ia, ib, hab⟩ := askedF_0 c0
   obtain ⟨v1, v2, v3, -⟩ := validB_spec hv
   by_cases c1 : a < w.time
   · rw [if_pos c1]
     obtain ⟨places, roads⟩ := m
     obtain ⟨time, frm⟩ := w
     simp only at *
     simp (disch := omega) only [go_sem, K.places_See, ↓reduceIte, g, c1, Nat.reduceAdd, Nat.reduceSub]
   · rw [if_neg c1]
     have hb : bnd w.frm := fun x hx => plT_bnd (v3 x hx)
     have lm := fun {j : Nat} (hj : j < l.length) => setB_nth hs hj
     have sl := seeN_len w l b m.places.length
     have sb := seeN_bnd (n := m.places.length) hb l b (fun p hp => by
      obtain ⟨j, hj⟩ := List.mem_iff_getElem?.1 hp
      have := lm (List.getElem?_eq_some_iff.1 hj).1
      rw [nth_eq hj] at this
      omega) l.length (Nat.le_refl _)
     have loop : ∀ z0 z1 z2 z8 z9 z12 : D, exS CALL K.places_See_l1 ⟨[z0, z1, z2, I a, I b, .bp 0 0, .bp 1 0, .bp 2 0, z8, z9, .ref 3 0 m.places.length, B false, z12, .t (tL l), I l.length, I 0], [.box (mineCells m), .box [I w.time, .t (tL w.frm)], .box [I 0, .nil], arr1 (neverL m.places.length)]⟩ =
      some (.exit 0, ⟨[.und, .und, .und, I a, I b, .bp 0 0, .bp 1 0, .bp 2 0, .und, .und, .ref 3 0 m.places.length, B (seeN w l b m.places.length l.length).2, .und, .t (tL l), I l.length, I l.length], [.box (mineCells m), .box [I w.time, .t (tL w.frm)], .box [I 0, .nil], arr1 (seeN w l b m.places.length l.length).1]⟩) := by
      intro z0 z1 z2 z8 z9 z12
      refine loop_up (fun j => ⟨[.und, .und, .und, I a, I b, .bp 0 0, .bp 1 0, .bp 2 0, .und, .und, .ref 3 0 m.places.length, B (seeN w l b m.places.length j).2, .und, .t (tL l), I l.length, I j], [.box (mineCells m), .box [I w.time, .t (tL w.frm)], .box [I 0, .nil], arr1 (seeN w l b m.places.length j).1]⟩) l.length rfl ?_ ?_ (by simp)
      · intro j hj
        have lj := sl j
        have nj := lm hj
        simp only [seeN, seeStep]
        generalize seeN w l b m.places.length j = r at *
        obtain ⟨r1, r2⟩ := r
        obtain ⟨places, roads⟩ := m
        obtain ⟨time, frm⟩ := w
        simp only [mineCells] at *
        by_cases c : nth frm (nth l j).toNat ≤ b
        · simp (disch := omega) only [go_sem, K.places_See_l1b, ↓reduceIte, c, Nat.reduceAdd, Nat.reduceSub]
        · simp (disch := omega) only [go_sem, K.places_See_l1b, ↓reduceIte, c, Nat.reduceAdd, Nat.reduceSub]
      · obtain ⟨places, roads⟩ := m
        obtain ⟨time, frm⟩ := w
        simp only [mineCells] at *
        simp (disch := omega) only [go_sem, K.places_See_l1b, ↓reduceIte, Nat.reduceAdd, Nat.reduceSub]
     have sl := sl l.length
     have lo := (lowered_ok h a (by unfold inT at ia; omega) (by unfold inT at ia; omega) (seeN w l b m.places.length l.length).1 sl sb).1
     clear sb lm hb v3
     cases c2 : (seeN w l b m.places.length l.length).2 with
     | false =>
       rw [if_neg (by simp)]
       rw [c2] at loop
       generalize (seeN w l b m.places.length l.length).1 = r at *
       generalize neverL m.places.length = ne at *
       obtain ⟨places, roads⟩ := m
       obtain ⟨time, frm⟩ := w
       simp only [mineCells] at *
       simp (disch := omega) only [go_sem, K.places_See, ↓reduceIte, g, c1, nw, loop, Nat.reduceAdd, Nat.reduceSub]
     | true =>
       rw [if_pos rfl]
       rw [c2] at loop
       generalize closeF m a none (seeN w l b m.places.length l.length).1 = cl at *
       generalize (seeN w l b m.places.length l.length).1 = r at *
       generalize neverL m.places.length = ne at *
       obtain ⟨places, roads⟩ := m
       obtain ⟨time, frm⟩ := w
       simp only [mineCells] at *
       simp (disch := omega) only [go_sem, K.places_See, ↓reduceIte, g, c1, nw, loop, lo, sl, Nat.reduceAdd, Nat.reduceSub]
 · rw [if_pos c0]
   generalize askedF m w l a b = q at *
   obtain ⟨places, roads⟩ := m
   obtain ⟨time, frm⟩ := w
   simp only at *
   simp (disch := omega) only [go_sem, K.places_See, ↓reduceIte, g, c0, Nat.reduceAdd, Nat.reduceSub]
theorem pabs_ok {m : Mine} (h : m.ok) (w : Wh) (hl : w.frm.length ≤ 1000000) (l : List Int) (hp : l.length ≤ 1000000) (a b bl : Int) :
 CALL 0 N.places_Absent [.t m.e, .t w.e, .t (tL l), I a, I b, I bl] [] = some (.tup [.t (absF m w l a b bl).1.e, I (absF m w l a b bl).2], []) := by
 refine CALL_of K.t_places_Absent rfl ?_
 have np := h.np
 have g := given25_ok h w hl l hp a b
 have ib := in_ok bl 0 2147483648
 unfold absF
 by_cases c0 : askedF m w l a b = 0
 · rw [if_neg (by simpa using c0)]
   rw [c0] at g
   obtain ⟨hv, h0, hs, ia, ibb, hab⟩ := askedF_0 c0
   obtain ⟨v1, v2, v3, -⟩ := validB_spec hv
   unfold inT at v2 ia ibb
   by_cases c1 : inT bl
   · rw [if_neg (fun x => x c1)]
     rw [decide_eq_true (show 0 ≤ bl ∧ bl ≤ 2147483648 from c1)] at ib
     unfold inT at c1
     by_cases c2 : b < w.time
     · rw [if_pos c2]
       obtain ⟨places, roads⟩ := m
       obtain ⟨time, frm⟩ := w
       simp only at *
       simp (disch := omega) only [go_sem, K.places_Absent, ↓reduceIte, g, ib, c2, Nat.reduceAdd, Nat.reduceSub]
     · rw [if_neg c2]
       by_cases c3 : b - max a w.time ≤ bl
       · rw [if_pos c3]
         obtain ⟨places, roads⟩ := m
         obtain ⟨time, frm⟩ := w
         simp only at *
         simp (disch := omega) only [go_sem, K.places_Absent, ↓reduceIte, g, ib, c2, c3, Nat.reduceAdd, Nat.reduceSub]
       · rw [if_neg c3]
         have hb : bnd w.frm := fun x hx => plT_bnd (v3 x hx)
         have lm := fun {j : Nat} (hj : j < l.length) => setB_nth hs hj
         have ll := setB_len (n := m.places.length) hs
         have al := absN_len w.frm l
         have ab := absN_bnd hb l l.length
         have cl := clone1_ok w.frm hl
         have ht : inT (b - bl) := by unfold inT; omega
         have lo1 := (lowered_ok h (b - bl) ht.1 (by unfold inT at ht; omega) (absN w.frm l l.length) (by rw [al]; exact v1) ab).2 l (by omega)
         have hin : ∀ s, some l = some s → s ≠ [] ∧ s.length ≤ 64 := by intro s h; cases h; exact ⟨h0, by omega⟩
         have c1l := closeF_len h (b - bl) ht (some l) hin (l := absN w.frm l l.length) (by rw [al]; exact v1) ab
         have c1b := closeF_bnd h (b - bl) ht (some l) hin (l := absN w.frm l l.length) (by rw [al]; exact v1) ab
         have lo2 := (lowered_ok h b ibb.1 (by omega) _ c1l c1b).1
         have loop : ∀ z0 z1 z2 z3 z7 z10 z11 z13 : D, exS CALL K.places_Absent_l1 ⟨[z0, z1, z2, z3, I b, I bl, .bp 0 0, z7, .bp 2 0, .bp 3 0, z10, z11, .ref 4 0 w.frm.length, z13, .t (tL l), I l.length, I 0], [.box (mineCells m), .box [I w.time, .t (tL w.frm)], .box [.t (tL l)], .box [I 0, .nil], arr1 w.frm]⟩ =
          some (.exit 1, ⟨[.und, .und, .und, .und, I b, I bl, .bp 0 0, .und, .bp 2 0, .bp 3 0, .und, .und, .ref 4 0 w.frm.length, .und, .t (tL l), I l.length, I l.length], [.box (mineCells m), .box [I w.time, .t (tL w.frm)], .box [.t (tL l)], .box [I 0, .nil], arr1 (absN w.frm l l.length)]⟩) := by
          intro z0 z1 z2 z3 z7 z10 z11 z13
          refine loop_up (fun j => ⟨[.und, .und, .und, .und, I b, I bl, .bp 0 0, .und, .bp 2 0, .bp 3 0, .und, .und, .ref 4 0 w.frm.length, .und, .t (tL l), I l.length, I j], [.box (mineCells m), .box [I w.time, .t (tL w.frm)], .box [.t (tL l)], .box [I 0, .nil], arr1 (absN w.frm l j)]⟩) l.length rfl ?_ ?_ (by simp)
          · intro j hj
            have lj := al j
            have nj := lm hj
            simp only [absN]
            generalize absN w.frm l j = r at *
            obtain ⟨places, roads⟩ := m
            obtain ⟨time, frm⟩ := w
            simp only [mineCells] at *
            simp (disch := omega) only [go_sem, K.places_Absent_l1b, ↓reduceIte, Nat.reduceAdd, Nat.reduceSub]
          · obtain ⟨places, roads⟩ := m
            obtain ⟨time, frm⟩ := w
            simp only [mineCells] at *
            simp (disch := omega) only [go_sem, K.places_Absent_l1b, ↓reduceIte, Nat.reduceAdd, Nat.reduceSub]
         have al := al l.length
         clear ab lm hb v3 hin c1b
         generalize closeF m b none (closeF m (b - bl) (some l) (absN w.frm l l.length)) = r3 at *
         generalize closeF m (b - bl) (some l) (absN w.frm l l.length) = r2 at *
         generalize absN w.frm l l.length = r1 at *
         obtain ⟨places, roads⟩ := m
         obtain ⟨time, frm⟩ := w
         simp only [mineCells] at *
         have e2 : r2.length = frm.length := by omega
         simp (disch := omega) only [go_sem, K.places_Absent, ↓reduceIte, g, ib, c2, c3, cl, loop, lo1, lo2, al, e2, Nat.reduceAdd, Nat.reduceSub]
   · rw [if_pos c1]
     rw [decide_eq_false (show ¬ (0 ≤ bl ∧ bl ≤ 2147483648) from c1)] at ib
     obtain ⟨places, roads⟩ := m
     obtain ⟨time, frm⟩ := w
     simp only at *
     simp (disch := omega) only [go_sem, K.places_Absent, ↓reduceIte, g, ib, Nat.reduceAdd, Nat.reduceSub]
 · rw [if_pos c0]
   generalize askedF m w l a b = q at *
   obtain ⟨places, roads⟩ := m
   obtain ⟨time, frm⟩ := w
   simp only at *
   simp (disch := omega) only [go_sem, K.places_Absent, ↓reduceIte, g, c0, Nat.reduceAdd, Nat.reduceSub]
theorem pjoin_ok (a b : Wh) (ha : a.frm.length ≤ 1000000) : CALL 0 N.places_Join [.t a.e, .t b.e] [] = some (.tup [.t (joinF a b).1.e, I (joinF a b).2], []) := by
 refine CALL_of K.t_places_Join rfl ?_
 obtain ⟨t1, l1⟩ := a
 obtain ⟨t2, l2⟩ := b
 simp only [joinF] at *
 by_cases c : l1.length = l2.length
 · rw [if_pos c]
   have ml := minN_len l1 l2
   have lp : ∀ z0 z1 z2 z5 z7 z8 : D, exS CALL K.places_Join_l1 ⟨[z0, z1, z2, .bp 1 0, .bp 2 0, z5, .bp 3 0, z7, z8, .t (tL l1), I l1.length, I 0], [.box [I t1, .t (tL l1)], .box [I t2, .t (tL l2)], .box [I 0, .nil], .box [I (max t1 t2), .ref 5 0 0], .arr 1 false 0 [], .arr 1 false 0 []]⟩ =
    some (.exit 0, ⟨[.und, .und, .und, .bp 1 0, .bp 2 0, .und, .bp 3 0, .und, .und, .t (tL l1), I l1.length, I l1.length], [.box [I t1, .t (tL l1)], .box [I t2, .t (tL l2)], .box [I 0, .nil], .box [I (max t1 t2), .ref 5 0 (minN l1 l2 l1.length).length], .arr 1 false 0 [], .arr 1 false 0 (((minN l1 l2 l1.length).map (T.int .i64)).map .t)]⟩) := by
    intro z0 z1 z2 z5 z7 z8
    refine loop_up (fun j => ⟨[.und, .und, .und, .bp 1 0, .bp 2 0, .und, .bp 3 0, .und, .und, .t (tL l1), I l1.length, I j], [.box [I t1, .t (tL l1)], .box [I t2, .t (tL l2)], .box [I 0, .nil], .box [I (max t1 t2), .ref 5 0 (minN l1 l2 j).length], .arr 1 false 0 [], .arr 1 false 0 (((minN l1 l2 j).map (T.int .i64)).map .t)]⟩) l1.length rfl ?_ ?_ (by simp)
    · intro j hj
      have lj := ml j
      simp only [minN]
      generalize minN l1 l2 j = r at *
      simp (disch := omega) only [go_sem, K.places_Join_l1b, ↓reduceIte, Nat.reduceAdd, Nat.reduceSub]
    · simp (disch := omega) only [go_sem, K.places_Join_l1b, ↓reduceIte, Nat.reduceAdd, Nat.reduceSub]
   generalize minN l1 l2 l1.length = r at *
   have c2 := c.symm
   simp (disch := omega) only [go_sem, K.places_Join, ↓reduceIte, c2, lp, Nat.reduceAdd, Nat.reduceSub]
 · rw [if_neg c]
   simp (disch := omega) only [go_sem, K.places_Join, ↓reduceIte, c, Nat.reduceAdd, Nat.reduceSub]
   rfl
end Go.Ev
namespace Go.Ev
open Go
variable [Lib] [Has1] [Has2]
section
variable {m : Mine} (hm : m.ok) {N : Nat} {b : Bel} (hb : BOk m N b) {s : Wh} (hs : s.frm.length = m.places.length) {l : List Mch}
variable (hl : ∀ y ∈ l, y.pl.length ≤ m.places.length ∧ 1 ≤ y.pl.length ∧ ∀ x ∈ y.pl, 0 ≤ x ∧ x < m.places.length) {t a : Int} (t0 : 0 ≤ t) (t1 : t ≤ 10000) (a0 : 0 ≤ a) (a1 : a ≤ 10000) (d : Dice)
include hm hb hs hl t0 t1 a0 a1
omit hm hb t0 t1 a1 in
end
def Dice.skip (d : Dice) (n : Int) : Nat → Dice
 | 0 => d
 | k + 1 => ((d.skip n k).next n).2
end Go.Ev
namespace Go.Ev
open Go
variable [Lib] [Has1] [Has2] [Has5]
theorem plposs1_ok (s : Wh) (t : Int) (k : Nat) (hk : k < s.frm.length) : CALL 0 N.places_Possible_1 [I k, .bp 0 0, .bp 1 0] [.box [I s.time, .t (tL s.frm)], .box [I t]] = some (B (decide (nth s.frm k ≤ t)), [.box [I s.time, .t (tL s.frm)], .box [I t]]) := by
 refine CALL_of K.t_places_Possible_1 rfl ?_
 simp (disch := omega) only [go_sem, K.places_Possible_1, ↓reduceIte, Nat.reduceAdd, Nat.reduceSub]
theorem plposs_ok (s : Wh) (t : Int) (hl : s.frm.length ≤ 1000000) : CALL 0 N.places_Possible [.t s.e, I t] [] = some (.t (tL (possF s t)), []) := by
 refine CALL_of K.t_places_Possible rfl ?_
 have wh := where_ok s.frm.length hl N.places_Possible_1 [[tI s.time, tL s.frm], [tI t]] (fun k => decide (nth s.frm k ≤ t)) (fun k hk => plposs1_ok s t k hk)
 have wh : CALL 0 N.lists_Where [I s.frm.length, .fn N.places_Possible_1 [.bp 0 0, .bp 1 0]] [.box [I s.time, .t (tL s.frm)], .box [I t]] = some (.t (tL (possF s t)), [.box [I s.time, .t (tL s.frm)], .box [I t]]) := wh
 obtain ⟨time, frm⟩ := s
 simp only at hl wh
 generalize possF ⟨time, frm⟩ t = r at *
 simp (disch := omega) only [go_sem, K.places_Possible, ↓reduceIte, wh, Nat.reduceAdd, Nat.reduceSub]
end Go.Ev
namespace Go.Ev
open Go
variable [Lib] [Has1] [Has2] [Has3] [Has4] [Has5] [Has6] [Has7] [Has8] [Has9]
theorem minN_nth (a b : List Int) : ∀ n j, j < n → nth (minN a b n) j = min (nth a j) (nth b j)
 | 0, j, h => by omega
 | n + 1, j, h => by
   have ln := minN_len a b n
   by_cases e : j = n
   · subst e
     exact nth_eq (by simp only [minN]; rw [List.getElem?_append_right (by omega), ln]; simp)
   · have ih := minN_nth a b n j (by omega)
     rw [← ih]
     have : (minN a b n)[j]? = some (nth (minN a b n) j) := nth_some (by omega)
     exact nth_eq (by simp only [minN]; rw [List.getElem?_append_left (by omega)]; exact this)
theorem join_valid {m : Mine} (h : m.ok) {a b : Wh} (ha : validB m a = true) (hb : validB m b = true) : (joinF a b).2 = 0 ∧ validB m (joinF a b).1 = true ∧ (joinF a b).1.frm.length = m.places.length ∧ ∀ j, j < m.places.length → nth (joinF a b).1.frm j = min (nth a.frm j) (nth b.frm j) := by
 obtain ⟨a1, a2, a3, -⟩ := validB_spec ha
 obtain ⟨b1, b2, b3, -⟩ := validB_spec hb
 have ca := validB_cl h ha
 have cb := validB_cl h hb
 have e : joinF a b = (⟨max a.time b.time, minN a.frm b.frm a.frm.length⟩, 0) := by unfold joinF; rw [if_pos (by omega)]
 rw [e]
 have mn := fun j (hj : j < m.places.length) => minN_nth a.frm b.frm a.frm.length j (by omega)
 refine ⟨rfl, validB_of h (by simp only [minN_len]; exact a1) (by unfold inT at *; simp only; omega) (fun x hx => ?_) ?_, by simp only [minN_len]; exact a1, mn⟩
 · obtain ⟨j, hj⟩ := List.mem_iff_getElem?.1 hx
   have jl := (List.getElem?_eq_some_iff.1 hj).1
   simp only [minN_len] at jl
   have := mn j (by omega)
   rw [nth_eq hj] at this
   have x1 := a3 _ (nth_mem (l := a.frm) (j := j) jl)
   have x2 := b3 _ (nth_mem (l := b.frm) (j := j) (by omega))
   unfold plT inT at *
   omega
 · intro k hk back hi h1 h2 h3
   have r1 := Road.src_ok (h.rs _ (nth_mem hk)) back
   have r2 := Road.dst_ok (h.rs _ (nth_mem hk)) back
   simp only at h2 h3 ⊢
   rw [mn _ (by omega)] at h2 h3 ⊢
   rw [mn _ (by omega)]
   have y1 := ca k hk back rfl h1
   have y2 := cb k hk back rfl h1
   omega
theorem abs_cases {m : Mine} (h : m.ok) {w : Wh} (hv : validB m w = true) (l : List Int) (a b bl : Int) :
 (absF m w l a b bl = (⟨b, closeF m b none (closeF m (b - bl) (some l) (absN w.frm l l.length))⟩, 0) ∧ askedF m w l a b = 0 ∧ w.time ≤ b ∧ max a w.time < b - bl ∧ inT bl ∧
  (closeF m (b - bl) (some l) (absN w.frm l l.length)).length = m.places.length ∧ (∀ x ∈ closeF m (b - bl) (some l) (absN w.frm l l.length), plT x)) ∨
 ((absF m w l a b bl).1 = w ∧ ((absF m w l a b bl).2 = 0 → w.time ≤ b ∧ askedF m w l a b = 0)) := by
 by_cases c0 : askedF m w l a b = 0
 · obtain ⟨-, h0, hs, ia, ib, hab⟩ := askedF_0 c0
   by_cases c1 : inT bl
   · by_cases c2 : b < w.time
     · right; unfold absF; rw [if_neg (by simpa using c0), if_neg (fun x => x c1), if_pos c2]; exact ⟨rfl, by simp⟩
     · by_cases c3 : b - max a w.time ≤ bl
       · right; unfold absF; rw [if_neg (by simpa using c0), if_neg (fun x => x c1), if_neg c2, if_pos c3]; exact ⟨rfl, fun _ => ⟨by omega, c0⟩⟩
       · left
         obtain ⟨v1, v2, v3, -⟩ := validB_spec hv
         have pl : ∀ x ∈ absN w.frm l l.length, plT x := by
          have key : ∀ k, ∀ x ∈ absN w.frm l k, plT x := by
           intro k
           induction k with
           | zero => exact v3
           | succ k ih =>
             intro x hx
             rcases List.mem_or_eq_of_mem_set hx with hx | hx
             · exact ih x hx
             · exact .inl hx
          exact key _
         have bn : bnd (absN w.frm l l.length) := fun x hx => plT_bnd (pl x hx)
         unfold inT at ia c1 v2 ib
         refine ⟨?_, c0, by omega, by omega, c1, (closeF_lb h (by rw [absN_len]; exact v1) bn).1, closeF_mem h plT (by rw [absN_len]; exact v1) bn pl (fun x h1 h2 => .inr ⟨by omega, h2⟩)⟩
         unfold absF; rw [if_neg (by simpa using c0), if_neg (fun x => x (by unfold inT; omega)), if_neg c2, if_neg c3]
   · right; unfold absF; rw [if_neg (by simpa using c0), if_pos c1]; exact ⟨rfl, by simp⟩
 · right; unfold absF; rw [if_pos c0]; exact ⟨rfl, fun h => absurd h c0⟩
theorem abs_valid {m : Mine} (h : m.ok) {w : Wh} (hv : validB m w = true) (l : List Int) (a b bl : Int) : validB m (absF m w l a b bl).1 = true := by
 rcases abs_cases h hv l a b bl with ⟨e, c0, -, hm, hbl, ln, pl⟩ | ⟨e, -⟩
 · obtain ⟨-, -, hs, ia, ib, hab⟩ := askedF_0 c0
   rw [e]
   exact close_valid h ln pl (by unfold inT at ib; omega) (Int.le_refl _) ib
 · rw [e]; exact hv
end Go.Ev
namespace Go.Ev
open Go
variable [Lib] [Has1] [Has2] [Has3] [Has4] [Has5] [Has6] [Has7] [Has8] [Has9] [Has10] [Has11]
def lexB : List Int → List Int → Bool
 | _, [] => false
 | [], _ :: _ => true
 | a :: r, b :: s => decide (a < b) || (decide (a = b) && lexB r s)
theorem nth_cons_succ (a : Int) (l : List Int) (j : Nat) : nth (a :: l) (j + 1) = nth l j := by simp [nth]
theorem nth_cons_zero (a : Int) (l : List Int) : nth (a :: l) 0 = a := by simp [nth]
theorem less_lex : ∀ a b : List Int, lessB a b = lexB a b
 | a, [] => by
   unfold lessB lexB
   simp
 | [], b :: s => by
   unfold lessB lexB
   simp
 | a :: r, b :: s => by
   have ih := less_lex r s
   unfold lessB at ih ⊢
   have e : min (a :: r).length (b :: s).length = min r.length s.length + 1 := by simp only [List.length_cons]; omega
   rw [e, List.range_succ_eq_map, List.find?_cons]
   simp only [nth_cons_zero]
   by_cases h : a = b
   · subst h
     simp only [ne_eq, not_true_eq_false, decide_false, Bool.false_eq_true, List.find?_map, lexB, decide_true, Bool.true_and, Int.lt_irrefl, Bool.false_or]
     rw [← ih]
     have : ((fun j => decide (¬nth (a :: r) j = nth (a :: s) j)) ∘ Nat.succ) = fun j => decide (nth r j ≠ nth s j) := by
      funext j
      simp only [Function.comp, Nat.succ_eq_add_one, nth_cons_succ, ne_eq]
     rw [this]
     cases (List.range (min r.length s.length)).find? (fun j => decide (nth r j ≠ nth s j)) with
     | some j => simp only [Option.map_some, Nat.succ_eq_add_one, nth_cons_succ]
     | none => simp only [Option.map_none, List.length_cons, Nat.add_lt_add_iff_right]
   · simp only [ne_eq, h, not_false_eq_true, decide_true, lexB, decide_false, Bool.false_and, Bool.or_false, nth_cons_zero]
theorem lex_trans : ∀ {a b c : List Int}, lexB a b = true → lexB b c = true → lexB a c = true
 | _, _, [], _, h => by simp [lexB] at h
 | [], _, _ :: _, _, _ => rfl
 | _ :: _, [], _, h, _ => by simp [lexB] at h
 | a :: r, b :: s, c :: t, h1, h2 => by
   simp only [lexB, Bool.or_eq_true, Bool.and_eq_true, decide_eq_true_eq] at h1 h2 ⊢
   rcases h1 with h1 | ⟨h1, k1⟩
   · rcases h2 with h2 | ⟨h2, k2⟩
     · left; omega
     · left; omega
   · rcases h2 with h2 | ⟨h2, k2⟩
     · left; omega
     · right; exact ⟨by omega, lex_trans k1 k2⟩
theorem lex_irrefl : ∀ a : List Int, lexB a a = false
 | [] => rfl
 | a :: r => by simp [lexB, lex_irrefl r]
theorem lex_total : ∀ a b : List Int, lexB a b = true ∨ a = b ∨ lexB b a = true
 | [], [] => .inr (.inl rfl)
 | [], _ :: _ => .inl rfl
 | _ :: _, [] => .inr (.inr rfl)
 | a :: r, b :: s => by
   simp only [lexB, Bool.or_eq_true, Bool.and_eq_true, decide_eq_true_eq, List.cons.injEq]
   rcases lex_total r s with h | h | h
   · by_cases c : a < b
     · exact .inl (.inl c)
     · by_cases c2 : a = b
       · exact .inl (.inr ⟨c2, h⟩)
       · exact .inr (.inr (.inl (by omega)))
   · by_cases c : a < b
     · exact .inl (.inl c)
     · by_cases c2 : a = b
       · exact .inr (.inl ⟨c2, h⟩)
       · exact .inr (.inr (.inl (by omega)))
   · by_cases c : a < b
     · exact .inl (.inl c)
     · by_cases c2 : a = b
       · exact .inr (.inr (.inr ⟨c2.symm, h⟩))
       · exact .inr (.inr (.inl (by omega)))
structure WV (m : Mine) (first : List Int) (x : World) : Prop where
 pm : x.tags.Perm first
 wl : x.whr.length = first.length
 wv : ∀ w ∈ x.whr, validB m w = true
structure BV (m : Mine) (first : List Int) (ws : List World) : Prop where
 pr : properB first = true
 f1 : 1 ≤ first.length
 f2 : first.length ≤ 12
 wv : ∀ x ∈ ws, WV m first x
 up : ws.Pairwise fun x y => lexB x.tags y.tags = true
theorem proper_perm {a b : List Int} (h : a.Perm b) (hb : properB b = true) : properB a = true := by
 rw [properB_iff] at hb ⊢
 exact ⟨h.nodup_iff.2 hb.1, fun x hx => hb.2 x (h.mem_iff.1 hx)⟩
theorem BV.bel {m : Mine} {first : List Int} {ws : List World} (h : BV m first ws) (h1 : 1 ≤ ws.length) (h2 : ws.length ≤ 24) : belB m ⟨ws⟩ = true := by
 have w0 := h.wv _ (nth_mem (l := ws) (j := 0) (by omega))
 have l0 := w0.pm.length_eq
 simp only [belB, Bool.and_eq_true, decide_eq_true_eq, List.all_eq_true, List.mem_range, worldB, Bool.or_eq_true, whoB]
 have f1 := h.f1
 have f2 := h.f2
 refine ⟨⟨⟨h1, h2⟩, by omega⟩, fun i hi => ?_⟩
 have wi := h.wv _ (nth_mem (l := ws) (j := i) hi)
 have li := wi.pm.length_eq
 have wl := wi.wl
 refine ⟨⟨⟨by omega, proper_perm wi.pm h.pr⟩, ?_⟩, fun k hk => ⟨?_, ?_⟩⟩
 · by_cases c : i = 0
   · exact .inl c
   · right
     rw [less_lex]
     have := (List.pairwise_iff_getElem.1 h.up) (i - 1) i (by omega) hi (by omega)
     rwa [← nth_eq (List.getElem?_eq_getElem (by omega : i - 1 < ws.length)), ← nth_eq (List.getElem?_eq_getElem hi)] at this
 · exact bearerF_mem.2 (w0.pm.symm.mem_iff.1 (wi.pm.mem_iff.1 (nth_mem hk)))
 · exact wi.wv _ (nth_mem (by omega))
theorem bel_BV {m : Mine} {ws : List World} (h : belB m ⟨ws⟩ = true) : BV m (nth ws 0).tags ws := by
 obtain ⟨h1, h2, h3, h4, h5⟩ := belB_spec h
 simp only at h1 h2 h3 h4 h5
 have p0 := (worldB_spec (h5 0 (by omega))).2.2.1
 refine ⟨p0, h3, h4, fun x hx => ?_, ?_⟩
 · obtain ⟨i, hi⟩ := List.mem_iff_getElem?.1 hx
   have il := (List.getElem?_eq_some_iff.1 hi).1
   obtain ⟨w1, w2, w3, w4⟩ := worldB_spec (h5 i il)
   rw [nth_eq hi] at w1 w2 w3 w4
   refine ⟨nodup_sub_perm (properB_nodup w3) (properB_nodup p0) w1 fun y hy => ?_, w2, fun w hw => ?_⟩
   · obtain ⟨j, hj⟩ := List.mem_iff_getElem?.1 hy
     have := (w4 j (List.getElem?_eq_some_iff.1 hj).1).1
     rwa [nth_eq hj] at this
   · obtain ⟨j, hj⟩ := List.mem_iff_getElem?.1 hw
     have := (w4 j (by rw [w1, ← w2]; exact (List.getElem?_eq_some_iff.1 hj).1)).2
     rwa [nth_eq hj] at this
 · have key : ∀ d i, i + d + 1 < ws.length → lexB (nth ws i).tags (nth ws (i + d + 1)).tags = true := by
    intro d
    induction d with
    | zero =>
      intro i hi
      have := h5 (i + 1) hi
      simp only [worldB, Bool.and_eq_true, Bool.or_eq_true, decide_eq_true_eq] at this
      have := this.1.2
      rw [← less_lex]
      simpa using this
    | succ d ih =>
      intro i hi
      have a := ih i (by omega)
      have := h5 (i + (d + 1) + 1) hi
      simp only [worldB, Bool.and_eq_true, Bool.or_eq_true, decide_eq_true_eq] at this
      have b := this.1.2.resolve_left (by omega)
      rw [less_lex, show i + (d + 1) + 1 - 1 = i + d + 1 by omega] at b
      exact lex_trans a b
   rw [List.pairwise_iff_getElem]
   intro i j hi hj hij
   have := key (j - i - 1) i (by omega)
   rw [show i + (j - i - 1) + 1 = j by omega, nth_eq (List.getElem?_eq_getElem hi), nth_eq (List.getElem?_eq_getElem hj)] at this
   exact this
end Go.Ev
namespace Go.Ev.N
def law26_SwapsStarts : Nat := 271
def law26_SwapsMany : Nat := 272
def law26_SwapsTrue : Nat := 273
def law26_SwapsAlone : Nat := 274
def law26_SwapsRaw : Nat := 275
def law26_SwapsMade : Nat := 276
def law26_awake : Nat := 277
def swaps_Start : Nat := 278
def law26_same : Nat := 279
def law26_pair : Nat := 280
def swaps_Exchange : Nat := 281
def swaps_See : Nat := 282
def swaps_Absent : Nat := 283
def law26_light : Nat := 284
def law26_agree : Nat := 285
def ref26_Same : Nat := 286
def slices_Clone_api_World_api_World : Nat := 287
def swaps_meet : Nat := 288
def worlds_Copy : Nat := 289
def worlds_Tidy : Nat := 290
def swaps_apply : Nat := 291
def swaps_See_1 : Nat := 292
def swaps_Absent_1 : Nat := 293
def swaps_Renew : Nat := 294
def ref26_Renew : Nat := 295
def swaps_meet_1 : Nat := 296
def slices_SortedStableFunc_api_World : Nat := 297
def slices_Values_api_World_api_World : Nat := 298
def worlds_Tidy_1 : Nat := 299
def slices_Collect_api_World : Nat := 300
def slices_SortStableFunc_api_World_api_World : Nat := 301
def slices_Values_api_World_api_World_1 : Nat := 302
def slices_stableCmpFunc_api_World : Nat := 303
def slices_insertionSortCmpFunc_api_World : Nat := 304
def slices_symMergeCmpFunc_api_World : Nat := 305
def slices_rotateCmpFunc_api_World : Nat := 306
def slices_swapRangeCmpFunc_api_World : Nat := 307
def worlds_Copy_v1 : Nat := 308
end Go.Ev.N
namespace Go.Ev.K
open Go.Ev
def law26_SwapsRaw : Fn := { nargs := 3, vars := [0, 1, 2, 4, 5, 6, 7, 8, 9, 10, 11, 12, 13], body := (.seq (.reg [w 3 (.bx v1 1), w 4 (.bx v2 3), w 5 (.mv (.b false))] []) (.seq (.ite [m v0, u (.ca N.made_Light 0 [] [.l 0]), u (.un .not l0), m l0, y 0 false (.ld v3 1 true), y 1 false (.ca N.law26_light 0 [] [.l 0]), y 2 false (.un .not l0), u (.pk l3 (.b true) l0)] [] 0 (.seq (.reg [u (.ca N.law26_awake 0 [] []), w 5 (.mv l0)] []) .ret) .skip) (.seq (.reg [m v0, u (.ca N.made_Roll 0 [] [.l 0]), w 6 (.mv l0)] []) (.seq (.reg [m v6, u (.ca N.made_Dice_Mine 0 [] [.l 0]), w 7 (.al [.nil, .nil] []), u (.st l0 l1 2 [])] []) (.seq (.reg [m v6, f 0 v7, g l0, u (.ln l0), u (.ca N.made_Dice_Some 0 [] [.l 3, .l 0]), w 8 (.mv l0)] []) (.seq (.reg [h 2 v7, h 1 v3, u (.iaa v4 (.i 0) 3 1), g l0, u (.iaa v4 (.i 1) 3 1), g l0, u (.iaa v4 (.i 2) 3 1), g l0, u (.ca N.swaps_Exchange 0 [] [.l 7, .l 6, .l 4, .l 2, .l 0]), m l0, u (.ex l0 0), u (.ex l1 1), w 9 (.al [.nil] []), u (.st l0 l2 1 []), w 10 (.mv l2)] []) (.seq (.reg [h 2 v7, h 1 v3, u (.iaa v4 (.i 0) 3 1), g l0, u (.iaa v4 (.i 1) 3 1), g l0, u (.iaa v4 (.i 2) 3 1), g l0, u (.ca N.ref26_Exchange 0 [] [.l 7, .l 6, .l 4, .l 2, .l 0]), m l0, u (.ex l0 0), u (.ex l1 1), w 11 (.al [.nil] []), u (.st l0 l2 1 []), w 12 (.mv l2)] []) (.seq (.reg [u (.ca N.law26_awake 0 [] []), m l0, y 0 true (.ld v7 2 true), y 1 true (.ld v3 1 true), y 2 true (.iaa v4 (.i 0) 3 1), y 3 true (.ld l0 1 false), y 4 true (.mv v8), y 5 true (.ld v4 3 true), y 6 true (.ca N.law26_agree 0 [] [.l 5, .l 4, .l 2, .l 1, .l 0]), u (.pk l7 l0 (.b false)), m l0, y 0 true (.ld v9 1 true), y 1 true (.ld v11 1 true), y 2 true (.mv v10), y 3 true (.mv v12), y 4 true (.ca N.law26_same 0 [] [.l 3, .l 2, .l 1, .l 0]), u (.pk l5 l0 (.b false)), w 5 (.mv l0)] []) .ret)))))))), res := [(5, none)] }
def law26_awake : Fn := { nargs := 0, vars := [0, 1, 2, 3, 4, 5, 6, 7, 8], body := (.seq (.reg [w 0 (.mv (.b false))] []) (.seq (.reg [u (.ca N.law26_pair 0 [] []), w 1 (.al [.nil, .nil] []), u (.st l0 l1 2 [])] []) (.seq (.reg [h 2 v1, u (.bs [.i 4, .i 9] 1), u (.bs [.i 0, .i 0] 1), u (.ca N.swaps_Start 0 [] [.l 2, .l 1, .l 0, .i 0]), m l0, u (.ex l0 0), u (.ex l1 1), w 2 (.al [.nil] []), u (.st l0 l2 1 []), w 3 (.mv l2)] []) (.seq (.reg [h 2 v1, h 1 v2, u (.ca N.swaps_Exchange 0 [] [.l 1, .l 0, .i 0, .i 1, .i 0]), m l0, u (.ex l0 0), u (.ex l1 1), w 4 (.al [.nil] []), u (.st l0 l2 1 []), w 5 (.mv l2)] []) (.seq (.reg [h 2 v1, h 1 v4, u (.bs [.i 1] 1), u (.ca N.swaps_See 0 [] [.l 2, .l 1, .i 9, .l 0, .i 20, .i 20]), m l0, u (.ex l0 0), u (.ex l1 1), w 6 (.al [.nil] []), u (.st l0 l2 1 []), w 7 (.mv l2)] []) (.seq (.reg [h 1 v6, u (.ca N.swaps_Possible 0 [] [.l 0, .i 0, .i 20]), w 8 (.mv l0)] []) (.seq (.reg [m v3, u (.bin .eql l0 (.i 0)), m l0, y 0 true (.mv v5), y 1 true (.bin .eql l0 (.i 0)), u (.pk l2 l0 (.b false)), m l0, y 0 true (.mv v7), y 1 true (.bin .eql l0 (.i 0)), u (.pk l2 l0 (.b false)), m l0, y 0 true (.fa v2 0), y 1 true (.ld l0 1 false), y 2 true (.ln l0), y 3 true (.bin .eql l0 (.i 1)), u (.pk l4 l0 (.b false)), m l0, y 0 true (.fa v4 0), y 1 true (.ld l0 1 false), y 2 true (.ln l0), y 3 true (.bin .eql l0 (.i 2)), u (.pk l4 l0 (.b false)), m l0, y 0 true (.fa v6 0), y 1 true (.ld l0 1 false), y 2 true (.ln l0), y 3 true (.bin .eql l0 (.i 2)), u (.pk l4 l0 (.b false)), m l0, y 0 true (.mv v8), y 1 true (.ln l0), y 2 true (.bin .eql l0 (.i 2)), u (.pk l3 l0 (.b false)), m l0, y 0 true (.ld v1 2 true), y 1 true (.ld v6 1 true), y 2 true (.ca N.swaps_Valid 0 [] [.l 1, .l 0]), u (.pk l3 l0 (.b false)), w 0 (.mv l0)] []) .ret))))))), res := [(0, none)] }
def swaps_Start_l1b : C := (.its  [u (.bin .lss v13 v12)] [] 0 .skip (.exit 1) (.seq (.blk 2 (.seq (.reg [a 1 v11 v13, g l0, w 8 (.mv l0)] []) (.seq (.reg [h 2 v4, m v8, m v3, u (.ca N.places_Start 0 [] [.l 2, .l 1, .l 0]), m l0, u (.ex l0 0), u (.ex l1 1), w 9 (.al [.t (.int .i64 (0)), .nil] []), u (.st l0 l2 2 []), w 10 (.mv l2)] []) (.seq (.ite [m v10, u (.bin .neq l0 (.i 0))] [] 0 (.seq (.reg [u (.bd [.nil] []), m v10, u (.st v5 l1 1 []), w 6 (.mv l1)] []) .ret) .skip) (.reg [f 1 v7, g l0, h 2 v9, u (.bs [.l 0] 2), u (.app l2 l0 true 2), f 1 v7, u (.st l0 l1 1 [])] []))))) (.reg [u (.bin .add v13 (.i 1)), w 13 (.mv l0)] [])))
def swaps_Start_l1 : C := .loop true [0, 1, 2, 6, 8, 9, 10] K.swaps_Start_l1b
def swaps_Start : Fn := { nargs := 4, vars := [0, 1, 2, 3, 4, 8, 9, 10, 12, 13, 14, 41, 42, 43], body := (.seq (.reg [w 4 (.bx v0 2), w 5 (.al [.nil] []), w 6 (.mv (.i 0))] []) (.seq (.blk 0 (.ite [h 2 v4, u (.ca N.plan_Valid 0 [] [.l 0]), u (.un .not l0), m l0, y 0 false (.mv v1), y 1 false (.ln l0), y 2 false (.mv v2), y 3 false (.ln l0), y 4 false (.bin .neq l2 l0), u (.pk l5 (.b true) l0), m l0, y 0 false (.mv v1), y 1 false (.ln l0), y 2 false (.ca N.lists_In 0 [] [.l 0, .i 1, .i 12]), y 3 false (.un .not l0), u (.pk l4 (.b true) l0), m l0] [] 0 (.seq (.reg [u (.bd [.nil] []), u (.st v5 l0 1 []), w 6 (.mv (.i 6))] []) .ret) (.ite [m v1, u (.ca N.swaps_tagged 0 [] [.l 0]), u (.un .not l0), m l0] [] 0 (.seq (.reg [u (.bd [.nil] []), u (.st v5 l0 1 []), w 6 (.mv (.i 41))] []) .ret) .skip))) (.seq (.reg [m v1, u (.ca N.slices_Clone_int_int 0 [] [.l 0]), u (.bd [.nil, .nil] [(0, 1, .l 0)]), w 7 (.al [.nil, .nil] [(1, 2)]), u (.st l0 l1 2 [(1, 2)])] []) (.seq (.seq (.reg [w 11 (.mv v2), w 12 (.ln l0), w 13 (.mv (.i 0))] []) (.blk 1 K.swaps_Start_l1)) (.seq (.reg [h 2 v7, u (.bs [.l 0] 2), u (.bd [.nil] [(0, 1, .l 0)]), u (.st v5 l0 1 []), w 6 (.mv (.i 0))] []) .ret))))), res := [(5, some (1, true)), (6, none)] }
def law26_same : Fn := { nargs := 4, vars := [0, 1, 2, 3, 4, 5, 8], body := (.seq (.reg [w 4 (.bx v0 1), w 5 (.bx v1 1), w 6 (.mv (.b false))] []) (.seq (.reg [m v2, m v3, u (.bin .eql l1 l0), m l0, y 0 true (.ld v4 1 true), y 1 true (.ld v5 1 true), y 2 true (.ca N.ref26_Same 0 [] [.l 1, .l 0]), u (.pk l3 l0 (.b false)), w 6 (.mv l0)] []) .ret)), res := [(6, none)] }
def law26_pair : Fn := { nargs := 0, vars := [0], body := (.seq (.reg [w 0 (.al [.nil, .nil] [])] []) (.seq (.reg [u (.bd [.t (.int .i64 (0)), .t (.bool false)] [(1, 1, .b true)]), u (.bd [.t (.int .i64 (0)), .t (.bool false)] []), u (.bs [.l 1, .l 0] 2), u (.bd [.t (.int .i64 (0)), .t (.int .i64 (0))] [(0, 1, .i 1), (1, 1, .i 1)]), u (.bd [.t (.int .i64 (0)), .t (.int .i64 (0)), .t (.int .i64 (0)), .t (.int .i64 (0)), .t (.bool false), .t (.bool false), .t (.int .i64 (0)), .t (.int .i64 (0)), .t (.int .i64 (0)), .t (.int .i64 (0))] [(1, 1, .i 1), (2, 1, .i 12), (3, 1, .i 1), (4, 1, .b true), (6, 2, .l 0)]), u (.bs [.l 0] 10), u (.bd [.nil, .nil] [(0, 1, .l 3), (1, 1, .l 0)]), u (.st v0 l0 2 [])] []) .ret)), res := [(0, some (2, true))] }
def swaps_Exchange_l2b : C := (.its  [u (.bin .lss v21 (.i 2))] [] 0 .skip (.exit 3) (.seq (.blk 4 (.seq (.reg [u (.ix v20 v21 2 1 false), w 13 (.mv l0)] []) (.seq (.reg [f 1 v12, g l0, m v13, a 2 l1 l0, h 2 l0, m v4, u (.ca N.places_Raise 0 [] [.l 1, .l 0]), m l0, u (.ex l0 0), u (.ex l1 1), w 14 (.al [.t (.int .i64 (0)), .nil] []), u (.st l0 l2 2 []), w 15 (.mv l2)] []) (.ite [m v15, u (.bin .eql l0 (.i 0))] [] 0 (.reg [f 1 v12, g l0, m v13, h 2 v14, a 2 l2 l1, u (.st l0 l1 2 [])] []) .skip)))) (.reg [u (.bin .add v21 (.i 1)), w 21 (.mv l0)] [])))
def swaps_Exchange_l2 : C := .loop true [0, 1, 5, 8, 9, 11, 13, 14, 15, 16] K.swaps_Exchange_l2b
def swaps_Exchange_l1b : C := (.its  [u (.bin .lss v19 v18)] [] 0 .skip (.exit 1) (.seq (.blk 2 (.seq (.reg [a 2 v17 v19, h 2 l0, w 11 (.al [.nil, .nil] []), u (.st l0 l1 2 [])] []) (.seq (.ite [f 1 v11, g l0, m v2, a 2 l1 l0, h 2 l0, f 1 v11, g l0, m v3, a 2 l1 l0, h 2 l0, m v4, u (.ca N.swaps_meet 0 [] [.l 6, .l 1, .l 0]), u (.un .not l0)] [] 0 (.exit 2) .skip) (.seq (.reg [h 2 v11, u (.ca N.worlds_Copy_v1 1 [] [.l 0]), w 12 (.al [.nil, .nil] []), u (.st l0 l1 2 [])] []) (.seq (.reg [f 0 v12, g l0, m v2, f 0 v12, g l0, m v3, f 0 v12, g l0, m v3, a 1 l1 l0, g l0, f 0 v12, g l0, m v2, a 1 l1 l0, g l0, a 1 (.l 14) (.l 13), u (.st l0 l6 1 []), a 1 (.l 13) (.l 12), u (.st l0 l3 1 [])] [(4, 18)]) (.seq (.seq (.reg [m v2, m v3, w 20 (.bd [.t (.int .i64 (0)), .t (.int .i64 (0))] [(0, 1, .l 1), (1, 1, .l 0)]), w 21 (.mv (.i 0))] []) (.blk 3 K.swaps_Exchange_l2)) (.reg [m v10, h 2 v12, u (.bs [.l 0] 2), u (.app l2 l0 true 2), w 10 (.mv l0)] []))))))) (.reg [u (.bin .add v19 (.i 1)), w 19 (.mv l0)] [])))
def swaps_Exchange_l1 : C := .loop true [0, 1, 5, 8, 9, 11, 12, 13, 14, 15, 16, 20, 21] K.swaps_Exchange_l1b
def swaps_Exchange : Fn := { nargs := 5, vars := [0, 1, 2, 3, 4, 5, 6, 10, 11, 12, 13, 15, 16, 18, 19, 20, 21, 60, 61, 62, 101, 102], body := (.seq (.reg [w 5 (.bx v0 2), w 6 (.bx v1 1), w 7 (.al [.nil] []), w 8 (.mv (.i 0))] []) (.seq (.ite [h 2 v5, h 1 v6, u (.ca N.swaps_Valid 0 [] [.l 1, .l 0]), u (.un .not l0)] [] 0 (.seq (.reg [h 1 v6, u (.st v7 l0 1 []), w 8 (.mv (.i 6))] []) .ret) .skip) (.seq (.reg [f 0 v6, g l0, a 2 l0 (.i 0), f 0 l0, g l0, u (.ln l0), u (.bin .sub l0 (.i 1)), w 9 (.mv l0)] []) (.seq (.blk 0 (.ite [m v2, m v9, u (.ca N.lists_In 0 [] [.l 1, .i 0, .l 0]), u (.un .not l0), m l0, y 0 false (.mv v3), y 1 false (.mv v9), y 2 false (.ca N.lists_In 0 [] [.l 1, .i 0, .l 0]), y 3 false (.un .not l0), u (.pk l4 (.b true) l0), m l0, y 0 false (.mv v2), y 1 false (.mv v3), y 2 false (.bin .eql l1 l0), u (.pk l3 (.b true) l0), m l0] [] 0 (.seq (.reg [h 1 v6, u (.st v7 l0 1 []), w 8 (.mv (.i 19))] []) .ret) (.ite [m v4, u (.ca N.lists_In 0 [] [.l 0, .i 0, .i 2147483648]), u (.un .not l0), m l0] [] 0 (.seq (.reg [h 1 v6, u (.st v7 l0 1 []), w 8 (.mv (.i 8))] []) .ret) .skip))) (.seq (.reg [f 0 v6, g l0, u (.ca N.slices_Clone_api_World_api_World 1 [] [.l 0]), w 10 (.mv l0)] []) (.seq (.seq (.reg [f 0 v6, w 17 (.ld l0 1 false), w 18 (.ln l0), w 19 (.mv (.i 0))] []) (.blk 1 K.swaps_Exchange_l1)) (.seq (.reg [m v10, u (.ca N.worlds_Tidy 0 [] [.l 0]), u (.bd [.nil] [(0, 1, .l 0)]), w 16 (.al [.nil] []), u (.st l0 l1 1 [])] []) (.seq (.ite [f 0 v16, g l0, u (.ln l0), u (.bin .gtr l0 (.i 24))] [] 0 (.seq (.reg [h 1 v6, u (.st v7 l0 1 []), w 8 (.mv (.i 44))] []) .ret) .skip) (.seq (.reg [h 1 v16, u (.st v7 l0 1 []), w 8 (.mv (.i 0))] []) .ret))))))))), res := [(7, some (1, true)), (8, none)] }
def swaps_See : Fn := { nargs := 6, vars := [0, 1, 2, 3, 4, 5, 6, 7, 9, 10, 11, 12, 13], body := (.seq (.reg [w 6 (.bx v0 2), w 7 (.bx v1 1), w 8 (.bx v3 1), w 9 (.bx v4 1), w 10 (.bx v5 1), w 11 (.al [.nil] []), w 12 (.mv (.i 0))] []) (.seq (.reg [h 2 v6, h 1 v7, m v2, u (.mf N.swaps_See_1 [.v 6, .v 8, .v 9, .v 10]), u (.ca N.swaps_apply 0 [] [.l 3, .l 2, .l 1, .l 0]), u (.ex l0 0), u (.ex l1 1), u (.st v11 l1 1 []), w 12 (.mv l1)] []) .ret)), res := [(11, some (1, true)), (12, none)] }
def swaps_Absent : Fn := { nargs := 7, vars := [0, 1, 2, 3, 4, 5, 6, 7, 8, 10, 11, 12, 13, 14, 15], body := (.seq (.reg [w 7 (.bx v0 2), w 8 (.bx v1 1), w 9 (.bx v3 1), w 10 (.bx v4 1), w 11 (.bx v5 1), w 12 (.bx v6 1), w 13 (.al [.nil] []), w 14 (.mv (.i 0))] []) (.seq (.reg [h 2 v7, h 1 v8, m v2, u (.mf N.swaps_Absent_1 [.v 7, .v 9, .v 10, .v 11, .v 12]), u (.ca N.swaps_apply 0 [] [.l 3, .l 2, .l 1, .l 0]), u (.ex l0 0), u (.ex l1 1), u (.st v13 l1 1 []), w 14 (.mv l1)] []) .ret)), res := [(13, some (1, true)), (14, none)] }
def law26_light_l2b : C := (.seq (.ite [m v4, f 0 v1, g l0, m v3, a 2 l1 l0, f 1 l0, g l0, u (.ln l0), u (.bin .lss l7 l0)] [] 0 .skip (.exit 2)) (.seq (.blk 3 (.ite [f 0 v1, g l0, m v3, a 2 l1 l0, f 1 l0, g l0, m v4, a 2 l1 l0, f 1 l0, g l0, u (.ln l0), u (.bin .gtr l0 (.i 100))] [] 0 (.seq (.reg [w 2 (.mv (.b false))] []) .ret) .skip)) (.reg [m v4, u (.bin .add l0 (.i 1)), w 4 (.mv l0)] [])))
def law26_light_l2 : C := .loop true [0, 2] K.law26_light_l2b
def law26_light_l1b : C := (.seq (.ite [m v3, f 0 v1, g l0, u (.ln l0), u (.bin .lss l3 l0)] [] 0 .skip (.exit 0)) (.seq (.blk 1 (.seq (.ite [f 0 v1, g l0, m v3, a 2 l1 l0, f 1 l0, g l0, u (.ln l0), u (.bin .gtr l0 (.i 8)), m l0, y 0 false (.fa v1 0), y 1 false (.ld l0 1 false), y 2 false (.mv v3), y 3 false (.ia l1 l0 2), y 4 false (.fa l0 0), y 5 false (.ld l0 1 false), y 6 false (.ln l0), y 7 false (.bin .gtr l0 (.i 20)), u (.pk l8 (.b true) l0)] [] 0 (.seq (.reg [w 2 (.mv (.b false))] []) .ret) .skip) (.seq (.reg [w 4 (.mv (.i 0))] []) (.blk 2 K.law26_light_l2)))) (.reg [m v3, u (.bin .add l0 (.i 1)), w 3 (.mv l0)] [])))
def law26_light_l1 : C := .loop true [0, 2, 4] K.law26_light_l1b
def law26_light : Fn := { nargs := 1, vars := [0, 1, 2, 3, 4], body := (.seq (.reg [w 1 (.bx v0 1), w 2 (.mv (.b false))] []) (.seq (.seq (.reg [w 3 (.mv (.i 0))] []) (.blk 0 K.law26_light_l1)) (.seq (.reg [f 0 v1, g l0, u (.ln l0), u (.bin .leq l0 (.i 8)), w 2 (.mv l0)] []) .ret))), res := [(2, none)] }
def law26_agree : Fn := { nargs := 5, vars := [0, 1, 2, 3, 4, 5, 6, 9, 10, 11, 12, 13, 14, 15, 16, 17, 18, 19, 20, 21, 22], body := (.seq (.reg [w 5 (.bx v0 2), w 6 (.bx v1 1), w 7 (.bx v4 3), w 8 (.mv (.b false))] []) (.seq (.reg [h 2 v5, h 1 v6, m v2, m v3, u (.iaa v7 (.i 0) 3 1), g l0, u (.iaa v7 (.i 1) 3 1), g l0, u (.ca N.swaps_See 0 [] [.l 7, .l 6, .l 5, .l 4, .l 2, .l 0]), m l0, u (.ex l0 0), u (.ex l1 1), w 9 (.al [.nil] []), u (.st l0 l2 1 []), w 10 (.mv l2)] []) (.seq (.reg [h 2 v5, h 1 v6, m v2, m v3, u (.iaa v7 (.i 0) 3 1), g l0, u (.iaa v7 (.i 1) 3 1), g l0, u (.ca N.ref26_See 0 [] [.l 7, .l 6, .l 5, .l 4, .l 2, .l 0]), m l0, u (.ex l0 0), u (.ex l1 1), w 11 (.al [.nil] []), u (.st l0 l2 1 []), w 12 (.mv l2)] []) (.seq (.reg [h 2 v5, h 1 v6, m v2, m v3, u (.iaa v7 (.i 0) 3 1), g l0, u (.iaa v7 (.i 1) 3 1), g l0, u (.iaa v7 (.i 2) 3 1), g l0, u (.ca N.swaps_Absent 0 [] [.l 9, .l 8, .l 7, .l 6, .l 4, .l 2, .l 0]), m l0, u (.ex l0 0), u (.ex l1 1), w 13 (.al [.nil] []), u (.st l0 l2 1 []), w 14 (.mv l2)] []) (.seq (.reg [h 2 v5, h 1 v6, m v2, m v3, u (.iaa v7 (.i 0) 3 1), g l0, u (.iaa v7 (.i 1) 3 1), g l0, u (.iaa v7 (.i 2) 3 1), g l0, u (.ca N.ref26_Absent 0 [3] [.l 9, .l 8, .l 7, .l 6, .l 4, .l 2, .l 0]), m l0, u (.ex l0 0), u (.ex l1 1), w 15 (.al [.nil] []), u (.st l0 l2 1 []), w 16 (.mv l2)] []) (.seq (.reg [h 2 v5, h 1 v6, u (.iaa v7 (.i 1) 3 1), g l0, u (.ca N.swaps_Renew 0 [] [.l 3, .l 2, .l 0]), m l0, u (.ex l0 0), u (.ex l1 1), w 17 (.al [.nil] []), u (.st l0 l2 1 []), w 18 (.mv l2)] []) (.seq (.reg [h 2 v5, h 1 v6, u (.iaa v7 (.i 1) 3 1), g l0, u (.ca N.ref26_Renew 0 [] [.l 3, .l 2, .l 0]), m l0, u (.ex l0 0), u (.ex l1 1), w 19 (.al [.nil] []), u (.st l0 l2 1 []), w 20 (.mv l2)] []) (.seq (.reg [h 2 v5, h 1 v6, u (.ca N.swaps_Valid 0 [] [.l 1, .l 0]), h 2 v5, h 1 v6, u (.ca N.ref26_Valid 0 [] [.l 1, .l 0]), u (.eqk (.bool) false l3 l0), m l0, y 0 true (.ld v9 1 true), y 1 true (.ld v11 1 true), y 2 true (.mv v10), y 3 true (.mv v12), y 4 true (.ca N.law26_same 0 [] [.l 3, .l 2, .l 1, .l 0]), u (.pk l5 l0 (.b false)), m l0, y 0 true (.ld v13 1 true), y 1 true (.ld v15 1 true), y 2 true (.mv v14), y 3 true (.mv v16), y 4 true (.ca N.law26_same 0 [] [.l 3, .l 2, .l 1, .l 0]), u (.pk l5 l0 (.b false)), m l0, y 0 true (.ld v17 1 true), y 1 true (.ld v19 1 true), y 2 true (.mv v18), y 3 true (.mv v20), y 4 true (.ca N.law26_same 0 [] [.l 3, .l 2, .l 1, .l 0]), u (.pk l5 l0 (.b false)), m l0, y 0 true (.ld v6 1 true), y 1 true (.iaa v7 (.i 2) 3 1), y 2 true (.ld l0 1 false), y 3 true (.iaa v7 (.i 0) 3 1), y 4 true (.ld l0 1 false), y 5 true (.ca N.swaps_Possible 0 [] [.l 4, .l 2, .l 0]), y 6 true (.ld v6 1 true), y 7 true (.iaa v7 (.i 2) 3 1), y 8 true (.ld l0 1 false), y 9 true (.iaa v7 (.i 0) 3 1), y 10 true (.ld l0 1 false), y 11 true (.ca N.ref26_Possible 0 [] [.l 4, .l 2, .l 0]), y 12 true (.ca N.ref23_SameInts 0 [] [.l 6, .l 0]), u (.pk (.l 13) l0 (.b false)), w 8 (.mv l0)] [(3, 0), (4, 0), (35, 27), (37, 27), (39, 27)]) .ret)))))))), res := [(8, none)] }
end Go.Ev.K
namespace Go.Ev
class Has12 [Lib] : Prop where
 t_law26_SwapsRaw : Lib.fs N.law26_SwapsRaw = some K.law26_SwapsRaw
 t_law26_awake : Lib.fs N.law26_awake = some K.law26_awake
 t_swaps_Start : Lib.fs N.swaps_Start = some K.swaps_Start
 t_law26_same : Lib.fs N.law26_same = some K.law26_same
 t_law26_pair : Lib.fs N.law26_pair = some K.law26_pair
 t_swaps_Exchange : Lib.fs N.swaps_Exchange = some K.swaps_Exchange
 t_swaps_See : Lib.fs N.swaps_See = some K.swaps_See
 t_swaps_Absent : Lib.fs N.swaps_Absent = some K.swaps_Absent
 t_law26_light : Lib.fs N.law26_light = some K.law26_light
 t_law26_agree : Lib.fs N.law26_agree = some K.law26_agree
namespace K
variable [Lib] [Has12]
theorem t_law26_SwapsRaw : Lib.fs N.law26_SwapsRaw = some K.law26_SwapsRaw := Has12.t_law26_SwapsRaw
theorem t_law26_awake : Lib.fs N.law26_awake = some K.law26_awake := Has12.t_law26_awake
theorem t_swaps_Start : Lib.fs N.swaps_Start = some K.swaps_Start := Has12.t_swaps_Start
theorem t_law26_same : Lib.fs N.law26_same = some K.law26_same := Has12.t_law26_same
theorem t_law26_pair : Lib.fs N.law26_pair = some K.law26_pair := Has12.t_law26_pair
theorem t_swaps_Exchange : Lib.fs N.swaps_Exchange = some K.swaps_Exchange := Has12.t_swaps_Exchange
theorem t_swaps_See : Lib.fs N.swaps_See = some K.swaps_See := Has12.t_swaps_See
theorem t_swaps_Absent : Lib.fs N.swaps_Absent = some K.swaps_Absent := Has12.t_swaps_Absent
theorem t_law26_light : Lib.fs N.law26_light = some K.law26_light := Has12.t_law26_light
theorem t_law26_agree : Lib.fs N.law26_agree = some K.law26_agree := Has12.t_law26_agree
end K
end Go.Ev
namespace Go.Ev.K
open Go.Ev
def ref26_Same_l2b : C := (.seq (.ite [m v8, f 1 v6, g l0, u (.ln l0), u (.bin .lss l3 l0)] [] 0 .skip (.exit 2)) (.seq (.blk 3 (.ite [f 1 v6, g l0, m v8, a 2 l1 l0, h 2 l0, f 1 v7, g l0, m v8, a 2 l1 l0, h 2 l0, u (.ca N.ref25_Same 0 [] [.l 5, .l 0]), u (.un .not l0)] [] 0 (.seq (.reg [w 4 (.mv (.b false))] []) .ret) .skip)) (.reg [m v8, u (.bin .add l0 (.i 1)), w 8 (.mv l0)] [])))
def ref26_Same_l2 : C := .loop true [0, 1, 4] K.ref26_Same_l2b
def ref26_Same_l1b : C := (.seq (.ite [m v5, f 0 v2, g l0, u (.ln l0), u (.bin .lss l3 l0)] [] 0 .skip (.exit 0)) (.seq (.blk 1 (.seq (.reg [w 6 (.al [.nil, .nil] []), w 7 (.al [.nil, .nil] []), f 0 v2, g l0, m v5, a 2 l1 l0, h 2 l0, f 0 v3, g l0, m v5, a 2 l1 l0, h 2 l0, u (.st l11 l5 2 []), u (.st l11 l1 2 [])] [(8, 13), (10, 13), (11, 13)]) (.seq (.ite [f 0 v6, g l0, f 0 v7, g l0, u (.ca N.ref23_SameInts 0 [] [.l 2, .l 0]), u (.un .not l0), m l0, y 0 false (.fa v6 1), y 1 false (.ld l0 1 false), y 2 false (.ln l0), y 3 false (.fa v7 1), y 4 false (.ld l0 1 false), y 5 false (.ln l0), y 6 false (.bin .neq l3 l0), u (.pk l7 (.b true) l0)] [] 0 (.seq (.reg [w 4 (.mv (.b false))] []) .ret) .skip) (.seq (.reg [w 8 (.mv (.i 0))] []) (.blk 2 K.ref26_Same_l2))))) (.reg [m v5, u (.bin .add l0 (.i 1)), w 5 (.mv l0)] [])))
def ref26_Same_l1 : C := .loop true [0, 1, 4, 6, 7, 8] K.ref26_Same_l1b
def ref26_Same : Fn := { nargs := 2, vars := [0, 1, 2, 3, 4, 5, 6, 7, 8], body := (.seq (.reg [w 2 (.bx v0 1), w 3 (.bx v1 1), w 4 (.mv (.b false))] []) (.seq (.ite [f 0 v2, g l0, u (.ln l0), f 0 v3, g l0, u (.ln l0), u (.bin .neq l3 l0)] [] 0 (.seq (.reg [w 4 (.mv (.b false))] []) .ret) .skip) (.seq (.seq (.reg [w 5 (.mv (.i 0))] []) (.blk 0 K.ref26_Same_l1)) (.seq (.reg [w 4 (.mv (.b true))] []) .ret)))), res := [(4, none)] }
def slices_Clone_api_World_api_World : Fn := { nargs := 1, vars := [0, 2], body := (.seq (.reg [w 1 (.mv (.c (.nil)))] []) (.itk  [m v0, u (.eqk (.sl) false l0 (.c (.nil)))] [] 0 (.seq (.reg [w 1 (.nw 2)] []) .ret) .skip (.seq (.reg [u (.bsr [] 2), m v0, u (.app l1 l0 false 2), w 1 (.mv l0)] []) .ret))), res := [(1, none)] }
def swaps_meet : Fn := { nargs := 3, vars := [0, 1, 2, 3, 4, 6, 7], body := (.seq (.reg [w 3 (.bx v0 2), w 4 (.bx v1 2), w 5 (.mv (.b false))] []) (.seq (.reg [h 2 v4, m v2, u (.ca N.places_Possible 0 [] [.l 1, .l 0]), w 6 (.al [.nil] []), u (.st l0 l1 1 [])] []) (.seq (.reg [h 2 v3, m v2, u (.ca N.places_Possible 0 [] [.l 1, .l 0]), u (.mf N.swaps_meet_1 [.v 6]), u (.ca N.slices_ContainsFunc_int_int 0 [] [.l 1, .l 0]), w 5 (.mv l0)] []) .ret))), res := [(5, none)] }
def worlds_Copy_l1b : C := (.its  [u (.bin .lss v7 v6)] [] 0 .skip (.exit 0) (.seq (.blk 1 (.seq (.reg [a 2 v5 v7, h 2 l0, w 4 (.al [.t (.int .i64 (0)), .nil] []), u (.st l0 l1 2 [])] []) (.reg [f 1 v3, g l0, f 0 v4, g l0, f 1 v4, g l0, u (.ca N.slices_Clone_int_int 0 [] [.l 0]), u (.bd [.t (.int .i64 (0)), .nil] [(0, 1, .l 3), (1, 1, .l 0)]), u (.bs [.l 0] 2), u (.app l7 l0 true 2), f 1 v3, u (.st l0 l1 1 [])] [(1, 7), (1, 9), (3, 7)]))) (.reg [u (.bin .add v7 (.i 1)), w 7 (.mv l0)] [])))
def worlds_Copy_l1 : C := .loop true [0, 1, 4] K.worlds_Copy_l1b
def worlds_Copy : Fn := { nargs := 1, vars := [0, 1, 2, 3, 5, 11, 12, 13], body := (.seq (.reg [w 1 (.bx v0 2), w 2 (.al [.nil, .nil] [])] []) (.seq (.reg [f 0 v1, g l0, u (.ca N.slices_Clone_int_int 0 [] [.l 0]), u (.bd [.nil, .nil] [(0, 1, .l 0)]), w 3 (.al [.nil, .nil] [(1, 2)]), u (.st l0 l1 2 [(1, 2)])] []) (.seq (.seq (.reg [f 1 v1, w 5 (.ld l0 1 false), w 6 (.ln l0), w 7 (.mv (.i 0))] []) (.blk 0 K.worlds_Copy_l1)) (.seq (.reg [h 2 v3, u (.st v2 l0 2 [])] []) .ret)))), res := [(2, some (2, true))] }
def worlds_Tidy_l2b : C := (.its  [u (.bin .lss v11 v10)] [] 0 .skip (.exit 2) (.seq (.blk 3 (.seq (.reg [m v11, w 6 (.mv l0)] []) (.reg [m v3, m v5, u (.bin .sub l0 (.i 1)), a 2 l2 l0, f 1 l0, g l0, m v6, m v3, m v5, u (.bin .sub l0 (.i 1)), a 2 l2 l0, f 1 l0, g l0, m v6, a 2 l1 l0, h 2 l0, f 1 v4, g l0, m v6, a 2 l1 l0, h 2 l0, u (.ca N.places_Join 0 [] [.l 5, .l 0]), m l0, u (.ex l0 0), u (.ex l1 1), a 2 (.l 19) (.l 18), u (.st l0 l2 2 [])] [(3, 22), (5, 22)]))) (.reg [u (.bin .add v11 (.i 1)), w 11 (.mv l0)] [])))
def worlds_Tidy_l2 : C := .loop false [0, 1, 2, 6] K.worlds_Tidy_l2b
def worlds_Tidy_l1b : C := (.its  [u (.bin .lss v9 v8)] [] 0 .skip (.exit 0) (.seq (.blk 1 (.seq (.reg [a 2 v7 v9, h 2 l0, w 4 (.al [.nil, .nil] []), u (.st l0 l1 2 [])] []) (.seq (.seq (.reg [m v3, u (.ln l0), w 5 (.mv l0)] []) (.ite [m v5, u (.bin .gtr l0 (.i 0)), m l0, y 0 true (.mv v3), y 1 true (.mv v5), y 2 true (.bin .sub l0 (.i 1)), y 3 true (.ia l2 l0 2), y 4 true (.fa l0 0), y 5 true (.ld l0 1 false), y 6 true (.fa v4 0), y 7 true (.ld l0 1 false), y 8 true (.ca N.slices_Equal_int_int 0 [] [.l 2, .l 0]), u (.pk l9 l0 (.b false))] [] 0 (.seq (.seq (.reg [f 1 v4, g l0, w 10 (.ln l0), w 11 (.mv (.i 0))] []) (.blk 2 K.worlds_Tidy_l2)) (.exit 1)) .skip)) (.reg [m v3, h 2 v4, u (.ca N.worlds_Copy_v1 1 [] [.l 0]), u (.bsr [.l 0] 2), u (.app l3 l0 false 2), w 3 (.mv l0)] [])))) (.reg [u (.bin .add v9 (.i 1)), w 9 (.mv l0)] [])))
def worlds_Tidy_l1 : C := .loop false [0, 1, 2, 4, 5, 6, 10, 11] K.worlds_Tidy_l1b
def worlds_Tidy : Fn := { nargs := 1, vars := [0, 2, 3, 4, 6, 7, 8, 12, 13, 14, 35, 36], body := (.seq (.reg [w 1 (.mv (.c (.nil)))] []) (.seq (.reg [m v0, u (.ca N.slices_Values_api_World_api_World 0 [] [.l 0]), u (.ca N.slices_SortedStableFunc_api_World 0 [] [.l 0, .c (.fn N.worlds_Tidy_1 [])]), w 2 (.mv l0)] []) (.seq (.reg [w 3 (.nw 2)] []) (.seq (.seq (.reg [w 7 (.mv v2), w 8 (.ln l0), w 9 (.mv (.i 0))] []) (.blk 0 K.worlds_Tidy_l1)) (.seq (.reg [m v3, w 1 (.mv l0)] []) .ret))))), res := [(1, none)] }
def swaps_apply_l1b : C := (.its  [u (.bin .lss v16 v15)] [] 0 .skip (.exit 0) (.seq (.blk 1 (.seq (.reg [a 2 v14 v16, h 2 l0, w 9 (.al [.nil, .nil] []), u (.st l0 l1 2 [])] []) (.seq (.reg [f 0 v9, g l0, m v2, u (.ca N.slices_Index_int_int 0 [] [.l 1, .l 0]), w 10 (.mv l0)] []) (.seq (.reg [h 2 v9, u (.ca N.worlds_Copy_v1 1 [] [.l 0]), w 11 (.al [.nil, .nil] []), u (.st l0 l1 2 [])] []) (.seq (.reg [m v3, f 1 v11, g l0, m v10, a 2 l1 l0, h 2 l0, u (.cw l5 0 [] [.l 0]), m l0, u (.ex l0 0), u (.ex l1 1), w 12 (.al [.t (.int .i64 (0)), .nil] []), u (.st l0 l2 2 []), w 13 (.mv l2)] []) (.seq (.seq (.reg [w 17 (.mv v13)] []) (.blk 2 (.seq (.seq (.reg [u (.bin .eql v17 (.i 6)), w 18 (.mv l0)] []) (.itv 18 .skip (.reg [u (.bin .eql v17 (.i 8)), w 18 (.mv l0)] []))) (.itv 18 (.seq (.reg [h 1 v5, m v13, u (.st v6 l1 1 []), w 7 (.mv l1)] []) .ret) (.ite [u (.bin .eql v17 (.i 43)), m l0] [] 0 (.exit 1) (.ite [u (.bin .eql v17 (.i 0)), m l0] [] 0 (.reg [f 1 v11, g l0, m v10, h 2 v12, a 2 l2 l1, u (.st l0 l1 2 [])] []) .skip)))))) (.reg [f 0 v8, g l0, h 2 v11, u (.bs [.l 0] 2), u (.app l2 l0 true 2), f 0 v8, u (.st l0 l1 1 [])] []))))))) (.reg [u (.bin .add v16 (.i 1)), w 16 (.mv l0)] [])))
def swaps_apply_l1 : C := .loop true [0, 1, 4, 7, 9, 10, 11, 12, 13, 17, 18] K.swaps_apply_l1b
def swaps_apply : Fn := { nargs := 4, vars := [0, 1, 2, 3, 4, 5, 8, 9, 10, 12, 13, 14, 15, 16, 32, 33, 34, 54, 55], body := (.seq (.reg [w 4 (.bx v0 2), w 5 (.bx v1 1), w 6 (.al [.nil] []), w 7 (.mv (.i 0))] []) (.seq (.ite [h 2 v4, h 1 v5, u (.ca N.swaps_Valid 0 [] [.l 1, .l 0]), u (.un .not l0)] [] 0 (.seq (.reg [h 1 v5, u (.st v6 l0 1 []), w 7 (.mv (.i 6))] []) .ret) .skip) (.seq (.ite [f 0 v5, g l0, a 2 l0 (.i 0), f 0 l0, g l0, m v2, u (.ca N.slices_Contains_int_int 0 [] [.l 1, .l 0]), u (.un .not l0)] [] 0 (.seq (.reg [h 1 v5, u (.st v6 l0 1 []), w 7 (.mv (.i 41))] []) .ret) .skip) (.seq (.reg [w 8 (.al [.nil] [(0, 2)])] []) (.seq (.seq (.reg [f 0 v5, w 14 (.ld l0 1 false), w 15 (.ln l0), w 16 (.mv (.i 0))] []) (.blk 0 K.swaps_apply_l1)) (.seq (.ite [f 0 v8, g l0, u (.ln l0), u (.bin .eql l0 (.i 0))] [] 0 (.seq (.reg [h 1 v5, u (.st v6 l0 1 []), w 7 (.mv (.i 43))] []) .ret) .skip) (.seq (.reg [h 1 v8, u (.st v6 l0 1 []), w 7 (.mv (.i 0))] []) .ret))))))), res := [(6, some (1, true)), (7, none)] }
def swaps_See_1 : Fn := { nargs := 5, vars := [0, 1, 2, 3, 4, 5, 6, 7], body := (.seq (.reg [w 5 (.bx v0 2), w 6 (.al [.t (.int .i64 (0)), .nil] []), w 7 (.mv (.i 0))] []) (.seq (.reg [h 2 v1, h 2 v5, g v2, g v3, g v4, u (.ca N.places_See 0 [] [.l 4, .l 3, .l 2, .l 1, .l 0]), u (.ex l0 0), u (.ex l1 1), u (.st v6 l1 2 []), w 7 (.mv l1)] []) .ret)), res := [(6, some (2, true)), (7, none)] }
def swaps_Absent_1 : Fn := { nargs := 6, vars := [0, 1, 2, 3, 4, 5, 6, 7, 8], body := (.seq (.reg [w 6 (.bx v0 2), w 7 (.al [.t (.int .i64 (0)), .nil] []), w 8 (.mv (.i 0))] []) (.seq (.reg [h 2 v1, h 2 v6, g v2, g v3, g v4, g v5, u (.ca N.places_Absent 0 [] [.l 5, .l 4, .l 3, .l 2, .l 1, .l 0]), u (.ex l0 0), u (.ex l1 1), u (.st v7 l1 2 []), w 8 (.mv l1)] []) .ret)), res := [(7, some (2, true)), (8, none)] }
def swaps_Renew_l2b : C := (.its  [u (.bin .lss v20 v19)] [] 0 .skip (.exit 2) (.seq (.blk 3 (.seq (.reg [m v20, a 2 v18 v20, h 2 l0, w 12 (.al [.t (.int .i64 (0)), .nil] []), w 11 (.mv l3), u (.st l1 l2 2 [])] []) (.seq (.reg [h 2 v3, h 2 v12, m v2, u (.ca N.places_Renew 0 [] [.l 2, .l 1, .l 0]), m l0, u (.ex l0 0), u (.ex l1 1), w 13 (.al [.t (.int .i64 (0)), .nil] []), u (.st l0 l2 2 []), w 14 (.mv l2)] []) (.seq (.ite [m v14, u (.bin .eql l0 (.i 6))] [] 0 (.seq (.reg [h 1 v4, m v14, u (.st v5 l1 1 []), w 6 (.mv l1)] []) .ret) .skip) (.seq (.ite [m v8, u (.bin .eql l0 (.i 0))] [] 0 (.reg [m v14, w 8 (.mv l0)] []) .skip) (.reg [f 1 v10, g l0, m v11, h 2 v13, a 2 l2 l1, u (.st l0 l1 2 [])] [])))))) (.reg [u (.bin .add v20 (.i 1)), w 20 (.mv l0)] [])))
def swaps_Renew_l2 : C := .loop true [0, 1, 6, 9, 11, 12, 13, 14] K.swaps_Renew_l2b
def swaps_Renew_l1b : C := (.its  [u (.bin .lss v17 v16)] [] 0 .skip (.exit 0) (.seq (.blk 1 (.seq (.reg [a 2 v15 v17, h 2 l0, w 9 (.al [.nil, .nil] []), u (.st l0 l1 2 [])] []) (.seq (.reg [h 2 v9, u (.ca N.worlds_Copy_v1 1 [] [.l 0]), w 10 (.al [.nil, .nil] []), u (.st l0 l1 2 [])] []) (.seq (.seq (.reg [f 1 v9, w 18 (.ld l0 1 false), w 19 (.ln l0), w 20 (.mv (.i 0))] []) (.blk 2 K.swaps_Renew_l2)) (.reg [f 0 v7, g l0, h 2 v10, u (.bs [.l 0] 2), u (.app l2 l0 true 2), f 0 v7, u (.st l0 l1 1 [])] []))))) (.reg [u (.bin .add v17 (.i 1)), w 17 (.mv l0)] [])))
def swaps_Renew_l1 : C := .loop true [0, 1, 6, 9, 10, 11, 12, 13, 14, 18, 19, 20] K.swaps_Renew_l1b
def swaps_Renew : Fn := { nargs := 3, vars := [0, 1, 2, 3, 4, 6, 7, 8, 9, 11, 12, 13, 14, 15, 16, 29, 30, 31, 38, 39, 40], body := (.seq (.reg [w 3 (.bx v0 2), w 4 (.bx v1 1), w 5 (.al [.nil] []), w 6 (.mv (.i 0))] []) (.seq (.ite [h 2 v3, u (.ca N.plan_Valid 0 [] [.l 0]), u (.un .not l0), m l0, y 0 false (.fa v4 0), y 1 false (.ld l0 1 false), y 2 false (.ln l0), y 3 false (.ca N.lists_In 0 [] [.l 0, .i 1, .i 24]), y 4 false (.un .not l0), u (.pk l5 (.b true) l0)] [] 0 (.seq (.reg [h 1 v4, u (.st v5 l0 1 []), w 6 (.mv (.i 6))] []) .ret) .skip) (.seq (.reg [w 7 (.al [.nil] [(0, 2)])] []) (.seq (.reg [w 8 (.mv (.i 0))] []) (.seq (.seq (.reg [f 0 v4, w 15 (.ld l0 1 false), w 16 (.ln l0), w 17 (.mv (.i 0))] []) (.blk 0 K.swaps_Renew_l1)) (.seq (.ite [m v8, u (.bin .neq l0 (.i 0))] [] 0 (.seq (.reg [h 1 v4, m v8, u (.st v5 l1 1 []), w 6 (.mv l1)] []) .ret) .skip) (.seq (.reg [h 1 v7, u (.st v5 l0 1 []), w 6 (.mv (.i 0))] []) .ret))))))), res := [(5, some (1, true)), (6, none)] }
def ref26_Renew_l2b : C := (.seq (.ite [m v8, f 0 v4, g l0, m v7, a 2 l1 l0, f 1 l0, g l0, u (.ln l0), u (.bin .lss l7 l0)] [] 0 .skip (.exit 2)) (.seq (.blk 3 (.ite [f 0 v4, g l0, m v7, a 2 l1 l0, f 1 l0, g l0, m v8, a 2 l1 l0, h 2 l0, f 0 v3, g l0, u (.ln l0), u (.ca N.ref25_Plain 0 [] [.l 3, .l 0]), u (.un .not l0)] [] 0 (.seq (.reg [h 1 v4, u (.st v5 l0 1 []), w 6 (.mv (.i 6))] []) .ret) .skip)) (.reg [m v8, u (.bin .add l0 (.i 1)), w 8 (.mv l0)] [])))
def ref26_Renew_l2 : C := .loop false [0, 1, 6, 9, 10, 11, 12, 13] K.ref26_Renew_l2b
def ref26_Renew_l1b : C := (.seq (.ite [m v7, f 0 v4, g l0, u (.ln l0), u (.bin .lss l3 l0)] [] 0 .skip (.exit 0)) (.seq (.blk 1 (.seq (.reg [w 8 (.mv (.i 0))] []) (.blk 2 K.ref26_Renew_l2))) (.reg [m v7, u (.bin .add l0 (.i 1)), w 7 (.mv l0)] [])))
def ref26_Renew_l1 : C := .loop false [0, 1, 6, 8, 9, 10, 11, 12, 13] K.ref26_Renew_l1b
def ref26_Renew_l4b : C := (.seq (.ite [m v11, f 0 v4, g l0, m v10, a 2 l1 l0, f 1 l0, g l0, u (.ln l0), u (.bin .lss l7 l0)] [] 0 .skip (.exit 6)) (.seq (.blk 7 (.seq (.reg [w 12 (.al [.t (.int .i64 (0)), .nil] []), h 2 v3, f 0 v4, g l0, m v10, a 2 l1 l0, f 1 l0, g l0, m v11, a 2 l1 l0, h 2 l0, m v2, u (.ca N.ref25_Renew 0 [] [.l 10, .l 1, .l 0]), m l0, u (.ex l0 0), u (.ex l1 1), u (.st (.l 15) l1 2 []), w 13 (.mv l1)] [(0, 13)]) (.seq (.ite [m v13, u (.bin .neq l0 (.i 0))] [] 0 (.seq (.reg [h 1 v4, m v13, u (.st v5 l1 1 []), w 6 (.mv l1)] []) .ret) .skip) (.reg [f 0 v9, g l0, m v10, a 2 l1 l0, f 1 l0, g l0, m v11, h 2 v12, a 2 l2 l1, u (.st l0 l1 2 [])] [])))) (.reg [m v11, u (.bin .add l0 (.i 1)), w 11 (.mv l0)] [])))
def ref26_Renew_l4 : C := .loop false [0, 1, 6, 7, 8, 12, 13] K.ref26_Renew_l4b
def ref26_Renew_l3b : C := (.seq (.ite [m v10, f 0 v4, g l0, u (.ln l0), u (.bin .lss l3 l0)] [] 0 .skip (.exit 4)) (.seq (.blk 5 (.seq (.reg [w 11 (.mv (.i 0))] []) (.blk 6 K.ref26_Renew_l4))) (.reg [m v10, u (.bin .add l0 (.i 1)), w 10 (.mv l0)] [])))
def ref26_Renew_l3 : C := .loop false [0, 1, 6, 7, 8, 11, 12, 13] K.ref26_Renew_l3b
def ref26_Renew : Fn := { nargs := 3, vars := [0, 1, 2, 3, 4, 6, 7, 8, 9, 10, 11, 12, 13, 14], body := (.seq (.reg [w 3 (.bx v0 2), w 4 (.bx v1 1), w 5 (.al [.nil] []), w 6 (.mv (.i 0))] []) (.seq (.reg [h 1 v4, u (.ca N.ref26_Copy 0 [] [.l 0]), u (.st v4 l0 1 [])] []) (.seq (.ite [h 2 v3, u (.ca N.ref01_Check 0 [] [.l 0]), u (.bin .neq l0 (.i 0)), m l0, y 0 false (.fa v4 0), y 1 false (.ld l0 1 false), y 2 false (.ln l0), y 3 false (.bin .lss l0 (.i 1)), u (.pk l4 (.b true) l0), m l0, y 0 false (.fa v4 0), y 1 false (.ld l0 1 false), y 2 false (.ln l0), y 3 false (.bin .gtr l0 (.i 24)), u (.pk l4 (.b true) l0)] [] 0 (.seq (.reg [h 1 v4, u (.st v5 l0 1 []), w 6 (.mv (.i 6))] []) .ret) .skip) (.seq (.seq (.reg [w 7 (.mv (.i 0))] []) (.blk 0 K.ref26_Renew_l1)) (.seq (.reg [h 1 v4, u (.ca N.ref26_Copy_v1 2 [] [.l 0]), w 9 (.al [.nil] []), u (.st l0 l1 1 [])] []) (.seq (.seq (.reg [w 10 (.mv (.i 0))] []) (.blk 4 K.ref26_Renew_l3)) (.seq (.reg [h 1 v9, u (.st v5 l0 1 []), w 6 (.mv (.i 0))] []) .ret))))))), res := [(5, some (1, true)), (6, none)] }
def swaps_meet_1 : Fn := { nargs := 2, vars := [0, 1, 3], body := (.seq (.reg [w 2 (.mv (.b false))] []) (.seq (.reg [g v1, m v0, u (.ca N.slices_Contains_int_int 0 [] [.l 1, .l 0]), w 2 (.mv l0)] []) .ret)), res := [(2, none)] }
def slices_SortedStableFunc_api_World : Fn := { nargs := 2, vars := [0, 1, 4, 5], body := (.seq (.reg [w 2 (.mv (.c (.nil)))] []) (.seq (.reg [m v0, u (.ca N.slices_Collect_api_World 1 [] [.l 0]), w 3 (.mv l0)] []) (.seq (.reg [m v3, m v1, u (.ca N.slices_SortStableFunc_api_World_api_World 0 [0] [.l 1, .l 0])] []) (.seq (.reg [m v3, w 2 (.mv l0)] []) .ret)))), res := [(2, none)] }
def slices_Values_api_World_api_World : Fn := { nargs := 1, vars := [0, 1, 2], body := (.seq (.reg [w 1 (.bx v0 1), w 2 (.mv (.c (.und)))] []) (.seq (.reg [u (.mf N.slices_Values_api_World_api_World_1 [.v 1]), w 2 (.mv l0)] []) .ret)), res := [(2, none)] }
def worlds_Tidy_1 : Fn := { nargs := 2, vars := [0, 1, 2, 3, 4], body := (.seq (.reg [w 2 (.bx v0 2), w 3 (.bx v1 2), w 4 (.mv (.i 0))] []) (.seq (.reg [f 0 v2, g l0, f 0 v3, g l0, u (.ca N.slices_Compare_int_int 0 [] [.l 2, .l 0]), w 4 (.mv l0)] []) .ret)), res := [(4, none)] }
def slices_Collect_api_World : Fn := { nargs := 1, vars := [2], body := .fail, res := [(0, none)], prim := [3, N.slices_Values_api_World_api_World_1] }
def slices_SortStableFunc_api_World_api_World : Fn := { nargs := 2, vars := [0, 1], body := (.reg [m v0, m v0, u (.ln l0), m v1, u (.ca N.slices_stableCmpFunc_api_World 0 [0] [.l 3, .l 1, .l 0])] []), res := [] }
def slices_Values_api_World_api_World_1_l1b : C := (.its  [u (.bin .lss v5 v4)] [] 0 .skip (.exit 0) (.seq (.blk 1 (.seq (.reg [a 2 v3 v5, h 2 l0, w 2 (.al [.nil, .nil] []), u (.st l0 l1 2 [])] []) (.ite [m v0, h 2 v2, u (.cw l1 0 [] [.l 0]), u (.un .not l0)] [] 0 .ret .skip))) (.reg [u (.bin .add v5 (.i 1)), w 5 (.mv l0)] [])))
def slices_Values_api_World_api_World_1_l1 : C := .loop true [1, 2] K.slices_Values_api_World_api_World_1_l1b
def slices_Values_api_World_api_World_1 : Fn := { nargs := 2, vars := [0, 1, 4, 5, 6, 7], body := (.seq (.reg [w 3 (.ld v1 1 false), w 4 (.ln l0), w 5 (.mv (.i 0))] []) (.blk 0 K.slices_Values_api_World_api_World_1_l1)), res := [] }
def slices_stableCmpFunc_api_World_l1b : C := (.seq (.ite [m v5, m v1, u (.bin .leq l1 l0)] [] 0 .skip (.exit 0)) (.blk 1 (.seq (.reg [m v0, m v4, m v5, m v2, u (.ca N.slices_insertionSortCmpFunc_api_World 0 [0] [.l 3, .l 2, .l 1, .l 0])] []) (.seq (.reg [m v5, w 4 (.mv l0)] []) (.reg [m v5, m v3, u (.bin .add l1 l0), w 5 (.mv l0)] [])))))
def slices_stableCmpFunc_api_World_l1 : C := .loop true [6] K.slices_stableCmpFunc_api_World_l1b
def slices_stableCmpFunc_api_World_l3b : C := (.seq (.ite [m v5, m v1, u (.bin .leq l1 l0)] [] 0 .skip (.exit 4)) (.blk 5 (.seq (.reg [m v0, m v4, m v4, m v3, u (.bin .add l1 l0), m v5, m v2, u (.ca N.slices_symMergeCmpFunc_api_World 0 [0] [.l 6, .l 5, .l 2, .l 1, .l 0])] []) (.seq (.reg [m v5, w 4 (.mv l0)] []) (.reg [m v5, m v3, u (.bin .mul (.i 2) l0), u (.bin .add l2 l0), w 5 (.mv l0)] [])))))
def slices_stableCmpFunc_api_World_l3 : C := .loop true [6] K.slices_stableCmpFunc_api_World_l3b
def slices_stableCmpFunc_api_World_l2b : C := (.seq (.ite [m v3, m v1, u (.bin .lss l1 l0)] [] 0 .skip (.exit 2)) (.blk 3 (.seq (.reg [m v3, u (.bin .mul (.i 2) l0), w 4 (.mv (.i 0)), w 5 (.mv l1)] []) (.seq (.blk 4 K.slices_stableCmpFunc_api_World_l3) (.seq (.seq (.reg [m v4, m v3, u (.bin .add l1 l0), w 6 (.mv l0)] []) (.ite [m v6, m v1, u (.bin .lss l1 l0)] [] 0 (.reg [m v0, m v4, m v6, m v1, m v2, u (.ca N.slices_symMergeCmpFunc_api_World 0 [0] [.l 4, .l 3, .l 2, .l 1, .l 0])] []) .skip)) (.reg [m v3, u (.bin .mul l0 (.i 2)), w 3 (.mv l0)] []))))))
def slices_stableCmpFunc_api_World_l2 : C := .loop true [4, 5, 6] K.slices_stableCmpFunc_api_World_l2b
def slices_stableCmpFunc_api_World : Fn := { nargs := 3, vars := [0, 1, 2, 6, 7, 8, 9], body := (.seq (.reg [w 3 (.mv (.i 20))] []) (.seq (.reg [m v3, w 4 (.mv (.i 0)), w 5 (.mv l1)] []) (.seq (.blk 0 K.slices_stableCmpFunc_api_World_l1) (.seq (.reg [m v0, m v4, m v1, m v2, u (.ca N.slices_insertionSortCmpFunc_api_World 0 [0] [.l 3, .l 2, .l 1, .l 0])] []) (.blk 2 K.slices_stableCmpFunc_api_World_l2))))), res := [] }
def slices_insertionSortCmpFunc_api_World_l2b : C := (.seq (.ite [m v5, m v1, u (.bin .gtr l1 l0), m l0, y 0 true (.mv v3), y 1 true (.mv v0), y 2 true (.mv v5), y 3 true (.ia l1 l0 2), y 4 true (.ld l0 2 true), y 5 true (.mv v0), y 6 true (.mv v5), y 7 true (.bin .sub l0 (.i 1)), y 8 true (.ia l2 l0 2), y 9 true (.ld l0 2 true), y 10 true (.cw l9 0 [] [.l 5, .l 0]), y 11 true (.bin .lss l0 (.i 0)), u (.pk (.l 12) l0 (.b false))] [] 0 .skip (.exit 2)) (.seq (.blk 3 (.reg [m v0, m v5, m v0, m v5, u (.bin .sub l0 (.i 1)), m v0, m v5, u (.bin .sub l0 (.i 1)), a 2 l2 l0, h 2 l0, m v0, m v5, a 2 l1 l0, h 2 l0, a 2 (.l 13) (.l 12), u (.st l0 l5 2 []), a 2 (.l 13) l11, u (.st l0 l3 2 [])] [])) (.reg [m v5, u (.bin .sub l0 (.i 1)), w 5 (.mv l0)] [])))
def slices_insertionSortCmpFunc_api_World_l2 : C := .loop true [] K.slices_insertionSortCmpFunc_api_World_l2b
def slices_insertionSortCmpFunc_api_World_l1b : C := (.seq (.ite [m v4, m v2, u (.bin .lss l1 l0)] [] 0 .skip (.exit 0)) (.seq (.blk 1 (.seq (.reg [m v4, w 5 (.mv l0)] []) (.blk 2 K.slices_insertionSortCmpFunc_api_World_l2))) (.reg [m v4, u (.bin .add l0 (.i 1)), w 4 (.mv l0)] [])))
def slices_insertionSortCmpFunc_api_World_l1 : C := .loop true [5] K.slices_insertionSortCmpFunc_api_World_l1b
def slices_insertionSortCmpFunc_api_World : Fn := { nargs := 4, vars := [0, 1, 2, 3, 8, 9], body := (.seq (.reg [m v1, u (.bin .add l0 (.i 1)), w 4 (.mv l0)] []) (.blk 0 K.slices_insertionSortCmpFunc_api_World_l1)), res := [] }
def slices_symMergeCmpFunc_api_World_l1b : C := (.seq (.ite [m v5, m v6, u (.bin .lss l1 l0)] [] 0 .skip (.exit 0)) (.blk 1 (.seq (.reg [m v5, m v6, u (.bin .add l1 l0), u (.cv .u64 l0), u (.bin .shr l0 (.c (.t (.int .u64 (1))))), u (.cv .i64 l0), w 7 (.mv l0)] []) (.ite [m v4, m v0, m v7, a 2 l1 l0, h 2 l0, m v0, m v1, a 2 l1 l0, h 2 l0, u (.cw l8 0 [] [.l 4, .l 0]), u (.bin .lss l0 (.i 0))] [] 0 (.reg [m v7, u (.bin .add l0 (.i 1)), w 5 (.mv l0)] []) (.reg [m v7, w 6 (.mv l0)] [])))))
def slices_symMergeCmpFunc_api_World_l1 : C := .loop true [2, 3, 7, 8, 9, 10, 11, 12, 13, 14, 15, 16, 17, 18, 19] K.slices_symMergeCmpFunc_api_World_l1b
def slices_symMergeCmpFunc_api_World_l2b : C := (.seq (.ite [m v8, m v5, u (.bin .sub l0 (.i 1)), u (.bin .lss l2 l0)] [] 0 .skip (.exit 2)) (.seq (.blk 3 (.reg [m v0, m v8, m v0, m v8, u (.bin .add l0 (.i 1)), m v0, m v8, u (.bin .add l0 (.i 1)), a 2 l2 l0, h 2 l0, m v0, m v8, a 2 l1 l0, h 2 l0, a 2 (.l 13) (.l 12), u (.st l0 l5 2 []), a 2 (.l 13) l11, u (.st l0 l3 2 [])] [])) (.reg [m v8, u (.bin .add l0 (.i 1)), w 8 (.mv l0)] [])))
def slices_symMergeCmpFunc_api_World_l2 : C := .loop true [1, 2, 3, 4, 6, 7, 9, 10, 11, 12, 13, 14, 15, 16, 17, 18, 19] K.slices_symMergeCmpFunc_api_World_l2b
def slices_symMergeCmpFunc_api_World_l3b : C := (.seq (.ite [m v9, m v10, u (.bin .lss l1 l0)] [] 0 .skip (.exit 4)) (.blk 5 (.seq (.reg [m v9, m v10, u (.bin .add l1 l0), u (.cv .u64 l0), u (.bin .shr l0 (.c (.t (.int .u64 (1))))), u (.cv .i64 l0), w 11 (.mv l0)] []) (.ite [m v4, m v0, m v2, a 2 l1 l0, h 2 l0, m v0, m v11, a 2 l1 l0, h 2 l0, u (.cw l8 0 [] [.l 4, .l 0]), u (.bin .lss l0 (.i 0)), u (.un .not l0)] [] 0 (.reg [m v11, u (.bin .add l0 (.i 1)), w 9 (.mv l0)] []) (.reg [m v11, w 10 (.mv l0)] [])))))
def slices_symMergeCmpFunc_api_World_l3 : C := .loop true [1, 3, 5, 6, 7, 8, 11, 12, 13, 14, 15, 16, 17, 18, 19] K.slices_symMergeCmpFunc_api_World_l3b
def slices_symMergeCmpFunc_api_World_l4b : C := (.seq (.ite [m v12, m v9, u (.bin .gtr l1 l0)] [] 0 .skip (.exit 6)) (.seq (.blk 7 (.reg [m v0, m v12, m v0, m v12, u (.bin .sub l0 (.i 1)), m v0, m v12, u (.bin .sub l0 (.i 1)), a 2 l2 l0, h 2 l0, m v0, m v12, a 2 l1 l0, h 2 l0, a 2 (.l 13) (.l 12), u (.st l0 l5 2 []), a 2 (.l 13) l11, u (.st l0 l3 2 [])] [])) (.reg [m v12, u (.bin .sub l0 (.i 1)), w 12 (.mv l0)] [])))
def slices_symMergeCmpFunc_api_World_l4 : C := .loop true [1, 2, 3, 4, 5, 6, 7, 8, 10, 11, 13, 14, 15, 16, 17, 18, 19] K.slices_symMergeCmpFunc_api_World_l4b
def slices_symMergeCmpFunc_api_World_l5b : C := (.seq (.ite [m v15, m v16, u (.bin .lss l1 l0)] [] 0 .skip (.exit 8)) (.blk 9 (.seq (.reg [m v15, m v16, u (.bin .add l1 l0), u (.cv .u64 l0), u (.bin .shr l0 (.c (.t (.int .u64 (1))))), u (.cv .i64 l0), w 18 (.mv l0)] []) (.ite [m v4, m v0, m v17, m v18, u (.bin .sub l1 l0), a 2 l3 l0, h 2 l0, m v0, m v18, a 2 l1 l0, h 2 l0, u (.cw l10 0 [] [.l 4, .l 0]), u (.bin .lss l0 (.i 0)), u (.un .not l0)] [] 0 (.reg [m v18, u (.bin .add l0 (.i 1)), w 15 (.mv l0)] []) (.reg [m v18, w 16 (.mv l0)] [])))))
def slices_symMergeCmpFunc_api_World_l5 : C := .loop true [5, 6, 7, 8, 9, 10, 11, 12, 18, 19] K.slices_symMergeCmpFunc_api_World_l5b
def slices_symMergeCmpFunc_api_World : Fn := { nargs := 5, vars := [0, 1, 2, 3, 4, 10, 11, 12, 13, 14, 15, 16, 17, 18, 19, 20, 21, 22, 23, 24], body := (.seq (.ite [m v2, m v1, u (.bin .sub l1 l0), u (.bin .eql l0 (.i 1))] [] 0 (.seq (.reg [m v2, w 5 (.mv l0)] []) (.seq (.reg [m v3, w 6 (.mv l0)] []) (.seq (.blk 0 K.slices_symMergeCmpFunc_api_World_l1) (.seq (.seq (.reg [m v1, w 8 (.mv l0)] []) (.blk 2 K.slices_symMergeCmpFunc_api_World_l2)) .ret)))) .skip) (.seq (.ite [m v3, m v2, u (.bin .sub l1 l0), u (.bin .eql l0 (.i 1))] [] 0 (.seq (.reg [m v1, w 9 (.mv l0)] []) (.seq (.reg [m v2, w 10 (.mv l0)] []) (.seq (.blk 4 K.slices_symMergeCmpFunc_api_World_l3) (.seq (.seq (.reg [m v2, w 12 (.mv l0)] []) (.blk 6 K.slices_symMergeCmpFunc_api_World_l4)) .ret)))) .skip) (.seq (.reg [m v1, m v3, u (.bin .add l1 l0), u (.cv .u64 l0), u (.bin .shr l0 (.c (.t (.int .u64 (1))))), u (.cv .i64 l0), w 13 (.mv l0)] []) (.seq (.reg [m v13, m v2, u (.bin .add l1 l0), w 14 (.mv l0)] []) (.seq (.reg [w 15 (.mv (.i 0)), w 16 (.mv (.i 0))] []) (.seq (.ite [m v2, m v13, u (.bin .gtr l1 l0)] [] 0 (.seq (.reg [m v14, m v3, u (.bin .sub l1 l0), w 15 (.mv l0)] []) (.reg [m v13, w 16 (.mv l0)] [])) (.seq (.reg [m v1, w 15 (.mv l0)] []) (.reg [m v2, w 16 (.mv l0)] []))) (.seq (.reg [m v14, u (.bin .sub l0 (.i 1)), w 17 (.mv l0)] []) (.seq (.blk 8 K.slices_symMergeCmpFunc_api_World_l5) (.seq (.reg [m v14, m v15, u (.bin .sub l1 l0), w 19 (.mv l0)] []) (.seq (.ite [m v15, m v2, u (.bin .lss l1 l0), m l0, y 0 true (.mv v2), y 1 true (.mv v19), y 2 true (.bin .lss l1 l0), u (.pk l3 l0 (.b false))] [] 0 (.reg [m v0, m v15, m v2, m v19, m v4, u (.ca N.slices_rotateCmpFunc_api_World 0 [0] [.l 4, .l 3, .l 2, .l 1, .l 0])] []) .skip) (.seq (.ite [m v1, m v15, u (.bin .lss l1 l0), m l0, y 0 true (.mv v15), y 1 true (.mv v13), y 2 true (.bin .lss l1 l0), u (.pk l3 l0 (.b false))] [] 0 (.reg [m v0, m v1, m v15, m v13, m v4, u (.ca N.slices_symMergeCmpFunc_api_World 0 [0] [.l 4, .l 3, .l 2, .l 1, .l 0])] []) .skip) (.ite [m v13, m v19, u (.bin .lss l1 l0), m l0, y 0 true (.mv v19), y 1 true (.mv v3), y 2 true (.bin .lss l1 l0), u (.pk l3 l0 (.b false))] [] 0 (.reg [m v0, m v13, m v19, m v3, m v4, u (.ca N.slices_symMergeCmpFunc_api_World 0 [0] [.l 4, .l 3, .l 2, .l 1, .l 0])] []) .skip)))))))))))), res := [] }
def slices_rotateCmpFunc_api_World_l1b : C := (.seq (.ite [m v5, m v6, u (.bin .neq l1 l0)] [] 0 .skip (.exit 0)) (.blk 1 (.ite [m v5, m v6, u (.bin .gtr l1 l0)] [] 0 (.seq (.reg [m v0, m v2, m v5, u (.bin .sub l1 l0), m v2, m v6, m v4, u (.ca N.slices_swapRangeCmpFunc_api_World 0 [0] [.l 6, .l 3, .l 2, .l 1, .l 0])] []) (.reg [m v5, m v6, u (.bin .sub l1 l0), w 5 (.mv l0)] [])) (.seq (.reg [m v0, m v2, m v5, u (.bin .sub l1 l0), m v2, m v6, u (.bin .add l1 l0), m v5, u (.bin .sub l1 l0), m v5, m v4, u (.ca N.slices_swapRangeCmpFunc_api_World 0 [0] [.l 10, .l 7, .l 2, .l 1, .l 0])] []) (.reg [m v6, m v5, u (.bin .sub l1 l0), w 6 (.mv l0)] [])))))
def slices_rotateCmpFunc_api_World_l1 : C := .loop true [1, 3] K.slices_rotateCmpFunc_api_World_l1b
def slices_rotateCmpFunc_api_World : Fn := { nargs := 5, vars := [0, 1, 2, 3, 4, 10, 11], body := (.seq (.reg [m v2, m v1, u (.bin .sub l1 l0), w 5 (.mv l0)] []) (.seq (.reg [m v3, m v2, u (.bin .sub l1 l0), w 6 (.mv l0)] []) (.seq (.blk 0 K.slices_rotateCmpFunc_api_World_l1) (.reg [m v0, m v2, m v5, u (.bin .sub l1 l0), m v2, m v5, m v4, u (.ca N.slices_swapRangeCmpFunc_api_World 0 [0] [.l 6, .l 3, .l 2, .l 1, .l 0])] [])))), res := [] }
def slices_swapRangeCmpFunc_api_World_l1b : C := (.seq (.ite [m v4, m v3, u (.bin .lss l1 l0)] [] 0 .skip (.exit 0)) (.seq (.blk 1 (.reg [m v0, m v1, m v4, u (.bin .add l1 l0), m v0, m v2, m v4, u (.bin .add l1 l0), m v0, m v2, m v4, u (.bin .add l1 l0), a 2 l3 l0, h 2 l0, m v0, m v1, m v4, u (.bin .add l1 l0), a 2 l3 l0, h 2 l0, a 2 (.l 19) (.l 16), u (.st l0 l7 2 []), a 2 (.l 17) (.l 14), u (.st l0 l3 2 [])] [])) (.reg [m v4, u (.bin .add l0 (.i 1)), w 4 (.mv l0)] [])))
def slices_swapRangeCmpFunc_api_World_l1 : C := .loop true [] K.slices_swapRangeCmpFunc_api_World_l1b
def slices_swapRangeCmpFunc_api_World : Fn := { nargs := 5, vars := [0, 1, 2, 3, 10], body := (.seq (.reg [w 4 (.mv (.i 0))] []) (.blk 0 K.slices_swapRangeCmpFunc_api_World_l1)), res := [] }
def worlds_Copy_v1_l1b : C := (.its  [u (.bin .lss v7 v6)] [] 0 .skip (.exit 0) (.seq (.blk 1 (.seq (.reg [a 2 v5 v7, h 2 l0, w 4 (.al [.t (.int .i64 (0)), .nil] []), u (.st l0 l1 2 [])] []) (.reg [f 1 v3, g l0, f 0 v4, g l0, f 1 v4, g l0, u (.ca N.slices_Clone_int_int 1 [] [.l 0]), u (.bd [.t (.int .i64 (0)), .nil] [(0, 1, .l 3), (1, 1, .l 0)]), u (.bs [.l 0] 2), u (.app l7 l0 true 2), f 1 v3, u (.st l0 l1 1 [])] [(1, 7), (1, 9), (3, 7)]))) (.reg [u (.bin .add v7 (.i 1)), w 7 (.mv l0)] [])))
def worlds_Copy_v1_l1 : C := .loop true [0, 1, 4] K.worlds_Copy_v1_l1b
def worlds_Copy_v1 : Fn := { nargs := 1, vars := [0, 1, 2, 3, 5, 11, 12, 13], body := (.seq (.reg [w 1 (.bx v0 2), w 2 (.al [.nil, .nil] [])] []) (.seq (.reg [f 0 v1, g l0, u (.ca N.slices_Clone_int_int 1 [] [.l 0]), u (.bd [.nil, .nil] [(0, 1, .l 0)]), w 3 (.al [.nil, .nil] [(1, 2)]), u (.st l0 l1 2 [(1, 2)])] []) (.seq (.seq (.reg [f 1 v1, w 5 (.ld l0 1 false), w 6 (.ln l0), w 7 (.mv (.i 0))] []) (.blk 0 K.worlds_Copy_v1_l1)) (.seq (.reg [h 2 v3, u (.st v2 l0 2 [])] []) .ret)))), res := [(2, some (2, true))] }
end Go.Ev.K
namespace Go.Ev
class Has13 [Lib] : Prop where
 t_ref26_Same : Lib.fs N.ref26_Same = some K.ref26_Same
 t_slices_Clone_api_World_api_World : Lib.fs N.slices_Clone_api_World_api_World = some K.slices_Clone_api_World_api_World
 t_swaps_meet : Lib.fs N.swaps_meet = some K.swaps_meet
 t_worlds_Copy : Lib.fs N.worlds_Copy = some K.worlds_Copy
 t_worlds_Tidy : Lib.fs N.worlds_Tidy = some K.worlds_Tidy
 t_swaps_apply : Lib.fs N.swaps_apply = some K.swaps_apply
 t_swaps_See_1 : Lib.fs N.swaps_See_1 = some K.swaps_See_1
 t_swaps_Absent_1 : Lib.fs N.swaps_Absent_1 = some K.swaps_Absent_1
 t_swaps_Renew : Lib.fs N.swaps_Renew = some K.swaps_Renew
 t_ref26_Renew : Lib.fs N.ref26_Renew = some K.ref26_Renew
 t_swaps_meet_1 : Lib.fs N.swaps_meet_1 = some K.swaps_meet_1
 t_slices_SortedStableFunc_api_World : Lib.fs N.slices_SortedStableFunc_api_World = some K.slices_SortedStableFunc_api_World
 t_slices_Values_api_World_api_World : Lib.fs N.slices_Values_api_World_api_World = some K.slices_Values_api_World_api_World
 t_worlds_Tidy_1 : Lib.fs N.worlds_Tidy_1 = some K.worlds_Tidy_1
 t_slices_Collect_api_World : Lib.fs N.slices_Collect_api_World = some K.slices_Collect_api_World
 t_slices_SortStableFunc_api_World_api_World : Lib.fs N.slices_SortStableFunc_api_World_api_World = some K.slices_SortStableFunc_api_World_api_World
 t_slices_Values_api_World_api_World_1 : Lib.fs N.slices_Values_api_World_api_World_1 = some K.slices_Values_api_World_api_World_1
 t_slices_stableCmpFunc_api_World : Lib.fs N.slices_stableCmpFunc_api_World = some K.slices_stableCmpFunc_api_World
 t_slices_insertionSortCmpFunc_api_World : Lib.fs N.slices_insertionSortCmpFunc_api_World = some K.slices_insertionSortCmpFunc_api_World
 t_slices_symMergeCmpFunc_api_World : Lib.fs N.slices_symMergeCmpFunc_api_World = some K.slices_symMergeCmpFunc_api_World
 t_slices_rotateCmpFunc_api_World : Lib.fs N.slices_rotateCmpFunc_api_World = some K.slices_rotateCmpFunc_api_World
 t_slices_swapRangeCmpFunc_api_World : Lib.fs N.slices_swapRangeCmpFunc_api_World = some K.slices_swapRangeCmpFunc_api_World
 t_worlds_Copy_v1 : Lib.fs N.worlds_Copy_v1 = some K.worlds_Copy_v1
namespace K
variable [Lib] [Has13]
theorem t_ref26_Same : Lib.fs N.ref26_Same = some K.ref26_Same := Has13.t_ref26_Same
theorem t_slices_Clone_api_World_api_World : Lib.fs N.slices_Clone_api_World_api_World = some K.slices_Clone_api_World_api_World := Has13.t_slices_Clone_api_World_api_World
theorem t_swaps_meet : Lib.fs N.swaps_meet = some K.swaps_meet := Has13.t_swaps_meet
theorem t_worlds_Copy : Lib.fs N.worlds_Copy = some K.worlds_Copy := Has13.t_worlds_Copy
theorem t_worlds_Tidy : Lib.fs N.worlds_Tidy = some K.worlds_Tidy := Has13.t_worlds_Tidy
theorem t_swaps_apply : Lib.fs N.swaps_apply = some K.swaps_apply := Has13.t_swaps_apply
theorem t_swaps_See_1 : Lib.fs N.swaps_See_1 = some K.swaps_See_1 := Has13.t_swaps_See_1
theorem t_swaps_Absent_1 : Lib.fs N.swaps_Absent_1 = some K.swaps_Absent_1 := Has13.t_swaps_Absent_1
theorem t_swaps_Renew : Lib.fs N.swaps_Renew = some K.swaps_Renew := Has13.t_swaps_Renew
theorem t_ref26_Renew : Lib.fs N.ref26_Renew = some K.ref26_Renew := Has13.t_ref26_Renew
theorem t_swaps_meet_1 : Lib.fs N.swaps_meet_1 = some K.swaps_meet_1 := Has13.t_swaps_meet_1
theorem t_slices_SortedStableFunc_api_World : Lib.fs N.slices_SortedStableFunc_api_World = some K.slices_SortedStableFunc_api_World := Has13.t_slices_SortedStableFunc_api_World
theorem t_slices_Values_api_World_api_World : Lib.fs N.slices_Values_api_World_api_World = some K.slices_Values_api_World_api_World := Has13.t_slices_Values_api_World_api_World
theorem t_worlds_Tidy_1 : Lib.fs N.worlds_Tidy_1 = some K.worlds_Tidy_1 := Has13.t_worlds_Tidy_1
theorem t_slices_Collect_api_World : Lib.fs N.slices_Collect_api_World = some K.slices_Collect_api_World := Has13.t_slices_Collect_api_World
theorem t_slices_SortStableFunc_api_World_api_World : Lib.fs N.slices_SortStableFunc_api_World_api_World = some K.slices_SortStableFunc_api_World_api_World := Has13.t_slices_SortStableFunc_api_World_api_World
theorem t_slices_Values_api_World_api_World_1 : Lib.fs N.slices_Values_api_World_api_World_1 = some K.slices_Values_api_World_api_World_1 := Has13.t_slices_Values_api_World_api_World_1
theorem t_slices_stableCmpFunc_api_World : Lib.fs N.slices_stableCmpFunc_api_World = some K.slices_stableCmpFunc_api_World := Has13.t_slices_stableCmpFunc_api_World
theorem t_slices_insertionSortCmpFunc_api_World : Lib.fs N.slices_insertionSortCmpFunc_api_World = some K.slices_insertionSortCmpFunc_api_World := Has13.t_slices_insertionSortCmpFunc_api_World
theorem t_slices_symMergeCmpFunc_api_World : Lib.fs N.slices_symMergeCmpFunc_api_World = some K.slices_symMergeCmpFunc_api_World := Has13.t_slices_symMergeCmpFunc_api_World
theorem t_slices_rotateCmpFunc_api_World : Lib.fs N.slices_rotateCmpFunc_api_World = some K.slices_rotateCmpFunc_api_World := Has13.t_slices_rotateCmpFunc_api_World
theorem t_slices_swapRangeCmpFunc_api_World : Lib.fs N.slices_swapRangeCmpFunc_api_World = some K.slices_swapRangeCmpFunc_api_World := Has13.t_slices_swapRangeCmpFunc_api_World
theorem t_worlds_Copy_v1 : Lib.fs N.worlds_Copy_v1 = some K.worlds_Copy_v1 := Has13.t_worlds_Copy_v1
end K
end Go.Ev
namespace Go.Ev
open Go
variable [Lib] [Has1] [Has2] [Has3] [Has4] [Has5] [Has6] [Has7] [Has8] [Has9] [Has10] [Has11] [Has12] [Has13]
theorem wCopy_loop (x : World) (h : x.sz) : ∀ z0 z1 z4 : D, exS CALL K.worlds_Copy_v1_l1 ⟨[z0, z1, .bp 1 0, .bp 3 0, z4, .t (.sl (x.whr.map Wh.e)), I x.whr.length, I 0], [.box [.t (tL x.tags), .t (.sl (x.whr.map Wh.e))], .box [.nil, .nil], arr1 x.tags, .box [.ref 2 0 x.tags.length, .ref 5 0 0], .arr 2 false 0 [], .arr 2 false 0 []]⟩ =
 some (.exit 0, ⟨[.und, .und, .bp 1 0, .bp 3 0, .und, .t (.sl (x.whr.map Wh.e)), I x.whr.length, I x.whr.length], [.box [.t (tL x.tags), .t (.sl (x.whr.map Wh.e))], .box [.nil, .nil], arr1 x.tags, .box [.ref 2 0 x.tags.length, .ref 5 0 x.whr.length], .arr 2 false 0 [], .arr 2 false 0 ((x.whr.map Wh.e).map .t)]⟩) := by
 intro z0 z1 z4
 obtain ⟨tags, whr⟩ := x
 obtain ⟨h1, h2, h3⟩ := h
 simp only at h1 h2 h3 ⊢
 have tk : whr.take whr.length = whr := by simp
 refine loop_up (fun j => ⟨[.und, .und, .bp 1 0, .bp 3 0, .und, .t (.sl (whr.map Wh.e)), I whr.length, I j], [.box [.t (tL tags), .t (.sl (whr.map Wh.e))], .box [.nil, .nil], arr1 tags, .box [.ref 2 0 tags.length, .ref 5 0 (whr.take j).length], .arr 2 false 0 [], .arr 2 false 0 (((whr.take j).map Wh.e).map .t)]⟩) whr.length rfl ?_ ?_ (by simp)
 · intro j hj
   have c := clone1_ok (nth whr j).frm (h3 _ (nth_mem hj))
   have ex : (whr.map Wh.e)[j]? = some (nth whr j).e := map_nth _ hj
   have lt : (whr.take j).length = j := by rw [List.length_take]; omega
   have tk : whr.take (j + 1) = whr.take j ++ [nth whr j] := take_nth hj
   generalize nth whr j = w at *
   generalize whr.take j = pre at *
   obtain ⟨time, frm⟩ := w
   simp only [arr1] at *
   simp (disch := omega) only [go_sem, K.worlds_Copy_v1_l1b, ↓reduceIte, ex, c, lt, tk, List.map_append, List.map_cons, List.map_nil, List.length_append, List.length_cons, List.length_nil, Nat.reduceAdd, Nat.reduceSub]
 · simp only [arr1]
   simp (disch := omega) only [go_sem, K.worlds_Copy_v1_l1b, ↓reduceIte, tk, Nat.reduceAdd, Nat.reduceSub]
theorem wCopy_ok (x : World) (h : x.sz) : CALL 1 N.worlds_Copy_v1 [.t x.e] [] = some (.agg [.ref 0 0 x.tags.length, .ref 1 0 x.whr.length], [.arr 1 false 0 ((x.tags.map (T.int .i64)).map .t), .arr 2 false 0 ((x.whr.map Wh.e).map .t)]) := by
 refine CALL_of K.t_worlds_Copy_v1 rfl ?_
 have loop := wCopy_loop x h
 have c := clone1_ok x.tags h.1
 obtain ⟨tags, whr⟩ := x
 obtain ⟨h1, h2, h3⟩ := h
 simp only [arr1] at h1 h2 h3 loop c ⊢
 simp (disch := omega) only [go_sem, K.worlds_Copy_v1, ↓reduceIte, loop, c, Nat.reduceAdd, Nat.reduceSub]
abbrev arrW (l : List World) : Obj := .arr 2 false 0 ((l.map World.e).map .t)
theorem valuesW_ok (l : List World) : CALL 0 N.slices_Values_api_World_api_World [.t (.sl (l.map World.e))] [] = some (.fn N.slices_Values_api_World_api_World_1 [.bp 0 0], [.box [.t (.sl (l.map World.e))]]) := by
 refine CALL_of K.t_slices_Values_api_World_api_World rfl ?_
 simp (disch := omega) only [go_sem, K.slices_Values_api_World_api_World, ↓reduceIte, Nat.reduceAdd, Nat.reduceSub]
theorem collectW_ok (l : List World) (h0 : 0 < l.length) (hl : l.length ≤ 1000000) : CALL 1 N.slices_Collect_api_World [.fn N.slices_Values_api_World_api_World_1 [.bp 0 0]] [.box [.t (.sl (l.map World.e))]] = some (.ref 1 0 l.length, [.box [.t (.sl (l.map World.e))], arrW l]) := by
 refine CALL_prim K.t_slices_Collect_api_World (by decide) ?_
 show primF [3, N.slices_Values_api_World_api_World_1] _ _ = _
 have e : (l.map World.e).all pairT = true := by
  rw [List.all_eq_true]
  intro x hx
  obtain ⟨w, -, rfl⟩ := List.mem_map.1 hx
  rfl
 have ne : (l.map World.e).isEmpty = false := by
  cases l with
  | nil => simp at h0
  | cons => rfl
 simp only [primF, if_true, List.getElem?_cons_zero, e, and_true, List.length_map, ne, Bool.false_eq_true, if_false]
 rw [if_pos (by unfold lim; omega)]
 rfl
theorem tidyCmp_ok (a b : World) (ha : a.sz) (hb : b.sz) : CALL 0 N.worlds_Tidy_1 [.t a.e, .t b.e] [] = some (I (cmpL a.tags b.tags), []) := by
 refine CALL_of K.t_worlds_Tidy_1 rfl ?_
 have c := compare_ok a.tags b.tags ha.1 hb.1
 obtain ⟨t1, w1⟩ := a
 obtain ⟨t2, w2⟩ := b
 simp only at *
 simp (disch := omega) only [go_sem, K.worlds_Tidy_1, ↓reduceIte, c, Nat.reduceAdd, Nat.reduceSub]
abbrev SrtW (l : List World) : Prop := l.Pairwise fun x y => lexB y.tags x.tags = false
theorem cmp_lex (a b : List Int) : cmpL a b < 0 ↔ lexB a b = true := by
 rw [← less_lex, ← cmpL_less]; simp
abbrev isS (l : List World) (b i : Int) (j : D) : St := ⟨[.ref 0 0 l.length, I 0, I b, .fn N.worlds_Tidy_1 [], I i, j], [arrW l]⟩
theorem nth_mid {p : List World} {x : World} {r : List World} {j : Nat} (h : p.length = j) : nth (p ++ x :: r) j = x := nth_eq (by rw [List.getElem?_append_right (by omega), h, Nat.sub_self]; rfl)
theorem set_mid {α : Type} {p : List α} {y x a c : α} {r : List α} {j : Nat} (h : p.length = j) : ((p ++ y :: x :: r).set (j + 1) a).set j c = p ++ c :: a :: r := by
 rw [List.set_append_right _ _ (by omega), h, show j + 1 - j = 1 by omega, List.set_append_right _ _ (by omega), h, Nat.sub_self]
 rfl
def insP (b i : Int) (l0 rest : List World) (x : World) (k : Nat) (st : St) : Prop :=
 ∃ p q, st = isS (p ++ x :: (q ++ rest)) b i (I ((p.length : Nat) : Int)) ∧ p.length + k = l0.length ∧ p ++ q = l0 ∧ (∀ y ∈ q, lexB x.tags y.tags = true)
theorem ins_step (b i : Int) (p r : List World) (y x : World) (hx : x.sz) (hy : y.sz) (hl : (p ++ y :: x :: r).length ≤ 1000) :
 (lexB x.tags y.tags = true → roundC true [] 1 (exS CALL K.slices_insertionSortCmpFunc_api_World_l2b (isS (p ++ y :: x :: r) b i (I ((p.length + 1 : Nat) : Int)))) = some (isS (p ++ x :: y :: r) b i (I ((p.length : Nat) : Int)))) ∧
 (lexB x.tags y.tags = false → exS CALL K.slices_insertionSortCmpFunc_api_World_l2b (isS (p ++ y :: x :: r) b i (I ((p.length + 1 : Nat) : Int))) = some (.exit 2, isS (p ++ y :: x :: r) b i (I ((p.length + 1 : Nat) : Int)))) := by
 have c := tidyCmp_ok x y hx hy
 have cl := cmp_lex x.tags y.tags
 obtain ⟨n, hn⟩ : ∃ n, p.length = n := ⟨_, rfl⟩
 have n1 : nth (p ++ y :: x :: r) (n + 1) = x := by
  have := nth_mid (p := p ++ [y]) (x := x) (r := r) (j := n + 1) (by simp [hn])
  rwa [List.append_assoc] at this
 have n0 : nth (p ++ y :: x :: r) n = y := nth_mid hn
 have st : ((((p ++ y :: x :: r).map World.e).map D.t).set (n + 1) (D.t y.e)).set n (D.t x.e) = (((p ++ x :: y :: r).map World.e).map D.t) := by
  simp only [List.map_append, List.map_cons]
  exact set_mid (by simp [hn])
 have ln : (p ++ y :: x :: r).length = (p ++ x :: y :: r).length := by simp
 have lt : n + 1 < (p ++ y :: x :: r).length := by simp [hn]
 rw [hn]
 have gs : ∀ v, ((((p ++ y :: x :: r).map World.e).map D.t).set (n + 1) v)[n]? = some (D.t y.e) := fun v => by
  rw [List.getElem?_set_ne (by omega), List.getElem?_map, List.getElem?_map, nth_some (by omega), n0]; rfl
 simp only [isS, arrW]
 rw [← ln]
 generalize (p ++ x :: y :: r) = L2 at *
 generalize (p ++ y :: x :: r) = L at *
 generalize cmpL x.tags y.tags = v at *
 obtain ⟨t1, w1⟩ := x
 obtain ⟨t2, w2⟩ := y
 simp only at *
 constructor
 · intro h
   have v0 := cl.2 h
   simp (disch := omega) only [go_sem, K.slices_insertionSortCmpFunc_api_World_l2b, ↓reduceIte, n1, n0, c, gs, st, Nat.reduceAdd, Nat.reduceSub]
 · intro h
   have v0 : ¬ v < 0 := fun e => by rw [cl.1 e] at h; cases h
   simp (disch := omega) only [go_sem, K.slices_insertionSortCmpFunc_api_World_l2b, ↓reduceIte, n1, n0, c, Nat.reduceAdd, Nat.reduceSub]
theorem srt_ins {p q : List World} {x : World} (hs : SrtW (p ++ q)) (hq : ∀ y ∈ q, lexB x.tags y.tags = true) (hp : ∀ y ∈ p, lexB x.tags y.tags = false) : SrtW (p ++ x :: q) := by
 simp only [SrtW, List.pairwise_append] at hs ⊢
 refine ⟨hs.1, ?_, fun a ha c hc => ?_⟩
 · rw [List.pairwise_cons]
   refine ⟨fun y hy => ?_, hs.2.1⟩
   cases h : lexB y.tags x.tags with
   | false => rfl
   | true => have := lex_trans h (hq y hy); rw [lex_irrefl] at this; cases this
 · rcases List.mem_cons.1 hc with rfl | hc
   · exact hp a ha
   · exact hs.2.2 a ha c hc
theorem ins_loop (b i : Int) (l0 rest : List World) (x : World) (hs : SrtW l0) (hz : ∀ w ∈ l0 ++ x :: rest, w.sz) (hl : (l0 ++ x :: rest).length ≤ 1000) :
 ∃ (l1 : List World) (z : D), exS CALL K.slices_insertionSortCmpFunc_api_World_l2 (isS (l0 ++ x :: rest) b i (I ((l0.length : Nat) : Int))) = some (.exit 2, isS (l1 ++ rest) b i z) ∧ l1.Perm (l0 ++ [x]) ∧ SrtW l1 := by
 have fin : ∀ p q, p ++ q = l0 → (∀ y ∈ q, lexB x.tags y.tags = true) → (∀ y ∈ p, lexB x.tags y.tags = false) → (p ++ x :: q).Perm (l0 ++ [x]) ∧ SrtW (p ++ x :: q) := by
  intro p q e hq hp
  subst e
  refine ⟨?_, srt_ins hs hq hp⟩
  rw [List.append_assoc]
  exact List.Perm.append_left _ (List.perm_append_comm (l₁ := [x]))
 have key := loop_x (gc := true) (dead := []) (c := K.slices_insertionSortCmpFunc_api_World_l2b) (vs := [.ref 0 0 (l0 ++ x :: rest).length, I 0, I b, .fn N.worlds_Tidy_1 [], I i, I ((l0.length : Nat) : Int)]) (H := [arrW (l0 ++ x :: rest)])
  (insP b i l0 rest x) l0.length (fun r => ∃ (l1 : List World) (z : D), r = (.exit 2, isS (l1 ++ rest) b i z) ∧ l1.Perm (l0 ++ [x]) ∧ SrtW l1) ?_ ?_ ?_
 · obtain ⟨r, h, l1, z, rfl, a, c⟩ := key
   exact ⟨l1, z, h, a, c⟩
 · exact ⟨l0, [], rfl, by omega, by simp, fun y hy => by cases hy⟩
 · rintro j st hj ⟨p, q, rfl, h1, h2, h3⟩
   obtain ⟨p', y, rfl⟩ : ∃ p' y, p = p' ++ [y] := ⟨p.dropLast, p.getLast (fun e => by subst e; simp at h1; omega), (List.dropLast_concat_getLast _).symm⟩
   subst h2
   have hz' : ∀ w ∈ p' ++ [y] ++ q ++ x :: rest, w.sz := hz
   have e1 : p' ++ [y] ++ x :: (q ++ rest) = p' ++ y :: x :: (q ++ rest) := by simp
   have e2 : (p' ++ [y]).length = p'.length + 1 := by simp
   rw [e1, e2]
   have st := ins_step b i p' (q ++ rest) y x (hz' x (by simp)) (hz' y (by simp)) (by simp at hl ⊢; omega)
   cases hc : lexB x.tags y.tags with
   | true =>
     refine .inl ⟨_, st.1 hc, p', y :: q, by simp [isS], by simp at h1 ⊢; omega, by simp, fun w hw => ?_⟩
     rcases List.mem_cons.1 hw with rfl | hw
     · exact hc
     · exact h3 w hw
   | false =>
     refine .inr ⟨_, st.2 hc, by simp, p' ++ [y] ++ x :: q, I ((p'.length + 1 : Nat) : Int), by simp [isS], ?_⟩
     refine fin (p' ++ [y]) q rfl h3 fun w hw => ?_
     rcases List.mem_append.1 hw with hw | hw
     · cases h : lexB x.tags w.tags with
       | false => rfl
       | true =>
         have hwy : lexB y.tags w.tags = false := by
          simp only [SrtW, List.pairwise_append] at hs
          exact hs.1.2.2 w hw y (by simp)
         rcases lex_total y.tags x.tags with a | a | a
         · rw [lex_trans a h] at hwy; cases hwy
         · rw [a, h] at hwy; cases hwy
         · rw [a] at hc; cases hc
     · rw [List.mem_singleton.1 hw]; exact hc
 · rintro st ⟨p, q, rfl, h1, h2, h3⟩
   have p0 : p = [] := List.eq_nil_of_length_eq_zero (by omega)
   subst p0
   simp only [List.nil_append] at h2
   subst h2
   refine ⟨(.exit 2, isS (x :: (q ++ rest)) b i (I 0)), ?_, by simp, x :: q, I 0, rfl, fin [] q rfl h3 (fun y hy => by cases hy)⟩
   simp only [isS, arrW, List.nil_append, List.length_nil]
   simp (disch := omega) only [go_sem, K.slices_insertionSortCmpFunc_api_World_l2b, ↓reduceIte, Nat.reduceAdd, Nat.reduceSub]
def outP (l : List World) (k : Nat) (st : St) : Prop :=
 ∃ l' : List World, st = isS l' l.length (1 + (k : Int)) .und ∧ l'.Perm l ∧ SrtW (l'.take (1 + k))
theorem out_round (l : List World) (hz : ∀ w ∈ l, w.sz) (hl : l.length ≤ 1000) {k : Nat} (hk : k < l.length - 1) {st : St} (hP : outP l k st) :
 ∃ st', roundC true [5] st.H.length (exS CALL K.slices_insertionSortCmpFunc_api_World_l1b st) = some st' ∧ outP l (k + 1) st' := by
 obtain ⟨l', rfl, pm, so⟩ := hP
 have ln := pm.length_eq
 have sp : l' = l'.take (1 + k) ++ nth l' (1 + k) :: l'.drop (1 + k + 1) := by
  conv => lhs; rw [← List.take_append_drop (1 + k) l']
  rw [List.drop_eq_getElem_cons (by omega), nth_eq (List.getElem?_eq_getElem (by omega))]
 have l0 : (l'.take (1 + k)).length = 1 + k := by rw [List.length_take]; omega
 obtain ⟨l1, z, h, p1, s1⟩ := ins_loop l.length (1 + (k : Int)) (l'.take (1 + k)) (l'.drop (1 + k + 1)) (nth l' (1 + k)) so (fun w hw => hz w (pm.mem_iff.1 (by rw [sp]; exact hw))) (by rw [← sp]; omega)
 rw [← sp, l0] at h
 have l1n : l1.length = 1 + k + 1 := by rw [p1.length_eq, List.length_append, l0]; rfl
 have tl : (l1 ++ l'.drop (1 + k + 1)).length = l'.length := by rw [List.length_append, l1n, List.length_drop]; omega
 refine ⟨isS (l1 ++ l'.drop (1 + k + 1)) l.length (1 + ((k + 1 : Nat) : Int)) .und, ?_, _, rfl, ?_, ?_⟩
 · generalize (l1 ++ l'.drop (1 + k + 1)) = L at *
   clear sp
   simp only [isS, arrW] at *
   have e : ((1 + k : Nat) : Int) = 1 + (k : Int) := by omega
   rw [e] at h
   have e2 : (1 : Int) + ((k + 1 : Nat) : Int) = 1 + (k : Int) + 1 := by omega
   rw [e2, tl]
   rw [tl] at h
   have lt : (1 : Int) + k < l.length := by omega
   simp (disch := omega) only [go_sem, K.slices_insertionSortCmpFunc_api_World_l1b, ↓reduceIte, h, Nat.reduceAdd, Nat.reduceSub]
 · have : (l1 ++ l'.drop (1 + k + 1)).Perm l' := by
    conv => rhs; rw [sp]
    rw [show l'.take (1 + k) ++ nth l' (1 + k) :: l'.drop (1 + k + 1) = (l'.take (1 + k) ++ [nth l' (1 + k)]) ++ l'.drop (1 + k + 1) by simp]
    exact List.Perm.append_right _ p1
   exact this.trans pm
 · rw [show 1 + (k + 1) = l1.length by omega, List.take_left']
   · exact s1
   · rfl
theorem insort_ok (l : List World) (hz : ∀ w ∈ l, w.sz) (hl : l.length ≤ 1000) :
 ∃ l', CALL 0 N.slices_insertionSortCmpFunc_api_World [.ref 0 0 l.length, I 0, I l.length, .fn N.worlds_Tidy_1 []] [arrW l] = some (.tup [], [arrW l']) ∧ l'.Perm l ∧ SrtW l' := by
 by_cases h0 : l.length = 0
 · have e : l = [] := List.eq_nil_of_length_eq_zero h0
   subst e
   refine ⟨[], ?_, List.Perm.refl _, List.Pairwise.nil⟩
   refine CALL_of K.t_slices_insertionSortCmpFunc_api_World rfl ?_
   have lp : ∀ z5, exS CALL K.slices_insertionSortCmpFunc_api_World_l1 ⟨[.ref 0 0 0, I 0, I 0, .fn N.worlds_Tidy_1 [], I 1, z5], [.arr 2 false 0 []]⟩ = some (.exit 0, ⟨[.ref 0 0 0, I 0, I 0, .fn N.worlds_Tidy_1 [], I 1, .und], [.arr 2 false 0 []]⟩) := by
    intro z5
    refine loop_is (loopC_exit ?_ (by simp))
    simp (disch := omega) only [go_sem, K.slices_insertionSortCmpFunc_api_World_l1b, ↓reduceIte, Nat.reduceAdd, Nat.reduceSub]
   simp only [arrW, List.map_nil, List.length_nil]
   simp (disch := omega) only [go_sem, K.slices_insertionSortCmpFunc_api_World, ↓reduceIte, lp, Nat.reduceAdd, Nat.reduceSub]
 · have key := fun z5 : D => loop_x (gc := true) (dead := [5]) (c := K.slices_insertionSortCmpFunc_api_World_l1b) (vs := [.ref 0 0 l.length, I 0, I l.length, .fn N.worlds_Tidy_1 [], I 1, z5]) (H := [arrW l])
    (outP l) (l.length - 1) (fun r => ∃ l' : List World, r = (.exit 0, isS l' l.length l.length .und) ∧ l'.Perm l ∧ SrtW l') ⟨l, rfl, List.Perm.refl _, by
     match l with
     | [] => exact List.Pairwise.nil
     | x :: r => simp⟩ (fun j st hj hP => .inl (out_round l hz hl hj hP)) (by
     rintro st ⟨l', rfl, pm, so⟩
     have ln := pm.length_eq
     have e : (1 : Int) + ((l.length - 1 : Nat) : Int) = l.length := by omega
     rw [e]
     rw [List.take_of_length_le (by omega)] at so
     refine ⟨(.exit 0, isS l' l.length l.length .und), ?_, by simp, l', rfl, pm, so⟩
     simp only [isS, arrW]
     simp (disch := omega) only [go_sem, K.slices_insertionSortCmpFunc_api_World_l1b, ↓reduceIte, Nat.reduceAdd, Nat.reduceSub]
     )
   obtain ⟨r, hr, l', rfl, pm, so⟩ := key .und
   refine ⟨l', ?_, pm, so⟩
   refine CALL_of K.t_slices_insertionSortCmpFunc_api_World rfl ?_
   have ln := pm.length_eq
   have hr : exS CALL K.slices_insertionSortCmpFunc_api_World_l1 _ = _ := hr
   simp only [isS, arrW, ln] at hr ⊢
   simp (disch := omega) only [go_sem, K.slices_insertionSortCmpFunc_api_World, ↓reduceIte, hr, Nat.reduceAdd, Nat.reduceSub]
theorem stable_ok (l : List World) (hz : ∀ w ∈ l, w.sz) (hl : l.length < 20) :
 ∃ l', CALL 0 N.slices_stableCmpFunc_api_World [.ref 0 0 l.length, I l.length, .fn N.worlds_Tidy_1 []] [arrW l] = some (.tup [], [arrW l']) ∧ l'.Perm l ∧ SrtW l' := by
 obtain ⟨l', h, pm, so⟩ := insort_ok l hz (by omega)
 refine ⟨l', ?_, pm, so⟩
 refine CALL_of K.t_slices_stableCmpFunc_api_World rfl ?_
 have ln := pm.length_eq
 have e1 : ∀ z6 : D, exS CALL K.slices_stableCmpFunc_api_World_l1 ⟨[.ref 0 0 l.length, I l.length, .fn N.worlds_Tidy_1 [], I 20, I 0, I 20, z6], [arrW l]⟩ = some (.exit 0, ⟨[.ref 0 0 l.length, I l.length, .fn N.worlds_Tidy_1 [], I 20, I 0, I 20, .und], [arrW l]⟩) := by
  intro z6
  refine loop_is (loopC_exit ?_ (by simp))
  simp only [arrW]
  simp (disch := omega) only [go_sem, K.slices_stableCmpFunc_api_World_l1b, ↓reduceIte, Nat.reduceAdd, Nat.reduceSub]
 have e2 : ∀ z4 z5 z6 : D, exS CALL K.slices_stableCmpFunc_api_World_l2 ⟨[.ref 0 0 l.length, I l.length, .fn N.worlds_Tidy_1 [], I 20, z4, z5, z6], [arrW l']⟩ = some (.exit 2, ⟨[.ref 0 0 l.length, I l.length, .fn N.worlds_Tidy_1 [], I 20, .und, .und, .und], [arrW l']⟩) := by
  intro z4 z5 z6
  refine loop_is (loopC_exit ?_ (by simp))
  simp only [arrW]
  simp (disch := omega) only [go_sem, K.slices_stableCmpFunc_api_World_l2b, ↓reduceIte, Nat.reduceAdd, Nat.reduceSub]
 simp only [arrW] at *
 simp (disch := omega) only [go_sem, K.slices_stableCmpFunc_api_World, ↓reduceIte, e1, e2, h, Nat.reduceAdd, Nat.reduceSub]
theorem sortStable_ok (l : List World) (hz : ∀ w ∈ l, w.sz) (hl : l.length < 20) :
 ∃ l', CALL 0 N.slices_SortStableFunc_api_World_api_World [.ref 0 0 l.length, .fn N.worlds_Tidy_1 []] [arrW l] = some (.tup [], [arrW l']) ∧ l'.Perm l ∧ SrtW l' := by
 obtain ⟨l', h, pm, so⟩ := stable_ok l hz hl
 refine ⟨l', ?_, pm, so⟩
 refine CALL_of K.t_slices_SortStableFunc_api_World_api_World rfl ?_
 simp only [arrW] at *
 simp (disch := omega) only [go_sem, K.slices_SortStableFunc_api_World_api_World, ↓reduceIte, h, Nat.reduceAdd, Nat.reduceSub]
theorem sortedW_ok (l : List World) (hz : ∀ w ∈ l, w.sz) (h0 : 0 < l.length) (hl : l.length < 20) :
 ∃ l', CALL 0 N.slices_SortedStableFunc_api_World [.fn N.slices_Values_api_World_api_World_1 [.bp 0 0], .fn N.worlds_Tidy_1 []] [.box [.t (.sl (l.map World.e))]] = some (.t (.sl (l'.map World.e)), [.box [.t (.sl (l.map World.e))]]) ∧ l'.Perm l ∧ SrtW l' := by
 obtain ⟨l', h, pm, so⟩ := sortStable_ok l hz hl
 refine ⟨l', ?_, pm, so⟩
 refine CALL_of K.t_slices_SortedStableFunc_api_World rfl ?_
 have c := collectW_ok l h0 (by omega)
 have ln := pm.length_eq
 simp only [arrW] at *
 simp (disch := omega) only [go_sem, K.slices_SortedStableFunc_api_World, ↓reduceIte, c, h, ln, Nat.reduceAdd, Nat.reduceSub]
end Go.Ev
namespace Go.Ev
open Go
variable [Lib] [Has1] [Has2] [Has3] [Has4] [Has5] [Has6] [Has7] [Has8] [Has9]
end Go.Ev
namespace Go.Ev
open Go
variable [Lib] [Has1] [Has2] [Has3] [Has4] [Has5] [Has6] [Has7] [Has8] [Has9] [Has10] [Has11]
theorem swapL_perm {l : List Int} {i j : Nat} (hi : i < l.length) (hj : j < l.length) : (swapL l i j).Perm l := by
 have := Array.swap_perm (xs := l.toArray) (i := i) (j := j) (by simpa using hi) (by simpa using hj)
 rw [Array.perm_iff_toList_perm] at this
 unfold swapL
 rw [nth_eq (List.getElem?_eq_getElem hi), nth_eq (List.getElem?_eq_getElem hj)]
 simpa [Array.swap] using this
theorem set_valid {m : Mine} {l : List Wh} (hl : ∀ w ∈ l, validB m w = true) (i : Nat) {x : Wh} (hx : i < l.length → validB m x = true) : ∀ w ∈ l.set i x, validB m w = true := by
 intro w hw
 by_cases h : i < l.length
 · rcases List.mem_or_eq_of_mem_set hw with a | rfl
   · exact hl w a
   · exact hx h
 · rw [List.set_eq_of_length_le (by omega)] at hw; exact hl w hw
theorem raise_valid {m : Mine} (h : m.ok) {w : Wh} (hv : validB m w = true) (t : Int) : validB m (raiseF w t).1 = true := by
 unfold raiseF
 split
 · exact hv
 · obtain ⟨a, b, c, -⟩ := validB_spec hv
   have cl := validB_cl h hv
   unfold inT at b
   exact validB_of h a (by simp only; unfold inT; omega) c (clW_mono (t' := t) (by omega) cl)
theorem putW_WV {m : Mine} {first : List Int} {x : World} (h : WV m first x) (tag : Int) {w : Wh} (hw : (bearerF x.tags tag).toNat < x.whr.length → validB m w = true) : WV m first (putW tag x w) :=
 ⟨h.pm, by simp [putW, h.wl], set_valid h.wv _ hw⟩
def seeG (m : Mine) (tag : Int) (l : List Int) (a b : Int) (x : World) : Option World :=
 if (seeW m tag l a b x).2 = 43 then none else some (if (seeW m tag l a b x).2 = 0 then putW tag x (seeW m tag l a b x).1 else x)
theorem seeNb_is (m : Mine) (tag : Int) (l : List Int) (a b : Int) (ws : List World) : ∀ j, j ≤ ws.length → seeNb m tag l a b ws j = (ws.take j).filterMap (seeG m tag l a b)
 | 0, _ => by simp [seeNb]
 | j + 1, h => by
   rw [take_nth (by omega), List.filterMap_append]
   simp only [seeNb, seeNb_is m tag l a b ws j (by omega), stepW, seeG, List.filterMap_cons, List.filterMap_nil]
   split <;> simp_all
theorem absNb_is (m : Mine) (tag : Int) (l : List Int) (a b bl : Int) (ws : List World) : ∀ j, j ≤ ws.length → absNb m tag l a b bl ws j = (ws.take j).map fun x => if (absW m tag l a b bl x).2 = 0 then putW tag x (absW m tag l a b bl x).1 else x
 | 0, _ => by simp [absNb]
 | j + 1, h => by
   rw [take_nth (by omega), List.map_append]
   simp only [absNb, absNb_is m tag l a b bl ws j (by omega), stepA, List.map_cons, List.map_nil]
theorem seeG_WV {m : Mine} (hm : m.ok) {first : List Int} {tag : Int} {l : List Int} {a b : Int} {x y : World} (h : WV m first x) (e : seeG m tag l a b x = some y) : WV m first y ∧ y.tags = x.tags := by
 unfold seeG at e
 split at e
 · cases e
 · simp only [Option.some.injEq] at e
   subst e
   split
   · exact ⟨putW_WV h tag fun hl => see_valid hm (h.wv _ (nth_mem hl)) l a b, rfl⟩
   · exact ⟨h, rfl⟩
theorem see_BV {m : Mine} (hm : m.ok) {first : List Int} {ws : List World} (h : BV m first ws) (tag : Int) (l : List Int) (a b : Int) : BV m first (seeNb m tag l a b ws ws.length) := by
 rw [seeNb_is m tag l a b ws _ (Nat.le_refl _), List.take_length]
 refine ⟨h.pr, h.f1, h.f2, fun y hy => ?_, ?_⟩
 · obtain ⟨x, hx, e⟩ := List.mem_filterMap.1 hy
   exact (seeG_WV hm (h.wv x hx) e).1
 · rw [List.pairwise_filterMap]
   refine (List.Pairwise.imp_of_mem ?_ h.up)
   intro x y hx hy hxy x' ex y' ey
   rw [(seeG_WV hm (h.wv x hx) ex).2, (seeG_WV hm (h.wv y hy) ey).2]
   exact hxy
theorem abs_BV {m : Mine} (hm : m.ok) {first : List Int} {ws : List World} (h : BV m first ws) (tag : Int) (l : List Int) (a b bl : Int) : BV m first (absNb m tag l a b bl ws ws.length) := by
 rw [absNb_is m tag l a b bl ws _ (Nat.le_refl _), List.take_length]
 have tg : ∀ x : World, (if (absW m tag l a b bl x).2 = 0 then putW tag x (absW m tag l a b bl x).1 else x).tags = x.tags := by
  intro x; split <;> rfl
 refine ⟨h.pr, h.f1, h.f2, fun y hy => ?_, ?_⟩
 · obtain ⟨x, hx, rfl⟩ := List.mem_map.1 hy
   have wx := h.wv x hx
   split
   · exact putW_WV wx tag fun hl => abs_valid hm (wx.wv _ (nth_mem hl)) l a b bl
   · exact wx
 · rw [List.pairwise_map]
   refine h.up.imp fun {x y} hxy => ?_
   rw [tg, tg]; exact hxy
theorem exchW_WV {m : Mine} (hm : m.ok) {first : List Int} {x : World} (h : WV m first x) {i j : Nat} (hi : i < first.length) (hj : j < first.length) (t : Int) : WV m first (exchW i j t x) := by
 have wl := h.wl
 have tl := h.pm.length_eq
 refine ⟨(swapL_perm (by omega) (by omega)).trans h.pm, by simp [exchW, wl], ?_⟩
 exact set_valid (set_valid h.wv i fun hl => raise_valid hm (h.wv _ (nth_mem hl)) t) j fun hl => raise_valid hm (h.wv _ (nth_mem (by simpa using hl))) t
theorem exchNb_WV {m : Mine} (hm : m.ok) {first : List Int} {ws : List World} (h : ∀ x ∈ ws, WV m first x) {i j : Nat} (hi : i < first.length) (hj : j < first.length) (t : Int) : ∀ k, k ≤ ws.length → ∀ x ∈ exchNb i j t ws k, WV m first x
 | 0, _, x, hx => h x hx
 | k + 1, hk, x, hx => by
   simp only [exchNb, exchS] at hx
   split at hx
   · rcases List.mem_append.1 hx with hx | hx
     · exact exchNb_WV hm h hi hj t k (by omega) x hx
     · rw [List.mem_singleton.1 hx]
       exact exchW_WV hm (h _ (nth_mem (by omega))) hi hj t
   · exact exchNb_WV hm h hi hj t k (by omega) x hx
theorem joinN_valid {m : Mine} (hm : m.ok) {a b : List Wh} (ha : ∀ w ∈ a, validB m w = true) (hb : ∀ w ∈ b, validB m w = true) : ∀ p, p ≤ a.length → p ≤ b.length → ∀ w ∈ joinN a b p, validB m w = true
 | 0, _, _, w, hw => ha w hw
 | p + 1, h1, h2, w, hw => by
   refine set_valid (joinN_valid hm ha hb p (by omega) (by omega)) p (fun _ => ?_) w hw
   exact (join_valid hm (ha _ (nth_mem (by omega))) (hb _ (nth_mem (by omega)))).2.1
theorem tidyK_lt {out : List World} {x : World} {k : Nat} (h : k < tidyK out x) : lexB (nth out k).tags x.tags = true := by
 unfold tidyK at h
 split at h
 · rename_i j hf
   rw [List.find?_range_eq_some] at hf
   have := hf.2.2 k h
   rw [← less_lex]; simpa using this
 · rename_i hf
   have := List.find?_eq_none.1 hf k (List.mem_range.2 h)
   rw [← less_lex]; simpa using this
theorem tidyK_at {out : List World} {x : World} (h : tidyK out x < out.length) : lexB (nth out (tidyK out x)).tags x.tags = false := by
 unfold tidyK at h ⊢
 split
 · rename_i j hf
   rw [List.find?_range_eq_some] at hf
   have := hf.1
   rw [← less_lex]; simpa using this
 · rename_i hf
   rw [hf] at h; simp at h
theorem tidy1_BV {m : Mine} (hm : m.ok) {first : List Int} {out : List World} (h : BV m first out) {x : World} (hx : WV m first x) : BV m first (tidy1 out x) := by
 have kl := tidyK_le out x
 unfold tidy1
 split
 · rename_i c
   obtain ⟨c1, c2⟩ := c
   have wk := h.wv _ (nth_mem c1)
   have w1 := wk.wl
   have w2 := hx.wl
   refine ⟨h.pr, h.f1, h.f2, fun y hy => ?_, ?_⟩
   · rcases List.mem_or_eq_of_mem_set hy with a | rfl
     · exact h.wv y a
     · exact ⟨hx.pm, by rw [joinWs, joinN_len]; exact w1, joinN_valid hm wk.wv hx.wv _ (by omega) (by omega)⟩
   · have u := h.up
     rw [← List.pairwise_map (f := World.tags) (R := fun a b => lexB a b = true)] at u ⊢
     rw [List.map_set]
     have e : (out.map World.tags).set (tidyK out x) x.tags = out.map World.tags := by
      apply List.ext_getElem?
      intro i
      by_cases hi : tidyK out x = i
      · rw [← hi, List.getElem?_set_self (by simpa using c1), List.getElem?_map, nth_some c1, ← c2]; rfl
      · rw [List.getElem?_set_ne hi]
     rw [e]; exact u
 · rename_i c
   refine ⟨h.pr, h.f1, h.f2, fun y hy => ?_, ?_⟩
   · simp only [List.mem_append, List.mem_singleton] at hy
     rcases hy with (hy | rfl) | hy
     · exact h.wv y (List.mem_of_mem_take hy)
     · exact hx
     · exact h.wv y (List.mem_of_mem_drop hy)
   · have u := h.up
     have lo : ∀ y ∈ out.take (tidyK out x), lexB y.tags x.tags = true := by
      intro y hy
      obtain ⟨i, hi⟩ := List.mem_iff_getElem?.1 hy
      have il := (List.getElem?_eq_some_iff.1 hi).1
      rw [List.length_take] at il
      rw [List.getElem?_take_of_lt (by omega)] at hi
      have := tidyK_lt (out := out) (x := x) (k := i) (by omega)
      rwa [nth_eq hi] at this
     have hi : ∀ y ∈ out.drop (tidyK out x), lexB x.tags y.tags = true := by
      intro y hy
      obtain ⟨i, hi⟩ := List.mem_iff_getElem?.1 hy
      have il := (List.getElem?_eq_some_iff.1 hi).1
      rw [List.length_drop] at il
      rw [List.getElem?_drop] at hi
      have c1 : tidyK out x < out.length := by omega
      have at_ := tidyK_at c1
      have ne : (nth out (tidyK out x)).tags ≠ x.tags := fun e => c ⟨c1, e⟩
      have first_ : lexB x.tags (nth out (tidyK out x)).tags = true := by
       rcases lex_total (nth out (tidyK out x)).tags x.tags with a | a | a
       · rw [a] at at_; cases at_
       · exact absurd a ne
       · exact a
      by_cases i0 : i = 0
      · subst i0
        rw [Nat.add_zero] at hi
        rwa [nth_eq hi] at first_
      · have := (List.pairwise_iff_getElem.1 u) (tidyK out x) (tidyK out x + i) (by omega) (by omega) (by omega)
        rw [← nth_eq (List.getElem?_eq_getElem (by omega : tidyK out x < out.length)), ← nth_eq (List.getElem?_eq_getElem (by omega : tidyK out x + i < out.length)), nth_eq hi] at this
        exact lex_trans first_ this
     have td : out.take (tidyK out x) ++ out.drop (tidyK out x) = out := List.take_append_drop _ _
     have u2 := u
     rw [← td, List.pairwise_append] at u2
     rw [List.append_assoc, List.pairwise_append]
     refine ⟨u2.1, ?_, fun y hy z hz => ?_⟩
     · rw [List.singleton_append, List.pairwise_cons]; exact ⟨hi, u2.2.1⟩
     · simp only [List.singleton_append, List.mem_cons] at hz
       rcases hz with rfl | hz
       · exact lo y hy
       · exact u2.2.2 y hy z hz
theorem tidyN_BV {m : Mine} (hm : m.ok) {first : List Int} (pr : properB first = true) (f1 : 1 ≤ first.length) (f2 : first.length ≤ 12) {l : List World} (hl : ∀ x ∈ l, WV m first x) : ∀ j, j ≤ l.length → BV m first (tidyN l j)
 | 0, _ => ⟨pr, f1, f2, fun x hx => by simp [tidyN] at hx, by simp [tidyN]⟩
 | j + 1, h => tidy1_BV hm (tidyN_BV hm pr f1 f2 hl j (by omega)) (hl _ (nth_mem (by omega)))
def lookW (out : List World) (t : List Int) : Option (List Wh) := (out.find? fun w => decide (w.tags = t)).map World.whr
abbrev UpW (out : List World) : Prop := out.Pairwise fun x y => lexB x.tags y.tags = true
theorem lex_ne {a b : List Int} (h : lexB a b = true) : a ≠ b := fun e => by rw [e, lex_irrefl] at h; cases h
theorem look_none {out : List World} {t : List Int} (h : ∀ w ∈ out, w.tags ≠ t) : lookW out t = none := by
 unfold lookW
 rw [List.find?_eq_none.2 fun w hw => by simpa using h w hw]; rfl
theorem look_mem : ∀ {out : List World}, UpW out → ∀ {w : World}, w ∈ out → lookW out w.tags = some w.whr
 | x :: r, h, w, hw => by
   unfold lookW
   rw [List.find?_cons]
   by_cases e : x.tags = w.tags
   · simp only [e, decide_true]
     rcases List.mem_cons.1 hw with rfl | hw
     · rfl
     · exact absurd e (lex_ne ((List.pairwise_cons.1 h).1 w hw))
   · simp only [e, decide_false]
     rcases List.mem_cons.1 hw with rfl | hw
     · exact absurd rfl e
     · exact look_mem (List.pairwise_cons.1 h).2 hw
theorem look_cases (out : List World) (t : List Int) : (∃ w ∈ out, w.tags = t) ∨ (∀ w ∈ out, w.tags ≠ t) := by
 by_cases h : ∃ w ∈ out, w.tags = t
 · exact .inl h
 · exact .inr fun w hw e => h ⟨w, hw, e⟩
theorem look_some {out : List World} {t : List Int} {l : List Wh} (h : lookW out t = some l) : ∃ w ∈ out, w.tags = t ∧ w.whr = l := by
 unfold lookW at h
 obtain ⟨w, hw, rfl⟩ := Option.map_eq_some_iff.1 h
 exact ⟨w, List.mem_of_find?_eq_some hw, by simpa using List.find?_some hw, rfl⟩
theorem look_cons {x : World} {r : List World} {t : List Int} (h : x.tags ≠ t) : lookW (x :: r) t = lookW r t := by
 unfold lookW; rw [List.find?_cons]; simp only [h, decide_false]
theorem look_ext : ∀ {a b : List World}, UpW a → UpW b → (∀ t, lookW a t = lookW b t) → a = b
 | [], [], _, _, _ => rfl
 | [], y :: s, _, hb, h => by
   have := h y.tags
   rw [look_mem hb List.mem_cons_self] at this
   cases this
 | x :: r, [], ha, _, h => by
   have := h x.tags
   rw [look_mem ha List.mem_cons_self] at this
   cases this
 | x :: r, y :: s, ha, hb, h => by
   obtain ⟨a1, a2⟩ := List.pairwise_cons.1 ha
   obtain ⟨b1, b2⟩ := List.pairwise_cons.1 hb
   have hx := h x.tags
   rw [look_mem ha List.mem_cons_self] at hx
   have hy := h y.tags
   rw [look_mem hb List.mem_cons_self] at hy
   rcases lex_total x.tags y.tags with c | c | c
   · rw [look_none] at hx
     · cases hx
     · intro w hw e
       rcases List.mem_cons.1 hw with rfl | hw
       · rw [e, lex_irrefl] at c; cases c
       · have := lex_trans c (b1 w hw)
         rw [e, lex_irrefl] at this; cases this
   · have tl : r = s := look_ext a2 b2 fun t => by
      by_cases e : x.tags = t
      · rw [look_none fun w hw e2 => lex_ne (a1 w hw) (e.trans e2.symm), look_none fun w hw e2 => lex_ne (b1 w hw) (c.symm.trans (e.trans e2.symm))]
      · have := h t
        rwa [look_cons e, look_cons (fun e2 => e (c.trans e2))] at this
     rw [c, look_mem hb List.mem_cons_self] at hx
     obtain ⟨xt, xw⟩ := x
     obtain ⟨yt, yw⟩ := y
     simp only at c hx
     cases hx
     rw [c, tl]
   · rw [look_none] at hy
     · cases hy
     · intro w hw e
       rcases List.mem_cons.1 hw with rfl | hw
       · rw [e, lex_irrefl] at c; cases c
       · have := lex_trans c (a1 w hw)
         rw [e, lex_irrefl] at this; cases this
theorem tidy_lo {out : List World} {x : World} : ∀ y ∈ out.take (tidyK out x), lexB y.tags x.tags = true := by
 intro y hy
 have kl := tidyK_le out x
 obtain ⟨i, hi⟩ := List.mem_iff_getElem?.1 hy
 have il := (List.getElem?_eq_some_iff.1 hi).1
 rw [List.length_take] at il
 rw [List.getElem?_take_of_lt (by omega)] at hi
 have := tidyK_lt (out := out) (x := x) (k := i) (by omega)
 rwa [nth_eq hi] at this
theorem tidy_hi {out : List World} {x : World} (u : UpW out) (c : ¬ (tidyK out x < out.length ∧ (nth out (tidyK out x)).tags = x.tags)) : ∀ y ∈ out.drop (tidyK out x), lexB x.tags y.tags = true := by
 intro y hy
 obtain ⟨i, hi⟩ := List.mem_iff_getElem?.1 hy
 have il := (List.getElem?_eq_some_iff.1 hi).1
 rw [List.length_drop] at il
 rw [List.getElem?_drop] at hi
 have c1 : tidyK out x < out.length := by omega
 have at_ := tidyK_at c1
 have first_ : lexB x.tags (nth out (tidyK out x)).tags = true := by
  rcases lex_total (nth out (tidyK out x)).tags x.tags with a | a | a
  · rw [a] at at_; cases at_
  · exact absurd ⟨c1, a⟩ c
  · exact a
 by_cases i0 : i = 0
 · subst i0
   rw [Nat.add_zero] at hi
   rwa [nth_eq hi] at first_
 · have := (List.pairwise_iff_getElem.1 u) (tidyK out x) (tidyK out x + i) (by omega) (by omega) (by omega)
   rw [← nth_eq (List.getElem?_eq_getElem (by omega : tidyK out x < out.length)), ← nth_eq (List.getElem?_eq_getElem (by omega : tidyK out x + i < out.length)), nth_eq hi] at this
   exact lex_trans first_ this
def lookJ (x : World) : Option (List Wh) → List Wh
 | none => x.whr
 | some w => joinWs w x.whr
theorem tidy_look {m : Mine} (hm : m.ok) {first : List Int} {out : List World} (h : BV m first out) {x : World} (hx : WV m first x) (t : List Int) :
 lookW (tidy1 out x) t = if t = x.tags then some (lookJ x (lookW out t)) else lookW out t := by
 have bv := (tidy1_BV hm h hx).up
 have u := h.up
 unfold tidy1 at bv ⊢
 by_cases c : tidyK out x < out.length ∧ (nth out (tidyK out x)).tags = x.tags
 · rw [if_pos c] at bv ⊢
   obtain ⟨c1, c2⟩ := c
   have mk : nth out (tidyK out x) ∈ out := nth_mem c1
   have ms : (⟨x.tags, joinWs (nth out (tidyK out x)).whr x.whr⟩ : World) ∈ out.set (tidyK out x) ⟨x.tags, joinWs (nth out (tidyK out x)).whr x.whr⟩ :=
    List.mem_iff_getElem?.2 ⟨tidyK out x, List.getElem?_set_self c1⟩
   by_cases e : t = x.tags
   · rw [if_pos e, e, look_mem bv ms, ← c2, look_mem u mk]
     rfl
   · rw [if_neg e]
     rcases look_cases out t with ⟨w, hw, rfl⟩ | hn
     · rw [look_mem u hw]
       obtain ⟨i, hi⟩ := List.mem_iff_getElem?.1 hw
       refine look_mem bv (List.mem_iff_getElem?.2 ⟨i, ?_⟩)
       rw [List.getElem?_set_ne, hi]
       intro e2
       rw [← e2] at hi
       rw [nth_eq hi] at c2
       exact e c2
     · rw [look_none hn, look_none]
       intro w hw
       rcases List.mem_or_eq_of_mem_set hw with hw | rfl
       · exact hn w hw
       · exact fun e2 => e e2.symm
 · rw [if_neg c] at bv ⊢
   have lo := tidy_lo (out := out) (x := x)
   have hi := tidy_hi u c
   have td : out.take (tidyK out x) ++ out.drop (tidyK out x) = out := List.take_append_drop _ _
   have mem : ∀ w, w ∈ out.take (tidyK out x) ++ [x] ++ out.drop (tidyK out x) ↔ w = x ∨ w ∈ out := by
    intro w
    conv => rhs; rw [← td]
    simp only [List.mem_append, List.mem_singleton]
    constructor
    · rintro ((a | a) | a)
      · exact .inr (.inl a)
      · exact .inl a
      · exact .inr (.inr a)
    · rintro (a | a | a)
      · exact .inl (.inr a)
      · exact .inl (.inl a)
      · exact .inr a
   have nx : ∀ w ∈ out, w.tags ≠ x.tags := by
    intro w hw
    rw [← td] at hw
    rcases List.mem_append.1 hw with hw | hw
    · exact lex_ne (lo w hw)
    · exact fun e => lex_ne (hi w hw) e.symm
   by_cases e : t = x.tags
   · rw [if_pos e, e, look_none nx, look_mem bv ((mem x).2 (.inl rfl))]
     rfl
   · rw [if_neg e]
     rcases look_cases out t with ⟨w, hw, rfl⟩ | hn
     · rw [look_mem u hw, look_mem bv ((mem w).2 (.inr hw))]
     · rw [look_none hn, look_none]
       intro w hw
       rcases (mem w).1 hw with rfl | hw
       · exact fun e2 => e e2.symm
       · exact hn w hw
structure SH (n p : Nat) (l : List Wh) : Prop where
 ln : l.length = n
 fr : ∀ w ∈ l, w.frm.length = p
theorem wh_ext {a b : Wh} (ht : a.time = b.time) (hl : a.frm.length = b.frm.length) (h : ∀ j, j < a.frm.length → nth a.frm j = nth b.frm j) : a = b := by
 obtain ⟨t, f⟩ := a
 obtain ⟨t2, f2⟩ := b
 simp only at ht hl h
 rw [ht, ext_nthW hl h]
theorem joinF_is {a b : Wh} (h : a.frm.length = b.frm.length) : (joinF a b).1.time = max a.time b.time ∧ (joinF a b).1.frm.length = a.frm.length ∧ ∀ j, j < a.frm.length → nth (joinF a b).1.frm j = min (nth a.frm j) (nth b.frm j) := by
 unfold joinF
 rw [if_pos h]
 exact ⟨rfl, minN_len _ _ _, fun j hj => minN_nth a.frm b.frm a.frm.length j hj⟩
theorem joinN_at (a b : List Wh) : ∀ p, p ≤ a.length → ∀ i, i < p → nth (joinN a b p) i = (joinF (nth a i) (nth b i)).1
 | 0, _, i, h => by omega
 | p + 1, hp, i, h => by
   simp only [joinN]
   rw [set_nth _ _ (by rw [joinN_len]; omega)]
   split
   · rename_i e; rw [e]
   · exact joinN_at a b p (by omega) i (by omega)
theorem joinWs_SH {n p : Nat} {a b : List Wh} (ha : SH n p a) (hb : SH n p b) : SH n p (joinWs a b) ∧ ∀ i, i < n → nth (joinWs a b) i = (joinF (nth a i) (nth b i)).1 := by
 have l1 := ha.ln
 have l2 := hb.ln
 have e : joinWs a b = joinN a b n := by unfold joinWs; rw [l1, l2, Nat.min_self]
 have at_ := joinN_at a b n (by omega)
 rw [e]
 refine ⟨⟨by rw [joinN_len]; exact l1, fun w hw => ?_⟩, at_⟩
 obtain ⟨i, hi⟩ := List.mem_iff_getElem?.1 hw
 have il := (List.getElem?_eq_some_iff.1 hi).1
 rw [joinN_len] at il
 rw [← nth_eq hi, at_ i (by omega), (joinF_is (by rw [ha.fr _ (nth_mem (by omega)), hb.fr _ (nth_mem (by omega))])).2.1]
 exact ha.fr _ (nth_mem il)
theorem joinWs_comm {n p : Nat} {a b : List Wh} (ha : SH n p a) (hb : SH n p b) : joinWs a b = joinWs b a := by
 obtain ⟨s1, n1⟩ := joinWs_SH ha hb
 obtain ⟨s2, n2⟩ := joinWs_SH hb ha
 refine ext_nthW (by rw [s1.ln, s2.ln]) fun i hi => ?_
 rw [s1.ln] at hi
 rw [n1 i hi, n2 i hi]
 have fa := ha.fr _ (nth_mem (l := a) (j := i) (by rw [ha.ln]; exact hi))
 have fb := hb.fr _ (nth_mem (l := b) (j := i) (by rw [hb.ln]; exact hi))
 obtain ⟨t1, l1, m1⟩ := joinF_is (a := nth a i) (b := nth b i) (by rw [fa, fb])
 obtain ⟨t2, l2, m2⟩ := joinF_is (a := nth b i) (b := nth a i) (by rw [fa, fb])
 refine wh_ext (by rw [t1, t2]; omega) (by rw [l1, l2, fa, fb]) fun j hj => ?_
 rw [l1] at hj
 rw [m1 j hj, m2 j (by omega)]; omega
theorem joinWs_right {n p : Nat} {a b c : List Wh} (ha : SH n p a) (hb : SH n p b) (hc : SH n p c) : joinWs (joinWs a b) c = joinWs (joinWs a c) b := by
 obtain ⟨s1, n1⟩ := joinWs_SH ha hb
 obtain ⟨s2, n2⟩ := joinWs_SH ha hc
 obtain ⟨s3, n3⟩ := joinWs_SH s1 hc
 obtain ⟨s4, n4⟩ := joinWs_SH s2 hb
 refine ext_nthW (by rw [s3.ln, s4.ln]) fun i hi => ?_
 rw [s3.ln] at hi
 rw [n3 i hi, n4 i hi, n1 i hi, n2 i hi]
 have fa := ha.fr _ (nth_mem (l := a) (j := i) (by rw [ha.ln]; exact hi))
 have fb := hb.fr _ (nth_mem (l := b) (j := i) (by rw [hb.ln]; exact hi))
 have fc := hc.fr _ (nth_mem (l := c) (j := i) (by rw [hc.ln]; exact hi))
 obtain ⟨t1, l1, m1⟩ := joinF_is (a := nth a i) (b := nth b i) (by rw [fa, fb])
 obtain ⟨t2, l2, m2⟩ := joinF_is (a := nth a i) (b := nth c i) (by rw [fa, fc])
 obtain ⟨t3, l3, m3⟩ := joinF_is (a := (joinF (nth a i) (nth b i)).1) (b := nth c i) (by rw [l1, fa, fc])
 obtain ⟨t4, l4, m4⟩ := joinF_is (a := (joinF (nth a i) (nth c i)).1) (b := nth b i) (by rw [l2, fa, fb])
 refine wh_ext (by rw [t3, t4, t1, t2]; omega) (by rw [l3, l4, l1, l2]) fun j hj => ?_
 rw [l3, l1] at hj
 rw [m3 j (by omega), m4 j (by omega), m1 j (by omega), m2 j (by omega)]; omega
theorem WV.sh {m : Mine} {first : List Int} {x : World} (h : WV m first x) : SH first.length m.places.length x.whr :=
 ⟨h.wl, fun w hw => (validB_spec (h.wv w hw)).1⟩
theorem tidy1_comm {m : Mine} (hm : m.ok) {first : List Int} {out : List World} (h : BV m first out) {x y : World} (hx : WV m first x) (hy : WV m first y) : tidy1 (tidy1 out x) y = tidy1 (tidy1 out y) x := by
 have bx := tidy1_BV hm h hx
 have by_ := tidy1_BV hm h hy
 refine look_ext (tidy1_BV hm bx hy).up (tidy1_BV hm by_ hx).up fun t => ?_
 rw [tidy_look hm bx hy, tidy_look hm by_ hx, tidy_look hm h hx, tidy_look hm h hy]
 by_cases e1 : t = x.tags
 · by_cases e2 : t = y.tags
   · rw [if_pos e2, if_pos e1, if_pos e1, if_pos e2]
     congr 1
     have sx := hx.sh
     have sy := hy.sh
     cases hl : lookW out t with
     | none => exact joinWs_comm sx sy
     | some w =>
       obtain ⟨z, hz, -, rfl⟩ := look_some hl
       exact joinWs_right (h.wv z hz).sh sx sy
   · rw [if_neg e2, if_pos e1, if_pos e1, if_neg e2]
 · by_cases e2 : t = y.tags
   · rw [if_pos e2, if_neg e1, if_neg e1, if_pos e2]
   · rw [if_neg e2, if_neg e1, if_neg e1, if_neg e2]
theorem tidyN_fold (l : List World) : ∀ j, j ≤ l.length → tidyN l j = (l.take j).foldl tidy1 []
 | 0, _ => by simp [tidyN]
 | j + 1, h => by
   rw [take_nth (by omega), List.foldl_append]
   simp only [tidyN, tidyN_fold l j (by omega), List.foldl_cons, List.foldl_nil]
theorem tidyF_fold (l : List World) : tidyF l = l.foldl tidy1 [] := by
 unfold tidyF; rw [tidyN_fold l _ (Nat.le_refl _), List.take_length]
theorem fold_perm {m : Mine} (hm : m.ok) {first : List Int} {l l' : List World} (p : l.Perm l') : (∀ x ∈ l, WV m first x) → ∀ out, BV m first out → l.foldl tidy1 out = l'.foldl tidy1 out := by
 induction p with
 | nil => intro _ out _; rfl
 | cons x _ ih =>
   intro h out ho
   exact ih (fun y hy => h y (List.mem_cons_of_mem _ hy)) _ (tidy1_BV hm ho (h x List.mem_cons_self))
 | swap x y l =>
   intro h out ho
   simp only [List.foldl_cons]
   rw [tidy1_comm hm ho (h y List.mem_cons_self) (h x (List.mem_cons_of_mem _ List.mem_cons_self))]
 | trans p1 p2 ih1 ih2 =>
   intro h out ho
   rw [ih1 h out ho, ih2 (fun y hy => h y (p1.mem_iff.2 hy)) out ho]
theorem tidyF_perm {m : Mine} (hm : m.ok) {first : List Int} (pr : properB first = true) (f1 : 1 ≤ first.length) (f2 : first.length ≤ 12) {l l' : List World} (p : l.Perm l') (h : ∀ x ∈ l, WV m first x) : tidyF l = tidyF l' := by
 rw [tidyF_fold, tidyF_fold]
 exact fold_perm hm p h [] ⟨pr, f1, f2, (fun x hx => by cases hx), List.Pairwise.nil⟩
def lastW (out : List World) (x : World) : List World :=
 if 0 < out.length ∧ (nth out (out.length - 1)).tags = x.tags then out.set (out.length - 1) ⟨x.tags, joinWs (nth out (out.length - 1)).whr x.whr⟩ else out ++ [x]
theorem tidy1_last {out : List World} {x : World} (u : UpW out) (h : 0 < out.length → lexB x.tags (nth out (out.length - 1)).tags = false) : tidy1 out x = lastW out x := by
 have kl := tidyK_le out x
 by_cases h0 : 0 < out.length
 · have h := h h0
   have ge : out.length - 1 ≤ tidyK out x := by
    rcases Nat.lt_or_ge (tidyK out x) (out.length - 1) with c | c
    · exfalso
      have at_ := tidyK_at (out := out) (x := x) (by omega)
      have lt := (List.pairwise_iff_getElem.1 u) (tidyK out x) (out.length - 1) (by omega) (by omega) c
      rw [← nth_eq (List.getElem?_eq_getElem (by omega : tidyK out x < out.length)), ← nth_eq (List.getElem?_eq_getElem (by omega : out.length - 1 < out.length))] at lt
      rcases lex_total (nth out (out.length - 1)).tags x.tags with a | a | a
      · have := lex_trans lt a
        rw [at_] at this; cases this
      · rw [a] at lt; rw [at_] at lt; cases lt
      · rw [h] at a; cases a
    · exact c
   unfold tidy1 lastW
   by_cases e : tidyK out x = out.length - 1
   · rw [e]
     by_cases c : (nth out (out.length - 1)).tags = x.tags
     · rw [if_pos ⟨by omega, c⟩, if_pos ⟨h0, c⟩]
     · exfalso
       have at_ := tidyK_at (out := out) (x := x) (by omega)
       rw [e] at at_
       rcases lex_total (nth out (out.length - 1)).tags x.tags with a | a | a
       · rw [a] at at_; cases at_
       · exact c a
       · rw [h] at a; cases a
   · have e : tidyK out x = out.length := by omega
     rw [e]
     have : ¬ (out.length < out.length ∧ (nth out out.length).tags = x.tags) := fun h => by omega
     rw [if_neg this, List.take_length, List.drop_length, List.append_nil]
     have lt := tidyK_lt (out := out) (x := x) (k := out.length - 1) (by omega)
     rw [if_neg fun h => lex_ne lt h.2]
 · have e : out = [] := List.eq_nil_of_length_eq_zero (by omega)
   subst e
   unfold tidy1 lastW
   simp
end Go.Ev
namespace Go.Ev
open Go
variable [Lib] [Has1] [Has2] [Has3] [Has4] [Has5] [Has6] [Has7] [Has8] [Has9] [Has10] [Has11] [Has12] [Has13]
theorem Rp.more {H : Heap} {id : Nat} {es : List D} {fa fb : Nat → Nat} {out : List World} (hr : Rp H id es fa fb out) (t : Heap) : Rp (H ++ t) id es fa fb out :=
 ⟨by rw [hp_get (hp_lt hr.arr)]; exact hr.arr, hr.len, hr.el, fun j hj => by rw [hp_get (hp_lt (hr.ha j hj))]; exact hr.ha j hj, fun j hj => by rw [hp_get (hp_lt (hr.hb j hj))]; exact hr.hb j hj, hr.na, hr.nb, hr.nab, hr.nbb⟩
theorem nth_app1 {α : Type} [Dat α] (l : List α) (x : α) (j : Nat) : nth (l ++ [x]) j = if j < l.length then nth l j else if j = l.length then x else Dat.dflt := by
 unfold nth
 simp only [List.getD_eq_getElem?_getD]
 split
 · rw [List.getElem?_append_left (by assumption)]
 · split
   · rename_i e; rw [e, List.getElem?_append_right (Nat.le_refl _), Nat.sub_self]; rfl
   · rw [List.getElem?_eq_none (by simp; omega)]; rfl
theorem Rp.snoc {H : Heap} {id : Nat} {es : List D} {fa fb : Nat → Nat} {out : List World} (hr : Rp H id es fa fb out) (x : World) (o o2 : Obj) :
 Rp (H.set id (.arr 2 false 0 (es ++ [.agg [.ref (H.length + 1) 0 x.tags.length, .ref (H.length + 2) 0 x.whr.length]])) ++ [o, .arr 1 false 0 (ints x.tags), .arr 2 false 0 (whs x.whr), o2]) id
  (es ++ [.agg [.ref (H.length + 1) 0 x.tags.length, .ref (H.length + 2) 0 x.whr.length]]) (fun j => if j < out.length then fa j else H.length + 1) (fun j => if j < out.length then fb j else H.length + 2) (out ++ [x]) := by
 have e2 := hr.len
 have il := hp_lt hr.arr
 have ba : ∀ j, j < out.length → fa j < H.length := fun j hj => hp_lt (hr.ha j hj)
 have bb : ∀ j, j < out.length → fb j < H.length := fun j hj => hp_lt (hr.hb j hj)
 have sl : ∀ o, (H.set id o).length = H.length := fun o => List.length_set
 have getN : ∀ (o3 : Obj) (t : Heap) (k : Nat), (H.set id o3 ++ t)[H.length + k]? = t[k]? := fun o3 t k => by
  have := hp_get_add (H := H.set id o3) (t := t) (k := k)
  rwa [sl] at this
 refine ⟨by rw [hp_get (by rw [sl]; exact il), hp_set_get il], by simp [e2], ?_, ?_, ?_, ?_, ?_, ?_, ?_⟩
 · intro j hj
   rw [List.length_append, List.length_singleton] at hj
   rw [nth_app1]
   by_cases h : j < out.length
   · simp only [if_pos h]; rw [List.getElem?_append_left (by omega)]; exact hr.el j h
   · have : j = out.length := by omega
     subst this
     simp only [Nat.lt_irrefl, if_false, if_true]
     rw [List.getElem?_append_right (by omega), e2, Nat.sub_self]; rfl
 · intro j hj
   rw [List.length_append, List.length_singleton] at hj
   rw [nth_app1]
   by_cases h : j < out.length
   · simp only [if_pos h]; rw [hp_get (by rw [sl]; exact ba j h), hp_set_ne (fun e => hr.na j h e.symm)]; exact hr.ha j h
   · have : j = out.length := by omega
     subst this
     simp only [Nat.lt_irrefl, if_false, if_true]
     rw [getN]; rfl
 · intro j hj
   rw [List.length_append, List.length_singleton] at hj
   rw [nth_app1]
   by_cases h : j < out.length
   · simp only [if_pos h]; rw [hp_get (by rw [sl]; exact bb j h), hp_set_ne (fun e => hr.nb j h e.symm)]; exact hr.hb j h
   · have : j = out.length := by omega
     subst this
     simp only [Nat.lt_irrefl, if_false, if_true]
     rw [getN]; rfl
 · intro j hj; split
   · exact hr.na j (by assumption)
   · omega
 · intro j hj; split
   · exact hr.nb j (by assumption)
   · omega
 · intro i j hi hj; split
   · rename_i h1
     have := ba i h1
     split
     · exact hr.nab i j h1 (by assumption)
     · omega
   · split
     · rename_i h1
       have := bb j h1
       omega
     · omega
 · intro i j hi hj hne
   rw [List.length_append, List.length_singleton] at hi hj
   split
   · rename_i h1
     have := bb i h1
     split
     · exact hr.nbb i j h1 (by assumption) hne
     · omega
   · split
     · rename_i h1
       have := bb j h1
       omega
     · omega
abbrev tdS (s : List World) (id : Nat) (n : Nat) (j : Int) (H : Heap) : St :=
 ⟨[.und, .und, .und, .ref id 0 n, .und, .und, .und, .t (.sl (s.map World.e)), I s.length, I j, .und, .und], H⟩
theorem td_join (s : List World) (j : Int) (x : World) (hsx : x.sz) (out : List World) (ho : out.length ≤ 1000000) (h0 : 0 < out.length) (hso : ∀ x ∈ out, x.sz) (H : Heap) (id : Nat) (es : List D) (fa fb : Nat → Nat)
 (hr : Rp H id es fa fb out) (hl : x.whr.length = (nth out (out.length - 1)).whr.length) : ∀ z0 z1 z2 z6 : D,
 exS CALL K.worlds_Tidy_l2 ⟨[z0, z1, z2, .ref id 0 out.length, .bp H.length 0, I out.length, z6, .t (.sl (s.map World.e)), I s.length, I j, I x.whr.length, I 0], H ++ [.box [.t (tL x.tags), .t (.sl (x.whr.map Wh.e))]]⟩ =
 some (.exit 2, ⟨[.und, .und, .und, .ref id 0 out.length, .bp H.length 0, I out.length, .und, .t (.sl (s.map World.e)), I s.length, I j, I x.whr.length, I x.whr.length],
  H.set (fb (out.length - 1)) (.arr 2 false 0 (whs (joinWs (nth out (out.length - 1)).whr x.whr))) ++ [.box [.t (tL x.tags), .t (.sl (x.whr.map Wh.e))]]⟩) := by
 intro z0 z1 z2 z6
 have e1 := hr.arr
 have e2 := hr.len
 have e3 := hr.el (out.length - 1) (by omega)
 have e5 := hr.hb (out.length - 1) (by omega)
 have e6 := hr.nb (out.length - 1) (by omega)
 have e7 := hp_lt e5
 have e8 := hp_lt e1
 obtain ⟨s1, s2, s3⟩ := hso _ (nth_mem (l := out) (j := out.length - 1) (by omega))
 obtain ⟨x1, x2, x3⟩ := hsx
 have ej : joinWs (nth out (out.length - 1)).whr x.whr = joinN (nth out (out.length - 1)).whr x.whr x.whr.length := by unfold joinWs; rw [hl, Nat.min_self]
 rw [ej]
 have ci : (out.length : Int) - 1 = ((out.length - 1 : Nat) : Int) := by omega
 generalize nth out (out.length - 1) = y at *
 generalize out.length - 1 = k at *
 obtain ⟨ta, wa⟩ := y
 obtain ⟨tb, wb⟩ := x
 simp only at s1 s2 s3 x1 x2 x3 e3 e5 hl ⊢
 have jl := joinN_len wa wb
 have sl : ∀ o, (H.set (fb k) o).length = H.length := fun o => List.length_set
 have q1 : ∀ o, (H.set (fb k) o)[id]? = H[id]? := fun o => hp_set_ne e6
 have q2 : ∀ o, (H.set (fb k) o)[fb k]? = some o := fun o => hp_set_get e7
 have q3 : ∀ o (t : Heap), (H.set (fb k) o ++ t)[H.length]? = t[0]? := fun o t => by
  have := hp_get_len (H := H.set (fb k) o) (t := t)
  rwa [sl] at this
 have q4 : ∀ o (t : Heap), (H.set (fb k) o ++ t)[id]? = H[id]? := fun o t => by rw [hp_get (by rw [sl]; exact e8), q1]
 have q5 : ∀ o (t : Heap), (H.set (fb k) o ++ t)[fb k]? = some o := fun o t => by rw [hp_get (by rw [sl]; exact e7), q2]
 have q6 : ∀ o o2 (t : Heap), (H.set (fb k) o ++ t).set (fb k) o2 = H.set (fb k) o2 ++ t := fun o o2 t => by rw [hp_set (by rw [sl]; exact e7), hp_set_set]
 refine loop_up (fun p => ⟨[.und, .und, .und, .ref id 0 out.length, .bp H.length 0, I out.length, .und, .t (.sl (s.map World.e)), I s.length, I j, I wb.length, I p], H.set (fb k) (.arr 2 false 0 (whs (joinN wa wb p))) ++ [.box [.t (tL tb), .t (.sl (wb.map Wh.e))]]⟩) wb.length ?_ ?_ ?_ (by simp)
 · show (⟨_, H ++ _⟩ : St) = ⟨_, H.set (fb k) (.arr 2 false 0 (whs wa)) ++ _⟩
   rw [set_self e5]; rfl
 · intro p hp
   have jp := jl p
   have jn := joinN_nth wa wb p p (Nat.le_refl _)
   have jo := pjoin_ok (nth wa p) (nth wb p) (s3 _ (nth_mem (by omega)))
   have hj : joinN wa wb (p + 1) = (joinN wa wb p).set p (joinF (nth wa p) (nth wb p)).1 := rfl
   rw [hj]
   generalize joinN wa wb p = J at *
   generalize hu : nth wb p = u at *
   generalize nth wa p = w at *
   generalize joinF w u = r at *
   obtain ⟨⟨rt, rf⟩, re⟩ := r
   simp only at jo ⊢
   simp (disch := omega) only [go_sem, K.worlds_Tidy_l2b, ↓reduceIte, q3, q4, q5, q6, sl, e1, e2, e3, ci, hu, jn, jo, Nat.reduceAdd, Nat.reduceSub]
 · have jp := jl wb.length
   generalize joinN wa wb wb.length = J at *
   simp (disch := omega) only [go_sem, K.worlds_Tidy_l2b, ↓reduceIte, q3, q4, q5, q6, sl, Nat.reduceAdd, Nat.reduceSub]
theorem td_round (s : List World) (hsl : s.length ≤ 1000) {j : Nat} (hj : j < s.length) (hx : (nth s j).sz) (out : List World) (ho : out.length ≤ 100000) (hso : ∀ x ∈ out, x.sz) (H : Heap) (id : Nat) (es : List D) (fa fb : Nat → Nat)
 (hr : Rp H id es fa fb out) (hl : 0 < out.length → (nth s j).whr.length = (nth out (out.length - 1)).whr.length) :
 ∃ H' es' fa' fb', roundC false [0, 1, 2, 4, 5, 6, 10, 11] H.length (exS CALL K.worlds_Tidy_l1b (tdS s id out.length j H)) = some (tdS s id (lastW out (nth s j)).length ((j + 1 : Nat) : Int) H') ∧ Rp H' id es' fa' fb' (lastW out (nth s j)) := by
 have e1 := hr.arr
 have e2 := hr.len
 have e8 := hp_lt e1
 have ex : (s.map World.e)[j]? = some (nth s j).e := map_nth _ hj
 have cw := wCopy_ok (nth s j) hx
 by_cases c : 0 < out.length ∧ (nth out (out.length - 1)).tags = (nth s j).tags
 · obtain ⟨c0, ct⟩ := c
   have jo := td_join s j (nth s j) hx out (by omega) c0 hso H id es fa fb hr (hl c0)
   have s1 := (hso _ (nth_mem (l := out) (j := out.length - 1) (by omega))).1
   have sm := equal_ok (nth out (out.length - 1)).tags (nth s j).tags (by omega) (by have := hx.1; omega)
   simp only [ct, decide_true] at sm
   have e3 := hr.el (out.length - 1) (by omega)
   have e4 := hr.ha (out.length - 1) (by omega)
   have mg := (hr.merge (k := out.length - 1) (by omega) ⟨(nth s j).tags, joinWs (nth out (out.length - 1)).whr (nth s j).whr⟩ ct (joinN_len _ _ _)).more [.box [.t (tL (nth s j).tags), .t (.sl ((nth s j).whr.map Wh.e))]]
   have lw : lastW out (nth s j) = out.set (out.length - 1) ⟨(nth s j).tags, joinWs (nth out (out.length - 1)).whr (nth s j).whr⟩ := by unfold lastW; rw [if_pos ⟨c0, ct⟩]
   rw [lw]
   refine ⟨_, es, fa, fb, ?_, mg⟩
   have ci : (out.length : Int) - 1 = ((out.length - 1 : Nat) : Int) := by omega
   rw [List.length_set]
   generalize nth out (out.length - 1) = y at *
   generalize out.length - 1 = k at *
   obtain ⟨ta, wa⟩ := y
   simp only at ct
   subst ct
   generalize nth s j = x at *
   obtain ⟨tb, wb⟩ := x
   simp only [tdS, ints] at *
   have g4 : fa k < H.length := hp_lt e4
   simp (disch := omega) only [go_sem, K.worlds_Tidy_l1b, ↓reduceIte, ex, ci, sm, e1, e2, e3, e4, jo, hp_get, hp_get_len, hp_get_add, hp_set_len, hp_assoc, Nat.reduceAdd, Nat.reduceSub]
 · have lw : lastW out (nth s j) = out ++ [nth s j] := by unfold lastW; rw [if_neg c]
   rw [lw]
   refine ⟨_, _, _, _, ?_, hr.snoc (nth s j) (.box [.t (tL (nth s j).tags), .t (.sl ((nth s j).whr.map Wh.e))]) (.arr 2 false 0 [.agg [.ref (H.length + 1) 0 (nth s j).tags.length, .ref (H.length + 2) 0 (nth s j).whr.length]])⟩
   rw [List.length_append, List.length_singleton]
   by_cases c0 : 0 < out.length
   · have ct : ¬ (nth out (out.length - 1)).tags = (nth s j).tags := fun e => c ⟨c0, e⟩
     have s1 := (hso _ (nth_mem (l := out) (j := out.length - 1) (by omega))).1
     have sm := equal_ok (nth out (out.length - 1)).tags (nth s j).tags (by omega) (by have := hx.1; omega)
     simp only [ct, decide_false] at sm
     have e3 := hr.el (out.length - 1) (by omega)
     have e4 := hr.ha (out.length - 1) (by omega)
     have ci : (out.length : Int) - 1 = ((out.length - 1 : Nat) : Int) := by omega
     generalize nth out (out.length - 1) = y at *
     generalize out.length - 1 = k at *
     obtain ⟨ta, wa⟩ := y
     generalize nth s j = x at *
     obtain ⟨tb, wb⟩ := x
     simp only [tdS, ints] at *
     have g4 : fa k < H.length := hp_lt e4
     simp (disch := omega) only [go_sem, K.worlds_Tidy_l1b, ↓reduceIte, ex, ci, sm, e1, e2, e3, e4, cw, hp_get, hp_get_len, hp_get_add, hp_set, hp_set_len, hp_assoc, Nat.add_assoc, Bool.false_eq_true, whs, Nat.reduceAdd, Nat.reduceSub]
   · generalize nth s j = x at *
     obtain ⟨tb, wb⟩ := x
     simp only [tdS, ints] at *
     simp (disch := omega) only [go_sem, K.worlds_Tidy_l1b, ↓reduceIte, ex, e1, e2, cw, hp_get, hp_get_len, hp_get_add, hp_set, hp_set_len, hp_assoc, Nat.add_assoc, whs, Nat.reduceAdd, Nat.reduceSub]
theorem rp_frz7 {H : Heap} {id : Nat} {es : List D} {fa fb : Nat → Nat} {out : List World} (hr : Rp H id es fa fb out) : mapO (Go.Ev.frz H 7) es = some (out.map World.e) := by
 have hl := hr.len
 have key : ∀ (j : Nat) (hj : j < out.length), Go.Ev.frz H 7 (.agg [.ref (fa j) 0 (nth out j).tags.length, .ref (fb j) 0 (nth out j).whr.length]) = some (nth out j).e := by
  intro j hj
  have h1 := hr.ha j hj
  have h2 := hr.hb j hj
  simp (disch := omega) only [go_sem, h1, h2, ints, whs, ↓reduceIte]
 have : ∀ (es : List D) (ts : List T), es.length = ts.length → (∀ (j : Nat) e t, es[j]? = some e → ts[j]? = some t → Go.Ev.frz H 7 e = some t) → mapO (Go.Ev.frz H 7) es = some ts := by
  intro es
  induction es with
  | nil => intro ts h _; cases ts with
    | nil => rfl
    | cons => simp at h
  | cons e es ih =>
    intro ts h hh
    cases ts with
    | nil => simp at h
    | cons t ts =>
      have h1 := hh 0 e t rfl rfl
      have h2 := ih ts (by simpa using h) fun j e t he ht => hh (j + 1) e t (by simpa using he) (by simpa using ht)
      simp only [mapO, h1, Option.bind_some, h2, Option.map_some]
 refine this es _ (by rw [List.length_map, hl]) fun j e t he ht => ?_
 have hj : j < out.length := by rw [← hl]; exact (List.getElem?_eq_some_iff.1 he).1
 rw [hr.el j hj] at he
 rw [map_nth _ hj] at ht
 cases he; cases ht
 exact key j hj
theorem finish_frz {H : Heap} {id sz n : Nat} {pin : Bool} {es : List D} {ts : List T} (hid : H[id]? = some (.arr sz pin 0 es)) (hn : n = es.length) (hf : mapO (Go.Ev.frz H 7) es = some ts) : finish 0 0 H [.ref id 0 n] = some (.t (.sl ts), []) := by
 have e : Go.Ev.frz H depth (.ref id 0 n) = some (.sl ts) := by
  have ha : arrAt H id 0 n = some (sz, pin, es) := by simp only [arrAt, hid]; rw [if_pos ⟨trivial, hn⟩]
  show ((arrAt H id 0 n).bind fun a => mapO (Go.Ev.frz H 7) a.2.2).map T.sl = _
  rw [ha, Option.bind_some, hf]; rfl
 have o1 : [D.t (T.sl ts)].all (old 0 depth) = true := by simp [old]
 unfold finish
 simp only [if_true, mapO, argD, e, Option.map_some, Option.bind_some, o1, List.take_zero, List.all_nil, Bool.and_self, resArrs, Nat.zero_le, decide_true, tupOf]
 rw [if_pos (by simp)]
def tdP (s : List World) (j : Nat) (st : St) : Prop :=
 ∃ H es fa fb out, st = tdS s 1 out.length (j : Int) H ∧ Rp H 1 es fa fb out ∧ out = (s.take j).foldl lastW []
theorem lastW_WV {m : Mine} (hm : m.ok) {first : List Int} {out : List World} (h : ∀ y ∈ out, WV m first y) {x : World} (hx : WV m first x) : ∀ y ∈ lastW out x, WV m first y := by
 intro y hy
 unfold lastW at hy
 split at hy
 · rename_i c
   obtain ⟨c0, c1⟩ := c
   have wk := h _ (nth_mem (l := out) (j := out.length - 1) (by omega))
   have w1 := wk.wl
   have w2 := hx.wl
   rcases List.mem_or_eq_of_mem_set hy with a | rfl
   · exact h y a
   · exact ⟨hx.pm, by rw [joinWs, joinN_len]; exact w1, joinN_valid hm wk.wv hx.wv _ (by omega) (by omega)⟩
 · rcases List.mem_append.1 hy with hy | hy
   · exact h y hy
   · rw [List.mem_singleton.1 hy]; exact hx
theorem foldL_WV {m : Mine} (hm : m.ok) {first : List Int} {s : List World} (hs : ∀ x ∈ s, WV m first x) : ∀ j, j ≤ s.length → (∀ y ∈ (s.take j).foldl lastW [], WV m first y) ∧ ((s.take j).foldl lastW []).length ≤ j
 | 0, _ => ⟨fun y hy => by simp at hy, by simp⟩
 | j + 1, h => by
   obtain ⟨a, b⟩ := foldL_WV hm hs j (by omega)
   rw [take_nth (by omega), List.foldl_append]
   generalize (s.take j).foldl lastW [] = out at *
   simp only [List.foldl_cons, List.foldl_nil]
   refine ⟨lastW_WV hm a (hs _ (nth_mem (by omega))), ?_⟩
   unfold lastW
   split
   · rw [List.length_set]; omega
   · rw [List.length_append, List.length_singleton]; omega
theorem WV.wsz {m : Mine} (hm : m.ok) {first : List Int} (f2 : first.length ≤ 12) {x : World} (h : WV m first x) : x.sz := by
 have np := hm.np
 have l1 := h.pm.length_eq
 have l2 := h.wl
 exact ⟨by omega, by omega, fun w hw => by have := (validB_spec (h.wv w hw)).1; omega⟩
theorem foldL_tidy {m : Mine} (hm : m.ok) {first : List Int} (pr : properB first = true) (f1 : 1 ≤ first.length) (f2 : first.length ≤ 12) {s : List World} (hs : ∀ x ∈ s, WV m first x) (so : SrtW s) : ∀ j, j ≤ s.length →
 (s.take j).foldl lastW [] = (s.take j).foldl tidy1 [] ∧ BV m first ((s.take j).foldl tidy1 []) ∧ ∀ w ∈ (s.take j).foldl tidy1 [], ∃ k, k < j ∧ w.tags = (nth s k).tags
 | 0, _ => ⟨rfl, ⟨pr, f1, f2, (fun x hx => by cases hx), List.Pairwise.nil⟩, fun w hw => by simp at hw⟩
 | j + 1, h => by
   obtain ⟨e, bv, fr⟩ := foldL_tidy hm pr f1 f2 hs so j (by omega)
   rw [take_nth (by omega), List.foldl_append, List.foldl_append, e]
   simp only [List.foldl_cons, List.foldl_nil]
   have hx := hs _ (nth_mem (l := s) (j := j) (by omega))
   generalize (s.take j).foldl tidy1 [] = out at *
   refine ⟨(tidy1_last bv.up fun h0 => ?_).symm, tidy1_BV hm bv hx, fun w hw => ?_⟩
   · obtain ⟨k, hk, ek⟩ := fr _ (nth_mem (l := out) (j := out.length - 1) (by omega))
     rw [ek]
     have := (List.pairwise_iff_getElem.1 so) k j (by omega) (by omega) hk
     rwa [← nth_eq (List.getElem?_eq_getElem (by omega : k < s.length)), ← nth_eq (List.getElem?_eq_getElem (by omega : j < s.length))] at this
   · unfold tidy1 at hw
     split at hw
     · rcases List.mem_or_eq_of_mem_set hw with a | rfl
       · obtain ⟨k, hk, ek⟩ := fr w a; exact ⟨k, by omega, ek⟩
       · exact ⟨j, by omega, rfl⟩
     · simp only [List.mem_append, List.mem_singleton] at hw
       rcases hw with (hw | rfl) | hw
       · obtain ⟨k, hk, ek⟩ := fr w (List.mem_of_mem_take hw); exact ⟨k, by omega, ek⟩
       · exact ⟨j, by omega, rfl⟩
       · obtain ⟨k, hk, ek⟩ := fr w (List.mem_of_mem_drop hw); exact ⟨k, by omega, ek⟩
theorem wTidy_ok {m : Mine} (hm : m.ok) {first : List Int} (pr : properB first = true) (f1 : 1 ≤ first.length) (f2 : first.length ≤ 12) (l : List World) (hl : ∀ x ∈ l, WV m first x) (h0 : 0 < l.length) (h20 : l.length < 20) :
 CALL 0 N.worlds_Tidy [.t (.sl (l.map World.e))] [] = some (.t (.sl ((tidyF l).map World.e)), []) := by
 obtain ⟨s, hs, pm, so⟩ := sortedW_ok l (fun w hw => (hl w hw).wsz hm f2) h0 h20
 have hv := fun x hx => hl x (pm.mem_iff.1 hx)
 have ln := pm.length_eq
 have td : (s.take s.length).foldl lastW [] = tidyF l := by
  rw [(foldL_tidy hm pr f1 f2 hv so s.length (Nat.le_refl _)).1, List.take_length, ← tidyF_fold]
  exact tidyF_perm hm pr f1 f2 pm hv
 have loop : ∀ z0 z1 z2 z4 z5 z6 z10 z11 : D, ∃ q, exS CALL K.worlds_Tidy_l1 ⟨[z0, z1, z2, .ref 1 0 0, z4, z5, z6, .t (.sl (s.map World.e)), I s.length, I 0, z10, z11], [.box [.t (.sl (l.map World.e))], .arr 2 false 0 []]⟩ = some q ∧ ∃ H es fa fb, q = (.exit 0, tdS s 1 (tidyF l).length s.length H) ∧ Rp H 1 es fa fb (tidyF l) := by
  intro z0 z1 z2 z4 z5 z6 z10 z11
  refine loop_x (tdP s) s.length _ ?_ ?_ ?_
  · exact ⟨_, [], fun _ => 0, fun _ => 0, [], rfl, ⟨rfl, rfl, fun j hj => by simp at hj, fun j hj => by simp at hj, fun j hj => by simp at hj, fun j hj => by simp at hj, fun j hj => by simp at hj, fun i j hi => by simp at hi, fun i j hi => by simp at hi⟩, rfl⟩
  · rintro j st hj ⟨H, es, fa, fb, out, rfl, hr, ho⟩
    obtain ⟨a, b⟩ := foldL_WV hm hv j (by omega)
    rw [← ho] at a b
    have wx := hv _ (nth_mem (l := s) (j := j) hj)
    obtain ⟨H', es', fa', fb', r1, r2⟩ := td_round s (by omega) hj (wx.wsz hm f2) out (by omega) (fun x hx => (a x hx).wsz hm f2) H 1 es fa fb hr (fun h => by
     rw [wx.wl, (a _ (nth_mem (l := out) (j := out.length - 1) (by omega))).wl])
    refine .inl ⟨_, r1, H', es', fa', fb', _, rfl, r2, ?_⟩
    rw [take_nth hj, List.foldl_append, ← ho]; rfl
  · rintro st ⟨H, es, fa, fb, out, rfl, hr, ho⟩
    rw [td] at ho
    subst ho
    refine ⟨(.exit 0, tdS s 1 (tidyF l).length s.length H), ?_, by simp, H, es, fa, fb, rfl, hr⟩
    simp only [tdS]
    simp (disch := omega) only [go_sem, K.worlds_Tidy_l1b, ↓reduceIte, Nat.reduceAdd, Nat.reduceSub]
 refine CALL_of K.t_worlds_Tidy rfl ?_
 have va := valuesW_ok l
 obtain ⟨q, hq, H, es, fa, fb, rfl, hr⟩ := loop (.t (.sl (l.map World.e))) .nil (.t (.sl (s.map World.e))) .und .und .und .und .und
 have fin := finish_frz hr.arr hr.len.symm (rp_frz7 hr)
 simp only [tdS] at hq
 simp (disch := omega) only [go_sem, K.worlds_Tidy, ↓reduceIte, va, hs, hq, fin, Nat.reduceAdd, Nat.reduceSub]
end Go.Ev
namespace Go.Ev
open Go
variable [Lib] [Has1] [Has2] [Has3] [Has4] [Has5] [Has6] [Has7] [Has8] [Has9] [Has10] [Has11]
theorem swValid_ok {m : Mine} (h : m.ok) (b : Bel) (hs : b.sz) : CALL 0 N.swaps_Valid [.t m.e, .t b.e] [] = some (B (belB m b), []) := by
 rw [← pbel_bel]
 refine CALL_of K.t_swaps_Valid rfl ?_
 obtain ⟨h1, h2⟩ := hs
 have v := planValid_ok h
 obtain ⟨ws⟩ := b
 simp only at h1 h2
 have li := in_ok ws.length 1 24
 unfold pbelB
 simp only
 by_cases c : 1 ≤ ws.length ∧ ws.length ≤ 24
 · have li : CALL 0 N.lists_In [I ws.length, I 1, I 24] [] = some (B true, []) := by rw [li, decide_eq_true (by omega)]
   have e0 : (ws.map World.e)[0]? = some (nth ws 0).e := map_nth _ (by omega)
   have sz := (h2 _ (nth_mem (l := ws) (j := 0) (by omega))).1
   have loop := fun a b c d e => loop_find (gc := true) (dead := [0, 1, 4, 6, 7]) (c := K.swaps_Valid_l1b) (vs := [a, b, .bp 0 0, .bp 1 0, c, .t (tL (sortI (nth ws 0).tags)), d, e, .t (.sl (ws.map World.e)), I ws.length, I 0]) (H := [.box (mineCells m), .box [.t (.sl (ws.map World.e))], .box [.t (tL (nth ws 0).tags)]])
    (swS m ws (nth ws 0).tags) ws.length (fun j => !pwB m ws (nth ws 0).tags j) (fun _ q => q.1 = .ret ∧ q.2.vs[4]? = some (B false))
    (.exit 0, swS m ws (nth ws 0).tags ws.length) rfl
    (fun j hj hp => (pw_step h ws _ sz h2 j hj h1).1 (by simpa using hp))
    (fun j hj hp => by
     obtain ⟨q, q1, q2, q3⟩ := (pw_step h ws _ sz h2 j hj h1).2 (by simpa using hp)
     exact ⟨q, q1, by rw [q2]; simp, q2, q3⟩)
    (by simp (disch := omega) only [go_sem, K.swaps_Valid_l1b, swS, ↓reduceIte, Nat.reduceAdd, Nat.reduceSub]) (by simp)
   rw [find_all]
   have va := values_ok (nth ws 0).tags
   have so := sorted_ok (nth ws 0).tags sz
   have loop := loop (.t m.e) (.t (Bel.e ⟨ws⟩)) (B false) .und .und
   generalize nth ws 0 = x at *
   obtain ⟨first, whr⟩ := x
   simp only [swS] at *
   generalize sortI first = sf at *
   rcases loop with ⟨e1, e2⟩ | ⟨j, ⟨x, vs, H⟩, e1, e2, e3, e4⟩
   · have e2 : exS CALL K.swaps_Valid_l1 _ = _ := e2
     simp (disch := omega) only [go_sem, K.swaps_Valid, ↓reduceIte, v, li, e0, va, so, c, and_self, decide_true, Bool.true_and, e1, e2, Option.isNone, Nat.reduceAdd, Nat.reduceSub]
   · have e2 : exS CALL K.swaps_Valid_l1 _ = _ := e2
     simp only at e3 e4
     subst e3
     simp (disch := omega) only [go_sem, K.swaps_Valid, ↓reduceIte, v, li, e0, va, so, c, and_self, decide_true, Bool.true_and, e1, e2, Option.isNone, Nat.reduceAdd, Nat.reduceSub]
     simp (disch := omega) only [go_sem, getRes, e4, List.take_zero]
 · have li : CALL 0 N.lists_In [I ws.length, I 1, I 24] [] = some (B false, []) := by rw [li, decide_eq_false (by omega)]
   simp (disch := omega) only [go_sem, K.swaps_Valid, ↓reduceIte, v, li, c, decide_false, Bool.false_and, Nat.reduceAdd, Nat.reduceSub]
end Go.Ev
namespace Go.Ev
open Go
variable [Lib] [Has1] [Has2] [Has6] [Has7]
abbrev smMax : Int := 2147483648
section
variable {m : Mine} (h : m.ok) {fl : List Spn}
include h
end
end Go.Ev
namespace Go.Ev
open Go
def clP (m : Mine) (fl : List Spn) (y : List Int) : Prop := ∀ k, k < m.roads.length → ∀ back, 0 ≤ travelF (nth m.roads k) (nth fl k) back →
 nth y ((nth m.roads k).src back).toNat + travelF (nth m.roads k) (nth fl k) back ≤ smMax →
 nth y ((nth m.roads k).dst back).toNat ≤ nth y ((nth m.roads k).src back).toNat + travelF (nth m.roads k) (nth fl k) back
variable [Lib] [Has1] [Has2] [Has6] [Has7]
end Go.Ev
namespace Go.Ev
open Go
variable [Lib] [Has1] [Has2] [Has6] [Has7]
def tmOk (l : List Int) : Prop := ∀ x ∈ l, 0 ≤ x ∧ (x ≤ smMax ∨ x = 1099511627776)
theorem tmOk.bnd {l : List Int} (h : tmOk l) : bnd l := fun x hx => by have := h x hx; simp only [smMax] at this; omega
end Go.Ev
namespace Go.Ev
open Go
variable [Lib] [Has1] [Has2] [Has3] [Has4] [Has6] [Has7]
structure SGood (m : Mine) (fl : List Spn) (s : Wh) : Prop where
 ln : s.frm.length = m.places.length
 ti : inT s.time
 tm : tmOk s.frm
 lo : ∀ x ∈ s.frm, s.time ≤ x
 cl : clP m fl s.frm
theorem SGood.valid {m : Mine} {fl : List Spn} {s : Wh} (h : SGood m fl s) : validS m s = true := by
 simp only [validS, Bool.and_eq_true, decide_eq_true_eq, List.all_eq_true, List.mem_range]
 refine ⟨fun j hj => ?_, h.ln, h.ti⟩
 have a := h.tm _ (nth_mem hj)
 have b := h.lo _ (nth_mem hj)
 unfold plS
 simp only [smMax] at a
 omega
end Go.Ev
namespace Go.Ev
open Go
variable [Lib] [Has1] [Has2] [Has3] [Has4] [Has5] [Has6] [Has7] [Has8] [Has9] [Has10] [Has11]
section
variable {m : Mine} (hm : m.ok) (l : List Mch) (hl : l.length ≤ 1000) (hp : ∀ x ∈ l, x.pl.length ≤ 1000000) (s : Wh) (hs : s.frm.length ≤ 1000000) (b : Bel) (hb : b.sz) (t a : Int)
include hm hl hp hs hb
end
end Go.Ev
namespace Go.Ev
open Go
variable [Lib] [Has1] [Has2] [Has3] [Has4] [Has6] [Has7]
theorem some_x {d : Dice} (hd : d.light) (n : Nat) (hn : n ≤ 1000000) :
 ∃ (l : List Int) (e : Dice), CALL 0 N.made_Dice_Some [.bp 0 0, I n] [d.obj] = some (.t (tL l), [e.obj]) ∧ e.light ∧ l.length ≤ n :=
 ⟨_, _, some_ok d n hn hd, Dice.someN_light hd n, d.someN_len n⟩
end Go.Ev
namespace Go.Ev
open Go
variable [Lib] [Has1] [Has2]
def sh (s x : Int) : Int := if x < 1099511627776 then x + s else x
end Go.Ev
namespace Go.Ev
open Go
variable [Lib] [Has1] [Has2] [Has3] [Has4] [Has5] [Has6] [Has7] [Has8] [Has9]
theorem nth_snocL (l : List Int) (x : Int) {j : Nat} (hj : j < l.length) : nth (l ++ [x]) j = nth l j := by
 unfold nth; simp [List.getD_eq_getElem?_getD, List.getElem?_append_left hj]
def Trip (m : Mine) (A : List Int) (k : Nat) (back : Bool) (d e : Nat) : Prop := k < m.roads.length ∧ 0 ≤ walkT m k back 6 9 12 ∧ (e : Int) = d + max 1 (walkT m k back 6 9 12) ∧ (∀ τ, d ≤ τ → τ < e → nth A τ = (nth m.roads k).src back) ∧ nth A e = (nth m.roads k).dst back ∧ e < A.length
theorem Trip.snoc {m : Mine} {A : List Int} {k : Nat} {back : Bool} {d e : Nat} (h : Trip m A k back d e) (x : Int) : Trip m (A ++ [x]) k back d e := by
 obtain ⟨h1, h2, h3, h4, h5, h6⟩ := h
 refine ⟨h1, h2, h3, fun τ a b => ?_, ?_, by simp; omega⟩
 · rw [nth_snocL _ _ (by omega)]; exact h4 τ a b
 · rw [nth_snocL _ _ h6]; exact h5
end Go.Ev
namespace Go.Ev
open Go
variable [Lib] [Has1] [Has2] [Has3] [Has4] [Has5] [Has6] [Has7] [Has8] [Has9] [Has10] [Has11]
theorem see_bel {m : Mine} (hm : m.ok) {b : Bel} (hb : belB m b = true) (tag : Int) (l : List Int) (a c : Int) : belB m (seeBel m b tag l a c).1 = true := by
 unfold seeBel
 split
 · exact hb
 · split
   · exact hb
   · split
     · exact hb
     · rename_i h
       obtain ⟨ws⟩ := b
       have bv := see_BV hm (bel_BV hb) tag l a c
       have ln := seeNb_len m tag l a c ws ws.length
       obtain ⟨h1, h2, -⟩ := belB_spec hb
       simp only at h1 h2 h ⊢
       exact bv.bel (by omega) (by omega)
theorem abs_bel {m : Mine} (hm : m.ok) {b : Bel} (hb : belB m b = true) (tag : Int) (l : List Int) (a c bl : Int) : belB m (absBel m b tag l a c bl).1 = true := by
 unfold absBel
 split
 · exact hb
 · split
   · exact hb
   · obtain ⟨ws⟩ := b
     have bv := abs_BV hm (bel_BV hb) tag l a c bl
     have ln := absNb_len m tag l a c bl ws ws.length
     obtain ⟨h1, h2, -⟩ := belB_spec hb
     simp only at h1 h2 ⊢
     exact bv.bel (by omega) (by omega)
theorem exch_bel {m : Mine} (hm : m.ok) {b : Bel} (hb : belB m b = true) (i j t : Int) : belB m (exchBel m b i j t).1 = true := by
 unfold exchBel
 split
 · exact hb
 · split
   · exact hb
   · rename_i hij
     split
     · exact hb
     · split
       · exact hb
       · rename_i hl
         obtain ⟨ws⟩ := b
         have bv := bel_BV hb
         obtain ⟨h1, h2, -⟩ := belB_spec hb
         simp only at h1 h2 hl hij ⊢
         have nb := exchNb_WV hm bv.wv (i := i.toNat) (j := j.toNat) (by omega) (by omega) t ws.length (Nat.le_refl _)
         have el := exchNb_len i.toNat j.toNat t ws ws.length
         have tv := tidyN_BV hm bv.pr bv.f1 bv.f2 nb _ (Nat.le_refl _)
         refine BV.bel tv ?_ (Nat.not_lt.1 hl)
         have t1 : ∀ k, 1 ≤ k → 1 ≤ (tidyN (exchNb i.toNat j.toNat t ws ws.length) k).length := by
          intro k hk
          obtain ⟨k, rfl⟩ : ∃ k', k = k' + 1 := ⟨k - 1, by omega⟩
          exact (tidy1_len _ _).2.2
         exact t1 _ (by omega)
end Go.Ev
namespace Go.Ev
open Go
variable [Lib] [Has1] [Has2] [Has3] [Has4] [Has5] [Has6] [Has7] [Has8] [Has9] [Has10] [Has11] [Has12] [Has13]
theorem bearer_mem (l : List Int) (x : Int) : decide (x ∈ l) = decide (0 ≤ bearerF l x) := by
 rw [decide_eq_decide]
 unfold bearerF
 cases hf : (List.range l.length).find? (fun j => decide (nth l j = x)) with
 | some j =>
   obtain ⟨h1, h2⟩ := find_lt hf
   have h2 : nth l j = x := by simpa using h2
   refine ⟨fun _ => by simp, fun _ => ?_⟩
   rw [← h2]; exact nth_mem h1
 | none =>
   refine ⟨fun h => ?_, fun h => by simp at h⟩
   obtain ⟨j, hj⟩ := List.mem_iff_getElem?.1 h
   have h1 := (List.getElem?_eq_some_iff.1 hj).1
   have := List.find?_eq_none.1 hf j (List.mem_range.2 h1)
   rw [nth_eq hj] at this
   simp at this
theorem swSee1_ok {m : Mine} (h : m.ok) (h1 : 1 ≤ m.places.length) (w : Wh) (hl : w.frm.length ≤ 1000000) (l : List Int) (hp : l.length ≤ 1000000) (a c : Int) :
 CALL 0 N.swaps_See_1 [.t w.e, .bp 0 0, .bp 1 0, .bp 2 0, .bp 3 0] [.box (mineCells m), .box [.t (tL l)], .box [I a], .box [I c]] = some (.tup [.t (seeF m w l a c).1.e, I (seeF m w l a c).2], [.box (mineCells m), .box [.t (tL l)], .box [I a], .box [I c]]) := by
 refine CALL_of K.t_swaps_See_1 rfl ?_
 have g := psee_ok h h1 w hl l hp a c
 generalize (seeF m w l a c) = r at *
 obtain ⟨⟨t, f⟩, e⟩ := r
 obtain ⟨places, roads⟩ := m
 obtain ⟨time, frm⟩ := w
 simp only [mineCells] at *
 simp (disch := omega) only [go_sem, K.swaps_See_1, ↓reduceIte, g, Nat.reduceAdd, Nat.reduceSub]
abbrev swSeeH (m : Mine) (l : List Int) (a c : Int) (ws out : List World) : Heap := [.box (mineCells m), .box [.t (tL l)], .box [I a], .box [I c], .box (mineCells m), .box [.t (.sl (ws.map World.e))], .box [.nil], .box [.ref 8 0 out.length], .arr 2 false 0 ((out.map World.e).map .t)]
theorem swSee_round {m : Mine} (h : m.ok) (h1 : 1 ≤ m.places.length) (ws : List World) (hw : ws.length ≤ 1000000) (tag : Int) (l : List Int) (hp : l.length ≤ 1000000) (a c : Int) (i : Nat) (hi : i < ws.length) (hs : (nth ws i).sz)
 (hb : 0 ≤ bearerF (nth ws i).tags tag) (hb2 : bearerF (nth ws i).tags tag < (nth ws i).whr.length) (out : List World) (ho : out.length ≤ 1000000) :
 ((seeW m tag l a c (nth ws i)).2 ≠ 6 ∧ (seeW m tag l a c (nth ws i)).2 ≠ 8 → roundC true [0, 1, 4, 7, 9, 10, 11, 12, 13, 17, 18] 9 (exS CALL K.swaps_apply_l1b ⟨[.und, .und, I tag, .fn N.swaps_See_1 [.bp 0 0, .bp 1 0, .bp 2 0, .bp 3 0], .und, .bp 5 0, .bp 6 0, .und, .bp 7 0, .und, .und, .und, .und, .und, .t (.sl (ws.map World.e)), I ws.length, I i, .und, .und], swSeeH m l a c ws out⟩) =
   some ⟨[.und, .und, I tag, .fn N.swaps_See_1 [.bp 0 0, .bp 1 0, .bp 2 0, .bp 3 0], .und, .bp 5 0, .bp 6 0, .und, .bp 7 0, .und, .und, .und, .und, .und, .t (.sl (ws.map World.e)), I ws.length, I (i + 1), .und, .und], swSeeH m l a c ws (stepW tag (seeW m tag l a c (nth ws i)) (nth ws i) out)⟩) ∧
 ((seeW m tag l a c (nth ws i)).2 = 6 ∨ (seeW m tag l a c (nth ws i)).2 = 8 → ∃ vs H, exS CALL K.swaps_apply_l1b ⟨[.und, .und, I tag, .fn N.swaps_See_1 [.bp 0 0, .bp 1 0, .bp 2 0, .bp 3 0], .und, .bp 5 0, .bp 6 0, .und, .bp 7 0, .und, .und, .und, .und, .und, .t (.sl (ws.map World.e)), I ws.length, I i, .und, .und], swSeeH m l a c ws out⟩ =
   some (.ret, ⟨vs, H⟩) ∧ vs[6]? = some (.bp 6 0) ∧ vs[7]? = some (I (seeW m tag l a c (nth ws i)).2) ∧ H[6]? = some (.box [.t (.sl (ws.map World.e))]) ∧ H.take 4 = [.box (mineCells m), .box [.t (tL l)], .box [I a], .box [I c]]) := by
 unfold seeW stepW putW
 have c1 := wCopy_ok (nth ws i) hs
 have br : CALL 0 N.slices_Index_int_int [.t (tL (nth ws i).tags), I tag] [] = some (I (bearerF (nth ws i).tags tag), []) := index_ok (nth ws i).tags tag (by have := hs.1; omega)
 have s3 := hs.2.2 _ (nth_mem (l := (nth ws i).whr) (j := (bearerF (nth ws i).tags tag).toNat) (by omega))
 have se := swSee1_ok h h1 (nth (nth ws i).whr (bearerF (nth ws i).tags tag).toNat) s3 l hp a c
 generalize hx : nth ws i = x at *
 obtain ⟨tags, whr⟩ := x
 simp only at c1 br s3 se hb hb2 ⊢
 generalize bearerF tags tag = k at *
 generalize hy : nth whr k.toNat = y at *
 generalize (seeF m y l a c) = r at *
 obtain ⟨⟨time, frm⟩, e⟩ := r
 obtain ⟨t0, f0⟩ := y
 obtain ⟨s1, s2, -⟩ := hs
 obtain ⟨places, roads⟩ := m
 simp only [mineCells] at s1 s2 s3 se ⊢
 constructor
 · rintro ⟨n6, n8⟩
   by_cases e43 : e = 43
   · subst e43
     simp (disch := omega) only [go_sem, K.swaps_apply_l1b, ↓reduceIte, hx, hy, c1, br, se, Nat.reduceAdd, Nat.reduceSub]
   · by_cases e0 : e = 0
     · subst e0
       simp (disch := omega) only [go_sem, K.swaps_apply_l1b, ↓reduceIte, hx, hy, c1, br, se, Nat.reduceAdd, Nat.reduceSub]
       simp only [swSeeH, mineCells, List.length_append, List.length_singleton, List.map_append, List.map_cons, List.map_nil]
     · simp (disch := omega) only [go_sem, K.swaps_apply_l1b, ↓reduceIte, hx, hy, c1, br, se, Nat.reduceAdd, Nat.reduceSub]
       simp only [swSeeH, mineCells, List.length_append, List.length_singleton, List.map_append, List.map_cons, List.map_nil]
 · rintro (h68 | h68) <;> subst h68
   · simp (disch := omega) only [go_sem, K.swaps_apply_l1b, ↓reduceIte, hx, hy, c1, br, se, Nat.reduceAdd, Nat.reduceSub]
     exact ⟨_, _, rfl, rfl, rfl, rfl, rfl⟩
   · simp (disch := omega) only [go_sem, K.swaps_apply_l1b, ↓reduceIte, hx, hy, c1, br, se, Nat.reduceAdd, Nat.reduceSub]
     exact ⟨_, _, rfl, rfl, rfl, rfl, rfl⟩
theorem swSeeA_ok {m : Mine} (h : m.ok) (h1 : 1 ≤ m.places.length) (b : Bel) (hs : b.sz) (tag : Int) (l : List Int) (hp : l.length ≤ 1000000) (a c : Int) :
 CALL 0 N.swaps_apply [.t m.e, .t b.e, I tag, .fn N.swaps_See_1 [.bp 0 0, .bp 1 0, .bp 2 0, .bp 3 0]] [.box (mineCells m), .box [.t (tL l)], .box [I a], .box [I c]] = some (.tup [.t (seeBel m b tag l a c).1.e, I (seeBel m b tag l a c).2], [.box (mineCells m), .box [.t (tL l)], .box [I a], .box [I c]]) := by
 refine CALL_of K.t_swaps_apply rfl ?_
 have va := swValid_ok h b hs
 unfold seeBel
 by_cases hv : belB m b = true
 · have n1 : 1 ≤ b.worlds.length := (belB_spec hv).1
   have e0 : (b.worlds.map World.e)[0]? = some (nth b.worlds 0).e := map_nth _ (by omega)
   have ct := contains_ok (nth b.worlds 0).tags tag (by have := (hs.2 _ (nth_mem (l := b.worlds) (j := 0) (by omega))).1; omega)
   rw [bearer_mem] at ct
   by_cases c0 : borneF m b tag = 0
   · obtain ⟨-, bb⟩ := borne_0 c0
     rw [decide_eq_true (bb 0 (by omega)).1] at ct
     rw [if_neg (by simpa using c0)]
     obtain ⟨ws⟩ := b
     obtain ⟨s1, s2⟩ := hs
     simp only at s1 s2 bb va e0 ct ⊢
     rw [hv] at va
     have ln := seeNb_len m tag l a c ws
     have loop := fun x y z4 z7 z9 z10 z11 z12 z13 z17 z18 => loop_find (gc := true) (dead := [0, 1, 4, 7, 9, 10, 11, 12, 13, 17, 18]) (c := K.swaps_apply_l1b)
      (vs := [x, y, I tag, .fn N.swaps_See_1 [.bp 0 0, .bp 1 0, .bp 2 0, .bp 3 0], z4, .bp 5 0, .bp 6 0, z7, .bp 7 0, z9, z10, z11, z12, z13, .t (.sl (ws.map World.e)), I ws.length, I 0, z17, z18]) (H := swSeeH m l a c ws [])
      (fun i => ⟨[.und, .und, I tag, .fn N.swaps_See_1 [.bp 0 0, .bp 1 0, .bp 2 0, .bp 3 0], .und, .bp 5 0, .bp 6 0, .und, .bp 7 0, .und, .und, .und, .und, .und, .t (.sl (ws.map World.e)), I ws.length, I i, .und, .und], swSeeH m l a c ws (seeNb m tag l a c ws i)⟩) ws.length (seeBad m tag l a c ws)
      (fun i q => q.1 = .ret ∧ q.2.vs[6]? = some (.bp 6 0) ∧ q.2.vs[7]? = some (I (seeW m tag l a c (nth ws i)).2) ∧ q.2.H[6]? = some (.box [.t (.sl (ws.map World.e))]) ∧ q.2.H.take 4 = [.box (mineCells m), .box [.t (tL l)], .box [I a], .box [I c]])
      (.exit 0, ⟨[.und, .und, I tag, .fn N.swaps_See_1 [.bp 0 0, .bp 1 0, .bp 2 0, .bp 3 0], .und, .bp 5 0, .bp 6 0, .und, .bp 7 0, .und, .und, .und, .und, .und, .t (.sl (ws.map World.e)), I ws.length, I ws.length, .und, .und], swSeeH m l a c ws (seeNb m tag l a c ws ws.length)⟩) rfl
      (fun j hj hq => by
       have := ln j
       have hq : ¬ ((seeW m tag l a c (nth ws j)).2 = 6 ∨ (seeW m tag l a c (nth ws j)).2 = 8) := by simpa [seeBad] using hq
       obtain ⟨b1, b2⟩ := bb j hj
       have r := (swSee_round h h1 ws s1 tag l hp a c j hj (s2 _ (nth_mem hj)) b1 b2 (seeNb m tag l a c ws j) (by omega)).1 (by omega)
       simp only [seeNb]
       exact r)
      (fun j hj hq => by
       have := ln j
       have hq : (seeW m tag l a c (nth ws j)).2 = 6 ∨ (seeW m tag l a c (nth ws j)).2 = 8 := by simpa [seeBad] using hq
       obtain ⟨b1, b2⟩ := bb j hj
       obtain ⟨vs, H, q1, q2⟩ := (swSee_round h h1 ws s1 tag l hp a c j hj (s2 _ (nth_mem hj)) b1 b2 (seeNb m tag l a c ws j) (by omega)).2 hq
       exact ⟨_, q1, by simp, rfl, q2⟩)
      (by
       have := ln ws.length
       generalize seeNb m tag l a c ws ws.length = L at *
       simp (disch := omega) only [go_sem, K.swaps_apply_l1b, ↓reduceIte, swSeeH, Nat.reduceAdd, Nat.reduceSub]) (by simp)
     have loop' : ∀ x y z4 z7 z9 z10 z11 z12 z13 z17 z18, _ ∨ _ := loop
     clear loop
     rcases loop' (.t m.e) (.t (Bel.e ⟨ws⟩)) (.bp 4 0) (I 0) .und .und .und .und .und .und .und with ⟨e1, e2⟩ | ⟨j, ⟨x, vs, H⟩, e1, e2, e3, e4, e5, e6, e7⟩
     · have e2 : exS CALL K.swaps_apply_l1 _ = _ := e2
       simp only [swSeeH, List.map_nil, List.length_nil] at e2
       have := ln ws.length
       rw [e1]
       generalize seeNb m tag l a c ws ws.length = L at *
       obtain ⟨places, roads⟩ := m
       simp only [mineCells] at *
       generalize nth ws 0 = x at *
       obtain ⟨first, whr⟩ := x
       by_cases L0 : L.length = 0
       · simp (disch := omega) only [go_sem, K.swaps_apply, ↓reduceIte, va, e0, ct, e2, L0, Nat.reduceAdd, Nat.reduceSub]
       · simp (disch := omega) only [go_sem, K.swaps_apply, ↓reduceIte, va, e0, ct, e2, L0, Nat.reduceAdd, Nat.reduceSub]
     · have e2 : exS CALL K.swaps_apply_l1 _ = _ := e2
       simp only [swSeeH, List.map_nil, List.length_nil] at e2
       rw [e1]
       simp only at e3 e4 e5 e6 e7
       subst e3
       obtain ⟨places, roads⟩ := m
       simp only [mineCells] at *
       generalize nth ws 0 = x at *
       obtain ⟨first, whr⟩ := x
       simp (disch := omega) only [go_sem, K.swaps_apply, ↓reduceIte, va, e0, ct, e2, e4, e5, e6, e7, Nat.reduceAdd, Nat.reduceSub]
   · have c1 : ¬ 0 ≤ bearerF (nth b.worlds 0).tags tag := fun hh => c0 (by unfold borneF; rw [if_neg (by simp [hv]), if_neg (by omega)])
     have c2 : borneF m b tag = 41 := by unfold borneF; rw [if_neg (by simp [hv]), if_pos (by omega)]
     rw [decide_eq_false c1] at ct
     rw [if_pos c0, c2]
     rw [hv] at va
     obtain ⟨ws⟩ := b
     obtain ⟨places, roads⟩ := m
     simp only [mineCells] at *
     generalize nth ws 0 = x at *
     obtain ⟨first, whr⟩ := x
     simp (disch := omega) only [go_sem, K.swaps_apply, ↓reduceIte, va, e0, ct, Nat.reduceAdd, Nat.reduceSub]
 · have hv : belB m b = false := by simpa using hv
   have c2 : borneF m b tag = 6 := by unfold borneF; rw [if_pos hv]
   rw [if_pos (by omega), c2]
   rw [hv] at va
   obtain ⟨ws⟩ := b
   obtain ⟨places, roads⟩ := m
   simp only [mineCells] at *
   simp (disch := omega) only [go_sem, K.swaps_apply, ↓reduceIte, va, Nat.reduceAdd, Nat.reduceSub]
theorem swSee_ok {m : Mine} (h : m.ok) (h1 : 1 ≤ m.places.length) (b : Bel) (hs : b.sz) (tag : Int) (l : List Int) (hp : l.length ≤ 1000000) (a c : Int) :
 CALL 0 N.swaps_See [.t m.e, .t b.e, I tag, .t (tL l), I a, I c] [] = some (.tup [.t (seeBel m b tag l a c).1.e, I (seeBel m b tag l a c).2], []) := by
 refine CALL_of K.t_swaps_See rfl ?_
 have g := swSeeA_ok h h1 b hs tag l hp a c
 generalize seeBel m b tag l a c = r at *
 obtain ⟨⟨r1⟩, r2⟩ := r
 obtain ⟨places, roads⟩ := m
 obtain ⟨ws⟩ := b
 simp only [mineCells] at *
 simp (disch := omega) only [go_sem, K.swaps_See, ↓reduceIte, g, Nat.reduceAdd, Nat.reduceSub]
theorem askedF_43 (m : Mine) (w : Wh) (l : List Int) (a b : Int) : askedF m w l a b ≠ 43 := by
 unfold askedF
 repeat' split
 all_goals omega
theorem absW_43 (m : Mine) (tag : Int) (l : List Int) (a c bl : Int) (x : World) : (absW m tag l a c bl x).2 ≠ 43 := by
 unfold absW absF
 repeat' split
 all_goals first | exact askedF_43 _ _ _ _ _ | (simp only; omega)
theorem stepW_A {tag : Int} {r : Wh × Int} (h : r.2 ≠ 43) (x : World) (out : List World) : stepW tag r x out = stepA tag r x out := by
 unfold stepW stepA; rw [if_neg h]
theorem swAbsent1_ok {m : Mine} (h : m.ok) (h1 : 1 ≤ m.places.length) (w : Wh) (hl : w.frm.length ≤ 1000000) (l : List Int) (hp : l.length ≤ 1000000) (a c bl : Int) :
 CALL 0 N.swaps_Absent_1 [.t w.e, .bp 0 0, .bp 1 0, .bp 2 0, .bp 3 0, .bp 4 0] [.box (mineCells m), .box [.t (tL l)], .box [I a], .box [I c], .box [I bl]] = some (.tup [.t (absF m w l a c bl).1.e, I (absF m w l a c bl).2], [.box (mineCells m), .box [.t (tL l)], .box [I a], .box [I c], .box [I bl]]) := by
 refine CALL_of K.t_swaps_Absent_1 rfl ?_
 have g := pabs_ok h w hl l hp a c bl
 generalize (absF m w l a c bl) = r at *
 obtain ⟨⟨t, f⟩, e⟩ := r
 obtain ⟨places, roads⟩ := m
 obtain ⟨time, frm⟩ := w
 simp only [mineCells] at *
 simp (disch := omega) only [go_sem, K.swaps_Absent_1, ↓reduceIte, g, Nat.reduceAdd, Nat.reduceSub]
abbrev swAbsentH (m : Mine) (l : List Int) (a c bl : Int) (ws out : List World) : Heap := [.box (mineCells m), .box [.t (tL l)], .box [I a], .box [I c], .box [I bl], .box (mineCells m), .box [.t (.sl (ws.map World.e))], .box [.nil], .box [.ref 9 0 out.length], .arr 2 false 0 ((out.map World.e).map .t)]
theorem swAbsent_round {m : Mine} (h : m.ok) (h1 : 1 ≤ m.places.length) (ws : List World) (hw : ws.length ≤ 1000000) (tag : Int) (l : List Int) (hp : l.length ≤ 1000000) (a c bl : Int) (i : Nat) (hi : i < ws.length) (hs : (nth ws i).sz)
 (hb : 0 ≤ bearerF (nth ws i).tags tag) (hb2 : bearerF (nth ws i).tags tag < (nth ws i).whr.length) (out : List World) (ho : out.length ≤ 1000000) :
 ((absW m tag l a c bl (nth ws i)).2 ≠ 6 ∧ (absW m tag l a c bl (nth ws i)).2 ≠ 8 → roundC true [0, 1, 4, 7, 9, 10, 11, 12, 13, 17, 18] 10 (exS CALL K.swaps_apply_l1b ⟨[.und, .und, I tag, .fn N.swaps_Absent_1 [.bp 0 0, .bp 1 0, .bp 2 0, .bp 3 0, .bp 4 0], .und, .bp 6 0, .bp 7 0, .und, .bp 8 0, .und, .und, .und, .und, .und, .t (.sl (ws.map World.e)), I ws.length, I i, .und, .und], swAbsentH m l a c bl ws out⟩) =
   some ⟨[.und, .und, I tag, .fn N.swaps_Absent_1 [.bp 0 0, .bp 1 0, .bp 2 0, .bp 3 0, .bp 4 0], .und, .bp 6 0, .bp 7 0, .und, .bp 8 0, .und, .und, .und, .und, .und, .t (.sl (ws.map World.e)), I ws.length, I (i + 1), .und, .und], swAbsentH m l a c bl ws (stepW tag (absW m tag l a c bl (nth ws i)) (nth ws i) out)⟩) ∧
 ((absW m tag l a c bl (nth ws i)).2 = 6 ∨ (absW m tag l a c bl (nth ws i)).2 = 8 → ∃ vs H, exS CALL K.swaps_apply_l1b ⟨[.und, .und, I tag, .fn N.swaps_Absent_1 [.bp 0 0, .bp 1 0, .bp 2 0, .bp 3 0, .bp 4 0], .und, .bp 6 0, .bp 7 0, .und, .bp 8 0, .und, .und, .und, .und, .und, .t (.sl (ws.map World.e)), I ws.length, I i, .und, .und], swAbsentH m l a c bl ws out⟩ =
   some (.ret, ⟨vs, H⟩) ∧ vs[6]? = some (.bp 7 0) ∧ vs[7]? = some (I (absW m tag l a c bl (nth ws i)).2) ∧ H[7]? = some (.box [.t (.sl (ws.map World.e))]) ∧ H.take 5 = [.box (mineCells m), .box [.t (tL l)], .box [I a], .box [I c], .box [I bl]]) := by
 unfold absW stepW putW
 have c1 := wCopy_ok (nth ws i) hs
 have br : CALL 0 N.slices_Index_int_int [.t (tL (nth ws i).tags), I tag] [] = some (I (bearerF (nth ws i).tags tag), []) := index_ok (nth ws i).tags tag (by have := hs.1; omega)
 have s3 := hs.2.2 _ (nth_mem (l := (nth ws i).whr) (j := (bearerF (nth ws i).tags tag).toNat) (by omega))
 have se := swAbsent1_ok h h1 (nth (nth ws i).whr (bearerF (nth ws i).tags tag).toNat) s3 l hp a c bl
 generalize hx : nth ws i = x at *
 obtain ⟨tags, whr⟩ := x
 simp only at c1 br s3 se hb hb2 ⊢
 generalize bearerF tags tag = k at *
 generalize hy : nth whr k.toNat = y at *
 generalize (absF m y l a c bl) = r at *
 obtain ⟨⟨time, frm⟩, e⟩ := r
 obtain ⟨t0, f0⟩ := y
 obtain ⟨s1, s2, -⟩ := hs
 obtain ⟨places, roads⟩ := m
 simp only [mineCells] at s1 s2 s3 se ⊢
 constructor
 · rintro ⟨n6, n8⟩
   by_cases e43 : e = 43
   · subst e43
     simp (disch := omega) only [go_sem, K.swaps_apply_l1b, ↓reduceIte, hx, hy, c1, br, se, Nat.reduceAdd, Nat.reduceSub]
   · by_cases e0 : e = 0
     · subst e0
       simp (disch := omega) only [go_sem, K.swaps_apply_l1b, ↓reduceIte, hx, hy, c1, br, se, Nat.reduceAdd, Nat.reduceSub]
       simp only [swAbsentH, mineCells, List.length_append, List.length_singleton, List.map_append, List.map_cons, List.map_nil]
     · simp (disch := omega) only [go_sem, K.swaps_apply_l1b, ↓reduceIte, hx, hy, c1, br, se, Nat.reduceAdd, Nat.reduceSub]
       simp only [swAbsentH, mineCells, List.length_append, List.length_singleton, List.map_append, List.map_cons, List.map_nil]
 · rintro (h68 | h68) <;> subst h68
   · simp (disch := omega) only [go_sem, K.swaps_apply_l1b, ↓reduceIte, hx, hy, c1, br, se, Nat.reduceAdd, Nat.reduceSub]
     exact ⟨_, _, rfl, rfl, rfl, rfl, rfl⟩
   · simp (disch := omega) only [go_sem, K.swaps_apply_l1b, ↓reduceIte, hx, hy, c1, br, se, Nat.reduceAdd, Nat.reduceSub]
     exact ⟨_, _, rfl, rfl, rfl, rfl, rfl⟩
theorem swAbsentA_ok {m : Mine} (h : m.ok) (h1 : 1 ≤ m.places.length) (b : Bel) (hs : b.sz) (tag : Int) (l : List Int) (hp : l.length ≤ 1000000) (a c bl : Int) :
 CALL 0 N.swaps_apply [.t m.e, .t b.e, I tag, .fn N.swaps_Absent_1 [.bp 0 0, .bp 1 0, .bp 2 0, .bp 3 0, .bp 4 0]] [.box (mineCells m), .box [.t (tL l)], .box [I a], .box [I c], .box [I bl]] = some (.tup [.t (absBel m b tag l a c bl).1.e, I (absBel m b tag l a c bl).2], [.box (mineCells m), .box [.t (tL l)], .box [I a], .box [I c], .box [I bl]]) := by
 refine CALL_of K.t_swaps_apply rfl ?_
 have va := swValid_ok h b hs
 unfold absBel
 by_cases hv : belB m b = true
 · have n1 : 1 ≤ b.worlds.length := (belB_spec hv).1
   have e0 : (b.worlds.map World.e)[0]? = some (nth b.worlds 0).e := map_nth _ (by omega)
   have ct := contains_ok (nth b.worlds 0).tags tag (by have := (hs.2 _ (nth_mem (l := b.worlds) (j := 0) (by omega))).1; omega)
   rw [bearer_mem] at ct
   by_cases c0 : borneF m b tag = 0
   · obtain ⟨-, bb⟩ := borne_0 c0
     rw [decide_eq_true (bb 0 (by omega)).1] at ct
     rw [if_neg (by simpa using c0)]
     obtain ⟨ws⟩ := b
     obtain ⟨s1, s2⟩ := hs
     simp only at s1 s2 bb va e0 ct ⊢
     rw [hv] at va
     have ln := absNb_len m tag l a c bl ws
     have loop := fun x y z4 z7 z9 z10 z11 z12 z13 z17 z18 => loop_find (gc := true) (dead := [0, 1, 4, 7, 9, 10, 11, 12, 13, 17, 18]) (c := K.swaps_apply_l1b)
      (vs := [x, y, I tag, .fn N.swaps_Absent_1 [.bp 0 0, .bp 1 0, .bp 2 0, .bp 3 0, .bp 4 0], z4, .bp 6 0, .bp 7 0, z7, .bp 8 0, z9, z10, z11, z12, z13, .t (.sl (ws.map World.e)), I ws.length, I 0, z17, z18]) (H := swAbsentH m l a c bl ws [])
      (fun i => ⟨[.und, .und, I tag, .fn N.swaps_Absent_1 [.bp 0 0, .bp 1 0, .bp 2 0, .bp 3 0, .bp 4 0], .und, .bp 6 0, .bp 7 0, .und, .bp 8 0, .und, .und, .und, .und, .und, .t (.sl (ws.map World.e)), I ws.length, I i, .und, .und], swAbsentH m l a c bl ws (absNb m tag l a c bl ws i)⟩) ws.length (absBad m tag l a c bl ws)
      (fun i q => q.1 = .ret ∧ q.2.vs[6]? = some (.bp 7 0) ∧ q.2.vs[7]? = some (I (absW m tag l a c bl (nth ws i)).2) ∧ q.2.H[7]? = some (.box [.t (.sl (ws.map World.e))]) ∧ q.2.H.take 5 = [.box (mineCells m), .box [.t (tL l)], .box [I a], .box [I c], .box [I bl]])
      (.exit 0, ⟨[.und, .und, I tag, .fn N.swaps_Absent_1 [.bp 0 0, .bp 1 0, .bp 2 0, .bp 3 0, .bp 4 0], .und, .bp 6 0, .bp 7 0, .und, .bp 8 0, .und, .und, .und, .und, .und, .t (.sl (ws.map World.e)), I ws.length, I ws.length, .und, .und], swAbsentH m l a c bl ws (absNb m tag l a c bl ws ws.length)⟩) rfl
      (fun j hj hq => by
       have := ln j
       have hq : ¬ ((absW m tag l a c bl (nth ws j)).2 = 6 ∨ (absW m tag l a c bl (nth ws j)).2 = 8) := by simpa [absBad] using hq
       obtain ⟨b1, b2⟩ := bb j hj
       have r := (swAbsent_round h h1 ws s1 tag l hp a c bl j hj (s2 _ (nth_mem hj)) b1 b2 (absNb m tag l a c bl ws j) (by omega)).1 (by omega)
       rw [stepW_A (absW_43 _ _ _ _ _ _ _)] at r
       exact r)
      (fun j hj hq => by
       have := ln j
       have hq : (absW m tag l a c bl (nth ws j)).2 = 6 ∨ (absW m tag l a c bl (nth ws j)).2 = 8 := by simpa [absBad] using hq
       obtain ⟨b1, b2⟩ := bb j hj
       obtain ⟨vs, H, q1, q2⟩ := (swAbsent_round h h1 ws s1 tag l hp a c bl j hj (s2 _ (nth_mem hj)) b1 b2 (absNb m tag l a c bl ws j) (by omega)).2 hq
       exact ⟨_, q1, by simp, rfl, q2⟩)
      (by
       have := ln ws.length
       generalize absNb m tag l a c bl ws ws.length = L at *
       simp (disch := omega) only [go_sem, K.swaps_apply_l1b, ↓reduceIte, swAbsentH, Nat.reduceAdd, Nat.reduceSub]) (by simp)
     have loop' : ∀ x y z4 z7 z9 z10 z11 z12 z13 z17 z18, _ ∨ _ := loop
     clear loop
     rcases loop' (.t m.e) (.t (Bel.e ⟨ws⟩)) (.bp 5 0) (I 0) .und .und .und .und .und .und .und with ⟨e1, e2⟩ | ⟨j, ⟨x, vs, H⟩, e1, e2, e3, e4, e5, e6, e7⟩
     · have e2 : exS CALL K.swaps_apply_l1 _ = _ := e2
       simp only [swAbsentH, List.map_nil, List.length_nil] at e2
       have := ln ws.length
       rw [e1]
       generalize absNb m tag l a c bl ws ws.length = L at *
       obtain ⟨places, roads⟩ := m
       simp only [mineCells] at *
       generalize nth ws 0 = x at *
       obtain ⟨first, whr⟩ := x
       have L1 : L.length ≠ 0 := by omega
       simp (disch := omega) only [go_sem, K.swaps_apply, ↓reduceIte, va, e0, ct, e2, L1, Nat.reduceAdd, Nat.reduceSub]
     · have e2 : exS CALL K.swaps_apply_l1 _ = _ := e2
       simp only [swAbsentH, List.map_nil, List.length_nil] at e2
       rw [e1]
       simp only at e3 e4 e5 e6 e7
       subst e3
       obtain ⟨places, roads⟩ := m
       simp only [mineCells] at *
       generalize nth ws 0 = x at *
       obtain ⟨first, whr⟩ := x
       simp (disch := omega) only [go_sem, K.swaps_apply, ↓reduceIte, va, e0, ct, e2, e4, e5, e6, e7, Nat.reduceAdd, Nat.reduceSub]
   · have c1 : ¬ 0 ≤ bearerF (nth b.worlds 0).tags tag := fun hh => c0 (by unfold borneF; rw [if_neg (by simp [hv]), if_neg (by omega)])
     have c2 : borneF m b tag = 41 := by unfold borneF; rw [if_neg (by simp [hv]), if_pos (by omega)]
     rw [decide_eq_false c1] at ct
     rw [if_pos c0, c2]
     rw [hv] at va
     obtain ⟨ws⟩ := b
     obtain ⟨places, roads⟩ := m
     simp only [mineCells] at *
     generalize nth ws 0 = x at *
     obtain ⟨first, whr⟩ := x
     simp (disch := omega) only [go_sem, K.swaps_apply, ↓reduceIte, va, e0, ct, Nat.reduceAdd, Nat.reduceSub]
 · have hv : belB m b = false := by simpa using hv
   have c2 : borneF m b tag = 6 := by unfold borneF; rw [if_pos hv]
   rw [if_pos (by omega), c2]
   rw [hv] at va
   obtain ⟨ws⟩ := b
   obtain ⟨places, roads⟩ := m
   simp only [mineCells] at *
   simp (disch := omega) only [go_sem, K.swaps_apply, ↓reduceIte, va, Nat.reduceAdd, Nat.reduceSub]
theorem swAbsent_ok {m : Mine} (h : m.ok) (h1 : 1 ≤ m.places.length) (b : Bel) (hs : b.sz) (tag : Int) (l : List Int) (hp : l.length ≤ 1000000) (a c bl : Int) :
 CALL 0 N.swaps_Absent [.t m.e, .t b.e, I tag, .t (tL l), I a, I c, I bl] [] = some (.tup [.t (absBel m b tag l a c bl).1.e, I (absBel m b tag l a c bl).2], []) := by
 refine CALL_of K.t_swaps_Absent rfl ?_
 have g := swAbsentA_ok h h1 b hs tag l hp a c bl
 generalize absBel m b tag l a c bl = r at *
 obtain ⟨⟨r1⟩, r2⟩ := r
 obtain ⟨places, roads⟩ := m
 obtain ⟨ws⟩ := b
 simp only [mineCells] at *
 simp (disch := omega) only [go_sem, K.swaps_Absent, ↓reduceIte, g, Nat.reduceAdd, Nat.reduceSub]
theorem meet1_ok (l : List Int) (hl : l.length ≤ 1000000) (x : Int) : CALL 0 N.swaps_meet_1 [I x, .bp 0 0] [.box [.t (tL l)]] = some (B (decide (x ∈ l)), [.box [.t (tL l)]]) := by
 refine CALL_of K.t_swaps_meet_1 rfl ?_
 have g := contains_ok l x (by omega)
 simp (disch := omega) only [go_sem, K.swaps_meet_1, ↓reduceIte, g, Nat.reduceAdd, Nat.reduceSub]
theorem meetB_is (a b : Wh) (t : Int) : meetB a b t = (possF a t).any fun x => decide (x ∈ possF b t) := by
 rw [Bool.eq_iff_iff, List.any_eq_true]
 unfold meetB
 rw [List.any_eq_true]
 constructor
 · rintro ⟨p, h1, h2⟩
   have h1 := List.mem_range.1 h1
   have h2 := of_decide_eq_true h2
   exact ⟨p, mem_whereF.2 ⟨p, rfl, by omega, decide_eq_true h2.1⟩, decide_eq_true (mem_whereF.2 ⟨p, rfl, by omega, decide_eq_true h2.2⟩)⟩
 · rintro ⟨x, h1, h2⟩
   obtain ⟨p, rfl, h3, h4⟩ := mem_whereF.1 h1
   obtain ⟨q, e, h5, h6⟩ := mem_whereF.1 (of_decide_eq_true h2)
   have e : p = q := by omega
   subst e
   exact ⟨p, List.mem_range.2 (by omega), decide_eq_true ⟨of_decide_eq_true h4, of_decide_eq_true h6⟩⟩
theorem smeet_ok (a b : Wh) (t : Int) (ha : a.frm.length ≤ 1000000) (hb : b.frm.length ≤ 1000000) : CALL 0 N.swaps_meet [.t a.e, .t b.e, I t] [] = some (B (meetB a b t), []) := by
 refine CALL_of K.t_swaps_meet rfl ?_
 have p1 := plposs_ok a t ha
 have p2 := plposs_ok b t hb
 have l1 := possF_len a t
 have l2 := possF_len b t
 have cf : CALL 0 N.slices_ContainsFunc_int_int [.t (tL (possF a t)), .fn N.swaps_meet_1 [.bp 0 0]] [.box [.t (tL (possF b t))]] = some (B ((possF a t).any fun x => decide (x ∈ possF b t)), [.box [.t (tL (possF b t))]]) :=
  containsFunc_ok (possF a t) (by omega) N.swaps_meet_1 [[tL (possF b t)]] _ fun x hx => meet1_ok _ (by omega) x
 rw [meetB_is]
 generalize possF a t = pa at *
 generalize possF b t = pb at *
 obtain ⟨t1, f1⟩ := a
 obtain ⟨t2, f2⟩ := b
 simp only at *
 simp (disch := omega) only [go_sem, K.swaps_meet, ↓reduceIte, p1, p2, cf, Nat.reduceAdd, Nat.reduceSub]
theorem cloneW_ok (l : List World) (h0 : 0 < l.length) (hl : l.length ≤ 1000000) : CALL 1 N.slices_Clone_api_World_api_World [.t (.sl (l.map World.e))] [] = some (.ref 0 0 l.length, [.arr 2 false 0 ((l.map World.e).map .t)]) := by
 refine CALL_of K.t_slices_Clone_api_World_api_World rfl ?_
 have e := fun H => opEqk_sl H (l.map World.e) (by intro h; rw [List.map_eq_nil_iff] at h; rw [h] at h0; simp at h0)
 simp (disch := omega) only [go_sem, K.slices_Clone_api_World_api_World, ↓reduceIte, e, Nat.reduceAdd, Nat.reduceSub]
end Go.Ev
