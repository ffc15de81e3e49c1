/- Parts of the proof: see the text that holds the theorem. -/
import Derived.Test.YtgeclpmbbaimgaaZ5
set_option linter.all false
set_option maxRecDepth 100000
/- Made inputs: beliefs. -/
namespace Go.Ev
open Go
variable [Lib] [Has1] [Has2]

def tagsN : Nat → List Int
  | 0 => []
  | k + 1 => tagsN k ++ [3 + (k : Int) * 2]
def Dice.nextsN (d : Dice) (n : Int) : Nat → List Int × Dice
  | 0 => ([], d)
  | k + 1 => ((d.nextsN n k).1 ++ [((d.nextsN n k).2.next n).1], ((d.nextsN n k).2.next n).2)
structure BSt where
  b : Bel
  t : Int
  d : Dice

def Dice.belStep (m : Mine) (n : Int) (s : BSt) : BSt :=
  let a := s.d.next 60
  let c := a.2.next 3
  if c.1 = 0 then
    let i := c.2.next n
    let j := i.2.next n
    let r := exchBel m s.b i.1 j.1 (s.t + a.1)
    ⟨if r.2 = 0 then r.1 else s.b, s.t + a.1, j.2⟩
  else if c.1 = 1 then
    let g := c.2.next n
    let l := g.2.someN m.places.length
    let e := l.2.next 9
    let r := seeBel m s.b (3 + 2 * g.1) l.1 (s.t + a.1) (s.t + a.1 + e.1)
    ⟨if r.2 = 0 then r.1 else s.b, s.t + a.1, e.2⟩
  else
    let g := c.2.next n
    let l := g.2.someN m.places.length
    let e := l.2.next 40
    let r := absBel m s.b (3 + 2 * g.1) l.1 (s.t + a.1) (s.t + a.1 + 50) e.1
    ⟨if r.2 = 0 then r.1 else s.b, s.t + a.1, e.2⟩
def Dice.belN (m : Mine) (n : Int) (s : BSt) : Nat → BSt
  | 0 => s
  | k + 1 => Dice.belStep m n (Dice.belN m n s k)

def Dice.belP (d : Dice) : Nat := (1 + (d.next 3).1).toNat
def Dice.belS (d : Dice) (m : Mine) : List Int × Dice := (d.next 3).2.nextsN m.places.length d.belP
def Dice.bel0 (d : Dice) (m : Mine) : BSt := ⟨(startBel m (tagsN d.belP) (d.belS m).1 ((d.belS m).2.next 100).1).1, 100, (((d.belS m).2.next 100).2.next 5).2⟩
def Dice.belK (d : Dice) (m : Mine) : Nat := (((d.belS m).2.next 100).2.next 5).1.toNat
def Dice.belF (d : Dice) (m : Mine) : BSt := Dice.belN m d.belP (d.bel0 m) (d.belK m)
def Dice.belief (d : Dice) (m : Mine) : Bel × Dice := ((d.belF m).b, (d.belF m).d)

/-- What beliefs keep: sizes. -/
structure WOk (m : Mine) (N : Nat) (x : World) : Prop where
  tg : x.tags.length = N
  wh : x.whr.length = N
  fr : ∀ w ∈ x.whr, w.frm.length = m.places.length
  ti : ∀ w ∈ x.whr, inT w.time
structure BOk (m : Mine) (N : Nat) (b : Bel) : Prop where
  w1 : 1 ≤ b.worlds.length
  w2 : b.worlds.length ≤ 24
  n1 : 1 ≤ N
  n2 : N ≤ 12
  ws : ∀ x ∈ b.worlds, WOk m N x

theorem WOk.sz {m : Mine} {N : Nat} {x : World} (h : WOk m N x) (hm : m.ok) (hn : N ≤ 12) : x.sz := by
  have np := hm.np
  obtain ⟨t1, t2, t3, -⟩ := h
  exact ⟨by omega, by omega, fun w hw => by rw [t3 w hw]; omega⟩
theorem BOk.sz {m : Mine} {N : Nat} {b : Bel} (h : BOk m N b) (hm : m.ok) : b.sz :=
  ⟨by have := h.w2; omega, fun x hx => (h.ws x hx).sz hm h.n2⟩

abbrev blH (m : Mine) (p1 p2 : Bool) (tags starts : List Int) (s : BSt) : Heap := [s.d.obj, .box (mineCells m), .box [.nil], .arr 1 p1 0 (ints tags), .arr 1 p2 0 (ints starts), .box [.t (.sl (s.b.worlds.map World.e))]]

end Go.Ev

/- Made inputs: beliefs and smoke, by the code. -/
namespace Go.Ev
open Go
variable [Lib] [Has1] [Has2]

end Go.Ev

/- Made inputs: smoke that spreads; machines. -/
namespace Go.Ev
open Go
variable [Lib] [Has1] [Has2]

def Dice.spread (d : Dice) (m : Mine) (fl : List Spn) : Wh × Dice :=
  let p := d.next m.places.length
  let t := p.2.next 200
  let s := startS m fl [p.1] t.1
  let o := t.2.one 2
  if o.1 = true then
    let f := o.2.flows m
    let a := f.2.next 100
    let r := changeS m fl m f.1 s.1 (s.1.time + a.1)
    if r.2 = 0 then (r.1, a.2) else (s.1, a.2)
  else (s.1, o.2)

/-- Machines. -/
structure Mch where
  kind : Int
  num : Int
  pl : List Int
instance : Dat Mch := ⟨⟨0, 0, []⟩⟩
abbrev Mch.e (x : Mch) : T := .agg [tI x.kind, tI x.num, tL x.pl]
@[go_sem] theorem appOK_mch (l : List Mch) : appOK 3 (l.map Mch.e) = true := by cases l <;> rfl

def Dice.mch (d : Dice) (n : Nat) : Mch × Dice :=
  let a := d.next 2
  let b := a.2.next 5
  let l := b.2.someN n
  if l.1.length = 0 then (⟨1 + a.1, b.1, [(l.2.next n).1]⟩, (l.2.next n).2) else (⟨1 + a.1, b.1, l.1⟩, l.2)
def Dice.mchN (d : Dice) (n : Nat) : Nat → List Mch × Dice
  | 0 => ([], d)
  | k + 1 => ((d.mchN n k).1 ++ [((d.mchN n k).2.mch n).1], ((d.mchN n k).2.mch n).2)
def Dice.mchs (d : Dice) (n : Nat) : List Mch × Dice := (d.next 4).2.mchN n (d.next 4).1.toNat

end Go.Ev

/- The program: possible places of persons; places with smoke; the fire rules. -/
namespace Go.Ev
open Go
variable [Lib] [Has1] [Has2]

def mayW (person t : Int) (p : Nat) (x : World) : Bool := decide (0 ≤ person ∧ person < x.whr.length) && (decide (p < (nth x.whr person.toNat).frm.length) && decide (nth (nth x.whr person.toNat).frm p ≤ t))

def meetsB (a b : List Int) : Bool := a.any fun p => decide (p ∈ b)
def nearF (x : Mch) (b : Bel) (t : Int) : List Int := if b.worlds.length = 0 then [] else whereF (nth b.worlds 0).whr.length fun i => meetsB (possB b i t) x.pl
def cmdF (x : Mch) (s : Wh) (b : Bel) (t ahead : Int) : Int :=
  if meetsB (possF s t) x.pl = true then 2 else if meetsB (possF s (t + ahead)) x.pl = true then 1
  else if x.kind = 2 ∧ (possF s (t + ahead)).length ≠ 0 ∧ (nearF x b (t + ahead)).length ≠ 0 then 3 else 0

def drawnF (x : Mch) (s : Wh) (b : Bel) (t ahead : Int) : List Int := if cmdF x s b t ahead = 2 ∨ cmdF x s b t ahead = 1 then nearF x b (t + ahead) else []
end Go.Ev

/- FireRulesStay. -/
namespace Go.Ev
open Go
variable [Lib] [Has1] [Has2]

/- plain facts about the commands -/
abbrev stayH (d : Dice) (m : Mine) (s : Wh) (b : Bel) : Heap := [d.obj, .box (mineCells m), .box [I s.time, .t (tL s.frm)], .box [.t (.sl (b.worlds.map World.e))]]

section
variable {m : Mine} (hm : m.ok) {N : Nat} {b : Bel} (hb : BOk m N b) {s : Wh} (hs : s.frm.length = m.places.length) {l : List Mch}
variable (hl : ∀ y ∈ l, y.pl.length ≤ m.places.length ∧ 1 ≤ y.pl.length ∧ ∀ x ∈ y.pl, 0 ≤ x ∧ x < m.places.length) {t a : Int} (t0 : 0 ≤ t) (t1 : t ≤ 10000) (a0 : 0 ≤ a) (a1 : a ≤ 10000) (d : Dice)
include hm hb hs hl t0 t1 a0 a1

omit hm hb t0 t1 a1 in
end

def Dice.skip (d : Dice) (n : Int) : Nat → Dice
  | 0 => d
  | k + 1 => ((d.skip n k).next n).2
end Go.Ev

/- MADE BY PROGRAM (lib.py): the compact code of functions. -/
namespace Go.Ev.K
open Go.Ev
def law27_HeadsMore_l1b : C := (.seq (.ite [{ o := .mv (.v 9) }, { o := .fa (.v 3) 0 }, { o := .ld (.l 0) 1 false }, { o := .ln (.l 0) }, { o := .bin .lss (.l 3) (.l 0) }] [] 0 .skip (.exit 0)) (.seq (.blk 1 (.seq (.reg [{ o := .mv (.v 7) }, { o := .mv (.v 9) }, { o := .bs [.l 0] 1 }, { o := .app (.l 2) (.l 0) true 1 }, { o := .mv (.l 0), d := some 7 }] []) (.ite [{ o := .mv (.v 6) }, { o := .mv (.v 9) }, { o := .ca N.ref23_Has 0 [] [.l 1, .l 0] }, { o := .mv (.l 0) }, { o := .mv (.v 2), g := some (0, false) }, { o := .ca N.made_Dice_One 0 [] [.l 0, .i 2], g := some (1, false) }, { o := .pk (.l 2) (.b true) (.l 0) }] [] 0 (.reg [{ o := .mv (.v 8) }, { o := .mv (.v 9) }, { o := .bs [.l 0] 1 }, { o := .app (.l 2) (.l 0) true 1 }, { o := .mv (.l 0), d := some 8 }] []) .skip))) (.reg [{ o := .mv (.v 9) }, { o := .bin .add (.l 0) (.i 1) }, { o := .mv (.l 0), d := some 9 }] [])))
def law27_HeadsMore_l1 : C := .loop true [0, 1, 10, 11, 12, 13, 14, 15] K.law27_HeadsMore_l1b
def law27_HeadsMore_l3b : C := (.seq (.ite [{ o := .mv (.v 11) }, { o := .fa (.v 4) 0 }, { o := .ld (.l 0) 1 false }, { o := .mv (.v 10) }, { o := .ia (.l 1) (.l 0) 2 }, { o := .fa (.l 0) 1 }, { o := .ld (.l 0) 1 false }, { o := .ln (.l 0) }, { o := .bin .lss (.l 7) (.l 0) }] [] 0 .skip (.exit 4)) (.seq (.blk 5 (.ite [{ o := .fa (.v 4) 0 }, { o := .ld (.l 0) 1 false }, { o := .mv (.v 10) }, { o := .ia (.l 1) (.l 0) 2 }, { o := .fa (.l 0) 1 }, { o := .ld (.l 0) 1 false }, { o := .mv (.v 11) }, { o := .ia (.l 1) (.l 0) 2 }, { o := .ld (.l 0) 2 true }, { o := .mv (.v 5) }, { o := .ca N.ref25_Possible 0 [] [.l 1, .l 0] }, { o := .ln (.l 0) }, { o := .bin .eql (.l 0) (.i 0) }] [] 0 (.seq (.reg [{ o := .ca N.law27_awake 0 [] [] }, { o := .mv (.l 0), d := some 1 }] []) .ret) .skip)) (.reg [{ o := .mv (.v 11) }, { o := .bin .add (.l 0) (.i 1) }, { o := .mv (.l 0), d := some 11 }] [])))
def law27_HeadsMore_l3 : C := .loop true [0, 1, 2, 3, 9, 12, 13, 14, 15] K.law27_HeadsMore_l3b
def law27_HeadsMore_l2b : C := (.seq (.ite [{ o := .mv (.v 10) }, { o := .fa (.v 4) 0 }, { o := .ld (.l 0) 1 false }, { o := .ln (.l 0) }, { o := .bin .lss (.l 3) (.l 0) }] [] 0 .skip (.exit 2)) (.seq (.blk 3 (.seq (.reg [{ o := .mv (.i 0), d := some 11 }] []) (.blk 4 K.law27_HeadsMore_l3))) (.reg [{ o := .mv (.v 10) }, { o := .bin .add (.l 0) (.i 1) }, { o := .mv (.l 0), d := some 10 }] [])))
def law27_HeadsMore_l2 : C := .loop true [0, 1, 2, 3, 9, 11, 12, 13, 14, 15] K.law27_HeadsMore_l2b
/-- /law27.HeadsMore -/
def law27_HeadsMore : Fn := { nargs := 1, vars := [0, 2, 3, 4, 5, 6, 7, 8, 9, 10, 11, 12, 13, 14, 15, 16], body := (.seq (.reg [{ o := .mv (.b false), d := some 1 }] []) (.seq (.ite [{ o := .mv (.v 0) }, { o := .ca N.made_Light 0 [] [.l 0] }, { o := .un .not (.l 0) }] [] 0 (.seq (.reg [{ o := .ca N.law27_awake 0 [] [] }, { o := .mv (.l 0), d := some 1 }] []) .ret) .skip) (.seq (.reg [{ o := .mv (.v 0) }, { o := .ca N.made_Roll 0 [] [.l 0] }, { o := .mv (.l 0), d := some 2 }] []) (.seq (.reg [{ o := .mv (.v 2) }, { o := .ca N.made_Dice_Mine 0 [] [.l 0] }, { o := .al [.nil, .nil] [], d := some 3 }, { o := .st (.l 0) (.l 1) 2 [] }] []) (.seq (.reg [{ o := .mv (.v 2) }, { o := .ld (.v 3) 2 true }, { o := .ca N.made_Dice_Belief 0 [] [.l 1, .l 0] }, { o := .al [.nil] [], d := some 4 }, { o := .st (.l 0) (.l 1) 1 [] }] []) (.seq (.reg [{ o := .ld (.v 4) 1 true }, { o := .ca N.made_Last 0 [] [.l 0] }, { o := .mv (.v 2) }, { o := .ca N.made_Dice_Next 0 [] [.l 0, .i 100] }, { o := .bin .add (.l 2) (.l 0) }, { o := .mv (.l 0), d := some 5 }] []) (.seq (.reg [{ o := .mv (.v 2) }, { o := .fa (.v 3) 0 }, { o := .ld (.l 0) 1 false }, { o := .ln (.l 0) }, { o := .ca N.made_Dice_Some 0 [] [.l 3, .l 0] }, { o := .mv (.l 0), d := some 6 }] []) (.seq (.reg [{ o := .nw 1, d := some 7 }, { o := .nw 1, d := some 8 }] []) (.seq (.seq (.reg [{ o := .mv (.i 0), d := some 9 }] []) (.blk 0 K.law27_HeadsMore_l1)) (.seq (.seq (.reg [{ o := .mv (.i 0), d := some 10 }] []) (.blk 2 K.law27_HeadsMore_l2)) (.seq (.reg [{ o := .al [.t (.int .i64 (0)), .t (.int .i64 (0))] [], d := some 12 }, { o := .al [.t (.int .i64 (0)), .t (.int .i64 (0))] [], d := some 13 }, { o := .al [.t (.int .i64 (0)), .t (.int .i64 (0))] [], d := some 14 }, { o := .ld (.v 4) 1 true }, { o := .mv (.v 6) }, { o := .mv (.v 5) }, { o := .ca N.heads_Count 0 [] [.l 2, .l 1, .l 0] }, { o := .ld (.v 4) 1 true }, { o := .mv (.v 8) }, { o := .mv (.v 5) }, { o := .ca N.heads_Count 0 [] [.l 2, .l 1, .l 0] }, { o := .ld (.v 4) 1 true }, { o := .mv (.v 7) }, { o := .mv (.v 5) }, { o := .ca N.heads_Count 0 [] [.l 2, .l 1, .l 0] }, { o := .st (.l 14) (.l 8) 2 [] }, { o := .st (.l 14) (.l 5) 2 [] }, { o := .st (.l 14) (.l 2) 2 [] }] [(0, 7), (0, 11), (0, 15), (1, 7), (1, 11), (1, 15), (2, 7), (2, 11), (2, 15), (7, 3), (11, 3), (11, 7)]) (.seq (.reg [{ o := .fa (.v 4) 0 }, { o := .ld (.l 0) 1 false }, { o := .ia (.l 0) (.i 0) 2 }, { o := .fa (.l 0) 0 }, { o := .ld (.l 0) 1 false }, { o := .ln (.l 0) }, { o := .mv (.l 0), d := some 15 }] []) (.seq (.reg [{ o := .ca N.law27_awake 0 [] [] }, { o := .mv (.l 0) }, { o := .fa (.v 12) 0, g := some (0, true) }, { o := .ld (.l 0) 1 false, g := some (1, true) }, { o := .fa (.v 13) 0, g := some (2, true) }, { o := .ld (.l 0) 1 false, g := some (3, true) }, { o := .bin .leq (.l 2) (.l 0), g := some (4, true) }, { o := .pk (.l 5) (.l 0) (.b false) }, { o := .mv (.l 0) }, { o := .fa (.v 12) 1, g := some (0, true) }, { o := .ld (.l 0) 1 false, g := some (1, true) }, { o := .fa (.v 13) 1, g := some (2, true) }, { o := .ld (.l 0) 1 false, g := some (3, true) }, { o := .bin .leq (.l 2) (.l 0), g := some (4, true) }, { o := .pk (.l 5) (.l 0) (.b false) }, { o := .mv (.l 0) }, { o := .fa (.v 14) 0, g := some (0, true) }, { o := .ld (.l 0) 1 false, g := some (1, true) }, { o := .mv (.v 15), g := some (2, true) }, { o := .bin .eql (.l 1) (.l 0), g := some (3, true) }, { o := .pk (.l 4) (.l 0) (.b false) }, { o := .mv (.l 0) }, { o := .fa (.v 14) 1, g := some (0, true) }, { o := .ld (.l 0) 1 false, g := some (1, true) }, { o := .mv (.v 15), g := some (2, true) }, { o := .bin .eql (.l 1) (.l 0), g := some (3, true) }, { o := .pk (.l 4) (.l 0) (.b false) }, { o := .mv (.l 0), d := some 1 }] []) .ret))))))))))))), res := [(1, none)] }
def law27_HeadsSplit_l1b : C := (.seq (.ite [{ o := .mv (.v 9) }, { o := .fa (.v 3) 0 }, { o := .ld (.l 0) 1 false }, { o := .ln (.l 0) }, { o := .bin .lss (.l 3) (.l 0) }] [] 0 .skip (.exit 0)) (.seq (.blk 1 (.seq (.reg [{ o := .mv (.v 2) }, { o := .ca N.made_Dice_Next 0 [] [.l 0, .i 3], d := some 13 }] []) (.blk 2 (.ite [{ o := .bin .eql (.v 13) (.i 0) }, { o := .mv (.l 0) }] [] 0 (.reg [{ o := .mv (.v 6) }, { o := .mv (.v 9) }, { o := .bs [.l 0] 1 }, { o := .app (.l 2) (.l 0) true 1 }, { o := .mv (.v 8) }, { o := .mv (.v 9) }, { o := .bs [.l 0] 1 }, { o := .app (.l 2) (.l 0) true 1 }, { o := .mv (.l 4), d := some 6 }, { o := .mv (.l 1), d := some 8 }] []) (.ite [{ o := .bin .eql (.v 13) (.i 1) }, { o := .mv (.l 0) }] [] 0 (.reg [{ o := .mv (.v 7) }, { o := .mv (.v 9) }, { o := .bs [.l 0] 1 }, { o := .app (.l 2) (.l 0) true 1 }, { o := .mv (.v 8) }, { o := .mv (.v 9) }, { o := .bs [.l 0] 1 }, { o := .app (.l 2) (.l 0) true 1 }, { o := .mv (.l 4), d := some 7 }, { o := .mv (.l 1), d := some 8 }] []) .skip))))) (.reg [{ o := .mv (.v 9) }, { o := .bin .add (.l 0) (.i 1) }, { o := .mv (.l 0), d := some 9 }] [])))
def law27_HeadsSplit_l1 : C := .loop true [0, 1, 10, 11, 12, 13] K.law27_HeadsSplit_l1b
/-- /law27.HeadsSplit -/
def law27_HeadsSplit : Fn := { nargs := 1, vars := [0, 2, 3, 4, 5, 6, 7, 8, 9, 10, 11, 12, 13, 38], body := (.seq (.reg [{ o := .mv (.b false), d := some 1 }] []) (.seq (.ite [{ o := .mv (.v 0) }, { o := .ca N.made_Light 0 [] [.l 0] }, { o := .un .not (.l 0) }] [] 0 (.seq (.reg [{ o := .ca N.law27_awake 0 [] [] }, { o := .mv (.l 0), d := some 1 }] []) .ret) .skip) (.seq (.reg [{ o := .mv (.v 0) }, { o := .ca N.made_Roll 0 [] [.l 0] }, { o := .mv (.l 0), d := some 2 }] []) (.seq (.reg [{ o := .mv (.v 2) }, { o := .ca N.made_Dice_Mine 0 [] [.l 0] }, { o := .al [.nil, .nil] [], d := some 3 }, { o := .st (.l 0) (.l 1) 2 [] }] []) (.seq (.reg [{ o := .mv (.v 2) }, { o := .ld (.v 3) 2 true }, { o := .ca N.made_Dice_Belief 0 [] [.l 1, .l 0] }, { o := .al [.nil] [], d := some 4 }, { o := .st (.l 0) (.l 1) 1 [] }] []) (.seq (.reg [{ o := .ld (.v 4) 1 true }, { o := .ca N.made_Last 0 [] [.l 0] }, { o := .mv (.v 2) }, { o := .ca N.made_Dice_Next 0 [] [.l 0, .i 100] }, { o := .bin .add (.l 2) (.l 0) }, { o := .mv (.l 0), d := some 5 }] []) (.seq (.reg [{ o := .nw 1, d := some 6 }, { o := .nw 1, d := some 7 }, { o := .nw 1, d := some 8 }] []) (.seq (.seq (.reg [{ o := .mv (.i 0), d := some 9 }] []) (.blk 0 K.law27_HeadsSplit_l1)) (.seq (.reg [{ o := .al [.t (.int .i64 (0)), .t (.int .i64 (0))] [], d := some 10 }, { o := .al [.t (.int .i64 (0)), .t (.int .i64 (0))] [], d := some 11 }, { o := .al [.t (.int .i64 (0)), .t (.int .i64 (0))] [], d := some 12 }, { o := .ld (.v 4) 1 true }, { o := .mv (.v 6) }, { o := .mv (.v 5) }, { o := .ca N.heads_Count 0 [] [.l 2, .l 1, .l 0] }, { o := .ld (.v 4) 1 true }, { o := .mv (.v 7) }, { o := .mv (.v 5) }, { o := .ca N.heads_Count 0 [] [.l 2, .l 1, .l 0] }, { o := .ld (.v 4) 1 true }, { o := .mv (.v 8) }, { o := .mv (.v 5) }, { o := .ca N.heads_Count 0 [] [.l 2, .l 1, .l 0] }, { o := .st (.l 14) (.l 8) 2 [] }, { o := .st (.l 14) (.l 5) 2 [] }, { o := .st (.l 14) (.l 2) 2 [] }] [(0, 7), (0, 11), (0, 15), (1, 7), (1, 11), (1, 15), (2, 7), (2, 11), (2, 15), (7, 3), (11, 3), (11, 7)]) (.seq (.reg [{ o := .ca N.law27_awake 0 [] [] }, { o := .mv (.l 0) }, { o := .fa (.v 12) 0, g := some (0, true) }, { o := .ld (.l 0) 1 false, g := some (1, true) }, { o := .fa (.v 10) 0, g := some (2, true) }, { o := .ld (.l 0) 1 false, g := some (3, true) }, { o := .fa (.v 11) 0, g := some (4, true) }, { o := .ld (.l 0) 1 false, g := some (5, true) }, { o := .bin .add (.l 2) (.l 0), g := some (6, true) }, { o := .bin .geq (.l 5) (.l 0), g := some (7, true) }, { o := .pk (.l 8) (.l 0) (.b false) }, { o := .mv (.l 0) }, { o := .fa (.v 12) 1, g := some (0, true) }, { o := .ld (.l 0) 1 false, g := some (1, true) }, { o := .fa (.v 10) 1, g := some (2, true) }, { o := .ld (.l 0) 1 false, g := some (3, true) }, { o := .fa (.v 11) 1, g := some (4, true) }, { o := .ld (.l 0) 1 false, g := some (5, true) }, { o := .bin .add (.l 2) (.l 0), g := some (6, true) }, { o := .bin .leq (.l 5) (.l 0), g := some (7, true) }, { o := .pk (.l 8) (.l 0) (.b false) }, { o := .mv (.l 0) }, { o := .fa (.v 12) 0, g := some (0, true) }, { o := .ld (.l 0) 1 false, g := some (1, true) }, { o := .fa (.v 12) 1, g := some (2, true) }, { o := .ld (.l 0) 1 false, g := some (3, true) }, { o := .bin .leq (.l 2) (.l 0), g := some (4, true) }, { o := .pk (.l 5) (.l 0) (.b false) }, { o := .mv (.l 0), d := some 1 }] []) .ret)))))))))), res := [(1, none)] }
def law27_HeadsAll_l2b : C := (.its  [{ o := .bin .lss (.v 16) (.v 15) }] [] 0 .skip (.exit 2) (.seq (.blk 3 (.seq (.reg [{ o := .ia (.v 14) (.v 16) 1 }, { o := .ld (.l 0) 1 false }, { o := .mv (.l 0), d := some 10 }] []) (.ite [{ o := .ld (.v 7) 1 true }, { o := .mv (.v 9) }, { o := .mv (.v 10) }, { o := .ca N.heads_Count 0 [] [.l 2, .l 1, .l 0] }, { o := .ld (.v 7) 1 true }, { o := .mv (.v 9) }, { o := .mv (.v 10) }, { o := .ca N.ref27_Count 0 [] [.l 2, .l 1, .l 0] }, { o := .eqk (.ints 2) true (.l 4) (.l 0) }, { o := .mv (.l 0) }, { o := .ld (.v 7) 1 true, g := some (0, false) }, { o := .mv (.v 9), g := some (1, false) }, { o := .mv (.v 10), g := some (2, false) }, { o := .ca N.heads_Sure 0 [] [.l 2, .l 1, .l 0], g := some (3, false) }, { o := .ld (.v 7) 1 true, g := some (4, false) }, { o := .mv (.v 9), g := some (5, false) }, { o := .mv (.v 10), g := some (6, false) }, { o := .ca N.ref27_Sure 0 [] [.l 2, .l 1, .l 0], g := some (7, false) }, { o := .ca N.ref23_SameInts 0 [] [.l 4, .l 0], g := some (8, false) }, { o := .un .not (.l 0), g := some (9, false) }, { o := .pk (.l 10) (.b true) (.l 0) }, { o := .mv (.l 0) }, { o := .ld (.v 7) 1 true, g := some (0, false) }, { o := .mv (.v 9), g := some (1, false) }, { o := .mv (.v 10), g := some (2, false) }, { o := .ca N.heads_Maybe 0 [] [.l 2, .l 1, .l 0], g := some (3, false) }, { o := .ld (.v 7) 1 true, g := some (4, false) }, { o := .mv (.v 9), g := some (5, false) }, { o := .mv (.v 10), g := some (6, false) }, { o := .ca N.ref27_Maybe 0 [] [.l 2, .l 1, .l 0], g := some (7, false) }, { o := .ca N.ref23_SameInts 0 [] [.l 4, .l 0], g := some (8, false) }, { o := .un .not (.l 0), g := some (9, false) }, { o := .pk (.l 10) (.b true) (.l 0) }] [(4, 0), (14, 8), (26, 19)] 0 (.seq (.reg [{ o := .mv (.b false), d := some 4 }] []) .ret) .skip))) (.reg [{ o := .bin .add (.v 16) (.i 1) }, { o := .mv (.l 0), d := some 16 }] [])))
def law27_HeadsAll_l2 : C := .loop true [0, 1, 2, 4, 5, 6, 10] K.law27_HeadsAll_l2b
def law27_HeadsAll_l1b : C := (.its  [{ o := .bin .lss (.v 13) (.v 12) }] [] 0 .skip (.exit 0) (.seq (.blk 1 (.seq (.reg [{ o := .ia (.v 11) (.v 13) 1 }, { o := .ld (.l 0) 1 false }, { o := .mv (.l 0), d := some 9 }] []) (.seq (.reg [{ o := .mv (.v 8) }, { o := .iaa (.v 3) (.i 0) 2 1 }, { o := .ld (.l 0) 1 false }, { o := .bs [.l 2, .l 0] 1, d := some 14 }, { o := .ln (.l 0), d := some 15 }, { o := .mv (.i 0), d := some 16 }] []) (.blk 2 K.law27_HeadsAll_l2)))) (.reg [{ o := .bin .add (.v 13) (.i 1) }, { o := .mv (.l 0), d := some 13 }] [])))
def law27_HeadsAll_l1 : C := .loop true [0, 1, 2, 4, 5, 6, 9, 10, 14, 15, 16] K.law27_HeadsAll_l1b
/-- /law27.HeadsAll -/
def law27_HeadsAll : Fn := { nargs := 3, vars := [0, 1, 2, 5, 6, 7, 8, 9, 10, 12, 14, 44, 45, 46, 53, 54, 55], body := (.seq (.reg [{ o := .bx (.v 2) 2, d := some 3 }, { o := .mv (.b false), d := some 4 }] []) (.seq (.ite [{ o := .mv (.v 0) }, { o := .ca N.made_Light 0 [] [.l 0] }, { o := .un .not (.l 0) }, { o := .mv (.l 0) }, { o := .mv (.v 1), g := some (0, false) }, { o := .ln (.l 0), g := some (1, false) }, { o := .bin .gtr (.l 0) (.i 100), g := some (2, false) }, { o := .pk (.l 3) (.b true) (.l 0) }] [] 0 (.seq (.reg [{ o := .ca N.law27_awake 0 [] [] }, { o := .mv (.l 0), d := some 4 }] []) .ret) .skip) (.seq (.reg [{ o := .mv (.v 0) }, { o := .ca N.made_Roll 0 [] [.l 0] }, { o := .mv (.l 0), d := some 5 }] []) (.seq (.reg [{ o := .mv (.v 5) }, { o := .ca N.made_Dice_Mine 0 [] [.l 0] }, { o := .al [.nil, .nil] [], d := some 6 }, { o := .st (.l 0) (.l 1) 2 [] }] []) (.seq (.reg [{ o := .mv (.v 5) }, { o := .ld (.v 6) 2 true }, { o := .ca N.made_Dice_Belief 0 [] [.l 1, .l 0] }, { o := .al [.nil] [], d := some 7 }, { o := .st (.l 0) (.l 1) 1 [] }] []) (.seq (.reg [{ o := .ld (.v 7) 1 true }, { o := .ca N.made_Last 0 [] [.l 0] }, { o := .iaa (.v 3) (.i 0) 2 1 }, { o := .ld (.l 0) 1 false }, { o := .ca N.made_Mod 0 [] [.l 0, .i 200] }, { o := .bin .add (.l 3) (.l 0) }, { o := .bin .sub (.l 0) (.i 20) }, { o := .mv (.l 0), d := some 8 }] [(3, 0)]) (.seq (.seq (.reg [{ o := .mv (.v 1) }, { o := .mv (.v 5) }, { o := .fa (.v 6) 0 }, { o := .ld (.l 0) 1 false }, { o := .ln (.l 0) }, { o := .ca N.made_Dice_Some 0 [] [.l 3, .l 0] }, { o := .bs [.l 5, .l 0, .c (.nil)] 1, d := some 11 }, { o := .ln (.l 0), d := some 12 }, { o := .mv (.i 0), d := some 13 }] []) (.blk 0 K.law27_HeadsAll_l1)) (.seq (.reg [{ o := .ca N.law27_awake 0 [] [] }, { o := .mv (.l 0) }, { o := .ld (.v 7) 1 true, g := some (0, true) }, { o := .mv (.v 8), g := some (1, true) }, { o := .iaa (.v 3) (.i 1) 2 1, g := some (2, true) }, { o := .ld (.l 0) 1 false, g := some (3, true) }, { o := .ca N.made_Mod 0 [] [.l 0, .i 5], g := some (4, true) }, { o := .ca N.heads_Missing 0 [] [.l 4, .l 3, .l 0], g := some (5, true) }, { o := .ld (.v 7) 1 true, g := some (6, true) }, { o := .mv (.v 8), g := some (7, true) }, { o := .iaa (.v 3) (.i 1) 2 1, g := some (8, true) }, { o := .ld (.l 0) 1 false, g := some (9, true) }, { o := .ca N.made_Mod 0 [] [.l 0, .i 5], g := some (10, true) }, { o := .ca N.ref27_Missing 0 [] [.l 4, .l 3, .l 0], g := some (11, true) }, { o := .ca N.ref23_SameInts 0 [] [.l 6, .l 0], g := some (12, true) }, { o := .pk (.l 13) (.l 0) (.b false) }, { o := .mv (.l 0) }, { o := .ld (.v 7) 1 true, g := some (0, true) }, { o := .iaa (.v 3) (.i 0) 2 1, g := some (1, true) }, { o := .ld (.l 0) 1 false, g := some (2, true) }, { o := .iaa (.v 3) (.i 1) 2 1, g := some (3, true) }, { o := .ld (.l 0) 1 false, g := some (4, true) }, { o := .ca N.heads_Missing 0 [] [.l 4, .l 2, .l 0], g := some (5, true) }, { o := .ld (.v 7) 1 true, g := some (6, true) }, { o := .iaa (.v 3) (.i 0) 2 1, g := some (7, true) }, { o := .ld (.l 0) 1 false, g := some (8, true) }, { o := .iaa (.v 3) (.i 1) 2 1, g := some (9, true) }, { o := .ld (.l 0) 1 false, g := some (10, true) }, { o := .ca N.ref27_Missing 0 [] [.l 4, .l 2, .l 0], g := some (11, true) }, { o := .ca N.ref23_SameInts 0 [] [.l 6, .l 0], g := some (12, true) }, { o := .pk (.l 13) (.l 0) (.b false) }, { o := .mv (.l 0), d := some 4 }] [(2, 7), (8, 1), (8, 7), (8, 13), (11, 1), (11, 7), (23, 15), (25, 15), (27, 15)]) .ret)))))))), res := [(4, none)] }
def law27_HeadsTrue_l1b : C := (.seq (.ite [{ o := .mv (.v 9) }, { o := .fa (.v 7) 1 }, { o := .ld (.l 0) 1 false }, { o := .ln (.l 0) }, { o := .bin .lss (.l 3) (.l 0) }] [] 0 .skip (.exit 0)) (.seq (.blk 1 (.seq (.reg [{ o := .fa (.v 7) 1 }, { o := .ld (.l 0) 1 false }, { o := .mv (.v 9) }, { o := .ia (.l 1) (.l 0) 2 }, { o := .ld (.l 0) 2 true }, { o := .mv (.v 5) }, { o := .ca N.ref25_Possible 0 [] [.l 1, .l 0] }, { o := .mv (.l 0), d := some 10 }] []) (.seq (.ite [{ o := .mv (.v 10) }, { o := .ln (.l 0) }, { o := .bin .eql (.l 0) (.i 0) }] [] 0 (.seq (.reg [{ o := .ca N.law27_awake 0 [] [] }, { o := .mv (.l 0), d := some 1 }] []) .ret) .skip) (.seq (.reg [{ o := .mv (.v 6) }, { o := .mv (.v 10) }, { o := .mv (.v 2) }, { o := .mv (.v 10) }, { o := .ln (.l 0) }, { o := .ca N.made_Dice_Next 0 [] [.l 2, .l 0] }, { o := .ia (.l 4) (.l 0) 1 }, { o := .ld (.l 0) 1 false }, { o := .ca N.ref23_Has 0 [] [.l 7, .l 0] }, { o := .mv (.l 0), d := some 11 }] []) (.seq (.ite [{ o := .mv (.v 11) }] [] 0 (.reg [{ o := .mv (.v 8) }, { o := .bin .add (.l 0) (.i 1) }, { o := .mv (.l 0), d := some 8 }] []) .skip) (.ite [{ o := .mv (.v 11) }, { o := .un .not (.l 0) }, { o := .mv (.l 0) }, { o := .ld (.v 4) 1 true, g := some (0, true) }, { o := .mv (.v 6), g := some (1, true) }, { o := .mv (.v 5), g := some (2, true) }, { o := .ca N.heads_Sure 0 [] [.l 2, .l 1, .l 0], g := some (3, true) }, { o := .mv (.v 9), g := some (4, true) }, { o := .ca N.ref23_Has 0 [] [.l 1, .l 0], g := some (5, true) }, { o := .pk (.l 6) (.l 0) (.b false) }, { o := .mv (.l 0) }, { o := .mv (.v 11), g := some (0, false) }, { o := .mv (.l 0), g := some (1, false) }, { o := .ld (.v 4) 1 true, g := some (0, true) }, { o := .mv (.v 6), g := some (1, true) }, { o := .mv (.v 5), g := some (2, true) }, { o := .ca N.heads_Maybe 0 [] [.l 2, .l 1, .l 0], g := some (3, true) }, { o := .mv (.v 9), g := some (4, true) }, { o := .ca N.ref23_Has 0 [] [.l 1, .l 0], g := some (5, true) }, { o := .un .not (.l 0), g := some (6, true) }, { o := .pk (.l 7) (.l 0) (.b false), g := some (9, false) }, { o := .pk (.l 10) (.b true) (.l 0) }] [] 0 (.seq (.reg [{ o := .mv (.b false), d := some 1 }] []) .ret) .skip)))))) (.reg [{ o := .mv (.v 9) }, { o := .bin .add (.l 0) (.i 1) }, { o := .mv (.l 0), d := some 9 }] [])))
def law27_HeadsTrue_l1 : C := .loop true [0, 1, 3, 10, 11, 12] K.law27_HeadsTrue_l1b
/-- /law27.HeadsTrue -/
def law27_HeadsTrue : Fn := { nargs := 1, vars := [0, 2, 3, 4, 5, 6, 7, 8, 9, 10, 11, 12, 13], body := (.seq (.reg [{ o := .mv (.b false), d := some 1 }] []) (.seq (.ite [{ o := .mv (.v 0) }, { o := .ca N.made_Light 0 [] [.l 0] }, { o := .un .not (.l 0) }] [] 0 (.seq (.reg [{ o := .ca N.law27_awake 0 [] [] }, { o := .mv (.l 0), d := some 1 }] []) .ret) .skip) (.seq (.reg [{ o := .mv (.v 0) }, { o := .ca N.made_Roll 0 [] [.l 0] }, { o := .mv (.l 0), d := some 2 }] []) (.seq (.reg [{ o := .mv (.v 2) }, { o := .ca N.made_Dice_Mine 0 [] [.l 0] }, { o := .al [.nil, .nil] [], d := some 3 }, { o := .st (.l 0) (.l 1) 2 [] }] []) (.seq (.reg [{ o := .mv (.v 2) }, { o := .ld (.v 3) 2 true }, { o := .ca N.made_Dice_Belief 0 [] [.l 1, .l 0] }, { o := .al [.nil] [], d := some 4 }, { o := .st (.l 0) (.l 1) 1 [] }] []) (.seq (.reg [{ o := .ld (.v 4) 1 true }, { o := .ca N.made_Last 0 [] [.l 0] }, { o := .mv (.v 2) }, { o := .ca N.made_Dice_Next 0 [] [.l 0, .i 100] }, { o := .bin .add (.l 2) (.l 0) }, { o := .mv (.l 0), d := some 5 }] []) (.seq (.reg [{ o := .mv (.v 2) }, { o := .fa (.v 3) 0 }, { o := .ld (.l 0) 1 false }, { o := .ln (.l 0) }, { o := .ca N.made_Dice_Some 0 [] [.l 3, .l 0] }, { o := .mv (.l 0), d := some 6 }] []) (.seq (.reg [{ o := .al [.nil, .nil] [], d := some 7 }, { o := .fa (.v 4) 0 }, { o := .ld (.l 0) 1 false }, { o := .mv (.v 2) }, { o := .fa (.v 4) 0 }, { o := .ld (.l 0) 1 false }, { o := .ln (.l 0) }, { o := .ca N.made_Dice_Next 0 [] [.l 3, .l 0] }, { o := .ia (.l 5) (.l 0) 2 }, { o := .ld (.l 0) 2 true }, { o := .st (.l 9) (.l 0) 2 [] }] [(0, 8), (2, 8)]) (.seq (.reg [{ o := .mv (.i 0), d := some 8 }] []) (.seq (.seq (.reg [{ o := .mv (.i 0), d := some 9 }] []) (.blk 0 K.law27_HeadsTrue_l1)) (.seq (.reg [{ o := .ld (.v 4) 1 true }, { o := .mv (.v 6) }, { o := .mv (.v 5) }, { o := .ca N.heads_Count 0 [] [.l 2, .l 1, .l 0] }, { o := .al [.t (.int .i64 (0)), .t (.int .i64 (0))] [], d := some 12 }, { o := .st (.l 0) (.l 1) 2 [] }] []) (.seq (.reg [{ o := .ca N.law27_awake 0 [] [] }, { o := .mv (.l 0) }, { o := .fa (.v 12) 0, g := some (0, true) }, { o := .ld (.l 0) 1 false, g := some (1, true) }, { o := .mv (.v 8), g := some (2, true) }, { o := .bin .leq (.l 1) (.l 0), g := some (3, true) }, { o := .pk (.l 4) (.l 0) (.b false) }, { o := .mv (.l 0) }, { o := .mv (.v 8), g := some (0, true) }, { o := .fa (.v 12) 1, g := some (1, true) }, { o := .ld (.l 0) 1 false, g := some (2, true) }, { o := .bin .leq (.l 2) (.l 0), g := some (3, true) }, { o := .pk (.l 4) (.l 0) (.b false) }, { o := .mv (.l 0), d := some 1 }] []) .ret)))))))))))), res := [(1, none)] }
/-- /law27.awake -/
def law27_awake : Fn := { nargs := 0, vars := [0, 1, 2, 3], body := (.seq (.reg [{ o := .mv (.b false), d := some 0 }] []) (.seq (.reg [{ o := .bs [.i 1, .i 2] 1 }, { o := .bs [.i 0, .i 1099511627776] 1 }, { o := .bd [.t (.int .i64 (0)), .nil] [(1, 1, .l 0)] }, { o := .bs [.i 0, .i 0] 1 }, { o := .bd [.t (.int .i64 (0)), .nil] [(1, 1, .l 0)] }, { o := .bs [.l 2, .l 0] 2 }, { o := .bd [.nil, .nil] [(0, 1, .l 5), (1, 1, .l 0)] }, { o := .bs [.l 0] 2 }, { o := .bd [.nil] [(0, 1, .l 0)] }, { o := .al [.nil] [], d := some 1 }, { o := .st (.l 0) (.l 1) 1 [] }] []) (.seq (.reg [{ o := .ld (.v 1) 1 true }, { o := .bs [.i 0] 1 }, { o := .ca N.heads_Count 0 [] [.l 1, .l 0, .i 5] }, { o := .al [.t (.int .i64 (0)), .t (.int .i64 (0))] [], d := some 2 }, { o := .st (.l 0) (.l 1) 2 [] }] []) (.seq (.reg [{ o := .ld (.v 1) 1 true }, { o := .bs [.i 0] 1 }, { o := .ca N.heads_Sure 0 [] [.l 1, .l 0, .i 5] }, { o := .mv (.l 0), d := some 3 }] []) (.seq (.reg [{ o := .fa (.v 2) 0 }, { o := .ld (.l 0) 1 false }, { o := .bin .eql (.l 0) (.i 1) }, { o := .mv (.l 0) }, { o := .fa (.v 2) 1, g := some (0, true) }, { o := .ld (.l 0) 1 false, g := some (1, true) }, { o := .bin .eql (.l 0) (.i 2), g := some (2, true) }, { o := .pk (.l 3) (.l 0) (.b false) }, { o := .mv (.l 0) }, { o := .mv (.v 3), g := some (0, true) }, { o := .ln (.l 0), g := some (1, true) }, { o := .bin .eql (.l 0) (.i 1), g := some (2, true) }, { o := .pk (.l 3) (.l 0) (.b false) }, { o := .mv (.l 0) }, { o := .ld (.v 1) 1 true, g := some (0, true) }, { o := .ca N.heads_Missing 0 [] [.l 0, .i 5, .i 1], g := some (1, true) }, { o := .ln (.l 0), g := some (2, true) }, { o := .bin .eql (.l 0) (.i 1), g := some (3, true) }, { o := .pk (.l 4) (.l 0) (.b false) }, { o := .mv (.l 0), d := some 0 }] []) .ret))))), res := [(0, none)] }
def heads_Count_l2b : C := (.its  [{ o := .bin .lss (.v 17) (.v 16) }] [] 0 .skip (.exit 2) (.seq (.blk 3 (.seq (.reg [{ o := .mv (.v 17) }, { o := .mv (.l 0), d := some 10 }] []) (.seq (.reg [{ o := .ld (.v 7) 2 true }, { o := .mv (.v 10) }, { o := .mv (.v 1) }, { o := .mv (.v 2) }, { o := .ca N.heads_look 0 [] [.l 3, .l 2, .l 1, .l 0] }, { o := .mv (.l 0) }, { o := .ex (.l 0) 0 }, { o := .ex (.l 1) 1 }, { o := .mv (.l 1), d := some 11 }, { o := .mv (.l 1), d := some 12 }] []) (.seq (.ite [{ o := .mv (.v 11) }] [] 0 (.reg [{ o := .mv (.v 8) }, { o := .bin .add (.l 0) (.i 1) }, { o := .mv (.l 0), d := some 8 }] []) .skip) (.ite [{ o := .mv (.v 12) }] [] 0 (.reg [{ o := .mv (.v 9) }, { o := .bin .add (.l 0) (.i 1) }, { o := .mv (.l 0), d := some 9 }] []) .skip))))) (.reg [{ o := .bin .add (.v 17) (.i 1) }, { o := .mv (.l 0), d := some 17 }] [])))
def heads_Count_l2 : C := .loop true [0, 3, 10, 11, 12] K.heads_Count_l2b
def heads_Count_l1b : C := (.its  [{ o := .bin .lss (.v 15) (.v 14) }] [] 0 .skip (.exit 0) (.seq (.blk 1 (.seq (.reg [{ o := .mv (.v 15) }, { o := .ia (.v 13) (.v 15) 2 }, { o := .ld (.l 0) 2 true }, { o := .al [.nil, .nil] [], d := some 7 }, { o := .mv (.l 3), d := some 6 }, { o := .st (.l 1) (.l 2) 2 [] }] []) (.seq (.reg [{ o := .mv (.i 0), d := some 8 }, { o := .mv (.i 0), d := some 9 }] []) (.seq (.seq (.reg [{ o := .fa (.v 7) 1 }, { o := .ld (.l 0) 1 false }, { o := .ln (.l 0), d := some 16 }, { o := .mv (.i 0), d := some 17 }] []) (.blk 2 K.heads_Count_l2)) (.seq (.ite [{ o := .mv (.v 6) }, { o := .bin .eql (.l 0) (.i 0) }] [] 0 (.reg [{ o := .mv (.v 8) }, { o := .mv (.v 9) }, { o := .bd [.t (.int .i64 (0)), .t (.int .i64 (0))] [(0, 1, .l 1), (1, 1, .l 0)] }, { o := .st (.v 5) (.l 0) 2 [] }] []) .skip) (.reg [{ o := .fa (.v 5) 0 }, { o := .ld (.l 0) 1 false }, { o := .mv (.v 8) }, { o := .mn [.l 1, .l 0] }, { o := .fa (.v 5) 1 }, { o := .ld (.l 0) 1 false }, { o := .mv (.v 9) }, { o := .mx [.l 1, .l 0] }, { o := .bd [.t (.int .i64 (0)), .t (.int .i64 (0))] [(0, 1, .l 4), (1, 1, .l 0)] }, { o := .st (.v 5) (.l 0) 2 [] }] [])))))) (.reg [{ o := .bin .add (.v 15) (.i 1) }, { o := .mv (.l 0), d := some 15 }] [])))
def heads_Count_l1 : C := .loop true [0, 3, 6, 7, 8, 9, 10, 11, 12, 16, 17] K.heads_Count_l1b
/-- /heads.Count -/
def heads_Count : Fn := { nargs := 3, vars := [0, 1, 2, 3, 6, 7, 8, 9, 10, 11, 12, 13, 14, 16, 17, 18, 25, 26], body := (.seq (.reg [{ o := .bx (.v 0) 1, d := some 3 }, { o := .al [.t (.int .i64 (0)), .t (.int .i64 (0))] [], d := some 4 }] []) (.seq (.reg [{ o := .al [.t (.int .i64 (0)), .t (.int .i64 (0))] [], d := some 5 }] []) (.seq (.seq (.reg [{ o := .fa (.v 3) 0 }, { o := .ld (.l 0) 1 false, d := some 13 }, { o := .ln (.l 0), d := some 14 }, { o := .mv (.i 0), d := some 15 }] []) (.blk 0 K.heads_Count_l1)) (.seq (.reg [{ o := .ld (.v 5) 2 true }, { o := .st (.v 4) (.l 0) 2 [] }] []) .ret)))), res := [(4, some (2, true))] }
def ref27_Count_l2b : C := (.seq (.ite [{ o := .mv (.v 9) }, { o := .fa (.v 3) 0 }, { o := .ld (.l 0) 1 false }, { o := .mv (.v 6) }, { o := .ia (.l 1) (.l 0) 2 }, { o := .fa (.l 0) 1 }, { o := .ld (.l 0) 1 false }, { o := .ln (.l 0) }, { o := .bin .lss (.l 7) (.l 0) }] [] 0 .skip (.exit 2)) (.seq (.blk 3 (.seq (.reg [{ o := .fa (.v 3) 0 }, { o := .ld (.l 0) 1 false }, { o := .mv (.v 6) }, { o := .ia (.l 1) (.l 0) 2 }, { o := .fa (.l 0) 1 }, { o := .ld (.l 0) 1 false }, { o := .mv (.v 9) }, { o := .ia (.l 1) (.l 0) 2 }, { o := .ld (.l 0) 2 true }, { o := .mv (.v 1) }, { o := .mv (.v 2) }, { o := .ca N.ref27_state 0 [] [.l 2, .l 1, .l 0] }, { o := .mv (.l 0), d := some 10 }] []) (.seq (.ite [{ o := .mv (.v 10) }, { o := .bin .eql (.l 0) (.i 2) }] [] 0 (.reg [{ o := .mv (.v 7) }, { o := .bin .add (.l 0) (.i 1) }, { o := .mv (.l 0), d := some 7 }] []) .skip) (.ite [{ o := .mv (.v 10) }, { o := .bin .gtr (.l 0) (.i 0) }] [] 0 (.reg [{ o := .mv (.v 8) }, { o := .bin .add (.l 0) (.i 1) }, { o := .mv (.l 0), d := some 8 }] []) .skip)))) (.reg [{ o := .mv (.v 9) }, { o := .bin .add (.l 0) (.i 1) }, { o := .mv (.l 0), d := some 9 }] [])))
def ref27_Count_l2 : C := .loop true [0, 10] K.ref27_Count_l2b
def ref27_Count_l1b : C := (.seq (.ite [{ o := .mv (.v 6) }, { o := .fa (.v 3) 0 }, { o := .ld (.l 0) 1 false }, { o := .ln (.l 0) }, { o := .bin .lss (.l 3) (.l 0) }] [] 0 .skip (.exit 0)) (.seq (.blk 1 (.seq (.reg [{ o := .mv (.i 0), d := some 7 }, { o := .mv (.i 0), d := some 8 }] []) (.seq (.seq (.reg [{ o := .mv (.i 0), d := some 9 }] []) (.blk 2 K.ref27_Count_l2)) (.seq (.ite [{ o := .mv (.v 6) }, { o := .bin .eql (.l 0) (.i 0) }, { o := .mv (.l 0) }, { o := .mv (.v 7), g := some (0, false) }, { o := .fa (.v 5) 0, g := some (1, false) }, { o := .ld (.l 0) 1 false, g := some (2, false) }, { o := .bin .lss (.l 2) (.l 0), g := some (3, false) }, { o := .pk (.l 4) (.b true) (.l 0) }] [] 0 (.reg [{ o := .mv (.v 7) }, { o := .fa (.v 5) 0 }, { o := .st (.l 0) (.l 1) 1 [] }] []) .skip) (.reg [{ o := .fa (.v 5) 1 }, { o := .ld (.l 0) 1 false }, { o := .mv (.v 8) }, { o := .mx [.l 1, .l 0] }, { o := .fa (.v 5) 1 }, { o := .st (.l 0) (.l 1) 1 [] }] []))))) (.reg [{ o := .mv (.v 6) }, { o := .bin .add (.l 0) (.i 1) }, { o := .mv (.l 0), d := some 6 }] [])))
def ref27_Count_l1 : C := .loop true [0, 7, 8, 9, 10] K.ref27_Count_l1b
/-- /ref27.Count -/
def ref27_Count : Fn := { nargs := 3, vars := [0, 1, 2, 3, 6, 7, 8, 9, 10, 11, 12], body := (.seq (.reg [{ o := .bx (.v 0) 1, d := some 3 }, { o := .al [.t (.int .i64 (0)), .t (.int .i64 (0))] [], d := some 4 }] []) (.seq (.reg [{ o := .al [.t (.int .i64 (0)), .t (.int .i64 (0))] [], d := some 5 }] []) (.seq (.seq (.reg [{ o := .mv (.i 0), d := some 6 }] []) (.blk 0 K.ref27_Count_l1)) (.seq (.reg [{ o := .ld (.v 5) 2 true }, { o := .st (.v 4) (.l 0) 2 [] }] []) .ret)))), res := [(4, some (2, true))] }
/-- /heads.Sure -/
def heads_Sure : Fn := { nargs := 3, vars := [0, 1, 2, 3, 4, 5, 6], body := (.seq (.reg [{ o := .bx (.v 0) 1, d := some 3 }, { o := .bx (.v 1) 1, d := some 4 }, { o := .bx (.v 2) 1, d := some 5 }, { o := .mv (.c (.nil)), d := some 6 }] []) (.seq (.reg [{ o := .ld (.v 3) 1 true }, { o := .ca N.heads_persons 0 [] [.l 0] }, { o := .mf N.heads_Sure_1 [.v 3, .v 4, .v 5] }, { o := .ca N.lists_Where 0 [] [.l 1, .l 0] }, { o := .mv (.l 0), d := some 6 }] []) .ret)), res := [(6, none)] }
def ref27_Sure_l2b : C := (.seq (.ite [{ o := .mv (.v 8) }, { o := .fa (.v 3) 0 }, { o := .ld (.l 0) 1 false }, { o := .ln (.l 0) }, { o := .bin .lss (.l 3) (.l 0) }] [] 0 .skip (.exit 2)) (.seq (.blk 3 (.reg [{ o := .mv (.v 7) }, { o := .mv (.l 0) }, { o := .fa (.v 3) 0, g := some (0, true) }, { o := .ld (.l 0) 1 false, g := some (1, true) }, { o := .mv (.v 8), g := some (2, true) }, { o := .ia (.l 1) (.l 0) 2, g := some (3, true) }, { o := .fa (.l 0) 1, g := some (4, true) }, { o := .ld (.l 0) 1 false, g := some (5, true) }, { o := .mv (.v 6), g := some (6, true) }, { o := .ia (.l 1) (.l 0) 2, g := some (7, true) }, { o := .ld (.l 0) 2 true, g := some (8, true) }, { o := .mv (.v 1), g := some (9, true) }, { o := .mv (.v 2), g := some (10, true) }, { o := .ca N.ref27_state 0 [] [.l 2, .l 1, .l 0], g := some (11, true) }, { o := .bin .eql (.l 0) (.i 2), g := some (12, true) }, { o := .pk (.l 13) (.l 0) (.b false) }, { o := .mv (.l 0), d := some 7 }] [])) (.reg [{ o := .mv (.v 8) }, { o := .bin .add (.l 0) (.i 1) }, { o := .mv (.l 0), d := some 8 }] [])))
def ref27_Sure_l2 : C := .loop true [0, 4] K.ref27_Sure_l2b
def ref27_Sure_l1b : C := (.seq (.ite [{ o := .mv (.v 6) }, { o := .ld (.v 3) 1 true }, { o := .ca N.ref27_people 0 [] [.l 0] }, { o := .bin .lss (.l 2) (.l 0) }] [] 0 .skip (.exit 0)) (.seq (.blk 1 (.seq (.reg [{ o := .mv (.b true), d := some 7 }] []) (.seq (.seq (.reg [{ o := .mv (.i 0), d := some 8 }] []) (.blk 2 K.ref27_Sure_l2)) (.ite [{ o := .mv (.v 7) }] [] 0 (.reg [{ o := .mv (.v 5) }, { o := .mv (.v 6) }, { o := .bs [.l 0] 1 }, { o := .app (.l 2) (.l 0) true 1 }, { o := .mv (.l 0), d := some 5 }] []) .skip)))) (.reg [{ o := .mv (.v 6) }, { o := .bin .add (.l 0) (.i 1) }, { o := .mv (.l 0), d := some 6 }] [])))
def ref27_Sure_l1 : C := .loop true [0, 4, 7, 8] K.ref27_Sure_l1b
/-- /ref27.Sure -/
def ref27_Sure : Fn := { nargs := 3, vars := [0, 1, 2, 3, 6, 7, 8, 9, 10], body := (.seq (.reg [{ o := .bx (.v 0) 1, d := some 3 }, { o := .mv (.c (.nil)), d := some 4 }] []) (.seq (.reg [{ o := .nw 1, d := some 5 }] []) (.seq (.seq (.reg [{ o := .mv (.i 0), d := some 6 }] []) (.blk 0 K.ref27_Sure_l1)) (.seq (.reg [{ o := .mv (.v 5) }, { o := .mv (.l 0), d := some 4 }] []) .ret)))), res := [(4, none)] }
/-- /heads.Maybe -/
def heads_Maybe : Fn := { nargs := 3, vars := [0, 1, 2, 3, 4, 5, 6], body := (.seq (.reg [{ o := .bx (.v 0) 1, d := some 3 }, { o := .bx (.v 1) 1, d := some 4 }, { o := .bx (.v 2) 1, d := some 5 }, { o := .mv (.c (.nil)), d := some 6 }] []) (.seq (.reg [{ o := .ld (.v 3) 1 true }, { o := .ca N.heads_persons 0 [] [.l 0] }, { o := .mf N.heads_Maybe_1 [.v 3, .v 4, .v 5] }, { o := .ca N.lists_Where 0 [] [.l 1, .l 0] }, { o := .mv (.l 0), d := some 6 }] []) .ret)), res := [(6, none)] }
def ref27_Maybe_l2b : C := (.seq (.ite [{ o := .mv (.v 8) }, { o := .fa (.v 3) 0 }, { o := .ld (.l 0) 1 false }, { o := .ln (.l 0) }, { o := .bin .lss (.l 3) (.l 0) }] [] 0 .skip (.exit 2)) (.seq (.blk 3 (.reg [{ o := .mv (.v 7) }, { o := .mv (.l 0) }, { o := .fa (.v 3) 0, g := some (0, false) }, { o := .ld (.l 0) 1 false, g := some (1, false) }, { o := .mv (.v 8), g := some (2, false) }, { o := .ia (.l 1) (.l 0) 2, g := some (3, false) }, { o := .fa (.l 0) 1, g := some (4, false) }, { o := .ld (.l 0) 1 false, g := some (5, false) }, { o := .mv (.v 6), g := some (6, false) }, { o := .ia (.l 1) (.l 0) 2, g := some (7, false) }, { o := .ld (.l 0) 2 true, g := some (8, false) }, { o := .mv (.v 1), g := some (9, false) }, { o := .mv (.v 2), g := some (10, false) }, { o := .ca N.ref27_state 0 [] [.l 2, .l 1, .l 0], g := some (11, false) }, { o := .bin .gtr (.l 0) (.i 0), g := some (12, false) }, { o := .pk (.l 13) (.b true) (.l 0) }, { o := .mv (.l 0), d := some 7 }] [])) (.reg [{ o := .mv (.v 8) }, { o := .bin .add (.l 0) (.i 1) }, { o := .mv (.l 0), d := some 8 }] [])))
def ref27_Maybe_l2 : C := .loop true [0, 4] K.ref27_Maybe_l2b
def ref27_Maybe_l1b : C := (.seq (.ite [{ o := .mv (.v 6) }, { o := .ld (.v 3) 1 true }, { o := .ca N.ref27_people 0 [] [.l 0] }, { o := .bin .lss (.l 2) (.l 0) }] [] 0 .skip (.exit 0)) (.seq (.blk 1 (.seq (.reg [{ o := .mv (.b false), d := some 7 }] []) (.seq (.seq (.reg [{ o := .mv (.i 0), d := some 8 }] []) (.blk 2 K.ref27_Maybe_l2)) (.ite [{ o := .mv (.v 7) }] [] 0 (.reg [{ o := .mv (.v 5) }, { o := .mv (.v 6) }, { o := .bs [.l 0] 1 }, { o := .app (.l 2) (.l 0) true 1 }, { o := .mv (.l 0), d := some 5 }] []) .skip)))) (.reg [{ o := .mv (.v 6) }, { o := .bin .add (.l 0) (.i 1) }, { o := .mv (.l 0), d := some 6 }] [])))
def ref27_Maybe_l1 : C := .loop true [0, 4, 7, 8] K.ref27_Maybe_l1b
/-- /ref27.Maybe -/
def ref27_Maybe : Fn := { nargs := 3, vars := [0, 1, 2, 3, 6, 7, 8, 9, 10], body := (.seq (.reg [{ o := .bx (.v 0) 1, d := some 3 }, { o := .mv (.c (.nil)), d := some 4 }] []) (.seq (.reg [{ o := .nw 1, d := some 5 }] []) (.seq (.seq (.reg [{ o := .mv (.i 0), d := some 6 }] []) (.blk 0 K.ref27_Maybe_l1)) (.seq (.reg [{ o := .mv (.v 5) }, { o := .mv (.l 0), d := some 4 }] []) .ret)))), res := [(4, none)] }
/-- /heads.Missing -/
def heads_Missing : Fn := { nargs := 3, vars := [0, 1, 2, 3, 4, 5, 6], body := (.seq (.reg [{ o := .bx (.v 0) 1, d := some 3 }, { o := .bx (.v 1) 1, d := some 4 }, { o := .bx (.v 2) 1, d := some 5 }, { o := .mv (.c (.nil)), d := some 6 }] []) (.seq (.reg [{ o := .ld (.v 3) 1 true }, { o := .ca N.heads_persons 0 [] [.l 0] }, { o := .mf N.heads_Missing_1 [.v 3, .v 4, .v 5] }, { o := .ca N.lists_Where 0 [] [.l 1, .l 0] }, { o := .mv (.l 0), d := some 6 }] []) .ret)), res := [(6, none)] }
def ref27_Missing_l1b : C := (.seq (.ite [{ o := .mv (.v 6) }, { o := .ld (.v 3) 1 true }, { o := .ca N.ref27_people 0 [] [.l 0] }, { o := .bin .lss (.l 2) (.l 0) }] [] 0 .skip (.exit 0)) (.seq (.blk 1 (.ite [{ o := .ld (.v 3) 1 true }, { o := .mv (.v 6) }, { o := .mv (.v 1) }, { o := .ca N.ref26_Possible 0 [] [.l 2, .l 1, .l 0] }, { o := .ln (.l 0) }, { o := .mv (.v 2) }, { o := .bin .gtr (.l 1) (.l 0) }] [] 0 (.reg [{ o := .mv (.v 5) }, { o := .mv (.v 6) }, { o := .bs [.l 0] 1 }, { o := .app (.l 2) (.l 0) true 1 }, { o := .mv (.l 0), d := some 5 }] []) .skip)) (.reg [{ o := .mv (.v 6) }, { o := .bin .add (.l 0) (.i 1) }, { o := .mv (.l 0), d := some 6 }] [])))
def ref27_Missing_l1 : C := .loop true [0, 4] K.ref27_Missing_l1b
/-- /ref27.Missing -/
def ref27_Missing : Fn := { nargs := 3, vars := [0, 1, 2, 3, 6, 7, 8], body := (.seq (.reg [{ o := .bx (.v 0) 1, d := some 3 }, { o := .mv (.c (.nil)), d := some 4 }] []) (.seq (.reg [{ o := .nw 1, d := some 5 }] []) (.seq (.seq (.reg [{ o := .mv (.i 0), d := some 6 }] []) (.blk 0 K.ref27_Missing_l1)) (.seq (.reg [{ o := .mv (.v 5) }, { o := .mv (.l 0), d := some 4 }] []) .ret)))), res := [(4, none)] }
/-- /heads.look -/
def heads_look : Fn := { nargs := 4, vars := [0, 1, 2, 3, 4, 6, 8, 9, 10, 11], body := (.seq (.reg [{ o := .bx (.v 0) 2, d := some 4 }, { o := .bx (.v 2) 1, d := some 5 }, { o := .mv (.b false), d := some 6 }, { o := .mv (.b false), d := some 7 }] []) (.seq (.ite [{ o := .mv (.v 1) }, { o := .fa (.v 4) 1 }, { o := .ld (.l 0) 1 false }, { o := .ln (.l 0) }, { o := .bin .geq (.l 3) (.l 0) }] [] 0 (.seq (.reg [{ o := .mv (.b false), d := some 6 }, { o := .mv (.b false), d := some 7 }] []) .ret) .skip) (.seq (.reg [{ o := .fa (.v 4) 1 }, { o := .ld (.l 0) 1 false }, { o := .mv (.v 1) }, { o := .ia (.l 1) (.l 0) 2 }, { o := .ld (.l 0) 2 true }, { o := .mv (.v 3) }, { o := .ca N.places_Possible 0 [] [.l 1, .l 0] }, { o := .mv (.l 0), d := some 8 }] []) (.seq (.reg [{ o := .mf N.heads_look_1 [.v 5] }, { o := .al [.und] [], d := some 9 }, { o := .st (.l 0) (.l 1) 1 [] }] []) (.seq (.reg [{ o := .mv (.v 8) }, { o := .ld (.v 9) 1 false }, { o := .ca N.slices_ContainsFunc_int_int 0 [] [.l 1, .l 0] }, { o := .mv (.l 0), d := some 7 }] []) (.seq (.reg [{ o := .mv (.v 7) }, { o := .mv (.l 0) }, { o := .mv (.v 8), g := some (0, true) }, { o := .mf N.heads_look_2 [.v 9], g := some (1, true) }, { o := .ca N.slices_ContainsFunc_int_int 0 [] [.l 1, .l 0], g := some (2, true) }, { o := .un .not (.l 0), g := some (3, true) }, { o := .pk (.l 4) (.l 0) (.b false) }, { o := .mv (.v 7) }, { o := .mv (.l 1), d := some 6 }, { o := .mv (.l 1), d := some 7 }] []) .ret)))))), res := [(6, none), (7, none)] }
def ref27_state_l1b : C := (.seq (.ite [{ o := .mv (.v 8) }, { o := .mv (.v 5) }, { o := .ln (.l 0) }, { o := .bin .lss (.l 2) (.l 0) }] [] 0 .skip (.exit 0)) (.seq (.blk 1 (.ite [{ o := .mv (.v 1) }, { o := .mv (.v 5) }, { o := .mv (.v 8) }, { o := .ia (.l 1) (.l 0) 1 }, { o := .ld (.l 0) 1 false }, { o := .ca N.ref23_Has 0 [] [.l 4, .l 0] }] [] 0 (.reg [{ o := .mv (.b true), d := some 6 }] []) (.reg [{ o := .mv (.b false), d := some 7 }] []))) (.reg [{ o := .mv (.v 8) }, { o := .bin .add (.l 0) (.i 1) }, { o := .mv (.l 0), d := some 8 }] [])))
def ref27_state_l1 : C := .loop true [0, 2, 3, 4] K.ref27_state_l1b
/-- /ref27.state -/
def ref27_state : Fn := { nargs := 3, vars := [0, 1, 2, 3, 6, 7, 8, 9, 10], body := (.seq (.reg [{ o := .bx (.v 0) 2, d := some 3 }, { o := .mv (.i 0), d := some 4 }] []) (.seq (.reg [{ o := .ld (.v 3) 2 true }, { o := .mv (.v 2) }, { o := .ca N.ref25_Possible 0 [] [.l 1, .l 0] }, { o := .mv (.l 0), d := some 5 }] []) (.seq (.reg [{ o := .mv (.b false), d := some 6 }, { o := .mv (.b true), d := some 7 }] []) (.seq (.seq (.reg [{ o := .mv (.i 0), d := some 8 }] []) (.blk 0 K.ref27_state_l1)) (.seq (.ite [{ o := .mv (.v 6) }, { o := .mv (.l 0) }, { o := .mv (.v 7), g := some (0, true) }, { o := .pk (.l 1) (.l 0) (.b false) }] [] 0 (.seq (.reg [{ o := .mv (.i 2), d := some 4 }] []) .ret) .skip) (.seq (.ite [{ o := .mv (.v 6) }] [] 0 (.seq (.reg [{ o := .mv (.i 1), d := some 4 }] []) .ret) .skip) (.seq (.reg [{ o := .mv (.i 0), d := some 4 }] []) .ret))))))), res := [(4, none)] }
/-- /heads.persons -/
def heads_persons : Fn := { nargs := 1, vars := [0, 1, 2], body := (.seq (.reg [{ o := .bx (.v 0) 1, d := some 1 }, { o := .mv (.i 0), d := some 2 }] []) (.seq (.ite [{ o := .fa (.v 1) 0 }, { o := .ld (.l 0) 1 false }, { o := .ln (.l 0) }, { o := .bin .eql (.l 0) (.i 0) }] [] 0 (.seq (.reg [{ o := .mv (.i 0), d := some 2 }] []) .ret) .skip) (.seq (.reg [{ o := .fa (.v 1) 0 }, { o := .ld (.l 0) 1 false }, { o := .ia (.l 0) (.i 0) 2 }, { o := .fa (.l 0) 1 }, { o := .ld (.l 0) 1 false }, { o := .ln (.l 0) }, { o := .mv (.l 0), d := some 2 }] []) .ret))), res := [(2, none)] }
/-- /heads.Sure.1 -/
def heads_Sure_1 : Fn := { nargs := 4, vars := [0, 1, 2, 3, 4, 5], body := (.seq (.reg [{ o := .bx (.v 0) 1, d := some 4 }, { o := .mv (.b false), d := some 5 }] []) (.seq (.reg [{ o := .fa (.v 1) 0 }, { o := .ld (.l 0) 1 false }, { o := .mf N.heads_Sure_1_1 [.v 4, .v 2, .v 3] }, { o := .ca N.slices_ContainsFunc_api_World_api_World 0 [] [.l 1, .l 0] }, { o := .un .not (.l 0) }, { o := .mv (.l 0), d := some 5 }] []) .ret)), res := [(5, none)] }
/-- /heads.Sure.1.1 -/
def heads_Sure_1_1 : Fn := { nargs := 4, vars := [0, 1, 2, 3, 4, 5, 6], body := (.seq (.reg [{ o := .bx (.v 0) 2, d := some 4 }, { o := .mv (.b false), d := some 5 }] []) (.seq (.reg [{ o := .ld (.v 4) 2 true }, { o := .ld (.v 1) 1 false }, { o := .ld (.v 2) 1 false }, { o := .ld (.v 3) 1 false }, { o := .ca N.heads_look 0 [] [.l 3, .l 2, .l 1, .l 0] }, { o := .mv (.l 0) }, { o := .ex (.l 0) 0 }, { o := .ex (.l 1) 1 }, { o := .mv (.l 1), d := some 6 }, { o := .mv (.l 1) }] []) (.seq (.reg [{ o := .mv (.v 6) }, { o := .un .not (.l 0) }, { o := .mv (.l 0), d := some 5 }] []) .ret))), res := [(5, none)] }
/-- /ref27.people -/
def ref27_people : Fn := { nargs := 1, vars := [0, 1, 2], body := (.seq (.reg [{ o := .bx (.v 0) 1, d := some 1 }, { o := .mv (.i 0), d := some 2 }] []) (.seq (.ite [{ o := .fa (.v 1) 0 }, { o := .ld (.l 0) 1 false }, { o := .ln (.l 0) }, { o := .bin .eql (.l 0) (.i 0) }] [] 0 (.seq (.reg [{ o := .mv (.i 0), d := some 2 }] []) .ret) .skip) (.seq (.reg [{ o := .fa (.v 1) 0 }, { o := .ld (.l 0) 1 false }, { o := .ia (.l 0) (.i 0) 2 }, { o := .fa (.l 0) 1 }, { o := .ld (.l 0) 1 false }, { o := .ln (.l 0) }, { o := .mv (.l 0), d := some 2 }] []) .ret))), res := [(2, none)] }
/-- /heads.Maybe.1 -/
def heads_Maybe_1 : Fn := { nargs := 4, vars := [0, 1, 2, 3, 4, 5], body := (.seq (.reg [{ o := .bx (.v 0) 1, d := some 4 }, { o := .mv (.b false), d := some 5 }] []) (.seq (.reg [{ o := .fa (.v 1) 0 }, { o := .ld (.l 0) 1 false }, { o := .mf N.heads_Maybe_1_1 [.v 4, .v 2, .v 3] }, { o := .ca N.slices_ContainsFunc_api_World_api_World 0 [] [.l 1, .l 0] }, { o := .mv (.l 0), d := some 5 }] []) .ret)), res := [(5, none)] }
/-- /heads.Maybe.1.1 -/
def heads_Maybe_1_1 : Fn := { nargs := 4, vars := [0, 1, 2, 3, 4, 5, 7], body := (.seq (.reg [{ o := .bx (.v 0) 2, d := some 4 }, { o := .mv (.b false), d := some 5 }] []) (.seq (.reg [{ o := .ld (.v 4) 2 true }, { o := .ld (.v 1) 1 false }, { o := .ld (.v 2) 1 false }, { o := .ld (.v 3) 1 false }, { o := .ca N.heads_look 0 [] [.l 3, .l 2, .l 1, .l 0] }, { o := .mv (.l 0) }, { o := .ex (.l 0) 0 }, { o := .ex (.l 1) 1 }, { o := .mv (.l 1) }, { o := .mv (.l 1), d := some 6 }] []) (.seq (.reg [{ o := .mv (.v 6) }, { o := .mv (.l 0), d := some 5 }] []) .ret))), res := [(5, none)] }
/-- /heads.Missing.1 -/
def heads_Missing_1 : Fn := { nargs := 4, vars := [0, 1, 2, 3, 5], body := (.seq (.reg [{ o := .mv (.b false), d := some 4 }] []) (.seq (.reg [{ o := .ld (.v 1) 1 true }, { o := .mv (.v 0) }, { o := .ld (.v 2) 1 false }, { o := .ca N.swaps_Possible 0 [] [.l 2, .l 1, .l 0] }, { o := .ln (.l 0) }, { o := .ld (.v 3) 1 false }, { o := .bin .gtr (.l 1) (.l 0) }, { o := .mv (.l 0), d := some 4 }] [(5, 0)]) .ret)), res := [(4, none)] }
/-- /places.Possible -/
def places_Possible : Fn := { nargs := 2, vars := [0, 1, 2, 3, 4], body := (.seq (.reg [{ o := .bx (.v 0) 2, d := some 2 }, { o := .bx (.v 1) 1, d := some 3 }, { o := .mv (.c (.nil)), d := some 4 }] []) (.seq (.reg [{ o := .fa (.v 2) 1 }, { o := .ld (.l 0) 1 false }, { o := .ln (.l 0) }, { o := .mf N.places_Possible_1 [.v 2, .v 3] }, { o := .ca N.lists_Where 0 [] [.l 1, .l 0] }, { o := .mv (.l 0), d := some 4 }] []) .ret)), res := [(4, none)] }
/-- /heads.look.1 -/
def heads_look_1 : Fn := { nargs := 2, vars := [0, 1, 3], body := (.seq (.reg [{ o := .mv (.b false), d := some 2 }] []) (.seq (.reg [{ o := .ld (.v 1) 1 false }, { o := .mv (.v 0) }, { o := .ca N.slices_Contains_int_int 0 [] [.l 1, .l 0] }, { o := .mv (.l 0), d := some 2 }] []) .ret)), res := [(2, none)] }
/-- /heads.look.2 -/
def heads_look_2 : Fn := { nargs := 2, vars := [0, 1, 3], body := (.seq (.reg [{ o := .mv (.b false), d := some 2 }] []) (.seq (.reg [{ o := .ld (.v 1) 1 false }, { o := .mv (.v 0) }, { o := .cw (.l 1) 0 [] [.l 0] }, { o := .un .not (.l 0) }, { o := .mv (.l 0), d := some 2 }] []) .ret)), res := [(2, none)] }
/-- /places.Possible.1 -/
def places_Possible_1 : Fn := { nargs := 3, vars := [0, 1, 2, 4], body := (.seq (.reg [{ o := .mv (.b false), d := some 3 }] []) (.seq (.reg [{ o := .fa (.v 1) 1 }, { o := .ld (.l 0) 1 false }, { o := .mv (.v 0) }, { o := .ia (.l 1) (.l 0) 1 }, { o := .ld (.l 0) 1 false }, { o := .ld (.v 2) 1 false }, { o := .bin .leq (.l 1) (.l 0) }, { o := .mv (.l 0), d := some 3 }] []) .ret)), res := [(3, none)] }
end Go.Ev.K
namespace Go.Ev
class Has5 [Lib] : Prop where
  t_law27_HeadsMore : Lib.fs N.law27_HeadsMore = some K.law27_HeadsMore
  t_law27_HeadsSplit : Lib.fs N.law27_HeadsSplit = some K.law27_HeadsSplit
  t_law27_HeadsAll : Lib.fs N.law27_HeadsAll = some K.law27_HeadsAll
  t_law27_HeadsTrue : Lib.fs N.law27_HeadsTrue = some K.law27_HeadsTrue
  t_law27_awake : Lib.fs N.law27_awake = some K.law27_awake
  t_heads_Count : Lib.fs N.heads_Count = some K.heads_Count
  t_ref27_Count : Lib.fs N.ref27_Count = some K.ref27_Count
  t_heads_Sure : Lib.fs N.heads_Sure = some K.heads_Sure
  t_ref27_Sure : Lib.fs N.ref27_Sure = some K.ref27_Sure
  t_heads_Maybe : Lib.fs N.heads_Maybe = some K.heads_Maybe
  t_ref27_Maybe : Lib.fs N.ref27_Maybe = some K.ref27_Maybe
  t_heads_Missing : Lib.fs N.heads_Missing = some K.heads_Missing
  t_ref27_Missing : Lib.fs N.ref27_Missing = some K.ref27_Missing
  t_heads_look : Lib.fs N.heads_look = some K.heads_look
  t_ref27_state : Lib.fs N.ref27_state = some K.ref27_state
  t_heads_persons : Lib.fs N.heads_persons = some K.heads_persons
  t_heads_Sure_1 : Lib.fs N.heads_Sure_1 = some K.heads_Sure_1
  t_heads_Sure_1_1 : Lib.fs N.heads_Sure_1_1 = some K.heads_Sure_1_1
  t_ref27_people : Lib.fs N.ref27_people = some K.ref27_people
  t_heads_Maybe_1 : Lib.fs N.heads_Maybe_1 = some K.heads_Maybe_1
  t_heads_Maybe_1_1 : Lib.fs N.heads_Maybe_1_1 = some K.heads_Maybe_1_1
  t_heads_Missing_1 : Lib.fs N.heads_Missing_1 = some K.heads_Missing_1
  t_places_Possible : Lib.fs N.places_Possible = some K.places_Possible
  t_heads_look_1 : Lib.fs N.heads_look_1 = some K.heads_look_1
  t_heads_look_2 : Lib.fs N.heads_look_2 = some K.heads_look_2
  t_places_Possible_1 : Lib.fs N.places_Possible_1 = some K.places_Possible_1
namespace K
variable [Lib] [Has5]
theorem t_law27_HeadsMore : Lib.fs N.law27_HeadsMore = some K.law27_HeadsMore := Has5.t_law27_HeadsMore
theorem t_law27_HeadsSplit : Lib.fs N.law27_HeadsSplit = some K.law27_HeadsSplit := Has5.t_law27_HeadsSplit
theorem t_law27_HeadsAll : Lib.fs N.law27_HeadsAll = some K.law27_HeadsAll := Has5.t_law27_HeadsAll
theorem t_law27_HeadsTrue : Lib.fs N.law27_HeadsTrue = some K.law27_HeadsTrue := Has5.t_law27_HeadsTrue
theorem t_law27_awake : Lib.fs N.law27_awake = some K.law27_awake := Has5.t_law27_awake
theorem t_heads_Count : Lib.fs N.heads_Count = some K.heads_Count := Has5.t_heads_Count
theorem t_ref27_Count : Lib.fs N.ref27_Count = some K.ref27_Count := Has5.t_ref27_Count
theorem t_heads_Sure : Lib.fs N.heads_Sure = some K.heads_Sure := Has5.t_heads_Sure
theorem t_ref27_Sure : Lib.fs N.ref27_Sure = some K.ref27_Sure := Has5.t_ref27_Sure
theorem t_heads_Maybe : Lib.fs N.heads_Maybe = some K.heads_Maybe := Has5.t_heads_Maybe
theorem t_ref27_Maybe : Lib.fs N.ref27_Maybe = some K.ref27_Maybe := Has5.t_ref27_Maybe
theorem t_heads_Missing : Lib.fs N.heads_Missing = some K.heads_Missing := Has5.t_heads_Missing
theorem t_ref27_Missing : Lib.fs N.ref27_Missing = some K.ref27_Missing := Has5.t_ref27_Missing
theorem t_heads_look : Lib.fs N.heads_look = some K.heads_look := Has5.t_heads_look
theorem t_ref27_state : Lib.fs N.ref27_state = some K.ref27_state := Has5.t_ref27_state
theorem t_heads_persons : Lib.fs N.heads_persons = some K.heads_persons := Has5.t_heads_persons
theorem t_heads_Sure_1 : Lib.fs N.heads_Sure_1 = some K.heads_Sure_1 := Has5.t_heads_Sure_1
theorem t_heads_Sure_1_1 : Lib.fs N.heads_Sure_1_1 = some K.heads_Sure_1_1 := Has5.t_heads_Sure_1_1
theorem t_ref27_people : Lib.fs N.ref27_people = some K.ref27_people := Has5.t_ref27_people
theorem t_heads_Maybe_1 : Lib.fs N.heads_Maybe_1 = some K.heads_Maybe_1 := Has5.t_heads_Maybe_1
theorem t_heads_Maybe_1_1 : Lib.fs N.heads_Maybe_1_1 = some K.heads_Maybe_1_1 := Has5.t_heads_Maybe_1_1
theorem t_heads_Missing_1 : Lib.fs N.heads_Missing_1 = some K.heads_Missing_1 := Has5.t_heads_Missing_1
theorem t_places_Possible : Lib.fs N.places_Possible = some K.places_Possible := Has5.t_places_Possible
theorem t_heads_look_1 : Lib.fs N.heads_look_1 = some K.heads_look_1 := Has5.t_heads_look_1
theorem t_heads_look_2 : Lib.fs N.heads_look_2 = some K.heads_look_2 := Has5.t_heads_look_2
theorem t_places_Possible_1 : Lib.fs N.places_Possible_1 = some K.places_Possible_1 := Has5.t_places_Possible_1
end K
end Go.Ev

/- The program: head counts. -/
namespace Go.Ev
open Go
variable [Lib] [Has1] [Has2] [Has5]

/- a closure over any variables -/
abbrev lkH (area : List Int) : Heap := [.box [.fn N.heads_look_1 [.bp 1 0]], .box [.t (tL area)]]
def canF (w : Wh) (area : List Int) (t : Int) : Bool := (possF w t).any fun x => decide (x ∈ area)
def isF (w : Wh) (area : List Int) (t : Int) : Bool := canF w area t && !((possF w t).any fun x => !decide (x ∈ area))
def lookF (x : World) (i : Nat) (area : List Int) (t : Int) : Bool × Bool := if x.whr.length ≤ i then (false, false) else (isF (nth x.whr i) area t, canF (nth x.whr i) area t)

end Go.Ev

/- PlacesRaw. -/
namespace Go.Ev
open Go
variable [Lib] [Has1] [Has2] [Has3] [Has4] [Has5] [Has6] [Has7] [Has8] [Has9]

end Go.Ev

/- PlacesJoins. -/
namespace Go.Ev
open Go
variable [Lib] [Has1] [Has2] [Has3] [Has4] [Has5] [Has6] [Has7] [Has8] [Has9]

end Go.Ev

/- PlacesLess. -/
namespace Go.Ev
open Go
variable [Lib] [Has1] [Has2] [Has3] [Has4] [Has5] [Has6] [Has7] [Has8] [Has9]

def newRoad (n : Nat) : Road := ⟨0, (n : Int) - 1, 30, 1, true, false, 1, 1, 0, 0⟩
end Go.Ev

/- Closing times are shifted with the clock. -/
namespace Go.Ev
open Go
variable [Lib] [Has1] [Has2]

def finN : List Int → Nat
  | [] => 0
  | x :: r => (if x < 1099511627776 then 1 else 0) + finN r
theorem finN_le : ∀ l, finN l ≤ l.length
  | [] => Nat.le_refl _
  | x :: r => by
    have := finN_le r
    simp only [finN, List.length_cons]
    split <;> omega
theorem finN_set : ∀ (l : List Int) (q : Nat) (x : Int), q < l.length → x < 1099511627776 → finN (l.set q x) = finN l + (if nth l q < 1099511627776 then 0 else 1)
  | [], q, x, h, _ => by simp at h
  | y :: r, 0, x, _, hx => by
    have e : nth (y :: r) 0 = y := rfl
    simp only [List.set_cons_zero, finN, e, if_pos hx]
    split <;> omega
  | y :: r, q + 1, x, h, hx => by
    have e : nth (y :: r) (q + 1) = nth r q := rfl
    have ih := finN_set r q x (by simpa using h) hx
    simp only [List.set_cons_succ, finN, e, ih]
    omega
def sh (s x : Int) : Int := if x < 1099511627776 then x + s else x
def shL (s : Int) (l : List Int) : List Int := l.map (sh s)
@[simp] theorem shL_len (s : Int) (l : List Int) : (shL s l).length = l.length := List.length_map ..
end Go.Ev

/- Chapter 3's least times, as a closing. -/
namespace Go.Ev
open Go
variable [Lib] [Has1] [Has2] [Has3] [Has4] [Has5] [Has6] [Has7] [Has8] [Has9]

/-- Times from s on, and none too late. -/
def Gd (m : Mine) (s M : Int) (l : List Int) : Prop := (∀ j, j < m.places.length → s ≤ nth l j) ∧ ∀ j, nth l j < 1099511627776 → nth l j ≤ M + (finN l : Int) * 1000012
theorem gd_half {m : Mine} (h : m.ok) {s M : Int} (h0 : 0 ≤ s) (hs : s ≤ M) {l : List Int} (hl : l.length = m.places.length) (hb : bnd l) (g : Gd m s M l) (k : Nat) (hk : k < m.roads.length) (back : Bool) : Gd m s M (halfF m s none k back l).1 := by
  have r1 := Road.src_ok (h.rs _ (nth_mem hk)) back
  have r2 := Road.dst_ok (h.rs _ (nth_mem hk)) back
  have w := (walkT_lo h k hk back).2
  obtain ⟨g1, hp⟩ := g
  rcases halfF_is (m := m) s none k back l with ⟨c1, c2, c3, c4, c5, e⟩ | ⟨e, _⟩
  · rw [e]; simp only
    refine ⟨fun j hj => ?_, fun i hi => ?_⟩
    · rw [set_nthW _ _ (by omega)]
      split
      · omega
      · exact g1 j hj
    · have fs := finN_set l ((nth m.roads k).dst back).toNat (max s (nth l ((nth m.roads k).src back).toNat + walkT m k back 6 9 12)) (by omega) (by omega)
      have ps := hp _ c3
      have pd := hp ((nth m.roads k).dst back).toNat
      rw [set_nthW _ _ (by omega)] at hi ⊢
      rw [fs]
      split
      · split at hi
        · split
          · rename_i hf
            have := pd hf
            omega
          · omega
        · rename_i a b; exact absurd a b
      · rename_i hne
        rw [if_neg hne] at hi
        have := hp i hi
        split <;> omega
  · rw [e]; exact ⟨g1, hp⟩
theorem gd_is {m : Mine} (h : m.ok) {s M : Int} (hK : M ≤ 1000000) {l : List Int} (hl : l.length = m.places.length) (hb : bnd l) (g : Gd m s M l) (k : Nat) (hk : k < m.roads.length) (back : Bool) :
    halfF m s none k back l = if (0 ≤ walkT m k back 6 9 12 ∧ nth l ((nth m.roads k).src back).toNat < 1099511627776) ∧ nth l ((nth m.roads k).src back).toNat + walkT m k back 6 9 12 < nth l ((nth m.roads k).dst back).toNat then
      (l.set ((nth m.roads k).dst back).toNat (nth l ((nth m.roads k).src back).toNat + walkT m k back 6 9 12), true) else (l, false) := by
  have r1 := Road.src_ok (h.rs _ (nth_mem hk)) back
  have r2 := Road.dst_ok (h.rs _ (nth_mem hk)) back
  have w := (walkT_lo h k hk back).2
  have np := h.np
  obtain ⟨g1, g2⟩ := g
  have a1 := g1 ((nth m.roads k).src back).toNat (by omega)
  have a2 := g2 ((nth m.roads k).src back).toNat
  have fn := finN_le l
  rcases halfF_is (m := m) s none k back l with ⟨c1, c2, c3, c4, c5, e⟩ | ⟨e, c⟩
  · rw [e, if_pos ⟨⟨c2, c3⟩, by omega⟩, show max s (nth l ((nth m.roads k).src back).toNat + walkT m k back 6 9 12) = nth l ((nth m.roads k).src back).toNat + walkT m k back 6 9 12 by omega]
  · rw [e, if_neg]
    rintro ⟨⟨x1, x2⟩, x3⟩
    have := a2 x2
    exact c ⟨rfl, x1, x2, by omega, by omega⟩
theorem gd_steps {m : Mine} (h : m.ok) {s M : Int} (h0 : 0 ≤ s) (hs : s ≤ M) {l : List Int} (hl : l.length = m.places.length) (hb : bnd l) (g : Gd m s M l) : ∀ k, k ≤ m.roads.length → Gd m s M (stepsF m s none l k).1 :=
  stepsF_inv h (Gd m s M) (fun l hl hb g k hk back => gd_half h h0 hs hl hb g k hk back) hl hb g

abbrev ltS (m : Mine) (k : Nat) (q : List Int × Bool) (d : Int) : St := ⟨[.und, .und, .bp 0 0, .und, .und, .ref 1 0 q.1.length, B q.2, I k, I d, .und, .und, .und], [.box (mineCells m), .arr 1 false 0 ((q.1.map (T.int .i64)).map .t)]⟩
def hlF (m : Mine) (s : Int) (k : Nat) (back : Bool) (q : List Int × Bool) : List Int × Bool := ((halfF m s none k back q.1).1, q.2 || (halfF m s none k back q.1).2)
theorem least_half {m : Mine} (h : m.ok) {s M : Int} (hK : M ≤ 1000000) {l : List Int} (hl : l.length = m.places.length) (hb : bnd l) (g : Gd m s M l) (k : Nat) (hk : k < m.roads.length) (ag : Bool) (back : Bool) :
    roundC true [0, 1, 3, 4, 9, 10, 11] 2 (exS CALL K.ref03_Least_l4b (ltS m k (l, ag) (if back then 1 else 0))) = some (ltS m k (hlF m s k back (l, ag)) (if back then 2 else 1)) := by
  have np := h.np
  have nr := h.nr
  have r1 := Road.src_ok (h.rs _ (nth_mem hk)) back
  have r2 := Road.dst_ok (h.rs _ (nth_mem hk)) back
  have w := (walkT_lo h k hk back).2
  have en := ends_ok (nth m.roads k) back
  have ti := time_ok h k hk back
  have e := gd_is h hK hl hb g k hk back
  have a2 := g.2 ((nth m.roads k).src back).toNat
  have fn := finN_le l
  have s1 := hb _ (nth_mem (l := l) (j := ((nth m.roads k).src back).toNat) (by omega))
  have s2 := hb _ (nth_mem (l := l) (j := ((nth m.roads k).dst back).toNat) (by omega))
  have ra := map_nth Road.e hk
  unfold hlF
  simp only [ltS]
  rw [e]
  clear e g hb
  generalize walkT m k back 6 9 12 = t at *
  obtain ⟨places, roads⟩ := m
  simp only [mineCells] at *
  generalize hx : nth roads k = x at *
  obtain ⟨frm, to, len, area, walk, closed, rl, rh, ll, lh⟩ := x
  cases back with
  | false =>
    simp only [Road.src, Road.dst, Bool.false_eq_true, ↓reduceIte] at *
    by_cases c : (0 ≤ t ∧ nth l frm.toNat < 1099511627776) ∧ nth l frm.toNat + t < nth l to.toNat
    · obtain ⟨⟨c1, c2⟩, c3⟩ := c
      have := a2 c2
      simp (disch := omega) only [go_sem, K.ref03_Least_l4b, ↓reduceIte, hx, en, ti, c1, c2, c3, and_self, Bool.or_true, List.length_set, Nat.reduceAdd, Nat.reduceSub]
    · rw [if_neg c]
      by_cases c1 : 0 ≤ t
      · by_cases c2 : nth l frm.toNat < 1099511627776
        · have := a2 c2
          have c3 : ¬ nth l frm.toNat + t < nth l to.toNat := fun x => c ⟨⟨c1, c2⟩, x⟩
          simp (disch := omega) only [go_sem, K.ref03_Least_l4b, ↓reduceIte, hx, en, ti, c1, c2, c3, Bool.or_false, Nat.reduceAdd, Nat.reduceSub]
        · simp (disch := omega) only [go_sem, K.ref03_Least_l4b, ↓reduceIte, hx, en, ti, c1, c2, Bool.or_false, Nat.reduceAdd, Nat.reduceSub]
      · simp (disch := omega) only [go_sem, K.ref03_Least_l4b, ↓reduceIte, hx, en, ti, c1, Bool.or_false, Nat.reduceAdd, Nat.reduceSub]
  | true =>
    simp only [Road.src, Road.dst, Bool.false_eq_true, ↓reduceIte] at *
    by_cases c : (0 ≤ t ∧ nth l to.toNat < 1099511627776) ∧ nth l to.toNat + t < nth l frm.toNat
    · obtain ⟨⟨c1, c2⟩, c3⟩ := c
      have := a2 c2
      simp (disch := omega) only [go_sem, K.ref03_Least_l4b, ↓reduceIte, hx, en, ti, c1, c2, c3, and_self, Bool.or_true, List.length_set, Int.reduceAdd, Nat.reduceAdd, Nat.reduceSub]
    · rw [if_neg c]
      by_cases c1 : 0 ≤ t
      · by_cases c2 : nth l to.toNat < 1099511627776
        · have := a2 c2
          have c3 : ¬ nth l to.toNat + t < nth l frm.toNat := fun x => c ⟨⟨c1, c2⟩, x⟩
          simp (disch := omega) only [go_sem, K.ref03_Least_l4b, ↓reduceIte, hx, en, ti, c1, c2, c3, Bool.or_false, Int.reduceAdd, Nat.reduceAdd, Nat.reduceSub]
        · simp (disch := omega) only [go_sem, K.ref03_Least_l4b, ↓reduceIte, hx, en, ti, c1, c2, Bool.or_false, Int.reduceAdd, Nat.reduceAdd, Nat.reduceSub]
      · simp (disch := omega) only [go_sem, K.ref03_Least_l4b, ↓reduceIte, hx, en, ti, c1, Bool.or_false, Int.reduceAdd, Nat.reduceAdd, Nat.reduceSub]

theorem hl_step (m : Mine) (s : Int) (k : Nat) (q : List Int × Bool) : hlF m s k true (hlF m s k false q) = stepF m s none k q := rfl
theorem least_loop4 {m : Mine} (h : m.ok) {s M : Int} (h0 : 0 ≤ s) (hs : s ≤ M) (hM : M ≤ 1000000) {l : List Int} (hl : l.length = m.places.length) (hb : bnd l) (g : Gd m s M l) (k : Nat) (hk : k < m.roads.length) (ag : Bool) :
    ∀ z0 z1 z3 z4 z9 z10 z11 : D, exS CALL K.ref03_Least_l4 ⟨[z0, z1, .bp 0 0, z3, z4, .ref 1 0 l.length, B ag, I k, I 0, z9, z10, z11], [.box (mineCells m), .arr 1 false 0 ((l.map (T.int .i64)).map .t)]⟩ =
      some (.exit 6, ltS m k (stepF m s none k (l, ag)) 2) := by
  intro z0 z1 z3 z4 z9 z10 z11
  have hb2 := halfF_bnd h (t := s) (into := none) hl hb (k := k) (by omega) false
  have g2 := gd_half h h0 hs hl hb g k hk false
  have e1 := least_half h hM hl hb g k hk ag false
  have e2 := least_half h hM (by rw [halfF_len, hl]) hb2 g2 k hk (hlF m s k false (l, ag)).2 true
  rw [← hl_step]
  refine loop_up (fun j => ltS m k (match j with | 0 => (l, ag) | 1 => hlF m s k false (l, ag) | _ => hlF m s k true (hlF m s k false (l, ag))) j) 2 rfl ?_ ?_ (by simp)
  · intro j hj
    match j, hj with
    | 0, _ => exact e1
    | 1, _ => exact e2
  · generalize hlF m s k true (hlF m s k false (l, ag)) = q
    obtain ⟨l2, b2⟩ := q
    simp only [ltS]
    simp (disch := omega) only [go_sem, K.ref03_Least_l4b, ↓reduceIte, q_cast_two, Nat.reduceAdd, Nat.reduceSub]
theorem least_loop3 {m : Mine} (h : m.ok) {s M : Int} (h0 : 0 ≤ s) (hs : s ≤ M) (hM : M ≤ 1000000) {l : List Int} (hl : l.length = m.places.length) (hb : bnd l) (g : Gd m s M l) :
    ∀ z0 z1 z3 z4 z8 z9 z10 z11 : D, exS CALL K.ref03_Least_l3 ⟨[z0, z1, .bp 0 0, z3, z4, .ref 1 0 l.length, B false, I 0, z8, z9, z10, z11], [.box (mineCells m), .arr 1 false 0 ((l.map (T.int .i64)).map .t)]⟩ =
      some (.exit 4, ⟨[.und, .und, .bp 0 0, .und, .und, .ref 1 0 l.length, B (roundF m s none l).2, I m.roads.length, .und, .und, .und, .und], [.box (mineCells m), .arr 1 false 0 (((roundF m s none l).1.map (T.int .i64)).map .t)]⟩) := by
  intro z0 z1 z3 z4 z8 z9 z10 z11
  have nr := h.nr
  refine loop_up (fun j => ⟨[.und, .und, .bp 0 0, .und, .und, .ref 1 0 l.length, B (stepsF m s none l j).2, I j, .und, .und, .und, .und], [.box (mineCells m), .arr 1 false 0 (((stepsF m s none l j).1.map (T.int .i64)).map .t)]⟩) m.roads.length rfl ?_ ?_ (by simp)
  · intro j hj
    have ln := stepsF_len m s none l j
    have lp := least_loop4 h h0 hs hM (by rw [ln, hl]) (stepsF_bnd h (t := s) (into := none) hl hb j (by omega)) (gd_steps h h0 hs hl hb g j (by omega)) j hj (stepsF m s none l j).2
    rw [show ((stepsF m s none l j).1, (stepsF m s none l j).2) = stepsF m s none l j from rfl, show stepF m s none j (stepsF m s none l j) = stepsF m s none l (j + 1) from rfl] at lp
    have ln2 := stepsF_len m s none l (j + 1)
    simp only [ltS] at lp
    rw [ln, ln2] at lp
    generalize stepsF m s none l j = q1 at *
    generalize stepsF m s none l (j + 1) = q2 at *
    obtain ⟨a1, b1⟩ := q1
    obtain ⟨a2, b2⟩ := q2
    obtain ⟨places, roads⟩ := m
    simp only [mineCells] at *
    clear hb g
    simp (disch := omega) only [go_sem, K.ref03_Least_l3b, ↓reduceIte, lp, Nat.reduceAdd, Nat.reduceSub]
  · have ln := stepsF_len m s none l m.roads.length
    rw [show roundF m s none l = stepsF m s none l m.roads.length from rfl]
    generalize stepsF m s none l m.roads.length = q1 at *
    obtain ⟨a1, b1⟩ := q1
    obtain ⟨places, roads⟩ := m
    simp only [mineCells] at *
    clear hb g
    simp (disch := omega) only [go_sem, K.ref03_Least_l3b, ↓reduceIte, Nat.reduceAdd, Nat.reduceSub]
theorem least_ok {m : Mine} (h : m.ok) {s M : Int} (h0 : 0 ≤ s) (hs : s ≤ M) (hM : M ≤ 1000000) {l : List Int} (hl : l.length = m.places.length) (hb : bnd l) (g : Gd m s M l) :
    CALL 0 N.ref03_Least [.t m.e, .t (tL l)] [] = some (.t (tL (closeF m s none l)), []) := by
  refine CALL_of K.t_ref03_Least rfl ?_
  have np := h.np
  have ck := check_ok h
  have lp : ∀ z0 z3 z5 z6 z7 z8 z9 z10 z11 : D, exS CALL K.ref03_Least_l1 ⟨[z0, .t (tL l), .bp 0 0, z3, I 0, z5, z6, z7, z8, z9, z10, z11], [.box (mineCells m)]⟩ =
      some (.exit 0, ⟨[.und, .t (tL l), .bp 0 0, .und, I l.length, .und, .und, .und, .und, .und, .und, .und], [.box (mineCells m)]⟩) := by
    intro z0 z3 z5 z6 z7 z8 z9 z10 z11
    refine loop_up (fun j => ⟨[.und, .t (tL l), .bp 0 0, .und, I j, .und, .und, .und, .und, .und, .und, .und], [.box (mineCells m)]⟩) l.length rfl ?_ ?_ (by simp)
    · intro j hj
      have b := hb _ (nth_mem hj)
      obtain ⟨places, roads⟩ := m
      simp only [mineCells] at *
      clear hb g
      simp (disch := omega) only [go_sem, K.ref03_Least_l1b, ↓reduceIte, Nat.reduceAdd, Nat.reduceSub]
    · obtain ⟨places, roads⟩ := m
      simp only [mineCells] at *
      clear hb g
      simp (disch := omega) only [go_sem, K.ref03_Least_l1b, ↓reduceIte, Nat.reduceAdd, Nat.reduceSub]
  have outer := fun (z0 z1 z3 z4 z7 z8 z9 z10 z11 : D) => loop_again (gc := true) (dead := [0, 1, 3, 4, 7, 8, 9, 10, 11]) (c := K.ref03_Least_l2b) (vs := [z0, z1, .bp 0 0, z3, z4, .ref 1 0 l.length, B true, z7, z8, z9, z10, z11]) (H := [.box (mineCells m), .arr 1 false 0 ((l.map (T.int .i64)).map .t)])
    (fun l ag => ⟨[.und, .und, .bp 0 0, .und, .und, .ref 1 0 l.length, B ag, .und, .und, .und, .und, .und], [.box (mineCells m), .arr 1 false 0 ((l.map (T.int .i64)).map .t)]⟩)
    (fun l => (.exit 2, ⟨[.und, .und, .bp 0 0, .und, .und, .ref 1 0 l.length, B false, .und, .und, .und, .und, .und], [.box (mineCells m), .arr 1 false 0 ((l.map (T.int .i64)).map .t)]⟩))
    (roundF m s none) (fun l => (l.length = m.places.length ∧ bnd l) ∧ Gd m s M l) sumN
    (fun l ⟨⟨hl, hb⟩, g⟩ => ⟨⟨⟨by rw [roundF, stepsF_len, hl], stepsF_bnd h hl hb _ (Nat.le_refl _)⟩, gd_steps h h0 hs hl hb g _ (Nat.le_refl _)⟩, (stepsF_sum h hl hb _ (Nat.le_refl _)).1⟩)
    (by
      rintro l ⟨⟨hl, hb⟩, g⟩
      have inner := least_loop3 h h0 hs hM hl hb g
      have e : (roundF m s none l).1.length = l.length := by rw [roundF, stepsF_len]
      generalize roundF m s none l = q at *
      obtain ⟨a, b⟩ := q
      obtain ⟨places, roads⟩ := m
      simp only [mineCells] at *
      clear hb g
      simp (disch := omega) only [go_sem, K.ref03_Least_l2b, ↓reduceIte, inner, e, Nat.reduceAdd, Nat.reduceSub]
      )
    (by
      rintro l ⟨⟨hl, hb⟩, g⟩
      obtain ⟨places, roads⟩ := m
      simp only [mineCells] at *
      clear hb g
      simp (disch := omega) only [go_sem, K.ref03_Least_l2b, ↓reduceIte, reduceCtorEq, ne_eq, not_false_eq_true, and_self, Nat.reduceAdd, Nat.reduceSub]
      )
    l ⟨⟨hl, hb⟩, g⟩ rfl
  have o1 : ∀ z0 z1 z3 z4 z7 z8 z9 z10 z11 : D, exS CALL K.ref03_Least_l2 ⟨[z0, z1, .bp 0 0, z3, z4, .ref 1 0 l.length, B true, z7, z8, z9, z10, z11], [.box (mineCells m), .arr 1 false 0 ((l.map (T.int .i64)).map .t)]⟩ = _ := fun z0 z1 z3 z4 z7 z8 z9 z10 z11 => (outer z0 z1 z3 z4 z7 z8 z9 z10 z11).1
  obtain ⟨-, ⟨o2, -⟩, -⟩ := outer .und .und .und .und .und .und .und .und .und
  clear outer
  unfold closeF
  generalize closeN (roundF m s none) (sumN l + 1) l = l2 at *
  obtain ⟨places, roads⟩ := m
  simp only [mineCells] at *
  clear hb g
  simp (disch := omega) only [go_sem, K.ref03_Least, ↓reduceIte, ck, lp, o1, Nat.reduceAdd, Nat.reduceSub]
end Go.Ev

/- PlacesShift. -/
namespace Go.Ev
open Go
variable [Lib] [Has1] [Has2] [Has3] [Has4] [Has5] [Has6] [Has7] [Has8] [Has9]

def shW (s : Int) (w : Wh) : Wh := ⟨w.time + s, shL s w.frm⟩
/-- The times are not too late. -/
def FB (K : Int) (w : Wh) : Prop := ∀ j, nth w.frm j < 1099511627776 → nth w.frm j ≤ K
end Go.Ev

/- PlacesMade. -/
namespace Go.Ev
open Go
variable [Lib] [Has1] [Has2] [Has3] [Has4] [Has5] [Has6] [Has7] [Has8] [Has9]

def flipR (l : List Road) (k : Nat) : List Road := l.set k { nth l k with closed := !(nth l k).closed }
abbrev pmS (e : Dice) (m : Mine) (w v : Wh) (j : Int) : St := ⟨[.und, .und, .bp 0 0, .bp 1 0, .bp 2 0, .bp 3 0, I j, .und, .und, .und, .und, .und], [e.obj, .box (mineCells m), .box [I w.time, .t (tL w.frm)], .box [I v.time, .t (tL v.frm)]]⟩
end Go.Ev

/- PlacesShift's law. -/
namespace Go.Ev
open Go
variable [Lib] [Has1] [Has2] [Has3] [Has4] [Has5] [Has6] [Has7] [Has8] [Has9]

abbrev psS (e : Dice) (m : Mine) (s : Int) (w : Wh) (now k : Int) : St := ⟨[.und, .und, .und, .bp 0 0, .bp 1 0, I s, .und, .bp 2 0, .und, .bp 3 0, .und, I now, I k, .und, .und, .und, .und, .und], [e.obj, .box (mineCells m), .box [I w.time, .t (tL w.frm)], .box [I (w.time + s), .t (tL (shL s w.frm))]]⟩
def psP (m : Mine) (s : Int) (k0 j : Nat) (st : St) : Prop := ∃ (e : Dice) (w : Wh) (now : Int), st = psS e m s w now ((k0 : Int) - j) ∧ e.light ∧ validB m w = true ∧ FB (1000 + 150 * (j : Int) + (2 * (j : Int) + 1) * ((m.places.length : Int) * 1000012)) w ∧ w.time ≤ now ∧ 50 ≤ now ∧ now ≤ 50 + 150 * (j : Int)
end Go.Ev

/- PlacesLeast's law. -/
namespace Go.Ev
open Go
variable [Lib] [Has1] [Has2] [Has3] [Has4] [Has5] [Has6] [Has7] [Has8] [Has9]

theorem PlacesLeast_law (aw : CALL 0 N.law25_awake [] [] = some (B true, [])) (li : List Int) (more : Int) : CALL 0 N.law25_PlacesLeast [.t (tL li), I more] [] = some (B true, []) := by
  refine CALL_of K.t_law25_PlacesLeast rfl ?_
  have lo := light_ok li
  by_cases c : li.length ≤ 400
  · simp only [c, decide_true] at lo
    have ro := roll_x li
    have d0 : (Dice.mk li 0).light := c
    generalize (Dice.mk li 0) = d at *
    obtain ⟨m, e1, mo, l1, hm, p1, p2, r1, r2⟩ := mine_x d0
    have md := mod_ok more 100000 (by omega)
    have s0 := Mod_lo more 100000
    have s9 := Mod_hi more 100000 (by omega)
    generalize Mod more 100000 = s at *
    obtain ⟨p, e2, po, l2, p0, p9⟩ := next_x l1 m.places.length (by omega) (by omega)
    have a1 := pstart_ok hm (by omega) p s
    obtain ⟨se, sv⟩ := start_valid hm p0 p9 (t := s) ⟨by omega, by omega⟩
    have ln : ((neverL m.places.length).set p.toNat s).length = m.places.length := by simp
    have pl : ∀ x ∈ (neverL m.places.length).set p.toNat s, plT x := by
      intro x hx
      rcases List.mem_or_eq_of_mem_set hx with hx | hx
      · exact neverL_pl _ x hx
      · subst hx; exact .inr (by unfold inT; omega)
    have fk : ∀ j, j < m.places.length → nth ((neverL m.places.length).set p.toNat s) j = if p.toNat = j then s else 1099511627776 := by
      intro j jl
      rw [nth_set (by rw [neverL_len]; omega)]
      split
      · rfl
      · exact nth_eq (by simp [neverL, jl])
    have gd : Gd m s 200000 ((neverL m.places.length).set p.toNat s) := by
      refine ⟨fun j hj => ?_, fun j hj => ?_⟩
      · rw [fk j hj]; split <;> omega
      · by_cases jl : j < m.places.length
        · rw [fk j jl] at hj ⊢
          split
          · omega
          · rename_i d; rw [if_neg d] at hj; omega
        · rw [nth_outW (by omega)]; omega
    have le := least_ok hm (M := 200000) s0 (by omega) (by omega) ln (fun x hx => plT_bnd (pl x hx)) gd
    rw [se] at a1
    have cl := closeF_lb hm (t := s) (into := none) ln (fun x hx => plT_bnd (pl x hx))
    have sm := same_ok (closeF m s none ((neverL m.places.length).set p.toNat s)) (closeF m s none ((neverL m.places.length).set p.toNat s)) (by omega)
    simp only [decide_true] at sm
    clear se sv fk gd pl
    generalize closeF m s none ((neverL m.places.length).set p.toNat s) = x at *
    have nl := neverL_len
    have ns := neverL_succ
    have lp : ∀ z0 z1 z2 z3 z9 z10 : D, exS CALL K.law25_PlacesLeast_l1 ⟨[z0, z1, z2, z3, .bp 1 0, I p, I s, .ref 2 0 0, I 0, z9, z10], [e2.obj, .box (mineCells m), .arr 1 false 0 []]⟩ =
        some (.exit 0, ⟨[.und, .und, .und, .und, .bp 1 0, I p, I s, .ref 2 0 (neverL m.places.length).length, I m.places.length, .und, .und], [e2.obj, .box (mineCells m), .arr 1 false 0 (((neverL m.places.length).map (T.int .i64)).map .t)]⟩) := by
      intro z0 z1 z2 z3 z9 z10
      refine loop_up (fun j => ⟨[.und, .und, .und, .und, .bp 1 0, I p, I s, .ref 2 0 (neverL j).length, I j, .und, .und], [e2.obj, .box (mineCells m), .arr 1 false 0 (((neverL j).map (T.int .i64)).map .t)]⟩) m.places.length rfl ?_ ?_ (by simp)
      · intro j hj
        obtain ⟨places, roads⟩ := m
        simp only [mineCells] at *
        simp (disch := omega) only [go_sem, K.law25_PlacesLeast_l1b, ↓reduceIte, ns, nl, List.map_append, List.map_cons, List.map_nil, Nat.reduceAdd, Nat.reduceSub]
      · obtain ⟨places, roads⟩ := m
        simp only [mineCells] at *
        simp (disch := omega) only [go_sem, K.law25_PlacesLeast_l1b, ↓reduceIte, nl, Nat.reduceAdd, Nat.reduceSub]
    clear ns
    have nm := nl m.places.length
    generalize neverL m.places.length = ne at *
    obtain ⟨places, roads⟩ := m
    simp only [mineCells] at *
    simp (disch := omega) only [go_sem, K.law25_PlacesLeast, ↓reduceIte, lo, ro, mo, md, po, lp, a1, aw, le, sm, Nat.reduceAdd, Nat.reduceSub]
  · simp only [c, decide_false] at lo
    simp (disch := omega) only [go_sem, K.law25_PlacesLeast, ↓reduceIte, lo, aw, Nat.reduceAdd, Nat.reduceSub]
end Go.Ev

