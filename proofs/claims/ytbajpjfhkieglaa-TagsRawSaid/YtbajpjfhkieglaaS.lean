/- MADE BY PROGRAM (lib.py): the numbers that the functions have in this program, and the check of each one. -/
import Derived.Test.YtbajpjfhkieglaaProg
import Derived.Shelf.Abstract
import Derived.RangeFuncBox
import Derived.RangeFuncLeaves
import Derived.WalkKit
import Derived.OwnWalkIn
import Derived.TacticsInMore
import Derived.LoopNIn
import Derived.LoopIn
import Derived.Test.YtbajpjfhkieglaaZ3
import Derived.KernelRfl
set_option linter.all false
set_option maxRecDepth 100000
namespace Go.Proofs.Ytbajpjfhkieglaa
open Go.Ev
def real : List (Option Nat) := [none, none, none, none, none, none, none, none, none, none, none, none, none, none, none, none, none, none, none, none, none, none, none, none, none, none, none, none, none, none, none, none, none, none, none, none, none, none, none, none, none, none, none, none, none, none, none, none, none, some 35, none, none, none, none, none, none, none, none, none, none, none, none, some 33, none, none, none, some 47, none, none, none, none, some 37, none, none, none, none, none, none, none, none, none, none, none, none, none, none, none, none, none, none, none, none, none, none, none, none, none, none, none, none, none, none, none, none, none, some 44, none, none, none, none, none, none, none, none, none, none, none, none, none, none, none, none, none, none, none, none, none, none, none, none, none, none, none, none, none, none, none, none, none, none, none, none, none, none, none, none, none, none, none, none, none, none, none, none, none, none, none, none, none, none, some 34, none, none, none, none, none, none, none, none, none, some 46, none, none, none, none, none, some 50, none, none, none, none, none, none, none, none, none, none, none, none, none, none, none, none, none, none, none, none, none, none, none, none, none, none, none, some 39, none, none, none, none, none, none, none, none, none, none, none, none, none, none, none, none, none, none, none, none, none, none, none, none, none, none, none, none, none, none, none, none, none, none, none, none, none, none, none, none, none, none, none, none, none, none, none, none, none, none, none, none, none, none, none, none, none, none, none, none, none, none, none, none, none, none, none, none, none, none, none, none, none, none, none, none, none, none, none, none, none, none, none, none, none, none, none, none, none, none, none, none, none, none, none, none, none, none, none, none, none, none, none, none, none, none, none, none, none, none, none, none, none, none, none, none, none, none, none, none, none, none, none, none, none, none, none, none, none, none, none, none, none, none, none, none, none, none, none, none, none, none, none, none, none, none, none, none, none, none, none, none, none, none, none, none, none, some 30, none, none, none, none, none, none, none, none, none, none, none, none, none, none, none, none, none, none, none, none, none, some 3, none, none, none, none, some 8, some 9, some 10, none, some 15, none, none, some 19, some 20, none, some 23, none, some 25, some 26, some 27, some 28, some 29, some 31, some 32, some 36, some 38, none, some 41, some 42, some 43, some 45, some 48]
def tab : List (Option Go.Ev.Fn) := [none, none, none, none, none, none, none, none, none, none, none, none, none, none, none, none, none, none, none, none, none, none, none, none, none, none, none, none, none, none, none, none, none, none, none, none, none, none, none, none, none, none, none, none, none, none, none, none, none, some K.aj, none, none, none, none, none, none, none, none, none, none, none, none, some K.aI, none, none, none, some K.au, none, none, none, none, some K.bK, none, none, none, none, none, none, none, none, none, none, none, none, none, none, none, none, none, none, none, none, none, none, none, none, none, none, none, none, none, none, none, none, none, some K.bg, none, none, none, none, none, none, none, none, none, none, none, none, none, none, none, none, none, none, none, none, none, none, none, none, none, none, none, none, none, none, none, none, none, none, none, none, none, none, none, none, none, none, none, none, none, none, none, none, none, none, none, none, none, none, some K.aB, none, none, none, none, none, none, none, none, none, some K.bw, none, none, none, none, none, some K.aW, none, none, none, none, none, none, none, none, none, none, none, none, none, none, none, none, none, none, none, none, none, none, none, none, none, none, none, some K.ax, none, none, none, none, none, none, none, none, none, none, none, none, none, none, none, none, none, none, none, none, none, none, none, none, none, none, none, none, none, none, none, none, none, none, none, none, none, none, none, none, none, none, none, none, none, none, none, none, none, none, none, none, none, none, none, none, none, none, none, none, none, none, none, none, none, none, none, none, none, none, none, none, none, none, none, none, none, none, none, none, none, none, none, none, none, none, none, none, none, none, none, none, none, none, none, none, none, none, none, none, none, none, none, none, none, none, none, none, none, none, none, none, none, none, none, none, none, none, none, none, none, none, none, none, none, none, none, none, none, none, none, none, none, none, none, none, none, none, none, none, none, none, none, none, none, none, none, none, none, none, none, none, none, none, none, none, none, some K.az, none, none, none, none, none, none, none, none, none, none, none, none, none, none, none, none, none, none, none, none, none, some K.aL, none, none, none, none, some K.bB, some K.bC, some K.bG, none, some K.bl, none, none, some K.cm, some K.aQ, none, some K.cP, none, some K.bq, some K.aC, some K.bh, some K.a8, some K.aK, some K.aO, some K.aM, some K.aF, some K.aG, none, some K.aY, some K.aR, some K.ao, some K.bN, some K.ai]
instance names : Names := { ρ := fun f => (real[f]?).join, it := fun f => f == 415 }
instance lib : Lib := ⟨fun f => (tab[f]?).join⟩
instance has1 : fc := ⟨⟩
instance has2 : eA := ⟨rfl, rfl, rfl, rfl⟩
instance has3 : sY := ⟨⟩
instance has4 : rL := ⟨rfl⟩
instance has6 : oY := ⟨rfl, rfl⟩
instance has7 : pR := ⟨rfl⟩
instance has8 : s9 := ⟨⟩
instance has9 : r7 := ⟨rfl⟩
instance has17 : kt := ⟨rfl⟩
instance has19 : cA := ⟨rfl, rfl, rfl, rfl, rfl, rfl, rfl, rfl, rfl, rfl, rfl, rfl, rfl, rfl, rfl, rfl, rfl, rfl, rfl, rfl⟩
instance has20 : ke := ⟨rfl, rfl⟩
theorem cV : bV Try.prog Try.f35 K.aj = true := by kernel_rfl
theorem jh : bV Try.prog Try.f33 K.aI = true := by kernel_rfl
theorem dA : bV Try.prog Try.f47 K.au = true := by kernel_rfl
theorem qb : bV Try.prog Try.f37 K.bK = true := by kernel_rfl
theorem ku : bV Try.prog Try.f44 K.bg = true := by kernel_rfl
theorem eK : bV Try.prog Try.f34 K.aB = true := by kernel_rfl
theorem kl : bV Try.prog Try.f46 K.bw = true := by kernel_rfl
theorem iI : bV Try.prog Try.f50 K.aW = true := by kernel_rfl
theorem eR : bV Try.prog Try.f39 K.ax = true := by kernel_rfl
theorem lI : bV Try.prog Try.f30 K.az = true := by kernel_rfl
theorem km : bV Try.prog Try.f3 K.aL = true := by kernel_rfl
theorem lJ : bV Try.prog Try.f8 K.bB = true := by kernel_rfl
theorem lK : bV Try.prog Try.f9 K.bC = true := by kernel_rfl
theorem mT : bV Try.prog Try.f10 K.bG = true := by kernel_rfl
theorem lL : bV Try.prog Try.f15 K.bl = true := by kernel_rfl
theorem mU : bV Try.prog Try.f19 K.cm = true := by kernel_rfl
theorem ib : bV Try.prog Try.f20 K.aQ = true := by kernel_rfl
theorem n9 : bV Try.prog Try.f23 K.cP = true := by kernel_rfl
theorem mV : bV Try.prog Try.f25 K.bq = true := by kernel_rfl
theorem iJ : bV Try.prog Try.f26 K.aC = true := by kernel_rfl
theorem mW : bV Try.prog Try.f27 K.bh = true := by kernel_rfl
theorem oa : bV Try.prog Try.f28 K.a8 = true := by kernel_rfl
theorem mX : bV Try.prog Try.f29 K.aK = true := by kernel_rfl
theorem mY : bV Try.prog Try.f31 K.aO = true := by kernel_rfl
theorem oc : bV Try.prog Try.f32 K.aM = true := by kernel_rfl
theorem fL : bV Try.prog Try.f36 K.aF = true := by kernel_rfl
theorem fM : bV Try.prog Try.f38 K.aG = true := by kernel_rfl
theorem od : bV Try.prog Try.f41 K.aY = true := by kernel_rfl
theorem kv : bV Try.prog Try.f42 K.aR = true := by kernel_rfl
theorem ec : bV Try.prog Try.f43 K.ao = true := by kernel_rfl
theorem oe : bV Try.prog Try.f45 K.bN = true := by kernel_rfl
theorem dB : bV Try.prog Try.f48 K.ai = true := by kernel_rfl
theorem G5 : nE Try.prog real tab :=
 ⟨trivial, ⟨trivial, ⟨trivial, ⟨trivial, ⟨trivial, ⟨trivial, ⟨trivial, ⟨trivial, ⟨trivial, ⟨trivial, ⟨trivial, ⟨trivial, ⟨trivial, ⟨trivial, ⟨trivial, ⟨trivial, ⟨trivial, ⟨trivial, ⟨trivial, ⟨trivial, ⟨trivial, ⟨trivial, ⟨trivial, ⟨trivial, ⟨trivial, ⟨trivial, ⟨trivial, ⟨trivial, ⟨trivial, ⟨trivial, ⟨trivial, ⟨trivial, ⟨trivial, ⟨trivial, ⟨trivial, ⟨trivial, ⟨trivial, ⟨trivial, ⟨trivial, ⟨trivial, ⟨trivial, ⟨trivial, ⟨trivial, ⟨trivial, ⟨trivial, ⟨trivial, ⟨trivial, ⟨trivial, ⟨trivial, ⟨⟨by kernel_rfl, aA Try.func35 cV⟩, ⟨trivial, ⟨trivial, ⟨trivial, ⟨trivial, ⟨trivial, ⟨trivial, ⟨trivial, ⟨trivial, ⟨trivial, ⟨trivial, ⟨trivial, ⟨trivial, ⟨⟨by kernel_rfl, aA Try.func33 jh⟩, ⟨trivial, ⟨trivial, ⟨trivial, ⟨⟨by kernel_rfl, aA Try.func47 dA⟩, ⟨trivial, ⟨trivial, ⟨trivial, ⟨trivial, ⟨⟨by kernel_rfl, aA Try.func37 qb⟩, ⟨trivial, ⟨trivial, ⟨trivial, ⟨trivial, ⟨trivial, ⟨trivial, ⟨trivial, ⟨trivial, ⟨trivial, ⟨trivial, ⟨trivial, ⟨trivial, ⟨trivial, ⟨trivial, ⟨trivial, ⟨trivial, ⟨trivial, ⟨trivial, ⟨trivial, ⟨trivial, ⟨trivial, ⟨trivial, ⟨trivial, ⟨trivial, ⟨trivial, ⟨trivial, ⟨trivial, ⟨trivial, ⟨trivial, ⟨trivial, ⟨trivial, ⟨trivial, ⟨trivial, ⟨⟨by kernel_rfl, aA Try.func44 ku⟩, ⟨trivial, ⟨trivial, ⟨trivial, ⟨trivial, ⟨trivial, ⟨trivial, ⟨trivial, ⟨trivial, ⟨trivial, ⟨trivial, ⟨trivial, ⟨trivial, ⟨trivial, ⟨trivial, ⟨trivial, ⟨trivial, ⟨trivial, ⟨trivial, ⟨trivial, ⟨trivial, ⟨trivial, ⟨trivial, ⟨trivial, ⟨trivial, ⟨trivial, ⟨trivial, ⟨trivial, ⟨trivial, ⟨trivial, ⟨trivial, ⟨trivial, ⟨trivial, ⟨trivial, ⟨trivial, ⟨trivial, ⟨trivial, ⟨trivial, ⟨trivial, ⟨trivial, ⟨trivial, ⟨trivial, ⟨trivial, ⟨trivial, ⟨trivial, ⟨trivial, ⟨trivial, ⟨trivial, ⟨trivial, ⟨trivial, ⟨trivial, ⟨trivial, ⟨trivial, ⟨trivial, ⟨trivial, ⟨⟨by kernel_rfl, aA Try.func34 eK⟩, ⟨trivial, ⟨trivial, ⟨trivial, ⟨trivial, ⟨trivial, ⟨trivial, ⟨trivial, ⟨trivial, ⟨trivial, ⟨⟨by kernel_rfl, aA Try.func46 kl⟩, ⟨trivial, ⟨trivial, ⟨trivial, ⟨trivial, ⟨trivial, ⟨⟨by kernel_rfl, aA Try.func50 iI⟩, ⟨trivial, ⟨trivial, ⟨trivial, ⟨trivial, ⟨trivial, ⟨trivial, ⟨trivial, ⟨trivial, ⟨trivial, ⟨trivial, ⟨trivial, ⟨trivial, ⟨trivial, ⟨trivial, ⟨trivial, ⟨trivial, ⟨trivial, ⟨trivial, ⟨trivial, ⟨trivial, ⟨trivial, ⟨trivial, ⟨trivial, ⟨trivial, ⟨trivial, ⟨trivial, ⟨trivial, ⟨⟨by kernel_rfl, aA Try.func39 eR⟩, ⟨trivial, ⟨trivial, ⟨trivial, ⟨trivial, ⟨trivial, ⟨trivial, ⟨trivial, ⟨trivial, ⟨trivial, ⟨trivial, ⟨trivial, ⟨trivial, ⟨trivial, ⟨trivial, ⟨trivial, ⟨trivial, ⟨trivial, ⟨trivial, ⟨trivial, ⟨trivial, ⟨trivial, ⟨trivial, ⟨trivial, ⟨trivial, ⟨trivial, ⟨trivial, ⟨trivial, ⟨trivial, ⟨trivial, ⟨trivial, ⟨trivial, ⟨trivial, ⟨trivial, ⟨trivial, ⟨trivial, ⟨trivial, ⟨trivial, ⟨trivial, ⟨trivial, ⟨trivial, ⟨trivial, ⟨trivial, ⟨trivial, ⟨trivial, ⟨trivial, ⟨trivial, ⟨trivial, ⟨trivial, ⟨trivial, ⟨trivial, ⟨trivial, ⟨trivial, ⟨trivial, ⟨trivial, ⟨trivial, ⟨trivial, ⟨trivial, ⟨trivial, ⟨trivial, ⟨trivial, ⟨trivial, ⟨trivial, ⟨trivial, ⟨trivial, ⟨trivial, ⟨trivial, ⟨trivial, ⟨trivial, ⟨trivial, ⟨trivial, ⟨trivial, ⟨trivial, ⟨trivial, ⟨trivial, ⟨trivial, ⟨trivial, ⟨trivial, ⟨trivial, ⟨trivial, ⟨trivial, ⟨trivial, ⟨trivial, ⟨trivial, ⟨trivial, ⟨trivial, ⟨trivial, ⟨trivial, ⟨trivial, ⟨trivial, ⟨trivial, ⟨trivial, ⟨trivial, ⟨trivial, ⟨trivial, ⟨trivial, ⟨trivial, ⟨trivial, ⟨trivial, ⟨trivial, ⟨trivial, ⟨trivial, ⟨trivial, ⟨trivial, ⟨trivial, ⟨trivial, ⟨trivial, ⟨trivial, ⟨trivial, ⟨trivial, ⟨trivial, ⟨trivial, ⟨trivial, ⟨trivial, ⟨trivial, ⟨trivial, ⟨trivial, ⟨trivial, ⟨trivial, ⟨trivial, ⟨trivial, ⟨trivial, ⟨trivial, ⟨trivial, ⟨trivial, ⟨trivial, ⟨trivial, ⟨trivial, ⟨trivial, ⟨trivial, ⟨trivial, ⟨trivial, ⟨trivial, ⟨trivial, ⟨trivial, ⟨trivial, ⟨trivial, ⟨trivial, ⟨trivial, ⟨trivial, ⟨trivial, ⟨trivial, ⟨trivial, ⟨trivial, ⟨trivial, ⟨trivial, ⟨trivial, ⟨trivial, ⟨trivial, ⟨trivial, ⟨trivial, ⟨trivial, ⟨trivial, ⟨trivial, ⟨trivial, ⟨trivial, ⟨trivial, ⟨trivial, ⟨⟨by kernel_rfl, aA Try.func30 lI⟩, ⟨trivial, ⟨trivial, ⟨trivial, ⟨trivial, ⟨trivial, ⟨trivial, ⟨trivial, ⟨trivial, ⟨trivial, ⟨trivial, ⟨trivial, ⟨trivial, ⟨trivial, ⟨trivial, ⟨trivial, ⟨trivial, ⟨trivial, ⟨trivial, ⟨trivial, ⟨trivial, ⟨trivial, ⟨⟨by kernel_rfl, aA Try.func3 km⟩, ⟨trivial, ⟨trivial, ⟨trivial, ⟨trivial, ⟨⟨by kernel_rfl, aA Try.func8 lJ⟩, ⟨⟨by kernel_rfl, aA Try.func9 lK⟩, ⟨⟨by kernel_rfl, aA Try.func10 mT⟩, ⟨trivial, ⟨⟨by kernel_rfl, aA Try.func15 lL⟩, ⟨trivial, ⟨trivial, ⟨⟨by kernel_rfl, aA Try.func19 mU⟩, ⟨⟨by kernel_rfl, aA Try.func20 ib⟩, ⟨trivial, ⟨⟨by kernel_rfl, aA Try.func23 n9⟩, ⟨trivial, ⟨⟨by kernel_rfl, aA Try.func25 mV⟩, ⟨⟨by kernel_rfl, aA Try.func26 iJ⟩, ⟨⟨by kernel_rfl, aA Try.func27 mW⟩, ⟨⟨by kernel_rfl, aA Try.func28 oa⟩, ⟨⟨by kernel_rfl, aA Try.func29 mX⟩, ⟨⟨by kernel_rfl, aA Try.func31 mY⟩, ⟨⟨by kernel_rfl, aA Try.func32 oc⟩, ⟨⟨by kernel_rfl, aA Try.func36 fL⟩, ⟨⟨by kernel_rfl, aA Try.func38 fM⟩, ⟨trivial, ⟨⟨by kernel_rfl, aA Try.func41 od⟩, ⟨⟨by kernel_rfl, aA Try.func42 kv⟩, ⟨⟨by kernel_rfl, aA Try.func43 ec⟩, ⟨⟨by kernel_rfl, aA Try.func45 oe⟩, ⟨⟨by kernel_rfl, aA Try.func48 dB⟩, trivial⟩⟩⟩⟩⟩⟩⟩⟩⟩⟩⟩⟩⟩⟩⟩⟩⟩⟩⟩⟩⟩⟩⟩⟩⟩⟩⟩⟩⟩⟩⟩⟩⟩⟩⟩⟩⟩⟩⟩⟩⟩⟩⟩⟩⟩⟩⟩⟩⟩⟩⟩⟩⟩⟩⟩⟩⟩⟩⟩⟩⟩⟩⟩⟩⟩⟩⟩⟩⟩⟩⟩⟩⟩⟩⟩⟩⟩⟩⟩⟩⟩⟩⟩⟩⟩⟩⟩⟩⟩⟩⟩⟩⟩⟩⟩⟩⟩⟩⟩⟩⟩⟩⟩⟩⟩⟩⟩⟩⟩⟩⟩⟩⟩⟩⟩⟩⟩⟩⟩⟩⟩⟩⟩⟩⟩⟩⟩⟩⟩⟩⟩⟩⟩⟩⟩⟩⟩⟩⟩⟩⟩⟩⟩⟩⟩⟩⟩⟩⟩⟩⟩⟩⟩⟩⟩⟩⟩⟩⟩⟩⟩⟩⟩⟩⟩⟩⟩⟩⟩⟩⟩⟩⟩⟩⟩⟩⟩⟩⟩⟩⟩⟩⟩⟩⟩⟩⟩⟩⟩⟩⟩⟩⟩⟩⟩⟩⟩⟩⟩⟩⟩⟩⟩⟩⟩⟩⟩⟩⟩⟩⟩⟩⟩⟩⟩⟩⟩⟩⟩⟩⟩⟩⟩⟩⟩⟩⟩⟩⟩⟩⟩⟩⟩⟩⟩⟩⟩⟩⟩⟩⟩⟩⟩⟩⟩⟩⟩⟩⟩⟩⟩⟩⟩⟩⟩⟩⟩⟩⟩⟩⟩⟩⟩⟩⟩⟩⟩⟩⟩⟩⟩⟩⟩⟩⟩⟩⟩⟩⟩⟩⟩⟩⟩⟩⟩⟩⟩⟩⟩⟩⟩⟩⟩⟩⟩⟩⟩⟩⟩⟩⟩⟩⟩⟩⟩⟩⟩⟩⟩⟩⟩⟩⟩⟩⟩⟩⟩⟩⟩⟩⟩⟩⟩⟩⟩⟩⟩⟩⟩⟩⟩⟩⟩⟩⟩⟩⟩⟩⟩⟩⟩⟩⟩⟩⟩⟩⟩⟩⟩⟩⟩⟩⟩⟩⟩⟩⟩⟩⟩⟩⟩⟩⟩⟩⟩⟩⟩⟩⟩⟩⟩⟩⟩⟩⟩⟩⟩⟩⟩⟩⟩⟩⟩⟩⟩⟩⟩⟩⟩⟩⟩⟩⟩⟩⟩⟩⟩⟩⟩⟩⟩⟩⟩⟩⟩⟩⟩⟩⟩⟩⟩⟩⟩⟩⟩⟩
section
open Go.RowKit Go.Shelf Go.Proofs
/- the inner function of slices.Chunk at this program -/
def NA : Value → Int | .int _ q => q | _ => 0
set_option maxRecDepth 100000 in
set_option maxHeartbeats 2000000 in
theorem vm : ju Try.prog 48 := by
 refine ⟨Go.Proofs.enters_of Try.func48 (by kernel_rfl) rfl, ?_⟩
 intro n l Bs Bn m J hn hm hD hc hY W h0
 refine callsIn_of_wp Try.func48 rfl trivial ?_ rfl
 simp only [Try.ntmps48, List.size_toArray, List.length_cons, List.length_nil, Nat.reduceAdd, Nat.reduceSub, Array.replicate_succ, Array.replicate_zero, List.push_toArray, List.append_toArray, List.nil_append, List.cons_append]
 have hD' : ∀ k W, J k W → J k W.drew := hD
 gi_wp2
 gi_loopw [4] (fun i wr => ∃ k : Nat, k ≤ m ∧ i = .int .i64 (2 * k) ∧ J k wr)
  (fun i _ => 2 * m - (NA i).toNat)
 case atStart => exact ⟨0, Nat.zero_le _, rfl, h0⟩
 case round =>
  obtain ⟨k, hk, rfl, hJs⟩ := hrel
  obtain ⟨cn, a, cap, cs, ha⟩ := hc _ _ hJs
  by_cases hlt : k < m
  · obtain ⟨hcap, b, off, rfl⟩ := ha (by omega)
    obtain ⟨fn, tmps, assign, body, hy, hR⟩ := hY k _ b off cap hlt (hD' _ _ hJs) cs
    have hcn : ∀ W, J (k + 1) W → W.cell? ⟨Bn, 0, none⟩ = some (.int .i64 2) := fun W h => (hc _ _ h).1
    clear hY hc ha hD hD'
    gi_wp2
    gi_region
    gi_wp2
    refine hR.mono ?_
    rintro e W3 ⟨rfl, hJ3⟩
    have cn3 := hcn _ hJ3
    clear hcn
    gi_wp2
    go_roundw
    case rel => exact ⟨k + 1, by omega, by simp; omega, hJ3⟩
    case measure => simp [NA]; omega
  · obtain rfl : k = m := by omega
    clear hY
    gi_wp2
    go_end0
    exact ⟨⟨_, rfl⟩, hJs⟩
end
theorem G6 : ∀ f j, Names.ρ f = some j → Names.it f = true → ju Try.prog j := fun f j hj h => by
 have e : f = 415 := eq_of_beq h
 subst e
 have e : (Names.ρ 415 : Option Nat) = some 48 := by kernel_rfl
 rw [e] at hj; cases hj; exact vm
def G7 : List (Nat × List Nat) := []
theorem vn : ∀ x ∈ G7, ∀ j, Names.ρ x.1 = some j → oB Try.prog j x.2 := by
 intro x hx
 cases hx
end Go.Proofs.Ytbajpjfhkieglaa
