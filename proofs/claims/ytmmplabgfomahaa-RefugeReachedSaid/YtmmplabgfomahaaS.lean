/- MADE BY PROGRAM (lib.py): the numbers that the functions have in this program, and the check of each one. -/
import Derived.Test.YtmmplabgfomahaaProg
import Derived.Test.YtmmplabgfomahaaZPP
import Derived.KernelRfl
set_option linter.all false
set_option maxRecDepth 100000
namespace Go.Proofs.Ytmmplabgfomahaa
open Go.Ev
def real : List (Option Nat) := [none, some 9, none, some 10, some 17, none, none, none, none, some 15, some 27, none, some 14, none, none, some 36, none, none, none, none, none, none, none, some 34, none, none, none, none, some 62, none, none, none, none, none, none, none, none, none, none, none, none, none, none, none, none, none, none, some 40, none, some 43, none, some 58, none, none, some 73, none, none, none, none, none, none, none, none, none, none, none, some 61, some 69, none, none, none, some 32, none, none, none, none, some 46, some 63, none, none, none, none, none, none, none, none, none, none, none, none, none, none, none, none, none, none, none, none, none, none, none, none, none, none, none, some 39, none, none, none, none, none, none, none, none, none, none, none, none, none, none, none, none, none, none, none, none, none, none, none, none, none, none, none, none, none, none, none, none, none, none, none, none, none, none, none, none, none, none, none, none, none, none, none, none, none, none, none, none, none, none, some 59, none, none, none, none, none, none, some 54, none, none, some 70, none, none, some 67, none, none, some 87, some 85, none, none, none, none, none, none, none, none, none, none, none, none, none, none, none, none, none, none, none, none, none, none, none, none, none, none, some 28, none, none, none, none, none, none, none, none, some 71, none, none, none, none, none, none, none, none, none, none, none, none, none, none, none, none, none, none, none, none, none, none, none, none, none, none, none, none, none, none, none, none, none, none, none, none, none, none, none, none, none, none, none, none, none, none, some 30, some 31, none, none, none, none, none, some 52, none, none, none, none, none, none, none, none, none, none, none, none, none, none, none, none, none, none, none, none, none, none, none, none, none, none, none, none, none, none, none, none, none, none, none, none, none, none, none, none, none, none, none, none, none, none, none, none, none, none, none, none, none, none, none, none, none, none, none, none, none, none, none, none, none, none, none, none, none, none, none, none, none, none, none, none, none, none, none, none, none, none, none, none, none, none, none, none, none, none, none, none, none, none, none, none, none, none, none, none, none, none, none, none, none, none, none, none, none, none, none, none, none, none, none, none, none, none, none, none, none, none, none, none, none, none, none, none, none, none, none, none, none, none, none, none, none, none, none, none, none, none, none, none, none, none, none, none, none, none, none, none, none, some 18, none, none, none, none, none, none, none, none, none, none, none, some 21, none, none, some 37, none, none, none, none, none, none, none, none, none, none, some 20, none, none, none, none, some 45, none, none, some 29, none, none, none, none, none, none, none, some 60, none, none, none, none, none, none, some 72, none, none, none, none, none, none, none, some 6, some 7, none, none, some 12, some 13, some 16, some 19, none, none, none, some 33, some 35, some 38, some 41, some 42, some 44, none, none, none, some 53, some 55, some 56, some 57, some 68]
def tab : List (Option Go.Ev.Fn) := [none, some K.dA, none, some K.dX, some K.bB, none, none, none, none, some K.aq, some K.bc, none, some K.dM, none, none, some K.aN, none, none, none, none, none, none, none, some K.eb, none, none, none, none, some K.cZ, none, none, none, none, none, none, none, none, none, none, none, none, none, none, none, none, none, none, some K.cG, none, some K.au, none, some K.ay, none, none, some K.dh, none, none, none, none, none, none, none, none, none, none, none, some K.aC, some K.aL, none, none, none, some K.dH, none, none, none, none, some K.bf, some K.dB, none, none, none, none, none, none, none, none, none, none, none, none, none, none, none, none, none, none, none, none, none, none, none, none, none, none, none, some K.bN, none, none, none, none, none, none, none, none, none, none, none, none, none, none, none, none, none, none, none, none, none, none, none, none, none, none, none, none, none, none, none, none, none, none, none, none, none, none, none, none, none, none, none, none, none, none, none, none, none, none, none, none, none, none, some K.aG, none, none, none, none, none, none, some K.cP, none, none, some K.bS, none, none, some K.dC, none, none, some K.bH, some K.cH, none, none, none, none, none, none, none, none, none, none, none, none, none, none, none, none, none, none, none, none, none, none, none, none, none, none, some K.bq, none, none, none, none, none, none, none, none, some K.b8, none, none, none, none, none, none, none, none, none, none, none, none, none, none, none, none, none, none, none, none, none, none, none, none, none, none, none, none, none, none, none, none, none, none, none, none, none, none, none, none, none, none, none, none, none, none, some K.bO, some K.bh, none, none, none, none, none, some K.aB, none, none, none, none, none, none, none, none, none, none, none, none, none, none, none, none, none, none, none, none, none, none, none, none, none, none, none, none, none, none, none, none, none, none, none, none, none, none, none, none, none, none, none, none, none, none, none, none, none, none, none, none, none, none, none, none, none, none, none, none, none, none, none, none, none, none, none, none, none, none, none, none, none, none, none, none, none, none, none, none, none, none, none, none, none, none, none, none, none, none, none, none, none, none, none, none, none, none, none, none, none, none, none, none, none, none, none, none, none, none, none, none, none, none, none, none, none, none, none, none, none, none, none, none, none, none, none, none, none, none, none, none, none, none, none, none, none, none, none, none, none, none, none, none, none, none, none, none, none, none, none, none, none, some K.bC, none, none, none, none, none, none, none, none, none, none, none, some K.dO, none, none, some K.dD, none, none, none, none, none, none, none, none, none, none, some K.bX, none, none, none, none, some K.fm, none, none, some K.aU, none, none, none, none, none, none, none, some K.dy, none, none, none, none, none, none, some K.dZ, none, none, none, none, none, none, none, some K.aE, some K.c8, none, none, some K.cX, some K.cI, some K.dk, some K.b9, none, none, none, some K.aO, some K.dn, some K.cb, some K.bo, some K.cC, some K.aV, none, none, none, some K.bA, some K.ah, some K.bD, some K.aF, some K.aj]
instance names : Names := { ρ := fun f => (real[f]?).join }
instance lib : Lib := ⟨fun f => (tab[f]?).join⟩
instance has1 : aR := ⟨rfl, rfl, rfl, rfl, rfl, rfl, rfl, rfl, rfl⟩
instance has2 : aS := ⟨rfl, rfl, rfl, rfl, rfl, rfl, rfl, rfl, rfl⟩
instance has3 : bY := ⟨⟩
instance has4 : bZ := ⟨rfl⟩
instance has5 : dj := ⟨⟩
instance has6 : b5 := ⟨rfl, rfl, rfl⟩
instance has7 : b6 := ⟨rfl, rfl, rfl⟩
instance has8 : cW := ⟨⟩
instance has9 : cN := ⟨rfl, rfl⟩
instance has10 : bE := ⟨⟩
instance has11 : bF := ⟨rfl, rfl, rfl⟩
instance has12 : cg := ⟨⟩
instance has13 : cj := ⟨⟩
instance has14 : eB := ⟨⟩
instance has15 : eC := ⟨⟩
instance has21 : eh := ⟨rfl, rfl, rfl⟩
instance has22 : ea := ⟨rfl, rfl, rfl, rfl⟩
instance has23 : eS := ⟨rfl⟩
instance has24 : gr := ⟨⟩
instance has25 : dT := ⟨rfl, rfl, rfl, rfl, rfl, rfl, rfl, rfl, rfl, rfl, rfl, rfl⟩
instance has26 : lQ := ⟨rfl, rfl, rfl, rfl, rfl⟩
theorem sI : bV Try.prog Try.f9 K.dA = true := by kernel_rfl
theorem uE : bV Try.prog Try.f10 K.dX = true := by kernel_rfl
theorem nF : bV Try.prog Try.f17 K.bB = true := by kernel_rfl
theorem nG : bV Try.prog Try.f15 K.aq = true := by kernel_rfl
theorem pz : bV Try.prog Try.f27 K.bc = true := by kernel_rfl
theorem uF : bV Try.prog Try.f14 K.dM = true := by kernel_rfl
theorem o8 : bV Try.prog Try.f36 K.aN = true := by kernel_rfl
theorem xE : bV Try.prog Try.f34 K.eb = true := by kernel_rfl
theorem qR : bV Try.prog Try.f62 K.cZ = true := by kernel_rfl
theorem qS : bV Try.prog Try.f40 K.cG = true := by kernel_rfl
theorem fI : bV Try.prog Try.f43 K.au = true := by kernel_rfl
theorem gU : bV Try.prog Try.f58 K.ay = true := by kernel_rfl
theorem sJ : bV Try.prog Try.f73 K.dh = true := by kernel_rfl
theorem gw : bV Try.prog Try.f61 K.aC = true := by kernel_rfl
theorem iW : bV Try.prog Try.f69 K.aL = true := by kernel_rfl
theorem xF : bV Try.prog Try.f32 K.dH = true := by kernel_rfl
theorem pA : bV Try.prog Try.f46 K.bf = true := by kernel_rfl
theorem sK : bV Try.prog Try.f63 K.dB = true := by kernel_rfl
theorem pB : bV Try.prog Try.f39 K.bN = true := by kernel_rfl
theorem iK : bV Try.prog Try.f59 K.aG = true := by kernel_rfl
theorem sL : bV Try.prog Try.f54 K.cP = true := by kernel_rfl
theorem o9 : bV Try.prog Try.f70 K.bS = true := by kernel_rfl
theorem sM : bV Try.prog Try.f67 K.dC = true := by kernel_rfl
theorem mK : bV Try.prog Try.f87 K.bH = true := by kernel_rfl
theorem qT : bV Try.prog Try.f85 K.cH = true := by kernel_rfl
theorem iX : bV Try.prog Try.f28 K.bq = true := by kernel_rfl
theorem uG : bV Try.prog Try.f71 K.b8 = true := by kernel_rfl
theorem kF : bV Try.prog Try.f30 K.bO = true := by kernel_rfl
theorem iL : bV Try.prog Try.f31 K.bh = true := by kernel_rfl
theorem gV : bV Try.prog Try.f52 K.aB = true := by kernel_rfl
theorem lU : bV Try.prog Try.f18 K.bC = true := by kernel_rfl
theorem uH : bV Try.prog Try.f21 K.dO = true := by kernel_rfl
theorem sN : bV Try.prog Try.f37 K.dD = true := by kernel_rfl
theorem sO : bV Try.prog Try.f20 K.bX = true := by kernel_rfl
theorem xG : bV Try.prog Try.f45 K.fm = true := by kernel_rfl
theorem ig : bV Try.prog Try.f29 K.aU = true := by kernel_rfl
theorem uI : bV Try.prog Try.f60 K.dy = true := by kernel_rfl
theorem uJ : bV Try.prog Try.f72 K.dZ = true := by kernel_rfl
theorem jC : bV Try.prog Try.f6 K.aE = true := by kernel_rfl
theorem qU : bV Try.prog Try.f7 K.c8 = true := by kernel_rfl
theorem pb : bV Try.prog Try.f12 K.cX = true := by kernel_rfl
theorem qV : bV Try.prog Try.f13 K.cI = true := by kernel_rfl
theorem pC : bV Try.prog Try.f16 K.dk = true := by kernel_rfl
theorem pD : bV Try.prog Try.f19 K.b9 = true := by kernel_rfl
theorem jY : bV Try.prog Try.f33 K.aO = true := by kernel_rfl
theorem qW : bV Try.prog Try.f35 K.dn = true := by kernel_rfl
theorem pE : bV Try.prog Try.f38 K.cb = true := by kernel_rfl
theorem nH : bV Try.prog Try.f41 K.bo = true := by kernel_rfl
theorem pF : bV Try.prog Try.f42 K.cC = true := by kernel_rfl
theorem lV : bV Try.prog Try.f44 K.aV = true := by kernel_rfl
theorem jD : bV Try.prog Try.f53 K.bA = true := by kernel_rfl
theorem dv : bV Try.prog Try.f55 K.ah = true := by kernel_rfl
theorem nI : bV Try.prog Try.f56 K.bD = true := by kernel_rfl
theorem nJ : bV Try.prog Try.f57 K.aF = true := by kernel_rfl
theorem dJ : bV Try.prog Try.f68 K.aj = true := by kernel_rfl
theorem P8 : tC Try.prog real tab :=
 ⟨trivial, ⟨⟨by kernel_rfl, ax Try.func9 sI⟩, ⟨trivial, ⟨⟨by kernel_rfl, ax Try.func10 uE⟩, ⟨⟨by kernel_rfl, ax Try.func17 nF⟩, ⟨trivial, ⟨trivial, ⟨trivial, ⟨trivial, ⟨⟨by kernel_rfl, ax Try.func15 nG⟩, ⟨⟨by kernel_rfl, ax Try.func27 pz⟩, ⟨trivial, ⟨⟨by kernel_rfl, ax Try.func14 uF⟩, ⟨trivial, ⟨trivial, ⟨⟨by kernel_rfl, ax Try.func36 o8⟩, ⟨trivial, ⟨trivial, ⟨trivial, ⟨trivial, ⟨trivial, ⟨trivial, ⟨trivial, ⟨⟨by kernel_rfl, ax Try.func34 xE⟩, ⟨trivial, ⟨trivial, ⟨trivial, ⟨trivial, ⟨⟨by kernel_rfl, ax Try.func62 qR⟩, ⟨trivial, ⟨trivial, ⟨trivial, ⟨trivial, ⟨trivial, ⟨trivial, ⟨trivial, ⟨trivial, ⟨trivial, ⟨trivial, ⟨trivial, ⟨trivial, ⟨trivial, ⟨trivial, ⟨trivial, ⟨trivial, ⟨trivial, ⟨trivial, ⟨⟨by kernel_rfl, ax Try.func40 qS⟩, ⟨trivial, ⟨⟨by kernel_rfl, ax Try.func43 fI⟩, ⟨trivial, ⟨⟨by kernel_rfl, ax Try.func58 gU⟩, ⟨trivial, ⟨trivial, ⟨⟨by kernel_rfl, ax Try.func73 sJ⟩, ⟨trivial, ⟨trivial, ⟨trivial, ⟨trivial, ⟨trivial, ⟨trivial, ⟨trivial, ⟨trivial, ⟨trivial, ⟨trivial, ⟨trivial, ⟨⟨by kernel_rfl, ax Try.func61 gw⟩, ⟨⟨by kernel_rfl, ax Try.func69 iW⟩, ⟨trivial, ⟨trivial, ⟨trivial, ⟨⟨by kernel_rfl, ax Try.func32 xF⟩, ⟨trivial, ⟨trivial, ⟨trivial, ⟨trivial, ⟨⟨by kernel_rfl, ax Try.func46 pA⟩, ⟨⟨by kernel_rfl, ax Try.func63 sK⟩, ⟨trivial, ⟨trivial, ⟨trivial, ⟨trivial, ⟨trivial, ⟨trivial, ⟨trivial, ⟨trivial, ⟨trivial, ⟨trivial, ⟨trivial, ⟨trivial, ⟨trivial, ⟨trivial, ⟨trivial, ⟨trivial, ⟨trivial, ⟨trivial, ⟨trivial, ⟨trivial, ⟨trivial, ⟨trivial, ⟨trivial, ⟨trivial, ⟨trivial, ⟨trivial, ⟨trivial, ⟨⟨by kernel_rfl, ax Try.func39 pB⟩, ⟨trivial, ⟨trivial, ⟨trivial, ⟨trivial, ⟨trivial, ⟨trivial, ⟨trivial, ⟨trivial, ⟨trivial, ⟨trivial, ⟨trivial, ⟨trivial, ⟨trivial, ⟨trivial, ⟨trivial, ⟨trivial, ⟨trivial, ⟨trivial, ⟨trivial, ⟨trivial, ⟨trivial, ⟨trivial, ⟨trivial, ⟨trivial, ⟨trivial, ⟨trivial, ⟨trivial, ⟨trivial, ⟨trivial, ⟨trivial, ⟨trivial, ⟨trivial, ⟨trivial, ⟨trivial, ⟨trivial, ⟨trivial, ⟨trivial, ⟨trivial, ⟨trivial, ⟨trivial, ⟨trivial, ⟨trivial, ⟨trivial, ⟨trivial, ⟨trivial, ⟨trivial, ⟨trivial, ⟨trivial, ⟨trivial, ⟨trivial, ⟨trivial, ⟨trivial, ⟨trivial, ⟨trivial, ⟨⟨by kernel_rfl, ax Try.func59 iK⟩, ⟨trivial, ⟨trivial, ⟨trivial, ⟨trivial, ⟨trivial, ⟨trivial, ⟨⟨by kernel_rfl, ax Try.func54 sL⟩, ⟨trivial, ⟨trivial, ⟨⟨by kernel_rfl, ax Try.func70 o9⟩, ⟨trivial, ⟨trivial, ⟨⟨by kernel_rfl, ax Try.func67 sM⟩, ⟨trivial, ⟨trivial, ⟨⟨by kernel_rfl, ax Try.func87 mK⟩, ⟨⟨by kernel_rfl, ax Try.func85 qT⟩, ⟨trivial, ⟨trivial, ⟨trivial, ⟨trivial, ⟨trivial, ⟨trivial, ⟨trivial, ⟨trivial, ⟨trivial, ⟨trivial, ⟨trivial, ⟨trivial, ⟨trivial, ⟨trivial, ⟨trivial, ⟨trivial, ⟨trivial, ⟨trivial, ⟨trivial, ⟨trivial, ⟨trivial, ⟨trivial, ⟨trivial, ⟨trivial, ⟨trivial, ⟨trivial, ⟨⟨by kernel_rfl, ax Try.func28 iX⟩, ⟨trivial, ⟨trivial, ⟨trivial, ⟨trivial, ⟨trivial, ⟨trivial, ⟨trivial, ⟨trivial, ⟨⟨by kernel_rfl, ax Try.func71 uG⟩, ⟨trivial, ⟨trivial, ⟨trivial, ⟨trivial, ⟨trivial, ⟨trivial, ⟨trivial, ⟨trivial, ⟨trivial, ⟨trivial, ⟨trivial, ⟨trivial, ⟨trivial, ⟨trivial, ⟨trivial, ⟨trivial, ⟨trivial, ⟨trivial, ⟨trivial, ⟨trivial, ⟨trivial, ⟨trivial, ⟨trivial, ⟨trivial, ⟨trivial, ⟨trivial, ⟨trivial, ⟨trivial, ⟨trivial, ⟨trivial, ⟨trivial, ⟨trivial, ⟨trivial, ⟨trivial, ⟨trivial, ⟨trivial, ⟨trivial, ⟨trivial, ⟨trivial, ⟨trivial, ⟨trivial, ⟨trivial, ⟨trivial, ⟨trivial, ⟨trivial, ⟨trivial, ⟨⟨by kernel_rfl, ax Try.func30 kF⟩, ⟨⟨by kernel_rfl, ax Try.func31 iL⟩, ⟨trivial, ⟨trivial, ⟨trivial, ⟨trivial, ⟨trivial, ⟨⟨by kernel_rfl, ax Try.func52 gV⟩, ⟨trivial, ⟨trivial, ⟨trivial, ⟨trivial, ⟨trivial, ⟨trivial, ⟨trivial, ⟨trivial, ⟨trivial, ⟨trivial, ⟨trivial, ⟨trivial, ⟨trivial, ⟨trivial, ⟨trivial, ⟨trivial, ⟨trivial, ⟨trivial, ⟨trivial, ⟨trivial, ⟨trivial, ⟨trivial, ⟨trivial, ⟨trivial, ⟨trivial, ⟨trivial, ⟨trivial, ⟨trivial, ⟨trivial, ⟨trivial, ⟨trivial, ⟨trivial, ⟨trivial, ⟨trivial, ⟨trivial, ⟨trivial, ⟨trivial, ⟨trivial, ⟨trivial, ⟨trivial, ⟨trivial, ⟨trivial, ⟨trivial, ⟨trivial, ⟨trivial, ⟨trivial, ⟨trivial, ⟨trivial, ⟨trivial, ⟨trivial, ⟨trivial, ⟨trivial, ⟨trivial, ⟨trivial, ⟨trivial, ⟨trivial, ⟨trivial, ⟨trivial, ⟨trivial, ⟨trivial, ⟨trivial, ⟨trivial, ⟨trivial, ⟨trivial, ⟨trivial, ⟨trivial, ⟨trivial, ⟨trivial, ⟨trivial, ⟨trivial, ⟨trivial, ⟨trivial, ⟨trivial, ⟨trivial, ⟨trivial, ⟨trivial, ⟨trivial, ⟨trivial, ⟨trivial, ⟨trivial, ⟨trivial, ⟨trivial, ⟨trivial, ⟨trivial, ⟨trivial, ⟨trivial, ⟨trivial, ⟨trivial, ⟨trivial, ⟨trivial, ⟨trivial, ⟨trivial, ⟨trivial, ⟨trivial, ⟨trivial, ⟨trivial, ⟨trivial, ⟨trivial, ⟨trivial, ⟨trivial, ⟨trivial, ⟨trivial, ⟨trivial, ⟨trivial, ⟨trivial, ⟨trivial, ⟨trivial, ⟨trivial, ⟨trivial, ⟨trivial, ⟨trivial, ⟨trivial, ⟨trivial, ⟨trivial, ⟨trivial, ⟨trivial, ⟨trivial, ⟨trivial, ⟨trivial, ⟨trivial, ⟨trivial, ⟨trivial, ⟨trivial, ⟨trivial, ⟨trivial, ⟨trivial, ⟨trivial, ⟨trivial, ⟨trivial, ⟨trivial, ⟨trivial, ⟨trivial, ⟨trivial, ⟨trivial, ⟨trivial, ⟨trivial, ⟨trivial, ⟨trivial, ⟨trivial, ⟨trivial, ⟨trivial, ⟨trivial, ⟨trivial, ⟨trivial, ⟨trivial, ⟨trivial, ⟨trivial, ⟨trivial, ⟨trivial, ⟨trivial, ⟨trivial, ⟨trivial, ⟨trivial, ⟨⟨by kernel_rfl, ax Try.func18 lU⟩, ⟨trivial, ⟨trivial, ⟨trivial, ⟨trivial, ⟨trivial, ⟨trivial, ⟨trivial, ⟨trivial, ⟨trivial, ⟨trivial, ⟨trivial, ⟨⟨by kernel_rfl, ax Try.func21 uH⟩, ⟨trivial, ⟨trivial, ⟨⟨by kernel_rfl, ax Try.func37 sN⟩, ⟨trivial, ⟨trivial, ⟨trivial, ⟨trivial, ⟨trivial, ⟨trivial, ⟨trivial, ⟨trivial, ⟨trivial, ⟨trivial, ⟨⟨by kernel_rfl, ax Try.func20 sO⟩, ⟨trivial, ⟨trivial, ⟨trivial, ⟨trivial, ⟨⟨by kernel_rfl, ax Try.func45 xG⟩, ⟨trivial, ⟨trivial, ⟨⟨by kernel_rfl, ax Try.func29 ig⟩, ⟨trivial, ⟨trivial, ⟨trivial, ⟨trivial, ⟨trivial, ⟨trivial, ⟨trivial, ⟨⟨by kernel_rfl, ax Try.func60 uI⟩, ⟨trivial, ⟨trivial, ⟨trivial, ⟨trivial, ⟨trivial, ⟨trivial, ⟨⟨by kernel_rfl, ax Try.func72 uJ⟩, ⟨trivial, ⟨trivial, ⟨trivial, ⟨trivial, ⟨trivial, ⟨trivial, ⟨trivial, ⟨⟨by kernel_rfl, ax Try.func6 jC⟩, ⟨⟨by kernel_rfl, ax Try.func7 qU⟩, ⟨trivial, ⟨trivial, ⟨⟨by kernel_rfl, ax Try.func12 pb⟩, ⟨⟨by kernel_rfl, ax Try.func13 qV⟩, ⟨⟨by kernel_rfl, ax Try.func16 pC⟩, ⟨⟨by kernel_rfl, ax Try.func19 pD⟩, ⟨trivial, ⟨trivial, ⟨trivial, ⟨⟨by kernel_rfl, ax Try.func33 jY⟩, ⟨⟨by kernel_rfl, ax Try.func35 qW⟩, ⟨⟨by kernel_rfl, ax Try.func38 pE⟩, ⟨⟨by kernel_rfl, ax Try.func41 nH⟩, ⟨⟨by kernel_rfl, ax Try.func42 pF⟩, ⟨⟨by kernel_rfl, ax Try.func44 lV⟩, ⟨trivial, ⟨trivial, ⟨trivial, ⟨⟨by kernel_rfl, ax Try.func53 jD⟩, ⟨⟨by kernel_rfl, ax Try.func55 dv⟩, ⟨⟨by kernel_rfl, ax Try.func56 nI⟩, ⟨⟨by kernel_rfl, ax Try.func57 nJ⟩, ⟨⟨by kernel_rfl, ax Try.func68 dJ⟩, trivial⟩⟩⟩⟩⟩⟩⟩⟩⟩⟩⟩⟩⟩⟩⟩⟩⟩⟩⟩⟩⟩⟩⟩⟩⟩⟩⟩⟩⟩⟩⟩⟩⟩⟩⟩⟩⟩⟩⟩⟩⟩⟩⟩⟩⟩⟩⟩⟩⟩⟩⟩⟩⟩⟩⟩⟩⟩⟩⟩⟩⟩⟩⟩⟩⟩⟩⟩⟩⟩⟩⟩⟩⟩⟩⟩⟩⟩⟩⟩⟩⟩⟩⟩⟩⟩⟩⟩⟩⟩⟩⟩⟩⟩⟩⟩⟩⟩⟩⟩⟩⟩⟩⟩⟩⟩⟩⟩⟩⟩⟩⟩⟩⟩⟩⟩⟩⟩⟩⟩⟩⟩⟩⟩⟩⟩⟩⟩⟩⟩⟩⟩⟩⟩⟩⟩⟩⟩⟩⟩⟩⟩⟩⟩⟩⟩⟩⟩⟩⟩⟩⟩⟩⟩⟩⟩⟩⟩⟩⟩⟩⟩⟩⟩⟩⟩⟩⟩⟩⟩⟩⟩⟩⟩⟩⟩⟩⟩⟩⟩⟩⟩⟩⟩⟩⟩⟩⟩⟩⟩⟩⟩⟩⟩⟩⟩⟩⟩⟩⟩⟩⟩⟩⟩⟩⟩⟩⟩⟩⟩⟩⟩⟩⟩⟩⟩⟩⟩⟩⟩⟩⟩⟩⟩⟩⟩⟩⟩⟩⟩⟩⟩⟩⟩⟩⟩⟩⟩⟩⟩⟩⟩⟩⟩⟩⟩⟩⟩⟩⟩⟩⟩⟩⟩⟩⟩⟩⟩⟩⟩⟩⟩⟩⟩⟩⟩⟩⟩⟩⟩⟩⟩⟩⟩⟩⟩⟩⟩⟩⟩⟩⟩⟩⟩⟩⟩⟩⟩⟩⟩⟩⟩⟩⟩⟩⟩⟩⟩⟩⟩⟩⟩⟩⟩⟩⟩⟩⟩⟩⟩⟩⟩⟩⟩⟩⟩⟩⟩⟩⟩⟩⟩⟩⟩⟩⟩⟩⟩⟩⟩⟩⟩⟩⟩⟩⟩⟩⟩⟩⟩⟩⟩⟩⟩⟩⟩⟩⟩⟩⟩⟩⟩⟩⟩⟩⟩⟩⟩⟩⟩⟩⟩⟩⟩⟩⟩⟩⟩⟩⟩⟩⟩⟩⟩⟩⟩⟩⟩⟩⟩⟩⟩⟩⟩⟩⟩⟩⟩⟩⟩⟩⟩⟩⟩⟩⟩⟩⟩⟩⟩⟩⟩⟩⟩⟩⟩⟩⟩⟩⟩⟩⟩⟩⟩⟩⟩⟩⟩⟩⟩⟩⟩⟩⟩⟩⟩⟩⟩⟩⟩⟩⟩⟩⟩⟩⟩⟩⟩⟩⟩⟩⟩⟩⟩⟩⟩⟩⟩⟩⟩⟩⟩⟩⟩⟩⟩⟩⟩⟩⟩⟩⟩⟩⟩⟩⟩⟩⟩⟩⟩⟩⟩⟩⟩⟩⟩⟩⟩⟩⟩⟩⟩⟩⟩⟩⟩⟩⟩⟩⟩⟩⟩⟩⟩⟩⟩⟩⟩⟩⟩⟩⟩⟩⟩
theorem P9 : ∀ f j, Names.ρ f = some j → Names.it f = true → qk Try.prog j := fun f j hj h => Bool.noConfusion (show false = true from h)
def Jr : List (Nat × List Nat) := [(260, [2, N.aB])]
def sP : Go.Shelf.Ren := ⟨fun | 189 => 51 | 125 => 66 | 257 => 65 | 128 => 83 | 129 => 84 | 294 => 74 | 295 => 75 | 296 => 76 | 297 => 77 | 298 => 78 | 299 => 79 | 216 => 80 | 300 => 81 | 301 => 82 | 328 => 88 | 329 => 89 | 330 => 90 | 331 => 91 | 332 => 92 | 215 => 93 | 343 => 94 | n => n, fun | 28 => 23 | 3 => 3 | 46 => 84 | 0 => 0 | 51 => 118 | 53 => 120 | 4 => 4 | 183 => 111 | 182 => 110 | 131 => 115 | 5 => 5 | 9 => 9 | 218 => 125 | 222 => 129 | 228 => 131 | 229 => 95 | n => n, fun | n => n⟩
theorem C6 : Go.Proofs.Lays.n189 Try.prog sP := {
 mixed := by kernel_rfl,
 f125 := Try.func66.trans (congrArg some (by kernel_rfl)),
 f128 := Try.func83.trans (congrArg some (by kernel_rfl)),
 f129 := Try.func84.trans (congrArg some (by kernel_rfl)),
 f189 := Try.func51.trans (congrArg some (by kernel_rfl)),
 f215 := Try.func93.trans (congrArg some (by kernel_rfl)),
 f216 := Try.func80.trans (congrArg some (by kernel_rfl)),
 f257 := Try.func65.trans (congrArg some (by kernel_rfl)),
 f294 := Try.func74.trans (congrArg some (by kernel_rfl)),
 f295 := Try.func75.trans (congrArg some (by kernel_rfl)),
 f296 := Try.func76.trans (congrArg some (by kernel_rfl)),
 f297 := Try.func77.trans (congrArg some (by kernel_rfl)),
 f298 := Try.func78.trans (congrArg some (by kernel_rfl)),
 f299 := Try.func79.trans (congrArg some (by kernel_rfl)),
 f300 := Try.func81.trans (congrArg some (by kernel_rfl)),
 f301 := Try.func82.trans (congrArg some (by kernel_rfl)),
 f328 := Try.func88.trans (congrArg some (by kernel_rfl)),
 f329 := Try.func89.trans (congrArg some (by kernel_rfl)),
 f330 := Try.func90.trans (congrArg some (by kernel_rfl)),
 f331 := Try.func91.trans (congrArg some (by kernel_rfl)),
 f332 := Try.func92.trans (congrArg some (by kernel_rfl)),
 f343 := Try.func94.trans (congrArg some (by kernel_rfl)),
 t0 := Try.underlying0,
 a0 := Try.isAgg0,
 z0 := Try.sizeOf0,
 v0 := Try.zeroValue0,
 t3 := Try.underlying3,
 a3 := Try.isAgg3,
 z3 := Try.sizeOf3,
 v3 := Try.zeroValue3,
 t4 := Try.underlying4,
 a4 := Try.isAgg4,
 z4 := Try.sizeOf4,
 v4 := Try.zeroValue4,
 t5 := Try.underlying5,
 a5 := Try.isAgg5,
 z5 := Try.sizeOf5,
 v5 := Try.zeroValue5,
 t9 := Try.underlying9,
 a9 := Try.isAgg9,
 z9 := Try.sizeOf9,
 v9 := Try.zeroValue9,
 t28 := Try.underlying23,
 a28 := Try.isAgg23,
 z28 := Try.sizeOf23,
 v28 := Try.zeroValue23,
 t46 := Try.underlying84,
 a46 := Try.isAgg84,
 z46 := Try.sizeOf84,
 v46 := Try.zeroValue84,
 t51 := Try.underlying118,
 a51 := Try.isAgg118,
 z51 := Try.sizeOf118,
 v51 := Try.zeroValue118,
 t53 := Try.underlying120,
 a53 := Try.isAgg120,
 z53 := Try.sizeOf120,
 v53 := Try.zeroValue120,
 t131 := Try.underlying115,
 a131 := Try.isAgg115,
 z131 := Try.sizeOf115,
 v131 := Try.zeroValue115,
 t182 := Try.underlying110,
 a182 := Try.isAgg110,
 z182 := Try.sizeOf110,
 v182 := Try.zeroValue110,
 t183 := Try.underlying111,
 a183 := Try.isAgg111,
 z183 := Try.sizeOf111,
 v183 := Try.zeroValue111,
 t218 := Try.underlying125,
 a218 := Try.isAgg125,
 z218 := Try.sizeOf125,
 v218 := Try.zeroValue125,
 t222 := Try.underlying129,
 a222 := Try.isAgg129,
 z222 := Try.sizeOf129,
 v222 := Try.zeroValue129,
 t228 := Try.underlying131,
 a228 := Try.isAgg131,
 z228 := Try.sizeOf131,
 v228 := Try.zeroValue131,
 t229 := Try.underlying95,
 a229 := Try.isAgg95,
 z229 := Try.sizeOf95,
 v229 := Try.zeroValue95 }
def pG : Go.Shelf.Ren := ⟨fun | 6 => 30 | 8 => 50 | 9 => 51 | 11 => 64 | 13 => 66 | 12 => 65 | 23 => 83 | 24 => 84 | 14 => 74 | 15 => 75 | 16 => 76 | 17 => 77 | 18 => 78 | 19 => 79 | 20 => 80 | 21 => 81 | 22 => 82 | 25 => 88 | 26 => 89 | 27 => 90 | 28 => 91 | 29 => 92 | 30 => 93 | 31 => 94 | n => n, fun | 26 => 3 | 28 => 65 | 24 => 23 | 0 => 0 | 3 => 3 | 37 => 84 | 48 => 118 | 50 => 120 | 4 => 4 | 40 => 111 | 39 => 110 | 45 => 115 | 5 => 5 | 9 => 9 | 51 => 125 | 55 => 129 | 57 => 131 | 58 => 95 | 33 => 74 | n => n, fun | n => n⟩
theorem xH : Go.Proofs.SlLaysZI.n6 Try.prog pG := {
 f6 := ⟨"slices.Sorted[int]", by kernel_rfl, Try.func30.trans (congrArg some (by kernel_rfl))⟩,
 f8 := ⟨"slices.Collect[int]", by kernel_rfl, Try.func50.trans (congrArg some (by kernel_rfl))⟩,
 f11 := ⟨"slices.AppendSeq[[]int,int]", by kernel_rfl, Try.func64.trans (congrArg some (by kernel_rfl))⟩,
 mixed := by kernel_rfl,
 t0 := Try.underlying0,
 a0 := Try.isAgg0,
 z0 := Try.sizeOf0,
 v0 := Try.zeroValue0,
 t24 := Try.underlying23,
 a24 := Try.isAgg23,
 z24 := Try.sizeOf23,
 v24 := Try.zeroValue23,
 t26 := Try.underlying3,
 a26 := Try.isAgg3,
 z26 := Try.sizeOf3,
 v26 := Try.zeroValue3,
 t28 := Try.underlying65,
 a28 := Try.isAgg65,
 z28 := Try.sizeOf65,
 v28 := Try.zeroValue65,
 i26 := by kernel_rfl }
section
open Go.RowKit Go.Shelf Go.Maps Go.Sort Go.Proofs
/- the iterator of slices.Values at this program -/
set_option maxRecDepth 100000 in
set_option maxHeartbeats 2000000 in
theorem VM (n l Bs : Nat) (hn : 1 ≤ n) (W0 : World) (b off len cap : Nat) (zs : List Int) (hlen : zs.length = len) (hreach : len * 8 ≤ 140737488351232) (hb : b < W0.heap.size) (J : List Int → World → Prop)
 (hJ : ∀ s W1, J s W1 → Below W0.heap.size W0 W1)
 (hY : ∀ pre x W1, J pre W1 → pre.length < zs.length → YieldAt Fence.wide (n - 1) Try.prog l #[encZ x] W1 fun e W' => e = .returned (.bool true) ∧ J (pre ++ [x]) W' ∧ KeepsWalks W1 W')
 (W : World) (hBs : W.cell? ⟨Bs, 0, none⟩ = some (.slice (some ⟨b, off, none⟩) len cap)) (hc : ∀ j, j < len → W0.cell? ⟨b, off + j, none⟩ = some (.int .i64 (zs[j]?.getD 0))) (h0 : J [] W) :
 CallsIn Fence.wide n Try.prog 52 #[.func (.yield l) #[] #[], .pointer (some ⟨Bs, 0, none⟩)] W fun e W' => (∃ v, e = .returned v) ∧ J zs W' := by
 have step : ∀ k, k < zs.length → zs.take k ++ [zs[k]?.getD 0] = zs.take (k + 1) := fun k hk => by
  rw [List.take_succ_eq_append_getElem hk]; simp [hk]
 refine callsIn_of_wp Try.func52 rfl trivial ?_ rfl
 simp only [Try.ntmps52, List.size_toArray, List.length_cons, List.length_nil, Nat.reduceAdd, Nat.reduceSub, Array.replicate_succ, Array.replicate_zero, List.push_toArray, List.append_toArray, List.nil_append, List.cons_append]
 gi_wp2
 gi_loopw [7] (fun i wr => ∃ k : Nat, k ≤ len ∧ i = .int .i64 k ∧ J (zs.take k) wr)
  (fun i _ => len - (intOf i).toNat)
 case atStart => exact ⟨0, Nat.zero_le _, rfl, h0⟩
 case round =>
  obtain ⟨k, hk, rfl, hJs⟩ := hrel
  by_cases hlt : k < len
  · have hcx : wr.cell? ⟨b, off + k, none⟩ = some (.int .i64 (zs[k]?.getD 0)) := ((hJ _ _ hJs).cell (p := ⟨b, off + k, none⟩) hb).trans (hc k hlt)
    have st := step k (by omega)
    generalize zs[k]?.getD 0 = x at hcx st
    obtain ⟨fn, tmps, assign, body, hy, hR⟩ := hY _ x wr hJs (by rw [List.length_take]; omega)
    clear step
    gi_wp2
    refine hR.mono ?_
    rintro e W3 ⟨rfl, hJ3, -⟩
    gi_wp2
    go_roundw
    case rel => exact ⟨k + 1, by omega, by simp, by rw [← st]; exact hJ3⟩
    case measure => simp [intOf]; omega
  · obtain rfl : k = len := by omega
    gi_wp2
    go_end0
    exact ⟨⟨_, rfl⟩, by rw [← hlen, List.take_length] at hJs; exact hJs⟩
set_option maxRecDepth 100000 in
set_option maxHeartbeats 1000000 in
theorem VN (n l Bs : Nat) (p : Option Addr) (cap : Nat) (J : List Int → World → Prop) (W : World) (hBs : W.cell? ⟨Bs, 0, none⟩ = some (.slice p 0 cap)) (h0 : J [] W) :
 CallsIn Fence.wide n Try.prog 52 #[.func (.yield l) #[] #[], .pointer (some ⟨Bs, 0, none⟩)] W fun e W' => (∃ v, e = .returned v) ∧ J [] W' := by
 refine callsIn_of_wp Try.func52 rfl trivial ?_ rfl
 simp only [Try.ntmps52, List.size_toArray, List.length_cons, List.length_nil, Nat.reduceAdd, Nat.reduceSub, Array.replicate_succ, Array.replicate_zero, List.push_toArray, List.append_toArray, List.nil_append, List.cons_append]
 gi_wp2
 gi_loopw [7] (fun i wr => i = .int .i64 0 ∧ J [] wr) (fun _ _ => 0)
 case atStart => exact ⟨rfl, h0⟩
 case round =>
  obtain ⟨rfl, hJs⟩ := hrel
  gi_wp2
  go_end0
  exact ⟨⟨_, rfl⟩, hJs⟩
theorem Js : EU Try.prog 52 := by
 intro n Bs sv zs w hn hreach hBs hcell hI l J W hW hJ hY h0
 have hc' := (hW.cell (p := ⟨Bs, 0, none⟩) hBs).trans hcell
 rcases hI with ⟨p, cap, rfl, rfl⟩ | ⟨b, off, cap, rfl, hb, hcs⟩
 · exact VN n l Bs p cap J W hc' h0
 · exact VM n l Bs hn w b off zs.length cap zs rfl hreach hb J hJ hY W hc' hcs h0
end
theorem C7 : ∀ j, Names.ρ 260 = some j → oB Try.prog j [2, N.aB] := fun j hj => by
 have e : (Names.ρ 260 : Option Nat) = some 30 := by kernel_rfl
 rw [e] at hj; cases hj; exact uD xH C6 (by kernel_rfl) (Go.Proofs.enters_of Try.func51 (by kernel_rfl) rfl) (by kernel_rfl) (Go.Proofs.enters_of Try.func52 (by kernel_rfl) rfl) Js
theorem C8 : ∀ x ∈ Jr, ∀ j, Names.ρ x.1 = some j → oB Try.prog j x.2 := by
 intro x hx
 simp only [Jr, List.mem_cons, List.not_mem_nil, or_false] at hx
 rcases hx with rfl
 · exact C7
end Go.Proofs.Ytmmplabgfomahaa
