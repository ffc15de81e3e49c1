/- MADE BY PROGRAM (lib.py): the numbers that the functions have in this program, and the check of each one. -/
import Derived.Test.YtbajpjfhkieglaaProg
import Derived.Shelf.Abstract
import Derived.RangeFuncBox
import Derived.RangeFuncLeaves
import Derived.WalkKit
import Derived.OwnWalkIn
import Derived.TacticsInMore
import Derived.LoopNIn
import Derived.LoopIn
import Derived.Test.YtbajpjfhkieglaaZ3
import Derived.KernelRfl
set_option linter.all false
set_option maxRecDepth 100000
namespace Go.Proofs.Ytbajpjfhkieglaa
open Go.Ev
def real : List (Option Nat) := [none, some 11, none, some 12, none, none, none, none, none, some 22, some 14, none, none, none, none, none, none, none, none, none, none, none, none, some 16, none, none, none, none, none, none, none, none, none, none, none, none, none, none, none, none, none, none, none, none, none, none, none, none, none, some 35, none, none, none, none, none, none, none, none, none, none, none, none, some 33, none, none, none, some 47, none, none, none, none, some 37, none, none, none, none, none, none, none, none, none, none, none, none, none, none, none, none, none, none, none, none, none, none, none, none, none, none, none, none, none, none, none, none, none, some 44, none, none, none, none, none, none, none, none, none, none, none, none, none, none, none, none, none, none, none, none, none, none, none, none, none, none, none, none, none, none, none, none, none, none, none, none, none, none, none, none, none, none, none, none, none, none, none, none, none, none, none, none, none, none, some 34, none, none, none, none, none, none, none, none, none, some 46, none, none, none, none, none, some 50, none, none, none, none, none, none, none, none, none, none, none, none, none, none, none, none, none, none, none, none, none, none, none, none, none, none, none, some 39, none, none, none, none, none, none, none, none, none, none, none, none, none, none, none, none, none, none, none, none, none, none, none, none, none, none, none, none, none, none, none, none, none, none, none, none, none, none, none, none, none, none, none, none, none, none, none, none, none, none, none, none, none, none, none, none, none, none, none, none, none, none, none, none, none, none, none, none, none, none, none, none, none, none, none, none, none, none, none, none, none, none, none, none, none, none, none, none, none, none, none, none, none, none, none, none, none, none, none, none, none, none, none, none, none, none, none, none, none, none, none, none, none, none, none, none, none, none, none, none, none, none, none, none, none, none, none, none, none, none, none, none, none, none, none, none, none, none, none, none, none, none, none, none, none, none, none, none, none, none, none, none, none, none, none, none, none, some 30, none, none, none, none, none, none, none, none, none, none, none, none, none, none, none, none, none, none, none, none, none, none, some 4, none, none, none, some 8, some 9, some 10, some 13, some 15, none, none, some 19, some 20, none, some 23, none, some 25, some 26, some 27, some 28, some 29, some 31, some 32, some 36, some 38, none, some 41, some 42, some 43, some 45, some 48]
def tab : List (Option Go.Ev.Fn) := [none, some K.bV, none, some K.cA, none, none, none, none, none, some K.ax, some K.aS, none, none, none, none, none, none, none, none, none, none, none, none, some K.bI, none, none, none, none, none, none, none, none, none, none, none, none, none, none, none, none, none, none, none, none, none, none, none, none, none, some K.aj, none, none, none, none, none, none, none, none, none, none, none, none, some K.aL, none, none, none, some K.av, none, none, none, none, some K.bQ, none, none, none, none, none, none, none, none, none, none, none, none, none, none, none, none, none, none, none, none, none, none, none, none, none, none, none, none, none, none, none, none, none, some K.bm, none, none, none, none, none, none, none, none, none, none, none, none, none, none, none, none, none, none, none, none, none, none, none, none, none, none, none, none, none, none, none, none, none, none, none, none, none, none, none, none, none, none, none, none, none, none, none, none, none, none, none, none, none, none, some K.aE, none, none, none, none, none, none, none, none, none, some K.bE, none, none, none, none, none, some K.a6, none, none, none, none, none, none, none, none, none, none, none, none, none, none, none, none, none, none, none, none, none, none, none, none, none, none, none, some K.aA, none, none, none, none, none, none, none, none, none, none, none, none, none, none, none, none, none, none, none, none, none, none, none, none, none, none, none, none, none, none, none, none, none, none, none, none, none, none, none, none, none, none, none, none, none, none, none, none, none, none, none, none, none, none, none, none, none, none, none, none, none, none, none, none, none, none, none, none, none, none, none, none, none, none, none, none, none, none, none, none, none, none, none, none, none, none, none, none, none, none, none, none, none, none, none, none, none, none, none, none, none, none, none, none, none, none, none, none, none, none, none, none, none, none, none, none, none, none, none, none, none, none, none, none, none, none, none, none, none, none, none, none, none, none, none, none, none, none, none, none, none, none, none, none, none, none, none, none, none, none, none, none, none, none, none, none, none, some K.aD, none, none, none, none, none, none, none, none, none, none, none, none, none, none, none, none, none, none, none, none, none, none, some K.ay, none, none, none, some K.bG, some K.bu, some K.bn, some K.aB, some K.bg, none, none, some K.cF, some K.aT, none, some K.c9, none, some K.bC, some K.aF, some K.bo, some K.bj, some K.aN, some K.aQ, some K.aO, some K.aI, some K.aJ, none, some K.a8, some K.aU, some K.ao, some K.bT, some K.ai]
instance names : Names := { ρ := fun f => (real[f]?).join, it := fun f => f == 415 }
instance lib : Lib := ⟨fun f => (tab[f]?).join⟩
instance has1 : dX := ⟨rfl, rfl, rfl, rfl, rfl⟩
instance has2 : eg := ⟨rfl, rfl, rfl, rfl⟩
instance has3 : qC := ⟨⟩
instance has4 : pR := ⟨rfl⟩
instance has6 : nB := ⟨rfl, rfl⟩
instance has7 : nT := ⟨rfl⟩
instance has8 : qI := ⟨⟩
instance has9 : pZ := ⟨rfl⟩
instance has17 : jc := ⟨rfl⟩
instance has19 : ct := ⟨rfl, rfl, rfl, rfl, rfl, rfl, rfl, rfl, rfl, rfl, rfl, rfl, rfl, rfl, rfl, rfl, rfl, rfl, rfl, rfl, rfl⟩
instance has20 : iF := ⟨rfl, rfl⟩
theorem nH : bO Try.prog Try.f11 K.bV = true := by kernel_rfl
theorem oZ : bO Try.prog Try.f12 K.cA = true := by kernel_rfl
theorem jH : bO Try.prog Try.f22 K.ax = true := by kernel_rfl
theorem kS : bO Try.prog Try.f14 K.aS = true := by kernel_rfl
theorem qV : bO Try.prog Try.f16 K.bI = true := by kernel_rfl
theorem dk : bO Try.prog Try.f35 K.aj = true := by kernel_rfl
theorem jI : bO Try.prog Try.f33 K.aL = true := by kernel_rfl
theorem dN : bO Try.prog Try.f47 K.av = true := by kernel_rfl
theorem qW : bO Try.prog Try.f37 K.bQ = true := by kernel_rfl
theorem kT : bO Try.prog Try.f44 K.bm = true := by kernel_rfl
theorem fe : bO Try.prog Try.f34 K.aE = true := by kernel_rfl
theorem kM : bO Try.prog Try.f46 K.bE = true := by kernel_rfl
theorem je : bO Try.prog Try.f50 K.a6 = true := by kernel_rfl
theorem fo : bO Try.prog Try.f39 K.aA = true := by kernel_rfl
theorem mm : bO Try.prog Try.f30 K.aD = true := by kernel_rfl
theorem jJ : bO Try.prog Try.f4 K.ay = true := by kernel_rfl
theorem mo : bO Try.prog Try.f8 K.bG = true := by kernel_rfl
theorem mq : bO Try.prog Try.f9 K.bu = true := by kernel_rfl
theorem nI : bO Try.prog Try.f10 K.bn = true := by kernel_rfl
theorem iI : bO Try.prog Try.f13 K.aB = true := by kernel_rfl
theorem mr : bO Try.prog Try.f15 K.bg = true := by kernel_rfl
theorem nJ : bO Try.prog Try.f19 K.cF = true := by kernel_rfl
theorem iJ : bO Try.prog Try.f20 K.aT = true := by kernel_rfl
theorem o3 : bO Try.prog Try.f23 K.c9 = true := by kernel_rfl
theorem nK : bO Try.prog Try.f25 K.bC = true := by kernel_rfl
theorem jf : bO Try.prog Try.f26 K.aF = true := by kernel_rfl
theorem nL : bO Try.prog Try.f27 K.bo = true := by kernel_rfl
theorem o4 : bO Try.prog Try.f28 K.bj = true := by kernel_rfl
theorem nM : bO Try.prog Try.f29 K.aN = true := by kernel_rfl
theorem nN : bO Try.prog Try.f31 K.aQ = true := by kernel_rfl
theorem o5 : bO Try.prog Try.f32 K.aO = true := by kernel_rfl
theorem gq : bO Try.prog Try.f36 K.aI = true := by kernel_rfl
theorem gr : bO Try.prog Try.f38 K.aJ = true := by kernel_rfl
theorem o6 : bO Try.prog Try.f41 K.a8 = true := by kernel_rfl
theorem kU : bO Try.prog Try.f42 K.aU = true := by kernel_rfl
theorem eE : bO Try.prog Try.f43 K.ao = true := by kernel_rfl
theorem o7 : bO Try.prog Try.f45 K.bT = true := by kernel_rfl
theorem dO : bO Try.prog Try.f48 K.ai = true := by kernel_rfl
theorem HL : oy Try.prog real tab :=
 ⟨trivial, ⟨⟨by kernel_rfl, au Try.func11 nH⟩, ⟨trivial, ⟨⟨by kernel_rfl, au Try.func12 oZ⟩, ⟨trivial, ⟨trivial, ⟨trivial, ⟨trivial, ⟨trivial, ⟨⟨by kernel_rfl, au Try.func22 jH⟩, ⟨⟨by kernel_rfl, au Try.func14 kS⟩, ⟨trivial, ⟨trivial, ⟨trivial, ⟨trivial, ⟨trivial, ⟨trivial, ⟨trivial, ⟨trivial, ⟨trivial, ⟨trivial, ⟨trivial, ⟨trivial, ⟨⟨by kernel_rfl, au Try.func16 qV⟩, ⟨trivial, ⟨trivial, ⟨trivial, ⟨trivial, ⟨trivial, ⟨trivial, ⟨trivial, ⟨trivial, ⟨trivial, ⟨trivial, ⟨trivial, ⟨trivial, ⟨trivial, ⟨trivial, ⟨trivial, ⟨trivial, ⟨trivial, ⟨trivial, ⟨trivial, ⟨trivial, ⟨trivial, ⟨trivial, ⟨trivial, ⟨trivial, ⟨trivial, ⟨⟨by kernel_rfl, au Try.func35 dk⟩, ⟨trivial, ⟨trivial, ⟨trivial, ⟨trivial, ⟨trivial, ⟨trivial, ⟨trivial, ⟨trivial, ⟨trivial, ⟨trivial, ⟨trivial, ⟨trivial, ⟨⟨by kernel_rfl, au Try.func33 jI⟩, ⟨trivial, ⟨trivial, ⟨trivial, ⟨⟨by kernel_rfl, au Try.func47 dN⟩, ⟨trivial, ⟨trivial, ⟨trivial, ⟨trivial, ⟨⟨by kernel_rfl, au Try.func37 qW⟩, ⟨trivial, ⟨trivial, ⟨trivial, ⟨trivial, ⟨trivial, ⟨trivial, ⟨trivial, ⟨trivial, ⟨trivial, ⟨trivial, ⟨trivial, ⟨trivial, ⟨trivial, ⟨trivial, ⟨trivial, ⟨trivial, ⟨trivial, ⟨trivial, ⟨trivial, ⟨trivial, ⟨trivial, ⟨trivial, ⟨trivial, ⟨trivial, ⟨trivial, ⟨trivial, ⟨trivial, ⟨trivial, ⟨trivial, ⟨trivial, ⟨trivial, ⟨trivial, ⟨trivial, ⟨⟨by kernel_rfl, au Try.func44 kT⟩, ⟨trivial, ⟨trivial, ⟨trivial, ⟨trivial, ⟨trivial, ⟨trivial, ⟨trivial, ⟨trivial, ⟨trivial, ⟨trivial, ⟨trivial, ⟨trivial, ⟨trivial, ⟨trivial, ⟨trivial, ⟨trivial, ⟨trivial, ⟨trivial, ⟨trivial, ⟨trivial, ⟨trivial, ⟨trivial, ⟨trivial, ⟨trivial, ⟨trivial, ⟨trivial, ⟨trivial, ⟨trivial, ⟨trivial, ⟨trivial, ⟨trivial, ⟨trivial, ⟨trivial, ⟨trivial, ⟨trivial, ⟨trivial, ⟨trivial, ⟨trivial, ⟨trivial, ⟨trivial, ⟨trivial, ⟨trivial, ⟨trivial, ⟨trivial, ⟨trivial, ⟨trivial, ⟨trivial, ⟨trivial, ⟨trivial, ⟨trivial, ⟨trivial, ⟨trivial, ⟨trivial, ⟨trivial, ⟨⟨by kernel_rfl, au Try.func34 fe⟩, ⟨trivial, ⟨trivial, ⟨trivial, ⟨trivial, ⟨trivial, ⟨trivial, ⟨trivial, ⟨trivial, ⟨trivial, ⟨⟨by kernel_rfl, au Try.func46 kM⟩, ⟨trivial, ⟨trivial, ⟨trivial, ⟨trivial, ⟨trivial, ⟨⟨by kernel_rfl, au Try.func50 je⟩, ⟨trivial, ⟨trivial, ⟨trivial, ⟨trivial, ⟨trivial, ⟨trivial, ⟨trivial, ⟨trivial, ⟨trivial, ⟨trivial, ⟨trivial, ⟨trivial, ⟨trivial, ⟨trivial, ⟨trivial, ⟨trivial, ⟨trivial, ⟨trivial, ⟨trivial, ⟨trivial, ⟨trivial, ⟨trivial, ⟨trivial, ⟨trivial, ⟨trivial, ⟨trivial, ⟨trivial, ⟨⟨by kernel_rfl, au Try.func39 fo⟩, ⟨trivial, ⟨trivial, ⟨trivial, ⟨trivial, ⟨trivial, ⟨trivial, ⟨trivial, ⟨trivial, ⟨trivial, ⟨trivial, ⟨trivial, ⟨trivial, ⟨trivial, ⟨trivial, ⟨trivial, ⟨trivial, ⟨trivial, ⟨trivial, ⟨trivial, ⟨trivial, ⟨trivial, ⟨trivial, ⟨trivial, ⟨trivial, ⟨trivial, ⟨trivial, ⟨trivial, ⟨trivial, ⟨trivial, ⟨trivial, ⟨trivial, ⟨trivial, ⟨trivial, ⟨trivial, ⟨trivial, ⟨trivial, ⟨trivial, ⟨trivial, ⟨trivial, ⟨trivial, ⟨trivial, ⟨trivial, ⟨trivial, ⟨trivial, ⟨trivial, ⟨trivial, ⟨trivial, ⟨trivial, ⟨trivial, ⟨trivial, ⟨trivial, ⟨trivial, ⟨trivial, ⟨trivial, ⟨trivial, ⟨trivial, ⟨trivial, ⟨trivial, ⟨trivial, ⟨trivial, ⟨trivial, ⟨trivial, ⟨trivial, ⟨trivial, ⟨trivial, ⟨trivial, ⟨trivial, ⟨trivial, ⟨trivial, ⟨trivial, ⟨trivial, ⟨trivial, ⟨trivial, ⟨trivial, ⟨trivial, ⟨trivial, ⟨trivial, ⟨trivial, ⟨trivial, ⟨trivial, ⟨trivial, ⟨trivial, ⟨trivial, ⟨trivial, ⟨trivial, ⟨trivial, ⟨trivial, ⟨trivial, ⟨trivial, ⟨trivial, ⟨trivial, ⟨trivial, ⟨trivial, ⟨trivial, ⟨trivial, ⟨trivial, ⟨trivial, ⟨trivial, ⟨trivial, ⟨trivial, ⟨trivial, ⟨trivial, ⟨trivial, ⟨trivial, ⟨trivial, ⟨trivial, ⟨trivial, ⟨trivial, ⟨trivial, ⟨trivial, ⟨trivial, ⟨trivial, ⟨trivial, ⟨trivial, ⟨trivial, ⟨trivial, ⟨trivial, ⟨trivial, ⟨trivial, ⟨trivial, ⟨trivial, ⟨trivial, ⟨trivial, ⟨trivial, ⟨trivial, ⟨trivial, ⟨trivial, ⟨trivial, ⟨trivial, ⟨trivial, ⟨trivial, ⟨trivial, ⟨trivial, ⟨trivial, ⟨trivial, ⟨trivial, ⟨trivial, ⟨trivial, ⟨trivial, ⟨trivial, ⟨trivial, ⟨trivial, ⟨trivial, ⟨trivial, ⟨trivial, ⟨trivial, ⟨trivial, ⟨trivial, ⟨trivial, ⟨trivial, ⟨trivial, ⟨trivial, ⟨trivial, ⟨trivial, ⟨trivial, ⟨trivial, ⟨trivial, ⟨⟨by kernel_rfl, au Try.func30 mm⟩, ⟨trivial, ⟨trivial, ⟨trivial, ⟨trivial, ⟨trivial, ⟨trivial, ⟨trivial, ⟨trivial, ⟨trivial, ⟨trivial, ⟨trivial, ⟨trivial, ⟨trivial, ⟨trivial, ⟨trivial, ⟨trivial, ⟨trivial, ⟨trivial, ⟨trivial, ⟨trivial, ⟨trivial, ⟨trivial, ⟨⟨by kernel_rfl, au Try.func4 jJ⟩, ⟨trivial, ⟨trivial, ⟨trivial, ⟨⟨by kernel_rfl, au Try.func8 mo⟩, ⟨⟨by kernel_rfl, au Try.func9 mq⟩, ⟨⟨by kernel_rfl, au Try.func10 nI⟩, ⟨⟨by kernel_rfl, au Try.func13 iI⟩, ⟨⟨by kernel_rfl, au Try.func15 mr⟩, ⟨trivial, ⟨trivial, ⟨⟨by kernel_rfl, au Try.func19 nJ⟩, ⟨⟨by kernel_rfl, au Try.func20 iJ⟩, ⟨trivial, ⟨⟨by kernel_rfl, au Try.func23 o3⟩, ⟨trivial, ⟨⟨by kernel_rfl, au Try.func25 nK⟩, ⟨⟨by kernel_rfl, au Try.func26 jf⟩, ⟨⟨by kernel_rfl, au Try.func27 nL⟩, ⟨⟨by kernel_rfl, au Try.func28 o4⟩, ⟨⟨by kernel_rfl, au Try.func29 nM⟩, ⟨⟨by kernel_rfl, au Try.func31 nN⟩, ⟨⟨by kernel_rfl, au Try.func32 o5⟩, ⟨⟨by kernel_rfl, au Try.func36 gq⟩, ⟨⟨by kernel_rfl, au Try.func38 gr⟩, ⟨trivial, ⟨⟨by kernel_rfl, au Try.func41 o6⟩, ⟨⟨by kernel_rfl, au Try.func42 kU⟩, ⟨⟨by kernel_rfl, au Try.func43 eE⟩, ⟨⟨by kernel_rfl, au Try.func45 o7⟩, ⟨⟨by kernel_rfl, au Try.func48 dO⟩, trivial⟩⟩⟩⟩⟩⟩⟩⟩⟩⟩⟩⟩⟩⟩⟩⟩⟩⟩⟩⟩⟩⟩⟩⟩⟩⟩⟩⟩⟩⟩⟩⟩⟩⟩⟩⟩⟩⟩⟩⟩⟩⟩⟩⟩⟩⟩⟩⟩⟩⟩⟩⟩⟩⟩⟩⟩⟩⟩⟩⟩⟩⟩⟩⟩⟩⟩⟩⟩⟩⟩⟩⟩⟩⟩⟩⟩⟩⟩⟩⟩⟩⟩⟩⟩⟩⟩⟩⟩⟩⟩⟩⟩⟩⟩⟩⟩⟩⟩⟩⟩⟩⟩⟩⟩⟩⟩⟩⟩⟩⟩⟩⟩⟩⟩⟩⟩⟩⟩⟩⟩⟩⟩⟩⟩⟩⟩⟩⟩⟩⟩⟩⟩⟩⟩⟩⟩⟩⟩⟩⟩⟩⟩⟩⟩⟩⟩⟩⟩⟩⟩⟩⟩⟩⟩⟩⟩⟩⟩⟩⟩⟩⟩⟩⟩⟩⟩⟩⟩⟩⟩⟩⟩⟩⟩⟩⟩⟩⟩⟩⟩⟩⟩⟩⟩⟩⟩⟩⟩⟩⟩⟩⟩⟩⟩⟩⟩⟩⟩⟩⟩⟩⟩⟩⟩⟩⟩⟩⟩⟩⟩⟩⟩⟩⟩⟩⟩⟩⟩⟩⟩⟩⟩⟩⟩⟩⟩⟩⟩⟩⟩⟩⟩⟩⟩⟩⟩⟩⟩⟩⟩⟩⟩⟩⟩⟩⟩⟩⟩⟩⟩⟩⟩⟩⟩⟩⟩⟩⟩⟩⟩⟩⟩⟩⟩⟩⟩⟩⟩⟩⟩⟩⟩⟩⟩⟩⟩⟩⟩⟩⟩⟩⟩⟩⟩⟩⟩⟩⟩⟩⟩⟩⟩⟩⟩⟩⟩⟩⟩⟩⟩⟩⟩⟩⟩⟩⟩⟩⟩⟩⟩⟩⟩⟩⟩⟩⟩⟩⟩⟩⟩⟩⟩⟩⟩⟩⟩⟩⟩⟩⟩⟩⟩⟩⟩⟩⟩⟩⟩⟩⟩⟩⟩⟩⟩⟩⟩⟩⟩⟩⟩⟩⟩⟩⟩⟩⟩⟩⟩⟩⟩⟩⟩⟩⟩⟩⟩⟩⟩⟩⟩⟩⟩⟩⟩⟩⟩⟩⟩⟩⟩⟩⟩⟩⟩⟩⟩⟩⟩⟩⟩⟩⟩⟩⟩⟩⟩⟩⟩⟩⟩⟩⟩⟩⟩⟩⟩⟩⟩⟩⟩⟩⟩⟩⟩⟩⟩
section
open Go.RowKit Go.Shelf Go.Proofs
/- the inner function of slices.Chunk at this program -/
def Ol : Value → Int | .int _ q => q | _ => 0
set_option maxRecDepth 100000 in
set_option maxHeartbeats 2000000 in
theorem wv : jT Try.prog 48 := by
 refine ⟨Go.Proofs.enters_of Try.func48 (by kernel_rfl) rfl, ?_⟩
 intro n l Bs Bn m J hn hm hD hc hY W h0
 refine callsIn_of_wp Try.func48 rfl trivial ?_ rfl
 simp only [Try.ntmps48, List.size_toArray, List.length_cons, List.length_nil, Nat.reduceAdd, Nat.reduceSub, Array.replicate_succ, Array.replicate_zero, List.push_toArray, List.append_toArray, List.nil_append, List.cons_append]
 have hD' : ∀ k W, J k W → J k W.drew := hD
 gi_wp2
 gi_loopw [4] (fun i wr => ∃ k : Nat, k ≤ m ∧ i = .int .i64 (2 * k) ∧ J k wr)
  (fun i _ => 2 * m - (Ol i).toNat)
 case atStart => exact ⟨0, Nat.zero_le _, rfl, h0⟩
 case round =>
  obtain ⟨k, hk, rfl, hJs⟩ := hrel
  obtain ⟨cn, a, cap, cs, ha⟩ := hc _ _ hJs
  by_cases hlt : k < m
  · obtain ⟨hcap, b, off, rfl⟩ := ha (by omega)
    obtain ⟨fn, tmps, assign, body, hy, hR⟩ := hY k _ b off cap hlt (hD' _ _ hJs) cs
    have hcn : ∀ W, J (k + 1) W → W.cell? ⟨Bn, 0, none⟩ = some (.int .i64 2) := fun W h => (hc _ _ h).1
    clear hY hc ha hD hD'
    gi_wp2
    gi_region
    gi_wp2
    refine hR.mono ?_
    rintro e W3 ⟨rfl, hJ3⟩
    have cn3 := hcn _ hJ3
    clear hcn
    gi_wp2
    go_roundw
    case rel => exact ⟨k + 1, by omega, by simp; omega, hJ3⟩
    case measure => simp [Ol]; omega
  · obtain rfl : k = m := by omega
    clear hY
    gi_wp2
    go_end0
    exact ⟨⟨_, rfl⟩, hJs⟩
end
theorem HM : ∀ f j, Names.ρ f = some j → Names.it f = true → jT Try.prog j := fun f j hj h => by
 have e : f = 415 := eq_of_beq h
 subst e
 have e : (Names.ρ 415 : Option Nat) = some 48 := by kernel_rfl
 rw [e] at hj; cases hj; exact wv
def HN : List (Nat × List Nat) := []
theorem wx : ∀ x ∈ HN, ∀ j, Names.ρ x.1 = some j → pt Try.prog j x.2 := by
 intro x hx
 cases hx
end Go.Proofs.Ytbajpjfhkieglaa
