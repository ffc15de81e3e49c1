/- MADE BY PROGRAM (lib.py): the numbers that the functions have in this program, and the check of each one. -/
import Derived.Test.YtbajpjfhkieglaaProg
import Derived.Shelf.Abstract
import Derived.RangeFuncBox
import Derived.RangeFuncLeaves
import Derived.WalkKit
import Derived.OwnWalkIn
import Derived.TacticsInMore
import Derived.LoopNIn
import Derived.LoopIn
import Derived.Test.YtbajpjfhkieglaaZ3
import Derived.KernelRfl
set_option linter.all false
set_option maxRecDepth 100000
namespace Go.Proofs.Ytbajpjfhkieglaa
open Go.Ev
def real : List (Option Nat) := [none, some 11, none, some 12, none, none, none, none, none, some 22, some 14, none, none, none, none, none, none, none, none, none, none, none, none, some 16, none, none, none, none, none, none, none, none, none, none, none, none, none, none, none, none, none, none, none, none, none, none, none, none, none, some 35, none, none, none, none, none, none, none, none, none, none, none, none, some 33, none, none, none, some 47, none, none, none, none, some 37, none, none, none, none, none, none, none, none, none, none, none, none, none, none, none, none, none, none, none, none, none, none, none, none, none, none, none, none, none, none, none, none, none, some 44, none, none, none, none, none, none, none, none, none, none, none, none, none, none, none, none, none, none, none, none, none, none, none, none, none, none, none, none, none, none, none, none, none, none, none, none, none, none, none, none, none, none, none, none, none, none, none, none, none, none, none, none, none, none, some 34, none, none, none, none, none, none, none, none, none, some 46, none, none, none, none, none, some 50, none, none, none, none, none, none, none, none, none, none, none, none, none, none, none, none, none, none, none, none, none, none, none, none, none, none, none, some 39, none, none, none, none, none, none, none, none, none, none, none, none, none, none, none, none, none, none, none, none, none, none, none, none, none, none, none, none, none, none, none, none, none, none, none, none, none, none, none, none, none, none, none, none, none, none, none, none, none, none, none, none, none, none, none, none, none, none, none, none, none, none, none, none, none, none, none, none, none, none, none, none, none, none, none, none, none, none, none, none, none, none, none, none, none, none, none, none, none, none, none, none, none, none, none, none, none, none, none, none, none, none, none, none, none, none, none, none, none, none, none, none, none, none, none, none, none, none, none, none, none, none, none, none, none, none, none, none, none, none, none, none, none, none, none, none, none, none, none, none, none, none, none, none, none, none, none, none, none, none, none, none, none, none, none, none, none, some 30, none, none, none, none, none, none, none, none, none, none, none, none, none, none, none, none, none, none, none, none, none, none, none, some 5, none, none, some 8, none, none, some 13, none, some 17, some 18, some 19, some 20, some 21, some 23, some 24, some 25, none, none, some 28, some 29, none, none, some 36, some 38, some 40, some 41, some 42, some 43, none, some 48]
def tab : List (Option Go.Ev.Fn) := [none, some K.bU, none, some K.cr, none, none, none, none, none, some K.ax, some K.bc, none, none, none, none, none, none, none, none, none, none, none, none, some K.cy, none, none, none, none, none, none, none, none, none, none, none, none, none, none, none, none, none, none, none, none, none, none, none, none, none, some K.ag, none, none, none, none, none, none, none, none, none, none, none, none, some K.aP, none, none, none, some K.ai, none, none, none, none, some K.bP, none, none, none, none, none, none, none, none, none, none, none, none, none, none, none, none, none, none, none, none, none, none, none, none, none, none, none, none, none, none, none, none, none, some K.bo, none, none, none, none, none, none, none, none, none, none, none, none, none, none, none, none, none, none, none, none, none, none, none, none, none, none, none, none, none, none, none, none, none, none, none, none, none, none, none, none, none, none, none, none, none, none, none, none, none, none, none, none, none, none, some K.au, none, none, none, none, none, none, none, none, none, some K.aY, none, none, none, none, none, some K.aS, none, none, none, none, none, none, none, none, none, none, none, none, none, none, none, none, none, none, none, none, none, none, none, none, none, none, none, some K.aq, none, none, none, none, none, none, none, none, none, none, none, none, none, none, none, none, none, none, none, none, none, none, none, none, none, none, none, none, none, none, none, none, none, none, none, none, none, none, none, none, none, none, none, none, none, none, none, none, none, none, none, none, none, none, none, none, none, none, none, none, none, none, none, none, none, none, none, none, none, none, none, none, none, none, none, none, none, none, none, none, none, none, none, none, none, none, none, none, none, none, none, none, none, none, none, none, none, none, none, none, none, none, none, none, none, none, none, none, none, none, none, none, none, none, none, none, none, none, none, none, none, none, none, none, none, none, none, none, none, none, none, none, none, none, none, none, none, none, none, none, none, none, none, none, none, none, none, none, none, none, none, none, none, none, none, none, none, some K.aM, none, none, none, none, none, none, none, none, none, none, none, none, none, none, none, none, none, none, none, none, none, none, none, some K.aJ, none, none, some K.bI, none, none, some K.aH, none, some K.bJ, some K.aD, some K.bM, some K.ay, some K.ak, some K.a8, some K.aV, some K.cG, none, none, some K.dh, some K.a6, none, none, some K.aA, some K.aB, some K.bV, some K.ct, some K.bq, some K.aG, none, some K.av]
instance names : Names := { ρ := fun f => (real[f]?).join, it := fun f => f == 415 }
instance lib : Lib := ⟨fun f => (tab[f]?).join⟩
instance has1 : dO := ⟨rfl, rfl, rfl, rfl, rfl⟩
instance has2 : dT := ⟨rfl, rfl, rfl, rfl⟩
instance has3 : pG := ⟨⟩
instance has4 : oD := ⟨rfl⟩
instance has6 : lW := ⟨rfl, rfl⟩
instance has7 : m7 := ⟨rfl⟩
instance has8 : pO := ⟨⟩
instance has9 : oF := ⟨rfl⟩
instance has17 : gZ := ⟨rfl⟩
instance has19 : cu := ⟨rfl, rfl, rfl, rfl, rfl, rfl, rfl, rfl, rfl, rfl, rfl, rfl, rfl, rfl, rfl, rfl, rfl, rfl, rfl⟩
instance has20 : hT := ⟨rfl⟩
theorem ni : bW Try.prog Try.f11 K.bU = true := by kernel_rfl
theorem oP : bW Try.prog Try.f12 K.cr = true := by kernel_rfl
theorem jh : bW Try.prog Try.f22 K.ax = true := by kernel_rfl
theorem kv : bW Try.prog Try.f14 K.bc = true := by kernel_rfl
theorem qG : bW Try.prog Try.f16 K.cy = true := by kernel_rfl
theorem dn : bW Try.prog Try.f35 K.ag = true := by kernel_rfl
theorem ji : bW Try.prog Try.f33 K.aP = true := by kernel_rfl
theorem dJ : bW Try.prog Try.f47 K.ai = true := by kernel_rfl
theorem qH : bW Try.prog Try.f37 K.bP = true := by kernel_rfl
theorem kx : bW Try.prog Try.f44 K.bo = true := by kernel_rfl
theorem eJ : bW Try.prog Try.f34 K.au = true := by kernel_rfl
theorem kl : bW Try.prog Try.f46 K.aY = true := by kernel_rfl
theorem iH : bW Try.prog Try.f50 K.aS = true := by kernel_rfl
theorem eS : bW Try.prog Try.f39 K.aq = true := by kernel_rfl
theorem lT : bW Try.prog Try.f30 K.aM = true := by kernel_rfl
theorem iI : bW Try.prog Try.f5 K.aJ = true := by kernel_rfl
theorem lU : bW Try.prog Try.f8 K.bI = true := by kernel_rfl
theorem hX : bW Try.prog Try.f13 K.aH = true := by kernel_rfl
theorem lV : bW Try.prog Try.f17 K.bJ = true := by kernel_rfl
theorem h9 : bW Try.prog Try.f18 K.aD = true := by kernel_rfl
theorem nj : bW Try.prog Try.f19 K.bM = true := by kernel_rfl
theorem ib : bW Try.prog Try.f20 K.ay = true := by kernel_rfl
theorem gv : bW Try.prog Try.f21 K.ak = true := by kernel_rfl
theorem oQ : bW Try.prog Try.f23 K.a8 = true := by kernel_rfl
theorem nk : bW Try.prog Try.f24 K.aV = true := by kernel_rfl
theorem nn : bW Try.prog Try.f25 K.cG = true := by kernel_rfl
theorem oR : bW Try.prog Try.f28 K.dh = true := by kernel_rfl
theorem nq : bW Try.prog Try.f29 K.a6 = true := by kernel_rfl
theorem fL : bW Try.prog Try.f36 K.aA = true := by kernel_rfl
theorem fM : bW Try.prog Try.f38 K.aB = true := by kernel_rfl
theorem ns : bW Try.prog Try.f40 K.bV = true := by kernel_rfl
theorem oS : bW Try.prog Try.f41 K.ct = true := by kernel_rfl
theorem ky : bW Try.prog Try.f42 K.bq = true := by kernel_rfl
theorem eg : bW Try.prog Try.f43 K.aG = true := by kernel_rfl
theorem dK : bW Try.prog Try.f48 K.av = true := by kernel_rfl
theorem Ic : nY Try.prog real tab :=
 ⟨trivial, ⟨⟨by kernel_rfl, aE Try.func11 ni⟩, ⟨trivial, ⟨⟨by kernel_rfl, aE Try.func12 oP⟩, ⟨trivial, ⟨trivial, ⟨trivial, ⟨trivial, ⟨trivial, ⟨⟨by kernel_rfl, aE Try.func22 jh⟩, ⟨⟨by kernel_rfl, aE Try.func14 kv⟩, ⟨trivial, ⟨trivial, ⟨trivial, ⟨trivial, ⟨trivial, ⟨trivial, ⟨trivial, ⟨trivial, ⟨trivial, ⟨trivial, ⟨trivial, ⟨trivial, ⟨⟨by kernel_rfl, aE Try.func16 qG⟩, ⟨trivial, ⟨trivial, ⟨trivial, ⟨trivial, ⟨trivial, ⟨trivial, ⟨trivial, ⟨trivial, ⟨trivial, ⟨trivial, ⟨trivial, ⟨trivial, ⟨trivial, ⟨trivial, ⟨trivial, ⟨trivial, ⟨trivial, ⟨trivial, ⟨trivial, ⟨trivial, ⟨trivial, ⟨trivial, ⟨trivial, ⟨trivial, ⟨trivial, ⟨⟨by kernel_rfl, aE Try.func35 dn⟩, ⟨trivial, ⟨trivial, ⟨trivial, ⟨trivial, ⟨trivial, ⟨trivial, ⟨trivial, ⟨trivial, ⟨trivial, ⟨trivial, ⟨trivial, ⟨trivial, ⟨⟨by kernel_rfl, aE Try.func33 ji⟩, ⟨trivial, ⟨trivial, ⟨trivial, ⟨⟨by kernel_rfl, aE Try.func47 dJ⟩, ⟨trivial, ⟨trivial, ⟨trivial, ⟨trivial, ⟨⟨by kernel_rfl, aE Try.func37 qH⟩, ⟨trivial, ⟨trivial, ⟨trivial, ⟨trivial, ⟨trivial, ⟨trivial, ⟨trivial, ⟨trivial, ⟨trivial, ⟨trivial, ⟨trivial, ⟨trivial, ⟨trivial, ⟨trivial, ⟨trivial, ⟨trivial, ⟨trivial, ⟨trivial, ⟨trivial, ⟨trivial, ⟨trivial, ⟨trivial, ⟨trivial, ⟨trivial, ⟨trivial, ⟨trivial, ⟨trivial, ⟨trivial, ⟨trivial, ⟨trivial, ⟨trivial, ⟨trivial, ⟨trivial, ⟨⟨by kernel_rfl, aE Try.func44 kx⟩, ⟨trivial, ⟨trivial, ⟨trivial, ⟨trivial, ⟨trivial, ⟨trivial, ⟨trivial, ⟨trivial, ⟨trivial, ⟨trivial, ⟨trivial, ⟨trivial, ⟨trivial, ⟨trivial, ⟨trivial, ⟨trivial, ⟨trivial, ⟨trivial, ⟨trivial, ⟨trivial, ⟨trivial, ⟨trivial, ⟨trivial, ⟨trivial, ⟨trivial, ⟨trivial, ⟨trivial, ⟨trivial, ⟨trivial, ⟨trivial, ⟨trivial, ⟨trivial, ⟨trivial, ⟨trivial, ⟨trivial, ⟨trivial, ⟨trivial, ⟨trivial, ⟨trivial, ⟨trivial, ⟨trivial, ⟨trivial, ⟨trivial, ⟨trivial, ⟨trivial, ⟨trivial, ⟨trivial, ⟨trivial, ⟨trivial, ⟨trivial, ⟨trivial, ⟨trivial, ⟨trivial, ⟨trivial, ⟨⟨by kernel_rfl, aE Try.func34 eJ⟩, ⟨trivial, ⟨trivial, ⟨trivial, ⟨trivial, ⟨trivial, ⟨trivial, ⟨trivial, ⟨trivial, ⟨trivial, ⟨⟨by kernel_rfl, aE Try.func46 kl⟩, ⟨trivial, ⟨trivial, ⟨trivial, ⟨trivial, ⟨trivial, ⟨⟨by kernel_rfl, aE Try.func50 iH⟩, ⟨trivial, ⟨trivial, ⟨trivial, ⟨trivial, ⟨trivial, ⟨trivial, ⟨trivial, ⟨trivial, ⟨trivial, ⟨trivial, ⟨trivial, ⟨trivial, ⟨trivial, ⟨trivial, ⟨trivial, ⟨trivial, ⟨trivial, ⟨trivial, ⟨trivial, ⟨trivial, ⟨trivial, ⟨trivial, ⟨trivial, ⟨trivial, ⟨trivial, ⟨trivial, ⟨trivial, ⟨⟨by kernel_rfl, aE Try.func39 eS⟩, ⟨trivial, ⟨trivial, ⟨trivial, ⟨trivial, ⟨trivial, ⟨trivial, ⟨trivial, ⟨trivial, ⟨trivial, ⟨trivial, ⟨trivial, ⟨trivial, ⟨trivial, ⟨trivial, ⟨trivial, ⟨trivial, ⟨trivial, ⟨trivial, ⟨trivial, ⟨trivial, ⟨trivial, ⟨trivial, ⟨trivial, ⟨trivial, ⟨trivial, ⟨trivial, ⟨trivial, ⟨trivial, ⟨trivial, ⟨trivial, ⟨trivial, ⟨trivial, ⟨trivial, ⟨trivial, ⟨trivial, ⟨trivial, ⟨trivial, ⟨trivial, ⟨trivial, ⟨trivial, ⟨trivial, ⟨trivial, ⟨trivial, ⟨trivial, ⟨trivial, ⟨trivial, ⟨trivial, ⟨trivial, ⟨trivial, ⟨trivial, ⟨trivial, ⟨trivial, ⟨trivial, ⟨trivial, ⟨trivial, ⟨trivial, ⟨trivial, ⟨trivial, ⟨trivial, ⟨trivial, ⟨trivial, ⟨trivial, ⟨trivial, ⟨trivial, ⟨trivial, ⟨trivial, ⟨trivial, ⟨trivial, ⟨trivial, ⟨trivial, ⟨trivial, ⟨trivial, ⟨trivial, ⟨trivial, ⟨trivial, ⟨trivial, ⟨trivial, ⟨trivial, ⟨trivial, ⟨trivial, ⟨trivial, ⟨trivial, ⟨trivial, ⟨trivial, ⟨trivial, ⟨trivial, ⟨trivial, ⟨trivial, ⟨trivial, ⟨trivial, ⟨trivial, ⟨trivial, ⟨trivial, ⟨trivial, ⟨trivial, ⟨trivial, ⟨trivial, ⟨trivial, ⟨trivial, ⟨trivial, ⟨trivial, ⟨trivial, ⟨trivial, ⟨trivial, ⟨trivial, ⟨trivial, ⟨trivial, ⟨trivial, ⟨trivial, ⟨trivial, ⟨trivial, ⟨trivial, ⟨trivial, ⟨trivial, ⟨trivial, ⟨trivial, ⟨trivial, ⟨trivial, ⟨trivial, ⟨trivial, ⟨trivial, ⟨trivial, ⟨trivial, ⟨trivial, ⟨trivial, ⟨trivial, ⟨trivial, ⟨trivial, ⟨trivial, ⟨trivial, ⟨trivial, ⟨trivial, ⟨trivial, ⟨trivial, ⟨trivial, ⟨trivial, ⟨trivial, ⟨trivial, ⟨trivial, ⟨trivial, ⟨trivial, ⟨trivial, ⟨trivial, ⟨trivial, ⟨trivial, ⟨trivial, ⟨trivial, ⟨trivial, ⟨trivial, ⟨trivial, ⟨trivial, ⟨trivial, ⟨trivial, ⟨trivial, ⟨trivial, ⟨trivial, ⟨trivial, ⟨⟨by kernel_rfl, aE Try.func30 lT⟩, ⟨trivial, ⟨trivial, ⟨trivial, ⟨trivial, ⟨trivial, ⟨trivial, ⟨trivial, ⟨trivial, ⟨trivial, ⟨trivial, ⟨trivial, ⟨trivial, ⟨trivial, ⟨trivial, ⟨trivial, ⟨trivial, ⟨trivial, ⟨trivial, ⟨trivial, ⟨trivial, ⟨trivial, ⟨trivial, ⟨trivial, ⟨⟨by kernel_rfl, aE Try.func5 iI⟩, ⟨trivial, ⟨trivial, ⟨⟨by kernel_rfl, aE Try.func8 lU⟩, ⟨trivial, ⟨trivial, ⟨⟨by kernel_rfl, aE Try.func13 hX⟩, ⟨trivial, ⟨⟨by kernel_rfl, aE Try.func17 lV⟩, ⟨⟨by kernel_rfl, aE Try.func18 h9⟩, ⟨⟨by kernel_rfl, aE Try.func19 nj⟩, ⟨⟨by kernel_rfl, aE Try.func20 ib⟩, ⟨⟨by kernel_rfl, aE Try.func21 gv⟩, ⟨⟨by kernel_rfl, aE Try.func23 oQ⟩, ⟨⟨by kernel_rfl, aE Try.func24 nk⟩, ⟨⟨by kernel_rfl, aE Try.func25 nn⟩, ⟨trivial, ⟨trivial, ⟨⟨by kernel_rfl, aE Try.func28 oR⟩, ⟨⟨by kernel_rfl, aE Try.func29 nq⟩, ⟨trivial, ⟨trivial, ⟨⟨by kernel_rfl, aE Try.func36 fL⟩, ⟨⟨by kernel_rfl, aE Try.func38 fM⟩, ⟨⟨by kernel_rfl, aE Try.func40 ns⟩, ⟨⟨by kernel_rfl, aE Try.func41 oS⟩, ⟨⟨by kernel_rfl, aE Try.func42 ky⟩, ⟨⟨by kernel_rfl, aE Try.func43 eg⟩, ⟨trivial, ⟨⟨by kernel_rfl, aE Try.func48 dK⟩, trivial⟩⟩⟩⟩⟩⟩⟩⟩⟩⟩⟩⟩⟩⟩⟩⟩⟩⟩⟩⟩⟩⟩⟩⟩⟩⟩⟩⟩⟩⟩⟩⟩⟩⟩⟩⟩⟩⟩⟩⟩⟩⟩⟩⟩⟩⟩⟩⟩⟩⟩⟩⟩⟩⟩⟩⟩⟩⟩⟩⟩⟩⟩⟩⟩⟩⟩⟩⟩⟩⟩⟩⟩⟩⟩⟩⟩⟩⟩⟩⟩⟩⟩⟩⟩⟩⟩⟩⟩⟩⟩⟩⟩⟩⟩⟩⟩⟩⟩⟩⟩⟩⟩⟩⟩⟩⟩⟩⟩⟩⟩⟩⟩⟩⟩⟩⟩⟩⟩⟩⟩⟩⟩⟩⟩⟩⟩⟩⟩⟩⟩⟩⟩⟩⟩⟩⟩⟩⟩⟩⟩⟩⟩⟩⟩⟩⟩⟩⟩⟩⟩⟩⟩⟩⟩⟩⟩⟩⟩⟩⟩⟩⟩⟩⟩⟩⟩⟩⟩⟩⟩⟩⟩⟩⟩⟩⟩⟩⟩⟩⟩⟩⟩⟩⟩⟩⟩⟩⟩⟩⟩⟩⟩⟩⟩⟩⟩⟩⟩⟩⟩⟩⟩⟩⟩⟩⟩⟩⟩⟩⟩⟩⟩⟩⟩⟩⟩⟩⟩⟩⟩⟩⟩⟩⟩⟩⟩⟩⟩⟩⟩⟩⟩⟩⟩⟩⟩⟩⟩⟩⟩⟩⟩⟩⟩⟩⟩⟩⟩⟩⟩⟩⟩⟩⟩⟩⟩⟩⟩⟩⟩⟩⟩⟩⟩⟩⟩⟩⟩⟩⟩⟩⟩⟩⟩⟩⟩⟩⟩⟩⟩⟩⟩⟩⟩⟩⟩⟩⟩⟩⟩⟩⟩⟩⟩⟩⟩⟩⟩⟩⟩⟩⟩⟩⟩⟩⟩⟩⟩⟩⟩⟩⟩⟩⟩⟩⟩⟩⟩⟩⟩⟩⟩⟩⟩⟩⟩⟩⟩⟩⟩⟩⟩⟩⟩⟩⟩⟩⟩⟩⟩⟩⟩⟩⟩⟩⟩⟩⟩⟩⟩⟩⟩⟩⟩⟩⟩⟩⟩⟩⟩⟩⟩⟩⟩⟩⟩⟩⟩⟩⟩⟩⟩⟩⟩⟩⟩⟩⟩⟩⟩⟩⟩⟩⟩⟩⟩⟩⟩⟩⟩⟩⟩⟩⟩⟩⟩⟩⟩⟩⟩⟩⟩⟩⟩⟩⟩⟩⟩⟩⟩⟩⟩⟩⟩⟩⟩
section
open Go.RowKit Go.Shelf Go.Proofs
/- the inner function of slices.Chunk at this program -/
def Oi : Value → Int | .int _ q => q | _ => 0
set_option maxRecDepth 100000 in
set_option maxHeartbeats 2000000 in
theorem wE : jv Try.prog 48 := by
 refine ⟨Go.Proofs.enters_of Try.func48 (by kernel_rfl) rfl, ?_⟩
 intro n l Bs Bn m J hn hm hD hc hY W h0
 refine callsIn_of_wp Try.func48 rfl trivial ?_ rfl
 simp only [Try.ntmps48, List.size_toArray, List.length_cons, List.length_nil, Nat.reduceAdd, Nat.reduceSub, Array.replicate_succ, Array.replicate_zero, List.push_toArray, List.append_toArray, List.nil_append, List.cons_append]
 have hD' : ∀ k W, J k W → J k W.drew := hD
 gi_wp2
 gi_loopw [4] (fun i wr => ∃ k : Nat, k ≤ m ∧ i = .int .i64 (2 * k) ∧ J k wr)
  (fun i _ => 2 * m - (Oi i).toNat)
 case atStart => exact ⟨0, Nat.zero_le _, rfl, h0⟩
 case round =>
  obtain ⟨k, hk, rfl, hJs⟩ := hrel
  obtain ⟨cn, a, cap, cs, ha⟩ := hc _ _ hJs
  by_cases hlt : k < m
  · obtain ⟨hcap, b, off, rfl⟩ := ha (by omega)
    obtain ⟨fn, tmps, assign, body, hy, hR⟩ := hY k _ b off cap hlt (hD' _ _ hJs) cs
    have hcn : ∀ W, J (k + 1) W → W.cell? ⟨Bn, 0, none⟩ = some (.int .i64 2) := fun W h => (hc _ _ h).1
    clear hY hc ha hD hD'
    gi_wp2
    gi_region
    gi_wp2
    refine hR.mono ?_
    rintro e W3 ⟨rfl, hJ3⟩
    have cn3 := hcn _ hJ3
    clear hcn
    gi_wp2
    go_roundw
    case rel => exact ⟨k + 1, by omega, by simp; omega, hJ3⟩
    case measure => simp [Oi]; omega
  · obtain rfl : k = m := by omega
    clear hY
    gi_wp2
    go_end0
    exact ⟨⟨_, rfl⟩, hJs⟩
end
theorem Ie : ∀ f j, Names.ρ f = some j → Names.it f = true → jv Try.prog j := fun f j hj h => by
 have e : f = 415 := eq_of_beq h
 subst e
 have e : (Names.ρ 415 : Option Nat) = some 48 := by kernel_rfl
 rw [e] at hj; cases hj; exact wE
def Ig : List (Nat × List Nat) := []
theorem wF : ∀ x ∈ Ig, ∀ j, Names.ρ x.1 = some j → o7 Try.prog j x.2 := by
 intro x hx
 cases hx
end Go.Proofs.Ytbajpjfhkieglaa
