/- MADE BY PROGRAM (lib.py): the numbers that the functions have in this program, and the check of each one. -/
import Derived.Test.YtgedjeljhicagaaGreatProg
import Derived.Test.YtgedjeljhicagaaGreatZPPP
import Derived.KernelRfl
set_option linter.all false
set_option maxRecDepth 100000
namespace Go.Proofs.YtgedjeljhicagaaGreat
open Go.Ev
def real : List (Option Nat) := [none, some 9, none, some 11, some 12, none, none, none, none, some 15, some 28, none, some 24, none, none, some 16, some 23, none, none, none, none, none, none, some 17, none, none, none, some 27, some 45, none, none, none, none, none, none, none, some 22, none, none, none, none, none, none, none, none, none, none, some 74, none, some 93, none, some 95, none, some 38, some 90, none, some 58, some 59, some 60, none, none, none, some 26, none, none, some 66, some 125, some 103, some 75, some 76, some 77, some 41, none, some 106, some 107, some 113, some 129, some 139, none, none, none, none, none, none, none, none, none, none, none, none, none, none, none, none, none, none, none, none, none, none, none, none, none, none, none, some 86, none, none, none, none, none, none, none, none, none, none, none, none, none, none, none, none, none, none, none, none, none, none, none, none, none, none, none, none, none, none, none, none, none, none, none, none, none, none, none, some 92, none, none, some 124, none, none, none, none, none, none, none, none, none, none, none, some 121, none, none, none, none, none, none, some 40, none, none, some 135, none, none, some 85, none, none, some 152, some 120, none, none, none, none, none, none, none, none, some 44, none, none, some 99, some 84, none, some 63, none, none, none, none, none, some 87, some 88, some 89, some 119, some 80, some 104, some 43, none, none, some 51, some 122, some 123, some 134, some 136, some 153, some 161, some 162, none, none, none, none, none, none, none, none, none, none, none, none, none, none, none, none, none, none, none, none, none, none, none, none, none, none, none, none, none, none, none, none, none, none, none, none, none, none, none, none, none, none, some 39, none, none, some 78, some 79, some 42, some 81, some 82, some 83, none, some 116, some 117, some 118, some 133, none, none, none, none, none, none, some 10, some 13, none, some 19, some 20, some 25, none, none, none, none, some 48, some 49, some 50, some 52, some 61, some 62, none, none, none, some 94, some 96, some 97, some 98, some 126, some 127, some 128, some 138, some 154, some 155, some 163, some 165, some 50, none, none, none, none, none, none, none, none, none, none, none, none, none, none, none, none, none, none, none, none, none, none, none, none, none, none, none, none, none, none, none, none, none, none, none, none, none, none, none, none, none, none, none, none, none, none, none, none, none, none, none, none, none, none, none, none, none, none, none, none, none, none, none, none, none, none, none, none, none, none, none, none, none, none, none, none, none, none, none, none, none, none, none, none, none, none, none, none, none, none, none, none, none, none, none, none, none, none, none, none, none, none, none, none, none, none, none, none, none, none, none, none, none, none, none, none, none, none, none, none, none, none, none, none, none, none, none, none, none, none, none, none, none, none, none, none, none, none, none, none, none, none, none, none, none, none, none, none, none, none, none, none, none, none, none, none, none, none, none, none, none, none, none, some 5, some 13, some 42]
def tab : List (Option Go.Ev.Fn) := [none, some K.gp, none, some K.ig, some K.cm, none, none, none, none, some K.aM, some K.cY, none, some K.fM, none, none, some K.dh, some K.cH, none, none, none, none, none, none, some K.iC, none, none, none, some K.df, some K.eC, none, none, none, none, none, none, none, some K.dF, none, none, none, none, none, none, none, none, none, none, some K.dW, none, some K.aD, none, some K.aV, none, some K.eo, some K.fN, none, some K.er, some K.fv, some K.fy, none, none, none, some K.cq, none, none, some K.eD, some K.bf, some K.bk, some K.dw, some K.aL, some K.cE, some K.cA, none, some K.cU, some K.fO, some K.aP, some K.bQ, some K.gq, none, none, none, none, none, none, none, none, none, none, none, none, none, none, none, none, none, none, none, none, none, none, none, none, none, none, none, some K.dy, none, none, none, none, none, none, none, none, none, none, none, none, none, none, none, none, none, none, none, none, none, none, none, none, none, none, none, none, none, none, none, none, none, none, none, none, none, none, none, some K.b8, none, none, some K.bJ, none, none, none, none, none, none, none, none, none, none, none, some K.bC, none, none, none, none, none, none, some K.dG, none, none, some K.dk, none, none, some K.gu, none, none, some K.cI, some K.eF, none, none, none, none, none, none, none, none, some K.c8, none, none, some K.eG, some K.dz, none, some K.eu, none, none, none, none, none, some K.cK, some K.bO, some K.dt, some K.cO, some K.aX, some K.bX, some K.aB, some K.bU, none, some K.dA, some K.cL, some K.bc, some K.bK, some K.ik, some K.im, some K.dM, some K.gv, none, none, none, none, none, none, none, none, none, none, none, none, none, none, none, none, none, none, none, none, none, none, none, none, none, none, none, none, none, none, none, none, none, none, none, none, none, none, none, none, none, none, some K.dm, none, none, some K.bE, some K.aT, some K.dO, some K.aU, some K.ak, some K.cP, none, some K.aF, some K.bW, some K.ay, some K.cmp_isNaN_int, none, none, none, none, none, none, some K.fC, some K.gL, none, some K.iW, some K.bD, some K.gM, none, none, none, none, some K.aN, some K.gw, some K.iG, some K.fD, some K.dn, some K.b9, none, none, none, some K.dB, some K.aI, some K.aJ, some K.a8, some K.bw, some K.aA, some K.av, some K.aQ, some K.az, some K.aG, some K.a7, some K.aK, some K.cr, none, none, none, none, none, none, none, none, none, none, none, none, none, none, none, none, none, none, none, none, none, none, none, none, none, none, none, none, none, none, none, none, none, none, none, none, none, none, none, none, none, none, none, none, none, none, none, none, none, none, none, none, none, none, none, none, none, none, none, none, none, none, none, none, none, none, none, none, none, none, none, none, none, none, none, none, none, none, none, none, none, none, none, none, none, none, none, none, none, none, none, none, none, none, none, none, none, none, none, none, none, none, none, none, none, none, none, none, none, none, none, none, none, none, none, none, none, none, none, none, none, none, none, none, none, none, none, none, none, none, none, none, none, none, none, none, none, none, none, none, none, none, none, none, none, none, none, none, none, none, none, none, none, none, none, none, none, none, none, none, none, none, none, some K.ck, some K.dg, some K.cN]
instance names : Names := { ρ := fun f => (real[f]?).join }
instance lib : Lib := ⟨fun f => (tab[f]?).join⟩
instance has1 : cu := ⟨rfl, rfl, rfl, rfl, rfl, rfl, rfl, rfl, rfl, rfl, rfl, rfl⟩
instance has2 : b0 := ⟨rfl, rfl, rfl, rfl, rfl, rfl, rfl, rfl, rfl, rfl, rfl, rfl, rfl, rfl, rfl, rfl, rfl, rfl, rfl, rfl, rfl⟩
instance has3 : gk := ⟨⟩
instance has4 : gl := ⟨rfl⟩
instance has5 : jz := ⟨rfl, rfl⟩
instance has6 : fG := ⟨rfl, rfl, rfl⟩
instance has7 : fH := ⟨rfl, rfl, rfl⟩
instance has8 : gX := ⟨rfl, rfl, rfl, rfl⟩
instance has9 : fT := ⟨rfl, rfl, rfl, rfl, rfl, rfl, rfl, rfl, rfl, rfl, rfl, rfl, rfl, rfl, rfl, rfl⟩
instance has10 : eV := ⟨⟩
instance has11 : dZ := ⟨rfl, rfl, rfl, rfl, rfl, rfl, rfl, rfl, rfl, rfl, rfl⟩
instance has12 : iJ := ⟨rfl, rfl, rfl, rfl, rfl⟩
instance has13 : eW := ⟨rfl, rfl, rfl, rfl, rfl, rfl, rfl, rfl, rfl, rfl, rfl, rfl, rfl, rfl, rfl, rfl, rfl, rfl, rfl⟩
instance has14 : pF := ⟨⟩
instance has15 : pG := ⟨⟩
instance has24 : wc := ⟨rfl, rfl, rfl⟩
theorem AQ : bA Tryz.prog Tryz.f9 K.gp = true := by kernel_rfl
theorem Cm : bA Tryz.prog Tryz.f11 K.ig = true := by kernel_rfl
theorem tX : bA Tryz.prog Tryz.f12 K.cm = true := by kernel_rfl
theorem tY : bA Tryz.prog Tryz.f15 K.aM = true := by kernel_rfl
theorem wM : bA Tryz.prog Tryz.f28 K.cY = true := by kernel_rfl
theorem Cn : bA Tryz.prog Tryz.f24 K.fM = true := by kernel_rfl
theorem wg : bA Tryz.prog Tryz.f16 K.dh = true := by kernel_rfl
theorem tZ : bA Tryz.prog Tryz.f23 K.cH = true := by kernel_rfl
theorem EZ : bA Tryz.prog Tryz.f17 K.iC = true := by kernel_rfl
theorem ua : bA Tryz.prog Tryz.f27 K.df = true := by kernel_rfl
theorem yU : bA Tryz.prog Tryz.f45 K.eC = true := by kernel_rfl
theorem yV : bA Tryz.prog Tryz.f22 K.dF = true := by kernel_rfl
theorem yW : bA Tryz.prog Tryz.f74 K.dW = true := by kernel_rfl
theorem kq : bA Tryz.prog Tryz.f93 K.aD = true := by kernel_rfl
theorem mz : bA Tryz.prog Tryz.f95 K.aV = true := by kernel_rfl
theorem uc : bA Tryz.prog Tryz.f38 K.eo = true := by kernel_rfl
theorem AR : bA Tryz.prog Tryz.f90 K.fN = true := by kernel_rfl
theorem wN : bA Tryz.prog Tryz.f58 K.er = true := by kernel_rfl
theorem yX : bA Tryz.prog Tryz.f59 K.fv = true := by kernel_rfl
theorem yY : bA Tryz.prog Tryz.f60 K.fy = true := by kernel_rfl
theorem ud : bA Tryz.prog Tryz.f26 K.cq = true := by kernel_rfl
theorem yZ : bA Tryz.prog Tryz.f66 K.eD = true := by kernel_rfl
theorem lu : bA Tryz.prog Tryz.f125 K.bf = true := by kernel_rfl
theorem ox : bA Tryz.prog Tryz.f103 K.bk = true := by kernel_rfl
theorem rP : bA Tryz.prog Tryz.f75 K.dw = true := by kernel_rfl
theorem gz : bA Tryz.prog Tryz.f76 K.aL = true := by kernel_rfl
theorem pI : bA Tryz.prog Tryz.f77 K.cE = true := by kernel_rfl
theorem E1 : bA Tryz.prog Tryz.f41 K.cA = true := by kernel_rfl
theorem y0 : bA Tryz.prog Tryz.f106 K.cU = true := by kernel_rfl
theorem AS : bA Tryz.prog Tryz.f107 K.fO = true := by kernel_rfl
theorem gU : bA Tryz.prog Tryz.f113 K.aP = true := by kernel_rfl
theorem wO : bA Tryz.prog Tryz.f129 K.bQ = true := by kernel_rfl
theorem AU : bA Tryz.prog Tryz.f139 K.gq = true := by kernel_rfl
theorem wP : bA Tryz.prog Tryz.f86 K.dy = true := by kernel_rfl
theorem sN : bA Tryz.prog Tryz.f92 K.b8 = true := by kernel_rfl
theorem qA : bA Tryz.prog Tryz.f124 K.bJ = true := by kernel_rfl
theorem n5 : bA Tryz.prog Tryz.f121 K.bC = true := by kernel_rfl
theorem AV : bA Tryz.prog Tryz.f40 K.dG = true := by kernel_rfl
theorem wq : bA Tryz.prog Tryz.f135 K.dk = true := by kernel_rfl
theorem AX : bA Tryz.prog Tryz.f85 K.gu = true := by kernel_rfl
theorem sO : bA Tryz.prog Tryz.f152 K.cI = true := by kernel_rfl
theorem y3 : bA Tryz.prog Tryz.f120 K.eF = true := by kernel_rfl
theorem wQ : bA Tryz.prog Tryz.f44 K.c8 = true := by kernel_rfl
theorem y4 : bA Tryz.prog Tryz.f99 K.eG = true := by kernel_rfl
theorem wR : bA Tryz.prog Tryz.f84 K.dz = true := by kernel_rfl
theorem AY : bA Tryz.prog Tryz.f63 K.eu = true := by kernel_rfl
theorem ue : bA Tryz.prog Tryz.f87 K.cK = true := by kernel_rfl
theorem uf : bA Tryz.prog Tryz.f88 K.bO = true := by kernel_rfl
theorem AZ : bA Tryz.prog Tryz.f89 K.dt = true := by kernel_rfl
theorem wu : bA Tryz.prog Tryz.f119 K.cO = true := by kernel_rfl
theorem oy : bA Tryz.prog Tryz.f80 K.aX = true := by kernel_rfl
theorem wS : bA Tryz.prog Tryz.f104 K.bX = true := by kernel_rfl
theorem oz : bA Tryz.prog Tryz.f43 K.aB = true := by kernel_rfl
theorem wT : bA Tryz.prog Tryz.f51 K.dA = true := by kernel_rfl
theorem sP : bA Tryz.prog Tryz.f122 K.cL = true := by kernel_rfl
theorem rQ : bA Tryz.prog Tryz.f123 K.bc = true := by kernel_rfl
theorem sQ : bA Tryz.prog Tryz.f134 K.bK = true := by kernel_rfl
theorem Co : bA Tryz.prog Tryz.f136 K.ik = true := by kernel_rfl
theorem Cp : bA Tryz.prog Tryz.f153 K.im = true := by kernel_rfl
theorem Cq : bA Tryz.prog Tryz.f161 K.dM = true := by kernel_rfl
theorem A0 : bA Tryz.prog Tryz.f162 K.gv = true := by kernel_rfl
theorem y5 : bA Tryz.prog Tryz.f39 K.dm = true := by kernel_rfl
theorem qB : bA Tryz.prog Tryz.f78 K.bE = true := by kernel_rfl
theorem n9 : bA Tryz.prog Tryz.f79 K.aT = true := by kernel_rfl
theorem wU : bA Tryz.prog Tryz.f42 K.dO = true := by kernel_rfl
theorem mW : bA Tryz.prog Tryz.f81 K.aU = true := by kernel_rfl
theorem ei : bA Tryz.prog Tryz.f82 K.ak = true := by kernel_rfl
theorem wy : bA Tryz.prog Tryz.f83 K.cP = true := by kernel_rfl
theorem mA : bA Tryz.prog Tryz.f116 K.aF = true := by kernel_rfl
theorem sR : bA Tryz.prog Tryz.f117 K.bW = true := by kernel_rfl
theorem eM : bA Tryz.prog Tryz.f118 K.ay = true := by kernel_rfl
theorem wA : bA Tryz.prog Tryz.f133 K.cmp_isNaN_int = true := by kernel_rfl
theorem y6 : bA Tryz.prog Tryz.f10 K.fC = true := by kernel_rfl
theorem y7 : bA Tryz.prog Tryz.f13 K.gL = true := by kernel_rfl
theorem A1 : bA Tryz.prog Tryz.f19 K.iW = true := by kernel_rfl
theorem ug : bA Tryz.prog Tryz.f20 K.bD = true := by kernel_rfl
theorem Cr : bA Tryz.prog Tryz.f25 K.gM = true := by kernel_rfl
theorem i6 : bA Tryz.prog Tryz.f48 K.aN = true := by kernel_rfl
theorem A2 : bA Tryz.prog Tryz.f49 K.gw = true := by kernel_rfl
theorem y8 : bA Tryz.prog Tryz.f50 K.iG = true := by kernel_rfl
theorem y9 : bA Tryz.prog Tryz.f52 K.fD = true := by kernel_rfl
theorem za : bA Tryz.prog Tryz.f61 K.dn = true := by kernel_rfl
theorem zb : bA Tryz.prog Tryz.f62 K.b9 = true := by kernel_rfl
theorem wV : bA Tryz.prog Tryz.f94 K.dB = true := by kernel_rfl
theorem iQ : bA Tryz.prog Tryz.f96 K.aI = true := by kernel_rfl
theorem iR : bA Tryz.prog Tryz.f97 K.aJ = true := by kernel_rfl
theorem wB : bA Tryz.prog Tryz.f98 K.a8 = true := by kernel_rfl
theorem lA : bA Tryz.prog Tryz.f126 K.bw = true := by kernel_rfl
theorem ga : bA Tryz.prog Tryz.f127 K.aA = true := by kernel_rfl
theorem hX : bA Tryz.prog Tryz.f128 K.av = true := by kernel_rfl
theorem jA : bA Tryz.prog Tryz.f138 K.aQ = true := by kernel_rfl
theorem gP : bA Tryz.prog Tryz.f154 K.az = true := by kernel_rfl
theorem i7 : bA Tryz.prog Tryz.f155 K.aG = true := by kernel_rfl
theorem jB : bA Tryz.prog Tryz.f163 K.a7 = true := by kernel_rfl
theorem iS : bA Tryz.prog Tryz.f165 K.aK = true := by kernel_rfl
theorem uh : bA Tryz.prog Tryz.f50 K.cr = true := by kernel_rfl
theorem sT : bA Tryz.prog Tryz.f5 K.ck = true := by kernel_rfl
theorem ui : bA Tryz.prog Tryz.f13 K.dg = true := by kernel_rfl
theorem sU : bA Tryz.prog Tryz.f42 K.cN = true := by kernel_rfl
theorem WO : Bx Tryz.prog real tab :=
 ⟨trivial, ⟨⟨by kernel_rfl, ax Tryz.func9 AQ⟩, ⟨trivial, ⟨⟨by kernel_rfl, ax Tryz.func11 Cm⟩, ⟨⟨by kernel_rfl, ax Tryz.func12 tX⟩, ⟨trivial, ⟨trivial, ⟨trivial, ⟨trivial, ⟨⟨by kernel_rfl, ax Tryz.func15 tY⟩, ⟨⟨by kernel_rfl, ax Tryz.func28 wM⟩, ⟨trivial, ⟨⟨by kernel_rfl, ax Tryz.func24 Cn⟩, ⟨trivial, ⟨trivial, ⟨⟨by kernel_rfl, ax Tryz.func16 wg⟩, ⟨⟨by kernel_rfl, ax Tryz.func23 tZ⟩, ⟨trivial, ⟨trivial, ⟨trivial, ⟨trivial, ⟨trivial, ⟨trivial, ⟨⟨by kernel_rfl, ax Tryz.func17 EZ⟩, ⟨trivial, ⟨trivial, ⟨trivial, ⟨⟨by kernel_rfl, ax Tryz.func27 ua⟩, ⟨⟨by kernel_rfl, ax Tryz.func45 yU⟩, ⟨trivial, ⟨trivial, ⟨trivial, ⟨trivial, ⟨trivial, ⟨trivial, ⟨trivial, ⟨⟨by kernel_rfl, ax Tryz.func22 yV⟩, ⟨trivial, ⟨trivial, ⟨trivial, ⟨trivial, ⟨trivial, ⟨trivial, ⟨trivial, ⟨trivial, ⟨trivial, ⟨trivial, ⟨⟨by kernel_rfl, ax Tryz.func74 yW⟩, ⟨trivial, ⟨⟨by kernel_rfl, ax Tryz.func93 kq⟩, ⟨trivial, ⟨⟨by kernel_rfl, ax Tryz.func95 mz⟩, ⟨trivial, ⟨⟨by kernel_rfl, ax Tryz.func38 uc⟩, ⟨⟨by kernel_rfl, ax Tryz.func90 AR⟩, ⟨trivial, ⟨⟨by kernel_rfl, ax Tryz.func58 wN⟩, ⟨⟨by kernel_rfl, ax Tryz.func59 yX⟩, ⟨⟨by kernel_rfl, ax Tryz.func60 yY⟩, ⟨trivial, ⟨trivial, ⟨trivial, ⟨⟨by kernel_rfl, ax Tryz.func26 ud⟩, ⟨trivial, ⟨trivial, ⟨⟨by kernel_rfl, ax Tryz.func66 yZ⟩, ⟨⟨by kernel_rfl, ax Tryz.func125 lu⟩, ⟨⟨by kernel_rfl, ax Tryz.func103 ox⟩, ⟨⟨by kernel_rfl, ax Tryz.func75 rP⟩, ⟨⟨by kernel_rfl, ax Tryz.func76 gz⟩, ⟨⟨by kernel_rfl, ax Tryz.func77 pI⟩, ⟨⟨by kernel_rfl, ax Tryz.func41 E1⟩, ⟨trivial, ⟨⟨by kernel_rfl, ax Tryz.func106 y0⟩, ⟨⟨by kernel_rfl, ax Tryz.func107 AS⟩, ⟨⟨by kernel_rfl, ax Tryz.func113 gU⟩, ⟨⟨by kernel_rfl, ax Tryz.func129 wO⟩, ⟨⟨by kernel_rfl, ax Tryz.func139 AU⟩, ⟨trivial, ⟨trivial, ⟨trivial, ⟨trivial, ⟨trivial, ⟨trivial, ⟨trivial, ⟨trivial, ⟨trivial, ⟨trivial, ⟨trivial, ⟨trivial, ⟨trivial, ⟨trivial, ⟨trivial, ⟨trivial, ⟨trivial, ⟨trivial, ⟨trivial, ⟨trivial, ⟨trivial, ⟨trivial, ⟨trivial, ⟨trivial, ⟨trivial, ⟨trivial, ⟨trivial, ⟨⟨by kernel_rfl, ax Tryz.func86 wP⟩, ⟨trivial, ⟨trivial, ⟨trivial, ⟨trivial, ⟨trivial, ⟨trivial, ⟨trivial, ⟨trivial, ⟨trivial, ⟨trivial, ⟨trivial, ⟨trivial, ⟨trivial, ⟨trivial, ⟨trivial, ⟨trivial, ⟨trivial, ⟨trivial, ⟨trivial, ⟨trivial, ⟨trivial, ⟨trivial, ⟨trivial, ⟨trivial, ⟨trivial, ⟨trivial, ⟨trivial, ⟨trivial, ⟨trivial, ⟨trivial, ⟨trivial, ⟨trivial, ⟨trivial, ⟨trivial, ⟨trivial, ⟨trivial, ⟨trivial, ⟨trivial, ⟨trivial, ⟨⟨by kernel_rfl, ax Tryz.func92 sN⟩, ⟨trivial, ⟨trivial, ⟨⟨by kernel_rfl, ax Tryz.func124 qA⟩, ⟨trivial, ⟨trivial, ⟨trivial, ⟨trivial, ⟨trivial, ⟨trivial, ⟨trivial, ⟨trivial, ⟨trivial, ⟨trivial, ⟨trivial, ⟨⟨by kernel_rfl, ax Tryz.func121 n5⟩, ⟨trivial, ⟨trivial, ⟨trivial, ⟨trivial, ⟨trivial, ⟨trivial, ⟨⟨by kernel_rfl, ax Tryz.func40 AV⟩, ⟨trivial, ⟨trivial, ⟨⟨by kernel_rfl, ax Tryz.func135 wq⟩, ⟨trivial, ⟨trivial, ⟨⟨by kernel_rfl, ax Tryz.func85 AX⟩, ⟨trivial, ⟨trivial, ⟨⟨by kernel_rfl, ax Tryz.func152 sO⟩, ⟨⟨by kernel_rfl, ax Tryz.func120 y3⟩, ⟨trivial, ⟨trivial, ⟨trivial, ⟨trivial, ⟨trivial, ⟨trivial, ⟨trivial, ⟨trivial, ⟨⟨by kernel_rfl, ax Tryz.func44 wQ⟩, ⟨trivial, ⟨trivial, ⟨⟨by kernel_rfl, ax Tryz.func99 y4⟩, ⟨⟨by kernel_rfl, ax Tryz.func84 wR⟩, ⟨trivial, ⟨⟨by kernel_rfl, ax Tryz.func63 AY⟩, ⟨trivial, ⟨trivial, ⟨trivial, ⟨trivial, ⟨trivial, ⟨⟨by kernel_rfl, ax Tryz.func87 ue⟩, ⟨⟨by kernel_rfl, ax Tryz.func88 uf⟩, ⟨⟨by kernel_rfl, ax Tryz.func89 AZ⟩, ⟨⟨by kernel_rfl, ax Tryz.func119 wu⟩, ⟨⟨by kernel_rfl, ax Tryz.func80 oy⟩, ⟨⟨by kernel_rfl, ax Tryz.func104 wS⟩, ⟨⟨by kernel_rfl, ax Tryz.func43 oz⟩, ⟨trivial, ⟨trivial, ⟨⟨by kernel_rfl, ax Tryz.func51 wT⟩, ⟨⟨by kernel_rfl, ax Tryz.func122 sP⟩, ⟨⟨by kernel_rfl, ax Tryz.func123 rQ⟩, ⟨⟨by kernel_rfl, ax Tryz.func134 sQ⟩, ⟨⟨by kernel_rfl, ax Tryz.func136 Co⟩, ⟨⟨by kernel_rfl, ax Tryz.func153 Cp⟩, ⟨⟨by kernel_rfl, ax Tryz.func161 Cq⟩, ⟨⟨by kernel_rfl, ax Tryz.func162 A0⟩, ⟨trivial, ⟨trivial, ⟨trivial, ⟨trivial, ⟨trivial, ⟨trivial, ⟨trivial, ⟨trivial, ⟨trivial, ⟨trivial, ⟨trivial, ⟨trivial, ⟨trivial, ⟨trivial, ⟨trivial, ⟨trivial, ⟨trivial, ⟨trivial, ⟨trivial, ⟨trivial, ⟨trivial, ⟨trivial, ⟨trivial, ⟨trivial, ⟨trivial, ⟨trivial, ⟨trivial, ⟨trivial, ⟨trivial, ⟨trivial, ⟨trivial, ⟨trivial, ⟨trivial, ⟨trivial, ⟨trivial, ⟨trivial, ⟨trivial, ⟨trivial, ⟨trivial, ⟨trivial, ⟨trivial, ⟨trivial, ⟨⟨by kernel_rfl, ax Tryz.func39 y5⟩, ⟨trivial, ⟨trivial, ⟨⟨by kernel_rfl, ax Tryz.func78 qB⟩, ⟨⟨by kernel_rfl, ax Tryz.func79 n9⟩, ⟨⟨by kernel_rfl, ax Tryz.func42 wU⟩, ⟨⟨by kernel_rfl, ax Tryz.func81 mW⟩, ⟨⟨by kernel_rfl, ax Tryz.func82 ei⟩, ⟨⟨by kernel_rfl, ax Tryz.func83 wy⟩, ⟨trivial, ⟨⟨by kernel_rfl, ax Tryz.func116 mA⟩, ⟨⟨by kernel_rfl, ax Tryz.func117 sR⟩, ⟨⟨by kernel_rfl, ax Tryz.func118 eM⟩, ⟨⟨by kernel_rfl, ax Tryz.func133 wA⟩, ⟨trivial, ⟨trivial, ⟨trivial, ⟨trivial, ⟨trivial, ⟨trivial, ⟨⟨by kernel_rfl, ax Tryz.func10 y6⟩, ⟨⟨by kernel_rfl, ax Tryz.func13 y7⟩, ⟨trivial, ⟨⟨by kernel_rfl, ax Tryz.func19 A1⟩, ⟨⟨by kernel_rfl, ax Tryz.func20 ug⟩, ⟨⟨by kernel_rfl, ax Tryz.func25 Cr⟩, ⟨trivial, ⟨trivial, ⟨trivial, ⟨trivial, ⟨⟨by kernel_rfl, ax Tryz.func48 i6⟩, ⟨⟨by kernel_rfl, ax Tryz.func49 A2⟩, ⟨⟨by kernel_rfl, ax Tryz.func50 y8⟩, ⟨⟨by kernel_rfl, ax Tryz.func52 y9⟩, ⟨⟨by kernel_rfl, ax Tryz.func61 za⟩, ⟨⟨by kernel_rfl, ax Tryz.func62 zb⟩, ⟨trivial, ⟨trivial, ⟨trivial, ⟨⟨by kernel_rfl, ax Tryz.func94 wV⟩, ⟨⟨by kernel_rfl, ax Tryz.func96 iQ⟩, ⟨⟨by kernel_rfl, ax Tryz.func97 iR⟩, ⟨⟨by kernel_rfl, ax Tryz.func98 wB⟩, ⟨⟨by kernel_rfl, ax Tryz.func126 lA⟩, ⟨⟨by kernel_rfl, ax Tryz.func127 ga⟩, ⟨⟨by kernel_rfl, ax Tryz.func128 hX⟩, ⟨⟨by kernel_rfl, ax Tryz.func138 jA⟩, ⟨⟨by kernel_rfl, ax Tryz.func154 gP⟩, ⟨⟨by kernel_rfl, ax Tryz.func155 i7⟩, ⟨⟨by kernel_rfl, ax Tryz.func163 jB⟩, ⟨⟨by kernel_rfl, ax Tryz.func165 iS⟩, ⟨⟨by kernel_rfl, ax Tryz.func50 uh⟩, ⟨trivial, ⟨trivial, ⟨trivial, ⟨trivial, ⟨trivial, ⟨trivial, ⟨trivial, ⟨trivial, ⟨trivial, ⟨trivial, ⟨trivial, ⟨trivial, ⟨trivial, ⟨trivial, ⟨trivial, ⟨trivial, ⟨trivial, ⟨trivial, ⟨trivial, ⟨trivial, ⟨trivial, ⟨trivial, ⟨trivial, ⟨trivial, ⟨trivial, ⟨trivial, ⟨trivial, ⟨trivial, ⟨trivial, ⟨trivial, ⟨trivial, ⟨trivial, ⟨trivial, ⟨trivial, ⟨trivial, ⟨trivial, ⟨trivial, ⟨trivial, ⟨trivial, ⟨trivial, ⟨trivial, ⟨trivial, ⟨trivial, ⟨trivial, ⟨trivial, ⟨trivial, ⟨trivial, ⟨trivial, ⟨trivial, ⟨trivial, ⟨trivial, ⟨trivial, ⟨trivial, ⟨trivial, ⟨trivial, ⟨trivial, ⟨trivial, ⟨trivial, ⟨trivial, ⟨trivial, ⟨trivial, ⟨trivial, ⟨trivial, ⟨trivial, ⟨trivial, ⟨trivial, ⟨trivial, ⟨trivial, ⟨trivial, ⟨trivial, ⟨trivial, ⟨trivial, ⟨trivial, ⟨trivial, ⟨trivial, ⟨trivial, ⟨trivial, ⟨trivial, ⟨trivial, ⟨trivial, ⟨trivial, ⟨trivial, ⟨trivial, ⟨trivial, ⟨trivial, ⟨trivial, ⟨trivial, ⟨trivial, ⟨trivial, ⟨trivial, ⟨trivial, ⟨trivial, ⟨trivial, ⟨trivial, ⟨trivial, ⟨trivial, ⟨trivial, ⟨trivial, ⟨trivial, ⟨trivial, ⟨trivial, ⟨trivial, ⟨trivial, ⟨trivial, ⟨trivial, ⟨trivial, ⟨trivial, ⟨trivial, ⟨trivial, ⟨trivial, ⟨trivial, ⟨trivial, ⟨trivial, ⟨trivial, ⟨trivial, ⟨trivial, ⟨trivial, ⟨trivial, ⟨trivial, ⟨trivial, ⟨trivial, ⟨trivial, ⟨trivial, ⟨trivial, ⟨trivial, ⟨trivial, ⟨trivial, ⟨trivial, ⟨trivial, ⟨trivial, ⟨trivial, ⟨trivial, ⟨trivial, ⟨trivial, ⟨trivial, ⟨trivial, ⟨trivial, ⟨trivial, ⟨trivial, ⟨trivial, ⟨trivial, ⟨trivial, ⟨trivial, ⟨trivial, ⟨trivial, ⟨trivial, ⟨trivial, ⟨trivial, ⟨trivial, ⟨trivial, ⟨trivial, ⟨trivial, ⟨trivial, ⟨trivial, ⟨trivial, ⟨trivial, ⟨trivial, ⟨trivial, ⟨trivial, ⟨trivial, ⟨trivial, ⟨trivial, ⟨trivial, ⟨⟨by kernel_rfl, ax Tryz.func5 sT⟩, ⟨⟨by kernel_rfl, ax Tryz.func13 ui⟩, ⟨⟨by kernel_rfl, ax Tryz.func42 sU⟩, trivial⟩⟩⟩⟩⟩⟩⟩⟩⟩⟩⟩⟩⟩⟩⟩⟩⟩⟩⟩⟩⟩⟩⟩⟩⟩⟩⟩⟩⟩⟩⟩⟩⟩⟩⟩⟩⟩⟩⟩⟩⟩⟩⟩⟩⟩⟩⟩⟩⟩⟩⟩⟩⟩⟩⟩⟩⟩⟩⟩⟩⟩⟩⟩⟩⟩⟩⟩⟩⟩⟩⟩⟩⟩⟩⟩⟩⟩⟩⟩⟩⟩⟩⟩⟩⟩⟩⟩⟩⟩⟩⟩⟩⟩⟩⟩⟩⟩⟩⟩⟩⟩⟩⟩⟩⟩⟩⟩⟩⟩⟩⟩⟩⟩⟩⟩⟩⟩⟩⟩⟩⟩⟩⟩⟩⟩⟩⟩⟩⟩⟩⟩⟩⟩⟩⟩⟩⟩⟩⟩⟩⟩⟩⟩⟩⟩⟩⟩⟩⟩⟩⟩⟩⟩⟩⟩⟩⟩⟩⟩⟩⟩⟩⟩⟩⟩⟩⟩⟩⟩⟩⟩⟩⟩⟩⟩⟩⟩⟩⟩⟩⟩⟩⟩⟩⟩⟩⟩⟩⟩⟩⟩⟩⟩⟩⟩⟩⟩⟩⟩⟩⟩⟩⟩⟩⟩⟩⟩⟩⟩⟩⟩⟩⟩⟩⟩⟩⟩⟩⟩⟩⟩⟩⟩⟩⟩⟩⟩⟩⟩⟩⟩⟩⟩⟩⟩⟩⟩⟩⟩⟩⟩⟩⟩⟩⟩⟩⟩⟩⟩⟩⟩⟩⟩⟩⟩⟩⟩⟩⟩⟩⟩⟩⟩⟩⟩⟩⟩⟩⟩⟩⟩⟩⟩⟩⟩⟩⟩⟩⟩⟩⟩⟩⟩⟩⟩⟩⟩⟩⟩⟩⟩⟩⟩⟩⟩⟩⟩⟩⟩⟩⟩⟩⟩⟩⟩⟩⟩⟩⟩⟩⟩⟩⟩⟩⟩⟩⟩⟩⟩⟩⟩⟩⟩⟩⟩⟩⟩⟩⟩⟩⟩⟩⟩⟩⟩⟩⟩⟩⟩⟩⟩⟩⟩⟩⟩⟩⟩⟩⟩⟩⟩⟩⟩⟩⟩⟩⟩⟩⟩⟩⟩⟩⟩⟩⟩⟩⟩⟩⟩⟩⟩⟩⟩⟩⟩⟩⟩⟩⟩⟩⟩⟩⟩⟩⟩⟩⟩⟩⟩⟩⟩⟩⟩⟩⟩⟩⟩⟩⟩⟩⟩⟩⟩⟩⟩⟩⟩⟩⟩⟩⟩⟩⟩⟩⟩⟩⟩⟩⟩⟩⟩⟩⟩⟩⟩⟩⟩⟩⟩⟩⟩⟩⟩⟩⟩⟩⟩⟩⟩⟩⟩⟩⟩⟩⟩⟩⟩⟩⟩⟩⟩⟩⟩⟩⟩⟩⟩⟩⟩⟩⟩⟩⟩⟩⟩⟩⟩⟩⟩⟩⟩⟩⟩⟩⟩
theorem WQ : ∀ f j, Names.ρ f = some j → Names.it f = true → x8 Tryz.prog j := fun f j hj h => Bool.noConfusion (show false = true from h)
def Qy : List (Nat × List Nat) := [(260, [2, N.aF]), (300, [3, N.av])]
def A3 : Go.Shelf.Ren := ⟨fun | 189 => 115 | 125 => 132 | 257 => 131 | 128 => 149 | 129 => 150 | 294 => 140 | 295 => 141 | 296 => 142 | 297 => 143 | 298 => 144 | 299 => 145 | 216 => 146 | 300 => 147 | 301 => 148 | 328 => 156 | 329 => 157 | 330 => 158 | 331 => 159 | 332 => 160 | 215 => 133 | 343 => 164 | n => n, fun | 28 => 22 | 3 => 3 | 46 => 141 | 0 => 0 | 51 => 158 | 53 => 160 | 4 => 4 | 183 => 151 | 182 => 150 | 131 => 155 | 5 => 5 | 9 => 9 | 218 => 167 | 222 => 171 | 228 => 177 | 229 => 147 | n => n, fun | n => n⟩
theorem KO : Go.Proofs.Lays.n189 Tryz.prog A3 := {
 mixed := by kernel_rfl,
 f125 := Tryz.func132.trans (congrArg some (by kernel_rfl)),
 f128 := Tryz.func149.trans (congrArg some (by kernel_rfl)),
 f129 := Tryz.func150.trans (congrArg some (by kernel_rfl)),
 f189 := Tryz.func115.trans (congrArg some (by kernel_rfl)),
 f215 := Tryz.func133.trans (congrArg some (by kernel_rfl)),
 f216 := Tryz.func146.trans (congrArg some (by kernel_rfl)),
 f257 := Tryz.func131.trans (congrArg some (by kernel_rfl)),
 f294 := Tryz.func140.trans (congrArg some (by kernel_rfl)),
 f295 := Tryz.func141.trans (congrArg some (by kernel_rfl)),
 f296 := Tryz.func142.trans (congrArg some (by kernel_rfl)),
 f297 := Tryz.func143.trans (congrArg some (by kernel_rfl)),
 f298 := Tryz.func144.trans (congrArg some (by kernel_rfl)),
 f299 := Tryz.func145.trans (congrArg some (by kernel_rfl)),
 f300 := Tryz.func147.trans (congrArg some (by kernel_rfl)),
 f301 := Tryz.func148.trans (congrArg some (by kernel_rfl)),
 f328 := Tryz.func156.trans (congrArg some (by kernel_rfl)),
 f329 := Tryz.func157.trans (congrArg some (by kernel_rfl)),
 f330 := Tryz.func158.trans (congrArg some (by kernel_rfl)),
 f331 := Tryz.func159.trans (congrArg some (by kernel_rfl)),
 f332 := Tryz.func160.trans (congrArg some (by kernel_rfl)),
 f343 := Tryz.func164.trans (congrArg some (by kernel_rfl)),
 t0 := Tryz.underlying0,
 a0 := Tryz.isAgg0,
 z0 := Tryz.sizeOf0,
 v0 := Tryz.zeroValue0,
 t3 := Tryz.underlying3,
 a3 := Tryz.isAgg3,
 z3 := Tryz.sizeOf3,
 v3 := Tryz.zeroValue3,
 t4 := Tryz.underlying4,
 a4 := Tryz.isAgg4,
 z4 := Tryz.sizeOf4,
 v4 := Tryz.zeroValue4,
 t5 := Tryz.underlying5,
 a5 := Tryz.isAgg5,
 z5 := Tryz.sizeOf5,
 v5 := Tryz.zeroValue5,
 t9 := Tryz.underlying9,
 a9 := Tryz.isAgg9,
 z9 := Tryz.sizeOf9,
 v9 := Tryz.zeroValue9,
 t28 := Tryz.underlying22,
 a28 := Tryz.isAgg22,
 z28 := Tryz.sizeOf22,
 v28 := Tryz.zeroValue22,
 t46 := Tryz.underlying141,
 a46 := Tryz.isAgg141,
 z46 := Tryz.sizeOf141,
 v46 := Tryz.zeroValue141,
 t51 := Tryz.underlying158,
 a51 := Tryz.isAgg158,
 z51 := Tryz.sizeOf158,
 v51 := Tryz.zeroValue158,
 t53 := Tryz.underlying160,
 a53 := Tryz.isAgg160,
 z53 := Tryz.sizeOf160,
 v53 := Tryz.zeroValue160,
 t131 := Tryz.underlying155,
 a131 := Tryz.isAgg155,
 z131 := Tryz.sizeOf155,
 v131 := Tryz.zeroValue155,
 t182 := Tryz.underlying150,
 a182 := Tryz.isAgg150,
 z182 := Tryz.sizeOf150,
 v182 := Tryz.zeroValue150,
 t183 := Tryz.underlying151,
 a183 := Tryz.isAgg151,
 z183 := Tryz.sizeOf151,
 v183 := Tryz.zeroValue151,
 t218 := Tryz.underlying167,
 a218 := Tryz.isAgg167,
 z218 := Tryz.sizeOf167,
 v218 := Tryz.zeroValue167,
 t222 := Tryz.underlying171,
 a222 := Tryz.isAgg171,
 z222 := Tryz.sizeOf171,
 v222 := Tryz.zeroValue171,
 t228 := Tryz.underlying177,
 a228 := Tryz.isAgg177,
 z228 := Tryz.sizeOf177,
 v228 := Tryz.zeroValue177,
 t229 := Tryz.underlying147,
 a229 := Tryz.isAgg147,
 z229 := Tryz.sizeOf147,
 v229 := Tryz.zeroValue147 }
def wW : Go.Shelf.Ren := ⟨fun | 6 => 78 | 8 => 114 | 9 => 115 | 11 => 130 | 13 => 132 | 12 => 131 | 23 => 149 | 24 => 150 | 14 => 140 | 15 => 141 | 16 => 142 | 17 => 143 | 18 => 144 | 19 => 145 | 20 => 146 | 21 => 147 | 22 => 148 | 25 => 156 | 26 => 157 | 27 => 158 | 28 => 159 | 29 => 160 | 30 => 133 | 31 => 164 | n => n, fun | 26 => 3 | 28 => 104 | 24 => 22 | 0 => 0 | 3 => 3 | 37 => 141 | 48 => 158 | 50 => 160 | 4 => 4 | 40 => 151 | 39 => 150 | 45 => 155 | 5 => 5 | 9 => 9 | 51 => 167 | 55 => 171 | 57 => 177 | 58 => 147 | 33 => 40 | n => n, fun | n => n⟩
theorem E2 : Go.Proofs.SlLaysZI.n6 Tryz.prog wW := {
 f6 := ⟨"slices.Sorted[int]", by kernel_rfl, Tryz.func78.trans (congrArg some (by kernel_rfl))⟩,
 f8 := ⟨"slices.Collect[int]", by kernel_rfl, Tryz.func114.trans (congrArg some (by kernel_rfl))⟩,
 f11 := ⟨"slices.AppendSeq[[]int,int]", by kernel_rfl, Tryz.func130.trans (congrArg some (by kernel_rfl))⟩,
 mixed := by kernel_rfl,
 t0 := Tryz.underlying0,
 a0 := Tryz.isAgg0,
 z0 := Tryz.sizeOf0,
 v0 := Tryz.zeroValue0,
 t24 := Tryz.underlying22,
 a24 := Tryz.isAgg22,
 z24 := Tryz.sizeOf22,
 v24 := Tryz.zeroValue22,
 t26 := Tryz.underlying3,
 a26 := Tryz.isAgg3,
 z26 := Tryz.sizeOf3,
 v26 := Tryz.zeroValue3,
 t28 := Tryz.underlying104,
 a28 := Tryz.isAgg104,
 z28 := Tryz.sizeOf104,
 v28 := Tryz.zeroValue104,
 i26 := by kernel_rfl }
section
open Go.RowKit Go.Shelf Go.Maps Go.Sort Go.Proofs
/- the iterator of slices.Values at this program -/
set_option maxRecDepth 100000 in
set_option maxHeartbeats 2000000 in
theorem ab2 (n l Bs : Nat) (hn : 1 ≤ n) (W0 : World) (b off len cap : Nat) (zs : List Int) (hlen : zs.length = len) (hreach : len * 8 ≤ 140737488351232) (hb : b < W0.heap.size) (J : List Int → World → Prop)
 (hJ : ∀ s W1, J s W1 → Below W0.heap.size W0 W1)
 (hY : ∀ pre x W1, J pre W1 → pre.length < zs.length → YieldAt Fence.wide (n - 1) Tryz.prog l #[encZ x] W1 fun e W' => e = .returned (.bool true) ∧ J (pre ++ [x]) W' ∧ KeepsWalks W1 W')
 (W : World) (hBs : W.cell? ⟨Bs, 0, none⟩ = some (.slice (some ⟨b, off, none⟩) len cap)) (hc : ∀ j, j < len → W0.cell? ⟨b, off + j, none⟩ = some (.int .i64 (zs[j]?.getD 0))) (h0 : J [] W) :
 CallsIn Fence.wide n Tryz.prog 116 #[.func (.yield l) #[] #[], .pointer (some ⟨Bs, 0, none⟩)] W fun e W' => (∃ v, e = .returned v) ∧ J zs W' := by
 have step : ∀ k, k < zs.length → zs.take k ++ [zs[k]?.getD 0] = zs.take (k + 1) := fun k hk => by
  rw [List.take_succ_eq_append_getElem hk]; simp [hk]
 refine callsIn_of_wp Tryz.func116 rfl trivial ?_ rfl
 simp only [Tryz.ntmps116, List.size_toArray, List.length_cons, List.length_nil, Nat.reduceAdd, Nat.reduceSub, Array.replicate_succ, Array.replicate_zero, List.push_toArray, List.append_toArray, List.nil_append, List.cons_append]
 gi_wp2
 gi_loopw [7] (fun i wr => ∃ k : Nat, k ≤ len ∧ i = .int .i64 k ∧ J (zs.take k) wr)
  (fun i _ => len - (intOf i).toNat)
 case atStart => exact ⟨0, Nat.zero_le _, rfl, h0⟩
 case round =>
  obtain ⟨k, hk, rfl, hJs⟩ := hrel
  by_cases hlt : k < len
  · have hcx : wr.cell? ⟨b, off + k, none⟩ = some (.int .i64 (zs[k]?.getD 0)) := ((hJ _ _ hJs).cell (p := ⟨b, off + k, none⟩) hb).trans (hc k hlt)
    have st := step k (by omega)
    generalize zs[k]?.getD 0 = x at hcx st
    obtain ⟨fn, tmps, assign, body, hy, hR⟩ := hY _ x wr hJs (by rw [List.length_take]; omega)
    clear step
    gi_wp2
    refine hR.mono ?_
    rintro e W3 ⟨rfl, hJ3, -⟩
    gi_wp2
    go_roundw
    case rel => exact ⟨k + 1, by omega, by simp, by rw [← st]; exact hJ3⟩
    case measure => simp [intOf]; omega
  · obtain rfl : k = len := by omega
    gi_wp2
    go_end0
    exact ⟨⟨_, rfl⟩, by rw [← hlen, List.take_length] at hJs; exact hJs⟩
set_option maxRecDepth 100000 in
set_option maxHeartbeats 1000000 in
theorem ab3 (n l Bs : Nat) (p : Option Addr) (cap : Nat) (J : List Int → World → Prop) (W : World) (hBs : W.cell? ⟨Bs, 0, none⟩ = some (.slice p 0 cap)) (h0 : J [] W) :
 CallsIn Fence.wide n Tryz.prog 116 #[.func (.yield l) #[] #[], .pointer (some ⟨Bs, 0, none⟩)] W fun e W' => (∃ v, e = .returned v) ∧ J [] W' := by
 refine callsIn_of_wp Tryz.func116 rfl trivial ?_ rfl
 simp only [Tryz.ntmps116, List.size_toArray, List.length_cons, List.length_nil, Nat.reduceAdd, Nat.reduceSub, Array.replicate_succ, Array.replicate_zero, List.push_toArray, List.append_toArray, List.nil_append, List.cons_append]
 gi_wp2
 gi_loopw [7] (fun i wr => i = .int .i64 0 ∧ J [] wr) (fun _ _ => 0)
 case atStart => exact ⟨rfl, h0⟩
 case round =>
  obtain ⟨rfl, hJs⟩ := hrel
  gi_wp2
  go_end0
  exact ⟨⟨_, rfl⟩, hJs⟩
theorem Qz : Mt Tryz.prog 116 := by
 intro n Bs sv zs w hn hreach hBs hcell hI l J W hW hJ hY h0
 have hc' := (hW.cell (p := ⟨Bs, 0, none⟩) hBs).trans hcell
 rcases hI with ⟨p, cap, rfl, rfl⟩ | ⟨b, off, cap, rfl, hb, hcs⟩
 · exact ab3 n l Bs p cap J W hc' h0
 · exact ab2 n l Bs hn w b off zs.length cap zs rfl hreach hb J hJ hY W hc' hcs h0
end
theorem KP : ∀ j, Names.ρ 260 = some j → qY Tryz.prog j [2, N.aF] := fun j hj => by
 have e : (Names.ρ 260 : Option Nat) = some 78 := by kernel_rfl
 rw [e] at hj; cases hj; exact Ci E2 KO (by kernel_rfl) (Go.Proofs.enters_of Tryz.func115 (by kernel_rfl) rfl) (by kernel_rfl) (Go.Proofs.enters_of Tryz.func116 (by kernel_rfl) rfl) Qz
def H5 : Go.Shelf.Ren := ⟨fun | 8 => 126 | 11 => 137 | n => n, fun | 0 => 0 | 24 => 33 | 26 => 55 | 28 => 118 | 33 => 101 | n => n, fun n => n⟩
theorem ab4 : Go.Proofs.WN Tryz.prog H5 := {
 mixed := by kernel_rfl,
 f8 := ⟨"slices.Collect[minecontrol/api.World]", by kernel_rfl, Tryz.func126.trans (congrArg some (by kernel_rfl))⟩,
 f11 := ⟨"slices.AppendSeq[[]minecontrol/api.World,minecontrol/api.World]", by kernel_rfl, Tryz.func137.trans (congrArg some (by kernel_rfl))⟩,
 t0 := Tryz.underlying0,
 a0 := Tryz.isAgg0,
 z0 := Tryz.sizeOf0,
 v0 := Tryz.zeroValue0,
 t24 := Tryz.underlying33,
 a24 := Tryz.isAgg33,
 z24 := Tryz.sizeOf33,
 v24 := Tryz.zeroValue33,
 t26 := ⟨_, Tryz.underlying55⟩,
 a26 := Tryz.isAgg55,
 z26 := Tryz.sizeOf55,
 v26 := Tryz.zeroValue55,
 t28 := Tryz.underlying118,
 a28 := Tryz.isAgg118,
 z28 := Tryz.sizeOf118,
 v28 := Tryz.zeroValue118,
 i26 := by kernel_rfl }
section
open Go.RowKit Go.Shelf Go.Maps Go.Sort Go.Proofs
/- the iterator of slices.Values of structures of two cells at this program -/
set_option maxRecDepth 100000 in
set_option maxHeartbeats 2000000 in
theorem WR (n l Bs : Nat) (hn : 1 ≤ n) (W0 : World) (b off len cap : Nat) (zs : List (Value × Value)) (hlen : zs.length = len) (hone : ∀ x ∈ zs, x.1.oneCell' = true ∧ x.2.oneCell' = true) (hreach : len * 48 ≤ 140737488351232) (hb : b < W0.heap.size) (J : List (Value × Value) → World → Prop)
 (hJ : ∀ s W1, J s W1 → Below W0.heap.size W0 W1) (hA : ∀ s W1 o, J s W1 → J s (W1.alloc o))
 (hY : ∀ pre x W1, J pre W1 → pre.length < zs.length → x ∈ zs → YieldAt Fence.wide (n - 1) Tryz.prog l #[WM x] W1 fun e W' => e = .returned (.bool true) ∧ J (pre ++ [x]) W' ∧ KeepsWalks W1 W')
 (W : World) (hBs : W.cell? ⟨Bs, 0, none⟩ = some (.slice (some ⟨b, off, none⟩) len cap)) (hc : ∀ j p, zs[j]? = some p → W0.cell? ⟨b, off + j * 2, none⟩ = some p.1 ∧ W0.cell? ⟨b, off + j * 2 + 1, none⟩ = some p.2) (h0 : J [] W) :
 CallsIn Fence.wide n Tryz.prog 128 #[.func (.yield l) #[] #[], .pointer (some ⟨Bs, 0, none⟩)] W fun e W' => (∃ v, e = .returned v) ∧ J zs W' := by
 have step : ∀ k x, zs[k]? = some x → zs.take k ++ [x] = zs.take (k + 1) := fun k x hk => by
  rw [List.take_add_one, hk]; rfl
 refine callsIn_of_wp Tryz.func128 rfl trivial ?_ rfl
 simp only [Tryz.ntmps128, List.size_toArray, List.length_cons, List.length_nil, Nat.reduceAdd, Nat.reduceSub, Array.replicate_succ, Array.replicate_zero, List.push_toArray, List.append_toArray, List.nil_append, List.cons_append]
 gi_wp2
 gi_loopw [7] (fun i wr => ∃ k : Nat, k ≤ len ∧ i = .int .i64 k ∧ J (zs.take k) wr)
  (fun i _ => len - (intOf i).toNat)
 case atStart => exact ⟨0, Nat.zero_le _, rfl, h0⟩
 case round =>
  obtain ⟨k, hk, rfl, hJs⟩ := hrel
  by_cases hlt : k < len
  · obtain ⟨x, hx⟩ : ∃ x, zs[k]? = some x := ⟨_, List.getElem?_eq_getElem (by omega)⟩
    have hcx0 : wr.cell? ⟨b, off + k * 2, none⟩ = some x.1 := ((hJ _ _ hJs).cell (p := ⟨b, off + k * 2, none⟩) hb).trans (hc k x hx).1
    have hcx1 : wr.cell? ⟨b, off + k * 2 + 1, none⟩ = some x.2 := ((hJ _ _ hJs).cell (p := ⟨b, off + k * 2 + 1, none⟩) hb).trans (hc k x hx).2
    have hm : x ∈ zs := List.mem_of_getElem? hx
    have st := step k x hx
    obtain ⟨hx1, hx2⟩ := hone x hm
    have hst := AO Tryz.prog wr x.1 x.2 (.slice none 0 0) (.slice none 0 0) 55 hx1 hx2
    have cA0 : (wr.alloc (.cells #[x.1, x.2] 55)).cell? ⟨wr.heap.size, 0, none⟩ = some x.1 := j7 wr x.1 x.2 55 0 x.1 rfl
    have cA1 : (wr.alloc (.cells #[x.1, x.2] 55)).cell? ⟨wr.heap.size, 1, none⟩ = some x.2 := j7 wr x.1 x.2 55 1 x.2 rfl
    obtain ⟨fn, tmps, assign, body, hy, hR⟩ := hY _ x _ (hA _ _ (.cells #[x.1, x.2] 55) hJs) (by rw [List.length_take]; omega) hm
    clear step hone hc
    gi_wp2
    refine hR.mono ?_
    rintro e W3 ⟨rfl, hJ3, -⟩
    gi_wp2
    go_roundw
    case rel => exact ⟨k + 1, by omega, by simp, by rw [← st]; exact hJ3⟩
    case measure => simp [intOf]; omega
  · obtain rfl : k = len := by omega
    gi_wp2
    go_end0
    exact ⟨⟨_, rfl⟩, by rw [← hlen, List.take_length] at hJs; exact hJs⟩
set_option maxRecDepth 100000 in
set_option maxHeartbeats 1000000 in
theorem WS (n l Bs : Nat) (p : Option Addr) (cap : Nat) (J : List (Value × Value) → World → Prop) (W : World) (hBs : W.cell? ⟨Bs, 0, none⟩ = some (.slice p 0 cap)) (h0 : J [] W) :
 CallsIn Fence.wide n Tryz.prog 128 #[.func (.yield l) #[] #[], .pointer (some ⟨Bs, 0, none⟩)] W fun e W' => (∃ v, e = .returned v) ∧ J [] W' := by
 refine callsIn_of_wp Tryz.func128 rfl trivial ?_ rfl
 simp only [Tryz.ntmps128, List.size_toArray, List.length_cons, List.length_nil, Nat.reduceAdd, Nat.reduceSub, Array.replicate_succ, Array.replicate_zero, List.push_toArray, List.append_toArray, List.nil_append, List.cons_append]
 gi_wp2
 gi_loopw [7] (fun i wr => i = .int .i64 0 ∧ J [] wr) (fun _ _ => 0)
 case atStart => exact ⟨rfl, h0⟩
 case round =>
  obtain ⟨rfl, hJs⟩ := hrel
  gi_wp2
  go_end0
  exact ⟨⟨_, rfl⟩, hJs⟩
theorem KQ : H4 Tryz.prog 128 := by
 intro n Bs sv zs w hn hone hreach hBs hcell hI l J W hW hJ hA hY h0
 have hc' := (hW.cell (p := ⟨Bs, 0, none⟩) hBs).trans hcell
 rcases hI with ⟨p, cap, rfl, rfl⟩ | ⟨b, off, cap, rfl, hb, hcs⟩
 · exact WS n l Bs p cap J W hc' h0
 · exact WR n l Bs hn w b off zs.length cap zs rfl hone hreach hb J hJ hA hY W hc' hcs h0
end
theorem KR : ∀ j, Names.ρ 300 = some j → qY Tryz.prog j [3, N.av] := fun j hj => by
 have e : (Names.ρ 300 : Option Nat) = some 126 := by kernel_rfl
 rw [e] at hj; cases hj; exact AP ab4 (by kernel_rfl) (Go.Proofs.enters_of Tryz.func128 (by kernel_rfl) rfl) KQ
theorem KS : ∀ x ∈ Qy, ∀ j, Names.ρ x.1 = some j → qY Tryz.prog j x.2 := by
 intro x hx
 simp only [Qy, List.mem_cons, List.not_mem_nil, or_false] at hx
 rcases hx with rfl | rfl
 · exact KP
 · exact KR
end Go.Proofs.YtgedjeljhicagaaGreat
