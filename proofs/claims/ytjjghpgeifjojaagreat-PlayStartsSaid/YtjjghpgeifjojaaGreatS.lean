/- MADE BY PROGRAM (lib.py): the numbers that the functions have in this program, and the check of each one. -/
import Derived.Test.YtjjghpgeifjojaaGreatProg
import Derived.Shelf.Abstract
import Derived.RangeFuncBox
import Derived.RangeFuncLeaves
import Derived.WalkKit
import Derived.OwnWalkIn
import Derived.TacticsInMore
import Derived.LoopNIn
import Derived.LoopIn
import Derived.Maps.OwnOps
import Derived.WalkKit
import Derived.Test.YtjjghpgeifjojaaGreatZPD
import Derived.KernelRfl
set_option linter.all false
set_option maxRecDepth 100000
namespace Go.Proofs.YtjjghpgeifjojaaGreat
open Go.Ev
def real : List (Option Nat) := [none, some 4, none, some 6, some 14, none, none, some 16, none, some 10, some 17, none, some 47, none, none, some 18, some 45, none, none, some 54, none, none, none, some 11, none, none, none, none, some 87, some 49, some 52, none, some 97, none, none, some 90, some 91, some 96, none, some 136, none, none, none, none, some 132, none, none, none, none, some 37, none, some 154, none, none, some 131, some 86, some 133, some 134, some 135, none, none, some 191, some 25, none, none, some 190, some 68, some 199, none, none, none, some 39, none, some 241, some 46, none, some 82, some 130, none, none, none, none, none, none, none, none, none, none, none, none, some 36, none, some 19, none, none, none, none, none, none, some 51, none, none, none, none, none, some 64, none, none, none, some 88, some 116, none, some 89, none, some 92, some 152, some 69, some 153, none, some 198, none, none, none, none, none, none, none, none, none, none, none, none, none, none, none, none, none, none, none, none, none, none, none, none, none, none, none, none, none, none, none, none, none, none, some 34, some 144, none, none, none, some 63, some 65, some 66, none, some 29, none, none, none, some 67, some 105, some 106, some 107, some 108, none, some 109, some 141, none, some 143, some 145, none, none, none, none, none, none, none, none, some 72, none, none, none, some 267, none, some 208, some 263, none, none, some 58, none, some 110, some 111, some 112, some 300, some 264, some 257, some 70, some 299, none, none, some 146, some 147, some 314, some 195, some 253, some 296, some 297, none, none, none, none, some 53, none, none, some 98, some 40, none, none, none, none, none, none, some 155, some 30, none, none, none, none, none, none, none, none, none, some 139, none, none, none, none, none, none, none, none, none, none, none, none, none, none, none, some 213, none, none, some 102, some 103, some 71, some 265, some 227, some 266, none, some 140, some 277, some 281, some 295, none, none, none, none, none, none, none, some 41, none, none, none, some 164, some 211, none, none, some 28, none, none, some 115, none, some 206, some 207, some 262, none, none, none, none, none, none, none, none, none, none, none, none, none, none, some 115, none, none, none, none, none, none, none, none, none, none, some 218, none, none, none, none, none, none, none, some 22, none, none, some 74, some 75, none, none, none, none, none, none, some 15, some 33, some 48, none, some 156, some 73, some 157, none, none, none, none, none, some 59, some 60, some 61, some 62, some 83, some 84, some 85, some 21, some 200, some 197, some 113, some 114, none, none, none, none, none, none, none, some 100, some 101, some 104, some 148, some 149, some 150, some 151, none, none, none, some 137, some 196, some 62, none, some 62, none, none, none, none, none, none, none, none, none, none, some 55, some 27, some 42, some 205, none, some 160, none, some 158, none, some 57, some 159, some 201, none, none, some 255, some 256, some 95, some 202, some 203, some 204, none, some 254, none, none, none, none, none, none, none, none, none, none, none, none, none, none, none, none, none, none, none, none, some 35, none, none, none, none, none, none, none, none, none, none, none, some 50, none, none, none, none, none, none, none, none, none, none, none, none, none, none, none, none, none, none, none, none, none, none, none, none, none, none, none, none, none, none, none, none, none, none, none, none, none, none, none, none, none, none, none, none, none, none, none, none, none, none, none, none, none, none, none, none, none, none, none, some 3, some 5, some 7, some 8, some 9, some 12, some 13, some 20, some 23, some 24, some 26, some 31, some 32, some 38, some 43, some 44, some 56, some 76, some 77, some 78, some 79, some 80, some 81, some 93, some 94, some 99, some 117, some 118, some 119, some 120, some 121, some 122, some 123, some 124, some 125, some 126, some 127, some 128, some 129, some 161, some 162, some 163, some 165, some 166, some 169, some 170, some 209, some 210, some 212, some 258, some 259, some 260, some 261, some 298]
def tab : List (Option Go.Ev.Fn) := [none, some K.jT, none, some K.kW, some K.df, none, none, some K.cX, none, some K.aR, some K.bI, none, some K.iL, none, none, some K.cm, some K.dy, none, none, some K.eD, none, none, none, some K.ka, none, none, none, none, some K.cG, some K.iY, some K.gn, none, some K.jU, none, none, some K.gA, some K.fj, some K.iC, none, some K.dz, none, none, none, none, some K.gB, none, none, none, none, some K.ax, none, some K.aP, none, none, some K.ji, some K.jV, some K.gC, some K.iZ, some K.i4, none, none, some K.jW, some K.aS, none, none, some K.gT, some K.bA, some K.bK, none, none, none, some K.bc, none, some K.dS, some K.gJ, none, some K.cE, some K.jX, none, none, none, none, none, none, none, none, none, none, none, none, some K.bS, none, some K.gD, none, none, none, none, none, none, some K.cY, none, none, none, none, none, some K.bM, none, none, none, some K.gj, some K.lS, none, some K.dT, none, some K.iE, some K.jB, some K.jl, some K.lT, none, some K.jC, none, none, none, none, none, none, none, none, none, none, none, none, none, none, none, none, none, none, none, none, none, none, none, none, none, none, none, none, none, none, none, none, none, none, some K.fk, some K.bT, none, none, none, some K.gV, some K.bj, some K.cA, none, some K.jm, none, none, none, some K.cy, some K.aF, some K.cR, some K.eF, some K.bD, none, some K.iF, some K.aO, none, some K.dA, some K.gW, none, none, none, none, none, none, none, none, some K.eU, none, none, none, some K.iN, none, some K.lW, some K.iP, none, none, some K.jn, none, some K.dD, some K.bU, some K.dZ, some K.iQ, some K.cq, some K.iR, some K.ai, some K.b5, none, none, some K.dE, some K.bu, some K.fH, some K.jR, some K.kZ, some K.fI, some K.jZ, none, none, none, none, some K.gZ, none, none, some K.jo, some K.jq, none, none, none, none, none, none, some K.kx, some K.jr, none, none, none, none, none, none, none, none, none, some K.cH, none, none, none, none, none, none, none, none, none, none, none, none, none, none, none, some K.ky, none, none, some K.bX, some K.bk, some K.fK, some K.cg, some K.aH, some K.iS, none, some K.aW, some K.fL, some K.aI, some K.cmp_isNaN_int, none, none, none, none, none, none, none, some K.eG, none, none, none, some K.nL, some K.jD, none, none, some K.gM, none, none, some K.i9, none, some K.jJ, some K.kz, some K.gE, none, none, none, none, none, none, none, none, none, none, none, none, none, none, some K.gF, none, none, none, none, none, none, none, none, none, none, some K.kA, none, none, none, none, none, none, none, some K.cB, none, none, some K.aA, some K.aB, none, none, none, none, none, none, some K.bZ, some K.cQ, some K.cz, none, some K.kC, some K.eQ, some K.lZ, none, none, none, none, none, some K.b6, some K.dM, some K.fQ, some K.gG, some K.dV, some K.dG, some K.iG, some K.jt, some K.iV, some K.c7, some K.fq, some K.ju, none, none, none, none, none, none, none, some K.bP, some K.au, some K.ay, some K.dN, some K.az, some K.dO, some K.eH, none, none, none, some K.aC, some K.aJ, some K.c8, none, some K.fR, none, none, none, none, none, none, none, none, none, none, some K.ja, some K.cL, some K.j3, some K.eV, none, some K.nN, none, some K.ma, none, some K.gO, some K.nO, some K.iH, none, none, some K.dt, some K.du, some K.jv, some K.lg, some K.gH, some K.cj, none, some K.bF, none, none, none, none, none, none, none, none, none, none, none, none, none, none, none, none, none, none, none, none, some K.gP, none, none, none, none, none, none, none, none, none, none, none, some K.dW, none, none, none, none, none, none, none, none, none, none, none, none, none, none, none, none, none, none, none, none, none, none, none, none, none, none, none, none, none, none, none, none, none, none, none, none, none, none, none, none, none, none, none, none, none, none, none, none, none, none, none, none, none, none, none, none, none, none, none, some K.bn, some K.jb, some K.aQ, some K.eJ, some K.gQ, some K.cW, some K.qj, some K.cJ, some K.de, some K.cM, some K.bQ, some K.jy, some K.eK, some K.eW, some K.dX, some K.nQ, some K.jz, some K.aM, some K.fS, some K.dP, some K.aU, some K.me, some K.nS, some K.fT, some K.eL, some K.j4, some K.eh, some K.ei, some K.eo, some K.et, some K.eu, some K.ew, some K.dI, some K.fB, some K.dJ, some K.dK, some K.ez, some K.eB, some K.eC, some K.jF, some K.fC, some K.eX, some K.eM, some K.gI, some K.eY, some K.eZ, some K.dv, some K.fe, some K.fU, some K.aN, some K.cN, some K.cO, some K.eb, some K.aV]
instance names : Names := { ρ := fun f => (real[f]?).join, it := fun f => f == 415 }
instance lib : Lib := ⟨fun f => (tab[f]?).join⟩
instance has1 : bO := ⟨rfl, rfl, rfl, rfl, rfl, rfl, rfl, rfl, rfl, rfl, rfl, rfl, rfl, rfl, rfl, rfl, rfl⟩
instance has2 : bL := ⟨rfl, rfl, rfl, rfl, rfl, rfl, rfl, rfl, rfl, rfl, rfl, rfl, rfl, rfl, rfl, rfl, rfl, rfl, rfl, rfl⟩
instance has3 : dL := ⟨rfl, rfl⟩
instance has4 : dm := ⟨rfl, rfl, rfl, rfl, rfl, rfl, rfl, rfl, rfl, rfl⟩
instance has5 : hU := ⟨⟩
instance has6 : dg := ⟨rfl, rfl, rfl, rfl, rfl, rfl, rfl, rfl, rfl, rfl, rfl⟩
instance has7 : dn := ⟨rfl, rfl, rfl, rfl⟩
instance has8 : eR := ⟨rfl, rfl, rfl⟩
instance has9 : dF := ⟨rfl, rfl, rfl, rfl, rfl, rfl, rfl, rfl, rfl, rfl, rfl, rfl, rfl, rfl, rfl, rfl, rfl⟩
instance has10 : bY := ⟨rfl, rfl, rfl, rfl, rfl, rfl⟩
instance has11 : b7 := ⟨rfl, rfl, rfl, rfl, rfl, rfl, rfl, rfl, rfl, rfl, rfl⟩
instance has12 : dw := ⟨rfl, rfl, rfl⟩
instance has13 : dk := ⟨rfl, rfl, rfl, rfl, rfl, rfl⟩
instance has14 : fM := ⟨rfl⟩
instance has15 : fp := ⟨rfl, rfl, rfl⟩
instance has16 : jx := ⟨rfl, rfl, rfl, rfl, rfl, rfl⟩
instance has17 : eS := ⟨rfl, rfl, rfl, rfl, rfl, rfl, rfl, rfl, rfl, rfl, rfl, rfl⟩
instance has18 : im := ⟨rfl, rfl, rfl, rfl, rfl, rfl, rfl, rfl, rfl, rfl, rfl⟩
instance has19 : j7 := ⟨rfl, rfl, rfl, rfl, rfl, rfl, rfl, rfl, rfl, rfl, rfl, rfl, rfl, rfl, rfl⟩
instance has20 : pI := ⟨rfl⟩
instance has21 : pt := ⟨rfl⟩
instance has22 : px := ⟨rfl⟩
instance has23 : pU := ⟨⟩
instance has28 : ny := ⟨rfl, rfl, rfl, rfl, rfl, rfl, rfl, rfl, rfl, rfl, rfl, rfl, rfl, rfl, rfl, rfl⟩
instance has29 : gx := ⟨rfl, rfl, rfl, rfl, rfl, rfl, rfl, rfl, rfl, rfl, rfl, rfl, rfl, rfl, rfl, rfl, rfl, rfl, rfl, rfl, rfl, rfl, rfl, rfl, rfl, rfl, rfl, rfl, rfl, rfl, rfl, rfl, rfl, rfl, rfl, rfl, rfl, rfl⟩
theorem HN : aG Tryz.prog Tryz.f4 K.jT = true := by kernel_rfl
theorem Kd : aG Tryz.prog Tryz.f6 K.kW = true := by kernel_rfl
theorem A1 : aG Tryz.prog Tryz.f14 K.df = true := by kernel_rfl
theorem zI : aG Tryz.prog Tryz.f16 K.cX = true := by kernel_rfl
theorem A2 : aG Tryz.prog Tryz.f10 K.aR = true := by kernel_rfl
theorem Dk : aG Tryz.prog Tryz.f17 K.bI = true := by kernel_rfl
theorem Ke : aG Tryz.prog Tryz.f47 K.iL = true := by kernel_rfl
theorem CM : aG Tryz.prog Tryz.f18 K.cm = true := by kernel_rfl
theorem A3 : aG Tryz.prog Tryz.f45 K.dy = true := by kernel_rfl
theorem Fw : aG Tryz.prog Tryz.f54 K.eD = true := by kernel_rfl
theorem MW : aG Tryz.prog Tryz.f11 K.ka = true := by kernel_rfl
theorem Fx : aG Tryz.prog Tryz.f87 K.cG = true := by kernel_rfl
theorem Fy : aG Tryz.prog Tryz.f49 K.iY = true := by kernel_rfl
theorem Kf : aG Tryz.prog Tryz.f52 K.gn = true := by kernel_rfl
theorem HO : aG Tryz.prog Tryz.f97 K.jU = true := by kernel_rfl
theorem Dl : aG Tryz.prog Tryz.f90 K.gA = true := by kernel_rfl
theorem FA : aG Tryz.prog Tryz.f91 K.fj = true := by kernel_rfl
theorem HP : aG Tryz.prog Tryz.f96 K.iC = true := by kernel_rfl
theorem zJ : aG Tryz.prog Tryz.f136 K.dz = true := by kernel_rfl
theorem Dm : aG Tryz.prog Tryz.f132 K.gB = true := by kernel_rfl
theorem ov : aG Tryz.prog Tryz.f37 K.ax = true := by kernel_rfl
theorem qW : aG Tryz.prog Tryz.f154 K.aP = true := by kernel_rfl
theorem HQ : aG Tryz.prog Tryz.f131 K.ji = true := by kernel_rfl
theorem HR : aG Tryz.prog Tryz.f86 K.jV = true := by kernel_rfl
theorem Dn : aG Tryz.prog Tryz.f133 K.gC = true := by kernel_rfl
theorem FB : aG Tryz.prog Tryz.f134 K.iZ = true := by kernel_rfl
theorem FC : aG Tryz.prog Tryz.f135 K.i4 = true := by kernel_rfl
theorem HT : aG Tryz.prog Tryz.f191 K.jW = true := by kernel_rfl
theorem A4 : aG Tryz.prog Tryz.f25 K.aS = true := by kernel_rfl
theorem FD : aG Tryz.prog Tryz.f190 K.gT = true := by kernel_rfl
theorem pV : aG Tryz.prog Tryz.f68 K.bA = true := by kernel_rfl
theorem tJ : aG Tryz.prog Tryz.f199 K.bK = true := by kernel_rfl
theorem MX : aG Tryz.prog Tryz.f39 K.bc = true := by kernel_rfl
theorem FE : aG Tryz.prog Tryz.f241 K.dS = true := by kernel_rfl
theorem HU : aG Tryz.prog Tryz.f46 K.gJ = true := by kernel_rfl
theorem Dp : aG Tryz.prog Tryz.f82 K.cE = true := by kernel_rfl
theorem HV : aG Tryz.prog Tryz.f130 K.jX = true := by kernel_rfl
theorem Dq : aG Tryz.prog Tryz.f36 K.bS = true := by kernel_rfl
theorem Dr : aG Tryz.prog Tryz.f19 K.gD = true := by kernel_rfl
theorem FF : aG Tryz.prog Tryz.f51 K.cY = true := by kernel_rfl
theorem Dt : aG Tryz.prog Tryz.f64 K.bM = true := by kernel_rfl
theorem FH : aG Tryz.prog Tryz.f88 K.gj = true := by kernel_rfl
theorem HW : aG Tryz.prog Tryz.f116 K.lS = true := by kernel_rfl
theorem FI : aG Tryz.prog Tryz.f89 K.dT = true := by kernel_rfl
theorem HX : aG Tryz.prog Tryz.f92 K.iE = true := by kernel_rfl
theorem Du : aG Tryz.prog Tryz.f152 K.jB = true := by kernel_rfl
theorem HY : aG Tryz.prog Tryz.f69 K.jl = true := by kernel_rfl
theorem HZ : aG Tryz.prog Tryz.f153 K.lT = true := by kernel_rfl
theorem Dv : aG Tryz.prog Tryz.f198 K.jC = true := by kernel_rfl
theorem FJ : aG Tryz.prog Tryz.f34 K.fk = true := by kernel_rfl
theorem Dw : aG Tryz.prog Tryz.f144 K.bT = true := by kernel_rfl
theorem FK : aG Tryz.prog Tryz.f63 K.gV = true := by kernel_rfl
theorem sY : aG Tryz.prog Tryz.f65 K.bj = true := by kernel_rfl
theorem vO : aG Tryz.prog Tryz.f66 K.cA = true := by kernel_rfl
theorem H3 : aG Tryz.prog Tryz.f29 K.jm = true := by kernel_rfl
theorem H4 : aG Tryz.prog Tryz.f67 K.cy = true := by kernel_rfl
theorem kF : aG Tryz.prog Tryz.f105 K.aF = true := by kernel_rfl
theorem CN : aG Tryz.prog Tryz.f106 K.cR = true := by kernel_rfl
theorem CO : aG Tryz.prog Tryz.f107 K.eF = true := by kernel_rfl
theorem xu : aG Tryz.prog Tryz.f108 K.bD = true := by kernel_rfl
theorem H5 : aG Tryz.prog Tryz.f109 K.iF = true := by kernel_rfl
theorem lr : aG Tryz.prog Tryz.f141 K.aO = true := by kernel_rfl
theorem zL : aG Tryz.prog Tryz.f143 K.dA = true := by kernel_rfl
theorem FL : aG Tryz.prog Tryz.f145 K.gW = true := by kernel_rfl
theorem Dx : aG Tryz.prog Tryz.f72 K.eU = true := by kernel_rfl
theorem Dy : aG Tryz.prog Tryz.f267 K.iN = true := by kernel_rfl
theorem H6 : aG Tryz.prog Tryz.f208 K.lW = true := by kernel_rfl
theorem CP : aG Tryz.prog Tryz.f263 K.iP = true := by kernel_rfl
theorem H7 : aG Tryz.prog Tryz.f58 K.jn = true := by kernel_rfl
theorem A5 : aG Tryz.prog Tryz.f110 K.dD = true := by kernel_rfl
theorem A6 : aG Tryz.prog Tryz.f111 K.bU = true := by kernel_rfl
theorem H8 : aG Tryz.prog Tryz.f112 K.dZ = true := by kernel_rfl
theorem CQ : aG Tryz.prog Tryz.f300 K.iQ = true := by kernel_rfl
theorem tK : aG Tryz.prog Tryz.f264 K.cq = true := by kernel_rfl
theorem Dz : aG Tryz.prog Tryz.f257 K.iR = true := by kernel_rfl
theorem tM : aG Tryz.prog Tryz.f70 K.ai = true := by kernel_rfl
theorem zM : aG Tryz.prog Tryz.f299 K.b5 = true := by kernel_rfl
theorem zN : aG Tryz.prog Tryz.f146 K.dE = true := by kernel_rfl
theorem yP : aG Tryz.prog Tryz.f147 K.bu = true := by kernel_rfl
theorem zO : aG Tryz.prog Tryz.f314 K.fH = true := by kernel_rfl
theorem Kg : aG Tryz.prog Tryz.f195 K.jR = true := by kernel_rfl
theorem Kh : aG Tryz.prog Tryz.f253 K.kZ = true := by kernel_rfl
theorem Ki : aG Tryz.prog Tryz.f296 K.fI = true := by kernel_rfl
theorem H9 : aG Tryz.prog Tryz.f297 K.jZ = true := by kernel_rfl
theorem FM : aG Tryz.prog Tryz.f53 K.gZ = true := by kernel_rfl
theorem Ia : aG Tryz.prog Tryz.f98 K.jo = true := by kernel_rfl
theorem Ib : aG Tryz.prog Tryz.f40 K.jq = true := by kernel_rfl
theorem FN : aG Tryz.prog Tryz.f155 K.kx = true := by kernel_rfl
theorem Ic : aG Tryz.prog Tryz.f30 K.jr = true := by kernel_rfl
theorem vk : aG Tryz.prog Tryz.f139 K.cH = true := by kernel_rfl
theorem FO : aG Tryz.prog Tryz.f213 K.ky = true := by kernel_rfl
theorem xv : aG Tryz.prog Tryz.f102 K.bX = true := by kernel_rfl
theorem s5 : aG Tryz.prog Tryz.f103 K.bk = true := by kernel_rfl
theorem DA : aG Tryz.prog Tryz.f71 K.fK = true := by kernel_rfl
theorem rR : aG Tryz.prog Tryz.f265 K.cg = true := by kernel_rfl
theorem gy : aG Tryz.prog Tryz.f227 K.aH = true := by kernel_rfl
theorem CR : aG Tryz.prog Tryz.f266 K.iS = true := by kernel_rfl
theorem qX : aG Tryz.prog Tryz.f140 K.aW = true := by kernel_rfl
theorem zP : aG Tryz.prog Tryz.f277 K.fL = true := by kernel_rfl
theorem iq : aG Tryz.prog Tryz.f281 K.aI = true := by kernel_rfl
theorem CS : aG Tryz.prog Tryz.f295 K.cmp_isNaN_int = true := by kernel_rfl
theorem FP : aG Tryz.prog Tryz.f41 K.eG = true := by kernel_rfl
theorem Kj : aG Tryz.prog Tryz.f164 K.nL = true := by kernel_rfl
theorem DB : aG Tryz.prog Tryz.f211 K.jD = true := by kernel_rfl
theorem Ie : aG Tryz.prog Tryz.f28 K.gM = true := by kernel_rfl
theorem FQ : aG Tryz.prog Tryz.f115 K.i9 = true := by kernel_rfl
theorem FR : aG Tryz.prog Tryz.f206 K.jJ = true := by kernel_rfl
theorem FT : aG Tryz.prog Tryz.f207 K.kz = true := by kernel_rfl
theorem A7 : aG Tryz.prog Tryz.f262 K.gE = true := by kernel_rfl
theorem A8 : aG Tryz.prog Tryz.f115 K.gF = true := by kernel_rfl
theorem FU : aG Tryz.prog Tryz.f218 K.kA = true := by kernel_rfl
theorem A9 : aG Tryz.prog Tryz.f22 K.cB = true := by kernel_rfl
theorem mj : aG Tryz.prog Tryz.f74 K.aA = true := by kernel_rfl
theorem mR : aG Tryz.prog Tryz.f75 K.aB = true := by kernel_rfl
theorem xw : aG Tryz.prog Tryz.f15 K.bZ = true := by kernel_rfl
theorem FV : aG Tryz.prog Tryz.f33 K.cQ = true := by kernel_rfl
theorem FW : aG Tryz.prog Tryz.f48 K.cz = true := by kernel_rfl
theorem FX : aG Tryz.prog Tryz.f156 K.kC = true := by kernel_rfl
theorem Ig : aG Tryz.prog Tryz.f73 K.eQ = true := by kernel_rfl
theorem Ih : aG Tryz.prog Tryz.f157 K.lZ = true := by kernel_rfl
theorem zQ : aG Tryz.prog Tryz.f59 K.b6 = true := by kernel_rfl
theorem CT : aG Tryz.prog Tryz.f60 K.dM = true := by kernel_rfl
theorem DC : aG Tryz.prog Tryz.f61 K.fQ = true := by kernel_rfl
theorem DD : aG Tryz.prog Tryz.f62 K.gG = true := by kernel_rfl
theorem FY : aG Tryz.prog Tryz.f83 K.dV = true := by kernel_rfl
theorem Ba : aG Tryz.prog Tryz.f84 K.dG = true := by kernel_rfl
theorem Ii : aG Tryz.prog Tryz.f85 K.iG = true := by kernel_rfl
theorem Ij : aG Tryz.prog Tryz.f21 K.jt = true := by kernel_rfl
theorem CU : aG Tryz.prog Tryz.f200 K.iV = true := by kernel_rfl
theorem DE : aG Tryz.prog Tryz.f197 K.c7 = true := by kernel_rfl
theorem FZ : aG Tryz.prog Tryz.f113 K.fq = true := by kernel_rfl
theorem Ik : aG Tryz.prog Tryz.f114 K.ju = true := by kernel_rfl
theorem xx : aG Tryz.prog Tryz.f100 K.bP = true := by kernel_rfl
theorem iz : aG Tryz.prog Tryz.f101 K.au = true := by kernel_rfl
theorem lu : aG Tryz.prog Tryz.f104 K.ay = true := by kernel_rfl
theorem CV : aG Tryz.prog Tryz.f148 K.dN = true := by kernel_rfl
theorem jN : aG Tryz.prog Tryz.f149 K.az = true := by kernel_rfl
theorem CW : aG Tryz.prog Tryz.f150 K.dO = true := by kernel_rfl
theorem CY : aG Tryz.prog Tryz.f151 K.eH = true := by kernel_rfl
theorem jc : aG Tryz.prog Tryz.f137 K.aC = true := by kernel_rfl
theorem kh : aG Tryz.prog Tryz.f196 K.aJ = true := by kernel_rfl
theorem zR : aG Tryz.prog Tryz.f62 K.c8 = true := by kernel_rfl
theorem zS : aG Tryz.prog Tryz.f62 K.fR = true := by kernel_rfl
theorem F3 : aG Tryz.prog Tryz.f55 K.ja = true := by kernel_rfl
theorem yQ : aG Tryz.prog Tryz.f27 K.cL = true := by kernel_rfl
theorem Il : aG Tryz.prog Tryz.f42 K.j3 = true := by kernel_rfl
theorem yR : aG Tryz.prog Tryz.f205 K.eV = true := by kernel_rfl
theorem Kk : aG Tryz.prog Tryz.f160 K.nN = true := by kernel_rfl
theorem Im : aG Tryz.prog Tryz.f158 K.ma = true := by kernel_rfl
theorem Io : aG Tryz.prog Tryz.f57 K.gO = true := by kernel_rfl
theorem Kl : aG Tryz.prog Tryz.f159 K.nO = true := by kernel_rfl
theorem Ip : aG Tryz.prog Tryz.f201 K.iH = true := by kernel_rfl
theorem vP : aG Tryz.prog Tryz.f255 K.dt = true := by kernel_rfl
theorem vQ : aG Tryz.prog Tryz.f256 K.du = true := by kernel_rfl
theorem Iq : aG Tryz.prog Tryz.f95 K.jv = true := by kernel_rfl
theorem Km : aG Tryz.prog Tryz.f202 K.lg = true := by kernel_rfl
theorem DF : aG Tryz.prog Tryz.f203 K.gH = true := by kernel_rfl
theorem rS : aG Tryz.prog Tryz.f204 K.cj = true := by kernel_rfl
theorem pW : aG Tryz.prog Tryz.f254 K.bF = true := by kernel_rfl
theorem Ir : aG Tryz.prog Tryz.f35 K.gP = true := by kernel_rfl
theorem F4 : aG Tryz.prog Tryz.f50 K.dW = true := by kernel_rfl
theorem yS : aG Tryz.prog Tryz.f3 K.bn = true := by kernel_rfl
theorem F5 : aG Tryz.prog Tryz.f5 K.jb = true := by kernel_rfl
theorem zT : aG Tryz.prog Tryz.f7 K.aQ = true := by kernel_rfl
theorem F6 : aG Tryz.prog Tryz.f8 K.eJ = true := by kernel_rfl
theorem Is : aG Tryz.prog Tryz.f9 K.gQ = true := by kernel_rfl
theorem It : aG Tryz.prog Tryz.f12 K.cW = true := by kernel_rfl
theorem MY : aG Tryz.prog Tryz.f13 K.qj = true := by kernel_rfl
theorem F7 : aG Tryz.prog Tryz.f20 K.cJ = true := by kernel_rfl
theorem zU : aG Tryz.prog Tryz.f23 K.de = true := by kernel_rfl
theorem yT : aG Tryz.prog Tryz.f24 K.cM = true := by kernel_rfl
theorem xy : aG Tryz.prog Tryz.f26 K.bQ = true := by kernel_rfl
theorem Iu : aG Tryz.prog Tryz.f31 K.jy = true := by kernel_rfl
theorem CZ : aG Tryz.prog Tryz.f32 K.eK = true := by kernel_rfl
theorem DG : aG Tryz.prog Tryz.f38 K.eW = true := by kernel_rfl
theorem F8 : aG Tryz.prog Tryz.f43 K.dX = true := by kernel_rfl
theorem Kn : aG Tryz.prog Tryz.f44 K.nQ = true := by kernel_rfl
theorem Iv : aG Tryz.prog Tryz.f56 K.jz = true := by kernel_rfl
theorem mS : aG Tryz.prog Tryz.f76 K.aM = true := by kernel_rfl
theorem DH : aG Tryz.prog Tryz.f77 K.fS = true := by kernel_rfl
theorem C0 : aG Tryz.prog Tryz.f78 K.dP = true := by kernel_rfl
theorem mm : aG Tryz.prog Tryz.f79 K.aU = true := by kernel_rfl
theorem Iw : aG Tryz.prog Tryz.f80 K.me = true := by kernel_rfl
theorem Ko : aG Tryz.prog Tryz.f81 K.nS = true := by kernel_rfl
theorem DI : aG Tryz.prog Tryz.f93 K.fT = true := by kernel_rfl
theorem C1 : aG Tryz.prog Tryz.f94 K.eL = true := by kernel_rfl
theorem Ix : aG Tryz.prog Tryz.f99 K.j4 = true := by kernel_rfl
theorem Bb : aG Tryz.prog Tryz.f117 K.eh = true := by kernel_rfl
theorem Bc : aG Tryz.prog Tryz.f118 K.ei = true := by kernel_rfl
theorem Bd : aG Tryz.prog Tryz.f119 K.eo = true := by kernel_rfl
theorem Be : aG Tryz.prog Tryz.f120 K.et = true := by kernel_rfl
theorem Bf : aG Tryz.prog Tryz.f121 K.eu = true := by kernel_rfl
theorem Bg : aG Tryz.prog Tryz.f122 K.ew = true := by kernel_rfl
theorem zV : aG Tryz.prog Tryz.f123 K.dI = true := by kernel_rfl
theorem C2 : aG Tryz.prog Tryz.f124 K.fB = true := by kernel_rfl
theorem zW : aG Tryz.prog Tryz.f125 K.dJ = true := by kernel_rfl
theorem zX : aG Tryz.prog Tryz.f126 K.dK = true := by kernel_rfl
theorem Bh : aG Tryz.prog Tryz.f127 K.ez = true := by kernel_rfl
theorem Bi : aG Tryz.prog Tryz.f128 K.eB = true := by kernel_rfl
theorem Bj : aG Tryz.prog Tryz.f129 K.eC = true := by kernel_rfl
theorem DJ : aG Tryz.prog Tryz.f161 K.jF = true := by kernel_rfl
theorem Bk : aG Tryz.prog Tryz.f162 K.fC = true := by kernel_rfl
theorem yU : aG Tryz.prog Tryz.f163 K.eX = true := by kernel_rfl
theorem zY : aG Tryz.prog Tryz.f165 K.eM = true := by kernel_rfl
theorem Bl : aG Tryz.prog Tryz.f166 K.gI = true := by kernel_rfl
theorem yV : aG Tryz.prog Tryz.f169 K.eY = true := by kernel_rfl
theorem yW : aG Tryz.prog Tryz.f170 K.eZ = true := by kernel_rfl
theorem vR : aG Tryz.prog Tryz.f209 K.dv = true := by kernel_rfl
theorem yX : aG Tryz.prog Tryz.f210 K.fe = true := by kernel_rfl
theorem zZ : aG Tryz.prog Tryz.f212 K.fU = true := by kernel_rfl
theorem jO : aG Tryz.prog Tryz.f258 K.aN = true := by kernel_rfl
theorem tN : aG Tryz.prog Tryz.f259 K.cN = true := by kernel_rfl
theorem tO : aG Tryz.prog Tryz.f260 K.cO = true := by kernel_rfl
theorem xz : aG Tryz.prog Tryz.f261 K.eb = true := by kernel_rfl
theorem kj : aG Tryz.prog Tryz.f298 K.aV = true := by kernel_rfl
theorem aej : I6 Tryz.prog real tab :=
 ⟨trivial, ⟨⟨by kernel_rfl, ah Tryz.func4 HN⟩, ⟨trivial, ⟨⟨by kernel_rfl, ah Tryz.func6 Kd⟩, ⟨⟨by kernel_rfl, ah Tryz.func14 A1⟩, ⟨trivial, ⟨trivial, ⟨⟨by kernel_rfl, ah Tryz.func16 zI⟩, ⟨trivial, ⟨⟨by kernel_rfl, ah Tryz.func10 A2⟩, ⟨⟨by kernel_rfl, ah Tryz.func17 Dk⟩, ⟨trivial, ⟨⟨by kernel_rfl, ah Tryz.func47 Ke⟩, ⟨trivial, ⟨trivial, ⟨⟨by kernel_rfl, ah Tryz.func18 CM⟩, ⟨⟨by kernel_rfl, ah Tryz.func45 A3⟩, ⟨trivial, ⟨trivial, ⟨⟨by kernel_rfl, ah Tryz.func54 Fw⟩, ⟨trivial, ⟨trivial, ⟨trivial, ⟨⟨by kernel_rfl, ah Tryz.func11 MW⟩, ⟨trivial, ⟨trivial, ⟨trivial, ⟨trivial, ⟨⟨by kernel_rfl, ah Tryz.func87 Fx⟩, ⟨⟨by kernel_rfl, ah Tryz.func49 Fy⟩, ⟨⟨by kernel_rfl, ah Tryz.func52 Kf⟩, ⟨trivial, ⟨⟨by kernel_rfl, ah Tryz.func97 HO⟩, ⟨trivial, ⟨trivial, ⟨⟨by kernel_rfl, ah Tryz.func90 Dl⟩, ⟨⟨by kernel_rfl, ah Tryz.func91 FA⟩, ⟨⟨by kernel_rfl, ah Tryz.func96 HP⟩, ⟨trivial, ⟨⟨by kernel_rfl, ah Tryz.func136 zJ⟩, ⟨trivial, ⟨trivial, ⟨trivial, ⟨trivial, ⟨⟨by kernel_rfl, ah Tryz.func132 Dm⟩, ⟨trivial, ⟨trivial, ⟨trivial, ⟨trivial, ⟨⟨by kernel_rfl, ah Tryz.func37 ov⟩, ⟨trivial, ⟨⟨by kernel_rfl, ah Tryz.func154 qW⟩, ⟨trivial, ⟨trivial, ⟨⟨by kernel_rfl, ah Tryz.func131 HQ⟩, ⟨⟨by kernel_rfl, ah Tryz.func86 HR⟩, ⟨⟨by kernel_rfl, ah Tryz.func133 Dn⟩, ⟨⟨by kernel_rfl, ah Tryz.func134 FB⟩, ⟨⟨by kernel_rfl, ah Tryz.func135 FC⟩, ⟨trivial, ⟨trivial, ⟨⟨by kernel_rfl, ah Tryz.func191 HT⟩, ⟨⟨by kernel_rfl, ah Tryz.func25 A4⟩, ⟨trivial, ⟨trivial, ⟨⟨by kernel_rfl, ah Tryz.func190 FD⟩, ⟨⟨by kernel_rfl, ah Tryz.func68 pV⟩, ⟨⟨by kernel_rfl, ah Tryz.func199 tJ⟩, ⟨trivial, ⟨trivial, ⟨trivial, ⟨⟨by kernel_rfl, ah Tryz.func39 MX⟩, ⟨trivial, ⟨⟨by kernel_rfl, ah Tryz.func241 FE⟩, ⟨⟨by kernel_rfl, ah Tryz.func46 HU⟩, ⟨trivial, ⟨⟨by kernel_rfl, ah Tryz.func82 Dp⟩, ⟨⟨by kernel_rfl, ah Tryz.func130 HV⟩, ⟨trivial, ⟨trivial, ⟨trivial, ⟨trivial, ⟨trivial, ⟨trivial, ⟨trivial, ⟨trivial, ⟨trivial, ⟨trivial, ⟨trivial, ⟨trivial, ⟨⟨by kernel_rfl, ah Tryz.func36 Dq⟩, ⟨trivial, ⟨⟨by kernel_rfl, ah Tryz.func19 Dr⟩, ⟨trivial, ⟨trivial, ⟨trivial, ⟨trivial, ⟨trivial, ⟨trivial, ⟨⟨by kernel_rfl, ah Tryz.func51 FF⟩, ⟨trivial, ⟨trivial, ⟨trivial, ⟨trivial, ⟨trivial, ⟨⟨by kernel_rfl, ah Tryz.func64 Dt⟩, ⟨trivial, ⟨trivial, ⟨trivial, ⟨⟨by kernel_rfl, ah Tryz.func88 FH⟩, ⟨⟨by kernel_rfl, ah Tryz.func116 HW⟩, ⟨trivial, ⟨⟨by kernel_rfl, ah Tryz.func89 FI⟩, ⟨trivial, ⟨⟨by kernel_rfl, ah Tryz.func92 HX⟩, ⟨⟨by kernel_rfl, ah Tryz.func152 Du⟩, ⟨⟨by kernel_rfl, ah Tryz.func69 HY⟩, ⟨⟨by kernel_rfl, ah Tryz.func153 HZ⟩, ⟨trivial, ⟨⟨by kernel_rfl, ah Tryz.func198 Dv⟩, ⟨trivial, ⟨trivial, ⟨trivial, ⟨trivial, ⟨trivial, ⟨trivial, ⟨trivial, ⟨trivial, ⟨trivial, ⟨trivial, ⟨trivial, ⟨trivial, ⟨trivial, ⟨trivial, ⟨trivial, ⟨trivial, ⟨trivial, ⟨trivial, ⟨trivial, ⟨trivial, ⟨trivial, ⟨trivial, ⟨trivial, ⟨trivial, ⟨trivial, ⟨trivial, ⟨trivial, ⟨trivial, ⟨trivial, ⟨trivial, ⟨trivial, ⟨trivial, ⟨trivial, ⟨trivial, ⟨⟨by kernel_rfl, ah Tryz.func34 FJ⟩, ⟨⟨by kernel_rfl, ah Tryz.func144 Dw⟩, ⟨trivial, ⟨trivial, ⟨trivial, ⟨⟨by kernel_rfl, ah Tryz.func63 FK⟩, ⟨⟨by kernel_rfl, ah Tryz.func65 sY⟩, ⟨⟨by kernel_rfl, ah Tryz.func66 vO⟩, ⟨trivial, ⟨⟨by kernel_rfl, ah Tryz.func29 H3⟩, ⟨trivial, ⟨trivial, ⟨trivial, ⟨⟨by kernel_rfl, ah Tryz.func67 H4⟩, ⟨⟨by kernel_rfl, ah Tryz.func105 kF⟩, ⟨⟨by kernel_rfl, ah Tryz.func106 CN⟩, ⟨⟨by kernel_rfl, ah Tryz.func107 CO⟩, ⟨⟨by kernel_rfl, ah Tryz.func108 xu⟩, ⟨trivial, ⟨⟨by kernel_rfl, ah Tryz.func109 H5⟩, ⟨⟨by kernel_rfl, ah Tryz.func141 lr⟩, ⟨trivial, ⟨⟨by kernel_rfl, ah Tryz.func143 zL⟩, ⟨⟨by kernel_rfl, ah Tryz.func145 FL⟩, ⟨trivial, ⟨trivial, ⟨trivial, ⟨trivial, ⟨trivial, ⟨trivial, ⟨trivial, ⟨trivial, ⟨⟨by kernel_rfl, ah Tryz.func72 Dx⟩, ⟨trivial, ⟨trivial, ⟨trivial, ⟨⟨by kernel_rfl, ah Tryz.func267 Dy⟩, ⟨trivial, ⟨⟨by kernel_rfl, ah Tryz.func208 H6⟩, ⟨⟨by kernel_rfl, ah Tryz.func263 CP⟩, ⟨trivial, ⟨trivial, ⟨⟨by kernel_rfl, ah Tryz.func58 H7⟩, ⟨trivial, ⟨⟨by kernel_rfl, ah Tryz.func110 A5⟩, ⟨⟨by kernel_rfl, ah Tryz.func111 A6⟩, ⟨⟨by kernel_rfl, ah Tryz.func112 H8⟩, ⟨⟨by kernel_rfl, ah Tryz.func300 CQ⟩, ⟨⟨by kernel_rfl, ah Tryz.func264 tK⟩, ⟨⟨by kernel_rfl, ah Tryz.func257 Dz⟩, ⟨⟨by kernel_rfl, ah Tryz.func70 tM⟩, ⟨⟨by kernel_rfl, ah Tryz.func299 zM⟩, ⟨trivial, ⟨trivial, ⟨⟨by kernel_rfl, ah Tryz.func146 zN⟩, ⟨⟨by kernel_rfl, ah Tryz.func147 yP⟩, ⟨⟨by kernel_rfl, ah Tryz.func314 zO⟩, ⟨⟨by kernel_rfl, ah Tryz.func195 Kg⟩, ⟨⟨by kernel_rfl, ah Tryz.func253 Kh⟩, ⟨⟨by kernel_rfl, ah Tryz.func296 Ki⟩, ⟨⟨by kernel_rfl, ah Tryz.func297 H9⟩, ⟨trivial, ⟨trivial, ⟨trivial, ⟨trivial, ⟨⟨by kernel_rfl, ah Tryz.func53 FM⟩, ⟨trivial, ⟨trivial, ⟨⟨by kernel_rfl, ah Tryz.func98 Ia⟩, ⟨⟨by kernel_rfl, ah Tryz.func40 Ib⟩, ⟨trivial, ⟨trivial, ⟨trivial, ⟨trivial, ⟨trivial, ⟨trivial, ⟨⟨by kernel_rfl, ah Tryz.func155 FN⟩, ⟨⟨by kernel_rfl, ah Tryz.func30 Ic⟩, ⟨trivial, ⟨trivial, ⟨trivial, ⟨trivial, ⟨trivial, ⟨trivial, ⟨trivial, ⟨trivial, ⟨trivial, ⟨⟨by kernel_rfl, ah Tryz.func139 vk⟩, ⟨trivial, ⟨trivial, ⟨trivial, ⟨trivial, ⟨trivial, ⟨trivial, ⟨trivial, ⟨trivial, ⟨trivial, ⟨trivial, ⟨trivial, ⟨trivial, ⟨trivial, ⟨trivial, ⟨trivial, ⟨⟨by kernel_rfl, ah Tryz.func213 FO⟩, ⟨trivial, ⟨trivial, ⟨⟨by kernel_rfl, ah Tryz.func102 xv⟩, ⟨⟨by kernel_rfl, ah Tryz.func103 s5⟩, ⟨⟨by kernel_rfl, ah Tryz.func71 DA⟩, ⟨⟨by kernel_rfl, ah Tryz.func265 rR⟩, ⟨⟨by kernel_rfl, ah Tryz.func227 gy⟩, ⟨⟨by kernel_rfl, ah Tryz.func266 CR⟩, ⟨trivial, ⟨⟨by kernel_rfl, ah Tryz.func140 qX⟩, ⟨⟨by kernel_rfl, ah Tryz.func277 zP⟩, ⟨⟨by kernel_rfl, ah Tryz.func281 iq⟩, ⟨⟨by kernel_rfl, ah Tryz.func295 CS⟩, ⟨trivial, ⟨trivial, ⟨trivial, ⟨trivial, ⟨trivial, ⟨trivial, ⟨trivial, ⟨⟨by kernel_rfl, ah Tryz.func41 FP⟩, ⟨trivial, ⟨trivial, ⟨trivial, ⟨⟨by kernel_rfl, ah Tryz.func164 Kj⟩, ⟨⟨by kernel_rfl, ah Tryz.func211 DB⟩, ⟨trivial, ⟨trivial, ⟨⟨by kernel_rfl, ah Tryz.func28 Ie⟩, ⟨trivial, ⟨trivial, ⟨⟨by kernel_rfl, ah Tryz.func115 FQ⟩, ⟨trivial, ⟨⟨by kernel_rfl, ah Tryz.func206 FR⟩, ⟨⟨by kernel_rfl, ah Tryz.func207 FT⟩, ⟨⟨by kernel_rfl, ah Tryz.func262 A7⟩, ⟨trivial, ⟨trivial, ⟨trivial, ⟨trivial, ⟨trivial, ⟨trivial, ⟨trivial, ⟨trivial, ⟨trivial, ⟨trivial, ⟨trivial, ⟨trivial, ⟨trivial, ⟨trivial, ⟨⟨by kernel_rfl, ah Tryz.func115 A8⟩, ⟨trivial, ⟨trivial, ⟨trivial, ⟨trivial, ⟨trivial, ⟨trivial, ⟨trivial, ⟨trivial, ⟨trivial, ⟨trivial, ⟨⟨by kernel_rfl, ah Tryz.func218 FU⟩, ⟨trivial, ⟨trivial, ⟨trivial, ⟨trivial, ⟨trivial, ⟨trivial, ⟨trivial, ⟨⟨by kernel_rfl, ah Tryz.func22 A9⟩, ⟨trivial, ⟨trivial, ⟨⟨by kernel_rfl, ah Tryz.func74 mj⟩, ⟨⟨by kernel_rfl, ah Tryz.func75 mR⟩, ⟨trivial, ⟨trivial, ⟨trivial, ⟨trivial, ⟨trivial, ⟨trivial, ⟨⟨by kernel_rfl, ah Tryz.func15 xw⟩, ⟨⟨by kernel_rfl, ah Tryz.func33 FV⟩, ⟨⟨by kernel_rfl, ah Tryz.func48 FW⟩, ⟨trivial, ⟨⟨by kernel_rfl, ah Tryz.func156 FX⟩, ⟨⟨by kernel_rfl, ah Tryz.func73 Ig⟩, ⟨⟨by kernel_rfl, ah Tryz.func157 Ih⟩, ⟨trivial, ⟨trivial, ⟨trivial, ⟨trivial, ⟨trivial, ⟨⟨by kernel_rfl, ah Tryz.func59 zQ⟩, ⟨⟨by kernel_rfl, ah Tryz.func60 CT⟩, ⟨⟨by kernel_rfl, ah Tryz.func61 DC⟩, ⟨⟨by kernel_rfl, ah Tryz.func62 DD⟩, ⟨⟨by kernel_rfl, ah Tryz.func83 FY⟩, ⟨⟨by kernel_rfl, ah Tryz.func84 Ba⟩, ⟨⟨by kernel_rfl, ah Tryz.func85 Ii⟩, ⟨⟨by kernel_rfl, ah Tryz.func21 Ij⟩, ⟨⟨by kernel_rfl, ah Tryz.func200 CU⟩, ⟨⟨by kernel_rfl, ah Tryz.func197 DE⟩, ⟨⟨by kernel_rfl, ah Tryz.func113 FZ⟩, ⟨⟨by kernel_rfl, ah Tryz.func114 Ik⟩, ⟨trivial, ⟨trivial, ⟨trivial, ⟨trivial, ⟨trivial, ⟨trivial, ⟨trivial, ⟨⟨by kernel_rfl, ah Tryz.func100 xx⟩, ⟨⟨by kernel_rfl, ah Tryz.func101 iz⟩, ⟨⟨by kernel_rfl, ah Tryz.func104 lu⟩, ⟨⟨by kernel_rfl, ah Tryz.func148 CV⟩, ⟨⟨by kernel_rfl, ah Tryz.func149 jN⟩, ⟨⟨by kernel_rfl, ah Tryz.func150 CW⟩, ⟨⟨by kernel_rfl, ah Tryz.func151 CY⟩, ⟨trivial, ⟨trivial, ⟨trivial, ⟨⟨by kernel_rfl, ah Tryz.func137 jc⟩, ⟨⟨by kernel_rfl, ah Tryz.func196 kh⟩, ⟨⟨by kernel_rfl, ah Tryz.func62 zR⟩, ⟨trivial, ⟨⟨by kernel_rfl, ah Tryz.func62 zS⟩, ⟨trivial, ⟨trivial, ⟨trivial, ⟨trivial, ⟨trivial, ⟨trivial, ⟨trivial, ⟨trivial, ⟨trivial, ⟨trivial, ⟨⟨by kernel_rfl, ah Tryz.func55 F3⟩, ⟨⟨by kernel_rfl, ah Tryz.func27 yQ⟩, ⟨⟨by kernel_rfl, ah Tryz.func42 Il⟩, ⟨⟨by kernel_rfl, ah Tryz.func205 yR⟩, ⟨trivial, ⟨⟨by kernel_rfl, ah Tryz.func160 Kk⟩, ⟨trivial, ⟨⟨by kernel_rfl, ah Tryz.func158 Im⟩, ⟨trivial, ⟨⟨by kernel_rfl, ah Tryz.func57 Io⟩, ⟨⟨by kernel_rfl, ah Tryz.func159 Kl⟩, ⟨⟨by kernel_rfl, ah Tryz.func201 Ip⟩, ⟨trivial, ⟨trivial, ⟨⟨by kernel_rfl, ah Tryz.func255 vP⟩, ⟨⟨by kernel_rfl, ah Tryz.func256 vQ⟩, ⟨⟨by kernel_rfl, ah Tryz.func95 Iq⟩, ⟨⟨by kernel_rfl, ah Tryz.func202 Km⟩, ⟨⟨by kernel_rfl, ah Tryz.func203 DF⟩, ⟨⟨by kernel_rfl, ah Tryz.func204 rS⟩, ⟨trivial, ⟨⟨by kernel_rfl, ah Tryz.func254 pW⟩, ⟨trivial, ⟨trivial, ⟨trivial, ⟨trivial, ⟨trivial, ⟨trivial, ⟨trivial, ⟨trivial, ⟨trivial, ⟨trivial, ⟨trivial, ⟨trivial, ⟨trivial, ⟨trivial, ⟨trivial, ⟨trivial, ⟨trivial, ⟨trivial, ⟨trivial, ⟨trivial, ⟨⟨by kernel_rfl, ah Tryz.func35 Ir⟩, ⟨trivial, ⟨trivial, ⟨trivial, ⟨trivial, ⟨trivial, ⟨trivial, ⟨trivial, ⟨trivial, ⟨trivial, ⟨trivial, ⟨trivial, ⟨⟨by kernel_rfl, ah Tryz.func50 F4⟩, ⟨trivial, ⟨trivial, ⟨trivial, ⟨trivial, ⟨trivial, ⟨trivial, ⟨trivial, ⟨trivial, ⟨trivial, ⟨trivial, ⟨trivial, ⟨trivial, ⟨trivial, ⟨trivial, ⟨trivial, ⟨trivial, ⟨trivial, ⟨trivial, ⟨trivial, ⟨trivial, ⟨trivial, ⟨trivial, ⟨trivial, ⟨trivial, ⟨trivial, ⟨trivial, ⟨trivial, ⟨trivial, ⟨trivial, ⟨trivial, ⟨trivial, ⟨trivial, ⟨trivial, ⟨trivial, ⟨trivial, ⟨trivial, ⟨trivial, ⟨trivial, ⟨trivial, ⟨trivial, ⟨trivial, ⟨trivial, ⟨trivial, ⟨trivial, ⟨trivial, ⟨trivial, ⟨trivial, ⟨trivial, ⟨trivial, ⟨trivial, ⟨trivial, ⟨trivial, ⟨trivial, ⟨trivial, ⟨trivial, ⟨trivial, ⟨trivial, ⟨trivial, ⟨trivial, ⟨⟨by kernel_rfl, ah Tryz.func3 yS⟩, ⟨⟨by kernel_rfl, ah Tryz.func5 F5⟩, ⟨⟨by kernel_rfl, ah Tryz.func7 zT⟩, ⟨⟨by kernel_rfl, ah Tryz.func8 F6⟩, ⟨⟨by kernel_rfl, ah Tryz.func9 Is⟩, ⟨⟨by kernel_rfl, ah Tryz.func12 It⟩, ⟨⟨by kernel_rfl, ah Tryz.func13 MY⟩, ⟨⟨by kernel_rfl, ah Tryz.func20 F7⟩, ⟨⟨by kernel_rfl, ah Tryz.func23 zU⟩, ⟨⟨by kernel_rfl, ah Tryz.func24 yT⟩, ⟨⟨by kernel_rfl, ah Tryz.func26 xy⟩, ⟨⟨by kernel_rfl, ah Tryz.func31 Iu⟩, ⟨⟨by kernel_rfl, ah Tryz.func32 CZ⟩, ⟨⟨by kernel_rfl, ah Tryz.func38 DG⟩, ⟨⟨by kernel_rfl, ah Tryz.func43 F8⟩, ⟨⟨by kernel_rfl, ah Tryz.func44 Kn⟩, ⟨⟨by kernel_rfl, ah Tryz.func56 Iv⟩, ⟨⟨by kernel_rfl, ah Tryz.func76 mS⟩, ⟨⟨by kernel_rfl, ah Tryz.func77 DH⟩, ⟨⟨by kernel_rfl, ah Tryz.func78 C0⟩, ⟨⟨by kernel_rfl, ah Tryz.func79 mm⟩, ⟨⟨by kernel_rfl, ah Tryz.func80 Iw⟩, ⟨⟨by kernel_rfl, ah Tryz.func81 Ko⟩, ⟨⟨by kernel_rfl, ah Tryz.func93 DI⟩, ⟨⟨by kernel_rfl, ah Tryz.func94 C1⟩, ⟨⟨by kernel_rfl, ah Tryz.func99 Ix⟩, ⟨⟨by kernel_rfl, ah Tryz.func117 Bb⟩, ⟨⟨by kernel_rfl, ah Tryz.func118 Bc⟩, ⟨⟨by kernel_rfl, ah Tryz.func119 Bd⟩, ⟨⟨by kernel_rfl, ah Tryz.func120 Be⟩, ⟨⟨by kernel_rfl, ah Tryz.func121 Bf⟩, ⟨⟨by kernel_rfl, ah Tryz.func122 Bg⟩, ⟨⟨by kernel_rfl, ah Tryz.func123 zV⟩, ⟨⟨by kernel_rfl, ah Tryz.func124 C2⟩, ⟨⟨by kernel_rfl, ah Tryz.func125 zW⟩, ⟨⟨by kernel_rfl, ah Tryz.func126 zX⟩, ⟨⟨by kernel_rfl, ah Tryz.func127 Bh⟩, ⟨⟨by kernel_rfl, ah Tryz.func128 Bi⟩, ⟨⟨by kernel_rfl, ah Tryz.func129 Bj⟩, ⟨⟨by kernel_rfl, ah Tryz.func161 DJ⟩, ⟨⟨by kernel_rfl, ah Tryz.func162 Bk⟩, ⟨⟨by kernel_rfl, ah Tryz.func163 yU⟩, ⟨⟨by kernel_rfl, ah Tryz.func165 zY⟩, ⟨⟨by kernel_rfl, ah Tryz.func166 Bl⟩, ⟨⟨by kernel_rfl, ah Tryz.func169 yV⟩, ⟨⟨by kernel_rfl, ah Tryz.func170 yW⟩, ⟨⟨by kernel_rfl, ah Tryz.func209 vR⟩, ⟨⟨by kernel_rfl, ah Tryz.func210 yX⟩, ⟨⟨by kernel_rfl, ah Tryz.func212 zZ⟩, ⟨⟨by kernel_rfl, ah Tryz.func258 jO⟩, ⟨⟨by kernel_rfl, ah Tryz.func259 tN⟩, ⟨⟨by kernel_rfl, ah Tryz.func260 tO⟩, ⟨⟨by kernel_rfl, ah Tryz.func261 xz⟩, ⟨⟨by kernel_rfl, ah Tryz.func298 kj⟩, trivial⟩⟩⟩⟩⟩⟩⟩⟩⟩⟩⟩⟩⟩⟩⟩⟩⟩⟩⟩⟩⟩⟩⟩⟩⟩⟩⟩⟩⟩⟩⟩⟩⟩⟩⟩⟩⟩⟩⟩⟩⟩⟩⟩⟩⟩⟩⟩⟩⟩⟩⟩⟩⟩⟩⟩⟩⟩⟩⟩⟩⟩⟩⟩⟩⟩⟩⟩⟩⟩⟩⟩⟩⟩⟩⟩⟩⟩⟩⟩⟩⟩⟩⟩⟩⟩⟩⟩⟩⟩⟩⟩⟩⟩⟩⟩⟩⟩⟩⟩⟩⟩⟩⟩⟩⟩⟩⟩⟩⟩⟩⟩⟩⟩⟩⟩⟩⟩⟩⟩⟩⟩⟩⟩⟩⟩⟩⟩⟩⟩⟩⟩⟩⟩⟩⟩⟩⟩⟩⟩⟩⟩⟩⟩⟩⟩⟩⟩⟩⟩⟩⟩⟩⟩⟩⟩⟩⟩⟩⟩⟩⟩⟩⟩⟩⟩⟩⟩⟩⟩⟩⟩⟩⟩⟩⟩⟩⟩⟩⟩⟩⟩⟩⟩⟩⟩⟩⟩⟩⟩⟩⟩⟩⟩⟩⟩⟩⟩⟩⟩⟩⟩⟩⟩⟩⟩⟩⟩⟩⟩⟩⟩⟩⟩⟩⟩⟩⟩⟩⟩⟩⟩⟩⟩⟩⟩⟩⟩⟩⟩⟩⟩⟩⟩⟩⟩⟩⟩⟩⟩⟩⟩⟩⟩⟩⟩⟩⟩⟩⟩⟩⟩⟩⟩⟩⟩⟩⟩⟩⟩⟩⟩⟩⟩⟩⟩⟩⟩⟩⟩⟩⟩⟩⟩⟩⟩⟩⟩⟩⟩⟩⟩⟩⟩⟩⟩⟩⟩⟩⟩⟩⟩⟩⟩⟩⟩⟩⟩⟩⟩⟩⟩⟩⟩⟩⟩⟩⟩⟩⟩⟩⟩⟩⟩⟩⟩⟩⟩⟩⟩⟩⟩⟩⟩⟩⟩⟩⟩⟩⟩⟩⟩⟩⟩⟩⟩⟩⟩⟩⟩⟩⟩⟩⟩⟩⟩⟩⟩⟩⟩⟩⟩⟩⟩⟩⟩⟩⟩⟩⟩⟩⟩⟩⟩⟩⟩⟩⟩⟩⟩⟩⟩⟩⟩⟩⟩⟩⟩⟩⟩⟩⟩⟩⟩⟩⟩⟩⟩⟩⟩⟩⟩⟩⟩⟩⟩⟩⟩⟩⟩⟩⟩⟩⟩⟩⟩⟩⟩⟩⟩⟩⟩⟩⟩⟩⟩⟩⟩⟩⟩⟩⟩⟩⟩⟩⟩⟩⟩⟩⟩⟩⟩⟩⟩⟩⟩⟩⟩⟩⟩⟩⟩⟩⟩⟩⟩⟩⟩⟩⟩⟩⟩⟩⟩⟩⟩⟩⟩⟩⟩⟩⟩⟩⟩⟩⟩⟩⟩⟩⟩⟩⟩⟩⟩⟩⟩⟩⟩⟩⟩⟩⟩⟩⟩⟩⟩⟩⟩⟩⟩⟩⟩⟩⟩⟩⟩⟩⟩⟩⟩⟩⟩⟩⟩⟩⟩⟩⟩⟩⟩⟩⟩⟩⟩⟩⟩⟩⟩⟩⟩⟩⟩⟩⟩⟩⟩⟩⟩⟩⟩⟩⟩⟩⟩⟩⟩⟩⟩⟩⟩⟩⟩⟩⟩⟩⟩⟩⟩⟩⟩⟩⟩⟩⟩⟩⟩⟩⟩⟩⟩⟩⟩⟩
section
open Go.RowKit Go.Shelf Go.Proofs
/- the inner function of slices.Chunk at this program -/
def ak7 : Value → Int | .int _ q => q | _ => 0
set_option maxRecDepth 100000 in
set_option maxHeartbeats 2000000 in
theorem SN : Bx Tryz.prog 254 := by
 refine ⟨Go.Proofs.enters_of Tryz.func254 (by kernel_rfl) rfl, ?_⟩
 intro n l Bs Bn m J hn hm hD hc hY W h0
 refine callsIn_of_wp Tryz.func254 rfl trivial ?_ rfl
 simp only [Tryz.ntmps254, List.size_toArray, List.length_cons, List.length_nil, Nat.reduceAdd, Nat.reduceSub, Array.replicate_succ, Array.replicate_zero, List.push_toArray, List.append_toArray, List.nil_append, List.cons_append]
 have hD' : ∀ k W, J k W → J k W.drew := hD
 gi_wp2
 gi_loopw [4] (fun i wr => ∃ k : Nat, k ≤ m ∧ i = .int .i64 (2 * k) ∧ J k wr)
  (fun i _ => 2 * m - (ak7 i).toNat)
 case atStart => exact ⟨0, Nat.zero_le _, rfl, h0⟩
 case round =>
  obtain ⟨k, hk, rfl, hJs⟩ := hrel
  obtain ⟨cn, a, cap, cs, ha⟩ := hc _ _ hJs
  by_cases hlt : k < m
  · obtain ⟨hcap, b, off, rfl⟩ := ha (by omega)
    obtain ⟨fn, tmps, assign, body, hy, hR⟩ := hY k _ b off cap hlt (hD' _ _ hJs) cs
    have hcn : ∀ W, J (k + 1) W → W.cell? ⟨Bn, 0, none⟩ = some (.int .i64 2) := fun W h => (hc _ _ h).1
    clear hY hc ha hD hD'
    gi_wp2
    have hmin : min (2 : Int) ((2 * m - 2 * k : Nat) : Int) = 2 := by omega
    try simp only [hmin]
    gi_region
    gi_wp2
    refine hR.mono ?_
    rintro e W3 ⟨rfl, hJ3⟩
    have cn3 := hcn _ hJ3
    clear hcn
    gi_wp2
    go_roundw
    case rel => exact ⟨k + 1, by omega, by simp; omega, hJ3⟩
    case measure => simp [ak7]; omega
  · obtain rfl : k = m := by omega
    clear hY
    gi_wp2
    go_end0
    exact ⟨⟨_, rfl⟩, hJs⟩
end
theorem aek : ∀ f j, Names.ρ f = some j → Names.it f = true → Bx Tryz.prog j := fun f j hj h => by
 have e : f = 415 := eq_of_beq h
 subst e
 have e : (Names.ρ 415 : Option Nat) = some 254 := by kernel_rfl
 rw [e] at hj; cases hj; exact SN
def Yj : List (Nat × List Nat) := [(241, [1]), (260, [2, N.aW]), (530, [6, N.eh, N.ei, N.eo, N.et, N.eu, N.ew, N.dI, N.fB, N.dJ, N.dK, N.ez, N.eB, N.eC])]
def Iy : Go.Shelf.Ren := ⟨fun | 189 => 139 | 125 => 194 | 257 => 193 | 128 => 251 | 129 => 252 | 294 => 242 | 295 => 243 | 296 => 244 | 297 => 245 | 298 => 246 | 299 => 247 | 216 => 248 | 300 => 249 | 301 => 250 | 328 => 290 | 329 => 291 | 330 => 292 | 331 => 293 | 332 => 294 | 215 => 295 | 343 => 313 | n => n, fun | 28 => 22 | 3 => 3 | 46 => 175 | 0 => 0 | 51 => 194 | 53 => 197 | 4 => 4 | 183 => 306 | 182 => 305 | 131 => 279 | 5 => 5 | 9 => 9 | 218 => 336 | 222 => 253 | 228 => 354 | 229 => 186 | n => n, fun | n => n⟩
theorem Lv : Go.Proofs.Lays.n189 Tryz.prog Iy := {
 mixed := by kernel_rfl,
 f125 := Tryz.func194.trans (congrArg some (by kernel_rfl)),
 f128 := Tryz.func251.trans (congrArg some (by kernel_rfl)),
 f129 := Tryz.func252.trans (congrArg some (by kernel_rfl)),
 f189 := Tryz.func139.trans (congrArg some (by kernel_rfl)),
 f215 := Tryz.func295.trans (congrArg some (by kernel_rfl)),
 f216 := Tryz.func248.trans (congrArg some (by kernel_rfl)),
 f257 := Tryz.func193.trans (congrArg some (by kernel_rfl)),
 f294 := Tryz.func242.trans (congrArg some (by kernel_rfl)),
 f295 := Tryz.func243.trans (congrArg some (by kernel_rfl)),
 f296 := Tryz.func244.trans (congrArg some (by kernel_rfl)),
 f297 := Tryz.func245.trans (congrArg some (by kernel_rfl)),
 f298 := Tryz.func246.trans (congrArg some (by kernel_rfl)),
 f299 := Tryz.func247.trans (congrArg some (by kernel_rfl)),
 f300 := Tryz.func249.trans (congrArg some (by kernel_rfl)),
 f301 := Tryz.func250.trans (congrArg some (by kernel_rfl)),
 f328 := Tryz.func290.trans (congrArg some (by kernel_rfl)),
 f329 := Tryz.func291.trans (congrArg some (by kernel_rfl)),
 f330 := Tryz.func292.trans (congrArg some (by kernel_rfl)),
 f331 := Tryz.func293.trans (congrArg some (by kernel_rfl)),
 f332 := Tryz.func294.trans (congrArg some (by kernel_rfl)),
 f343 := Tryz.func313.trans (congrArg some (by kernel_rfl)),
 t0 := Tryz.underlying0,
 a0 := Tryz.isAgg0,
 z0 := Tryz.sizeOf0,
 v0 := Tryz.zeroValue0,
 t3 := Tryz.underlying3,
 a3 := Tryz.isAgg3,
 z3 := Tryz.sizeOf3,
 v3 := Tryz.zeroValue3,
 t4 := Tryz.underlying4,
 a4 := Tryz.isAgg4,
 z4 := Tryz.sizeOf4,
 v4 := Tryz.zeroValue4,
 t5 := Tryz.underlying5,
 a5 := Tryz.isAgg5,
 z5 := Tryz.sizeOf5,
 v5 := Tryz.zeroValue5,
 t9 := Tryz.underlying9,
 a9 := Tryz.isAgg9,
 z9 := Tryz.sizeOf9,
 v9 := Tryz.zeroValue9,
 t28 := Tryz.underlying22,
 a28 := Tryz.isAgg22,
 z28 := Tryz.sizeOf22,
 v28 := Tryz.zeroValue22,
 t46 := Tryz.underlying175,
 a46 := Tryz.isAgg175,
 z46 := Tryz.sizeOf175,
 v46 := Tryz.zeroValue175,
 t51 := Tryz.underlying194,
 a51 := Tryz.isAgg194,
 z51 := Tryz.sizeOf194,
 v51 := Tryz.zeroValue194,
 t53 := Tryz.underlying197,
 a53 := Tryz.isAgg197,
 z53 := Tryz.sizeOf197,
 v53 := Tryz.zeroValue197,
 t131 := Tryz.underlying279,
 a131 := Tryz.isAgg279,
 z131 := Tryz.sizeOf279,
 v131 := Tryz.zeroValue279,
 t182 := Tryz.underlying305,
 a182 := Tryz.isAgg305,
 z182 := Tryz.sizeOf305,
 v182 := Tryz.zeroValue305,
 t183 := Tryz.underlying306,
 a183 := Tryz.isAgg306,
 z183 := Tryz.sizeOf306,
 v183 := Tryz.zeroValue306,
 t218 := Tryz.underlying336,
 a218 := Tryz.isAgg336,
 z218 := Tryz.sizeOf336,
 v218 := Tryz.zeroValue336,
 t222 := Tryz.underlying253,
 a222 := Tryz.isAgg253,
 z222 := Tryz.sizeOf253,
 v222 := Tryz.zeroValue253,
 t228 := Tryz.underlying354,
 a228 := Tryz.isAgg354,
 z228 := Tryz.sizeOf354,
 v228 := Tryz.zeroValue354,
 t229 := Tryz.underlying186,
 a229 := Tryz.isAgg186,
 z229 := Tryz.sizeOf186,
 v229 := Tryz.zeroValue186 }
theorem SO : ∀ j, Names.ρ 241 = some j → tW Tryz.prog j [1] := fun j hj => by
 have e : (Names.ρ 241 : Option Nat) = some 139 := by kernel_rfl
 rw [e] at hj; cases hj; exact PZ Lv
def DK : Go.Shelf.Ren := ⟨fun | 6 => 102 | 8 => 138 | 9 => 139 | 11 => 192 | 13 => 194 | 12 => 193 | 23 => 251 | 24 => 252 | 14 => 242 | 15 => 243 | 16 => 244 | 17 => 245 | 18 => 246 | 19 => 247 | 20 => 248 | 21 => 249 | 22 => 250 | 25 => 290 | 26 => 291 | 27 => 292 | 28 => 293 | 29 => 294 | 30 => 295 | 31 => 313 | n => n, fun | 26 => 3 | 28 => 171 | 24 => 22 | 0 => 0 | 3 => 3 | 37 => 175 | 48 => 194 | 50 => 197 | 4 => 4 | 40 => 306 | 39 => 305 | 45 => 279 | 5 => 5 | 9 => 9 | 51 => 336 | 55 => 253 | 57 => 354 | 58 => 186 | 33 => 93 | n => n, fun | n => n⟩
theorem MZ : Go.Proofs.SlLaysZI.n6 Tryz.prog DK := {
 f6 := ⟨"slices.Sorted[int]", by kernel_rfl, Tryz.func102.trans (congrArg some (by kernel_rfl))⟩,
 f8 := ⟨"slices.Collect[int]", by kernel_rfl, Tryz.func138.trans (congrArg some (by kernel_rfl))⟩,
 f11 := ⟨"slices.AppendSeq[[]int,int]", by kernel_rfl, Tryz.func192.trans (congrArg some (by kernel_rfl))⟩,
 mixed := by kernel_rfl,
 t0 := Tryz.underlying0,
 a0 := Tryz.isAgg0,
 z0 := Tryz.sizeOf0,
 v0 := Tryz.zeroValue0,
 t24 := Tryz.underlying22,
 a24 := Tryz.isAgg22,
 z24 := Tryz.sizeOf22,
 v24 := Tryz.zeroValue22,
 t26 := Tryz.underlying3,
 a26 := Tryz.isAgg3,
 z26 := Tryz.sizeOf3,
 v26 := Tryz.zeroValue3,
 t28 := Tryz.underlying171,
 a28 := Tryz.isAgg171,
 z28 := Tryz.sizeOf171,
 v28 := Tryz.zeroValue171,
 i26 := by kernel_rfl }
section
open Go.RowKit Go.Shelf Go.Maps Go.Sort Go.Proofs
/- the iterator of slices.Values at this program -/
set_option maxRecDepth 100000 in
set_option maxHeartbeats 2000000 in
theorem ajN (n l Bs : Nat) (hn : 1 ≤ n) (W0 : World) (b off len cap : Nat) (zs : List Int) (hlen : zs.length = len) (hreach : len * 8 ≤ 140737488351232) (hb : b < W0.heap.size) (J : List Int → World → Prop)
 (hJ : ∀ s W1, J s W1 → Below W0.heap.size W0 W1)
 (hY : ∀ pre x W1, J pre W1 → pre.length < zs.length → YieldAt Fence.wide (n - 1) Tryz.prog l #[encZ x] W1 fun e W' => e = .returned (.bool true) ∧ J (pre ++ [x]) W' ∧ KeepsWalks W1 W')
 (W : World) (hBs : W.cell? ⟨Bs, 0, none⟩ = some (.slice (some ⟨b, off, none⟩) len cap)) (hc : ∀ j, j < len → W0.cell? ⟨b, off + j, none⟩ = some (.int .i64 (zs[j]?.getD 0))) (h0 : J [] W) :
 CallsIn Fence.wide n Tryz.prog 140 #[.func (.yield l) #[] #[], .pointer (some ⟨Bs, 0, none⟩)] W fun e W' => (∃ v, e = .returned v) ∧ J zs W' := by
 have step : ∀ k, k < zs.length → zs.take k ++ [zs[k]?.getD 0] = zs.take (k + 1) := fun k hk => by
  rw [List.take_succ_eq_append_getElem hk]; simp [hk]
 refine callsIn_of_wp Tryz.func140 rfl trivial ?_ rfl
 simp only [Tryz.ntmps140, List.size_toArray, List.length_cons, List.length_nil, Nat.reduceAdd, Nat.reduceSub, Array.replicate_succ, Array.replicate_zero, List.push_toArray, List.append_toArray, List.nil_append, List.cons_append]
 gi_wp2
 gi_loopw [7] (fun i wr => ∃ k : Nat, k ≤ len ∧ i = .int .i64 k ∧ J (zs.take k) wr)
  (fun i _ => len - (intOf i).toNat)
 case atStart => exact ⟨0, Nat.zero_le _, rfl, h0⟩
 case round =>
  obtain ⟨k, hk, rfl, hJs⟩ := hrel
  by_cases hlt : k < len
  · have hcx : wr.cell? ⟨b, off + k, none⟩ = some (.int .i64 (zs[k]?.getD 0)) := ((hJ _ _ hJs).cell (p := ⟨b, off + k, none⟩) hb).trans (hc k hlt)
    have st := step k (by omega)
    generalize zs[k]?.getD 0 = x at hcx st
    obtain ⟨fn, tmps, assign, body, hy, hR⟩ := hY _ x wr hJs (by rw [List.length_take]; omega)
    clear step
    gi_wp2
    refine hR.mono ?_
    rintro e W3 ⟨rfl, hJ3, -⟩
    gi_wp2
    go_roundw
    case rel => exact ⟨k + 1, by omega, by simp, by rw [← st]; exact hJ3⟩
    case measure => simp [intOf]; omega
  · obtain rfl : k = len := by omega
    gi_wp2
    go_end0
    exact ⟨⟨_, rfl⟩, by rw [← hlen, List.take_length] at hJs; exact hJs⟩
set_option maxRecDepth 100000 in
set_option maxHeartbeats 1000000 in
theorem ajO (n l Bs : Nat) (p : Option Addr) (cap : Nat) (J : List Int → World → Prop) (W : World) (hBs : W.cell? ⟨Bs, 0, none⟩ = some (.slice p 0 cap)) (h0 : J [] W) :
 CallsIn Fence.wide n Tryz.prog 140 #[.func (.yield l) #[] #[], .pointer (some ⟨Bs, 0, none⟩)] W fun e W' => (∃ v, e = .returned v) ∧ J [] W' := by
 refine callsIn_of_wp Tryz.func140 rfl trivial ?_ rfl
 simp only [Tryz.ntmps140, List.size_toArray, List.length_cons, List.length_nil, Nat.reduceAdd, Nat.reduceSub, Array.replicate_succ, Array.replicate_zero, List.push_toArray, List.append_toArray, List.nil_append, List.cons_append]
 gi_wp2
 gi_loopw [7] (fun i wr => i = .int .i64 0 ∧ J [] wr) (fun _ _ => 0)
 case atStart => exact ⟨rfl, h0⟩
 case round =>
  obtain ⟨rfl, hJs⟩ := hrel
  gi_wp2
  go_end0
  exact ⟨⟨_, rfl⟩, hJs⟩
theorem Yk : P0 Tryz.prog 140 := by
 intro n Bs sv zs w hn hreach hBs hcell hI l J W hW hJ hY h0
 have hc' := (hW.cell (p := ⟨Bs, 0, none⟩) hBs).trans hcell
 rcases hI with ⟨p, cap, rfl, rfl⟩ | ⟨b, off, cap, rfl, hb, hcs⟩
 · exact ajO n l Bs p cap J W hc' h0
 · exact ajN n l Bs hn w b off zs.length cap zs rfl hreach hb J hJ hY W hc' hcs h0
end
theorem SP : ∀ j, Names.ρ 260 = some j → tW Tryz.prog j [2, N.aW] := fun j hj => by
 have e : (Names.ρ 260 : Option Nat) = some 102 := by kernel_rfl
 rw [e] at hj; cases hj; exact Kc MZ Lv (by kernel_rfl) (Go.Proofs.enters_of Tryz.func139 (by kernel_rfl) rfl) (by kernel_rfl) (Go.Proofs.enters_of Tryz.func140 (by kernel_rfl) rfl) Yk
section
open Go.RowKit Go.Maps Go.Proofs
theorem mmE (t : TypeId) (w : Go.World) : (Instr.makeMap t none).run Tryz.prog w = .ok (.map (some w.heap.size)) (w.alloc (.map (zH []) ([] : List Nat).length)) := rfl
theorem ajP (n j : Nat) (w : Go.World) (h : ([117, 118, 119, 120, 121, 122, 123, 124, 125, 126, 127, 128, 129] : List Nat)[n]? = some j) : Calls Tryz.prog 81 #[.int .i64 (n + 1)] w fun e w' => e = .returned (.func (.func j) #[] #[]) ∧ w' = w.alloc (.map (zH [117, 118, 119, 120, 121, 122, 123, 124, 125, 126, 127, 128, 129]) ([117, 118, 119, 120, 121, 122, 123, 124, 125, 126, 127, 128, 129] : List Nat).length) := by
 have hmm := mmE
 go_enter Tryz.func81, Tryz.ntmps81
 go_wp2_with (first
  | (at_lookup; refine MU w rfl _ _ 185 rfl 3 155 Tryz.underlying185 Tryz.underlying3 rfl [117, 118, 119, 120, 121, 122, 123, 124, 125, 126, 127, 128, 129] n j rfl h 13 ?_)
  | (refine MT w rfl _ _ _ 185 rfl 3 155 Tryz.underlying185 Tryz.underlying3 rfl _ _ rfl rfl ?_)
  | go_in)
 go_ret
 exact ⟨rfl, rfl⟩
end
theorem SQ : ∀ j, Names.ρ 530 = some j → tW Tryz.prog j [6, N.eh, N.ei, N.eo, N.et, N.eu, N.ew, N.dI, N.fB, N.dJ, N.dK, N.ez, N.eB, N.eC] := fun j hj => by
 have e : (Names.ρ 530 : Option Nat) = some 81 := by kernel_rfl
 rw [e] at hj; cases hj; exact MV (ids := [117, 118, 119, 120, 121, 122, 123, 124, 125, 126, 127, 128, 129]) (by kernel_rfl) ajP
theorem SR : ∀ x ∈ Yj, ∀ j, Names.ρ x.1 = some j → tW Tryz.prog j x.2 := by
 intro x hx
 simp only [Yj, List.mem_cons, List.not_mem_nil, or_false] at hx
 rcases hx with rfl | rfl | rfl
 · exact SO
 · exact SP
 · exact SQ
end Go.Proofs.YtjjghpgeifjojaaGreat
