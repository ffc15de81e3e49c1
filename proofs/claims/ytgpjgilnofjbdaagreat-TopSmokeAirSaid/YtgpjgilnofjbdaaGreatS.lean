/- MADE BY PROGRAM (lib.py): the numbers that the functions have in this program, and the check of each one. -/
import Derived.Test.YtgpjgilnofjbdaaGreatProg
import Derived.Maps.OwnOps
import Derived.WalkKit
import Derived.Test.YtgpjgilnofjbdaaGreatZPD
import Derived.KernelRfl
set_option linter.all false
set_option maxRecDepth 100000
namespace Go.Proofs.YtgpjgilnofjbdaaGreat
open Go.Ev
def real : List (Option Nat) := [none, none, none, none, none, none, none, none, none, none, none, none, none, none, none, none, none, none, none, none, none, none, none, none, none, none, none, none, some 7, none, none, none, none, none, none, none, none, none, none, none, none, none, none, none, none, none, none, some 201, none, some 34, none, some 129, none, some 130, some 20, none, none, none, none, none, none, none, none, none, none, none, some 65, some 200, some 202, some 131, some 203, some 28, none, none, none, some 204, none, none, none, none, none, none, none, none, none, none, some 189, some 190, some 191, none, some 33, none, none, none, none, none, none, none, none, none, some 310, none, none, some 253, some 261, some 27, none, none, none, none, some 90, some 135, none, none, none, some 145, some 66, some 146, some 206, some 216, none, none, none, none, none, none, none, none, some 138, none, none, none, none, none, none, none, some 208, none, none, none, none, none, none, none, none, some 262, some 263, some 264, some 314, none, none, none, none, none, some 9, some 104, none, none, none, some 26, some 29, some 30, none, none, none, none, none, some 56, some 57, some 58, some 59, some 60, none, some 46, some 101, none, some 103, some 92, none, none, none, none, none, none, none, none, some 69, none, none, some 303, some 298, none, none, none, some 309, none, none, none, some 110, some 111, some 112, some 330, some 133, none, some 67, none, none, none, some 160, some 161, some 340, some 223, some 285, some 319, some 327, none, none, none, none, none, none, none, none, some 36, some 184, some 185, none, none, some 187, none, some 165, none, none, none, none, none, none, none, none, some 247, some 248, some 158, none, some 307, some 307, none, none, none, none, none, none, none, none, none, none, none, none, some 238, none, none, some 107, some 108, some 68, some 296, some 250, some 297, none, some 159, none, some 308, none, none, none, none, none, none, none, none, some 37, none, none, none, none, none, none, none, none, none, none, some 115, some 242, none, none, none, none, none, none, some 300, some 301, some 302, some 331, some 332, some 333, some 342, some 346, some 347, none, none, some 115, none, none, none, none, none, none, none, some 188, none, none, some 243, none, none, none, some 249, some 251, some 252, none, none, none, none, some 71, some 72, none, none, none, none, none, none, none, some 31, none, none, some 166, some 70, none, none, none, none, none, none, some 61, some 62, some 63, some 64, none, none, none, none, none, some 224, some 113, some 114, none, none, none, none, none, none, none, some 105, some 106, some 109, some 162, some 136, some 163, some 164, none, none, none, some 156, some 207, some 64, none, none, none, none, none, none, none, none, none, none, none, none, none, none, some 38, none, none, none, none, none, none, none, none, none, none, none, none, none, none, none, none, none, none, none, none, none, none, none, none, none, none, none, none, none, none, none, none, none, none, none, none, none, none, none, some 32, none, some 142, none, none, none, none, none, none, none, none, none, none, none, none, none, none, none, none, none, none, none, none, none, none, none, none, none, none, none, none, none, none, none, none, none, none, none, none, none, none, none, none, none, none, none, none, none, none, none, none, none, none, none, none, none, none, none, none, none, none, none, none, none, none, none, none, none, none, none, none, none, none, none, none, none, none, some 10, none, none, none, none, none, none, none, some 35, some 39, none, none, some 73, some 74, some 75, some 76, some 77, none, none, none, none, some 116, some 117, some 118, some 119, some 120, some 121, none, none, none, none, some 126, some 127, some 128, none, none, none, some 175, none, none, none, none, none, none, none, none, none, none, none, none, some 4, none, none, none, none, some 11, some 12, none, none, none, none, none, none, none, none, some 40, some 41, none, none, some 78, some 79, some 80, some 81, some 82, some 83, some 84, some 85, some 86, some 87, some 88, some 89, some 122, some 123, some 124, some 125, some 132, some 134, some 137, some 139, some 140, some 141, some 143, some 144, some 183, some 186, some 205, some 209, none, none, none, none, none, none, none, none, none, none, none, none, none, none, none, none, none, none, none, none, none, none, none, none, some 3, some 5, some 6, some 8, some 13, some 14, some 15, some 16, some 17, some 18, some 19, some 21, some 22, some 23, some 24, some 25, some 42, some 43, some 44, some 45, some 47, some 48, some 49, some 50, some 51, some 52, some 53, some 54, some 55, some 91, some 93, some 94, some 95, some 96, some 97, some 98, some 99, some 100, some 147, some 148, some 149, some 150, some 151, some 152, some 153, some 154, some 155, some 217, some 218, some 219, some 273, some 321, some 338, some 345]
def tab : List (Option Go.Ev.Fn) := [none, none, none, none, none, none, none, none, none, none, none, none, none, none, none, none, none, none, none, none, none, none, none, none, none, none, none, none, some K.ji, none, none, none, none, none, none, none, none, none, none, none, none, none, none, none, none, none, none, some K.jj, none, some K.aA, none, some K.bn, none, some K.fk, some K.jD, none, none, none, none, none, none, none, none, none, none, none, some K.bN, some K.cO, some K.eQ, some K.aE, some K.dq, some K.bD, none, none, none, some K.aT, none, none, none, none, none, none, none, none, none, none, some K.nE, some K.jQ, some K.kS, none, some K.fC, none, none, none, none, none, none, none, none, none, some K.kT, none, none, some K.bT, some K.iJ, some K.bX, none, none, none, none, some K.gJ, some K.lR, none, none, none, some K.jR, some K.lS, some K.lT, some K.jS, some K.jT, none, none, none, none, none, none, none, none, some K.kU, none, none, none, none, none, none, none, some K.nF, none, none, none, none, none, none, none, none, some K.eB, some K.jU, some K.jV, some K.dM, none, none, none, none, none, some K.dI, some K.bP, none, none, none, some K.gS, some K.br, some K.cF, none, none, none, none, none, some K.cN, some K.ay, some K.cQ, some K.eC, some K.bC, none, some K.jF, some K.aN, none, some K.ct, some K.gT, none, none, none, none, none, none, none, none, some K.jW, none, none, some K.kW, some K.jX, none, none, none, some K.jY, none, none, none, some K.gB, some K.dW, some K.kr, some K.gv, some K.bJ, none, some K.ai, none, none, none, some K.fE, some K.eS, some K.fF, some K.pJ, some K.pK, some K.pL, some K.nI, none, none, none, none, none, none, none, none, some K.nJ, some K.pM, some K.kX, none, none, some K.pN, none, some K.kY, none, none, none, none, none, none, none, none, some K.ou, some K.pO, some K.cW, none, some K.kZ, some K.gC, none, none, none, none, none, none, none, none, none, none, none, none, some K.lg, none, none, some K.cy, some K.bE, some K.iK, some K.cg, some K.au, some K.iL, none, some K.bB, none, some K.aD, none, none, none, none, none, none, none, none, some K.lk, none, none, none, none, none, none, none, none, none, none, some K.lu, some K.lx, none, none, none, none, none, none, some K.aY, some K.aZ, some K.iM, some K.bQ, some K.aM, some K.aH, some K.bu, some K.aO, some K.aV, none, none, some K.fm, none, none, none, none, none, none, none, some K.pQ, none, none, some K.lA, none, none, none, some K.lB, some K.iN, some K.pR, none, none, none, none, some K.aL, some K.aP, none, none, none, none, none, none, none, some K.lC, none, none, some K.lD, some K.nM, none, none, none, none, none, none, some K.eE, some K.iQ, some K.iR, some K.jZ, none, none, none, none, none, some K.j0, some K.ka, some K.nN, none, none, none, none, none, none, none, some K.dN, some K.aF, some K.aS, some K.iS, some K.aC, some K.iT, some K.iU, none, none, none, some K.aJ, some K.aR, some K.fI, none, none, none, none, none, none, none, none, none, none, none, none, none, none, some K.nO, none, none, none, none, none, none, none, none, none, none, none, none, none, none, none, none, none, none, none, none, none, none, none, none, none, none, none, none, none, none, none, none, none, none, none, none, none, none, none, some K.nQ, none, some K.lE, none, none, none, none, none, none, none, none, none, none, none, none, none, none, none, none, none, none, none, none, none, none, none, none, none, none, none, none, none, none, none, none, none, none, none, none, none, none, none, none, none, none, none, none, none, none, none, none, none, none, none, none, none, none, none, none, none, none, none, none, none, none, none, none, none, none, none, none, none, none, none, none, none, none, some K.nR, none, none, none, none, none, none, none, some K.j4, some K.gY, none, none, some K.bw, some K.iW, some K.gw, some K.bj, some K.nS, none, none, none, none, some K.dX, some K.dY, some K.dZ, some K.eb, some K.ec, some K.eh, none, none, none, none, some K.eo, some K.et, some K.eu, none, none, none, some K.cX, none, none, none, none, none, none, none, none, none, none, none, none, some K.iE, none, none, none, none, some K.rI, some K.lF, none, none, none, none, none, none, none, none, some K.pT, some K.lG, none, none, some K.pU, some K.iX, some K.fp, some K.iY, some K.lH, some K.iZ, some K.j5, some K.i5, some K.i7, some K.i9, some K.ja, some K.j6, some K.dw, some K.fq, some K.dy, some K.dz, some K.eT, some K.jb, some K.gE, some K.aG, some K.fJ, some K.kc, some K.j7, some K.gF, some K.dO, some K.dQ, some K.gG, some K.aK, none, none, none, none, none, none, none, none, none, none, none, none, none, none, none, none, none, none, none, none, none, none, none, none, some K.dA, some K.pB, some K.cM, some K.cY, some K.bU, some K.ax, some K.aW, some K.cZ, some K.bH, some K.dB, some K.cz, some K.eU, some K.c9, some K.eG, some K.fv, some K.ew, some K.de, some K.dC, some K.kt, some K.fX, some K.mM, some K.ku, some K.gM, some K.iF, some K.fw, some K.cJ, some K.eV, some K.bo, some K.bg, some K.eH, some K.dt, some K.bK, some K.cA, some K.cB, some K.bV, some K.jo, some K.lI, some K.bW, some K.fe, some K.jq, some K.bA, some K.bG, some K.b8, some K.mN, some K.cG, some K.cH, some K.lV, some K.fY, some K.kv, some K.jc, some K.jG, some K.gZ, some K.dD, some K.bS]
instance names : Names := { ρ := fun f => (real[f]?).join }
instance lib : Lib := ⟨fun f => (tab[f]?).join⟩
instance has1 : cr := ⟨rfl⟩
instance has2 : bZ := ⟨rfl, rfl, rfl, rfl, rfl, rfl, rfl, rfl, rfl, rfl, rfl, rfl⟩
instance has3 : eM := ⟨rfl, rfl, rfl, rfl⟩
instance has4 : dT := ⟨rfl, rfl, rfl, rfl, rfl, rfl, rfl, rfl, rfl, rfl, rfl⟩
instance has5 : gK := ⟨rfl, rfl, rfl, rfl, rfl, rfl⟩
instance has6 : dJ := ⟨rfl, rfl, rfl, rfl, rfl, rfl, rfl, rfl, rfl, rfl⟩
instance has7 : dV := ⟨rfl, rfl, rfl, rfl⟩
instance has8 : kL := ⟨rfl, rfl, rfl⟩
instance has9 : jz := ⟨rfl, rfl, rfl, rfl, rfl, rfl, rfl, rfl, rfl, rfl, rfl, rfl, rfl, rfl⟩
instance has10 : dU := ⟨rfl, rfl, rfl, rfl, rfl, rfl, rfl, rfl, rfl, rfl⟩
instance has11 : eZ := ⟨rfl, rfl, rfl, rfl, rfl, rfl, rfl, rfl, rfl⟩
instance has12 : mC := ⟨rfl⟩
instance has13 : iP := ⟨rfl, rfl, rfl, rfl, rfl, rfl, rfl, rfl, rfl, rfl, rfl, rfl⟩
instance has14 : oJ := ⟨rfl, rfl, rfl, rfl, rfl⟩
instance has15 : qd := ⟨rfl, rfl⟩
instance has16 : tY := ⟨rfl, rfl, rfl⟩
instance has17 : qT := ⟨rfl, rfl, rfl, rfl, rfl, rfl, rfl⟩
instance has18 : pS := ⟨rfl, rfl, rfl, rfl, rfl, rfl, rfl, rfl, rfl, rfl⟩
instance has19 : abG := ⟨rfl⟩
instance has21 : abH := ⟨rfl⟩
instance has22 : abI := ⟨rfl⟩
instance has28 : SC := ⟨rfl, rfl, rfl⟩
instance has29 : wF := ⟨rfl, rfl, rfl, rfl, rfl, rfl, rfl, rfl, rfl, rfl, rfl, rfl, rfl, rfl, rfl⟩
instance has30 : sx := ⟨rfl, rfl, rfl, rfl, rfl, rfl, rfl, rfl, rfl, rfl, rfl, rfl, rfl, rfl, rfl, rfl, rfl, rfl⟩
instance has31 : wD := ⟨rfl, rfl, rfl, rfl, rfl, rfl, rfl, rfl, rfl, rfl, rfl, rfl, rfl, rfl, rfl⟩
instance has33 : fN := ⟨rfl, rfl, rfl, rfl, rfl, rfl, rfl, rfl, rfl, rfl, rfl, rfl, rfl, rfl, rfl, rfl, rfl, rfl, rfl, rfl, rfl⟩
instance has34 : fy := ⟨rfl, rfl, rfl, rfl, rfl, rfl, rfl, rfl, rfl, rfl, rfl, rfl, rfl, rfl, rfl, rfl, rfl, rfl, rfl, rfl, rfl, rfl, rfl⟩
instance has35 : jK := ⟨rfl, rfl, rfl, rfl, rfl, rfl, rfl, rfl, rfl, rfl⟩
theorem HM : av Tryz.prog Tryz.f7 K.ji = true := by kernel_rfl
theorem HN : av Tryz.prog Tryz.f201 K.jj = true := by kernel_rfl
theorem ql : av Tryz.prog Tryz.f34 K.aA = true := by kernel_rfl
theorem sy : av Tryz.prog Tryz.f129 K.bn = true := by kernel_rfl
theorem Cq : av Tryz.prog Tryz.f130 K.fk = true := by kernel_rfl
theorem JM : av Tryz.prog Tryz.f20 K.jD = true := by kernel_rfl
theorem ru : av Tryz.prog Tryz.f65 K.bN = true := by kernel_rfl
theorem vj : av Tryz.prog Tryz.f200 K.cO = true := by kernel_rfl
theorem Ad : av Tryz.prog Tryz.f202 K.eQ = true := by kernel_rfl
theorem kG : av Tryz.prog Tryz.f131 K.aE = true := by kernel_rfl
theorem xf : av Tryz.prog Tryz.f203 K.dq = true := by kernel_rfl
theorem OY : av Tryz.prog Tryz.f28 K.bD = true := by kernel_rfl
theorem mj : av Tryz.prog Tryz.f204 K.aT = true := by kernel_rfl
theorem JN : av Tryz.prog Tryz.f189 K.nE = true := by kernel_rfl
theorem Fm : av Tryz.prog Tryz.f190 K.jQ = true := by kernel_rfl
theorem HO : av Tryz.prog Tryz.f191 K.kS = true := by kernel_rfl
theorem Fo : av Tryz.prog Tryz.f33 K.fC = true := by kernel_rfl
theorem HP : av Tryz.prog Tryz.f310 K.kT = true := by kernel_rfl
theorem vk : av Tryz.prog Tryz.f253 K.bT = true := by kernel_rfl
theorem Er : av Tryz.prog Tryz.f261 K.iJ = true := by kernel_rfl
theorem Fp : av Tryz.prog Tryz.f27 K.bX = true := by kernel_rfl
theorem JO : av Tryz.prog Tryz.f90 K.gJ = true := by kernel_rfl
theorem JP : av Tryz.prog Tryz.f135 K.lR = true := by kernel_rfl
theorem Fq : av Tryz.prog Tryz.f145 K.jR = true := by kernel_rfl
theorem JQ : av Tryz.prog Tryz.f66 K.lS = true := by kernel_rfl
theorem JR : av Tryz.prog Tryz.f146 K.lT = true := by kernel_rfl
theorem Fs : av Tryz.prog Tryz.f206 K.jS = true := by kernel_rfl
theorem Ft : av Tryz.prog Tryz.f216 K.jT = true := by kernel_rfl
theorem HQ : av Tryz.prog Tryz.f138 K.kU = true := by kernel_rfl
theorem JS : av Tryz.prog Tryz.f208 K.nF = true := by kernel_rfl
theorem A0 : av Tryz.prog Tryz.f262 K.eB = true := by kernel_rfl
theorem Fu : av Tryz.prog Tryz.f263 K.jU = true := by kernel_rfl
theorem Fv : av Tryz.prog Tryz.f264 K.jV = true := by kernel_rfl
theorem yA : av Tryz.prog Tryz.f314 K.dM = true := by kernel_rfl
theorem HR : av Tryz.prog Tryz.f9 K.dI = true := by kernel_rfl
theorem Fw : av Tryz.prog Tryz.f104 K.bP = true := by kernel_rfl
theorem HT : av Tryz.prog Tryz.f26 K.gS = true := by kernel_rfl
theorem uq : av Tryz.prog Tryz.f29 K.br = true := by kernel_rfl
theorem xg : av Tryz.prog Tryz.f30 K.cF = true := by kernel_rfl
theorem JT : av Tryz.prog Tryz.f56 K.cN = true := by kernel_rfl
theorem lL : av Tryz.prog Tryz.f57 K.ay = true := by kernel_rfl
theorem Es : av Tryz.prog Tryz.f58 K.cQ = true := by kernel_rfl
theorem Et : av Tryz.prog Tryz.f59 K.eC = true := by kernel_rfl
theorem yB : av Tryz.prog Tryz.f60 K.bC = true := by kernel_rfl
theorem JU : av Tryz.prog Tryz.f46 K.jF = true := by kernel_rfl
theorem mQ : av Tryz.prog Tryz.f101 K.aN = true := by kernel_rfl
theorem A2 : av Tryz.prog Tryz.f103 K.ct = true := by kernel_rfl
theorem HU : av Tryz.prog Tryz.f92 K.gT = true := by kernel_rfl
theorem Fx : av Tryz.prog Tryz.f69 K.jW = true := by kernel_rfl
theorem HV : av Tryz.prog Tryz.f303 K.kW = true := by kernel_rfl
theorem Fy : av Tryz.prog Tryz.f298 K.jX = true := by kernel_rfl
theorem FA : av Tryz.prog Tryz.f309 K.jY = true := by kernel_rfl
theorem Cr : av Tryz.prog Tryz.f110 K.gB = true := by kernel_rfl
theorem Cs : av Tryz.prog Tryz.f111 K.dW = true := by kernel_rfl
theorem JV : av Tryz.prog Tryz.f112 K.kr = true := by kernel_rfl
theorem Eu : av Tryz.prog Tryz.f330 K.gv = true := by kernel_rfl
theorem vl : av Tryz.prog Tryz.f133 K.bJ = true := by kernel_rfl
theorem vn : av Tryz.prog Tryz.f67 K.ai = true := by kernel_rfl
theorem A3 : av Tryz.prog Tryz.f160 K.fE = true := by kernel_rfl
theorem Ae : av Tryz.prog Tryz.f161 K.eS = true := by kernel_rfl
theorem A4 : av Tryz.prog Tryz.f340 K.fF = true := by kernel_rfl
theorem LI : av Tryz.prog Tryz.f223 K.pJ = true := by kernel_rfl
theorem LJ : av Tryz.prog Tryz.f285 K.pK = true := by kernel_rfl
theorem LK : av Tryz.prog Tryz.f319 K.pL = true := by kernel_rfl
theorem JW : av Tryz.prog Tryz.f327 K.nI = true := by kernel_rfl
theorem JX : av Tryz.prog Tryz.f36 K.nJ = true := by kernel_rfl
theorem LL : av Tryz.prog Tryz.f184 K.pM = true := by kernel_rfl
theorem HW : av Tryz.prog Tryz.f185 K.kX = true := by kernel_rfl
theorem LM : av Tryz.prog Tryz.f187 K.pN = true := by kernel_rfl
theorem HX : av Tryz.prog Tryz.f165 K.kY = true := by kernel_rfl
theorem LN : av Tryz.prog Tryz.f247 K.ou = true := by kernel_rfl
theorem LO : av Tryz.prog Tryz.f248 K.pO = true := by kernel_rfl
theorem wH : av Tryz.prog Tryz.f158 K.cW = true := by kernel_rfl
theorem HY : av Tryz.prog Tryz.f307 K.kZ = true := by kernel_rfl
theorem Ct : av Tryz.prog Tryz.f307 K.gC = true := by kernel_rfl
theorem HZ : av Tryz.prog Tryz.f238 K.lg = true := by kernel_rfl
theorem yC : av Tryz.prog Tryz.f107 K.cy = true := by kernel_rfl
theorem ur : av Tryz.prog Tryz.f108 K.bE = true := by kernel_rfl
theorem FB : av Tryz.prog Tryz.f68 K.iK = true := by kernel_rfl
theorem tj : av Tryz.prog Tryz.f296 K.cg = true := by kernel_rfl
theorem gz : av Tryz.prog Tryz.f250 K.au = true := by kernel_rfl
theorem Ew : av Tryz.prog Tryz.f297 K.iL = true := by kernel_rfl
theorem sB : av Tryz.prog Tryz.f159 K.bB = true := by kernel_rfl
theorem iq : av Tryz.prog Tryz.f308 K.aD = true := by kernel_rfl
theorem H3 : av Tryz.prog Tryz.f37 K.lk = true := by kernel_rfl
theorem H4 : av Tryz.prog Tryz.f115 K.lu = true := by kernel_rfl
theorem H5 : av Tryz.prog Tryz.f242 K.lx = true := by kernel_rfl
theorem nz : av Tryz.prog Tryz.f300 K.aY = true := by kernel_rfl
theorem nB : av Tryz.prog Tryz.f301 K.aZ = true := by kernel_rfl
theorem Ey : av Tryz.prog Tryz.f302 K.iM = true := by kernel_rfl
theorem rv : av Tryz.prog Tryz.f331 K.bQ = true := by kernel_rfl
theorem kh : av Tryz.prog Tryz.f332 K.aM = true := by kernel_rfl
theorem mF : av Tryz.prog Tryz.f333 K.aH = true := by kernel_rfl
theorem oK : av Tryz.prog Tryz.f342 K.bu = true := by kernel_rfl
theorem lM : av Tryz.prog Tryz.f346 K.aO = true := by kernel_rfl
theorem n9 : av Tryz.prog Tryz.f347 K.aV = true := by kernel_rfl
theorem Cu : av Tryz.prog Tryz.f115 K.fm = true := by kernel_rfl
theorem LP : av Tryz.prog Tryz.f188 K.pQ = true := by kernel_rfl
theorem H6 : av Tryz.prog Tryz.f243 K.lA = true := by kernel_rfl
theorem H7 : av Tryz.prog Tryz.f249 K.lB = true := by kernel_rfl
theorem Ez : av Tryz.prog Tryz.f251 K.iN = true := by kernel_rfl
theorem LQ : av Tryz.prog Tryz.f252 K.pR = true := by kernel_rfl
theorem oa : av Tryz.prog Tryz.f71 K.aL = true := by kernel_rfl
theorem oL : av Tryz.prog Tryz.f72 K.aP = true := by kernel_rfl
theorem H8 : av Tryz.prog Tryz.f31 K.lC = true := by kernel_rfl
theorem H9 : av Tryz.prog Tryz.f166 K.lD = true := by kernel_rfl
theorem JY : av Tryz.prog Tryz.f70 K.nM = true := by kernel_rfl
theorem A5 : av Tryz.prog Tryz.f61 K.eE = true := by kernel_rfl
theorem EA : av Tryz.prog Tryz.f62 K.iQ = true := by kernel_rfl
theorem FC : av Tryz.prog Tryz.f63 K.iR = true := by kernel_rfl
theorem FD : av Tryz.prog Tryz.f64 K.jZ = true := by kernel_rfl
theorem FE : av Tryz.prog Tryz.f224 K.j0 = true := by kernel_rfl
theorem Ia : av Tryz.prog Tryz.f113 K.ka = true := by kernel_rfl
theorem JZ : av Tryz.prog Tryz.f114 K.nN = true := by kernel_rfl
theorem yD : av Tryz.prog Tryz.f105 K.dN = true := by kernel_rfl
theorem iA : av Tryz.prog Tryz.f106 K.aF = true := by kernel_rfl
theorem mR : av Tryz.prog Tryz.f109 K.aS = true := by kernel_rfl
theorem EB : av Tryz.prog Tryz.f162 K.iS = true := by kernel_rfl
theorem kj : av Tryz.prog Tryz.f136 K.aC = true := by kernel_rfl
theorem EC : av Tryz.prog Tryz.f163 K.iT = true := by kernel_rfl
theorem ED : av Tryz.prog Tryz.f164 K.iU = true := by kernel_rfl
theorem jx : av Tryz.prog Tryz.f156 K.aJ = true := by kernel_rfl
theorem kO : av Tryz.prog Tryz.f207 K.aR = true := by kernel_rfl
theorem A6 : av Tryz.prog Tryz.f64 K.fI = true := by kernel_rfl
theorem J0 : av Tryz.prog Tryz.f38 K.nO = true := by kernel_rfl
theorem J1 : av Tryz.prog Tryz.f32 K.nQ = true := by kernel_rfl
theorem Ib : av Tryz.prog Tryz.f142 K.lE = true := by kernel_rfl
theorem J2 : av Tryz.prog Tryz.f10 K.nR = true := by kernel_rfl
theorem FF : av Tryz.prog Tryz.f35 K.j4 = true := by kernel_rfl
theorem Ic : av Tryz.prog Tryz.f39 K.gY = true := by kernel_rfl
theorem oM : av Tryz.prog Tryz.f73 K.bw = true := by kernel_rfl
theorem FH : av Tryz.prog Tryz.f74 K.iW = true := by kernel_rfl
theorem EE : av Tryz.prog Tryz.f75 K.gw = true := by kernel_rfl
theorem oc : av Tryz.prog Tryz.f76 K.bj = true := by kernel_rfl
theorem J3 : av Tryz.prog Tryz.f77 K.nS = true := by kernel_rfl
theorem Cv : av Tryz.prog Tryz.f116 K.dX = true := by kernel_rfl
theorem Cw : av Tryz.prog Tryz.f117 K.dY = true := by kernel_rfl
theorem Cx : av Tryz.prog Tryz.f118 K.dZ = true := by kernel_rfl
theorem Cy : av Tryz.prog Tryz.f119 K.eb = true := by kernel_rfl
theorem Cz : av Tryz.prog Tryz.f120 K.ec = true := by kernel_rfl
theorem CA : av Tryz.prog Tryz.f121 K.eh = true := by kernel_rfl
theorem CB : av Tryz.prog Tryz.f126 K.eo = true := by kernel_rfl
theorem CC : av Tryz.prog Tryz.f127 K.et = true := by kernel_rfl
theorem CD : av Tryz.prog Tryz.f128 K.eu = true := by kernel_rfl
theorem A7 : av Tryz.prog Tryz.f175 K.cX = true := by kernel_rfl
theorem J4 : av Tryz.prog Tryz.f4 K.iE = true := by kernel_rfl
theorem OZ : av Tryz.prog Tryz.f11 K.rI = true := by kernel_rfl
theorem Ie : av Tryz.prog Tryz.f12 K.lF = true := by kernel_rfl
theorem LR : av Tryz.prog Tryz.f40 K.pT = true := by kernel_rfl
theorem Ig : av Tryz.prog Tryz.f41 K.lG = true := by kernel_rfl
theorem LS : av Tryz.prog Tryz.f78 K.pU = true := by kernel_rfl
theorem EF : av Tryz.prog Tryz.f79 K.iX = true := by kernel_rfl
theorem CE : av Tryz.prog Tryz.f80 K.fp = true := by kernel_rfl
theorem EG : av Tryz.prog Tryz.f81 K.iY = true := by kernel_rfl
theorem Ih : av Tryz.prog Tryz.f82 K.lH = true := by kernel_rfl
theorem EH : av Tryz.prog Tryz.f83 K.iZ = true := by kernel_rfl
theorem FI : av Tryz.prog Tryz.f84 K.j5 = true := by kernel_rfl
theorem EI : av Tryz.prog Tryz.f85 K.i5 = true := by kernel_rfl
theorem EJ : av Tryz.prog Tryz.f86 K.i7 = true := by kernel_rfl
theorem EK : av Tryz.prog Tryz.f87 K.i9 = true := by kernel_rfl
theorem EL : av Tryz.prog Tryz.f88 K.ja = true := by kernel_rfl
theorem FJ : av Tryz.prog Tryz.f89 K.j6 = true := by kernel_rfl
theorem A8 : av Tryz.prog Tryz.f122 K.dw = true := by kernel_rfl
theorem EM : av Tryz.prog Tryz.f123 K.fq = true := by kernel_rfl
theorem A9 : av Tryz.prog Tryz.f124 K.dy = true := by kernel_rfl
theorem Ba : av Tryz.prog Tryz.f125 K.dz = true := by kernel_rfl
theorem Af : av Tryz.prog Tryz.f132 K.eT = true := by kernel_rfl
theorem FK : av Tryz.prog Tryz.f134 K.jb = true := by kernel_rfl
theorem CF : av Tryz.prog Tryz.f137 K.gE = true := by kernel_rfl
theorem iC : av Tryz.prog Tryz.f139 K.aG = true := by kernel_rfl
theorem Bb : av Tryz.prog Tryz.f140 K.fJ = true := by kernel_rfl
theorem Ii : av Tryz.prog Tryz.f141 K.kc = true := by kernel_rfl
theorem FL : av Tryz.prog Tryz.f143 K.j7 = true := by kernel_rfl
theorem CG : av Tryz.prog Tryz.f144 K.gF = true := by kernel_rfl
theorem yE : av Tryz.prog Tryz.f183 K.dO = true := by kernel_rfl
theorem yF : av Tryz.prog Tryz.f186 K.dQ = true := by kernel_rfl
theorem CH : av Tryz.prog Tryz.f205 K.gG = true := by kernel_rfl
theorem jy : av Tryz.prog Tryz.f209 K.aK = true := by kernel_rfl
theorem Bc : av Tryz.prog Tryz.f3 K.dA = true := by kernel_rfl
theorem O0 : av Tryz.prog Tryz.f5 K.pB = true := by kernel_rfl
theorem Bd : av Tryz.prog Tryz.f6 K.cM = true := by kernel_rfl
theorem Be : av Tryz.prog Tryz.f8 K.cY = true := by kernel_rfl
theorem CI : av Tryz.prog Tryz.f13 K.bU = true := by kernel_rfl
theorem Bf : av Tryz.prog Tryz.f14 K.ax = true := by kernel_rfl
theorem Ag : av Tryz.prog Tryz.f15 K.aW = true := by kernel_rfl
theorem Bg : av Tryz.prog Tryz.f16 K.cZ = true := by kernel_rfl
theorem wI : av Tryz.prog Tryz.f17 K.bH = true := by kernel_rfl
theorem CJ : av Tryz.prog Tryz.f18 K.dB = true := by kernel_rfl
theorem yG : av Tryz.prog Tryz.f19 K.cz = true := by kernel_rfl
theorem FM : av Tryz.prog Tryz.f21 K.eU = true := by kernel_rfl
theorem CK : av Tryz.prog Tryz.f22 K.c9 = true := by kernel_rfl
theorem Ij : av Tryz.prog Tryz.f23 K.eG = true := by kernel_rfl
theorem EN : av Tryz.prog Tryz.f24 K.fv = true := by kernel_rfl
theorem CL : av Tryz.prog Tryz.f25 K.ew = true := by kernel_rfl
theorem Ah : av Tryz.prog Tryz.f42 K.de = true := by kernel_rfl
theorem Bh : av Tryz.prog Tryz.f43 K.dC = true := by kernel_rfl
theorem J5 : av Tryz.prog Tryz.f44 K.kt = true := by kernel_rfl
theorem Ik : av Tryz.prog Tryz.f45 K.fX = true := by kernel_rfl
theorem LU : av Tryz.prog Tryz.f47 K.mM = true := by kernel_rfl
theorem J6 : av Tryz.prog Tryz.f48 K.ku = true := by kernel_rfl
theorem J7 : av Tryz.prog Tryz.f49 K.gM = true := by kernel_rfl
theorem J8 : av Tryz.prog Tryz.f50 K.iF = true := by kernel_rfl
theorem EO : av Tryz.prog Tryz.f51 K.fw = true := by kernel_rfl
theorem FN : av Tryz.prog Tryz.f52 K.cJ = true := by kernel_rfl
theorem FO : av Tryz.prog Tryz.f53 K.eV = true := by kernel_rfl
theorem vo : av Tryz.prog Tryz.f54 K.bo = true := by kernel_rfl
theorem uu : av Tryz.prog Tryz.f55 K.bg = true := by kernel_rfl
theorem Il : av Tryz.prog Tryz.f91 K.eH = true := by kernel_rfl
theorem FP : av Tryz.prog Tryz.f93 K.dt = true := by kernel_rfl
theorem vq : av Tryz.prog Tryz.f94 K.bK = true := by kernel_rfl
theorem yH : av Tryz.prog Tryz.f95 K.cA = true := by kernel_rfl
theorem Bi : av Tryz.prog Tryz.f96 K.cB = true := by kernel_rfl
theorem Ai : av Tryz.prog Tryz.f97 K.bV = true := by kernel_rfl
theorem Im : av Tryz.prog Tryz.f98 K.jo = true := by kernel_rfl
theorem LV : av Tryz.prog Tryz.f99 K.lI = true := by kernel_rfl
theorem yI : av Tryz.prog Tryz.f100 K.bW = true := by kernel_rfl
theorem Io : av Tryz.prog Tryz.f147 K.fe = true := by kernel_rfl
theorem Ip : av Tryz.prog Tryz.f148 K.jq = true := by kernel_rfl
theorem CM : av Tryz.prog Tryz.f149 K.bA = true := by kernel_rfl
theorem tu : av Tryz.prog Tryz.f150 K.bG = true := by kernel_rfl
theorem wJ : av Tryz.prog Tryz.f151 K.b8 = true := by kernel_rfl
theorem LW : av Tryz.prog Tryz.f152 K.mN = true := by kernel_rfl
theorem xh : av Tryz.prog Tryz.f153 K.cG = true := by kernel_rfl
theorem xi : av Tryz.prog Tryz.f154 K.cH = true := by kernel_rfl
theorem O1 : av Tryz.prog Tryz.f155 K.lV = true := by kernel_rfl
theorem Iq : av Tryz.prog Tryz.f217 K.fY = true := by kernel_rfl
theorem J9 : av Tryz.prog Tryz.f218 K.kv = true := by kernel_rfl
theorem LX : av Tryz.prog Tryz.f219 K.jc = true := by kernel_rfl
theorem LY : av Tryz.prog Tryz.f273 K.jG = true := by kernel_rfl
theorem Ir : av Tryz.prog Tryz.f321 K.gZ = true := by kernel_rfl
theorem Bj : av Tryz.prog Tryz.f338 K.dD = true := by kernel_rfl
theorem rA : av Tryz.prog Tryz.f345 K.bS = true := by kernel_rfl
theorem aiw : KE Tryz.prog real tab :=
 ⟨trivial, ⟨trivial, ⟨trivial, ⟨trivial, ⟨trivial, ⟨trivial, ⟨trivial, ⟨trivial, ⟨trivial, ⟨trivial, ⟨trivial, ⟨trivial, ⟨trivial, ⟨trivial, ⟨trivial, ⟨trivial, ⟨trivial, ⟨trivial, ⟨trivial, ⟨trivial, ⟨trivial, ⟨trivial, ⟨trivial, ⟨trivial, ⟨trivial, ⟨trivial, ⟨trivial, ⟨trivial, ⟨⟨by kernel_rfl, ae Tryz.func7 HM⟩, ⟨trivial, ⟨trivial, ⟨trivial, ⟨trivial, ⟨trivial, ⟨trivial, ⟨trivial, ⟨trivial, ⟨trivial, ⟨trivial, ⟨trivial, ⟨trivial, ⟨trivial, ⟨trivial, ⟨trivial, ⟨trivial, ⟨trivial, ⟨trivial, ⟨⟨by kernel_rfl, ae Tryz.func201 HN⟩, ⟨trivial, ⟨⟨by kernel_rfl, ae Tryz.func34 ql⟩, ⟨trivial, ⟨⟨by kernel_rfl, ae Tryz.func129 sy⟩, ⟨trivial, ⟨⟨by kernel_rfl, ae Tryz.func130 Cq⟩, ⟨⟨by kernel_rfl, ae Tryz.func20 JM⟩, ⟨trivial, ⟨trivial, ⟨trivial, ⟨trivial, ⟨trivial, ⟨trivial, ⟨trivial, ⟨trivial, ⟨trivial, ⟨trivial, ⟨trivial, ⟨⟨by kernel_rfl, ae Tryz.func65 ru⟩, ⟨⟨by kernel_rfl, ae Tryz.func200 vj⟩, ⟨⟨by kernel_rfl, ae Tryz.func202 Ad⟩, ⟨⟨by kernel_rfl, ae Tryz.func131 kG⟩, ⟨⟨by kernel_rfl, ae Tryz.func203 xf⟩, ⟨⟨by kernel_rfl, ae Tryz.func28 OY⟩, ⟨trivial, ⟨trivial, ⟨trivial, ⟨⟨by kernel_rfl, ae Tryz.func204 mj⟩, ⟨trivial, ⟨trivial, ⟨trivial, ⟨trivial, ⟨trivial, ⟨trivial, ⟨trivial, ⟨trivial, ⟨trivial, ⟨trivial, ⟨⟨by kernel_rfl, ae Tryz.func189 JN⟩, ⟨⟨by kernel_rfl, ae Tryz.func190 Fm⟩, ⟨⟨by kernel_rfl, ae Tryz.func191 HO⟩, ⟨trivial, ⟨⟨by kernel_rfl, ae Tryz.func33 Fo⟩, ⟨trivial, ⟨trivial, ⟨trivial, ⟨trivial, ⟨trivial, ⟨trivial, ⟨trivial, ⟨trivial, ⟨trivial, ⟨⟨by kernel_rfl, ae Tryz.func310 HP⟩, ⟨trivial, ⟨trivial, ⟨⟨by kernel_rfl, ae Tryz.func253 vk⟩, ⟨⟨by kernel_rfl, ae Tryz.func261 Er⟩, ⟨⟨by kernel_rfl, ae Tryz.func27 Fp⟩, ⟨trivial, ⟨trivial, ⟨trivial, ⟨trivial, ⟨⟨by kernel_rfl, ae Tryz.func90 JO⟩, ⟨⟨by kernel_rfl, ae Tryz.func135 JP⟩, ⟨trivial, ⟨trivial, ⟨trivial, ⟨⟨by kernel_rfl, ae Tryz.func145 Fq⟩, ⟨⟨by kernel_rfl, ae Tryz.func66 JQ⟩, ⟨⟨by kernel_rfl, ae Tryz.func146 JR⟩, ⟨⟨by kernel_rfl, ae Tryz.func206 Fs⟩, ⟨⟨by kernel_rfl, ae Tryz.func216 Ft⟩, ⟨trivial, ⟨trivial, ⟨trivial, ⟨trivial, ⟨trivial, ⟨trivial, ⟨trivial, ⟨trivial, ⟨⟨by kernel_rfl, ae Tryz.func138 HQ⟩, ⟨trivial, ⟨trivial, ⟨trivial, ⟨trivial, ⟨trivial, ⟨trivial, ⟨trivial, ⟨⟨by kernel_rfl, ae Tryz.func208 JS⟩, ⟨trivial, ⟨trivial, ⟨trivial, ⟨trivial, ⟨trivial, ⟨trivial, ⟨trivial, ⟨trivial, ⟨⟨by kernel_rfl, ae Tryz.func262 A0⟩, ⟨⟨by kernel_rfl, ae Tryz.func263 Fu⟩, ⟨⟨by kernel_rfl, ae Tryz.func264 Fv⟩, ⟨⟨by kernel_rfl, ae Tryz.func314 yA⟩, ⟨trivial, ⟨trivial, ⟨trivial, ⟨trivial, ⟨trivial, ⟨⟨by kernel_rfl, ae Tryz.func9 HR⟩, ⟨⟨by kernel_rfl, ae Tryz.func104 Fw⟩, ⟨trivial, ⟨trivial, ⟨trivial, ⟨⟨by kernel_rfl, ae Tryz.func26 HT⟩, ⟨⟨by kernel_rfl, ae Tryz.func29 uq⟩, ⟨⟨by kernel_rfl, ae Tryz.func30 xg⟩, ⟨trivial, ⟨trivial, ⟨trivial, ⟨trivial, ⟨trivial, ⟨⟨by kernel_rfl, ae Tryz.func56 JT⟩, ⟨⟨by kernel_rfl, ae Tryz.func57 lL⟩, ⟨⟨by kernel_rfl, ae Tryz.func58 Es⟩, ⟨⟨by kernel_rfl, ae Tryz.func59 Et⟩, ⟨⟨by kernel_rfl, ae Tryz.func60 yB⟩, ⟨trivial, ⟨⟨by kernel_rfl, ae Tryz.func46 JU⟩, ⟨⟨by kernel_rfl, ae Tryz.func101 mQ⟩, ⟨trivial, ⟨⟨by kernel_rfl, ae Tryz.func103 A2⟩, ⟨⟨by kernel_rfl, ae Tryz.func92 HU⟩, ⟨trivial, ⟨trivial, ⟨trivial, ⟨trivial, ⟨trivial, ⟨trivial, ⟨trivial, ⟨trivial, ⟨⟨by kernel_rfl, ae Tryz.func69 Fx⟩, ⟨trivial, ⟨trivial, ⟨⟨by kernel_rfl, ae Tryz.func303 HV⟩, ⟨⟨by kernel_rfl, ae Tryz.func298 Fy⟩, ⟨trivial, ⟨trivial, ⟨trivial, ⟨⟨by kernel_rfl, ae Tryz.func309 FA⟩, ⟨trivial, ⟨trivial, ⟨trivial, ⟨⟨by kernel_rfl, ae Tryz.func110 Cr⟩, ⟨⟨by kernel_rfl, ae Tryz.func111 Cs⟩, ⟨⟨by kernel_rfl, ae Tryz.func112 JV⟩, ⟨⟨by kernel_rfl, ae Tryz.func330 Eu⟩, ⟨⟨by kernel_rfl, ae Tryz.func133 vl⟩, ⟨trivial, ⟨⟨by kernel_rfl, ae Tryz.func67 vn⟩, ⟨trivial, ⟨trivial, ⟨trivial, ⟨⟨by kernel_rfl, ae Tryz.func160 A3⟩, ⟨⟨by kernel_rfl, ae Tryz.func161 Ae⟩, ⟨⟨by kernel_rfl, ae Tryz.func340 A4⟩, ⟨⟨by kernel_rfl, ae Tryz.func223 LI⟩, ⟨⟨by kernel_rfl, ae Tryz.func285 LJ⟩, ⟨⟨by kernel_rfl, ae Tryz.func319 LK⟩, ⟨⟨by kernel_rfl, ae Tryz.func327 JW⟩, ⟨trivial, ⟨trivial, ⟨trivial, ⟨trivial, ⟨trivial, ⟨trivial, ⟨trivial, ⟨trivial, ⟨⟨by kernel_rfl, ae Tryz.func36 JX⟩, ⟨⟨by kernel_rfl, ae Tryz.func184 LL⟩, ⟨⟨by kernel_rfl, ae Tryz.func185 HW⟩, ⟨trivial, ⟨trivial, ⟨⟨by kernel_rfl, ae Tryz.func187 LM⟩, ⟨trivial, ⟨⟨by kernel_rfl, ae Tryz.func165 HX⟩, ⟨trivial, ⟨trivial, ⟨trivial, ⟨trivial, ⟨trivial, ⟨trivial, ⟨trivial, ⟨trivial, ⟨⟨by kernel_rfl, ae Tryz.func247 LN⟩, ⟨⟨by kernel_rfl, ae Tryz.func248 LO⟩, ⟨⟨by kernel_rfl, ae Tryz.func158 wH⟩, ⟨trivial, ⟨⟨by kernel_rfl, ae Tryz.func307 HY⟩, ⟨⟨by kernel_rfl, ae Tryz.func307 Ct⟩, ⟨trivial, ⟨trivial, ⟨trivial, ⟨trivial, ⟨trivial, ⟨trivial, ⟨trivial, ⟨trivial, ⟨trivial, ⟨trivial, ⟨trivial, ⟨trivial, ⟨⟨by kernel_rfl, ae Tryz.func238 HZ⟩, ⟨trivial, ⟨trivial, ⟨⟨by kernel_rfl, ae Tryz.func107 yC⟩, ⟨⟨by kernel_rfl, ae Tryz.func108 ur⟩, ⟨⟨by kernel_rfl, ae Tryz.func68 FB⟩, ⟨⟨by kernel_rfl, ae Tryz.func296 tj⟩, ⟨⟨by kernel_rfl, ae Tryz.func250 gz⟩, ⟨⟨by kernel_rfl, ae Tryz.func297 Ew⟩, ⟨trivial, ⟨⟨by kernel_rfl, ae Tryz.func159 sB⟩, ⟨trivial, ⟨⟨by kernel_rfl, ae Tryz.func308 iq⟩, ⟨trivial, ⟨trivial, ⟨trivial, ⟨trivial, ⟨trivial, ⟨trivial, ⟨trivial, ⟨trivial, ⟨⟨by kernel_rfl, ae Tryz.func37 H3⟩, ⟨trivial, ⟨trivial, ⟨trivial, ⟨trivial, ⟨trivial, ⟨trivial, ⟨trivial, ⟨trivial, ⟨trivial, ⟨trivial, ⟨⟨by kernel_rfl, ae Tryz.func115 H4⟩, ⟨⟨by kernel_rfl, ae Tryz.func242 H5⟩, ⟨trivial, ⟨trivial, ⟨trivial, ⟨trivial, ⟨trivial, ⟨trivial, ⟨⟨by kernel_rfl, ae Tryz.func300 nz⟩, ⟨⟨by kernel_rfl, ae Tryz.func301 nB⟩, ⟨⟨by kernel_rfl, ae Tryz.func302 Ey⟩, ⟨⟨by kernel_rfl, ae Tryz.func331 rv⟩, ⟨⟨by kernel_rfl, ae Tryz.func332 kh⟩, ⟨⟨by kernel_rfl, ae Tryz.func333 mF⟩, ⟨⟨by kernel_rfl, ae Tryz.func342 oK⟩, ⟨⟨by kernel_rfl, ae Tryz.func346 lM⟩, ⟨⟨by kernel_rfl, ae Tryz.func347 n9⟩, ⟨trivial, ⟨trivial, ⟨⟨by kernel_rfl, ae Tryz.func115 Cu⟩, ⟨trivial, ⟨trivial, ⟨trivial, ⟨trivial, ⟨trivial, ⟨trivial, ⟨trivial, ⟨⟨by kernel_rfl, ae Tryz.func188 LP⟩, ⟨trivial, ⟨trivial, ⟨⟨by kernel_rfl, ae Tryz.func243 H6⟩, ⟨trivial, ⟨trivial, ⟨trivial, ⟨⟨by kernel_rfl, ae Tryz.func249 H7⟩, ⟨⟨by kernel_rfl, ae Tryz.func251 Ez⟩, ⟨⟨by kernel_rfl, ae Tryz.func252 LQ⟩, ⟨trivial, ⟨trivial, ⟨trivial, ⟨trivial, ⟨⟨by kernel_rfl, ae Tryz.func71 oa⟩, ⟨⟨by kernel_rfl, ae Tryz.func72 oL⟩, ⟨trivial, ⟨trivial, ⟨trivial, ⟨trivial, ⟨trivial, ⟨trivial, ⟨trivial, ⟨⟨by kernel_rfl, ae Tryz.func31 H8⟩, ⟨trivial, ⟨trivial, ⟨⟨by kernel_rfl, ae Tryz.func166 H9⟩, ⟨⟨by kernel_rfl, ae Tryz.func70 JY⟩, ⟨trivial, ⟨trivial, ⟨trivial, ⟨trivial, ⟨trivial, ⟨trivial, ⟨⟨by kernel_rfl, ae Tryz.func61 A5⟩, ⟨⟨by kernel_rfl, ae Tryz.func62 EA⟩, ⟨⟨by kernel_rfl, ae Tryz.func63 FC⟩, ⟨⟨by kernel_rfl, ae Tryz.func64 FD⟩, ⟨trivial, ⟨trivial, ⟨trivial, ⟨trivial, ⟨trivial, ⟨⟨by kernel_rfl, ae Tryz.func224 FE⟩, ⟨⟨by kernel_rfl, ae Tryz.func113 Ia⟩, ⟨⟨by kernel_rfl, ae Tryz.func114 JZ⟩, ⟨trivial, ⟨trivial, ⟨trivial, ⟨trivial, ⟨trivial, ⟨trivial, ⟨trivial, ⟨⟨by kernel_rfl, ae Tryz.func105 yD⟩, ⟨⟨by kernel_rfl, ae Tryz.func106 iA⟩, ⟨⟨by kernel_rfl, ae Tryz.func109 mR⟩, ⟨⟨by kernel_rfl, ae Tryz.func162 EB⟩, ⟨⟨by kernel_rfl, ae Tryz.func136 kj⟩, ⟨⟨by kernel_rfl, ae Tryz.func163 EC⟩, ⟨⟨by kernel_rfl, ae Tryz.func164 ED⟩, ⟨trivial, ⟨trivial, ⟨trivial, ⟨⟨by kernel_rfl, ae Tryz.func156 jx⟩, ⟨⟨by kernel_rfl, ae Tryz.func207 kO⟩, ⟨⟨by kernel_rfl, ae Tryz.func64 A6⟩, ⟨trivial, ⟨trivial, ⟨trivial, ⟨trivial, ⟨trivial, ⟨trivial, ⟨trivial, ⟨trivial, ⟨trivial, ⟨trivial, ⟨trivial, ⟨trivial, ⟨trivial, ⟨trivial, ⟨⟨by kernel_rfl, ae Tryz.func38 J0⟩, ⟨trivial, ⟨trivial, ⟨trivial, ⟨trivial, ⟨trivial, ⟨trivial, ⟨trivial, ⟨trivial, ⟨trivial, ⟨trivial, ⟨trivial, ⟨trivial, ⟨trivial, ⟨trivial, ⟨trivial, ⟨trivial, ⟨trivial, ⟨trivial, ⟨trivial, ⟨trivial, ⟨trivial, ⟨trivial, ⟨trivial, ⟨trivial, ⟨trivial, ⟨trivial, ⟨trivial, ⟨trivial, ⟨trivial, ⟨trivial, ⟨trivial, ⟨trivial, ⟨trivial, ⟨trivial, ⟨trivial, ⟨trivial, ⟨trivial, ⟨trivial, ⟨trivial, ⟨⟨by kernel_rfl, ae Tryz.func32 J1⟩, ⟨trivial, ⟨⟨by kernel_rfl, ae Tryz.func142 Ib⟩, ⟨trivial, ⟨trivial, ⟨trivial, ⟨trivial, ⟨trivial, ⟨trivial, ⟨trivial, ⟨trivial, ⟨trivial, ⟨trivial, ⟨trivial, ⟨trivial, ⟨trivial, ⟨trivial, ⟨trivial, ⟨trivial, ⟨trivial, ⟨trivial, ⟨trivial, ⟨trivial, ⟨trivial, ⟨trivial, ⟨trivial, ⟨trivial, ⟨trivial, ⟨trivial, ⟨trivial, ⟨trivial, ⟨trivial, ⟨trivial, ⟨trivial, ⟨trivial, ⟨trivial, ⟨trivial, ⟨trivial, ⟨trivial, ⟨trivial, ⟨trivial, ⟨trivial, ⟨trivial, ⟨trivial, ⟨trivial, ⟨trivial, ⟨trivial, ⟨trivial, ⟨trivial, ⟨trivial, ⟨trivial, ⟨trivial, ⟨trivial, ⟨trivial, ⟨trivial, ⟨trivial, ⟨trivial, ⟨trivial, ⟨trivial, ⟨trivial, ⟨trivial, ⟨trivial, ⟨trivial, ⟨trivial, ⟨trivial, ⟨trivial, ⟨trivial, ⟨trivial, ⟨trivial, ⟨trivial, ⟨trivial, ⟨trivial, ⟨trivial, ⟨trivial, ⟨trivial, ⟨trivial, ⟨trivial, ⟨⟨by kernel_rfl, ae Tryz.func10 J2⟩, ⟨trivial, ⟨trivial, ⟨trivial, ⟨trivial, ⟨trivial, ⟨trivial, ⟨trivial, ⟨⟨by kernel_rfl, ae Tryz.func35 FF⟩, ⟨⟨by kernel_rfl, ae Tryz.func39 Ic⟩, ⟨trivial, ⟨trivial, ⟨⟨by kernel_rfl, ae Tryz.func73 oM⟩, ⟨⟨by kernel_rfl, ae Tryz.func74 FH⟩, ⟨⟨by kernel_rfl, ae Tryz.func75 EE⟩, ⟨⟨by kernel_rfl, ae Tryz.func76 oc⟩, ⟨⟨by kernel_rfl, ae Tryz.func77 J3⟩, ⟨trivial, ⟨trivial, ⟨trivial, ⟨trivial, ⟨⟨by kernel_rfl, ae Tryz.func116 Cv⟩, ⟨⟨by kernel_rfl, ae Tryz.func117 Cw⟩, ⟨⟨by kernel_rfl, ae Tryz.func118 Cx⟩, ⟨⟨by kernel_rfl, ae Tryz.func119 Cy⟩, ⟨⟨by kernel_rfl, ae Tryz.func120 Cz⟩, ⟨⟨by kernel_rfl, ae Tryz.func121 CA⟩, ⟨trivial, ⟨trivial, ⟨trivial, ⟨trivial, ⟨⟨by kernel_rfl, ae Tryz.func126 CB⟩, ⟨⟨by kernel_rfl, ae Tryz.func127 CC⟩, ⟨⟨by kernel_rfl, ae Tryz.func128 CD⟩, ⟨trivial, ⟨trivial, ⟨trivial, ⟨⟨by kernel_rfl, ae Tryz.func175 A7⟩, ⟨trivial, ⟨trivial, ⟨trivial, ⟨trivial, ⟨trivial, ⟨trivial, ⟨trivial, ⟨trivial, ⟨trivial, ⟨trivial, ⟨trivial, ⟨trivial, ⟨⟨by kernel_rfl, ae Tryz.func4 J4⟩, ⟨trivial, ⟨trivial, ⟨trivial, ⟨trivial, ⟨⟨by kernel_rfl, ae Tryz.func11 OZ⟩, ⟨⟨by kernel_rfl, ae Tryz.func12 Ie⟩, ⟨trivial, ⟨trivial, ⟨trivial, ⟨trivial, ⟨trivial, ⟨trivial, ⟨trivial, ⟨trivial, ⟨⟨by kernel_rfl, ae Tryz.func40 LR⟩, ⟨⟨by kernel_rfl, ae Tryz.func41 Ig⟩, ⟨trivial, ⟨trivial, ⟨⟨by kernel_rfl, ae Tryz.func78 LS⟩, ⟨⟨by kernel_rfl, ae Tryz.func79 EF⟩, ⟨⟨by kernel_rfl, ae Tryz.func80 CE⟩, ⟨⟨by kernel_rfl, ae Tryz.func81 EG⟩, ⟨⟨by kernel_rfl, ae Tryz.func82 Ih⟩, ⟨⟨by kernel_rfl, ae Tryz.func83 EH⟩, ⟨⟨by kernel_rfl, ae Tryz.func84 FI⟩, ⟨⟨by kernel_rfl, ae Tryz.func85 EI⟩, ⟨⟨by kernel_rfl, ae Tryz.func86 EJ⟩, ⟨⟨by kernel_rfl, ae Tryz.func87 EK⟩, ⟨⟨by kernel_rfl, ae Tryz.func88 EL⟩, ⟨⟨by kernel_rfl, ae Tryz.func89 FJ⟩, ⟨⟨by kernel_rfl, ae Tryz.func122 A8⟩, ⟨⟨by kernel_rfl, ae Tryz.func123 EM⟩, ⟨⟨by kernel_rfl, ae Tryz.func124 A9⟩, ⟨⟨by kernel_rfl, ae Tryz.func125 Ba⟩, ⟨⟨by kernel_rfl, ae Tryz.func132 Af⟩, ⟨⟨by kernel_rfl, ae Tryz.func134 FK⟩, ⟨⟨by kernel_rfl, ae Tryz.func137 CF⟩, ⟨⟨by kernel_rfl, ae Tryz.func139 iC⟩, ⟨⟨by kernel_rfl, ae Tryz.func140 Bb⟩, ⟨⟨by kernel_rfl, ae Tryz.func141 Ii⟩, ⟨⟨by kernel_rfl, ae Tryz.func143 FL⟩, ⟨⟨by kernel_rfl, ae Tryz.func144 CG⟩, ⟨⟨by kernel_rfl, ae Tryz.func183 yE⟩, ⟨⟨by kernel_rfl, ae Tryz.func186 yF⟩, ⟨⟨by kernel_rfl, ae Tryz.func205 CH⟩, ⟨⟨by kernel_rfl, ae Tryz.func209 jy⟩, ⟨trivial, ⟨trivial, ⟨trivial, ⟨trivial, ⟨trivial, ⟨trivial, ⟨trivial, ⟨trivial, ⟨trivial, ⟨trivial, ⟨trivial, ⟨trivial, ⟨trivial, ⟨trivial, ⟨trivial, ⟨trivial, ⟨trivial, ⟨trivial, ⟨trivial, ⟨trivial, ⟨trivial, ⟨trivial, ⟨trivial, ⟨trivial, ⟨⟨by kernel_rfl, ae Tryz.func3 Bc⟩, ⟨⟨by kernel_rfl, ae Tryz.func5 O0⟩, ⟨⟨by kernel_rfl, ae Tryz.func6 Bd⟩, ⟨⟨by kernel_rfl, ae Tryz.func8 Be⟩, ⟨⟨by kernel_rfl, ae Tryz.func13 CI⟩, ⟨⟨by kernel_rfl, ae Tryz.func14 Bf⟩, ⟨⟨by kernel_rfl, ae Tryz.func15 Ag⟩, ⟨⟨by kernel_rfl, ae Tryz.func16 Bg⟩, ⟨⟨by kernel_rfl, ae Tryz.func17 wI⟩, ⟨⟨by kernel_rfl, ae Tryz.func18 CJ⟩, ⟨⟨by kernel_rfl, ae Tryz.func19 yG⟩, ⟨⟨by kernel_rfl, ae Tryz.func21 FM⟩, ⟨⟨by kernel_rfl, ae Tryz.func22 CK⟩, ⟨⟨by kernel_rfl, ae Tryz.func23 Ij⟩, ⟨⟨by kernel_rfl, ae Tryz.func24 EN⟩, ⟨⟨by kernel_rfl, ae Tryz.func25 CL⟩, ⟨⟨by kernel_rfl, ae Tryz.func42 Ah⟩, ⟨⟨by kernel_rfl, ae Tryz.func43 Bh⟩, ⟨⟨by kernel_rfl, ae Tryz.func44 J5⟩, ⟨⟨by kernel_rfl, ae Tryz.func45 Ik⟩, ⟨⟨by kernel_rfl, ae Tryz.func47 LU⟩, ⟨⟨by kernel_rfl, ae Tryz.func48 J6⟩, ⟨⟨by kernel_rfl, ae Tryz.func49 J7⟩, ⟨⟨by kernel_rfl, ae Tryz.func50 J8⟩, ⟨⟨by kernel_rfl, ae Tryz.func51 EO⟩, ⟨⟨by kernel_rfl, ae Tryz.func52 FN⟩, ⟨⟨by kernel_rfl, ae Tryz.func53 FO⟩, ⟨⟨by kernel_rfl, ae Tryz.func54 vo⟩, ⟨⟨by kernel_rfl, ae Tryz.func55 uu⟩, ⟨⟨by kernel_rfl, ae Tryz.func91 Il⟩, ⟨⟨by kernel_rfl, ae Tryz.func93 FP⟩, ⟨⟨by kernel_rfl, ae Tryz.func94 vq⟩, ⟨⟨by kernel_rfl, ae Tryz.func95 yH⟩, ⟨⟨by kernel_rfl, ae Tryz.func96 Bi⟩, ⟨⟨by kernel_rfl, ae Tryz.func97 Ai⟩, ⟨⟨by kernel_rfl, ae Tryz.func98 Im⟩, ⟨⟨by kernel_rfl, ae Tryz.func99 LV⟩, ⟨⟨by kernel_rfl, ae Tryz.func100 yI⟩, ⟨⟨by kernel_rfl, ae Tryz.func147 Io⟩, ⟨⟨by kernel_rfl, ae Tryz.func148 Ip⟩, ⟨⟨by kernel_rfl, ae Tryz.func149 CM⟩, ⟨⟨by kernel_rfl, ae Tryz.func150 tu⟩, ⟨⟨by kernel_rfl, ae Tryz.func151 wJ⟩, ⟨⟨by kernel_rfl, ae Tryz.func152 LW⟩, ⟨⟨by kernel_rfl, ae Tryz.func153 xh⟩, ⟨⟨by kernel_rfl, ae Tryz.func154 xi⟩, ⟨⟨by kernel_rfl, ae Tryz.func155 O1⟩, ⟨⟨by kernel_rfl, ae Tryz.func217 Iq⟩, ⟨⟨by kernel_rfl, ae Tryz.func218 J9⟩, ⟨⟨by kernel_rfl, ae Tryz.func219 LX⟩, ⟨⟨by kernel_rfl, ae Tryz.func273 LY⟩, ⟨⟨by kernel_rfl, ae Tryz.func321 Ir⟩, ⟨⟨by kernel_rfl, ae Tryz.func338 Bj⟩, ⟨⟨by kernel_rfl, ae Tryz.func345 rA⟩, trivial⟩⟩⟩⟩⟩⟩⟩⟩⟩⟩⟩⟩⟩⟩⟩⟩⟩⟩⟩⟩⟩⟩⟩⟩⟩⟩⟩⟩⟩⟩⟩⟩⟩⟩⟩⟩⟩⟩⟩⟩⟩⟩⟩⟩⟩⟩⟩⟩⟩⟩⟩⟩⟩⟩⟩⟩⟩⟩⟩⟩⟩⟩⟩⟩⟩⟩⟩⟩⟩⟩⟩⟩⟩⟩⟩⟩⟩⟩⟩⟩⟩⟩⟩⟩⟩⟩⟩⟩⟩⟩⟩⟩⟩⟩⟩⟩⟩⟩⟩⟩⟩⟩⟩⟩⟩⟩⟩⟩⟩⟩⟩⟩⟩⟩⟩⟩⟩⟩⟩⟩⟩⟩⟩⟩⟩⟩⟩⟩⟩⟩⟩⟩⟩⟩⟩⟩⟩⟩⟩⟩⟩⟩⟩⟩⟩⟩⟩⟩⟩⟩⟩⟩⟩⟩⟩⟩⟩⟩⟩⟩⟩⟩⟩⟩⟩⟩⟩⟩⟩⟩⟩⟩⟩⟩⟩⟩⟩⟩⟩⟩⟩⟩⟩⟩⟩⟩⟩⟩⟩⟩⟩⟩⟩⟩⟩⟩⟩⟩⟩⟩⟩⟩⟩⟩⟩⟩⟩⟩⟩⟩⟩⟩⟩⟩⟩⟩⟩⟩⟩⟩⟩⟩⟩⟩⟩⟩⟩⟩⟩⟩⟩⟩⟩⟩⟩⟩⟩⟩⟩⟩⟩⟩⟩⟩⟩⟩⟩⟩⟩⟩⟩⟩⟩⟩⟩⟩⟩⟩⟩⟩⟩⟩⟩⟩⟩⟩⟩⟩⟩⟩⟩⟩⟩⟩⟩⟩⟩⟩⟩⟩⟩⟩⟩⟩⟩⟩⟩⟩⟩⟩⟩⟩⟩⟩⟩⟩⟩⟩⟩⟩⟩⟩⟩⟩⟩⟩⟩⟩⟩⟩⟩⟩⟩⟩⟩⟩⟩⟩⟩⟩⟩⟩⟩⟩⟩⟩⟩⟩⟩⟩⟩⟩⟩⟩⟩⟩⟩⟩⟩⟩⟩⟩⟩⟩⟩⟩⟩⟩⟩⟩⟩⟩⟩⟩⟩⟩⟩⟩⟩⟩⟩⟩⟩⟩⟩⟩⟩⟩⟩⟩⟩⟩⟩⟩⟩⟩⟩⟩⟩⟩⟩⟩⟩⟩⟩⟩⟩⟩⟩⟩⟩⟩⟩⟩⟩⟩⟩⟩⟩⟩⟩⟩⟩⟩⟩⟩⟩⟩⟩⟩⟩⟩⟩⟩⟩⟩⟩⟩⟩⟩⟩⟩⟩⟩⟩⟩⟩⟩⟩⟩⟩⟩⟩⟩⟩⟩⟩⟩⟩⟩⟩⟩⟩⟩⟩⟩⟩⟩⟩⟩⟩⟩⟩⟩⟩⟩⟩⟩⟩⟩⟩⟩⟩⟩⟩⟩⟩⟩⟩⟩⟩⟩⟩⟩⟩⟩⟩⟩⟩⟩⟩⟩⟩⟩⟩⟩⟩⟩⟩⟩⟩⟩⟩⟩⟩⟩⟩⟩⟩⟩⟩⟩⟩⟩⟩⟩⟩⟩⟩⟩⟩⟩⟩⟩⟩⟩⟩⟩⟩⟩⟩⟩⟩⟩⟩⟩⟩⟩⟩⟩⟩⟩⟩⟩⟩⟩⟩⟩⟩⟩⟩⟩⟩⟩⟩⟩⟩⟩⟩⟩⟩⟩⟩⟩⟩⟩⟩⟩⟩⟩⟩⟩⟩⟩⟩⟩⟩⟩⟩⟩⟩⟩⟩⟩⟩⟩⟩⟩⟩⟩⟩⟩⟩⟩⟩⟩⟩⟩⟩⟩⟩⟩⟩⟩⟩⟩⟩⟩⟩⟩⟩⟩⟩⟩⟩⟩⟩⟩⟩⟩⟩⟩⟩⟩⟩⟩⟩⟩⟩⟩⟩⟩⟩⟩⟩⟩⟩⟩⟩⟩⟩⟩⟩⟩⟩⟩⟩⟩⟩⟩⟩⟩⟩⟩⟩⟩⟩⟩⟩⟩⟩⟩⟩⟩⟩⟩⟩⟩⟩⟩⟩⟩⟩⟩⟩⟩⟩⟩⟩⟩⟩⟩⟩⟩⟩⟩⟩⟩⟩⟩⟩⟩⟩⟩⟩⟩⟩⟩
theorem aix : ∀ f j, Names.ρ f = some j → Names.it f = true → GO Tryz.prog j := fun f j hj h => Bool.noConfusion (show false = true from h)
def abJ : List (Nat × List Nat) := [(241, [1]), (260, [2, N.bB]), (300, [3, N.aH]), (582, [6, N.dX, N.dY, N.dZ, N.eb, N.ec, N.eh, N.dw, N.fq, N.dy, N.dz, N.eo, N.et, N.eu])]
def Ka : Go.Shelf.Ren := ⟨fun | 189 => 158 | 125 => 222 | 257 => 221 | 128 => 283 | 129 => 284 | 294 => 274 | 295 => 275 | 296 => 276 | 297 => 277 | 298 => 278 | 299 => 279 | 216 => 280 | 300 => 281 | 301 => 282 | 328 => 322 | 329 => 323 | 330 => 324 | 331 => 325 | 332 => 326 | 215 => 272 | 343 => 339 | n => n, fun | 28 => 32 | 3 => 3 | 46 => 159 | 0 => 0 | 51 => 206 | 53 => 209 | 4 => 4 | 183 => 370 | 182 => 369 | 131 => 247 | 5 => 5 | 9 => 9 | 218 => 407 | 222 => 315 | 228 => 418 | 229 => 419 | n => n, fun | n => n⟩
theorem Ny : Go.Proofs.Lays.n189 Tryz.prog Ka := {
 mixed := by kernel_rfl,
 f125 := Tryz.func222.trans (congrArg some (by kernel_rfl)),
 f128 := Tryz.func283.trans (congrArg some (by kernel_rfl)),
 f129 := Tryz.func284.trans (congrArg some (by kernel_rfl)),
 f189 := Tryz.func158.trans (congrArg some (by kernel_rfl)),
 f215 := Tryz.func272.trans (congrArg some (by kernel_rfl)),
 f216 := Tryz.func280.trans (congrArg some (by kernel_rfl)),
 f257 := Tryz.func221.trans (congrArg some (by kernel_rfl)),
 f294 := Tryz.func274.trans (congrArg some (by kernel_rfl)),
 f295 := Tryz.func275.trans (congrArg some (by kernel_rfl)),
 f296 := Tryz.func276.trans (congrArg some (by kernel_rfl)),
 f297 := Tryz.func277.trans (congrArg some (by kernel_rfl)),
 f298 := Tryz.func278.trans (congrArg some (by kernel_rfl)),
 f299 := Tryz.func279.trans (congrArg some (by kernel_rfl)),
 f300 := Tryz.func281.trans (congrArg some (by kernel_rfl)),
 f301 := Tryz.func282.trans (congrArg some (by kernel_rfl)),
 f328 := Tryz.func322.trans (congrArg some (by kernel_rfl)),
 f329 := Tryz.func323.trans (congrArg some (by kernel_rfl)),
 f330 := Tryz.func324.trans (congrArg some (by kernel_rfl)),
 f331 := Tryz.func325.trans (congrArg some (by kernel_rfl)),
 f332 := Tryz.func326.trans (congrArg some (by kernel_rfl)),
 f343 := Tryz.func339.trans (congrArg some (by kernel_rfl)),
 t0 := Tryz.underlying0,
 a0 := Tryz.isAgg0,
 z0 := Tryz.sizeOf0,
 v0 := Tryz.zeroValue0,
 t3 := Tryz.underlying3,
 a3 := Tryz.isAgg3,
 z3 := Tryz.sizeOf3,
 v3 := Tryz.zeroValue3,
 t4 := Tryz.underlying4,
 a4 := Tryz.isAgg4,
 z4 := Tryz.sizeOf4,
 v4 := Tryz.zeroValue4,
 t5 := Tryz.underlying5,
 a5 := Tryz.isAgg5,
 z5 := Tryz.sizeOf5,
 v5 := Tryz.zeroValue5,
 t9 := Tryz.underlying9,
 a9 := Tryz.isAgg9,
 z9 := Tryz.sizeOf9,
 v9 := Tryz.zeroValue9,
 t28 := Tryz.underlying32,
 a28 := Tryz.isAgg32,
 z28 := Tryz.sizeOf32,
 v28 := Tryz.zeroValue32,
 t46 := Tryz.underlying159,
 a46 := Tryz.isAgg159,
 z46 := Tryz.sizeOf159,
 v46 := Tryz.zeroValue159,
 t51 := Tryz.underlying206,
 a51 := Tryz.isAgg206,
 z51 := Tryz.sizeOf206,
 v51 := Tryz.zeroValue206,
 t53 := Tryz.underlying209,
 a53 := Tryz.isAgg209,
 z53 := Tryz.sizeOf209,
 v53 := Tryz.zeroValue209,
 t131 := Tryz.underlying247,
 a131 := Tryz.isAgg247,
 z131 := Tryz.sizeOf247,
 v131 := Tryz.zeroValue247,
 t182 := Tryz.underlying369,
 a182 := Tryz.isAgg369,
 z182 := Tryz.sizeOf369,
 v182 := Tryz.zeroValue369,
 t183 := Tryz.underlying370,
 a183 := Tryz.isAgg370,
 z183 := Tryz.sizeOf370,
 v183 := Tryz.zeroValue370,
 t218 := Tryz.underlying407,
 a218 := Tryz.isAgg407,
 z218 := Tryz.sizeOf407,
 v218 := Tryz.zeroValue407,
 t222 := Tryz.underlying315,
 a222 := Tryz.isAgg315,
 z222 := Tryz.sizeOf315,
 v222 := Tryz.zeroValue315,
 t228 := Tryz.underlying418,
 a228 := Tryz.isAgg418,
 z228 := Tryz.sizeOf418,
 v228 := Tryz.zeroValue418,
 t229 := Tryz.underlying419,
 a229 := Tryz.isAgg419,
 z229 := Tryz.sizeOf419,
 v229 := Tryz.zeroValue419 }
theorem VF : ∀ j, Names.ρ 241 = some j → sE Tryz.prog j [1] := fun j hj => by
 have e : (Names.ρ 241 : Option Nat) = some 158 := by kernel_rfl
 rw [e] at hj; cases hj; exact SD Ny
def FQ : Go.Shelf.Ren := ⟨fun | 6 => 107 | 8 => 157 | 9 => 158 | 11 => 220 | 13 => 222 | 12 => 221 | 23 => 283 | 24 => 284 | 14 => 274 | 15 => 275 | 16 => 276 | 17 => 277 | 18 => 278 | 19 => 279 | 20 => 280 | 21 => 281 | 22 => 282 | 25 => 322 | 26 => 323 | 27 => 324 | 28 => 325 | 29 => 326 | 30 => 272 | 31 => 339 | n => n, fun | 26 => 3 | 28 => 217 | 24 => 32 | 0 => 0 | 3 => 3 | 37 => 159 | 48 => 206 | 50 => 209 | 4 => 4 | 40 => 370 | 39 => 369 | 45 => 247 | 5 => 5 | 9 => 9 | 51 => 407 | 55 => 315 | 57 => 418 | 58 => 419 | 33 => 93 | n => n, fun | n => n⟩
theorem O2 : Go.Proofs.SlLaysZI.n6 Tryz.prog FQ := {
 f6 := ⟨"slices.Sorted[int]", by kernel_rfl, Tryz.func107.trans (congrArg some (by kernel_rfl))⟩,
 f8 := ⟨"slices.Collect[int]", by kernel_rfl, Tryz.func157.trans (congrArg some (by kernel_rfl))⟩,
 f11 := ⟨"slices.AppendSeq[[]int,int]", by kernel_rfl, Tryz.func220.trans (congrArg some (by kernel_rfl))⟩,
 mixed := by kernel_rfl,
 t0 := Tryz.underlying0,
 a0 := Tryz.isAgg0,
 z0 := Tryz.sizeOf0,
 v0 := Tryz.zeroValue0,
 t24 := Tryz.underlying32,
 a24 := Tryz.isAgg32,
 z24 := Tryz.sizeOf32,
 v24 := Tryz.zeroValue32,
 t26 := Tryz.underlying3,
 a26 := Tryz.isAgg3,
 z26 := Tryz.sizeOf3,
 v26 := Tryz.zeroValue3,
 t28 := Tryz.underlying217,
 a28 := Tryz.isAgg217,
 z28 := Tryz.sizeOf217,
 v28 := Tryz.zeroValue217,
 i26 := by kernel_rfl }
section
open Go.RowKit Go.Shelf Go.Maps Go.Sort Go.Proofs
/- the iterator of slices.Values at this program -/
set_option maxRecDepth 100000 in
set_option maxHeartbeats 2000000 in
theorem anZ (n l Bs : Nat) (hn : 1 ≤ n) (W0 : World) (b off len cap : Nat) (zs : List Int) (hlen : zs.length = len) (hreach : len * 8 ≤ 140737488351232) (hb : b < W0.heap.size) (J : List Int → World → Prop)
 (hJ : ∀ s W1, J s W1 → Below W0.heap.size W0 W1)
 (hY : ∀ pre x W1, J pre W1 → pre.length < zs.length → YieldAt Fence.wide (n - 1) Tryz.prog l #[encZ x] W1 fun e W' => e = .returned (.bool true) ∧ J (pre ++ [x]) W' ∧ KeepsWalks W1 W')
 (W : World) (hBs : W.cell? ⟨Bs, 0, none⟩ = some (.slice (some ⟨b, off, none⟩) len cap)) (hc : ∀ j, j < len → W0.cell? ⟨b, off + j, none⟩ = some (.int .i64 (zs[j]?.getD 0))) (h0 : J [] W) :
 CallsIn Fence.wide n Tryz.prog 159 #[.func (.yield l) #[] #[], .pointer (some ⟨Bs, 0, none⟩)] W fun e W' => (∃ v, e = .returned v) ∧ J zs W' := by
 have step : ∀ k, k < zs.length → zs.take k ++ [zs[k]?.getD 0] = zs.take (k + 1) := fun k hk => by
  rw [List.take_succ_eq_append_getElem hk]; simp [hk]
 refine callsIn_of_wp Tryz.func159 rfl trivial ?_ rfl
 simp only [Tryz.ntmps159, List.size_toArray, List.length_cons, List.length_nil, Nat.reduceAdd, Nat.reduceSub, Array.replicate_succ, Array.replicate_zero, List.push_toArray, List.append_toArray, List.nil_append, List.cons_append]
 gi_wp2
 gi_loopw [7] (fun i wr => ∃ k : Nat, k ≤ len ∧ i = .int .i64 k ∧ J (zs.take k) wr)
  (fun i _ => len - (intOf i).toNat)
 case atStart => exact ⟨0, Nat.zero_le _, rfl, h0⟩
 case round =>
  obtain ⟨k, hk, rfl, hJs⟩ := hrel
  by_cases hlt : k < len
  · have hcx : wr.cell? ⟨b, off + k, none⟩ = some (.int .i64 (zs[k]?.getD 0)) := ((hJ _ _ hJs).cell (p := ⟨b, off + k, none⟩) hb).trans (hc k hlt)
    have st := step k (by omega)
    generalize zs[k]?.getD 0 = x at hcx st
    obtain ⟨fn, tmps, assign, body, hy, hR⟩ := hY _ x wr hJs (by rw [List.length_take]; omega)
    clear step
    gi_wp2
    refine hR.mono ?_
    rintro e W3 ⟨rfl, hJ3, -⟩
    gi_wp2
    go_roundw
    case rel => exact ⟨k + 1, by omega, by simp, by rw [← st]; exact hJ3⟩
    case measure => simp [intOf]; omega
  · obtain rfl : k = len := by omega
    gi_wp2
    go_end0
    exact ⟨⟨_, rfl⟩, by rw [← hlen, List.take_length] at hJs; exact hJs⟩
set_option maxRecDepth 100000 in
set_option maxHeartbeats 1000000 in
theorem an0 (n l Bs : Nat) (p : Option Addr) (cap : Nat) (J : List Int → World → Prop) (W : World) (hBs : W.cell? ⟨Bs, 0, none⟩ = some (.slice p 0 cap)) (h0 : J [] W) :
 CallsIn Fence.wide n Tryz.prog 159 #[.func (.yield l) #[] #[], .pointer (some ⟨Bs, 0, none⟩)] W fun e W' => (∃ v, e = .returned v) ∧ J [] W' := by
 refine callsIn_of_wp Tryz.func159 rfl trivial ?_ rfl
 simp only [Tryz.ntmps159, List.size_toArray, List.length_cons, List.length_nil, Nat.reduceAdd, Nat.reduceSub, Array.replicate_succ, Array.replicate_zero, List.push_toArray, List.append_toArray, List.nil_append, List.cons_append]
 gi_wp2
 gi_loopw [7] (fun i wr => i = .int .i64 0 ∧ J [] wr) (fun _ _ => 0)
 case atStart => exact ⟨rfl, h0⟩
 case round =>
  obtain ⟨rfl, hJs⟩ := hrel
  gi_wp2
  go_end0
  exact ⟨⟨_, rfl⟩, hJs⟩
theorem abK : SE Tryz.prog 159 := by
 intro n Bs sv zs w hn hreach hBs hcell hI l J W hW hJ hY h0
 have hc' := (hW.cell (p := ⟨Bs, 0, none⟩) hBs).trans hcell
 rcases hI with ⟨p, cap, rfl, rfl⟩ | ⟨b, off, cap, rfl, hb, hcs⟩
 · exact an0 n l Bs p cap J W hc' h0
 · exact anZ n l Bs hn w b off zs.length cap zs rfl hreach hb J hJ hY W hc' hcs h0
end
theorem VG : ∀ j, Names.ρ 260 = some j → sE Tryz.prog j [2, N.bB] := fun j hj => by
 have e : (Names.ρ 260 : Option Nat) = some 107 := by kernel_rfl
 rw [e] at hj; cases hj; exact LD O2 Ny (by kernel_rfl) (Go.Proofs.enters_of Tryz.func158 (by kernel_rfl) rfl) (by kernel_rfl) (Go.Proofs.enters_of Tryz.func159 (by kernel_rfl) rfl) abK
def SL : Go.Shelf.Ren := ⟨fun | 8 => 331 | 11 => 341 | n => n, fun | 0 => 0 | 24 => 69 | 26 => 172 | 28 => 387 | 33 => 232 | n => n, fun n => n⟩
theorem an1 : Go.Proofs.ait Tryz.prog SL := {
 mixed := by kernel_rfl,
 f8 := ⟨"slices.Collect[minecontrol/api.World]", by kernel_rfl, Tryz.func331.trans (congrArg some (by kernel_rfl))⟩,
 f11 := ⟨"slices.AppendSeq[[]minecontrol/api.World,minecontrol/api.World]", by kernel_rfl, Tryz.func341.trans (congrArg some (by kernel_rfl))⟩,
 t0 := Tryz.underlying0,
 a0 := Tryz.isAgg0,
 z0 := Tryz.sizeOf0,
 v0 := Tryz.zeroValue0,
 t24 := Tryz.underlying69,
 a24 := Tryz.isAgg69,
 z24 := Tryz.sizeOf69,
 v24 := Tryz.zeroValue69,
 t26 := ⟨_, Tryz.underlying172⟩,
 a26 := Tryz.isAgg172,
 z26 := Tryz.sizeOf172,
 v26 := Tryz.zeroValue172,
 t28 := Tryz.underlying387,
 a28 := Tryz.isAgg387,
 z28 := Tryz.sizeOf387,
 v28 := Tryz.zeroValue387,
 i26 := by kernel_rfl }
section
open Go.RowKit Go.Shelf Go.Maps Go.Sort Go.Proofs
/- the iterator of slices.Values of structures of two cells at this program -/
set_option maxRecDepth 100000 in
set_option maxHeartbeats 2000000 in
theorem aiy (n l Bs : Nat) (hn : 1 ≤ n) (W0 : World) (b off len cap : Nat) (zs : List (Value × Value)) (hlen : zs.length = len) (hone : ∀ x ∈ zs, x.1.oneCell' = true ∧ x.2.oneCell' = true) (hreach : len * 48 ≤ 140737488351232) (hb : b < W0.heap.size) (J : List (Value × Value) → World → Prop)
 (hJ : ∀ s W1, J s W1 → Below W0.heap.size W0 W1) (hA : ∀ s W1 o, J s W1 → J s (W1.alloc o))
 (hY : ∀ pre x W1, J pre W1 → pre.length < zs.length → x ∈ zs → YieldAt Fence.wide (n - 1) Tryz.prog l #[ais x] W1 fun e W' => e = .returned (.bool true) ∧ J (pre ++ [x]) W' ∧ KeepsWalks W1 W')
 (W : World) (hBs : W.cell? ⟨Bs, 0, none⟩ = some (.slice (some ⟨b, off, none⟩) len cap)) (hc : ∀ j p, zs[j]? = some p → W0.cell? ⟨b, off + j * 2, none⟩ = some p.1 ∧ W0.cell? ⟨b, off + j * 2 + 1, none⟩ = some p.2) (h0 : J [] W) :
 CallsIn Fence.wide n Tryz.prog 333 #[.func (.yield l) #[] #[], .pointer (some ⟨Bs, 0, none⟩)] W fun e W' => (∃ v, e = .returned v) ∧ J zs W' := by
 have step : ∀ k x, zs[k]? = some x → zs.take k ++ [x] = zs.take (k + 1) := fun k x hk => by
  rw [List.take_add_one, hk]; rfl
 refine callsIn_of_wp Tryz.func333 rfl trivial ?_ rfl
 simp only [Tryz.ntmps333, List.size_toArray, List.length_cons, List.length_nil, Nat.reduceAdd, Nat.reduceSub, Array.replicate_succ, Array.replicate_zero, List.push_toArray, List.append_toArray, List.nil_append, List.cons_append]
 gi_wp2
 gi_loopw [7] (fun i wr => ∃ k : Nat, k ≤ len ∧ i = .int .i64 k ∧ J (zs.take k) wr)
  (fun i _ => len - (intOf i).toNat)
 case atStart => exact ⟨0, Nat.zero_le _, rfl, h0⟩
 case round =>
  obtain ⟨k, hk, rfl, hJs⟩ := hrel
  by_cases hlt : k < len
  · obtain ⟨x, hx⟩ : ∃ x, zs[k]? = some x := ⟨_, List.getElem?_eq_getElem (by omega)⟩
    have hcx0 : wr.cell? ⟨b, off + k * 2, none⟩ = some x.1 := ((hJ _ _ hJs).cell (p := ⟨b, off + k * 2, none⟩) hb).trans (hc k x hx).1
    have hcx1 : wr.cell? ⟨b, off + k * 2 + 1, none⟩ = some x.2 := ((hJ _ _ hJs).cell (p := ⟨b, off + k * 2 + 1, none⟩) hb).trans (hc k x hx).2
    have hm : x ∈ zs := List.mem_of_getElem? hx
    have st := step k x hx
    obtain ⟨hx1, hx2⟩ := hone x hm
    have hst := JK Tryz.prog wr x.1 x.2 (.slice none 0 0) (.slice none 0 0) 172 hx1 hx2
    have cA0 : (wr.alloc (.cells #[x.1, x.2] 172)).cell? ⟨wr.heap.size, 0, none⟩ = some x.1 := pY wr x.1 x.2 172 0 x.1 rfl
    have cA1 : (wr.alloc (.cells #[x.1, x.2] 172)).cell? ⟨wr.heap.size, 1, none⟩ = some x.2 := pY wr x.1 x.2 172 1 x.2 rfl
    obtain ⟨fn, tmps, assign, body, hy, hR⟩ := hY _ x _ (hA _ _ (.cells #[x.1, x.2] 172) hJs) (by rw [List.length_take]; omega) hm
    clear step hone hc
    gi_wp2
    refine hR.mono ?_
    rintro e W3 ⟨rfl, hJ3, -⟩
    gi_wp2
    go_roundw
    case rel => exact ⟨k + 1, by omega, by simp, by rw [← st]; exact hJ3⟩
    case measure => simp [intOf]; omega
  · obtain rfl : k = len := by omega
    gi_wp2
    go_end0
    exact ⟨⟨_, rfl⟩, by rw [← hlen, List.take_length] at hJs; exact hJs⟩
set_option maxRecDepth 100000 in
set_option maxHeartbeats 1000000 in
theorem aiz (n l Bs : Nat) (p : Option Addr) (cap : Nat) (J : List (Value × Value) → World → Prop) (W : World) (hBs : W.cell? ⟨Bs, 0, none⟩ = some (.slice p 0 cap)) (h0 : J [] W) :
 CallsIn Fence.wide n Tryz.prog 333 #[.func (.yield l) #[] #[], .pointer (some ⟨Bs, 0, none⟩)] W fun e W' => (∃ v, e = .returned v) ∧ J [] W' := by
 refine callsIn_of_wp Tryz.func333 rfl trivial ?_ rfl
 simp only [Tryz.ntmps333, List.size_toArray, List.length_cons, List.length_nil, Nat.reduceAdd, Nat.reduceSub, Array.replicate_succ, Array.replicate_zero, List.push_toArray, List.append_toArray, List.nil_append, List.cons_append]
 gi_wp2
 gi_loopw [7] (fun i wr => i = .int .i64 0 ∧ J [] wr) (fun _ _ => 0)
 case atStart => exact ⟨rfl, h0⟩
 case round =>
  obtain ⟨rfl, hJs⟩ := hrel
  gi_wp2
  go_end0
  exact ⟨⟨_, rfl⟩, hJs⟩
theorem VH : SJ Tryz.prog 333 := by
 intro n Bs sv zs w hn hone hreach hBs hcell hI l J W hW hJ hA hY h0
 have hc' := (hW.cell (p := ⟨Bs, 0, none⟩) hBs).trans hcell
 rcases hI with ⟨p, cap, rfl, rfl⟩ | ⟨b, off, cap, rfl, hb, hcs⟩
 · exact aiz n l Bs p cap J W hc' h0
 · exact aiy n l Bs hn w b off zs.length cap zs rfl hone hreach hb J hJ hA hY W hc' hcs h0
end
theorem VI : ∀ j, Names.ρ 300 = some j → sE Tryz.prog j [3, N.aH] := fun j hj => by
 have e : (Names.ρ 300 : Option Nat) = some 331 := by kernel_rfl
 rw [e] at hj; cases hj; exact JL an1 (by kernel_rfl) (Go.Proofs.enters_of Tryz.func333 (by kernel_rfl) rfl) VH
section
open Go.RowKit Go.Maps Go.Proofs
theorem mmE (t : TypeId) (w : Go.World) : (Instr.makeMap t none).run Tryz.prog w = .ok (.map (some w.heap.size)) (w.alloc (.map (AZ []) ([] : List Nat).length)) := rfl
theorem an2 (n j : Nat) (w : Go.World) (h : ([116, 117, 118, 119, 120, 121, 122, 123, 124, 125, 126, 127, 128] : List Nat)[n]? = some j) : Calls Tryz.prog 78 #[.int .i64 (n + 1)] w fun e w' => e = .returned (.func (.func j) #[] #[]) ∧ w' = w.alloc (.map (AZ [116, 117, 118, 119, 120, 121, 122, 123, 124, 125, 126, 127, 128]) ([116, 117, 118, 119, 120, 121, 122, 123, 124, 125, 126, 127, 128] : List Nat).length) := by
 have hmm := mmE
 go_enter Tryz.func78, Tryz.ntmps78
 go_wp2_with (first
  | (at_lookup; refine OW w rfl _ _ 227 rfl 3 188 Tryz.underlying227 Tryz.underlying3 rfl [116, 117, 118, 119, 120, 121, 122, 123, 124, 125, 126, 127, 128] n j rfl h 13 ?_)
  | (refine OV w rfl _ _ _ 227 rfl 3 188 Tryz.underlying227 Tryz.underlying3 rfl _ _ rfl rfl ?_)
  | go_in)
 go_ret
 exact ⟨rfl, rfl⟩
end
theorem VJ : ∀ j, Names.ρ 582 = some j → sE Tryz.prog j [6, N.dX, N.dY, N.dZ, N.eb, N.ec, N.eh, N.dw, N.fq, N.dy, N.dz, N.eo, N.et, N.eu] := fun j hj => by
 have e : (Names.ρ 582 : Option Nat) = some 78 := by kernel_rfl
 rw [e] at hj; cases hj; exact OX (ids := [116, 117, 118, 119, 120, 121, 122, 123, 124, 125, 126, 127, 128]) (by kernel_rfl) an2
theorem VK : ∀ x ∈ abJ, ∀ j, Names.ρ x.1 = some j → sE Tryz.prog j x.2 := by
 intro x hx
 simp only [abJ, List.mem_cons, List.not_mem_nil, or_false] at hx
 rcases hx with rfl | rfl | rfl | rfl
 · exact VF
 · exact VG
 · exact VI
 · exact VJ
end Go.Proofs.YtgpjgilnofjbdaaGreat
