/- MADE BY PROGRAM (lib.py): the numbers that the functions have in this program, and the check of each one. -/
import Derived.Test.YtjibfckckknjkaaGreatProg
import Derived.Maps.OwnOps
import Derived.WalkKit
import Derived.Test.YtjibfckckknjkaaGreatZPD
import Derived.KernelRfl
set_option linter.all false
set_option maxRecDepth 100000
namespace Go.Proofs.YtjibfckckknjkaaGreat
open Go.Ev
def real : List (Option Nat) := [none, some 4, none, some 6, some 7, none, some 8, some 9, some 10, some 11, some 12, some 38, some 18, none, some 20, some 24, some 30, some 25, some 26, some 27, some 28, some 29, some 31, some 32, some 19, some 93, some 48, none, some 61, some 62, some 63, some 64, some 65, some 66, some 67, some 68, some 69, some 70, some 71, some 72, some 73, some 74, some 75, some 76, some 77, some 78, some 79, some 46, some 47, some 53, some 152, some 153, some 97, some 98, some 130, some 131, some 132, some 133, some 134, some 135, some 136, some 137, some 138, some 139, some 140, some 141, some 106, some 206, some 154, some 155, some 156, some 37, some 195, some 196, some 197, some 207, some 261, some 318, none, none, none, none, none, none, none, none, some 240, some 241, some 242, none, some 52, none, none, none, none, none, none, none, none, none, some 344, none, none, some 300, some 307, some 81, none, none, none, none, some 129, some 183, none, none, none, some 193, some 107, some 194, some 251, some 260, none, none, none, none, none, none, none, none, some 186, none, none, none, none, none, none, none, some 253, none, none, none, none, none, none, none, none, some 308, some 309, some 310, some 348, none, none, none, none, none, some 50, some 212, none, none, none, some 103, some 104, some 105, some 35, none, none, none, none, some 82, some 160, some 161, some 162, some 163, some 84, some 142, some 209, none, some 211, some 198, none, none, none, none, none, none, none, none, some 108, none, none, some 339, some 92, none, none, none, some 343, none, none, none, some 164, some 150, some 151, some 149, some 88, none, some 94, none, none, none, some 204, some 205, some 203, some 273, some 324, some 353, some 356, none, none, none, none, none, none, none, none, some 55, some 235, some 236, none, none, some 238, none, some 216, none, none, none, none, none, none, none, none, some 295, some 296, some 145, none, some 342, some 342, none, none, none, none, none, none, some 14, none, some 34, none, none, none, some 36, some 80, some 83, some 85, some 86, some 87, some 89, some 90, some 91, some 143, some 146, some 147, some 148, some 202, none, none, none, none, none, none, none, some 56, none, none, none, none, none, none, none, none, none, none, some 167, some 291, none, none, none, none, none, none, some 336, some 337, some 338, some 359, some 360, some 361, some 367, some 370, some 371, none, none, some 167, none, none, none, none, none, none, none, some 239, none, none, some 292, none, none, none, some 297, some 298, some 299, none, none, none, none, some 110, some 111, none, none, none, none, none, none, none, some 49, none, none, some 217, some 109, none, none, none, none, none, none, some 99, some 100, some 101, some 102, none, none, none, none, none, some 274, some 165, some 166, none, none, none, none, none, none, none, some 157, some 158, some 159, some 213, some 184, some 214, some 215, none, none, none, some 208, some 252, some 102, none, none, none, none, none, none, none, none, none, none, none, none, none, none, some 57, none, none, none, none, none, none, none, none, none, none, none, none, none, none, none, none, none, none, none, none, none, none, none, none, none, none, none, none, none, none, none, none, none, none, none, none, none, none, none, some 51, none, some 190, none, none, none, none, none, none, none, none, none, none, none, none, none, none, none, none, none, none, none, none, none, none, none, none, none, none, none, none, none, none, none, none, none, none, none, none, none, none, none, none, none, none, none, none, none, none, none, none, none, none, none, none, none, none, none, none, none, none, none, none, none, none, none, none, none, none, none, none, none, none, none, none, none, none, some 21, none, none, none, none, none, none, none, some 54, some 58, none, none, some 112, some 113, some 114, some 115, some 116, none, none, none, none, some 168, some 169, some 170, some 171, some 172, some 173, none, none, none, none, some 178, some 179, some 180, none, none, none, some 226, none, none, none, none, none, none, none, none, none, none, none, some 3, some 5, some 13, some 15, some 16, some 17, some 22, some 23, some 33, some 39, some 40, some 41, some 42, some 43, some 44, some 45, some 59, some 60, some 95, some 96, some 117, some 118, some 119, some 120, some 121, some 122, some 123, some 124, some 125, some 126, some 127, some 128, some 174, some 175, some 176, some 177, some 181, some 182, some 185, some 187, some 188, some 189, some 191, some 192, some 234, some 237, some 250, some 254, none, none, none, none]
def tab : List (Option Go.Ev.Fn) := [none, some K.kF, none, some K.mZ, some K.dw, none, some K.cg, some K.cP, some K.cQ, some K.aC, some K.cA, some K.bJ, some K.jE, none, some K.cR, some K.dE, some K.dU, some K.eW, some K.cZ, some K.eX, some K.bP, some K.jF, some K.fw, some K.nj, some K.fx, some K.cT, some K.dy, none, some K.di, some K.gz, some K.lG, some K.hX, some K.kG, some K.jf, some K.bX, some K.fT, some K.fD, some K.fE, some K.dL, some K.bT, some K.kH, some K.fF, some K.kI, some K.fG, some K.dP, some K.kx, some K.dQ, some K.dj, some K.dz, some K.aq, some K.cj, some K.aO, some K.cC, some K.dA, some K.jG, some K.kJ, some K.ez, some K.ic, some K.fH, some K.jH, some K.gA, some K.dT, some K.dB, some K.jI, some K.dk, some K.gB, some K.bL, some K.b7, some K.cD, some K.ax, some K.bN, some K.aU, some K.fI, some K.eu, some K.jJ, some K.aN, some K.cK, some K.kK, none, none, none, none, none, none, none, none, some K.nU, some K.jX, some K.lJ, none, some K.fX, none, none, none, none, none, none, none, none, none, some K.lK, none, none, some K.b8, some K.iO, some K.bZ, none, none, none, none, some K.gY, some K.mG, none, none, none, some K.jY, some K.mH, some K.mI, some K.jZ, some K.j3, none, none, none, none, none, none, none, none, some K.lL, none, none, none, none, none, none, none, some K.nV, none, none, none, none, none, none, none, none, some K.eZ, some K.j4, some K.j5, some K.eC, none, none, none, none, none, some K.lM, some K.j6, none, none, none, some K.lN, some K.bQ, some K.dR, some K.gE, none, none, none, none, some K.cM, some K.aY, some K.iP, some K.iQ, some K.dG, some K.dg, some K.kO, some K.bj, none, some K.fY, some K.ig, none, none, none, none, none, none, none, none, some K.j7, none, none, some K.lO, some K.ga, none, none, none, some K.j8, none, none, none, some K.gO, some K.cI, some K.fq, some K.dH, some K.bw, none, some K.ah, some K.cV, none, none, some K.dW, some K.bK, some K.cy, some K.m6, some K.m7, some K.gg, some K.kP, none, none, none, none, none, none, none, none, some K.nW, some K.pY, some K.lQ, none, none, some K.pZ, none, some K.lT, none, none, none, none, none, none, none, none, some K.oX, some K.p4, some K.dq, none, some K.lU, some K.gP, none, none, none, none, none, none, some K.bI, none, some K.dt, none, none, none, some K.fL, some K.bO, some K.az, some K.cr, some K.bD, some K.gj, some K.bB, some K.ak, some K.ed, some K.aF, some K.a7, some K.cW, some K.aB, some K.cmp_isNaN_int, none, none, none, none, none, none, none, some K.lV, none, none, none, none, none, none, none, none, none, none, some K.lW, some K.lX, none, none, none, none, none, none, some K.bz, some K.bA, some K.iR, some K.b5, some K.aQ, some K.aI, some K.bG, some K.aR, some K.a8, none, none, some K.fP, none, none, none, none, none, none, none, some K.p7, none, none, some K.lY, none, none, none, some K.lZ, some K.iS, some K.p8, none, none, none, none, some K.aP, some K.aS, none, none, none, none, none, none, none, some K.ma, none, none, some K.mh, some K.nY, none, none, none, none, none, none, some K.fe, some K.iT, some K.iU, some K.j9, none, none, none, none, none, some K.ka, some K.ko, some K.nZ, none, none, none, none, none, none, none, some K.eD, some K.aG, some K.aX, some K.iV, some K.aE, some K.iW, some K.iX, none, none, none, some K.aL, some K.aV, some K.gk, none, none, none, none, none, none, none, none, none, none, none, none, none, none, some K.n5, none, none, none, none, none, none, none, none, none, none, none, none, none, none, none, none, none, none, none, none, none, none, none, none, none, none, none, none, none, none, none, none, none, none, none, none, none, none, none, some K.n9, none, some K.mi, none, none, none, none, none, none, none, none, none, none, none, none, none, none, none, none, none, none, none, none, none, none, none, none, none, none, none, none, none, none, none, none, none, none, none, none, none, none, none, none, none, none, none, none, none, none, none, none, none, none, none, none, none, none, none, none, none, none, none, none, none, none, none, none, none, none, none, none, none, none, none, none, none, none, some K.oa, none, none, none, none, none, none, none, some K.kc, some K.im, none, none, some K.bH, some K.iY, some K.gK, some K.bC, some K.oc, none, none, none, none, some K.eJ, some K.eL, some K.eM, some K.eO, some K.eQ, some K.eR, none, none, none, none, some K.eT, some K.eU, some K.eV, none, none, none, some K.dv, none, none, none, none, none, none, none, none, none, none, none, some K.dX, some K.kQ, some K.jQ, some K.kR, some K.ew, some K.kS, some K.sn, some K.mj, some K.iq, some K.ff, some K.ft, some K.fy, some K.kT, some K.fh, some K.ir, some K.gl, some K.qa, some K.mr, some K.bE, some K.gn, some K.qb, some K.iZ, some K.fQ, some K.i4, some K.mu, some K.i5, some K.kd, some K.i6, some K.i7, some K.i9, some K.ja, some K.ke, some K.dY, some K.fR, some K.dZ, some K.eb, some K.fA, some K.jb, some K.gQ, some K.aH, some K.gp, some K.kp, some K.kf, some K.gR, some K.eE, some K.eG, some K.gS, some K.aM, none, none, none, none]
instance names : Names := { ρ := fun f => (real[f]?).join }
instance lib : Lib := ⟨fun f => (tab[f]?).join⟩
instance has1 : dM := ⟨rfl, rfl, rfl, rfl, rfl, rfl, rfl, rfl, rfl, rfl, rfl, rfl, rfl, rfl, rfl, rfl, rfl, rfl, rfl, rfl, rfl, rfl, rfl, rfl, rfl, rfl, rfl, rfl, rfl, rfl, rfl, rfl⟩
instance has2 : dh := ⟨rfl, rfl, rfl, rfl, rfl, rfl, rfl, rfl, rfl, rfl, rfl, rfl, rfl, rfl, rfl, rfl, rfl, rfl, rfl, rfl, rfl, rfl, rfl, rfl, rfl, rfl, rfl, rfl, rfl, rfl, rfl, rfl, rfl, rfl, rfl, rfl, rfl, rfl, rfl, rfl, rfl⟩
instance has3 : o6 := ⟨rfl, rfl, rfl, rfl⟩
instance has4 : ns := ⟨rfl, rfl, rfl, rfl, rfl, rfl, rfl, rfl, rfl, rfl, rfl⟩
instance has5 : rP := ⟨rfl, rfl, rfl, rfl, rfl, rfl⟩
instance has6 : lz := ⟨rfl, rfl, rfl, rfl, rfl, rfl, rfl, rfl, rfl, rfl, rfl⟩
instance has7 : mM := ⟨rfl, rfl, rfl, rfl, rfl⟩
instance has8 : qI := ⟨rfl, rfl, rfl⟩
instance has9 : od := ⟨rfl, rfl, rfl, rfl, rfl, rfl, rfl, rfl, rfl, rfl, rfl, rfl, rfl, rfl, rfl⟩
instance has10 : kA := ⟨rfl, rfl, rfl, rfl, rfl, rfl, rfl, rfl, rfl, rfl⟩
instance has11 : km := ⟨rfl, rfl, rfl, rfl, rfl, rfl, rfl, rfl, rfl, rfl, rfl, rfl, rfl, rfl, rfl, rfl⟩
instance has12 : ad1 := ⟨rfl⟩
instance has13 : BD := ⟨rfl, rfl, rfl, rfl, rfl, rfl, rfl, rfl, rfl, rfl, rfl, rfl⟩
instance has14 : Pb := ⟨rfl, rfl, rfl, rfl, rfl⟩
instance has15 : YH := ⟨rfl, rfl⟩
instance has16 : VH := ⟨rfl, rfl, rfl⟩
instance has17 : Kh := ⟨rfl, rfl, rfl, rfl, rfl, rfl, rfl⟩
instance has18 : D0 := ⟨rfl, rfl, rfl, rfl, rfl, rfl, rfl, rfl, rfl, rfl⟩
instance has19 : ad2 := ⟨rfl⟩
instance has21 : ad3 := ⟨rfl⟩
instance has22 : ad4 := ⟨rfl⟩
instance has28 : VI := ⟨rfl, rfl, rfl⟩
instance has29 : xU := ⟨rfl, rfl, rfl, rfl, rfl, rfl, rfl, rfl, rfl, rfl, rfl, rfl, rfl, rfl, rfl⟩
instance has30 : iG := ⟨rfl, rfl, rfl, rfl, rfl, rfl, rfl, rfl, rfl, rfl, rfl, rfl, rfl, rfl, rfl, rfl, rfl, rfl, rfl, rfl, rfl, rfl, rfl, rfl, rfl, rfl, rfl, rfl, rfl, rfl, rfl, rfl, rfl⟩
instance has31 : pL := ⟨rfl, rfl, rfl, rfl, rfl, rfl, rfl, rfl, rfl, rfl, rfl, rfl, rfl, rfl, rfl⟩
theorem MS : ay Tryz.prog Tryz.f4 K.kF = true := by kernel_rfl
theorem Pj : ay Tryz.prog Tryz.f6 K.mZ = true := by kernel_rfl
theorem D3 : ay Tryz.prog Tryz.f7 K.dw = true := by kernel_rfl
theorem BQ : ay Tryz.prog Tryz.f8 K.cg = true := by kernel_rfl
theorem CJ : ay Tryz.prog Tryz.f9 K.cP = true := by kernel_rfl
theorem BR : ay Tryz.prog Tryz.f10 K.cQ = true := by kernel_rfl
theorem D4 : ay Tryz.prog Tryz.f11 K.aC = true := by kernel_rfl
theorem HB : ay Tryz.prog Tryz.f12 K.cA = true := by kernel_rfl
theorem Ac : ay Tryz.prog Tryz.f38 K.bJ = true := by kernel_rfl
theorem Pk : ay Tryz.prog Tryz.f18 K.jE = true := by kernel_rfl
theorem CK : ay Tryz.prog Tryz.f20 K.cR = true := by kernel_rfl
theorem GC : ay Tryz.prog Tryz.f24 K.dE = true := by kernel_rfl
theorem D5 : ay Tryz.prog Tryz.f30 K.dU = true := by kernel_rfl
theorem Kj : ay Tryz.prog Tryz.f25 K.eW = true := by kernel_rfl
theorem HC : ay Tryz.prog Tryz.f26 K.cZ = true := by kernel_rfl
theorem Kk : ay Tryz.prog Tryz.f27 K.eX = true := by kernel_rfl
theorem D6 : ay Tryz.prog Tryz.f28 K.bP = true := by kernel_rfl
theorem Pl : ay Tryz.prog Tryz.f29 K.jF = true := by kernel_rfl
theorem HD : ay Tryz.prog Tryz.f31 K.fw = true := by kernel_rfl
theorem Sm : ay Tryz.prog Tryz.f32 K.nj = true := by kernel_rfl
theorem HE : ay Tryz.prog Tryz.f19 K.fx = true := by kernel_rfl
theorem CL : ay Tryz.prog Tryz.f93 K.cT = true := by kernel_rfl
theorem D7 : ay Tryz.prog Tryz.f48 K.dy = true := by kernel_rfl
theorem Kl : ay Tryz.prog Tryz.f61 K.di = true := by kernel_rfl
theorem Km : ay Tryz.prog Tryz.f62 K.gz = true := by kernel_rfl
theorem Pm : ay Tryz.prog Tryz.f63 K.lG = true := by kernel_rfl
theorem Kn : ay Tryz.prog Tryz.f64 K.hX = true := by kernel_rfl
theorem MT : ay Tryz.prog Tryz.f65 K.kG = true := by kernel_rfl
theorem Ko : ay Tryz.prog Tryz.f66 K.jf = true := by kernel_rfl
theorem HF : ay Tryz.prog Tryz.f67 K.bX = true := by kernel_rfl
theorem HG : ay Tryz.prog Tryz.f68 K.fT = true := by kernel_rfl
theorem Kp : ay Tryz.prog Tryz.f69 K.fD = true := by kernel_rfl
theorem MU : ay Tryz.prog Tryz.f70 K.fE = true := by kernel_rfl
theorem Kq : ay Tryz.prog Tryz.f71 K.dL = true := by kernel_rfl
theorem CM : ay Tryz.prog Tryz.f72 K.bT = true := by kernel_rfl
theorem MV : ay Tryz.prog Tryz.f73 K.kH = true := by kernel_rfl
theorem Kr : ay Tryz.prog Tryz.f74 K.fF = true := by kernel_rfl
theorem MW : ay Tryz.prog Tryz.f75 K.kI = true := by kernel_rfl
theorem Ks : ay Tryz.prog Tryz.f76 K.fG = true := by kernel_rfl
theorem HH : ay Tryz.prog Tryz.f77 K.dP = true := by kernel_rfl
theorem Pn : ay Tryz.prog Tryz.f78 K.kx = true := by kernel_rfl
theorem HI : ay Tryz.prog Tryz.f79 K.dQ = true := by kernel_rfl
theorem Kt : ay Tryz.prog Tryz.f46 K.dj = true := by kernel_rfl
theorem D8 : ay Tryz.prog Tryz.f47 K.dz = true := by kernel_rfl
theorem qq : ay Tryz.prog Tryz.f53 K.aq = true := by kernel_rfl
theorem Ad : ay Tryz.prog Tryz.f152 K.cj = true := by kernel_rfl
theorem tu : ay Tryz.prog Tryz.f153 K.aO = true := by kernel_rfl
theorem BS : ay Tryz.prog Tryz.f97 K.cC = true := by kernel_rfl
theorem D9 : ay Tryz.prog Tryz.f98 K.dA = true := by kernel_rfl
theorem MX : ay Tryz.prog Tryz.f130 K.jG = true := by kernel_rfl
theorem MY : ay Tryz.prog Tryz.f131 K.kJ = true := by kernel_rfl
theorem HJ : ay Tryz.prog Tryz.f132 K.ez = true := by kernel_rfl
theorem Ku : ay Tryz.prog Tryz.f133 K.ic = true := by kernel_rfl
theorem Kv : ay Tryz.prog Tryz.f134 K.fH = true := by kernel_rfl
theorem MZ : ay Tryz.prog Tryz.f135 K.jH = true := by kernel_rfl
theorem Kw : ay Tryz.prog Tryz.f136 K.gA = true := by kernel_rfl
theorem M0 : ay Tryz.prog Tryz.f137 K.dT = true := by kernel_rfl
theorem Ea : ay Tryz.prog Tryz.f138 K.dB = true := by kernel_rfl
theorem M1 : ay Tryz.prog Tryz.f139 K.jI = true := by kernel_rfl
theorem Kx : ay Tryz.prog Tryz.f140 K.dk = true := by kernel_rfl
theorem Ky : ay Tryz.prog Tryz.f141 K.gB = true := by kernel_rfl
theorem rQ : ay Tryz.prog Tryz.f106 K.bL = true := by kernel_rfl
theorem wB : ay Tryz.prog Tryz.f206 K.b7 = true := by kernel_rfl
theorem BT : ay Tryz.prog Tryz.f154 K.cD = true := by kernel_rfl
theorem lg : ay Tryz.prog Tryz.f155 K.ax = true := by kernel_rfl
theorem yz : ay Tryz.prog Tryz.f156 K.bN = true := by kernel_rfl
theorem Sn : ay Tryz.prog Tryz.f37 K.aU = true := by kernel_rfl
theorem Kz : ay Tryz.prog Tryz.f195 K.fI = true := by kernel_rfl
theorem KA : ay Tryz.prog Tryz.f196 K.eu = true := by kernel_rfl
theorem M3 : ay Tryz.prog Tryz.f197 K.jJ = true := by kernel_rfl
theorem mK : ay Tryz.prog Tryz.f207 K.aN = true := by kernel_rfl
theorem HK : ay Tryz.prog Tryz.f261 K.cK = true := by kernel_rfl
theorem M4 : ay Tryz.prog Tryz.f318 K.kK = true := by kernel_rfl
theorem M5 : ay Tryz.prog Tryz.f240 K.nU = true := by kernel_rfl
theorem HL : ay Tryz.prog Tryz.f241 K.jX = true := by kernel_rfl
theorem KB : ay Tryz.prog Tryz.f242 K.lJ = true := by kernel_rfl
theorem HM : ay Tryz.prog Tryz.f52 K.fX = true := by kernel_rfl
theorem KC : ay Tryz.prog Tryz.f344 K.lK = true := by kernel_rfl
theorem wC : ay Tryz.prog Tryz.f300 K.b8 = true := by kernel_rfl
theorem GD : ay Tryz.prog Tryz.f307 K.iO = true := by kernel_rfl
theorem HN : ay Tryz.prog Tryz.f81 K.bZ = true := by kernel_rfl
theorem M6 : ay Tryz.prog Tryz.f129 K.gY = true := by kernel_rfl
theorem M7 : ay Tryz.prog Tryz.f183 K.mG = true := by kernel_rfl
theorem HO : ay Tryz.prog Tryz.f193 K.jY = true := by kernel_rfl
theorem M8 : ay Tryz.prog Tryz.f107 K.mH = true := by kernel_rfl
theorem M9 : ay Tryz.prog Tryz.f194 K.mI = true := by kernel_rfl
theorem HP : ay Tryz.prog Tryz.f251 K.jZ = true := by kernel_rfl
theorem HQ : ay Tryz.prog Tryz.f260 K.j3 = true := by kernel_rfl
theorem KD : ay Tryz.prog Tryz.f186 K.lL = true := by kernel_rfl
theorem Na : ay Tryz.prog Tryz.f253 K.nV = true := by kernel_rfl
theorem CN : ay Tryz.prog Tryz.f308 K.eZ = true := by kernel_rfl
theorem HR : ay Tryz.prog Tryz.f309 K.j4 = true := by kernel_rfl
theorem HT : ay Tryz.prog Tryz.f310 K.j5 = true := by kernel_rfl
theorem Ae : ay Tryz.prog Tryz.f348 K.eC = true := by kernel_rfl
theorem KE : ay Tryz.prog Tryz.f50 K.lM = true := by kernel_rfl
theorem HU : ay Tryz.prog Tryz.f212 K.j6 = true := by kernel_rfl
theorem KF : ay Tryz.prog Tryz.f103 K.lN = true := by kernel_rfl
theorem vG : ay Tryz.prog Tryz.f104 K.bQ = true := by kernel_rfl
theorem yA : ay Tryz.prog Tryz.f105 K.dR = true := by kernel_rfl
theorem KG : ay Tryz.prog Tryz.f35 K.gE = true := by kernel_rfl
theorem Nb : ay Tryz.prog Tryz.f82 K.cM = true := by kernel_rfl
theorem mA : ay Tryz.prog Tryz.f160 K.aY = true := by kernel_rfl
theorem GF : ay Tryz.prog Tryz.f161 K.iP = true := by kernel_rfl
theorem GG : ay Tryz.prog Tryz.f162 K.iQ = true := by kernel_rfl
theorem Af : ay Tryz.prog Tryz.f163 K.dG = true := by kernel_rfl
theorem GH : ay Tryz.prog Tryz.f84 K.dg = true := by kernel_rfl
theorem Nc : ay Tryz.prog Tryz.f142 K.kO = true := by kernel_rfl
theorem nh : ay Tryz.prog Tryz.f209 K.bj = true := by kernel_rfl
theorem CO : ay Tryz.prog Tryz.f211 K.fY = true := by kernel_rfl
theorem KH : ay Tryz.prog Tryz.f198 K.ig = true := by kernel_rfl
theorem HV : ay Tryz.prog Tryz.f108 K.j7 = true := by kernel_rfl
theorem KI : ay Tryz.prog Tryz.f339 K.lO = true := by kernel_rfl
theorem HW : ay Tryz.prog Tryz.f92 K.ga = true := by kernel_rfl
theorem HX : ay Tryz.prog Tryz.f343 K.j8 = true := by kernel_rfl
theorem Eb : ay Tryz.prog Tryz.f164 K.gO = true := by kernel_rfl
theorem Ec : ay Tryz.prog Tryz.f150 K.cI = true := by kernel_rfl
theorem Nd : ay Tryz.prog Tryz.f151 K.fq = true := by kernel_rfl
theorem GI : ay Tryz.prog Tryz.f149 K.dH = true := by kernel_rfl
theorem wD : ay Tryz.prog Tryz.f88 K.bw = true := by kernel_rfl
theorem wE : ay Tryz.prog Tryz.f94 K.ah = true := by kernel_rfl
theorem CP : ay Tryz.prog Tryz.f204 K.dW = true := by kernel_rfl
theorem BU : ay Tryz.prog Tryz.f205 K.bK = true := by kernel_rfl
theorem CQ : ay Tryz.prog Tryz.f203 K.cy = true := by kernel_rfl
theorem Po : ay Tryz.prog Tryz.f273 K.m6 = true := by kernel_rfl
theorem Pp : ay Tryz.prog Tryz.f324 K.m7 = true := by kernel_rfl
theorem Pq : ay Tryz.prog Tryz.f353 K.gg = true := by kernel_rfl
theorem Nf : ay Tryz.prog Tryz.f356 K.kP = true := by kernel_rfl
theorem Ng : ay Tryz.prog Tryz.f55 K.nW = true := by kernel_rfl
theorem Pr : ay Tryz.prog Tryz.f235 K.pY = true := by kernel_rfl
theorem KJ : ay Tryz.prog Tryz.f236 K.lQ = true := by kernel_rfl
theorem Ps : ay Tryz.prog Tryz.f238 K.pZ = true := by kernel_rfl
theorem KK : ay Tryz.prog Tryz.f216 K.lT = true := by kernel_rfl
theorem Pt : ay Tryz.prog Tryz.f295 K.oX = true := by kernel_rfl
theorem Pu : ay Tryz.prog Tryz.f296 K.p4 = true := by kernel_rfl
theorem xW : ay Tryz.prog Tryz.f145 K.dq = true := by kernel_rfl
theorem KL : ay Tryz.prog Tryz.f342 K.lU = true := by kernel_rfl
theorem Ed : ay Tryz.prog Tryz.f342 K.gP = true := by kernel_rfl
theorem yB : ay Tryz.prog Tryz.f14 K.bI = true := by kernel_rfl
theorem CR : ay Tryz.prog Tryz.f34 K.dt = true := by kernel_rfl
theorem KM : ay Tryz.prog Tryz.f36 K.fL = true := by kernel_rfl
theorem Ag : ay Tryz.prog Tryz.f80 K.bO = true := by kernel_rfl
theorem jS : ay Tryz.prog Tryz.f83 K.az = true := by kernel_rfl
theorem Ah : ay Tryz.prog Tryz.f85 K.cr = true := by kernel_rfl
theorem vH : ay Tryz.prog Tryz.f86 K.bD = true := by kernel_rfl
theorem HY : ay Tryz.prog Tryz.f87 K.gj = true := by kernel_rfl
theorem uv : ay Tryz.prog Tryz.f89 K.bB = true := by kernel_rfl
theorem gL : ay Tryz.prog Tryz.f90 K.ak = true := by kernel_rfl
theorem GJ : ay Tryz.prog Tryz.f91 K.ed = true := by kernel_rfl
theorem kE : ay Tryz.prog Tryz.f143 K.aF = true := by kernel_rfl
theorem tw : ay Tryz.prog Tryz.f146 K.a7 = true := by kernel_rfl
theorem CS : ay Tryz.prog Tryz.f147 K.cW = true := by kernel_rfl
theorem iy : ay Tryz.prog Tryz.f148 K.aB = true := by kernel_rfl
theorem GK : ay Tryz.prog Tryz.f202 K.cmp_isNaN_int = true := by kernel_rfl
theorem KN : ay Tryz.prog Tryz.f56 K.lV = true := by kernel_rfl
theorem KO : ay Tryz.prog Tryz.f167 K.lW = true := by kernel_rfl
theorem KP : ay Tryz.prog Tryz.f291 K.lX = true := by kernel_rfl
theorem nK : ay Tryz.prog Tryz.f336 K.bz = true := by kernel_rfl
theorem nL : ay Tryz.prog Tryz.f337 K.bA = true := by kernel_rfl
theorem GL : ay Tryz.prog Tryz.f338 K.iR = true := by kernel_rfl
theorem rR : ay Tryz.prog Tryz.f359 K.b5 = true := by kernel_rfl
theorem kt : ay Tryz.prog Tryz.f360 K.aQ = true := by kernel_rfl
theorem mV : ay Tryz.prog Tryz.f361 K.aI = true := by kernel_rfl
theorem o7 : ay Tryz.prog Tryz.f367 K.bG = true := by kernel_rfl
theorem mB : ay Tryz.prog Tryz.f370 K.aR = true := by kernel_rfl
theorem oo : ay Tryz.prog Tryz.f371 K.a8 = true := by kernel_rfl
theorem Ee : ay Tryz.prog Tryz.f167 K.fP = true := by kernel_rfl
theorem Pv : ay Tryz.prog Tryz.f239 K.p7 = true := by kernel_rfl
theorem KQ : ay Tryz.prog Tryz.f292 K.lY = true := by kernel_rfl
theorem KR : ay Tryz.prog Tryz.f297 K.lZ = true := by kernel_rfl
theorem GM : ay Tryz.prog Tryz.f298 K.iS = true := by kernel_rfl
theorem Pw : ay Tryz.prog Tryz.f299 K.p8 = true := by kernel_rfl
theorem oq : ay Tryz.prog Tryz.f110 K.aP = true := by kernel_rfl
theorem o8 : ay Tryz.prog Tryz.f111 K.aS = true := by kernel_rfl
theorem KS : ay Tryz.prog Tryz.f49 K.ma = true := by kernel_rfl
theorem KT : ay Tryz.prog Tryz.f217 K.mh = true := by kernel_rfl
theorem Nh : ay Tryz.prog Tryz.f109 K.nY = true := by kernel_rfl
theorem CT : ay Tryz.prog Tryz.f99 K.fe = true := by kernel_rfl
theorem GN : ay Tryz.prog Tryz.f100 K.iT = true := by kernel_rfl
theorem HZ : ay Tryz.prog Tryz.f101 K.iU = true := by kernel_rfl
theorem H4 : ay Tryz.prog Tryz.f102 K.j9 = true := by kernel_rfl
theorem H5 : ay Tryz.prog Tryz.f274 K.ka = true := by kernel_rfl
theorem KU : ay Tryz.prog Tryz.f165 K.ko = true := by kernel_rfl
theorem Ni : ay Tryz.prog Tryz.f166 K.nZ = true := by kernel_rfl
theorem Ai : ay Tryz.prog Tryz.f157 K.eD = true := by kernel_rfl
theorem iH : ay Tryz.prog Tryz.f158 K.aG = true := by kernel_rfl
theorem ni : ay Tryz.prog Tryz.f159 K.aX = true := by kernel_rfl
theorem GO : ay Tryz.prog Tryz.f213 K.iV = true := by kernel_rfl
theorem ku : ay Tryz.prog Tryz.f184 K.aE = true := by kernel_rfl
theorem GP : ay Tryz.prog Tryz.f214 K.iW = true := by kernel_rfl
theorem GQ : ay Tryz.prog Tryz.f215 K.iX = true := by kernel_rfl
theorem jz : ay Tryz.prog Tryz.f208 K.aL = true := by kernel_rfl
theorem lC : ay Tryz.prog Tryz.f252 K.aV = true := by kernel_rfl
theorem CU : ay Tryz.prog Tryz.f102 K.gk = true := by kernel_rfl
theorem Nj : ay Tryz.prog Tryz.f57 K.n5 = true := by kernel_rfl
theorem Nk : ay Tryz.prog Tryz.f51 K.n9 = true := by kernel_rfl
theorem KV : ay Tryz.prog Tryz.f190 K.mi = true := by kernel_rfl
theorem Nl : ay Tryz.prog Tryz.f21 K.oa = true := by kernel_rfl
theorem H6 : ay Tryz.prog Tryz.f54 K.kc = true := by kernel_rfl
theorem KW : ay Tryz.prog Tryz.f58 K.im = true := by kernel_rfl
theorem o9 : ay Tryz.prog Tryz.f112 K.bH = true := by kernel_rfl
theorem H7 : ay Tryz.prog Tryz.f113 K.iY = true := by kernel_rfl
theorem GR : ay Tryz.prog Tryz.f114 K.gK = true := by kernel_rfl
theorem ot : ay Tryz.prog Tryz.f115 K.bC = true := by kernel_rfl
theorem Nn : ay Tryz.prog Tryz.f116 K.oc = true := by kernel_rfl
theorem Ef : ay Tryz.prog Tryz.f168 K.eJ = true := by kernel_rfl
theorem Eg : ay Tryz.prog Tryz.f169 K.eL = true := by kernel_rfl
theorem Eh : ay Tryz.prog Tryz.f170 K.eM = true := by kernel_rfl
theorem Ei : ay Tryz.prog Tryz.f171 K.eO = true := by kernel_rfl
theorem Ej : ay Tryz.prog Tryz.f172 K.eQ = true := by kernel_rfl
theorem Ek : ay Tryz.prog Tryz.f173 K.eR = true := by kernel_rfl
theorem El : ay Tryz.prog Tryz.f178 K.eT = true := by kernel_rfl
theorem Em : ay Tryz.prog Tryz.f179 K.eU = true := by kernel_rfl
theorem En : ay Tryz.prog Tryz.f180 K.eV = true := by kernel_rfl
theorem CV : ay Tryz.prog Tryz.f226 K.dv = true := by kernel_rfl
theorem CW : ay Tryz.prog Tryz.f3 K.dX = true := by kernel_rfl
theorem No : ay Tryz.prog Tryz.f5 K.kQ = true := by kernel_rfl
theorem Np : ay Tryz.prog Tryz.f13 K.jQ = true := by kernel_rfl
theorem Nq : ay Tryz.prog Tryz.f15 K.kR = true := by kernel_rfl
theorem KX : ay Tryz.prog Tryz.f16 K.ew = true := by kernel_rfl
theorem Nr : ay Tryz.prog Tryz.f17 K.kS = true := by kernel_rfl
theorem Sp : ay Tryz.prog Tryz.f22 K.sn = true := by kernel_rfl
theorem KY : ay Tryz.prog Tryz.f23 K.mj = true := by kernel_rfl
theorem KZ : ay Tryz.prog Tryz.f33 K.iq = true := by kernel_rfl
theorem GS : ay Tryz.prog Tryz.f39 K.ff = true := by kernel_rfl
theorem Ns : ay Tryz.prog Tryz.f40 K.ft = true := by kernel_rfl
theorem H8 : ay Tryz.prog Tryz.f41 K.fy = true := by kernel_rfl
theorem Nt : ay Tryz.prog Tryz.f42 K.kT = true := by kernel_rfl
theorem GU : ay Tryz.prog Tryz.f43 K.fh = true := by kernel_rfl
theorem K0 : ay Tryz.prog Tryz.f44 K.ir = true := by kernel_rfl
theorem H9 : ay Tryz.prog Tryz.f45 K.gl = true := by kernel_rfl
theorem Px : ay Tryz.prog Tryz.f59 K.qa = true := by kernel_rfl
theorem K1 : ay Tryz.prog Tryz.f60 K.mr = true := by kernel_rfl
theorem uw : ay Tryz.prog Tryz.f95 K.bE = true := by kernel_rfl
theorem Ia : ay Tryz.prog Tryz.f96 K.gn = true := by kernel_rfl
theorem Py : ay Tryz.prog Tryz.f117 K.qb = true := by kernel_rfl
theorem GV : ay Tryz.prog Tryz.f118 K.iZ = true := by kernel_rfl
theorem Eo : ay Tryz.prog Tryz.f119 K.fQ = true := by kernel_rfl
theorem GW : ay Tryz.prog Tryz.f120 K.i4 = true := by kernel_rfl
theorem K3 : ay Tryz.prog Tryz.f121 K.mu = true := by kernel_rfl
theorem GX : ay Tryz.prog Tryz.f122 K.i5 = true := by kernel_rfl
theorem Ib : ay Tryz.prog Tryz.f123 K.kd = true := by kernel_rfl
theorem GY : ay Tryz.prog Tryz.f124 K.i6 = true := by kernel_rfl
theorem GZ : ay Tryz.prog Tryz.f125 K.i7 = true := by kernel_rfl
theorem G0 : ay Tryz.prog Tryz.f126 K.i9 = true := by kernel_rfl
theorem G1 : ay Tryz.prog Tryz.f127 K.ja = true := by kernel_rfl
theorem Ic : ay Tryz.prog Tryz.f128 K.ke = true := by kernel_rfl
theorem CY : ay Tryz.prog Tryz.f174 K.dY = true := by kernel_rfl
theorem G2 : ay Tryz.prog Tryz.f175 K.fR = true := by kernel_rfl
theorem CZ : ay Tryz.prog Tryz.f176 K.dZ = true := by kernel_rfl
theorem C0 : ay Tryz.prog Tryz.f177 K.eb = true := by kernel_rfl
theorem BW : ay Tryz.prog Tryz.f181 K.fA = true := by kernel_rfl
theorem Ie : ay Tryz.prog Tryz.f182 K.jb = true := by kernel_rfl
theorem Ep : ay Tryz.prog Tryz.f185 K.gQ = true := by kernel_rfl
theorem iI : ay Tryz.prog Tryz.f187 K.aH = true := by kernel_rfl
theorem C1 : ay Tryz.prog Tryz.f188 K.gp = true := by kernel_rfl
theorem K4 : ay Tryz.prog Tryz.f189 K.kp = true := by kernel_rfl
theorem Ig : ay Tryz.prog Tryz.f191 K.kf = true := by kernel_rfl
theorem Er : ay Tryz.prog Tryz.f192 K.gR = true := by kernel_rfl
theorem Aj : ay Tryz.prog Tryz.f234 K.eE = true := by kernel_rfl
theorem Ak : ay Tryz.prog Tryz.f237 K.eG = true := by kernel_rfl
theorem Es : ay Tryz.prog Tryz.f250 K.gS = true := by kernel_rfl
theorem jA : ay Tryz.prog Tryz.f254 K.aM = true := by kernel_rfl
theorem ajG : N0 Tryz.prog real tab :=
 ⟨trivial, ⟨⟨by kernel_rfl, aa Tryz.func4 MS⟩, ⟨trivial, ⟨⟨by kernel_rfl, aa Tryz.func6 Pj⟩, ⟨⟨by kernel_rfl, aa Tryz.func7 D3⟩, ⟨trivial, ⟨⟨by kernel_rfl, aa Tryz.func8 BQ⟩, ⟨⟨by kernel_rfl, aa Tryz.func9 CJ⟩, ⟨⟨by kernel_rfl, aa Tryz.func10 BR⟩, ⟨⟨by kernel_rfl, aa Tryz.func11 D4⟩, ⟨⟨by kernel_rfl, aa Tryz.func12 HB⟩, ⟨⟨by kernel_rfl, aa Tryz.func38 Ac⟩, ⟨⟨by kernel_rfl, aa Tryz.func18 Pk⟩, ⟨trivial, ⟨⟨by kernel_rfl, aa Tryz.func20 CK⟩, ⟨⟨by kernel_rfl, aa Tryz.func24 GC⟩, ⟨⟨by kernel_rfl, aa Tryz.func30 D5⟩, ⟨⟨by kernel_rfl, aa Tryz.func25 Kj⟩, ⟨⟨by kernel_rfl, aa Tryz.func26 HC⟩, ⟨⟨by kernel_rfl, aa Tryz.func27 Kk⟩, ⟨⟨by kernel_rfl, aa Tryz.func28 D6⟩, ⟨⟨by kernel_rfl, aa Tryz.func29 Pl⟩, ⟨⟨by kernel_rfl, aa Tryz.func31 HD⟩, ⟨⟨by kernel_rfl, aa Tryz.func32 Sm⟩, ⟨⟨by kernel_rfl, aa Tryz.func19 HE⟩, ⟨⟨by kernel_rfl, aa Tryz.func93 CL⟩, ⟨⟨by kernel_rfl, aa Tryz.func48 D7⟩, ⟨trivial, ⟨⟨by kernel_rfl, aa Tryz.func61 Kl⟩, ⟨⟨by kernel_rfl, aa Tryz.func62 Km⟩, ⟨⟨by kernel_rfl, aa Tryz.func63 Pm⟩, ⟨⟨by kernel_rfl, aa Tryz.func64 Kn⟩, ⟨⟨by kernel_rfl, aa Tryz.func65 MT⟩, ⟨⟨by kernel_rfl, aa Tryz.func66 Ko⟩, ⟨⟨by kernel_rfl, aa Tryz.func67 HF⟩, ⟨⟨by kernel_rfl, aa Tryz.func68 HG⟩, ⟨⟨by kernel_rfl, aa Tryz.func69 Kp⟩, ⟨⟨by kernel_rfl, aa Tryz.func70 MU⟩, ⟨⟨by kernel_rfl, aa Tryz.func71 Kq⟩, ⟨⟨by kernel_rfl, aa Tryz.func72 CM⟩, ⟨⟨by kernel_rfl, aa Tryz.func73 MV⟩, ⟨⟨by kernel_rfl, aa Tryz.func74 Kr⟩, ⟨⟨by kernel_rfl, aa Tryz.func75 MW⟩, ⟨⟨by kernel_rfl, aa Tryz.func76 Ks⟩, ⟨⟨by kernel_rfl, aa Tryz.func77 HH⟩, ⟨⟨by kernel_rfl, aa Tryz.func78 Pn⟩, ⟨⟨by kernel_rfl, aa Tryz.func79 HI⟩, ⟨⟨by kernel_rfl, aa Tryz.func46 Kt⟩, ⟨⟨by kernel_rfl, aa Tryz.func47 D8⟩, ⟨⟨by kernel_rfl, aa Tryz.func53 qq⟩, ⟨⟨by kernel_rfl, aa Tryz.func152 Ad⟩, ⟨⟨by kernel_rfl, aa Tryz.func153 tu⟩, ⟨⟨by kernel_rfl, aa Tryz.func97 BS⟩, ⟨⟨by kernel_rfl, aa Tryz.func98 D9⟩, ⟨⟨by kernel_rfl, aa Tryz.func130 MX⟩, ⟨⟨by kernel_rfl, aa Tryz.func131 MY⟩, ⟨⟨by kernel_rfl, aa Tryz.func132 HJ⟩, ⟨⟨by kernel_rfl, aa Tryz.func133 Ku⟩, ⟨⟨by kernel_rfl, aa Tryz.func134 Kv⟩, ⟨⟨by kernel_rfl, aa Tryz.func135 MZ⟩, ⟨⟨by kernel_rfl, aa Tryz.func136 Kw⟩, ⟨⟨by kernel_rfl, aa Tryz.func137 M0⟩, ⟨⟨by kernel_rfl, aa Tryz.func138 Ea⟩, ⟨⟨by kernel_rfl, aa Tryz.func139 M1⟩, ⟨⟨by kernel_rfl, aa Tryz.func140 Kx⟩, ⟨⟨by kernel_rfl, aa Tryz.func141 Ky⟩, ⟨⟨by kernel_rfl, aa Tryz.func106 rQ⟩, ⟨⟨by kernel_rfl, aa Tryz.func206 wB⟩, ⟨⟨by kernel_rfl, aa Tryz.func154 BT⟩, ⟨⟨by kernel_rfl, aa Tryz.func155 lg⟩, ⟨⟨by kernel_rfl, aa Tryz.func156 yz⟩, ⟨⟨by kernel_rfl, aa Tryz.func37 Sn⟩, ⟨⟨by kernel_rfl, aa Tryz.func195 Kz⟩, ⟨⟨by kernel_rfl, aa Tryz.func196 KA⟩, ⟨⟨by kernel_rfl, aa Tryz.func197 M3⟩, ⟨⟨by kernel_rfl, aa Tryz.func207 mK⟩, ⟨⟨by kernel_rfl, aa Tryz.func261 HK⟩, ⟨⟨by kernel_rfl, aa Tryz.func318 M4⟩, ⟨trivial, ⟨trivial, ⟨trivial, ⟨trivial, ⟨trivial, ⟨trivial, ⟨trivial, ⟨trivial, ⟨⟨by kernel_rfl, aa Tryz.func240 M5⟩, ⟨⟨by kernel_rfl, aa Tryz.func241 HL⟩, ⟨⟨by kernel_rfl, aa Tryz.func242 KB⟩, ⟨trivial, ⟨⟨by kernel_rfl, aa Tryz.func52 HM⟩, ⟨trivial, ⟨trivial, ⟨trivial, ⟨trivial, ⟨trivial, ⟨trivial, ⟨trivial, ⟨trivial, ⟨trivial, ⟨⟨by kernel_rfl, aa Tryz.func344 KC⟩, ⟨trivial, ⟨trivial, ⟨⟨by kernel_rfl, aa Tryz.func300 wC⟩, ⟨⟨by kernel_rfl, aa Tryz.func307 GD⟩, ⟨⟨by kernel_rfl, aa Tryz.func81 HN⟩, ⟨trivial, ⟨trivial, ⟨trivial, ⟨trivial, ⟨⟨by kernel_rfl, aa Tryz.func129 M6⟩, ⟨⟨by kernel_rfl, aa Tryz.func183 M7⟩, ⟨trivial, ⟨trivial, ⟨trivial, ⟨⟨by kernel_rfl, aa Tryz.func193 HO⟩, ⟨⟨by kernel_rfl, aa Tryz.func107 M8⟩, ⟨⟨by kernel_rfl, aa Tryz.func194 M9⟩, ⟨⟨by kernel_rfl, aa Tryz.func251 HP⟩, ⟨⟨by kernel_rfl, aa Tryz.func260 HQ⟩, ⟨trivial, ⟨trivial, ⟨trivial, ⟨trivial, ⟨trivial, ⟨trivial, ⟨trivial, ⟨trivial, ⟨⟨by kernel_rfl, aa Tryz.func186 KD⟩, ⟨trivial, ⟨trivial, ⟨trivial, ⟨trivial, ⟨trivial, ⟨trivial, ⟨trivial, ⟨⟨by kernel_rfl, aa Tryz.func253 Na⟩, ⟨trivial, ⟨trivial, ⟨trivial, ⟨trivial, ⟨trivial, ⟨trivial, ⟨trivial, ⟨trivial, ⟨⟨by kernel_rfl, aa Tryz.func308 CN⟩, ⟨⟨by kernel_rfl, aa Tryz.func309 HR⟩, ⟨⟨by kernel_rfl, aa Tryz.func310 HT⟩, ⟨⟨by kernel_rfl, aa Tryz.func348 Ae⟩, ⟨trivial, ⟨trivial, ⟨trivial, ⟨trivial, ⟨trivial, ⟨⟨by kernel_rfl, aa Tryz.func50 KE⟩, ⟨⟨by kernel_rfl, aa Tryz.func212 HU⟩, ⟨trivial, ⟨trivial, ⟨trivial, ⟨⟨by kernel_rfl, aa Tryz.func103 KF⟩, ⟨⟨by kernel_rfl, aa Tryz.func104 vG⟩, ⟨⟨by kernel_rfl, aa Tryz.func105 yA⟩, ⟨⟨by kernel_rfl, aa Tryz.func35 KG⟩, ⟨trivial, ⟨trivial, ⟨trivial, ⟨trivial, ⟨⟨by kernel_rfl, aa Tryz.func82 Nb⟩, ⟨⟨by kernel_rfl, aa Tryz.func160 mA⟩, ⟨⟨by kernel_rfl, aa Tryz.func161 GF⟩, ⟨⟨by kernel_rfl, aa Tryz.func162 GG⟩, ⟨⟨by kernel_rfl, aa Tryz.func163 Af⟩, ⟨⟨by kernel_rfl, aa Tryz.func84 GH⟩, ⟨⟨by kernel_rfl, aa Tryz.func142 Nc⟩, ⟨⟨by kernel_rfl, aa Tryz.func209 nh⟩, ⟨trivial, ⟨⟨by kernel_rfl, aa Tryz.func211 CO⟩, ⟨⟨by kernel_rfl, aa Tryz.func198 KH⟩, ⟨trivial, ⟨trivial, ⟨trivial, ⟨trivial, ⟨trivial, ⟨trivial, ⟨trivial, ⟨trivial, ⟨⟨by kernel_rfl, aa Tryz.func108 HV⟩, ⟨trivial, ⟨trivial, ⟨⟨by kernel_rfl, aa Tryz.func339 KI⟩, ⟨⟨by kernel_rfl, aa Tryz.func92 HW⟩, ⟨trivial, ⟨trivial, ⟨trivial, ⟨⟨by kernel_rfl, aa Tryz.func343 HX⟩, ⟨trivial, ⟨trivial, ⟨trivial, ⟨⟨by kernel_rfl, aa Tryz.func164 Eb⟩, ⟨⟨by kernel_rfl, aa Tryz.func150 Ec⟩, ⟨⟨by kernel_rfl, aa Tryz.func151 Nd⟩, ⟨⟨by kernel_rfl, aa Tryz.func149 GI⟩, ⟨⟨by kernel_rfl, aa Tryz.func88 wD⟩, ⟨trivial, ⟨⟨by kernel_rfl, aa Tryz.func94 wE⟩, ⟨trivial, ⟨trivial, ⟨trivial, ⟨⟨by kernel_rfl, aa Tryz.func204 CP⟩, ⟨⟨by kernel_rfl, aa Tryz.func205 BU⟩, ⟨⟨by kernel_rfl, aa Tryz.func203 CQ⟩, ⟨⟨by kernel_rfl, aa Tryz.func273 Po⟩, ⟨⟨by kernel_rfl, aa Tryz.func324 Pp⟩, ⟨⟨by kernel_rfl, aa Tryz.func353 Pq⟩, ⟨⟨by kernel_rfl, aa Tryz.func356 Nf⟩, ⟨trivial, ⟨trivial, ⟨trivial, ⟨trivial, ⟨trivial, ⟨trivial, ⟨trivial, ⟨trivial, ⟨⟨by kernel_rfl, aa Tryz.func55 Ng⟩, ⟨⟨by kernel_rfl, aa Tryz.func235 Pr⟩, ⟨⟨by kernel_rfl, aa Tryz.func236 KJ⟩, ⟨trivial, ⟨trivial, ⟨⟨by kernel_rfl, aa Tryz.func238 Ps⟩, ⟨trivial, ⟨⟨by kernel_rfl, aa Tryz.func216 KK⟩, ⟨trivial, ⟨trivial, ⟨trivial, ⟨trivial, ⟨trivial, ⟨trivial, ⟨trivial, ⟨trivial, ⟨⟨by kernel_rfl, aa Tryz.func295 Pt⟩, ⟨⟨by kernel_rfl, aa Tryz.func296 Pu⟩, ⟨⟨by kernel_rfl, aa Tryz.func145 xW⟩, ⟨trivial, ⟨⟨by kernel_rfl, aa Tryz.func342 KL⟩, ⟨⟨by kernel_rfl, aa Tryz.func342 Ed⟩, ⟨trivial, ⟨trivial, ⟨trivial, ⟨trivial, ⟨trivial, ⟨trivial, ⟨⟨by kernel_rfl, aa Tryz.func14 yB⟩, ⟨trivial, ⟨⟨by kernel_rfl, aa Tryz.func34 CR⟩, ⟨trivial, ⟨trivial, ⟨trivial, ⟨⟨by kernel_rfl, aa Tryz.func36 KM⟩, ⟨⟨by kernel_rfl, aa Tryz.func80 Ag⟩, ⟨⟨by kernel_rfl, aa Tryz.func83 jS⟩, ⟨⟨by kernel_rfl, aa Tryz.func85 Ah⟩, ⟨⟨by kernel_rfl, aa Tryz.func86 vH⟩, ⟨⟨by kernel_rfl, aa Tryz.func87 HY⟩, ⟨⟨by kernel_rfl, aa Tryz.func89 uv⟩, ⟨⟨by kernel_rfl, aa Tryz.func90 gL⟩, ⟨⟨by kernel_rfl, aa Tryz.func91 GJ⟩, ⟨⟨by kernel_rfl, aa Tryz.func143 kE⟩, ⟨⟨by kernel_rfl, aa Tryz.func146 tw⟩, ⟨⟨by kernel_rfl, aa Tryz.func147 CS⟩, ⟨⟨by kernel_rfl, aa Tryz.func148 iy⟩, ⟨⟨by kernel_rfl, aa Tryz.func202 GK⟩, ⟨trivial, ⟨trivial, ⟨trivial, ⟨trivial, ⟨trivial, ⟨trivial, ⟨trivial, ⟨⟨by kernel_rfl, aa Tryz.func56 KN⟩, ⟨trivial, ⟨trivial, ⟨trivial, ⟨trivial, ⟨trivial, ⟨trivial, ⟨trivial, ⟨trivial, ⟨trivial, ⟨trivial, ⟨⟨by kernel_rfl, aa Tryz.func167 KO⟩, ⟨⟨by kernel_rfl, aa Tryz.func291 KP⟩, ⟨trivial, ⟨trivial, ⟨trivial, ⟨trivial, ⟨trivial, ⟨trivial, ⟨⟨by kernel_rfl, aa Tryz.func336 nK⟩, ⟨⟨by kernel_rfl, aa Tryz.func337 nL⟩, ⟨⟨by kernel_rfl, aa Tryz.func338 GL⟩, ⟨⟨by kernel_rfl, aa Tryz.func359 rR⟩, ⟨⟨by kernel_rfl, aa Tryz.func360 kt⟩, ⟨⟨by kernel_rfl, aa Tryz.func361 mV⟩, ⟨⟨by kernel_rfl, aa Tryz.func367 o7⟩, ⟨⟨by kernel_rfl, aa Tryz.func370 mB⟩, ⟨⟨by kernel_rfl, aa Tryz.func371 oo⟩, ⟨trivial, ⟨trivial, ⟨⟨by kernel_rfl, aa Tryz.func167 Ee⟩, ⟨trivial, ⟨trivial, ⟨trivial, ⟨trivial, ⟨trivial, ⟨trivial, ⟨trivial, ⟨⟨by kernel_rfl, aa Tryz.func239 Pv⟩, ⟨trivial, ⟨trivial, ⟨⟨by kernel_rfl, aa Tryz.func292 KQ⟩, ⟨trivial, ⟨trivial, ⟨trivial, ⟨⟨by kernel_rfl, aa Tryz.func297 KR⟩, ⟨⟨by kernel_rfl, aa Tryz.func298 GM⟩, ⟨⟨by kernel_rfl, aa Tryz.func299 Pw⟩, ⟨trivial, ⟨trivial, ⟨trivial, ⟨trivial, ⟨⟨by kernel_rfl, aa Tryz.func110 oq⟩, ⟨⟨by kernel_rfl, aa Tryz.func111 o8⟩, ⟨trivial, ⟨trivial, ⟨trivial, ⟨trivial, ⟨trivial, ⟨trivial, ⟨trivial, ⟨⟨by kernel_rfl, aa Tryz.func49 KS⟩, ⟨trivial, ⟨trivial, ⟨⟨by kernel_rfl, aa Tryz.func217 KT⟩, ⟨⟨by kernel_rfl, aa Tryz.func109 Nh⟩, ⟨trivial, ⟨trivial, ⟨trivial, ⟨trivial, ⟨trivial, ⟨trivial, ⟨⟨by kernel_rfl, aa Tryz.func99 CT⟩, ⟨⟨by kernel_rfl, aa Tryz.func100 GN⟩, ⟨⟨by kernel_rfl, aa Tryz.func101 HZ⟩, ⟨⟨by kernel_rfl, aa Tryz.func102 H4⟩, ⟨trivial, ⟨trivial, ⟨trivial, ⟨trivial, ⟨trivial, ⟨⟨by kernel_rfl, aa Tryz.func274 H5⟩, ⟨⟨by kernel_rfl, aa Tryz.func165 KU⟩, ⟨⟨by kernel_rfl, aa Tryz.func166 Ni⟩, ⟨trivial, ⟨trivial, ⟨trivial, ⟨trivial, ⟨trivial, ⟨trivial, ⟨trivial, ⟨⟨by kernel_rfl, aa Tryz.func157 Ai⟩, ⟨⟨by kernel_rfl, aa Tryz.func158 iH⟩, ⟨⟨by kernel_rfl, aa Tryz.func159 ni⟩, ⟨⟨by kernel_rfl, aa Tryz.func213 GO⟩, ⟨⟨by kernel_rfl, aa Tryz.func184 ku⟩, ⟨⟨by kernel_rfl, aa Tryz.func214 GP⟩, ⟨⟨by kernel_rfl, aa Tryz.func215 GQ⟩, ⟨trivial, ⟨trivial, ⟨trivial, ⟨⟨by kernel_rfl, aa Tryz.func208 jz⟩, ⟨⟨by kernel_rfl, aa Tryz.func252 lC⟩, ⟨⟨by kernel_rfl, aa Tryz.func102 CU⟩, ⟨trivial, ⟨trivial, ⟨trivial, ⟨trivial, ⟨trivial, ⟨trivial, ⟨trivial, ⟨trivial, ⟨trivial, ⟨trivial, ⟨trivial, ⟨trivial, ⟨trivial, ⟨trivial, ⟨⟨by kernel_rfl, aa Tryz.func57 Nj⟩, ⟨trivial, ⟨trivial, ⟨trivial, ⟨trivial, ⟨trivial, ⟨trivial, ⟨trivial, ⟨trivial, ⟨trivial, ⟨trivial, ⟨trivial, ⟨trivial, ⟨trivial, ⟨trivial, ⟨trivial, ⟨trivial, ⟨trivial, ⟨trivial, ⟨trivial, ⟨trivial, ⟨trivial, ⟨trivial, ⟨trivial, ⟨trivial, ⟨trivial, ⟨trivial, ⟨trivial, ⟨trivial, ⟨trivial, ⟨trivial, ⟨trivial, ⟨trivial, ⟨trivial, ⟨trivial, ⟨trivial, ⟨trivial, ⟨trivial, ⟨trivial, ⟨trivial, ⟨⟨by kernel_rfl, aa Tryz.func51 Nk⟩, ⟨trivial, ⟨⟨by kernel_rfl, aa Tryz.func190 KV⟩, ⟨trivial, ⟨trivial, ⟨trivial, ⟨trivial, ⟨trivial, ⟨trivial, ⟨trivial, ⟨trivial, ⟨trivial, ⟨trivial, ⟨trivial, ⟨trivial, ⟨trivial, ⟨trivial, ⟨trivial, ⟨trivial, ⟨trivial, ⟨trivial, ⟨trivial, ⟨trivial, ⟨trivial, ⟨trivial, ⟨trivial, ⟨trivial, ⟨trivial, ⟨trivial, ⟨trivial, ⟨trivial, ⟨trivial, ⟨trivial, ⟨trivial, ⟨trivial, ⟨trivial, ⟨trivial, ⟨trivial, ⟨trivial, ⟨trivial, ⟨trivial, ⟨trivial, ⟨trivial, ⟨trivial, ⟨trivial, ⟨trivial, ⟨trivial, ⟨trivial, ⟨trivial, ⟨trivial, ⟨trivial, ⟨trivial, ⟨trivial, ⟨trivial, ⟨trivial, ⟨trivial, ⟨trivial, ⟨trivial, ⟨trivial, ⟨trivial, ⟨trivial, ⟨trivial, ⟨trivial, ⟨trivial, ⟨trivial, ⟨trivial, ⟨trivial, ⟨trivial, ⟨trivial, ⟨trivial, ⟨trivial, ⟨trivial, ⟨trivial, ⟨trivial, ⟨trivial, ⟨trivial, ⟨trivial, ⟨⟨by kernel_rfl, aa Tryz.func21 Nl⟩, ⟨trivial, ⟨trivial, ⟨trivial, ⟨trivial, ⟨trivial, ⟨trivial, ⟨trivial, ⟨⟨by kernel_rfl, aa Tryz.func54 H6⟩, ⟨⟨by kernel_rfl, aa Tryz.func58 KW⟩, ⟨trivial, ⟨trivial, ⟨⟨by kernel_rfl, aa Tryz.func112 o9⟩, ⟨⟨by kernel_rfl, aa Tryz.func113 H7⟩, ⟨⟨by kernel_rfl, aa Tryz.func114 GR⟩, ⟨⟨by kernel_rfl, aa Tryz.func115 ot⟩, ⟨⟨by kernel_rfl, aa Tryz.func116 Nn⟩, ⟨trivial, ⟨trivial, ⟨trivial, ⟨trivial, ⟨⟨by kernel_rfl, aa Tryz.func168 Ef⟩, ⟨⟨by kernel_rfl, aa Tryz.func169 Eg⟩, ⟨⟨by kernel_rfl, aa Tryz.func170 Eh⟩, ⟨⟨by kernel_rfl, aa Tryz.func171 Ei⟩, ⟨⟨by kernel_rfl, aa Tryz.func172 Ej⟩, ⟨⟨by kernel_rfl, aa Tryz.func173 Ek⟩, ⟨trivial, ⟨trivial, ⟨trivial, ⟨trivial, ⟨⟨by kernel_rfl, aa Tryz.func178 El⟩, ⟨⟨by kernel_rfl, aa Tryz.func179 Em⟩, ⟨⟨by kernel_rfl, aa Tryz.func180 En⟩, ⟨trivial, ⟨trivial, ⟨trivial, ⟨⟨by kernel_rfl, aa Tryz.func226 CV⟩, ⟨trivial, ⟨trivial, ⟨trivial, ⟨trivial, ⟨trivial, ⟨trivial, ⟨trivial, ⟨trivial, ⟨trivial, ⟨trivial, ⟨trivial, ⟨⟨by kernel_rfl, aa Tryz.func3 CW⟩, ⟨⟨by kernel_rfl, aa Tryz.func5 No⟩, ⟨⟨by kernel_rfl, aa Tryz.func13 Np⟩, ⟨⟨by kernel_rfl, aa Tryz.func15 Nq⟩, ⟨⟨by kernel_rfl, aa Tryz.func16 KX⟩, ⟨⟨by kernel_rfl, aa Tryz.func17 Nr⟩, ⟨⟨by kernel_rfl, aa Tryz.func22 Sp⟩, ⟨⟨by kernel_rfl, aa Tryz.func23 KY⟩, ⟨⟨by kernel_rfl, aa Tryz.func33 KZ⟩, ⟨⟨by kernel_rfl, aa Tryz.func39 GS⟩, ⟨⟨by kernel_rfl, aa Tryz.func40 Ns⟩, ⟨⟨by kernel_rfl, aa Tryz.func41 H8⟩, ⟨⟨by kernel_rfl, aa Tryz.func42 Nt⟩, ⟨⟨by kernel_rfl, aa Tryz.func43 GU⟩, ⟨⟨by kernel_rfl, aa Tryz.func44 K0⟩, ⟨⟨by kernel_rfl, aa Tryz.func45 H9⟩, ⟨⟨by kernel_rfl, aa Tryz.func59 Px⟩, ⟨⟨by kernel_rfl, aa Tryz.func60 K1⟩, ⟨⟨by kernel_rfl, aa Tryz.func95 uw⟩, ⟨⟨by kernel_rfl, aa Tryz.func96 Ia⟩, ⟨⟨by kernel_rfl, aa Tryz.func117 Py⟩, ⟨⟨by kernel_rfl, aa Tryz.func118 GV⟩, ⟨⟨by kernel_rfl, aa Tryz.func119 Eo⟩, ⟨⟨by kernel_rfl, aa Tryz.func120 GW⟩, ⟨⟨by kernel_rfl, aa Tryz.func121 K3⟩, ⟨⟨by kernel_rfl, aa Tryz.func122 GX⟩, ⟨⟨by kernel_rfl, aa Tryz.func123 Ib⟩, ⟨⟨by kernel_rfl, aa Tryz.func124 GY⟩, ⟨⟨by kernel_rfl, aa Tryz.func125 GZ⟩, ⟨⟨by kernel_rfl, aa Tryz.func126 G0⟩, ⟨⟨by kernel_rfl, aa Tryz.func127 G1⟩, ⟨⟨by kernel_rfl, aa Tryz.func128 Ic⟩, ⟨⟨by kernel_rfl, aa Tryz.func174 CY⟩, ⟨⟨by kernel_rfl, aa Tryz.func175 G2⟩, ⟨⟨by kernel_rfl, aa Tryz.func176 CZ⟩, ⟨⟨by kernel_rfl, aa Tryz.func177 C0⟩, ⟨⟨by kernel_rfl, aa Tryz.func181 BW⟩, ⟨⟨by kernel_rfl, aa Tryz.func182 Ie⟩, ⟨⟨by kernel_rfl, aa Tryz.func185 Ep⟩, ⟨⟨by kernel_rfl, aa Tryz.func187 iI⟩, ⟨⟨by kernel_rfl, aa Tryz.func188 C1⟩, ⟨⟨by kernel_rfl, aa Tryz.func189 K4⟩, ⟨⟨by kernel_rfl, aa Tryz.func191 Ig⟩, ⟨⟨by kernel_rfl, aa Tryz.func192 Er⟩, ⟨⟨by kernel_rfl, aa Tryz.func234 Aj⟩, ⟨⟨by kernel_rfl, aa Tryz.func237 Ak⟩, ⟨⟨by kernel_rfl, aa Tryz.func250 Es⟩, ⟨⟨by kernel_rfl, aa Tryz.func254 jA⟩, ⟨trivial, ⟨trivial, ⟨trivial, ⟨trivial, trivial⟩⟩⟩⟩⟩⟩⟩⟩⟩⟩⟩⟩⟩⟩⟩⟩⟩⟩⟩⟩⟩⟩⟩⟩⟩⟩⟩⟩⟩⟩⟩⟩⟩⟩⟩⟩⟩⟩⟩⟩⟩⟩⟩⟩⟩⟩⟩⟩⟩⟩⟩⟩⟩⟩⟩⟩⟩⟩⟩⟩⟩⟩⟩⟩⟩⟩⟩⟩⟩⟩⟩⟩⟩⟩⟩⟩⟩⟩⟩⟩⟩⟩⟩⟩⟩⟩⟩⟩⟩⟩⟩⟩⟩⟩⟩⟩⟩⟩⟩⟩⟩⟩⟩⟩⟩⟩⟩⟩⟩⟩⟩⟩⟩⟩⟩⟩⟩⟩⟩⟩⟩⟩⟩⟩⟩⟩⟩⟩⟩⟩⟩⟩⟩⟩⟩⟩⟩⟩⟩⟩⟩⟩⟩⟩⟩⟩⟩⟩⟩⟩⟩⟩⟩⟩⟩⟩⟩⟩⟩⟩⟩⟩⟩⟩⟩⟩⟩⟩⟩⟩⟩⟩⟩⟩⟩⟩⟩⟩⟩⟩⟩⟩⟩⟩⟩⟩⟩⟩⟩⟩⟩⟩⟩⟩⟩⟩⟩⟩⟩⟩⟩⟩⟩⟩⟩⟩⟩⟩⟩⟩⟩⟩⟩⟩⟩⟩⟩⟩⟩⟩⟩⟩⟩⟩⟩⟩⟩⟩⟩⟩⟩⟩⟩⟩⟩⟩⟩⟩⟩⟩⟩⟩⟩⟩⟩⟩⟩⟩⟩⟩⟩⟩⟩⟩⟩⟩⟩⟩⟩⟩⟩⟩⟩⟩⟩⟩⟩⟩⟩⟩⟩⟩⟩⟩⟩⟩⟩⟩⟩⟩⟩⟩⟩⟩⟩⟩⟩⟩⟩⟩⟩⟩⟩⟩⟩⟩⟩⟩⟩⟩⟩⟩⟩⟩⟩⟩⟩⟩⟩⟩⟩⟩⟩⟩⟩⟩⟩⟩⟩⟩⟩⟩⟩⟩⟩⟩⟩⟩⟩⟩⟩⟩⟩⟩⟩⟩⟩⟩⟩⟩⟩⟩⟩⟩⟩⟩⟩⟩⟩⟩⟩⟩⟩⟩⟩⟩⟩⟩⟩⟩⟩⟩⟩⟩⟩⟩⟩⟩⟩⟩⟩⟩⟩⟩⟩⟩⟩⟩⟩⟩⟩⟩⟩⟩⟩⟩⟩⟩⟩⟩⟩⟩⟩⟩⟩⟩⟩⟩⟩⟩⟩⟩⟩⟩⟩⟩⟩⟩⟩⟩⟩⟩⟩⟩⟩⟩⟩⟩⟩⟩⟩⟩⟩⟩⟩⟩⟩⟩⟩⟩⟩⟩⟩⟩⟩⟩⟩⟩⟩⟩⟩⟩⟩⟩⟩⟩⟩⟩⟩⟩⟩⟩⟩⟩⟩⟩⟩⟩⟩⟩⟩⟩⟩⟩⟩⟩⟩⟩⟩⟩⟩⟩⟩⟩⟩⟩⟩⟩⟩⟩⟩⟩⟩⟩⟩⟩⟩⟩⟩⟩⟩⟩⟩⟩⟩⟩⟩⟩⟩⟩⟩⟩⟩⟩⟩⟩⟩⟩⟩⟩⟩⟩⟩⟩⟩⟩⟩⟩⟩⟩⟩⟩⟩⟩⟩⟩⟩⟩⟩⟩⟩⟩⟩⟩⟩⟩⟩⟩⟩⟩⟩⟩⟩⟩⟩⟩⟩⟩⟩⟩⟩⟩⟩⟩⟩⟩⟩⟩⟩⟩⟩⟩⟩⟩⟩⟩⟩⟩⟩⟩⟩⟩⟩⟩⟩⟩⟩⟩⟩⟩⟩⟩⟩⟩⟩⟩⟩⟩⟩⟩⟩⟩⟩⟩⟩⟩⟩⟩⟩⟩⟩⟩⟩⟩⟩⟩⟩⟩⟩⟩⟩⟩⟩⟩
theorem ajH : ∀ f j, Names.ρ f = some j → Names.it f = true → Jk Tryz.prog j := fun f j hj h => Bool.noConfusion (show false = true from h)
def ad5 : List (Nat × List Nat) := [(241, [1]), (260, [2, N.a7]), (300, [3, N.aI]), (582, [6, N.eJ, N.eL, N.eM, N.eO, N.eQ, N.eR, N.dY, N.fR, N.dZ, N.eb, N.eT, N.eU, N.eV])]
def Nu : Go.Shelf.Ren := ⟨fun | 189 => 145 | 125 => 201 | 257 => 200 | 128 => 271 | 129 => 272 | 294 => 262 | 295 => 263 | 296 => 264 | 297 => 265 | 298 => 266 | 299 => 267 | 216 => 268 | 300 => 269 | 301 => 270 | 328 => 319 | 329 => 320 | 330 => 321 | 331 => 322 | 332 => 323 | 215 => 202 | 343 => 355 | n => n, fun | 28 => 22 | 3 => 3 | 46 => 219 | 0 => 0 | 51 => 253 | 53 => 256 | 4 => 4 | 183 => 308 | 182 => 307 | 131 => 312 | 5 => 5 | 9 => 9 | 218 => 364 | 222 => 318 | 228 => 392 | 229 => 362 | n => n, fun | n => n⟩
theorem QV : Go.Proofs.Lays.n189 Tryz.prog Nu := {
 mixed := by kernel_rfl,
 f125 := Tryz.func201.trans (congrArg some (by kernel_rfl)),
 f128 := Tryz.func271.trans (congrArg some (by kernel_rfl)),
 f129 := Tryz.func272.trans (congrArg some (by kernel_rfl)),
 f189 := Tryz.func145.trans (congrArg some (by kernel_rfl)),
 f215 := Tryz.func202.trans (congrArg some (by kernel_rfl)),
 f216 := Tryz.func268.trans (congrArg some (by kernel_rfl)),
 f257 := Tryz.func200.trans (congrArg some (by kernel_rfl)),
 f294 := Tryz.func262.trans (congrArg some (by kernel_rfl)),
 f295 := Tryz.func263.trans (congrArg some (by kernel_rfl)),
 f296 := Tryz.func264.trans (congrArg some (by kernel_rfl)),
 f297 := Tryz.func265.trans (congrArg some (by kernel_rfl)),
 f298 := Tryz.func266.trans (congrArg some (by kernel_rfl)),
 f299 := Tryz.func267.trans (congrArg some (by kernel_rfl)),
 f300 := Tryz.func269.trans (congrArg some (by kernel_rfl)),
 f301 := Tryz.func270.trans (congrArg some (by kernel_rfl)),
 f328 := Tryz.func319.trans (congrArg some (by kernel_rfl)),
 f329 := Tryz.func320.trans (congrArg some (by kernel_rfl)),
 f330 := Tryz.func321.trans (congrArg some (by kernel_rfl)),
 f331 := Tryz.func322.trans (congrArg some (by kernel_rfl)),
 f332 := Tryz.func323.trans (congrArg some (by kernel_rfl)),
 f343 := Tryz.func355.trans (congrArg some (by kernel_rfl)),
 t0 := Tryz.underlying0,
 a0 := Tryz.isAgg0,
 z0 := Tryz.sizeOf0,
 v0 := Tryz.zeroValue0,
 t3 := Tryz.underlying3,
 a3 := Tryz.isAgg3,
 z3 := Tryz.sizeOf3,
 v3 := Tryz.zeroValue3,
 t4 := Tryz.underlying4,
 a4 := Tryz.isAgg4,
 z4 := Tryz.sizeOf4,
 v4 := Tryz.zeroValue4,
 t5 := Tryz.underlying5,
 a5 := Tryz.isAgg5,
 z5 := Tryz.sizeOf5,
 v5 := Tryz.zeroValue5,
 t9 := Tryz.underlying9,
 a9 := Tryz.isAgg9,
 z9 := Tryz.sizeOf9,
 v9 := Tryz.zeroValue9,
 t28 := Tryz.underlying22,
 a28 := Tryz.isAgg22,
 z28 := Tryz.sizeOf22,
 v28 := Tryz.zeroValue22,
 t46 := Tryz.underlying219,
 a46 := Tryz.isAgg219,
 z46 := Tryz.sizeOf219,
 v46 := Tryz.zeroValue219,
 t51 := Tryz.underlying253,
 a51 := Tryz.isAgg253,
 z51 := Tryz.sizeOf253,
 v51 := Tryz.zeroValue253,
 t53 := Tryz.underlying256,
 a53 := Tryz.isAgg256,
 z53 := Tryz.sizeOf256,
 v53 := Tryz.zeroValue256,
 t131 := Tryz.underlying312,
 a131 := Tryz.isAgg312,
 z131 := Tryz.sizeOf312,
 v131 := Tryz.zeroValue312,
 t182 := Tryz.underlying307,
 a182 := Tryz.isAgg307,
 z182 := Tryz.sizeOf307,
 v182 := Tryz.zeroValue307,
 t183 := Tryz.underlying308,
 a183 := Tryz.isAgg308,
 z183 := Tryz.sizeOf308,
 v183 := Tryz.zeroValue308,
 t218 := Tryz.underlying364,
 a218 := Tryz.isAgg364,
 z218 := Tryz.sizeOf364,
 v218 := Tryz.zeroValue364,
 t222 := Tryz.underlying318,
 a222 := Tryz.isAgg318,
 z222 := Tryz.sizeOf318,
 v222 := Tryz.zeroValue318,
 t228 := Tryz.underlying392,
 a228 := Tryz.isAgg392,
 z228 := Tryz.sizeOf392,
 v228 := Tryz.zeroValue392,
 t229 := Tryz.underlying362,
 a229 := Tryz.isAgg362,
 z229 := Tryz.sizeOf362,
 v229 := Tryz.zeroValue362 }
theorem YK : ∀ j, Names.ρ 241 = some j → tC Tryz.prog j [1] := fun j hj => by
 have e : (Names.ρ 241 : Option Nat) = some 145 := by kernel_rfl
 rw [e] at hj; cases hj; exact VJ QV
def Ih : Go.Shelf.Ren := ⟨fun | 6 => 85 | 8 => 144 | 9 => 145 | 11 => 199 | 13 => 201 | 12 => 200 | 23 => 271 | 24 => 272 | 14 => 262 | 15 => 263 | 16 => 264 | 17 => 265 | 18 => 266 | 19 => 267 | 20 => 268 | 21 => 269 | 22 => 270 | 25 => 319 | 26 => 320 | 27 => 321 | 28 => 322 | 29 => 323 | 30 => 202 | 31 => 355 | n => n, fun | 26 => 3 | 28 => 166 | 24 => 22 | 0 => 0 | 3 => 3 | 37 => 219 | 48 => 253 | 50 => 256 | 4 => 4 | 40 => 308 | 39 => 307 | 45 => 312 | 5 => 5 | 9 => 9 | 51 => 364 | 55 => 318 | 57 => 392 | 58 => 362 | 33 => 101 | n => n, fun | n => n⟩
theorem Sq : Go.Proofs.SlLaysZI.n6 Tryz.prog Ih := {
 f6 := ⟨"slices.Sorted[int]", by kernel_rfl, Tryz.func85.trans (congrArg some (by kernel_rfl))⟩,
 f8 := ⟨"slices.Collect[int]", by kernel_rfl, Tryz.func144.trans (congrArg some (by kernel_rfl))⟩,
 f11 := ⟨"slices.AppendSeq[[]int,int]", by kernel_rfl, Tryz.func199.trans (congrArg some (by kernel_rfl))⟩,
 mixed := by kernel_rfl,
 t0 := Tryz.underlying0,
 a0 := Tryz.isAgg0,
 z0 := Tryz.sizeOf0,
 v0 := Tryz.zeroValue0,
 t24 := Tryz.underlying22,
 a24 := Tryz.isAgg22,
 z24 := Tryz.sizeOf22,
 v24 := Tryz.zeroValue22,
 t26 := Tryz.underlying3,
 a26 := Tryz.isAgg3,
 z26 := Tryz.sizeOf3,
 v26 := Tryz.zeroValue3,
 t28 := Tryz.underlying166,
 a28 := Tryz.isAgg166,
 z28 := Tryz.sizeOf166,
 v28 := Tryz.zeroValue166,
 i26 := by kernel_rfl }
section
open Go.RowKit Go.Shelf Go.Maps Go.Sort Go.Proofs
/- the iterator of slices.Values at this program -/
set_option maxRecDepth 100000 in
set_option maxHeartbeats 2000000 in
theorem aoJ (n l Bs : Nat) (hn : 1 ≤ n) (W0 : World) (b off len cap : Nat) (zs : List Int) (hlen : zs.length = len) (hreach : len * 8 ≤ 140737488351232) (hb : b < W0.heap.size) (J : List Int → World → Prop)
 (hJ : ∀ s W1, J s W1 → Below W0.heap.size W0 W1)
 (hY : ∀ pre x W1, J pre W1 → pre.length < zs.length → YieldAt Fence.wide (n - 1) Tryz.prog l #[encZ x] W1 fun e W' => e = .returned (.bool true) ∧ J (pre ++ [x]) W' ∧ KeepsWalks W1 W')
 (W : World) (hBs : W.cell? ⟨Bs, 0, none⟩ = some (.slice (some ⟨b, off, none⟩) len cap)) (hc : ∀ j, j < len → W0.cell? ⟨b, off + j, none⟩ = some (.int .i64 (zs[j]?.getD 0))) (h0 : J [] W) :
 CallsIn Fence.wide n Tryz.prog 146 #[.func (.yield l) #[] #[], .pointer (some ⟨Bs, 0, none⟩)] W fun e W' => (∃ v, e = .returned v) ∧ J zs W' := by
 have step : ∀ k, k < zs.length → zs.take k ++ [zs[k]?.getD 0] = zs.take (k + 1) := fun k hk => by
  rw [List.take_succ_eq_append_getElem hk]; simp [hk]
 refine callsIn_of_wp Tryz.func146 rfl trivial ?_ rfl
 simp only [Tryz.ntmps146, List.size_toArray, List.length_cons, List.length_nil, Nat.reduceAdd, Nat.reduceSub, Array.replicate_succ, Array.replicate_zero, List.push_toArray, List.append_toArray, List.nil_append, List.cons_append]
 gi_wp2
 gi_loopw [7] (fun i wr => ∃ k : Nat, k ≤ len ∧ i = .int .i64 k ∧ J (zs.take k) wr)
  (fun i _ => len - (intOf i).toNat)
 case atStart => exact ⟨0, Nat.zero_le _, rfl, h0⟩
 case round =>
  obtain ⟨k, hk, rfl, hJs⟩ := hrel
  by_cases hlt : k < len
  · have hcx : wr.cell? ⟨b, off + k, none⟩ = some (.int .i64 (zs[k]?.getD 0)) := ((hJ _ _ hJs).cell (p := ⟨b, off + k, none⟩) hb).trans (hc k hlt)
    have st := step k (by omega)
    generalize zs[k]?.getD 0 = x at hcx st
    obtain ⟨fn, tmps, assign, body, hy, hR⟩ := hY _ x wr hJs (by rw [List.length_take]; omega)
    clear step
    gi_wp2
    refine hR.mono ?_
    rintro e W3 ⟨rfl, hJ3, -⟩
    gi_wp2
    go_roundw
    case rel => exact ⟨k + 1, by omega, by simp, by rw [← st]; exact hJ3⟩
    case measure => simp [intOf]; omega
  · obtain rfl : k = len := by omega
    gi_wp2
    go_end0
    exact ⟨⟨_, rfl⟩, by rw [← hlen, List.take_length] at hJs; exact hJs⟩
set_option maxRecDepth 100000 in
set_option maxHeartbeats 1000000 in
theorem aoK (n l Bs : Nat) (p : Option Addr) (cap : Nat) (J : List Int → World → Prop) (W : World) (hBs : W.cell? ⟨Bs, 0, none⟩ = some (.slice p 0 cap)) (h0 : J [] W) :
 CallsIn Fence.wide n Tryz.prog 146 #[.func (.yield l) #[] #[], .pointer (some ⟨Bs, 0, none⟩)] W fun e W' => (∃ v, e = .returned v) ∧ J [] W' := by
 refine callsIn_of_wp Tryz.func146 rfl trivial ?_ rfl
 simp only [Tryz.ntmps146, List.size_toArray, List.length_cons, List.length_nil, Nat.reduceAdd, Nat.reduceSub, Array.replicate_succ, Array.replicate_zero, List.push_toArray, List.append_toArray, List.nil_append, List.cons_append]
 gi_wp2
 gi_loopw [7] (fun i wr => i = .int .i64 0 ∧ J [] wr) (fun _ _ => 0)
 case atStart => exact ⟨rfl, h0⟩
 case round =>
  obtain ⟨rfl, hJs⟩ := hrel
  gi_wp2
  go_end0
  exact ⟨⟨_, rfl⟩, hJs⟩
theorem ad6 : VK Tryz.prog 146 := by
 intro n Bs sv zs w hn hreach hBs hcell hI l J W hW hJ hY h0
 have hc' := (hW.cell (p := ⟨Bs, 0, none⟩) hBs).trans hcell
 rcases hI with ⟨p, cap, rfl, rfl⟩ | ⟨b, off, cap, rfl, hb, hcs⟩
 · exact aoK n l Bs p cap J W hc' h0
 · exact aoJ n l Bs hn w b off zs.length cap zs rfl hreach hb J hJ hY W hc' hcs h0
end
theorem YL : ∀ j, Names.ρ 260 = some j → tC Tryz.prog j [2, N.a7] := fun j hj => by
 have e : (Names.ρ 260 : Option Nat) = some 85 := by kernel_rfl
 rw [e] at hj; cases hj; exact Pe Sq QV (by kernel_rfl) (Go.Proofs.enters_of Tryz.func145 (by kernel_rfl) rfl) (by kernel_rfl) (Go.Proofs.enters_of Tryz.func146 (by kernel_rfl) rfl) ad6
def VQ : Go.Shelf.Ren := ⟨fun | 8 => 359 | 11 => 366 | n => n, fun | 0 => 0 | 24 => 37 | 26 => 147 | 28 => 375 | 33 => 214 | n => n, fun n => n⟩
theorem aoL : Go.Proofs.ajD Tryz.prog VQ := {
 mixed := by kernel_rfl,
 f8 := ⟨"slices.Collect[minecontrol/api.World]", by kernel_rfl, Tryz.func359.trans (congrArg some (by kernel_rfl))⟩,
 f11 := ⟨"slices.AppendSeq[[]minecontrol/api.World,minecontrol/api.World]", by kernel_rfl, Tryz.func366.trans (congrArg some (by kernel_rfl))⟩,
 t0 := Tryz.underlying0,
 a0 := Tryz.isAgg0,
 z0 := Tryz.sizeOf0,
 v0 := Tryz.zeroValue0,
 t24 := Tryz.underlying37,
 a24 := Tryz.isAgg37,
 z24 := Tryz.sizeOf37,
 v24 := Tryz.zeroValue37,
 t26 := ⟨_, Tryz.underlying147⟩,
 a26 := Tryz.isAgg147,
 z26 := Tryz.sizeOf147,
 v26 := Tryz.zeroValue147,
 t28 := Tryz.underlying375,
 a28 := Tryz.isAgg375,
 z28 := Tryz.sizeOf375,
 v28 := Tryz.zeroValue375,
 i26 := by kernel_rfl }
section
open Go.RowKit Go.Shelf Go.Maps Go.Sort Go.Proofs
/- the iterator of slices.Values of structures of two cells at this program -/
set_option maxRecDepth 100000 in
set_option maxHeartbeats 2000000 in
theorem ajI (n l Bs : Nat) (hn : 1 ≤ n) (W0 : World) (b off len cap : Nat) (zs : List (Value × Value)) (hlen : zs.length = len) (hone : ∀ x ∈ zs, x.1.oneCell' = true ∧ x.2.oneCell' = true) (hreach : len * 48 ≤ 140737488351232) (hb : b < W0.heap.size) (J : List (Value × Value) → World → Prop)
 (hJ : ∀ s W1, J s W1 → Below W0.heap.size W0 W1) (hA : ∀ s W1 o, J s W1 → J s (W1.alloc o))
 (hY : ∀ pre x W1, J pre W1 → pre.length < zs.length → x ∈ zs → YieldAt Fence.wide (n - 1) Tryz.prog l #[ajC x] W1 fun e W' => e = .returned (.bool true) ∧ J (pre ++ [x]) W' ∧ KeepsWalks W1 W')
 (W : World) (hBs : W.cell? ⟨Bs, 0, none⟩ = some (.slice (some ⟨b, off, none⟩) len cap)) (hc : ∀ j p, zs[j]? = some p → W0.cell? ⟨b, off + j * 2, none⟩ = some p.1 ∧ W0.cell? ⟨b, off + j * 2 + 1, none⟩ = some p.2) (h0 : J [] W) :
 CallsIn Fence.wide n Tryz.prog 361 #[.func (.yield l) #[] #[], .pointer (some ⟨Bs, 0, none⟩)] W fun e W' => (∃ v, e = .returned v) ∧ J zs W' := by
 have step : ∀ k x, zs[k]? = some x → zs.take k ++ [x] = zs.take (k + 1) := fun k x hk => by
  rw [List.take_add_one, hk]; rfl
 refine callsIn_of_wp Tryz.func361 rfl trivial ?_ rfl
 simp only [Tryz.ntmps361, List.size_toArray, List.length_cons, List.length_nil, Nat.reduceAdd, Nat.reduceSub, Array.replicate_succ, Array.replicate_zero, List.push_toArray, List.append_toArray, List.nil_append, List.cons_append]
 gi_wp2
 gi_loopw [7] (fun i wr => ∃ k : Nat, k ≤ len ∧ i = .int .i64 k ∧ J (zs.take k) wr)
  (fun i _ => len - (intOf i).toNat)
 case atStart => exact ⟨0, Nat.zero_le _, rfl, h0⟩
 case round =>
  obtain ⟨k, hk, rfl, hJs⟩ := hrel
  by_cases hlt : k < len
  · obtain ⟨x, hx⟩ : ∃ x, zs[k]? = some x := ⟨_, List.getElem?_eq_getElem (by omega)⟩
    have hcx0 : wr.cell? ⟨b, off + k * 2, none⟩ = some x.1 := ((hJ _ _ hJs).cell (p := ⟨b, off + k * 2, none⟩) hb).trans (hc k x hx).1
    have hcx1 : wr.cell? ⟨b, off + k * 2 + 1, none⟩ = some x.2 := ((hJ _ _ hJs).cell (p := ⟨b, off + k * 2 + 1, none⟩) hb).trans (hc k x hx).2
    have hm : x ∈ zs := List.mem_of_getElem? hx
    have st := step k x hx
    obtain ⟨hx1, hx2⟩ := hone x hm
    have hst := MQ Tryz.prog wr x.1 x.2 (.slice none 0 0) (.slice none 0 0) 147 hx1 hx2
    have cA0 : (wr.alloc (.cells #[x.1, x.2] 147)).cell? ⟨wr.heap.size, 0, none⟩ = some x.1 := qd wr x.1 x.2 147 0 x.1 rfl
    have cA1 : (wr.alloc (.cells #[x.1, x.2] 147)).cell? ⟨wr.heap.size, 1, none⟩ = some x.2 := qd wr x.1 x.2 147 1 x.2 rfl
    obtain ⟨fn, tmps, assign, body, hy, hR⟩ := hY _ x _ (hA _ _ (.cells #[x.1, x.2] 147) hJs) (by rw [List.length_take]; omega) hm
    clear step hone hc
    gi_wp2
    refine hR.mono ?_
    rintro e W3 ⟨rfl, hJ3, -⟩
    gi_wp2
    go_roundw
    case rel => exact ⟨k + 1, by omega, by simp, by rw [← st]; exact hJ3⟩
    case measure => simp [intOf]; omega
  · obtain rfl : k = len := by omega
    gi_wp2
    go_end0
    exact ⟨⟨_, rfl⟩, by rw [← hlen, List.take_length] at hJs; exact hJs⟩
set_option maxRecDepth 100000 in
set_option maxHeartbeats 1000000 in
theorem ajJ (n l Bs : Nat) (p : Option Addr) (cap : Nat) (J : List (Value × Value) → World → Prop) (W : World) (hBs : W.cell? ⟨Bs, 0, none⟩ = some (.slice p 0 cap)) (h0 : J [] W) :
 CallsIn Fence.wide n Tryz.prog 361 #[.func (.yield l) #[] #[], .pointer (some ⟨Bs, 0, none⟩)] W fun e W' => (∃ v, e = .returned v) ∧ J [] W' := by
 refine callsIn_of_wp Tryz.func361 rfl trivial ?_ rfl
 simp only [Tryz.ntmps361, List.size_toArray, List.length_cons, List.length_nil, Nat.reduceAdd, Nat.reduceSub, Array.replicate_succ, Array.replicate_zero, List.push_toArray, List.append_toArray, List.nil_append, List.cons_append]
 gi_wp2
 gi_loopw [7] (fun i wr => i = .int .i64 0 ∧ J [] wr) (fun _ _ => 0)
 case atStart => exact ⟨rfl, h0⟩
 case round =>
  obtain ⟨rfl, hJs⟩ := hrel
  gi_wp2
  go_end0
  exact ⟨⟨_, rfl⟩, hJs⟩
theorem YM : VO Tryz.prog 361 := by
 intro n Bs sv zs w hn hone hreach hBs hcell hI l J W hW hJ hA hY h0
 have hc' := (hW.cell (p := ⟨Bs, 0, none⟩) hBs).trans hcell
 rcases hI with ⟨p, cap, rfl, rfl⟩ | ⟨b, off, cap, rfl, hb, hcs⟩
 · exact ajJ n l Bs p cap J W hc' h0
 · exact ajI n l Bs hn w b off zs.length cap zs rfl hone hreach hb J hJ hA hY W hc' hcs h0
end
theorem YN : ∀ j, Names.ρ 300 = some j → tC Tryz.prog j [3, N.aI] := fun j hj => by
 have e : (Names.ρ 300 : Option Nat) = some 359 := by kernel_rfl
 rw [e] at hj; cases hj; exact MR aoL (by kernel_rfl) (Go.Proofs.enters_of Tryz.func361 (by kernel_rfl) rfl) YM
section
open Go.RowKit Go.Maps Go.Proofs
theorem mmE (t : TypeId) (w : Go.World) : (Instr.makeMap t none).run Tryz.prog w = .ok (.map (some w.heap.size)) (w.alloc (.map (CI []) ([] : List Nat).length)) := rfl
theorem aoM (n j : Nat) (w : Go.World) (h : ([168, 169, 170, 171, 172, 173, 174, 175, 176, 177, 178, 179, 180] : List Nat)[n]? = some j) : Calls Tryz.prog 117 #[.int .i64 (n + 1)] w fun e w' => e = .returned (.func (.func j) #[] #[]) ∧ w' = w.alloc (.map (CI [168, 169, 170, 171, 172, 173, 174, 175, 176, 177, 178, 179, 180]) ([168, 169, 170, 171, 172, 173, 174, 175, 176, 177, 178, 179, 180] : List Nat).length) := by
 have hmm := mmE
 go_enter Tryz.func117, Tryz.ntmps117
 go_wp2_with (first
  | (at_lookup; refine Sk w rfl _ _ 229 rfl 3 197 Tryz.underlying229 Tryz.underlying3 rfl [168, 169, 170, 171, 172, 173, 174, 175, 176, 177, 178, 179, 180] n j rfl h 13 ?_)
  | (refine Sj w rfl _ _ _ 229 rfl 3 197 Tryz.underlying229 Tryz.underlying3 rfl _ _ rfl rfl ?_)
  | go_in)
 go_ret
 exact ⟨rfl, rfl⟩
end
theorem YO : ∀ j, Names.ρ 582 = some j → tC Tryz.prog j [6, N.eJ, N.eL, N.eM, N.eO, N.eQ, N.eR, N.dY, N.fR, N.dZ, N.eb, N.eT, N.eU, N.eV] := fun j hj => by
 have e : (Names.ρ 582 : Option Nat) = some 117 := by kernel_rfl
 rw [e] at hj; cases hj; exact Sl (ids := [168, 169, 170, 171, 172, 173, 174, 175, 176, 177, 178, 179, 180]) (by kernel_rfl) aoM
theorem YP : ∀ x ∈ ad5, ∀ j, Names.ρ x.1 = some j → tC Tryz.prog j x.2 := by
 intro x hx
 simp only [ad5, List.mem_cons, List.not_mem_nil, or_false] at hx
 rcases hx with rfl | rfl | rfl | rfl
 · exact YK
 · exact YL
 · exact YN
 · exact YO
end Go.Proofs.YtjibfckckknjkaaGreat
