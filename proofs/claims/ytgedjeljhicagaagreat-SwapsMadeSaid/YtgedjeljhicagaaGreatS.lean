/- MADE BY PROGRAM (lib.py): the numbers that the functions have in this program, and the check of each one. -/
import Derived.Test.YtgedjeljhicagaaGreatProg
import Derived.Test.YtgedjeljhicagaaGreatZPPP
import Derived.KernelRfl
set_option linter.all false
set_option maxRecDepth 100000
namespace Go.Proofs.YtgedjeljhicagaaGreat
open Go.Ev
def real : List (Option Nat) := [none, some 9, none, some 11, some 12, none, none, none, some 35, some 15, some 28, none, some 24, some 73, none, some 16, some 23, none, none, some 14, some 21, some 69, some 70, some 17, none, none, none, some 27, some 45, none, some 105, none, none, none, none, some 46, some 22, some 37, some 53, some 54, some 55, some 56, some 57, some 109, some 91, some 29, some 30, some 74, none, some 93, none, some 95, none, some 38, some 90, none, some 58, some 59, some 60, some 100, some 101, some 65, some 26, some 102, some 64, some 66, some 125, some 103, some 75, some 76, some 77, some 41, some 111, some 106, some 107, some 113, some 129, some 139, none, none, none, none, none, none, none, none, none, none, none, none, none, none, none, none, some 36, none, none, none, none, none, none, none, none, none, none, some 86, none, none, none, none, none, none, none, none, none, none, none, none, none, none, some 37, some 37, some 54, none, none, none, none, none, none, none, none, none, none, none, none, none, none, none, none, none, none, none, none, none, none, some 92, none, none, some 124, none, none, none, none, none, none, none, none, none, none, none, some 121, none, none, none, none, none, none, some 40, none, none, some 135, none, none, some 85, none, none, some 152, some 120, none, none, none, none, none, none, none, none, some 44, none, none, some 99, some 84, none, some 63, some 68, some 110, none, some 32, none, some 87, some 88, some 89, some 119, some 80, some 104, some 43, some 108, some 112, some 51, some 122, some 123, some 134, some 136, some 153, some 161, some 162, none, none, none, none, none, none, none, none, none, none, none, none, none, none, none, none, none, none, none, none, none, none, none, none, none, none, none, none, none, none, none, none, none, none, none, none, none, none, none, none, none, none, some 39, none, none, some 78, some 79, some 42, some 81, some 82, some 83, none, some 116, some 117, some 118, some 133, none, none, none, none, none, some 8, some 10, some 13, some 18, some 19, some 20, some 25, some 31, none, some 34, some 47, some 48, some 49, some 50, some 52, some 61, some 62, some 67, some 71, some 72, some 94, some 96, some 97, some 98, some 126, some 127, some 128, some 138, some 154, some 155, some 163, some 165, some 50, none, none, none, none, none, none, none, none, none, none, none, none, none, none, none, none, none, none, none, none, none, none, none, none, none]
def tab : List (Option Go.Ev.Fn) := [none, some K.i4, none, some K.kd, some K.cY, none, none, none, some K.cC, some K.ax, some K.dL, none, some K.iW, some K.dW, none, some K.dY, some K.cE, none, none, some K.dZ, some K.bA, some K.gQ, some K.dM, some K.iP, none, none, none, some K.dX, some K.dj, none, some K.ke, none, none, none, none, some K.fo, some K.eI, some K.ei, some K.cR, some K.bE, some K.i5, some K.eJ, some K.i6, some K.eL, some K.dk, some K.iX, some K.dm, some K.eM, none, some K.aJ, none, some K.aZ, none, some K.dv, some K.iw, none, some K.dN, some K.gk, some K.eb, some K.iy, some K.fK, some K.b9, some K.b5, some K.iz, some K.cT, some K.fL, some K.bB, some K.bq, some K.b6, some K.aA, some K.bD, some K.cQ, some K.dG, some K.dH, some K.iC, some K.aI, some K.cu, some K.i7, none, none, none, none, none, none, none, none, none, none, none, none, none, none, none, none, some K.km, none, none, none, none, none, none, none, none, none, none, some K.fy, none, none, none, none, none, none, none, none, none, none, none, none, none, none, some K.fg, some K.fh, some K.cq, none, none, none, none, none, none, none, none, none, none, none, none, none, none, none, none, none, none, none, none, none, none, some K.cV, none, none, some K.bT, none, none, none, none, none, none, none, none, none, none, none, some K.bK, none, none, none, none, none, none, some K.et, none, none, some K.ed, none, none, some K.jc, none, none, some K.dz, some K.gp, none, none, none, none, none, none, none, none, some K.iN, none, none, some K.gq, some K.eB, none, some K.fY, some K.cM, some K.dR, none, some K.iH, none, some K.dB, some K.bL, some K.dt, some K.de, some K.bc, some K.cy, some K.aG, some K.bV, some K.eO, some K.eC, some K.dC, some K.bu, some K.bW, some K.kn, some K.ko, some K.fB, some K.jd, none, none, none, none, none, none, none, none, none, none, none, none, none, none, none, none, none, none, none, none, none, none, none, none, none, none, none, none, none, none, none, none, none, none, none, none, none, none, none, none, none, none, some K.dI, none, none, some K.cm, some K.bw, some K.fC, some K.aW, some K.ak, some K.dE, none, some K.aS, some K.cD, some K.az, some K.cmp_isNaN_int, none, none, none, none, none, some K.aB, some K.cA, some K.jH, some K.fZ, some K.kZ, some K.bM, some K.jI, some K.fV, none, some K.eT, some K.je, some K.aO, some K.jf, some K.kJ, some K.im, some K.cn, some K.cX, some K.bN, some K.eU, some K.ef, some K.eD, some K.aL, some K.aM, some K.bj, some K.bG, some K.aD, some K.ay, some K.aT, some K.aC, some K.aK, some K.bh, some K.aN, some K.cF, none, none, none, none, none, none, none, none, none, none, none, none, none, none, none, none, none, none, none, none, none, none, none, none, none]
instance names : Names := { ρ := fun f => (real[f]?).join }
instance lib : Lib := ⟨fun f => (tab[f]?).join⟩
instance has1 : cz := ⟨rfl, rfl, rfl, rfl, rfl, rfl, rfl, rfl, rfl, rfl, rfl, rfl, rfl, rfl, rfl, rfl, rfl, rfl, rfl, rfl⟩
instance has2 : bZ := ⟨rfl, rfl, rfl, rfl, rfl, rfl, rfl, rfl, rfl, rfl, rfl, rfl, rfl, rfl, rfl, rfl, rfl, rfl, rfl, rfl, rfl, rfl, rfl, rfl, rfl, rfl, rfl, rfl, rfl, rfl, rfl, rfl, rfl, rfl, rfl, rfl, rfl⟩
instance has3 : gU := ⟨rfl⟩
instance has4 : gJ := ⟨rfl, rfl, rfl, rfl⟩
instance has5 : kG := ⟨rfl, rfl⟩
instance has6 : gV := ⟨rfl, rfl, rfl⟩
instance has7 : gW := ⟨rfl, rfl, rfl⟩
instance has8 : jC := ⟨rfl, rfl, rfl, rfl⟩
instance has9 : gX := ⟨rfl, rfl, rfl, rfl, rfl, rfl, rfl, rfl, rfl, rfl, rfl, rfl, rfl, rfl, rfl, rfl, rfl, rfl, rfl, rfl⟩
instance has10 : fT := ⟨⟩
instance has11 : eR := ⟨rfl, rfl, rfl, rfl, rfl, rfl, rfl, rfl, rfl, rfl, rfl⟩
instance has12 : iU := ⟨rfl, rfl, rfl, rfl, rfl, rfl, rfl, rfl, rfl⟩
instance has13 : fE := ⟨rfl, rfl, rfl, rfl, rfl, rfl, rfl, rfl, rfl, rfl, rfl, rfl, rfl, rfl, rfl, rfl, rfl, rfl, rfl, rfl, rfl, rfl, rfl⟩
instance has14 : Bf := ⟨⟩
instance has15 : Bg := ⟨⟩
theorem FK : aY Tryz.prog Tryz.f9 K.i4 = true := by kernel_rfl
theorem HM : aY Tryz.prog Tryz.f11 K.kd = true := by kernel_rfl
theorem yS : aY Tryz.prog Tryz.f12 K.cY = true := by kernel_rfl
theorem wY : aY Tryz.prog Tryz.f35 K.cC = true := by kernel_rfl
theorem yT : aY Tryz.prog Tryz.f15 K.ax = true := by kernel_rfl
theorem Bi : aY Tryz.prog Tryz.f28 K.dL = true := by kernel_rfl
theorem HN : aY Tryz.prog Tryz.f24 K.iW = true := by kernel_rfl
theorem yU : aY Tryz.prog Tryz.f73 K.dW = true := by kernel_rfl
theorem AR : aY Tryz.prog Tryz.f16 K.dY = true := by kernel_rfl
theorem yV : aY Tryz.prog Tryz.f23 K.cE = true := by kernel_rfl
theorem Dr : aY Tryz.prog Tryz.f14 K.dZ = true := by kernel_rfl
theorem yW : aY Tryz.prog Tryz.f21 K.bA = true := by kernel_rfl
theorem HO : aY Tryz.prog Tryz.f69 K.gQ = true := by kernel_rfl
theorem Bj : aY Tryz.prog Tryz.f70 K.dM = true := by kernel_rfl
theorem KJ : aY Tryz.prog Tryz.f17 K.iP = true := by kernel_rfl
theorem yX : aY Tryz.prog Tryz.f27 K.dX = true := by kernel_rfl
theorem Dt : aY Tryz.prog Tryz.f45 K.dj = true := by kernel_rfl
theorem HP : aY Tryz.prog Tryz.f105 K.ke = true := by kernel_rfl
theorem Bk : aY Tryz.prog Tryz.f46 K.fo = true := by kernel_rfl
theorem Du : aY Tryz.prog Tryz.f22 K.eI = true := by kernel_rfl
theorem FL : aY Tryz.prog Tryz.f37 K.ei = true := by kernel_rfl
theorem Dv : aY Tryz.prog Tryz.f53 K.cR = true := by kernel_rfl
theorem xQ : aY Tryz.prog Tryz.f54 K.bE = true := by kernel_rfl
theorem FM : aY Tryz.prog Tryz.f55 K.i5 = true := by kernel_rfl
theorem Dw : aY Tryz.prog Tryz.f56 K.eJ = true := by kernel_rfl
theorem FN : aY Tryz.prog Tryz.f57 K.i6 = true := by kernel_rfl
theorem Dx : aY Tryz.prog Tryz.f109 K.eL = true := by kernel_rfl
theorem Bl : aY Tryz.prog Tryz.f91 K.dk = true := by kernel_rfl
theorem HQ : aY Tryz.prog Tryz.f29 K.iX = true := by kernel_rfl
theorem Bm : aY Tryz.prog Tryz.f30 K.dm = true := by kernel_rfl
theorem Dy : aY Tryz.prog Tryz.f74 K.eM = true := by kernel_rfl
theorem nG : aY Tryz.prog Tryz.f93 K.aJ = true := by kernel_rfl
theorem pQ : aY Tryz.prog Tryz.f95 K.aZ = true := by kernel_rfl
theorem yY : aY Tryz.prog Tryz.f38 K.dv = true := by kernel_rfl
theorem FO : aY Tryz.prog Tryz.f90 K.iw = true := by kernel_rfl
theorem Bo : aY Tryz.prog Tryz.f58 K.dN = true := by kernel_rfl
theorem Dz : aY Tryz.prog Tryz.f59 K.gk = true := by kernel_rfl
theorem DA : aY Tryz.prog Tryz.f60 K.eb = true := by kernel_rfl
theorem FP : aY Tryz.prog Tryz.f100 K.iy = true := by kernel_rfl
theorem DB : aY Tryz.prog Tryz.f101 K.fK = true := by kernel_rfl
theorem FQ : aY Tryz.prog Tryz.f65 K.b9 = true := by kernel_rfl
theorem yZ : aY Tryz.prog Tryz.f26 K.b5 = true := by kernel_rfl
theorem FT : aY Tryz.prog Tryz.f102 K.iz = true := by kernel_rfl
theorem DC : aY Tryz.prog Tryz.f64 K.cT = true := by kernel_rfl
theorem DD : aY Tryz.prog Tryz.f66 K.fL = true := by kernel_rfl
theorem oN : aY Tryz.prog Tryz.f125 K.bB = true := by kernel_rfl
theorem rV : aY Tryz.prog Tryz.f103 K.bq = true := by kernel_rfl
theorem wZ : aY Tryz.prog Tryz.f75 K.b6 = true := by kernel_rfl
theorem jq : aY Tryz.prog Tryz.f76 K.aA = true := by kernel_rfl
theorem ua : aY Tryz.prog Tryz.f77 K.bD = true := by kernel_rfl
theorem KK : aY Tryz.prog Tryz.f41 K.cQ = true := by kernel_rfl
theorem DE : aY Tryz.prog Tryz.f111 K.dG = true := by kernel_rfl
theorem DF : aY Tryz.prog Tryz.f106 K.dH = true := by kernel_rfl
theorem FU : aY Tryz.prog Tryz.f107 K.iC = true := by kernel_rfl
theorem jY : aY Tryz.prog Tryz.f113 K.aI = true := by kernel_rfl
theorem Bp : aY Tryz.prog Tryz.f129 K.cu = true := by kernel_rfl
theorem FV : aY Tryz.prog Tryz.f139 K.i7 = true := by kernel_rfl
theorem HR : aY Tryz.prog Tryz.f36 K.km = true := by kernel_rfl
theorem Bq : aY Tryz.prog Tryz.f86 K.fy = true := by kernel_rfl
theorem AS : aY Tryz.prog Tryz.f37 K.fg = true := by kernel_rfl
theorem AT : aY Tryz.prog Tryz.f37 K.fh = true := by kernel_rfl
theorem uc : aY Tryz.prog Tryz.f54 K.cq = true := by kernel_rfl
theorem xR : aY Tryz.prog Tryz.f92 K.cV = true := by kernel_rfl
theorem vn : aY Tryz.prog Tryz.f124 K.bT = true := by kernel_rfl
theorem rJ : aY Tryz.prog Tryz.f121 K.bK = true := by kernel_rfl
theorem FW : aY Tryz.prog Tryz.f40 K.et = true := by kernel_rfl
theorem AU : aY Tryz.prog Tryz.f135 K.ed = true := by kernel_rfl
theorem FX : aY Tryz.prog Tryz.f85 K.jc = true := by kernel_rfl
theorem xS : aY Tryz.prog Tryz.f152 K.dz = true := by kernel_rfl
theorem DG : aY Tryz.prog Tryz.f120 K.gp = true := by kernel_rfl
theorem Br : aY Tryz.prog Tryz.f44 K.iN = true := by kernel_rfl
theorem DH : aY Tryz.prog Tryz.f99 K.gq = true := by kernel_rfl
theorem Bt : aY Tryz.prog Tryz.f84 K.eB = true := by kernel_rfl
theorem FY : aY Tryz.prog Tryz.f63 K.fY = true := by kernel_rfl
theorem AV : aY Tryz.prog Tryz.f68 K.cM = true := by kernel_rfl
theorem Bu : aY Tryz.prog Tryz.f110 K.dR = true := by kernel_rfl
theorem FZ : aY Tryz.prog Tryz.f32 K.iH = true := by kernel_rfl
theorem y4 : aY Tryz.prog Tryz.f87 K.dB = true := by kernel_rfl
theorem y5 : aY Tryz.prog Tryz.f88 K.bL = true := by kernel_rfl
theorem F3 : aY Tryz.prog Tryz.f89 K.dt = true := by kernel_rfl
theorem AX : aY Tryz.prog Tryz.f119 K.de = true := by kernel_rfl
theorem rW : aY Tryz.prog Tryz.f80 K.bc = true := by kernel_rfl
theorem Bv : aY Tryz.prog Tryz.f104 K.cy = true := by kernel_rfl
theorem rX : aY Tryz.prog Tryz.f43 K.aG = true := by kernel_rfl
theorem xT : aY Tryz.prog Tryz.f108 K.bV = true := by kernel_rfl
theorem DI : aY Tryz.prog Tryz.f112 K.eO = true := by kernel_rfl
theorem Bw : aY Tryz.prog Tryz.f51 K.eC = true := by kernel_rfl
theorem xU : aY Tryz.prog Tryz.f122 K.dC = true := by kernel_rfl
theorem w7 : aY Tryz.prog Tryz.f123 K.bu = true := by kernel_rfl
theorem xV : aY Tryz.prog Tryz.f134 K.bW = true := by kernel_rfl
theorem HT : aY Tryz.prog Tryz.f136 K.kn = true := by kernel_rfl
theorem HU : aY Tryz.prog Tryz.f153 K.ko = true := by kernel_rfl
theorem HV : aY Tryz.prog Tryz.f161 K.fB = true := by kernel_rfl
theorem F4 : aY Tryz.prog Tryz.f162 K.jd = true := by kernel_rfl
theorem DJ : aY Tryz.prog Tryz.f39 K.dI = true := by kernel_rfl
theorem vo : aY Tryz.prog Tryz.f78 K.cm = true := by kernel_rfl
theorem rK : aY Tryz.prog Tryz.f79 K.bw = true := by kernel_rfl
theorem Bx : aY Tryz.prog Tryz.f42 K.fC = true := by kernel_rfl
theorem qq : aY Tryz.prog Tryz.f81 K.aW = true := by kernel_rfl
theorem fU : aY Tryz.prog Tryz.f82 K.ak = true := by kernel_rfl
theorem AY : aY Tryz.prog Tryz.f83 K.dE = true := by kernel_rfl
theorem pR : aY Tryz.prog Tryz.f116 K.aS = true := by kernel_rfl
theorem xW : aY Tryz.prog Tryz.f117 K.cD = true := by kernel_rfl
theorem gz : aY Tryz.prog Tryz.f118 K.az = true := by kernel_rfl
theorem AZ : aY Tryz.prog Tryz.f133 K.cmp_isNaN_int = true := by kernel_rfl
theorem xX : aY Tryz.prog Tryz.f8 K.aB = true := by kernel_rfl
theorem DK : aY Tryz.prog Tryz.f10 K.cA = true := by kernel_rfl
theorem DL : aY Tryz.prog Tryz.f13 K.jH = true := by kernel_rfl
theorem F5 : aY Tryz.prog Tryz.f18 K.fZ = true := by kernel_rfl
theorem F6 : aY Tryz.prog Tryz.f19 K.kZ = true := by kernel_rfl
theorem y6 : aY Tryz.prog Tryz.f20 K.bM = true := by kernel_rfl
theorem HW : aY Tryz.prog Tryz.f25 K.jI = true := by kernel_rfl
theorem By : aY Tryz.prog Tryz.f31 K.fV = true := by kernel_rfl
theorem DM : aY Tryz.prog Tryz.f34 K.eT = true := by kernel_rfl
theorem F7 : aY Tryz.prog Tryz.f47 K.je = true := by kernel_rfl
theorem lx : aY Tryz.prog Tryz.f48 K.aO = true := by kernel_rfl
theorem F8 : aY Tryz.prog Tryz.f49 K.jf = true := by kernel_rfl
theorem DN : aY Tryz.prog Tryz.f50 K.kJ = true := by kernel_rfl
theorem DO : aY Tryz.prog Tryz.f52 K.im = true := by kernel_rfl
theorem DP : aY Tryz.prog Tryz.f61 K.cn = true := by kernel_rfl
theorem DQ : aY Tryz.prog Tryz.f62 K.cX = true := by kernel_rfl
theorem y7 : aY Tryz.prog Tryz.f67 K.bN = true := by kernel_rfl
theorem DR : aY Tryz.prog Tryz.f71 K.eU = true := by kernel_rfl
theorem DT : aY Tryz.prog Tryz.f72 K.ef = true := by kernel_rfl
theorem Bz : aY Tryz.prog Tryz.f94 K.eD = true := by kernel_rfl
theorem kP : aY Tryz.prog Tryz.f96 K.aL = true := by kernel_rfl
theorem kQ : aY Tryz.prog Tryz.f97 K.aM = true := by kernel_rfl
theorem A0 : aY Tryz.prog Tryz.f98 K.bj = true := by kernel_rfl
theorem oO : aY Tryz.prog Tryz.f126 K.bG = true := by kernel_rfl
theorem iV : aY Tryz.prog Tryz.f127 K.aD = true := by kernel_rfl
theorem j9 : aY Tryz.prog Tryz.f128 K.ay = true := by kernel_rfl
theorem mc : aY Tryz.prog Tryz.f138 K.aT = true := by kernel_rfl
theorem jN : aY Tryz.prog Tryz.f154 K.aC = true := by kernel_rfl
theorem ly : aY Tryz.prog Tryz.f155 K.aK = true := by kernel_rfl
theorem me : aY Tryz.prog Tryz.f163 K.bh = true := by kernel_rfl
theorem kR : aY Tryz.prog Tryz.f165 K.aN = true := by kernel_rfl
theorem y8 : aY Tryz.prog Tryz.f50 K.cF = true := by kernel_rfl
theorem abf : GB Tryz.prog real tab :=
 ⟨trivial, ⟨⟨by kernel_rfl, ai Tryz.func9 FK⟩, ⟨trivial, ⟨⟨by kernel_rfl, ai Tryz.func11 HM⟩, ⟨⟨by kernel_rfl, ai Tryz.func12 yS⟩, ⟨trivial, ⟨trivial, ⟨trivial, ⟨⟨by kernel_rfl, ai Tryz.func35 wY⟩, ⟨⟨by kernel_rfl, ai Tryz.func15 yT⟩, ⟨⟨by kernel_rfl, ai Tryz.func28 Bi⟩, ⟨trivial, ⟨⟨by kernel_rfl, ai Tryz.func24 HN⟩, ⟨⟨by kernel_rfl, ai Tryz.func73 yU⟩, ⟨trivial, ⟨⟨by kernel_rfl, ai Tryz.func16 AR⟩, ⟨⟨by kernel_rfl, ai Tryz.func23 yV⟩, ⟨trivial, ⟨trivial, ⟨⟨by kernel_rfl, ai Tryz.func14 Dr⟩, ⟨⟨by kernel_rfl, ai Tryz.func21 yW⟩, ⟨⟨by kernel_rfl, ai Tryz.func69 HO⟩, ⟨⟨by kernel_rfl, ai Tryz.func70 Bj⟩, ⟨⟨by kernel_rfl, ai Tryz.func17 KJ⟩, ⟨trivial, ⟨trivial, ⟨trivial, ⟨⟨by kernel_rfl, ai Tryz.func27 yX⟩, ⟨⟨by kernel_rfl, ai Tryz.func45 Dt⟩, ⟨trivial, ⟨⟨by kernel_rfl, ai Tryz.func105 HP⟩, ⟨trivial, ⟨trivial, ⟨trivial, ⟨trivial, ⟨⟨by kernel_rfl, ai Tryz.func46 Bk⟩, ⟨⟨by kernel_rfl, ai Tryz.func22 Du⟩, ⟨⟨by kernel_rfl, ai Tryz.func37 FL⟩, ⟨⟨by kernel_rfl, ai Tryz.func53 Dv⟩, ⟨⟨by kernel_rfl, ai Tryz.func54 xQ⟩, ⟨⟨by kernel_rfl, ai Tryz.func55 FM⟩, ⟨⟨by kernel_rfl, ai Tryz.func56 Dw⟩, ⟨⟨by kernel_rfl, ai Tryz.func57 FN⟩, ⟨⟨by kernel_rfl, ai Tryz.func109 Dx⟩, ⟨⟨by kernel_rfl, ai Tryz.func91 Bl⟩, ⟨⟨by kernel_rfl, ai Tryz.func29 HQ⟩, ⟨⟨by kernel_rfl, ai Tryz.func30 Bm⟩, ⟨⟨by kernel_rfl, ai Tryz.func74 Dy⟩, ⟨trivial, ⟨⟨by kernel_rfl, ai Tryz.func93 nG⟩, ⟨trivial, ⟨⟨by kernel_rfl, ai Tryz.func95 pQ⟩, ⟨trivial, ⟨⟨by kernel_rfl, ai Tryz.func38 yY⟩, ⟨⟨by kernel_rfl, ai Tryz.func90 FO⟩, ⟨trivial, ⟨⟨by kernel_rfl, ai Tryz.func58 Bo⟩, ⟨⟨by kernel_rfl, ai Tryz.func59 Dz⟩, ⟨⟨by kernel_rfl, ai Tryz.func60 DA⟩, ⟨⟨by kernel_rfl, ai Tryz.func100 FP⟩, ⟨⟨by kernel_rfl, ai Tryz.func101 DB⟩, ⟨⟨by kernel_rfl, ai Tryz.func65 FQ⟩, ⟨⟨by kernel_rfl, ai Tryz.func26 yZ⟩, ⟨⟨by kernel_rfl, ai Tryz.func102 FT⟩, ⟨⟨by kernel_rfl, ai Tryz.func64 DC⟩, ⟨⟨by kernel_rfl, ai Tryz.func66 DD⟩, ⟨⟨by kernel_rfl, ai Tryz.func125 oN⟩, ⟨⟨by kernel_rfl, ai Tryz.func103 rV⟩, ⟨⟨by kernel_rfl, ai Tryz.func75 wZ⟩, ⟨⟨by kernel_rfl, ai Tryz.func76 jq⟩, ⟨⟨by kernel_rfl, ai Tryz.func77 ua⟩, ⟨⟨by kernel_rfl, ai Tryz.func41 KK⟩, ⟨⟨by kernel_rfl, ai Tryz.func111 DE⟩, ⟨⟨by kernel_rfl, ai Tryz.func106 DF⟩, ⟨⟨by kernel_rfl, ai Tryz.func107 FU⟩, ⟨⟨by kernel_rfl, ai Tryz.func113 jY⟩, ⟨⟨by kernel_rfl, ai Tryz.func129 Bp⟩, ⟨⟨by kernel_rfl, ai Tryz.func139 FV⟩, ⟨trivial, ⟨trivial, ⟨trivial, ⟨trivial, ⟨trivial, ⟨trivial, ⟨trivial, ⟨trivial, ⟨trivial, ⟨trivial, ⟨trivial, ⟨trivial, ⟨trivial, ⟨trivial, ⟨trivial, ⟨trivial, ⟨⟨by kernel_rfl, ai Tryz.func36 HR⟩, ⟨trivial, ⟨trivial, ⟨trivial, ⟨trivial, ⟨trivial, ⟨trivial, ⟨trivial, ⟨trivial, ⟨trivial, ⟨trivial, ⟨⟨by kernel_rfl, ai Tryz.func86 Bq⟩, ⟨trivial, ⟨trivial, ⟨trivial, ⟨trivial, ⟨trivial, ⟨trivial, ⟨trivial, ⟨trivial, ⟨trivial, ⟨trivial, ⟨trivial, ⟨trivial, ⟨trivial, ⟨trivial, ⟨⟨by kernel_rfl, ai Tryz.func37 AS⟩, ⟨⟨by kernel_rfl, ai Tryz.func37 AT⟩, ⟨⟨by kernel_rfl, ai Tryz.func54 uc⟩, ⟨trivial, ⟨trivial, ⟨trivial, ⟨trivial, ⟨trivial, ⟨trivial, ⟨trivial, ⟨trivial, ⟨trivial, ⟨trivial, ⟨trivial, ⟨trivial, ⟨trivial, ⟨trivial, ⟨trivial, ⟨trivial, ⟨trivial, ⟨trivial, ⟨trivial, ⟨trivial, ⟨trivial, ⟨trivial, ⟨⟨by kernel_rfl, ai Tryz.func92 xR⟩, ⟨trivial, ⟨trivial, ⟨⟨by kernel_rfl, ai Tryz.func124 vn⟩, ⟨trivial, ⟨trivial, ⟨trivial, ⟨trivial, ⟨trivial, ⟨trivial, ⟨trivial, ⟨trivial, ⟨trivial, ⟨trivial, ⟨trivial, ⟨⟨by kernel_rfl, ai Tryz.func121 rJ⟩, ⟨trivial, ⟨trivial, ⟨trivial, ⟨trivial, ⟨trivial, ⟨trivial, ⟨⟨by kernel_rfl, ai Tryz.func40 FW⟩, ⟨trivial, ⟨trivial, ⟨⟨by kernel_rfl, ai Tryz.func135 AU⟩, ⟨trivial, ⟨trivial, ⟨⟨by kernel_rfl, ai Tryz.func85 FX⟩, ⟨trivial, ⟨trivial, ⟨⟨by kernel_rfl, ai Tryz.func152 xS⟩, ⟨⟨by kernel_rfl, ai Tryz.func120 DG⟩, ⟨trivial, ⟨trivial, ⟨trivial, ⟨trivial, ⟨trivial, ⟨trivial, ⟨trivial, ⟨trivial, ⟨⟨by kernel_rfl, ai Tryz.func44 Br⟩, ⟨trivial, ⟨trivial, ⟨⟨by kernel_rfl, ai Tryz.func99 DH⟩, ⟨⟨by kernel_rfl, ai Tryz.func84 Bt⟩, ⟨trivial, ⟨⟨by kernel_rfl, ai Tryz.func63 FY⟩, ⟨⟨by kernel_rfl, ai Tryz.func68 AV⟩, ⟨⟨by kernel_rfl, ai Tryz.func110 Bu⟩, ⟨trivial, ⟨⟨by kernel_rfl, ai Tryz.func32 FZ⟩, ⟨trivial, ⟨⟨by kernel_rfl, ai Tryz.func87 y4⟩, ⟨⟨by kernel_rfl, ai Tryz.func88 y5⟩, ⟨⟨by kernel_rfl, ai Tryz.func89 F3⟩, ⟨⟨by kernel_rfl, ai Tryz.func119 AX⟩, ⟨⟨by kernel_rfl, ai Tryz.func80 rW⟩, ⟨⟨by kernel_rfl, ai Tryz.func104 Bv⟩, ⟨⟨by kernel_rfl, ai Tryz.func43 rX⟩, ⟨⟨by kernel_rfl, ai Tryz.func108 xT⟩, ⟨⟨by kernel_rfl, ai Tryz.func112 DI⟩, ⟨⟨by kernel_rfl, ai Tryz.func51 Bw⟩, ⟨⟨by kernel_rfl, ai Tryz.func122 xU⟩, ⟨⟨by kernel_rfl, ai Tryz.func123 w7⟩, ⟨⟨by kernel_rfl, ai Tryz.func134 xV⟩, ⟨⟨by kernel_rfl, ai Tryz.func136 HT⟩, ⟨⟨by kernel_rfl, ai Tryz.func153 HU⟩, ⟨⟨by kernel_rfl, ai Tryz.func161 HV⟩, ⟨⟨by kernel_rfl, ai Tryz.func162 F4⟩, ⟨trivial, ⟨trivial, ⟨trivial, ⟨trivial, ⟨trivial, ⟨trivial, ⟨trivial, ⟨trivial, ⟨trivial, ⟨trivial, ⟨trivial, ⟨trivial, ⟨trivial, ⟨trivial, ⟨trivial, ⟨trivial, ⟨trivial, ⟨trivial, ⟨trivial, ⟨trivial, ⟨trivial, ⟨trivial, ⟨trivial, ⟨trivial, ⟨trivial, ⟨trivial, ⟨trivial, ⟨trivial, ⟨trivial, ⟨trivial, ⟨trivial, ⟨trivial, ⟨trivial, ⟨trivial, ⟨trivial, ⟨trivial, ⟨trivial, ⟨trivial, ⟨trivial, ⟨trivial, ⟨trivial, ⟨trivial, ⟨⟨by kernel_rfl, ai Tryz.func39 DJ⟩, ⟨trivial, ⟨trivial, ⟨⟨by kernel_rfl, ai Tryz.func78 vo⟩, ⟨⟨by kernel_rfl, ai Tryz.func79 rK⟩, ⟨⟨by kernel_rfl, ai Tryz.func42 Bx⟩, ⟨⟨by kernel_rfl, ai Tryz.func81 qq⟩, ⟨⟨by kernel_rfl, ai Tryz.func82 fU⟩, ⟨⟨by kernel_rfl, ai Tryz.func83 AY⟩, ⟨trivial, ⟨⟨by kernel_rfl, ai Tryz.func116 pR⟩, ⟨⟨by kernel_rfl, ai Tryz.func117 xW⟩, ⟨⟨by kernel_rfl, ai Tryz.func118 gz⟩, ⟨⟨by kernel_rfl, ai Tryz.func133 AZ⟩, ⟨trivial, ⟨trivial, ⟨trivial, ⟨trivial, ⟨trivial, ⟨⟨by kernel_rfl, ai Tryz.func8 xX⟩, ⟨⟨by kernel_rfl, ai Tryz.func10 DK⟩, ⟨⟨by kernel_rfl, ai Tryz.func13 DL⟩, ⟨⟨by kernel_rfl, ai Tryz.func18 F5⟩, ⟨⟨by kernel_rfl, ai Tryz.func19 F6⟩, ⟨⟨by kernel_rfl, ai Tryz.func20 y6⟩, ⟨⟨by kernel_rfl, ai Tryz.func25 HW⟩, ⟨⟨by kernel_rfl, ai Tryz.func31 By⟩, ⟨trivial, ⟨⟨by kernel_rfl, ai Tryz.func34 DM⟩, ⟨⟨by kernel_rfl, ai Tryz.func47 F7⟩, ⟨⟨by kernel_rfl, ai Tryz.func48 lx⟩, ⟨⟨by kernel_rfl, ai Tryz.func49 F8⟩, ⟨⟨by kernel_rfl, ai Tryz.func50 DN⟩, ⟨⟨by kernel_rfl, ai Tryz.func52 DO⟩, ⟨⟨by kernel_rfl, ai Tryz.func61 DP⟩, ⟨⟨by kernel_rfl, ai Tryz.func62 DQ⟩, ⟨⟨by kernel_rfl, ai Tryz.func67 y7⟩, ⟨⟨by kernel_rfl, ai Tryz.func71 DR⟩, ⟨⟨by kernel_rfl, ai Tryz.func72 DT⟩, ⟨⟨by kernel_rfl, ai Tryz.func94 Bz⟩, ⟨⟨by kernel_rfl, ai Tryz.func96 kP⟩, ⟨⟨by kernel_rfl, ai Tryz.func97 kQ⟩, ⟨⟨by kernel_rfl, ai Tryz.func98 A0⟩, ⟨⟨by kernel_rfl, ai Tryz.func126 oO⟩, ⟨⟨by kernel_rfl, ai Tryz.func127 iV⟩, ⟨⟨by kernel_rfl, ai Tryz.func128 j9⟩, ⟨⟨by kernel_rfl, ai Tryz.func138 mc⟩, ⟨⟨by kernel_rfl, ai Tryz.func154 jN⟩, ⟨⟨by kernel_rfl, ai Tryz.func155 ly⟩, ⟨⟨by kernel_rfl, ai Tryz.func163 me⟩, ⟨⟨by kernel_rfl, ai Tryz.func165 kR⟩, ⟨⟨by kernel_rfl, ai Tryz.func50 y8⟩, ⟨trivial, ⟨trivial, ⟨trivial, ⟨trivial, ⟨trivial, ⟨trivial, ⟨trivial, ⟨trivial, ⟨trivial, ⟨trivial, ⟨trivial, ⟨trivial, ⟨trivial, ⟨trivial, ⟨trivial, ⟨trivial, ⟨trivial, ⟨trivial, ⟨trivial, ⟨trivial, ⟨trivial, ⟨trivial, ⟨trivial, ⟨trivial, ⟨trivial, trivial⟩⟩⟩⟩⟩⟩⟩⟩⟩⟩⟩⟩⟩⟩⟩⟩⟩⟩⟩⟩⟩⟩⟩⟩⟩⟩⟩⟩⟩⟩⟩⟩⟩⟩⟩⟩⟩⟩⟩⟩⟩⟩⟩⟩⟩⟩⟩⟩⟩⟩⟩⟩⟩⟩⟩⟩⟩⟩⟩⟩⟩⟩⟩⟩⟩⟩⟩⟩⟩⟩⟩⟩⟩⟩⟩⟩⟩⟩⟩⟩⟩⟩⟩⟩⟩⟩⟩⟩⟩⟩⟩⟩⟩⟩⟩⟩⟩⟩⟩⟩⟩⟩⟩⟩⟩⟩⟩⟩⟩⟩⟩⟩⟩⟩⟩⟩⟩⟩⟩⟩⟩⟩⟩⟩⟩⟩⟩⟩⟩⟩⟩⟩⟩⟩⟩⟩⟩⟩⟩⟩⟩⟩⟩⟩⟩⟩⟩⟩⟩⟩⟩⟩⟩⟩⟩⟩⟩⟩⟩⟩⟩⟩⟩⟩⟩⟩⟩⟩⟩⟩⟩⟩⟩⟩⟩⟩⟩⟩⟩⟩⟩⟩⟩⟩⟩⟩⟩⟩⟩⟩⟩⟩⟩⟩⟩⟩⟩⟩⟩⟩⟩⟩⟩⟩⟩⟩⟩⟩⟩⟩⟩⟩⟩⟩⟩⟩⟩⟩⟩⟩⟩⟩⟩⟩⟩⟩⟩⟩⟩⟩⟩⟩⟩⟩⟩⟩⟩⟩⟩⟩⟩⟩⟩⟩⟩⟩⟩⟩⟩⟩⟩⟩⟩⟩⟩⟩⟩⟩⟩⟩⟩⟩⟩⟩⟩⟩⟩⟩⟩⟩⟩⟩⟩⟩⟩⟩⟩⟩⟩⟩⟩⟩⟩⟩⟩⟩⟩⟩⟩⟩⟩⟩⟩⟩⟩⟩⟩⟩⟩⟩⟩⟩⟩⟩⟩⟩⟩⟩⟩⟩⟩⟩⟩⟩⟩⟩⟩⟩⟩⟩⟩⟩⟩⟩⟩⟩⟩⟩⟩⟩⟩⟩⟩⟩
theorem abg : ∀ f j, Names.ρ f = some j → Names.it f = true → Cv Tryz.prog j := fun f j hj h => Bool.noConfusion (show false = true from h)
def VM : List (Nat × List Nat) := [(260, [2, N.aS]), (300, [3, N.ay])]
def F9 : Go.Shelf.Ren := ⟨fun | 189 => 115 | 125 => 132 | 257 => 131 | 128 => 149 | 129 => 150 | 294 => 140 | 295 => 141 | 296 => 142 | 297 => 143 | 298 => 144 | 299 => 145 | 216 => 146 | 300 => 147 | 301 => 148 | 328 => 156 | 329 => 157 | 330 => 158 | 331 => 159 | 332 => 160 | 215 => 133 | 343 => 164 | n => n, fun | 28 => 22 | 3 => 3 | 46 => 141 | 0 => 0 | 51 => 158 | 53 => 160 | 4 => 4 | 183 => 151 | 182 => 150 | 131 => 155 | 5 => 5 | 9 => 9 | 218 => 167 | 222 => 171 | 228 => 177 | 229 => 147 | n => n, fun | n => n⟩
theorem QL : Go.Proofs.Lays.n189 Tryz.prog F9 := {
 mixed := by kernel_rfl,
 f125 := Tryz.func132.trans (congrArg some (by kernel_rfl)),
 f128 := Tryz.func149.trans (congrArg some (by kernel_rfl)),
 f129 := Tryz.func150.trans (congrArg some (by kernel_rfl)),
 f189 := Tryz.func115.trans (congrArg some (by kernel_rfl)),
 f215 := Tryz.func133.trans (congrArg some (by kernel_rfl)),
 f216 := Tryz.func146.trans (congrArg some (by kernel_rfl)),
 f257 := Tryz.func131.trans (congrArg some (by kernel_rfl)),
 f294 := Tryz.func140.trans (congrArg some (by kernel_rfl)),
 f295 := Tryz.func141.trans (congrArg some (by kernel_rfl)),
 f296 := Tryz.func142.trans (congrArg some (by kernel_rfl)),
 f297 := Tryz.func143.trans (congrArg some (by kernel_rfl)),
 f298 := Tryz.func144.trans (congrArg some (by kernel_rfl)),
 f299 := Tryz.func145.trans (congrArg some (by kernel_rfl)),
 f300 := Tryz.func147.trans (congrArg some (by kernel_rfl)),
 f301 := Tryz.func148.trans (congrArg some (by kernel_rfl)),
 f328 := Tryz.func156.trans (congrArg some (by kernel_rfl)),
 f329 := Tryz.func157.trans (congrArg some (by kernel_rfl)),
 f330 := Tryz.func158.trans (congrArg some (by kernel_rfl)),
 f331 := Tryz.func159.trans (congrArg some (by kernel_rfl)),
 f332 := Tryz.func160.trans (congrArg some (by kernel_rfl)),
 f343 := Tryz.func164.trans (congrArg some (by kernel_rfl)),
 t0 := Tryz.underlying0,
 a0 := Tryz.isAgg0,
 z0 := Tryz.sizeOf0,
 v0 := Tryz.zeroValue0,
 t3 := Tryz.underlying3,
 a3 := Tryz.isAgg3,
 z3 := Tryz.sizeOf3,
 v3 := Tryz.zeroValue3,
 t4 := Tryz.underlying4,
 a4 := Tryz.isAgg4,
 z4 := Tryz.sizeOf4,
 v4 := Tryz.zeroValue4,
 t5 := Tryz.underlying5,
 a5 := Tryz.isAgg5,
 z5 := Tryz.sizeOf5,
 v5 := Tryz.zeroValue5,
 t9 := Tryz.underlying9,
 a9 := Tryz.isAgg9,
 z9 := Tryz.sizeOf9,
 v9 := Tryz.zeroValue9,
 t28 := Tryz.underlying22,
 a28 := Tryz.isAgg22,
 z28 := Tryz.sizeOf22,
 v28 := Tryz.zeroValue22,
 t46 := Tryz.underlying141,
 a46 := Tryz.isAgg141,
 z46 := Tryz.sizeOf141,
 v46 := Tryz.zeroValue141,
 t51 := Tryz.underlying158,
 a51 := Tryz.isAgg158,
 z51 := Tryz.sizeOf158,
 v51 := Tryz.zeroValue158,
 t53 := Tryz.underlying160,
 a53 := Tryz.isAgg160,
 z53 := Tryz.sizeOf160,
 v53 := Tryz.zeroValue160,
 t131 := Tryz.underlying155,
 a131 := Tryz.isAgg155,
 z131 := Tryz.sizeOf155,
 v131 := Tryz.zeroValue155,
 t182 := Tryz.underlying150,
 a182 := Tryz.isAgg150,
 z182 := Tryz.sizeOf150,
 v182 := Tryz.zeroValue150,
 t183 := Tryz.underlying151,
 a183 := Tryz.isAgg151,
 z183 := Tryz.sizeOf151,
 v183 := Tryz.zeroValue151,
 t218 := Tryz.underlying167,
 a218 := Tryz.isAgg167,
 z218 := Tryz.sizeOf167,
 v218 := Tryz.zeroValue167,
 t222 := Tryz.underlying171,
 a222 := Tryz.isAgg171,
 z222 := Tryz.sizeOf171,
 v222 := Tryz.zeroValue171,
 t228 := Tryz.underlying177,
 a228 := Tryz.isAgg177,
 z228 := Tryz.sizeOf177,
 v228 := Tryz.zeroValue177,
 t229 := Tryz.underlying147,
 a229 := Tryz.isAgg147,
 z229 := Tryz.sizeOf147,
 v229 := Tryz.zeroValue147 }
def BA : Go.Shelf.Ren := ⟨fun | 6 => 78 | 8 => 114 | 9 => 115 | 11 => 130 | 13 => 132 | 12 => 131 | 23 => 149 | 24 => 150 | 14 => 140 | 15 => 141 | 16 => 142 | 17 => 143 | 18 => 144 | 19 => 145 | 20 => 146 | 21 => 147 | 22 => 148 | 25 => 156 | 26 => 157 | 27 => 158 | 28 => 159 | 29 => 160 | 30 => 133 | 31 => 164 | n => n, fun | 26 => 3 | 28 => 104 | 24 => 22 | 0 => 0 | 3 => 3 | 37 => 141 | 48 => 158 | 50 => 160 | 4 => 4 | 40 => 151 | 39 => 150 | 45 => 155 | 5 => 5 | 9 => 9 | 51 => 167 | 55 => 171 | 57 => 177 | 58 => 147 | 33 => 40 | n => n, fun | n => n⟩
theorem KL : Go.Proofs.SlLaysZI.n6 Tryz.prog BA := {
 f6 := ⟨"slices.Sorted[int]", by kernel_rfl, Tryz.func78.trans (congrArg some (by kernel_rfl))⟩,
 f8 := ⟨"slices.Collect[int]", by kernel_rfl, Tryz.func114.trans (congrArg some (by kernel_rfl))⟩,
 f11 := ⟨"slices.AppendSeq[[]int,int]", by kernel_rfl, Tryz.func130.trans (congrArg some (by kernel_rfl))⟩,
 mixed := by kernel_rfl,
 t0 := Tryz.underlying0,
 a0 := Tryz.isAgg0,
 z0 := Tryz.sizeOf0,
 v0 := Tryz.zeroValue0,
 t24 := Tryz.underlying22,
 a24 := Tryz.isAgg22,
 z24 := Tryz.sizeOf22,
 v24 := Tryz.zeroValue22,
 t26 := Tryz.underlying3,
 a26 := Tryz.isAgg3,
 z26 := Tryz.sizeOf3,
 v26 := Tryz.zeroValue3,
 t28 := Tryz.underlying104,
 a28 := Tryz.isAgg104,
 z28 := Tryz.sizeOf104,
 v28 := Tryz.zeroValue104,
 i26 := by kernel_rfl }
section
open Go.RowKit Go.Shelf Go.Maps Go.Sort Go.Proofs
/- the iterator of slices.Values at this program -/
set_option maxRecDepth 100000 in
set_option maxHeartbeats 2000000 in
theorem ago (n l Bs : Nat) (hn : 1 ≤ n) (W0 : World) (b off len cap : Nat) (zs : List Int) (hlen : zs.length = len) (hreach : len * 8 ≤ 140737488351232) (hb : b < W0.heap.size) (J : List Int → World → Prop)
 (hJ : ∀ s W1, J s W1 → Below W0.heap.size W0 W1)
 (hY : ∀ pre x W1, J pre W1 → pre.length < zs.length → YieldAt Fence.wide (n - 1) Tryz.prog l #[encZ x] W1 fun e W' => e = .returned (.bool true) ∧ J (pre ++ [x]) W' ∧ KeepsWalks W1 W')
 (W : World) (hBs : W.cell? ⟨Bs, 0, none⟩ = some (.slice (some ⟨b, off, none⟩) len cap)) (hc : ∀ j, j < len → W0.cell? ⟨b, off + j, none⟩ = some (.int .i64 (zs[j]?.getD 0))) (h0 : J [] W) :
 CallsIn Fence.wide n Tryz.prog 116 #[.func (.yield l) #[] #[], .pointer (some ⟨Bs, 0, none⟩)] W fun e W' => (∃ v, e = .returned v) ∧ J zs W' := by
 have step : ∀ k, k < zs.length → zs.take k ++ [zs[k]?.getD 0] = zs.take (k + 1) := fun k hk => by
  rw [List.take_succ_eq_append_getElem hk]; simp [hk]
 refine callsIn_of_wp Tryz.func116 rfl trivial ?_ rfl
 simp only [Tryz.ntmps116, List.size_toArray, List.length_cons, List.length_nil, Nat.reduceAdd, Nat.reduceSub, Array.replicate_succ, Array.replicate_zero, List.push_toArray, List.append_toArray, List.nil_append, List.cons_append]
 gi_wp2
 gi_loopw [7] (fun i wr => ∃ k : Nat, k ≤ len ∧ i = .int .i64 k ∧ J (zs.take k) wr)
  (fun i _ => len - (intOf i).toNat)
 case atStart => exact ⟨0, Nat.zero_le _, rfl, h0⟩
 case round =>
  obtain ⟨k, hk, rfl, hJs⟩ := hrel
  by_cases hlt : k < len
  · have hcx : wr.cell? ⟨b, off + k, none⟩ = some (.int .i64 (zs[k]?.getD 0)) := ((hJ _ _ hJs).cell (p := ⟨b, off + k, none⟩) hb).trans (hc k hlt)
    have st := step k (by omega)
    generalize zs[k]?.getD 0 = x at hcx st
    obtain ⟨fn, tmps, assign, body, hy, hR⟩ := hY _ x wr hJs (by rw [List.length_take]; omega)
    clear step
    gi_wp2
    refine hR.mono ?_
    rintro e W3 ⟨rfl, hJ3, -⟩
    gi_wp2
    go_roundw
    case rel => exact ⟨k + 1, by omega, by simp, by rw [← st]; exact hJ3⟩
    case measure => simp [intOf]; omega
  · obtain rfl : k = len := by omega
    gi_wp2
    go_end0
    exact ⟨⟨_, rfl⟩, by rw [← hlen, List.take_length] at hJs; exact hJs⟩
set_option maxRecDepth 100000 in
set_option maxHeartbeats 1000000 in
theorem agp (n l Bs : Nat) (p : Option Addr) (cap : Nat) (J : List Int → World → Prop) (W : World) (hBs : W.cell? ⟨Bs, 0, none⟩ = some (.slice p 0 cap)) (h0 : J [] W) :
 CallsIn Fence.wide n Tryz.prog 116 #[.func (.yield l) #[] #[], .pointer (some ⟨Bs, 0, none⟩)] W fun e W' => (∃ v, e = .returned v) ∧ J [] W' := by
 refine callsIn_of_wp Tryz.func116 rfl trivial ?_ rfl
 simp only [Tryz.ntmps116, List.size_toArray, List.length_cons, List.length_nil, Nat.reduceAdd, Nat.reduceSub, Array.replicate_succ, Array.replicate_zero, List.push_toArray, List.append_toArray, List.nil_append, List.cons_append]
 gi_wp2
 gi_loopw [7] (fun i wr => i = .int .i64 0 ∧ J [] wr) (fun _ _ => 0)
 case atStart => exact ⟨rfl, h0⟩
 case round =>
  obtain ⟨rfl, hJs⟩ := hrel
  gi_wp2
  go_end0
  exact ⟨⟨_, rfl⟩, hJs⟩
theorem VN : Sc Tryz.prog 116 := by
 intro n Bs sv zs w hn hreach hBs hcell hI l J W hW hJ hY h0
 have hc' := (hW.cell (p := ⟨Bs, 0, none⟩) hBs).trans hcell
 rcases hI with ⟨p, cap, rfl, rfl⟩ | ⟨b, off, cap, rfl, hb, hcs⟩
 · exact agp n l Bs p cap J W hc' h0
 · exact ago n l Bs hn w b off zs.length cap zs rfl hreach hb J hJ hY W hc' hcs h0
end
theorem QM : ∀ j, Names.ρ 260 = some j → vP Tryz.prog j [2, N.aS] := fun j hj => by
 have e : (Names.ρ 260 : Option Nat) = some 78 := by kernel_rfl
 rw [e] at hj; cases hj; exact HI KL QL (by kernel_rfl) (Go.Proofs.enters_of Tryz.func115 (by kernel_rfl) rfl) (by kernel_rfl) (Go.Proofs.enters_of Tryz.func116 (by kernel_rfl) rfl) VN
def N6 : Go.Shelf.Ren := ⟨fun | 8 => 126 | 11 => 137 | n => n, fun | 0 => 0 | 24 => 33 | 26 => 55 | 28 => 118 | 33 => 101 | n => n, fun n => n⟩
theorem agq : Go.Proofs.abe Tryz.prog N6 := {
 mixed := by kernel_rfl,
 f8 := ⟨"slices.Collect[minecontrol/api.World]", by kernel_rfl, Tryz.func126.trans (congrArg some (by kernel_rfl))⟩,
 f11 := ⟨"slices.AppendSeq[[]minecontrol/api.World,minecontrol/api.World]", by kernel_rfl, Tryz.func137.trans (congrArg some (by kernel_rfl))⟩,
 t0 := Tryz.underlying0,
 a0 := Tryz.isAgg0,
 z0 := Tryz.sizeOf0,
 v0 := Tryz.zeroValue0,
 t24 := Tryz.underlying33,
 a24 := Tryz.isAgg33,
 z24 := Tryz.sizeOf33,
 v24 := Tryz.zeroValue33,
 t26 := ⟨_, Tryz.underlying55⟩,
 a26 := Tryz.isAgg55,
 z26 := Tryz.sizeOf55,
 v26 := Tryz.zeroValue55,
 t28 := Tryz.underlying118,
 a28 := Tryz.isAgg118,
 z28 := Tryz.sizeOf118,
 v28 := Tryz.zeroValue118,
 i26 := by kernel_rfl }
section
open Go.RowKit Go.Shelf Go.Maps Go.Sort Go.Proofs
/- the iterator of slices.Values of structures of two cells at this program -/
set_option maxRecDepth 100000 in
set_option maxHeartbeats 2000000 in
theorem abh (n l Bs : Nat) (hn : 1 ≤ n) (W0 : World) (b off len cap : Nat) (zs : List (Value × Value)) (hlen : zs.length = len) (hone : ∀ x ∈ zs, x.1.oneCell' = true ∧ x.2.oneCell' = true) (hreach : len * 48 ≤ 140737488351232) (hb : b < W0.heap.size) (J : List (Value × Value) → World → Prop)
 (hJ : ∀ s W1, J s W1 → Below W0.heap.size W0 W1) (hA : ∀ s W1 o, J s W1 → J s (W1.alloc o))
 (hY : ∀ pre x W1, J pre W1 → pre.length < zs.length → x ∈ zs → YieldAt Fence.wide (n - 1) Tryz.prog l #[abd x] W1 fun e W' => e = .returned (.bool true) ∧ J (pre ++ [x]) W' ∧ KeepsWalks W1 W')
 (W : World) (hBs : W.cell? ⟨Bs, 0, none⟩ = some (.slice (some ⟨b, off, none⟩) len cap)) (hc : ∀ j p, zs[j]? = some p → W0.cell? ⟨b, off + j * 2, none⟩ = some p.1 ∧ W0.cell? ⟨b, off + j * 2 + 1, none⟩ = some p.2) (h0 : J [] W) :
 CallsIn Fence.wide n Tryz.prog 128 #[.func (.yield l) #[] #[], .pointer (some ⟨Bs, 0, none⟩)] W fun e W' => (∃ v, e = .returned v) ∧ J zs W' := by
 have step : ∀ k x, zs[k]? = some x → zs.take k ++ [x] = zs.take (k + 1) := fun k x hk => by
  rw [List.take_add_one, hk]; rfl
 refine callsIn_of_wp Tryz.func128 rfl trivial ?_ rfl
 simp only [Tryz.ntmps128, List.size_toArray, List.length_cons, List.length_nil, Nat.reduceAdd, Nat.reduceSub, Array.replicate_succ, Array.replicate_zero, List.push_toArray, List.append_toArray, List.nil_append, List.cons_append]
 gi_wp2
 gi_loopw [7] (fun i wr => ∃ k : Nat, k ≤ len ∧ i = .int .i64 k ∧ J (zs.take k) wr)
  (fun i _ => len - (intOf i).toNat)
 case atStart => exact ⟨0, Nat.zero_le _, rfl, h0⟩
 case round =>
  obtain ⟨k, hk, rfl, hJs⟩ := hrel
  by_cases hlt : k < len
  · obtain ⟨x, hx⟩ : ∃ x, zs[k]? = some x := ⟨_, List.getElem?_eq_getElem (by omega)⟩
    have hcx0 : wr.cell? ⟨b, off + k * 2, none⟩ = some x.1 := ((hJ _ _ hJs).cell (p := ⟨b, off + k * 2, none⟩) hb).trans (hc k x hx).1
    have hcx1 : wr.cell? ⟨b, off + k * 2 + 1, none⟩ = some x.2 := ((hJ _ _ hJs).cell (p := ⟨b, off + k * 2 + 1, none⟩) hb).trans (hc k x hx).2
    have hm : x ∈ zs := List.mem_of_getElem? hx
    have st := step k x hx
    obtain ⟨hx1, hx2⟩ := hone x hm
    have hst := FI Tryz.prog wr x.1 x.2 (.slice none 0 0) (.slice none 0 0) 55 hx1 hx2
    have cA0 : (wr.alloc (.cells #[x.1, x.2] 55)).cell? ⟨wr.heap.size, 0, none⟩ = some x.1 := m5 wr x.1 x.2 55 0 x.1 rfl
    have cA1 : (wr.alloc (.cells #[x.1, x.2] 55)).cell? ⟨wr.heap.size, 1, none⟩ = some x.2 := m5 wr x.1 x.2 55 1 x.2 rfl
    obtain ⟨fn, tmps, assign, body, hy, hR⟩ := hY _ x _ (hA _ _ (.cells #[x.1, x.2] 55) hJs) (by rw [List.length_take]; omega) hm
    clear step hone hc
    gi_wp2
    refine hR.mono ?_
    rintro e W3 ⟨rfl, hJ3, -⟩
    gi_wp2
    go_roundw
    case rel => exact ⟨k + 1, by omega, by simp, by rw [← st]; exact hJ3⟩
    case measure => simp [intOf]; omega
  · obtain rfl : k = len := by omega
    gi_wp2
    go_end0
    exact ⟨⟨_, rfl⟩, by rw [← hlen, List.take_length] at hJs; exact hJs⟩
set_option maxRecDepth 100000 in
set_option maxHeartbeats 1000000 in
theorem abi (n l Bs : Nat) (p : Option Addr) (cap : Nat) (J : List (Value × Value) → World → Prop) (W : World) (hBs : W.cell? ⟨Bs, 0, none⟩ = some (.slice p 0 cap)) (h0 : J [] W) :
 CallsIn Fence.wide n Tryz.prog 128 #[.func (.yield l) #[] #[], .pointer (some ⟨Bs, 0, none⟩)] W fun e W' => (∃ v, e = .returned v) ∧ J [] W' := by
 refine callsIn_of_wp Tryz.func128 rfl trivial ?_ rfl
 simp only [Tryz.ntmps128, List.size_toArray, List.length_cons, List.length_nil, Nat.reduceAdd, Nat.reduceSub, Array.replicate_succ, Array.replicate_zero, List.push_toArray, List.append_toArray, List.nil_append, List.cons_append]
 gi_wp2
 gi_loopw [7] (fun i wr => i = .int .i64 0 ∧ J [] wr) (fun _ _ => 0)
 case atStart => exact ⟨rfl, h0⟩
 case round =>
  obtain ⟨rfl, hJs⟩ := hrel
  gi_wp2
  go_end0
  exact ⟨⟨_, rfl⟩, hJs⟩
theorem QN : N5 Tryz.prog 128 := by
 intro n Bs sv zs w hn hone hreach hBs hcell hI l J W hW hJ hA hY h0
 have hc' := (hW.cell (p := ⟨Bs, 0, none⟩) hBs).trans hcell
 rcases hI with ⟨p, cap, rfl, rfl⟩ | ⟨b, off, cap, rfl, hb, hcs⟩
 · exact abi n l Bs p cap J W hc' h0
 · exact abh n l Bs hn w b off zs.length cap zs rfl hone hreach hb J hJ hA hY W hc' hcs h0
end
theorem QO : ∀ j, Names.ρ 300 = some j → vP Tryz.prog j [3, N.ay] := fun j hj => by
 have e : (Names.ρ 300 : Option Nat) = some 126 := by kernel_rfl
 rw [e] at hj; cases hj; exact FJ agq (by kernel_rfl) (Go.Proofs.enters_of Tryz.func128 (by kernel_rfl) rfl) QN
theorem QP : ∀ x ∈ VM, ∀ j, Names.ρ x.1 = some j → vP Tryz.prog j x.2 := by
 intro x hx
 simp only [VM, List.mem_cons, List.not_mem_nil, or_false] at hx
 rcases hx with rfl | rfl
 · exact QM
 · exact QO
end Go.Proofs.YtgedjeljhicagaaGreat
