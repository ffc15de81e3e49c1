/- MADE BY PROGRAM (lib.py): the numbers that the functions have in this program, and the check of each one. -/
import Derived.Test.YtifghciaddehaaaGreatProg
import Derived.Test.YtifghciaddehaaaGreatZPG
import Derived.KernelRfl
set_option linter.all false
set_option maxRecDepth 100000
namespace Go.Proofs.YtifghciaddehaaaGreat
open Go.Ev
def real : List (Option Nat) := [none, some 7, none, some 9, some 10, none, none, none, some 11, some 14, some 15, none, some 18, some 21, none, some 23, some 16, none, none, some 28, some 29, some 30, some 31, some 32, none, none, none, some 44, some 41, none, some 95, none, none, none, none, some 63, some 64, some 40, some 65, some 66, some 67, some 68, some 69, some 70, some 71, some 72, some 73, some 55, none, some 50, none, some 39, none, some 79, some 83, none, some 98, some 99, some 85, some 100, some 101, some 84, some 61, some 102, some 103, some 104, some 81, some 82, some 119, some 120, some 121, some 75, some 42, some 132, some 133, some 144, some 124, some 146, none, none, none, none, none, none, none, none, none, none, none, none, none, none, none, none, some 13, none, none, none, none, none, none, none, none, none, none, some 49, none, none, none, none, none, none, none, none, some 96, none, none, none, none, none, some 40, none, none, none, none, none, none, none, none, none, none, none, none, none, none, none, none, none, none, none, none, none, none, none, none, none, none, none, none, none, none, none, none, none, none, none, none, none, none, none, none, none, none, none, none, none, none, some 48, none, none, none, none, none, some 92, none, none, none, some 125, none, none, none, none, none, none, none, none, none, none, none, none, some 112, none, none, none, some 77, none, none, none, none, some 114, some 115, some 113, some 108, none, some 37, none, some 43, none, some 139, some 140, some 138, some 155, some 168, some 151, some 174, none, none, none, none, none, none, none, none, none, none, none, none, none, none, none, none, none, none, none, none, none, none, none, none, none, none, some 117, none, none, none, none, none, none, none, none, none, none, none, none, none, none, none, some 74, none, none, some 105, some 106, some 107, some 109, some 110, some 111, none, some 135, some 136, some 137, some 154, none, none, none, none, none, none, none, none, none, none, none, none, none, none, none, none, none, none, some 76, none, none, none, none, some 34, some 20, none, none, none, none, none, none, none, none, none, none, none, none, some 76, none, none, none, none, none, none, none, none, none, none, none, none, none, none, none, none, none, none, some 19, none, none, some 52, some 53, none, none, none, none, none, none, none, none, none, none, none, none, none, none, none, none, none, none, none, none, none, none, none, none, none, none, none, none, none, none, none, none, none, none, none, none, none, none, none, none, none, none, none, none, none, none, none, none, none, none, none, none, none, none, none, none, none, none, none, none, none, none, none, none, none, none, none, none, none, none, none, none, none, none, none, none, none, none, none, none, none, none, none, none, none, none, some 5, none, some 8, some 12, some 17, some 22, some 24, some 25, some 26, some 27, some 33, some 35, some 36, some 38, some 45, some 46, some 47, some 51, some 54, some 56, some 57, some 58, some 59, some 60, some 62, some 78, some 80, some 86, some 87, some 88, some 89, some 90, some 91, some 93, some 94, some 97, some 116, some 118, some 122, some 123, some 126, some 127, some 128, some 129, some 130, some 131, some 141, some 145, some 147, some 148, some 149, some 150, some 152, some 167]
def tab : List (Option Go.Ev.Fn) := [none, some K.jP, none, some K.lk, some K.dF, none, none, none, some K.cZ, some K.aC, some K.cR, none, some K.c7, some K.eM, none, some K.cK, some K.di, none, none, some K.ei, some K.bF, some K.ji, some K.fv, some K.lI, none, none, none, some K.eO, some K.cW, none, some K.iq, none, none, none, none, some K.gv, some K.fM, some K.fh, some K.dy, some K.bG, some K.jQ, some K.fN, some K.jR, some K.fO, some K.dS, some K.jN, some K.dT, some K.eU, none, some K.aK, none, some K.aQ, none, some K.eQ, some K.jj, none, some K.eE, some K.ir, some K.eV, some K.jk, some K.gK, some K.dv, some K.cE, some K.jm, some K.dz, some K.gL, some K.aI, some K.bV, some K.cL, some K.aA, some K.bB, some K.eW, some K.eu, some K.ez, some K.jq, some K.aJ, some K.cJ, some K.jS, none, none, none, none, none, none, none, none, none, none, none, none, none, none, none, none, some K.ly, none, none, none, none, none, none, none, none, none, none, some K.dA, none, none, none, none, none, none, none, none, some K.ie, none, none, none, none, none, some K.gg, none, none, none, none, none, none, none, none, none, none, none, none, none, none, none, none, none, none, none, none, none, none, none, none, none, none, none, none, none, none, none, none, none, none, none, none, none, none, none, none, none, none, none, none, none, none, some K.dW, none, none, none, none, none, some K.jX, none, none, none, some K.iu, none, none, none, none, none, none, none, none, none, none, none, none, some K.gy, none, none, none, some K.eH, none, none, none, none, some K.dj, some K.fP, some K.dK, some K.bq, none, some K.aV, some K.c8, some K.fQ, none, some K.dY, some K.bw, some K.cy, some K.lA, some K.lB, some K.fJ, some K.jY, none, none, none, none, none, none, none, none, none, none, none, none, none, none, none, none, none, none, none, none, none, none, none, none, none, none, some K.bP, none, none, none, none, none, none, none, none, none, none, none, none, none, none, none, some K.gO, none, none, some K.cO, some K.bz, some K.gY, some K.bc, some K.au, some K.ed, none, some K.aT, some K.dg, some K.az, some K.cmp_isNaN_int, none, none, none, none, none, none, none, none, none, none, none, none, none, none, none, none, none, none, some K.lV, none, none, none, none, some K.fS, some K.fe, none, none, none, none, none, none, none, none, none, none, none, none, some K.eR, none, none, none, none, none, none, none, none, none, none, none, none, none, none, none, none, none, none, some K.dG, none, none, some K.aM, some K.aO, none, none, none, none, none, none, none, none, none, none, none, none, none, none, none, none, none, none, none, none, none, none, none, none, none, none, none, none, none, none, none, none, none, none, none, none, none, none, none, none, none, none, none, none, none, none, none, none, none, none, none, none, none, none, none, none, none, none, none, none, none, none, none, none, none, none, none, none, none, none, none, none, none, none, none, none, none, none, none, none, none, none, none, none, none, none, some K.bW, none, some K.iZ, some K.dH, some K.bu, some K.bT, some K.bD, some K.cg, some K.gP, some K.dh, some K.cB, some K.bE, some K.aL, some K.bQ, some K.iy, some K.lE, some K.ig, some K.bN, some K.fU, some K.bg, some K.cX, some K.fV, some K.dC, some K.dV, some K.gQ, some K.i4, some K.bO, some K.fk, some K.gl, some K.fW, some K.dR, some K.fm, some K.eB, some K.ja, some K.nQ, some K.lF, some K.bH, some K.bf, some K.gZ, some K.iS, some K.iK, some K.iT, some K.cj, some K.aE, some K.dL, some K.jz, some K.cF, some K.hU, some K.dm, some K.ax, some K.aF, some K.cC, some K.lG, some K.eT]
instance names : Names := { ρ := fun f => (real[f]?).join }
instance lib : Lib := ⟨fun f => (tab[f]?).join⟩
instance has1 : cu := ⟨rfl, rfl, rfl, rfl, rfl, rfl, rfl, rfl, rfl, rfl, rfl, rfl, rfl, rfl, rfl, rfl, rfl, rfl, rfl, rfl⟩
instance has2 : bM := ⟨rfl, rfl, rfl, rfl, rfl, rfl, rfl, rfl, rfl, rfl, rfl, rfl, rfl, rfl, rfl, rfl, rfl, rfl, rfl, rfl, rfl, rfl, rfl, rfl, rfl, rfl, rfl, rfl, rfl, rfl, rfl, rfl, rfl, rfl, rfl, rfl, rfl⟩
instance has3 : gu := ⟨rfl⟩
instance has4 : gk := ⟨rfl, rfl, rfl⟩
instance has5 : i7 := ⟨⟩
instance has6 : fK := ⟨rfl⟩
instance has7 : fI := ⟨rfl, rfl⟩
instance has8 : iv := ⟨rfl⟩
instance has9 : gj := ⟨rfl, rfl, rfl, rfl, rfl, rfl, rfl, rfl, rfl, rfl, rfl, rfl, rfl, rfl, rfl⟩
instance has10 : dq := ⟨rfl⟩
instance has11 : cT := ⟨rfl, rfl, rfl, rfl, rfl, rfl, rfl, rfl, rfl, rfl, rfl⟩
instance has12 : fT := ⟨⟩
instance has13 : ff := ⟨rfl, rfl, rfl, rfl⟩
instance has14 : jA := ⟨⟩
instance has15 : iY := ⟨rfl, rfl, rfl⟩
instance has21 : gC := ⟨rfl, rfl, rfl, rfl, rfl, rfl, rfl, rfl, rfl, rfl, rfl, rfl, rfl, rfl, rfl, rfl, rfl, rfl, rfl⟩
instance has22 : eC := ⟨rfl, rfl, rfl, rfl, rfl, rfl, rfl, rfl, rfl, rfl, rfl, rfl, rfl, rfl, rfl, rfl, rfl, rfl, rfl, rfl, rfl, rfl, rfl, rfl, rfl, rfl, rfl, rfl, rfl⟩
instance has23 : jL := ⟨rfl, rfl, rfl, rfl, rfl⟩
theorem IG : aR Tryz.prog Tryz.f7 K.jP = true := by kernel_rfl
theorem KD : aR Tryz.prog Tryz.f9 K.lk = true := by kernel_rfl
theorem Bv : aR Tryz.prog Tryz.f10 K.dF = true := by kernel_rfl
theorem zA : aR Tryz.prog Tryz.f11 K.cZ = true := by kernel_rfl
theorem Bw : aR Tryz.prog Tryz.f14 K.aC = true := by kernel_rfl
theorem DQ : aR Tryz.prog Tryz.f15 K.cR = true := by kernel_rfl
theorem KE : aR Tryz.prog Tryz.f18 K.c7 = true := by kernel_rfl
theorem Bx : aR Tryz.prog Tryz.f21 K.eM = true := by kernel_rfl
theorem Dv : aR Tryz.prog Tryz.f23 K.cK = true := by kernel_rfl
theorem By : aR Tryz.prog Tryz.f16 K.di = true := by kernel_rfl
theorem Ga : aR Tryz.prog Tryz.f28 K.ei = true := by kernel_rfl
theorem Bz : aR Tryz.prog Tryz.f29 K.bF = true := by kernel_rfl
theorem KF : aR Tryz.prog Tryz.f30 K.ji = true := by kernel_rfl
theorem DR : aR Tryz.prog Tryz.f31 K.fv = true := by kernel_rfl
theorem Oj : aR Tryz.prog Tryz.f32 K.lI = true := by kernel_rfl
theorem BA : aR Tryz.prog Tryz.f44 K.eO = true := by kernel_rfl
theorem Gb : aR Tryz.prog Tryz.f41 K.cW = true := by kernel_rfl
theorem KG : aR Tryz.prog Tryz.f95 K.iq = true := by kernel_rfl
theorem DT : aR Tryz.prog Tryz.f63 K.gv = true := by kernel_rfl
theorem Gc : aR Tryz.prog Tryz.f64 K.fM = true := by kernel_rfl
theorem IH : aR Tryz.prog Tryz.f40 K.fh = true := by kernel_rfl
theorem Gd : aR Tryz.prog Tryz.f65 K.dy = true := by kernel_rfl
theorem AD : aR Tryz.prog Tryz.f66 K.bG = true := by kernel_rfl
theorem II : aR Tryz.prog Tryz.f67 K.jQ = true := by kernel_rfl
theorem Ge : aR Tryz.prog Tryz.f68 K.fN = true := by kernel_rfl
theorem IJ : aR Tryz.prog Tryz.f69 K.jR = true := by kernel_rfl
theorem Gf : aR Tryz.prog Tryz.f70 K.fO = true := by kernel_rfl
theorem DU : aR Tryz.prog Tryz.f71 K.dS = true := by kernel_rfl
theorem KH : aR Tryz.prog Tryz.f72 K.jN = true := by kernel_rfl
theorem DV : aR Tryz.prog Tryz.f73 K.dT = true := by kernel_rfl
theorem Gg : aR Tryz.prog Tryz.f55 K.eU = true := by kernel_rfl
theorem oJ : aR Tryz.prog Tryz.f50 K.aK = true := by kernel_rfl
theorem rA : aR Tryz.prog Tryz.f39 K.aQ = true := by kernel_rfl
theorem BB : aR Tryz.prog Tryz.f79 K.eQ = true := by kernel_rfl
theorem IK : aR Tryz.prog Tryz.f83 K.jj = true := by kernel_rfl
theorem DW : aR Tryz.prog Tryz.f98 K.eE = true := by kernel_rfl
theorem Gi : aR Tryz.prog Tryz.f99 K.ir = true := by kernel_rfl
theorem Gj : aR Tryz.prog Tryz.f85 K.eV = true := by kernel_rfl
theorem IL : aR Tryz.prog Tryz.f100 K.jk = true := by kernel_rfl
theorem Gk : aR Tryz.prog Tryz.f101 K.gK = true := by kernel_rfl
theorem IM : aR Tryz.prog Tryz.f84 K.dv = true := by kernel_rfl
theorem BD : aR Tryz.prog Tryz.f61 K.cE = true := by kernel_rfl
theorem IN : aR Tryz.prog Tryz.f102 K.jm = true := by kernel_rfl
theorem Gl : aR Tryz.prog Tryz.f103 K.dz = true := by kernel_rfl
theorem Gm : aR Tryz.prog Tryz.f104 K.gL = true := by kernel_rfl
theorem qf : aR Tryz.prog Tryz.f81 K.aI = true := by kernel_rfl
theorem uh : aR Tryz.prog Tryz.f82 K.bV = true := by kernel_rfl
theorem zB : aR Tryz.prog Tryz.f119 K.cL = true := by kernel_rfl
theorem j8 : aR Tryz.prog Tryz.f120 K.aA = true := by kernel_rfl
theorem wH : aR Tryz.prog Tryz.f121 K.bB = true := by kernel_rfl
theorem Ol : aR Tryz.prog Tryz.f75 K.eW = true := by kernel_rfl
theorem Gn : aR Tryz.prog Tryz.f42 K.eu = true := by kernel_rfl
theorem Gp : aR Tryz.prog Tryz.f132 K.ez = true := by kernel_rfl
theorem IP : aR Tryz.prog Tryz.f133 K.jq = true := by kernel_rfl
theorem kK : aR Tryz.prog Tryz.f144 K.aJ = true := by kernel_rfl
theorem DX : aR Tryz.prog Tryz.f124 K.cJ = true := by kernel_rfl
theorem IQ : aR Tryz.prog Tryz.f146 K.jS = true := by kernel_rfl
theorem KI : aR Tryz.prog Tryz.f13 K.ly = true := by kernel_rfl
theorem DY : aR Tryz.prog Tryz.f49 K.dA = true := by kernel_rfl
theorem IS : aR Tryz.prog Tryz.f96 K.ie = true := by kernel_rfl
theorem Dw : aR Tryz.prog Tryz.f40 K.gg = true := by kernel_rfl
theorem IT : aR Tryz.prog Tryz.f48 K.dW = true := by kernel_rfl
theorem IU : aR Tryz.prog Tryz.f92 K.jX = true := by kernel_rfl
theorem Gq : aR Tryz.prog Tryz.f125 K.iu = true := by kernel_rfl
theorem DZ : aR Tryz.prog Tryz.f112 K.gy = true := by kernel_rfl
theorem D0 : aR Tryz.prog Tryz.f77 K.eH = true := by kernel_rfl
theorem BE : aR Tryz.prog Tryz.f114 K.dj = true := by kernel_rfl
theorem IV : aR Tryz.prog Tryz.f115 K.fP = true := by kernel_rfl
theorem Dx : aR Tryz.prog Tryz.f113 K.dK = true := by kernel_rfl
theorem ui : aR Tryz.prog Tryz.f108 K.bq = true := by kernel_rfl
theorem uj : aR Tryz.prog Tryz.f37 K.aV = true := by kernel_rfl
theorem Gr : aR Tryz.prog Tryz.f43 K.fQ = true := by kernel_rfl
theorem AE : aR Tryz.prog Tryz.f139 K.dY = true := by kernel_rfl
theorem zC : aR Tryz.prog Tryz.f140 K.bw = true := by kernel_rfl
theorem AF : aR Tryz.prog Tryz.f138 K.cy = true := by kernel_rfl
theorem KJ : aR Tryz.prog Tryz.f155 K.lA = true := by kernel_rfl
theorem KK : aR Tryz.prog Tryz.f168 K.lB = true := by kernel_rfl
theorem KL : aR Tryz.prog Tryz.f151 K.fJ = true := by kernel_rfl
theorem IW : aR Tryz.prog Tryz.f174 K.jY = true := by kernel_rfl
theorem vH : aR Tryz.prog Tryz.f117 K.bP = true := by kernel_rfl
theorem Gs : aR Tryz.prog Tryz.f74 K.gO = true := by kernel_rfl
theorem yg : aR Tryz.prog Tryz.f105 K.cO = true := by kernel_rfl
theorem tT : aR Tryz.prog Tryz.f106 K.bz = true := by kernel_rfl
theorem D1 : aR Tryz.prog Tryz.f107 K.gY = true := by kernel_rfl
theorem r7 : aR Tryz.prog Tryz.f109 K.bc = true := by kernel_rfl
theorem gX : aR Tryz.prog Tryz.f110 K.au = true := by kernel_rfl
theorem Dy : aR Tryz.prog Tryz.f111 K.ed = true := by kernel_rfl
theorem rB : aR Tryz.prog Tryz.f135 K.aT = true := by kernel_rfl
theorem AG : aR Tryz.prog Tryz.f136 K.dg = true := by kernel_rfl
theorem iD : aR Tryz.prog Tryz.f137 K.az = true := by kernel_rfl
theorem Dz : aR Tryz.prog Tryz.f154 K.cmp_isNaN_int = true := by kernel_rfl
theorem Gt : aR Tryz.prog Tryz.f76 K.lV = true := by kernel_rfl
theorem Gu : aR Tryz.prog Tryz.f34 K.fS = true := by kernel_rfl
theorem Gv : aR Tryz.prog Tryz.f20 K.fe = true := by kernel_rfl
theorem BF : aR Tryz.prog Tryz.f76 K.eR = true := by kernel_rfl
theorem BG : aR Tryz.prog Tryz.f19 K.dG = true := by kernel_rfl
theorem mw : aR Tryz.prog Tryz.f52 K.aM = true := by kernel_rfl
theorem nh : aR Tryz.prog Tryz.f53 K.aO = true := by kernel_rfl
theorem uk : aR Tryz.prog Tryz.f5 K.bW = true := by kernel_rfl
theorem Gw : aR Tryz.prog Tryz.f8 K.iZ = true := by kernel_rfl
theorem zD : aR Tryz.prog Tryz.f12 K.dH = true := by kernel_rfl
theorem yh : aR Tryz.prog Tryz.f17 K.bu = true := by kernel_rfl
theorem D2 : aR Tryz.prog Tryz.f22 K.bT = true := by kernel_rfl
theorem zE : aR Tryz.prog Tryz.f24 K.bD = true := by kernel_rfl
theorem zF : aR Tryz.prog Tryz.f25 K.cg = true := by kernel_rfl
theorem Gx : aR Tryz.prog Tryz.f26 K.gP = true := by kernel_rfl
theorem zG : aR Tryz.prog Tryz.f27 K.dh = true := by kernel_rfl
theorem wI : aR Tryz.prog Tryz.f33 K.cB = true := by kernel_rfl
theorem zH : aR Tryz.prog Tryz.f35 K.bE = true := by kernel_rfl
theorem qa : aR Tryz.prog Tryz.f36 K.aL = true := by kernel_rfl
theorem vI : aR Tryz.prog Tryz.f38 K.bQ = true := by kernel_rfl
theorem KM : aR Tryz.prog Tryz.f45 K.iy = true := by kernel_rfl
theorem KN : aR Tryz.prog Tryz.f46 K.lE = true := by kernel_rfl
theorem IX : aR Tryz.prog Tryz.f47 K.ig = true := by kernel_rfl
theorem wJ : aR Tryz.prog Tryz.f51 K.bN = true := by kernel_rfl
theorem IY : aR Tryz.prog Tryz.f54 K.fU = true := by kernel_rfl
theorem wK : aR Tryz.prog Tryz.f56 K.bg = true := by kernel_rfl
theorem Gy : aR Tryz.prog Tryz.f57 K.cX = true := by kernel_rfl
theorem Gz : aR Tryz.prog Tryz.f58 K.fV = true := by kernel_rfl
theorem GA : aR Tryz.prog Tryz.f59 K.dC = true := by kernel_rfl
theorem D3 : aR Tryz.prog Tryz.f60 K.dV = true := by kernel_rfl
theorem GB : aR Tryz.prog Tryz.f62 K.gQ = true := by kernel_rfl
theorem GC : aR Tryz.prog Tryz.f78 K.i4 = true := by kernel_rfl
theorem wM : aR Tryz.prog Tryz.f80 K.bO = true := by kernel_rfl
theorem IZ : aR Tryz.prog Tryz.f86 K.fk = true := by kernel_rfl
theorem DA : aR Tryz.prog Tryz.f87 K.gl = true := by kernel_rfl
theorem I0 : aR Tryz.prog Tryz.f88 K.fW = true := by kernel_rfl
theorem GD : aR Tryz.prog Tryz.f89 K.dR = true := by kernel_rfl
theorem I3 : aR Tryz.prog Tryz.f90 K.fm = true := by kernel_rfl
theorem GF : aR Tryz.prog Tryz.f91 K.eB = true := by kernel_rfl
theorem Om : aR Tryz.prog Tryz.f93 K.ja = true := by kernel_rfl
theorem On : aR Tryz.prog Tryz.f94 K.nQ = true := by kernel_rfl
theorem KO : aR Tryz.prog Tryz.f97 K.lF = true := by kernel_rfl
theorem tU : aR Tryz.prog Tryz.f116 K.bH = true := by kernel_rfl
theorem r9 : aR Tryz.prog Tryz.f118 K.bf = true := by kernel_rfl
theorem D4 : aR Tryz.prog Tryz.f122 K.gZ = true := by kernel_rfl
theorem KP : aR Tryz.prog Tryz.f123 K.iS = true := by kernel_rfl
theorem I4 : aR Tryz.prog Tryz.f126 K.iK = true := by kernel_rfl
theorem KQ : aR Tryz.prog Tryz.f127 K.iT = true := by kernel_rfl
theorem zI : aR Tryz.prog Tryz.f128 K.cj = true := by kernel_rfl
theorem kC : aR Tryz.prog Tryz.f129 K.aE = true := by kernel_rfl
theorem I5 : aR Tryz.prog Tryz.f130 K.dL = true := by kernel_rfl
theorem KR : aR Tryz.prog Tryz.f131 K.jz = true := by kernel_rfl
theorem vJ : aR Tryz.prog Tryz.f141 K.cF = true := by kernel_rfl
theorem D5 : aR Tryz.prog Tryz.f145 K.hU = true := by kernel_rfl
theorem yi : aR Tryz.prog Tryz.f147 K.dm = true := by kernel_rfl
theorem kL : aR Tryz.prog Tryz.f148 K.ax = true := by kernel_rfl
theorem wN : aR Tryz.prog Tryz.f149 K.aF = true := by kernel_rfl
theorem wO : aR Tryz.prog Tryz.f150 K.cC = true := by kernel_rfl
theorem KS : aR Tryz.prog Tryz.f152 K.lG = true := by kernel_rfl
theorem BH : aR Tryz.prog Tryz.f167 K.eT = true := by kernel_rfl
theorem agb : Jv Tryz.prog real tab :=
 ⟨trivial, ⟨⟨by kernel_rfl, aj Tryz.func7 IG⟩, ⟨trivial, ⟨⟨by kernel_rfl, aj Tryz.func9 KD⟩, ⟨⟨by kernel_rfl, aj Tryz.func10 Bv⟩, ⟨trivial, ⟨trivial, ⟨trivial, ⟨⟨by kernel_rfl, aj Tryz.func11 zA⟩, ⟨⟨by kernel_rfl, aj Tryz.func14 Bw⟩, ⟨⟨by kernel_rfl, aj Tryz.func15 DQ⟩, ⟨trivial, ⟨⟨by kernel_rfl, aj Tryz.func18 KE⟩, ⟨⟨by kernel_rfl, aj Tryz.func21 Bx⟩, ⟨trivial, ⟨⟨by kernel_rfl, aj Tryz.func23 Dv⟩, ⟨⟨by kernel_rfl, aj Tryz.func16 By⟩, ⟨trivial, ⟨trivial, ⟨⟨by kernel_rfl, aj Tryz.func28 Ga⟩, ⟨⟨by kernel_rfl, aj Tryz.func29 Bz⟩, ⟨⟨by kernel_rfl, aj Tryz.func30 KF⟩, ⟨⟨by kernel_rfl, aj Tryz.func31 DR⟩, ⟨⟨by kernel_rfl, aj Tryz.func32 Oj⟩, ⟨trivial, ⟨trivial, ⟨trivial, ⟨⟨by kernel_rfl, aj Tryz.func44 BA⟩, ⟨⟨by kernel_rfl, aj Tryz.func41 Gb⟩, ⟨trivial, ⟨⟨by kernel_rfl, aj Tryz.func95 KG⟩, ⟨trivial, ⟨trivial, ⟨trivial, ⟨trivial, ⟨⟨by kernel_rfl, aj Tryz.func63 DT⟩, ⟨⟨by kernel_rfl, aj Tryz.func64 Gc⟩, ⟨⟨by kernel_rfl, aj Tryz.func40 IH⟩, ⟨⟨by kernel_rfl, aj Tryz.func65 Gd⟩, ⟨⟨by kernel_rfl, aj Tryz.func66 AD⟩, ⟨⟨by kernel_rfl, aj Tryz.func67 II⟩, ⟨⟨by kernel_rfl, aj Tryz.func68 Ge⟩, ⟨⟨by kernel_rfl, aj Tryz.func69 IJ⟩, ⟨⟨by kernel_rfl, aj Tryz.func70 Gf⟩, ⟨⟨by kernel_rfl, aj Tryz.func71 DU⟩, ⟨⟨by kernel_rfl, aj Tryz.func72 KH⟩, ⟨⟨by kernel_rfl, aj Tryz.func73 DV⟩, ⟨⟨by kernel_rfl, aj Tryz.func55 Gg⟩, ⟨trivial, ⟨⟨by kernel_rfl, aj Tryz.func50 oJ⟩, ⟨trivial, ⟨⟨by kernel_rfl, aj Tryz.func39 rA⟩, ⟨trivial, ⟨⟨by kernel_rfl, aj Tryz.func79 BB⟩, ⟨⟨by kernel_rfl, aj Tryz.func83 IK⟩, ⟨trivial, ⟨⟨by kernel_rfl, aj Tryz.func98 DW⟩, ⟨⟨by kernel_rfl, aj Tryz.func99 Gi⟩, ⟨⟨by kernel_rfl, aj Tryz.func85 Gj⟩, ⟨⟨by kernel_rfl, aj Tryz.func100 IL⟩, ⟨⟨by kernel_rfl, aj Tryz.func101 Gk⟩, ⟨⟨by kernel_rfl, aj Tryz.func84 IM⟩, ⟨⟨by kernel_rfl, aj Tryz.func61 BD⟩, ⟨⟨by kernel_rfl, aj Tryz.func102 IN⟩, ⟨⟨by kernel_rfl, aj Tryz.func103 Gl⟩, ⟨⟨by kernel_rfl, aj Tryz.func104 Gm⟩, ⟨⟨by kernel_rfl, aj Tryz.func81 qf⟩, ⟨⟨by kernel_rfl, aj Tryz.func82 uh⟩, ⟨⟨by kernel_rfl, aj Tryz.func119 zB⟩, ⟨⟨by kernel_rfl, aj Tryz.func120 j8⟩, ⟨⟨by kernel_rfl, aj Tryz.func121 wH⟩, ⟨⟨by kernel_rfl, aj Tryz.func75 Ol⟩, ⟨⟨by kernel_rfl, aj Tryz.func42 Gn⟩, ⟨⟨by kernel_rfl, aj Tryz.func132 Gp⟩, ⟨⟨by kernel_rfl, aj Tryz.func133 IP⟩, ⟨⟨by kernel_rfl, aj Tryz.func144 kK⟩, ⟨⟨by kernel_rfl, aj Tryz.func124 DX⟩, ⟨⟨by kernel_rfl, aj Tryz.func146 IQ⟩, ⟨trivial, ⟨trivial, ⟨trivial, ⟨trivial, ⟨trivial, ⟨trivial, ⟨trivial, ⟨trivial, ⟨trivial, ⟨trivial, ⟨trivial, ⟨trivial, ⟨trivial, ⟨trivial, ⟨trivial, ⟨trivial, ⟨⟨by kernel_rfl, aj Tryz.func13 KI⟩, ⟨trivial, ⟨trivial, ⟨trivial, ⟨trivial, ⟨trivial, ⟨trivial, ⟨trivial, ⟨trivial, ⟨trivial, ⟨trivial, ⟨⟨by kernel_rfl, aj Tryz.func49 DY⟩, ⟨trivial, ⟨trivial, ⟨trivial, ⟨trivial, ⟨trivial, ⟨trivial, ⟨trivial, ⟨trivial, ⟨⟨by kernel_rfl, aj Tryz.func96 IS⟩, ⟨trivial, ⟨trivial, ⟨trivial, ⟨trivial, ⟨trivial, ⟨⟨by kernel_rfl, aj Tryz.func40 Dw⟩, ⟨trivial, ⟨trivial, ⟨trivial, ⟨trivial, ⟨trivial, ⟨trivial, ⟨trivial, ⟨trivial, ⟨trivial, ⟨trivial, ⟨trivial, ⟨trivial, ⟨trivial, ⟨trivial, ⟨trivial, ⟨trivial, ⟨trivial, ⟨trivial, ⟨trivial, ⟨trivial, ⟨trivial, ⟨trivial, ⟨trivial, ⟨trivial, ⟨trivial, ⟨trivial, ⟨trivial, ⟨trivial, ⟨trivial, ⟨trivial, ⟨trivial, ⟨trivial, ⟨trivial, ⟨trivial, ⟨trivial, ⟨trivial, ⟨trivial, ⟨trivial, ⟨trivial, ⟨trivial, ⟨trivial, ⟨trivial, ⟨trivial, ⟨trivial, ⟨trivial, ⟨trivial, ⟨⟨by kernel_rfl, aj Tryz.func48 IT⟩, ⟨trivial, ⟨trivial, ⟨trivial, ⟨trivial, ⟨trivial, ⟨⟨by kernel_rfl, aj Tryz.func92 IU⟩, ⟨trivial, ⟨trivial, ⟨trivial, ⟨⟨by kernel_rfl, aj Tryz.func125 Gq⟩, ⟨trivial, ⟨trivial, ⟨trivial, ⟨trivial, ⟨trivial, ⟨trivial, ⟨trivial, ⟨trivial, ⟨trivial, ⟨trivial, ⟨trivial, ⟨trivial, ⟨⟨by kernel_rfl, aj Tryz.func112 DZ⟩, ⟨trivial, ⟨trivial, ⟨trivial, ⟨⟨by kernel_rfl, aj Tryz.func77 D0⟩, ⟨trivial, ⟨trivial, ⟨trivial, ⟨trivial, ⟨⟨by kernel_rfl, aj Tryz.func114 BE⟩, ⟨⟨by kernel_rfl, aj Tryz.func115 IV⟩, ⟨⟨by kernel_rfl, aj Tryz.func113 Dx⟩, ⟨⟨by kernel_rfl, aj Tryz.func108 ui⟩, ⟨trivial, ⟨⟨by kernel_rfl, aj Tryz.func37 uj⟩, ⟨trivial, ⟨⟨by kernel_rfl, aj Tryz.func43 Gr⟩, ⟨trivial, ⟨⟨by kernel_rfl, aj Tryz.func139 AE⟩, ⟨⟨by kernel_rfl, aj Tryz.func140 zC⟩, ⟨⟨by kernel_rfl, aj Tryz.func138 AF⟩, ⟨⟨by kernel_rfl, aj Tryz.func155 KJ⟩, ⟨⟨by kernel_rfl, aj Tryz.func168 KK⟩, ⟨⟨by kernel_rfl, aj Tryz.func151 KL⟩, ⟨⟨by kernel_rfl, aj Tryz.func174 IW⟩, ⟨trivial, ⟨trivial, ⟨trivial, ⟨trivial, ⟨trivial, ⟨trivial, ⟨trivial, ⟨trivial, ⟨trivial, ⟨trivial, ⟨trivial, ⟨trivial, ⟨trivial, ⟨trivial, ⟨trivial, ⟨trivial, ⟨trivial, ⟨trivial, ⟨trivial, ⟨trivial, ⟨trivial, ⟨trivial, ⟨trivial, ⟨trivial, ⟨trivial, ⟨trivial, ⟨⟨by kernel_rfl, aj Tryz.func117 vH⟩, ⟨trivial, ⟨trivial, ⟨trivial, ⟨trivial, ⟨trivial, ⟨trivial, ⟨trivial, ⟨trivial, ⟨trivial, ⟨trivial, ⟨trivial, ⟨trivial, ⟨trivial, ⟨trivial, ⟨trivial, ⟨⟨by kernel_rfl, aj Tryz.func74 Gs⟩, ⟨trivial, ⟨trivial, ⟨⟨by kernel_rfl, aj Tryz.func105 yg⟩, ⟨⟨by kernel_rfl, aj Tryz.func106 tT⟩, ⟨⟨by kernel_rfl, aj Tryz.func107 D1⟩, ⟨⟨by kernel_rfl, aj Tryz.func109 r7⟩, ⟨⟨by kernel_rfl, aj Tryz.func110 gX⟩, ⟨⟨by kernel_rfl, aj Tryz.func111 Dy⟩, ⟨trivial, ⟨⟨by kernel_rfl, aj Tryz.func135 rB⟩, ⟨⟨by kernel_rfl, aj Tryz.func136 AG⟩, ⟨⟨by kernel_rfl, aj Tryz.func137 iD⟩, ⟨⟨by kernel_rfl, aj Tryz.func154 Dz⟩, ⟨trivial, ⟨trivial, ⟨trivial, ⟨trivial, ⟨trivial, ⟨trivial, ⟨trivial, ⟨trivial, ⟨trivial, ⟨trivial, ⟨trivial, ⟨trivial, ⟨trivial, ⟨trivial, ⟨trivial, ⟨trivial, ⟨trivial, ⟨trivial, ⟨⟨by kernel_rfl, aj Tryz.func76 Gt⟩, ⟨trivial, ⟨trivial, ⟨trivial, ⟨trivial, ⟨⟨by kernel_rfl, aj Tryz.func34 Gu⟩, ⟨⟨by kernel_rfl, aj Tryz.func20 Gv⟩, ⟨trivial, ⟨trivial, ⟨trivial, ⟨trivial, ⟨trivial, ⟨trivial, ⟨trivial, ⟨trivial, ⟨trivial, ⟨trivial, ⟨trivial, ⟨trivial, ⟨⟨by kernel_rfl, aj Tryz.func76 BF⟩, ⟨trivial, ⟨trivial, ⟨trivial, ⟨trivial, ⟨trivial, ⟨trivial, ⟨trivial, ⟨trivial, ⟨trivial, ⟨trivial, ⟨trivial, ⟨trivial, ⟨trivial, ⟨trivial, ⟨trivial, ⟨trivial, ⟨trivial, ⟨trivial, ⟨⟨by kernel_rfl, aj Tryz.func19 BG⟩, ⟨trivial, ⟨trivial, ⟨⟨by kernel_rfl, aj Tryz.func52 mw⟩, ⟨⟨by kernel_rfl, aj Tryz.func53 nh⟩, ⟨trivial, ⟨trivial, ⟨trivial, ⟨trivial, ⟨trivial, ⟨trivial, ⟨trivial, ⟨trivial, ⟨trivial, ⟨trivial, ⟨trivial, ⟨trivial, ⟨trivial, ⟨trivial, ⟨trivial, ⟨trivial, ⟨trivial, ⟨trivial, ⟨trivial, ⟨trivial, ⟨trivial, ⟨trivial, ⟨trivial, ⟨trivial, ⟨trivial, ⟨trivial, ⟨trivial, ⟨trivial, ⟨trivial, ⟨trivial, ⟨trivial, ⟨trivial, ⟨trivial, ⟨trivial, ⟨trivial, ⟨trivial, ⟨trivial, ⟨trivial, ⟨trivial, ⟨trivial, ⟨trivial, ⟨trivial, ⟨trivial, ⟨trivial, ⟨trivial, ⟨trivial, ⟨trivial, ⟨trivial, ⟨trivial, ⟨trivial, ⟨trivial, ⟨trivial, ⟨trivial, ⟨trivial, ⟨trivial, ⟨trivial, ⟨trivial, ⟨trivial, ⟨trivial, ⟨trivial, ⟨trivial, ⟨trivial, ⟨trivial, ⟨trivial, ⟨trivial, ⟨trivial, ⟨trivial, ⟨trivial, ⟨trivial, ⟨trivial, ⟨trivial, ⟨trivial, ⟨trivial, ⟨trivial, ⟨trivial, ⟨trivial, ⟨trivial, ⟨trivial, ⟨trivial, ⟨trivial, ⟨trivial, ⟨trivial, ⟨trivial, ⟨trivial, ⟨trivial, ⟨trivial, ⟨⟨by kernel_rfl, aj Tryz.func5 uk⟩, ⟨trivial, ⟨⟨by kernel_rfl, aj Tryz.func8 Gw⟩, ⟨⟨by kernel_rfl, aj Tryz.func12 zD⟩, ⟨⟨by kernel_rfl, aj Tryz.func17 yh⟩, ⟨⟨by kernel_rfl, aj Tryz.func22 D2⟩, ⟨⟨by kernel_rfl, aj Tryz.func24 zE⟩, ⟨⟨by kernel_rfl, aj Tryz.func25 zF⟩, ⟨⟨by kernel_rfl, aj Tryz.func26 Gx⟩, ⟨⟨by kernel_rfl, aj Tryz.func27 zG⟩, ⟨⟨by kernel_rfl, aj Tryz.func33 wI⟩, ⟨⟨by kernel_rfl, aj Tryz.func35 zH⟩, ⟨⟨by kernel_rfl, aj Tryz.func36 qa⟩, ⟨⟨by kernel_rfl, aj Tryz.func38 vI⟩, ⟨⟨by kernel_rfl, aj Tryz.func45 KM⟩, ⟨⟨by kernel_rfl, aj Tryz.func46 KN⟩, ⟨⟨by kernel_rfl, aj Tryz.func47 IX⟩, ⟨⟨by kernel_rfl, aj Tryz.func51 wJ⟩, ⟨⟨by kernel_rfl, aj Tryz.func54 IY⟩, ⟨⟨by kernel_rfl, aj Tryz.func56 wK⟩, ⟨⟨by kernel_rfl, aj Tryz.func57 Gy⟩, ⟨⟨by kernel_rfl, aj Tryz.func58 Gz⟩, ⟨⟨by kernel_rfl, aj Tryz.func59 GA⟩, ⟨⟨by kernel_rfl, aj Tryz.func60 D3⟩, ⟨⟨by kernel_rfl, aj Tryz.func62 GB⟩, ⟨⟨by kernel_rfl, aj Tryz.func78 GC⟩, ⟨⟨by kernel_rfl, aj Tryz.func80 wM⟩, ⟨⟨by kernel_rfl, aj Tryz.func86 IZ⟩, ⟨⟨by kernel_rfl, aj Tryz.func87 DA⟩, ⟨⟨by kernel_rfl, aj Tryz.func88 I0⟩, ⟨⟨by kernel_rfl, aj Tryz.func89 GD⟩, ⟨⟨by kernel_rfl, aj Tryz.func90 I3⟩, ⟨⟨by kernel_rfl, aj Tryz.func91 GF⟩, ⟨⟨by kernel_rfl, aj Tryz.func93 Om⟩, ⟨⟨by kernel_rfl, aj Tryz.func94 On⟩, ⟨⟨by kernel_rfl, aj Tryz.func97 KO⟩, ⟨⟨by kernel_rfl, aj Tryz.func116 tU⟩, ⟨⟨by kernel_rfl, aj Tryz.func118 r9⟩, ⟨⟨by kernel_rfl, aj Tryz.func122 D4⟩, ⟨⟨by kernel_rfl, aj Tryz.func123 KP⟩, ⟨⟨by kernel_rfl, aj Tryz.func126 I4⟩, ⟨⟨by kernel_rfl, aj Tryz.func127 KQ⟩, ⟨⟨by kernel_rfl, aj Tryz.func128 zI⟩, ⟨⟨by kernel_rfl, aj Tryz.func129 kC⟩, ⟨⟨by kernel_rfl, aj Tryz.func130 I5⟩, ⟨⟨by kernel_rfl, aj Tryz.func131 KR⟩, ⟨⟨by kernel_rfl, aj Tryz.func141 vJ⟩, ⟨⟨by kernel_rfl, aj Tryz.func145 D5⟩, ⟨⟨by kernel_rfl, aj Tryz.func147 yi⟩, ⟨⟨by kernel_rfl, aj Tryz.func148 kL⟩, ⟨⟨by kernel_rfl, aj Tryz.func149 wN⟩, ⟨⟨by kernel_rfl, aj Tryz.func150 wO⟩, ⟨⟨by kernel_rfl, aj Tryz.func152 KS⟩, ⟨⟨by kernel_rfl, aj Tryz.func167 BH⟩, trivial⟩⟩⟩⟩⟩⟩⟩⟩⟩⟩⟩⟩⟩⟩⟩⟩⟩⟩⟩⟩⟩⟩⟩⟩⟩⟩⟩⟩⟩⟩⟩⟩⟩⟩⟩⟩⟩⟩⟩⟩⟩⟩⟩⟩⟩⟩⟩⟩⟩⟩⟩⟩⟩⟩⟩⟩⟩⟩⟩⟩⟩⟩⟩⟩⟩⟩⟩⟩⟩⟩⟩⟩⟩⟩⟩⟩⟩⟩⟩⟩⟩⟩⟩⟩⟩⟩⟩⟩⟩⟩⟩⟩⟩⟩⟩⟩⟩⟩⟩⟩⟩⟩⟩⟩⟩⟩⟩⟩⟩⟩⟩⟩⟩⟩⟩⟩⟩⟩⟩⟩⟩⟩⟩⟩⟩⟩⟩⟩⟩⟩⟩⟩⟩⟩⟩⟩⟩⟩⟩⟩⟩⟩⟩⟩⟩⟩⟩⟩⟩⟩⟩⟩⟩⟩⟩⟩⟩⟩⟩⟩⟩⟩⟩⟩⟩⟩⟩⟩⟩⟩⟩⟩⟩⟩⟩⟩⟩⟩⟩⟩⟩⟩⟩⟩⟩⟩⟩⟩⟩⟩⟩⟩⟩⟩⟩⟩⟩⟩⟩⟩⟩⟩⟩⟩⟩⟩⟩⟩⟩⟩⟩⟩⟩⟩⟩⟩⟩⟩⟩⟩⟩⟩⟩⟩⟩⟩⟩⟩⟩⟩⟩⟩⟩⟩⟩⟩⟩⟩⟩⟩⟩⟩⟩⟩⟩⟩⟩⟩⟩⟩⟩⟩⟩⟩⟩⟩⟩⟩⟩⟩⟩⟩⟩⟩⟩⟩⟩⟩⟩⟩⟩⟩⟩⟩⟩⟩⟩⟩⟩⟩⟩⟩⟩⟩⟩⟩⟩⟩⟩⟩⟩⟩⟩⟩⟩⟩⟩⟩⟩⟩⟩⟩⟩⟩⟩⟩⟩⟩⟩⟩⟩⟩⟩⟩⟩⟩⟩⟩⟩⟩⟩⟩⟩⟩⟩⟩⟩⟩⟩⟩⟩⟩⟩⟩⟩⟩⟩⟩⟩⟩⟩⟩⟩⟩⟩⟩⟩⟩⟩⟩⟩⟩⟩⟩⟩⟩⟩⟩⟩⟩⟩⟩⟩⟩⟩⟩⟩⟩⟩⟩⟩⟩⟩⟩⟩⟩⟩⟩⟩⟩⟩⟩⟩⟩⟩⟩⟩⟩⟩⟩⟩⟩⟩⟩⟩⟩⟩⟩⟩⟩⟩⟩⟩⟩⟩⟩⟩⟩⟩⟩⟩⟩⟩⟩⟩⟩⟩⟩⟩⟩⟩⟩⟩⟩⟩⟩⟩⟩⟩⟩⟩⟩⟩⟩⟩⟩⟩⟩⟩⟩⟩⟩⟩⟩⟩⟩⟩⟩⟩⟩⟩⟩⟩⟩⟩⟩⟩⟩⟩⟩⟩⟩⟩⟩⟩⟩⟩⟩⟩⟩⟩⟩
theorem agc : ∀ f j, Names.ρ f = some j → Names.it f = true → EZ Tryz.prog j := fun f j hj h => Bool.noConfusion (show false = true from h)
def aa0 : List (Nat × List Nat) := [(241, [1]), (260, [2, N.aT]), (464, [4])]
def I6 : Go.Shelf.Ren := ⟨fun | 189 => 117 | 125 => 143 | 257 => 142 | 128 => 165 | 129 => 166 | 294 => 156 | 295 => 157 | 296 => 158 | 297 => 159 | 298 => 160 | 299 => 161 | 216 => 162 | 300 => 163 | 301 => 164 | 328 => 169 | 329 => 170 | 330 => 171 | 331 => 172 | 332 => 173 | 215 => 154 | 343 => 175 | n => n, fun | 28 => 22 | 3 => 3 | 46 => 166 | 0 => 0 | 51 => 190 | 53 => 192 | 4 => 4 | 183 => 183 | 182 => 182 | 131 => 187 | 5 => 5 | 9 => 9 | 218 => 194 | 222 => 198 | 228 => 200 | 229 => 120 | n => n, fun | n => n⟩
theorem Mz : Go.Proofs.Lays.n189 Tryz.prog I6 := {
 mixed := by kernel_rfl,
 f125 := Tryz.func143.trans (congrArg some (by kernel_rfl)),
 f128 := Tryz.func165.trans (congrArg some (by kernel_rfl)),
 f129 := Tryz.func166.trans (congrArg some (by kernel_rfl)),
 f189 := Tryz.func117.trans (congrArg some (by kernel_rfl)),
 f215 := Tryz.func154.trans (congrArg some (by kernel_rfl)),
 f216 := Tryz.func162.trans (congrArg some (by kernel_rfl)),
 f257 := Tryz.func142.trans (congrArg some (by kernel_rfl)),
 f294 := Tryz.func156.trans (congrArg some (by kernel_rfl)),
 f295 := Tryz.func157.trans (congrArg some (by kernel_rfl)),
 f296 := Tryz.func158.trans (congrArg some (by kernel_rfl)),
 f297 := Tryz.func159.trans (congrArg some (by kernel_rfl)),
 f298 := Tryz.func160.trans (congrArg some (by kernel_rfl)),
 f299 := Tryz.func161.trans (congrArg some (by kernel_rfl)),
 f300 := Tryz.func163.trans (congrArg some (by kernel_rfl)),
 f301 := Tryz.func164.trans (congrArg some (by kernel_rfl)),
 f328 := Tryz.func169.trans (congrArg some (by kernel_rfl)),
 f329 := Tryz.func170.trans (congrArg some (by kernel_rfl)),
 f330 := Tryz.func171.trans (congrArg some (by kernel_rfl)),
 f331 := Tryz.func172.trans (congrArg some (by kernel_rfl)),
 f332 := Tryz.func173.trans (congrArg some (by kernel_rfl)),
 f343 := Tryz.func175.trans (congrArg some (by kernel_rfl)),
 t0 := Tryz.underlying0,
 a0 := Tryz.isAgg0,
 z0 := Tryz.sizeOf0,
 v0 := Tryz.zeroValue0,
 t3 := Tryz.underlying3,
 a3 := Tryz.isAgg3,
 z3 := Tryz.sizeOf3,
 v3 := Tryz.zeroValue3,
 t4 := Tryz.underlying4,
 a4 := Tryz.isAgg4,
 z4 := Tryz.sizeOf4,
 v4 := Tryz.zeroValue4,
 t5 := Tryz.underlying5,
 a5 := Tryz.isAgg5,
 z5 := Tryz.sizeOf5,
 v5 := Tryz.zeroValue5,
 t9 := Tryz.underlying9,
 a9 := Tryz.isAgg9,
 z9 := Tryz.sizeOf9,
 v9 := Tryz.zeroValue9,
 t28 := Tryz.underlying22,
 a28 := Tryz.isAgg22,
 z28 := Tryz.sizeOf22,
 v28 := Tryz.zeroValue22,
 t46 := Tryz.underlying166,
 a46 := Tryz.isAgg166,
 z46 := Tryz.sizeOf166,
 v46 := Tryz.zeroValue166,
 t51 := Tryz.underlying190,
 a51 := Tryz.isAgg190,
 z51 := Tryz.sizeOf190,
 v51 := Tryz.zeroValue190,
 t53 := Tryz.underlying192,
 a53 := Tryz.isAgg192,
 z53 := Tryz.sizeOf192,
 v53 := Tryz.zeroValue192,
 t131 := Tryz.underlying187,
 a131 := Tryz.isAgg187,
 z131 := Tryz.sizeOf187,
 v131 := Tryz.zeroValue187,
 t182 := Tryz.underlying182,
 a182 := Tryz.isAgg182,
 z182 := Tryz.sizeOf182,
 v182 := Tryz.zeroValue182,
 t183 := Tryz.underlying183,
 a183 := Tryz.isAgg183,
 z183 := Tryz.sizeOf183,
 v183 := Tryz.zeroValue183,
 t218 := Tryz.underlying194,
 a218 := Tryz.isAgg194,
 z218 := Tryz.sizeOf194,
 v218 := Tryz.zeroValue194,
 t222 := Tryz.underlying198,
 a222 := Tryz.isAgg198,
 z222 := Tryz.sizeOf198,
 v222 := Tryz.zeroValue198,
 t228 := Tryz.underlying200,
 a228 := Tryz.isAgg200,
 z228 := Tryz.sizeOf200,
 v228 := Tryz.zeroValue200,
 t229 := Tryz.underlying120,
 a229 := Tryz.isAgg120,
 z229 := Tryz.sizeOf120,
 v229 := Tryz.zeroValue120 }
theorem Vx : ∀ j, Names.ρ 241 = some j → wT Tryz.prog j [1] := fun j hj => by
 have e : (Names.ρ 241 : Option Nat) = some 117 := by kernel_rfl
 rw [e] at hj; cases hj; exact Su Mz
def D6 : Go.Shelf.Ren := ⟨fun | 6 => 105 | 8 => 134 | 9 => 117 | 11 => 153 | 13 => 143 | 12 => 142 | 23 => 165 | 24 => 166 | 14 => 156 | 15 => 157 | 16 => 158 | 17 => 159 | 18 => 160 | 19 => 161 | 20 => 162 | 21 => 163 | 22 => 164 | 25 => 169 | 26 => 170 | 27 => 171 | 28 => 172 | 29 => 173 | 30 => 154 | 31 => 175 | n => n, fun | 26 => 3 | 28 => 133 | 24 => 22 | 0 => 0 | 3 => 3 | 37 => 166 | 48 => 190 | 50 => 192 | 4 => 4 | 40 => 183 | 39 => 182 | 45 => 187 | 5 => 5 | 9 => 9 | 51 => 194 | 55 => 198 | 57 => 200 | 58 => 120 | 33 => 59 | n => n, fun | n => n⟩
theorem Oo : Go.Proofs.SlLaysZI.n6 Tryz.prog D6 := {
 f6 := ⟨"slices.Sorted[int]", by kernel_rfl, Tryz.func105.trans (congrArg some (by kernel_rfl))⟩,
 f8 := ⟨"slices.Collect[int]", by kernel_rfl, Tryz.func134.trans (congrArg some (by kernel_rfl))⟩,
 f11 := ⟨"slices.AppendSeq[[]int,int]", by kernel_rfl, Tryz.func153.trans (congrArg some (by kernel_rfl))⟩,
 mixed := by kernel_rfl,
 t0 := Tryz.underlying0,
 a0 := Tryz.isAgg0,
 z0 := Tryz.sizeOf0,
 v0 := Tryz.zeroValue0,
 t24 := Tryz.underlying22,
 a24 := Tryz.isAgg22,
 z24 := Tryz.sizeOf22,
 v24 := Tryz.zeroValue22,
 t26 := Tryz.underlying3,
 a26 := Tryz.isAgg3,
 z26 := Tryz.sizeOf3,
 v26 := Tryz.zeroValue3,
 t28 := Tryz.underlying133,
 a28 := Tryz.isAgg133,
 z28 := Tryz.sizeOf133,
 v28 := Tryz.zeroValue133,
 i26 := by kernel_rfl }
section
open Go.RowKit Go.Shelf Go.Maps Go.Sort Go.Proofs
/- the iterator of slices.Values at this program -/
set_option maxRecDepth 100000 in
set_option maxHeartbeats 2000000 in
theorem akt (n l Bs : Nat) (hn : 1 ≤ n) (W0 : World) (b off len cap : Nat) (zs : List Int) (hlen : zs.length = len) (hreach : len * 8 ≤ 140737488351232) (hb : b < W0.heap.size) (J : List Int → World → Prop)
 (hJ : ∀ s W1, J s W1 → Below W0.heap.size W0 W1)
 (hY : ∀ pre x W1, J pre W1 → pre.length < zs.length → YieldAt Fence.wide (n - 1) Tryz.prog l #[encZ x] W1 fun e W' => e = .returned (.bool true) ∧ J (pre ++ [x]) W' ∧ KeepsWalks W1 W')
 (W : World) (hBs : W.cell? ⟨Bs, 0, none⟩ = some (.slice (some ⟨b, off, none⟩) len cap)) (hc : ∀ j, j < len → W0.cell? ⟨b, off + j, none⟩ = some (.int .i64 (zs[j]?.getD 0))) (h0 : J [] W) :
 CallsIn Fence.wide n Tryz.prog 135 #[.func (.yield l) #[] #[], .pointer (some ⟨Bs, 0, none⟩)] W fun e W' => (∃ v, e = .returned v) ∧ J zs W' := by
 have step : ∀ k, k < zs.length → zs.take k ++ [zs[k]?.getD 0] = zs.take (k + 1) := fun k hk => by
  rw [List.take_succ_eq_append_getElem hk]; simp [hk]
 refine callsIn_of_wp Tryz.func135 rfl trivial ?_ rfl
 simp only [Tryz.ntmps135, List.size_toArray, List.length_cons, List.length_nil, Nat.reduceAdd, Nat.reduceSub, Array.replicate_succ, Array.replicate_zero, List.push_toArray, List.append_toArray, List.nil_append, List.cons_append]
 gi_wp2
 gi_loopw [7] (fun i wr => ∃ k : Nat, k ≤ len ∧ i = .int .i64 k ∧ J (zs.take k) wr)
  (fun i _ => len - (intOf i).toNat)
 case atStart => exact ⟨0, Nat.zero_le _, rfl, h0⟩
 case round =>
  obtain ⟨k, hk, rfl, hJs⟩ := hrel
  by_cases hlt : k < len
  · have hcx : wr.cell? ⟨b, off + k, none⟩ = some (.int .i64 (zs[k]?.getD 0)) := ((hJ _ _ hJs).cell (p := ⟨b, off + k, none⟩) hb).trans (hc k hlt)
    have st := step k (by omega)
    generalize zs[k]?.getD 0 = x at hcx st
    obtain ⟨fn, tmps, assign, body, hy, hR⟩ := hY _ x wr hJs (by rw [List.length_take]; omega)
    clear step
    gi_wp2
    refine hR.mono ?_
    rintro e W3 ⟨rfl, hJ3, -⟩
    gi_wp2
    go_roundw
    case rel => exact ⟨k + 1, by omega, by simp, by rw [← st]; exact hJ3⟩
    case measure => simp [intOf]; omega
  · obtain rfl : k = len := by omega
    gi_wp2
    go_end0
    exact ⟨⟨_, rfl⟩, by rw [← hlen, List.take_length] at hJs; exact hJs⟩
set_option maxRecDepth 100000 in
set_option maxHeartbeats 1000000 in
theorem aku (n l Bs : Nat) (p : Option Addr) (cap : Nat) (J : List Int → World → Prop) (W : World) (hBs : W.cell? ⟨Bs, 0, none⟩ = some (.slice p 0 cap)) (h0 : J [] W) :
 CallsIn Fence.wide n Tryz.prog 135 #[.func (.yield l) #[] #[], .pointer (some ⟨Bs, 0, none⟩)] W fun e W' => (∃ v, e = .returned v) ∧ J [] W' := by
 refine callsIn_of_wp Tryz.func135 rfl trivial ?_ rfl
 simp only [Tryz.ntmps135, List.size_toArray, List.length_cons, List.length_nil, Nat.reduceAdd, Nat.reduceSub, Array.replicate_succ, Array.replicate_zero, List.push_toArray, List.append_toArray, List.nil_append, List.cons_append]
 gi_wp2
 gi_loopw [7] (fun i wr => i = .int .i64 0 ∧ J [] wr) (fun _ _ => 0)
 case atStart => exact ⟨rfl, h0⟩
 case round =>
  obtain ⟨rfl, hJs⟩ := hrel
  gi_wp2
  go_end0
  exact ⟨⟨_, rfl⟩, hJs⟩
theorem aa1 : Xe Tryz.prog 135 := by
 intro n Bs sv zs w hn hreach hBs hcell hI l J W hW hJ hY h0
 have hc' := (hW.cell (p := ⟨Bs, 0, none⟩) hBs).trans hcell
 rcases hI with ⟨p, cap, rfl, rfl⟩ | ⟨b, off, cap, rfl, hb, hcs⟩
 · exact aku n l Bs p cap J W hc' h0
 · exact akt n l Bs hn w b off zs.length cap zs rfl hreach hb J hJ hY W hc' hcs h0
end
theorem Vy : ∀ j, Names.ρ 260 = some j → wT Tryz.prog j [2, N.aT] := fun j hj => by
 have e : (Names.ρ 260 : Option Nat) = some 105 := by kernel_rfl
 rw [e] at hj; cases hj; exact KC Oo Mz (by kernel_rfl) (Go.Proofs.enters_of Tryz.func117 (by kernel_rfl) rfl) (by kernel_rfl) (Go.Proofs.enters_of Tryz.func135 (by kernel_rfl) rfl) aa1
def vK : Go.Shelf.Ren := ⟨fun | 4 => 141 | n => n, fun | 22 => 22 | 25 => 3 | 3 => 3 | 4 => 4 | 9 => 9 | 20 => 20 | 0 => 0 | n => n, fun | n => n⟩
theorem Vz : Go.Proofs.Lays8.n4 Tryz.prog vK := {
 f4 := ⟨"slices.Grow[[]int,int]", by kernel_rfl, Tryz.func141.trans (congrArg some (by kernel_rfl))⟩,
 mixed := by kernel_rfl,
 t0 := Tryz.underlying0,
 a0 := Tryz.isAgg0,
 z0 := Tryz.sizeOf0,
 v0 := Tryz.zeroValue0,
 t3 := Tryz.underlying3,
 a3 := Tryz.isAgg3,
 z3 := Tryz.sizeOf3,
 v3 := Tryz.zeroValue3,
 t4 := Tryz.underlying4,
 a4 := Tryz.isAgg4,
 z4 := Tryz.sizeOf4,
 v4 := Tryz.zeroValue4,
 t9 := Tryz.underlying9,
 a9 := Tryz.isAgg9,
 z9 := Tryz.sizeOf9,
 v9 := Tryz.zeroValue9,
 t20 := Tryz.underlying20,
 a20 := Tryz.isAgg20,
 z20 := Tryz.sizeOf20,
 v20 := Tryz.zeroValue20,
 t22 := Tryz.underlying22,
 a22 := Tryz.isAgg22,
 z22 := Tryz.sizeOf22,
 v22 := Tryz.zeroValue22 }
theorem akv : (Tryz.prog.info? (vK.t 25)).isSome = true := by kernel_rfl
theorem VA : ∀ j, Names.ρ 464 = some j → wT Tryz.prog j [4] := fun j hj => by
 have e : (Names.ρ 464 : Option Nat) = some 141 := by kernel_rfl
 rw [e] at hj; cases hj; exact Sw Vz (i0 := (Tryz.prog.info? (vK.t 25)).get akv) (Option.some_get _).symm (by kernel_rfl) (by kernel_rfl) (Nat.le_of_ble_eq_true (by kernel_rfl))
theorem VB : ∀ x ∈ aa0, ∀ j, Names.ρ x.1 = some j → wT Tryz.prog j x.2 := by
 intro x hx
 simp only [aa0, List.mem_cons, List.not_mem_nil, or_false] at hx
 rcases hx with rfl | rfl | rfl
 · exact Vx
 · exact Vy
 · exact VA
end Go.Proofs.YtifghciaddehaaaGreat
