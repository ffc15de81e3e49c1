/- MADE BY PROGRAM (lib.py): the numbers that the functions have in this program, and the check of each one. -/
import Derived.Test.YtljlbkjecjloaaaGreatProg
import Derived.Test.YtljlbkjecjloaaaGreatZPPP
import Derived.KernelRfl
set_option linter.all false
set_option maxRecDepth 100000
namespace Go.Proofs.YtljlbkjecjloaaaGreat
open Go.Ev
def real : List (Option Nat) := [none, some 8, none, some 10, some 11, none, none, none, some 17, some 12, some 38, none, some 15, some 24, none, some 26, some 19, none, none, some 37, some 44, some 35, some 45, some 13, none, none, none, some 28, some 55, none, some 16, none, none, none, none, some 75, some 25, some 30, some 33, some 68, some 86, some 87, some 88, some 82, some 77, some 83, some 89, some 42, none, some 57, none, some 70, none, some 80, some 107, none, some 59, some 60, some 61, some 76, some 78, some 112, some 27, some 122, some 118, some 109, some 108, some 113, some 116, some 51, some 117, some 40, some 115, some 135, some 46, some 99, some 90, some 123, none, none, none, none, none, none, none, none, none, none, none, none, none, none, some 20, some 63, some 18, none, none, none, none, none, none, none, none, none, none, some 72, some 22, some 110, none, none, none, some 23, none, some 66, some 56, none, none, none, some 58, none, some 30, some 30, some 68, none, none, none, none, none, none, none, none, none, none, none, none, none, none, none, none, none, none, none, none, none, none, some 101, none, none, some 131, none, none, none, none, none, none, none, none, none, none, none, some 41, none, none, none, none, none, none, some 39, none, none, some 85, none, none, some 84, none, none, some 121, some 119, none, none, none, none, none, none, none, none, none, none, none, some 106, some 97, none, none, none, some 102, none, some 111, none, none, some 129, some 130, some 128, some 94, none, some 100, none, none, none, some 143, some 144, some 142, some 71, some 114, some 136, some 137, none, none, none, none, none, none, none, none, none, none, none, none, none, none, none, none, none, none, none, none, none, none, none, none, none, none, none, none, none, none, none, none, none, none, none, none, none, none, none, none, none, none, some 47, none, none, some 91, some 92, some 93, some 95, some 49, some 96, none, some 126, some 127, some 98, some 141, none, none, none, none, none, none, none, none, none, none, none, none, none, none, none, some 65, none, none, some 52, some 54, none, none, none, none, none, none, some 103, some 104, some 105, some 132, some 133, some 134, some 146, some 158, some 159, some 165, some 167, some 52, none, none, none, some 6, none, some 9, some 14, some 21, some 29, some 31, some 32, some 34, some 36, some 43, some 48, some 50, some 53, some 62, some 64, some 67, some 69, some 73, some 74, some 79, some 81, none, none, none, none, none, none, none, none, none, none, none, none, none, none, none, none, none, none, none, none, none, none, none, none, none, none, none, none, none, none, none, none, none, none, none, none, none, none, none, none, none, none, none, none, none, none, none, none, none, none, none, none, none, none, none, none, none, none, none, none, none, none, none, none, none, none, none, none, none, none, none, none, none, none, none, none, none, none, none, none, none, none, none, none, none, none, none, none, none, none, none, none, none, none, none, none, none, none, none, none, none, none, none, none, none, none, none, none, none, none, none, none, none, none, none, none, none, none, none, none, none, none, none, none, none, none, none, none, none, none, none, none, none, none, none, none, none, none]
def tab : List (Option Go.Ev.Fn) := [none, some K.i6, none, some K.ka, some K.cL, none, none, none, some K.cn, some K.aB, some K.dC, none, some K.fH, some K.dK, none, some K.dP, some K.b8, none, none, some K.dy, some K.bB, some K.ir, some K.ef, some K.kr, none, none, none, some K.dL, some K.cX, none, some K.jF, none, none, none, none, some K.eR, some K.eu, some K.ew, some K.cH, some K.bC, some K.i7, some K.ez, some K.fW, some K.eB, some K.cZ, some K.iX, some K.c7, some K.bZ, none, some K.az, none, some K.aO, none, some K.dM, some K.iu, none, some K.dD, some K.gn, some K.dQ, some K.iv, some K.fq, some K.cz, some K.bI, some K.iw, some K.cI, some K.ft, some K.bk, some K.bN, some K.bX, some K.aq, some K.bu, some K.fg, some K.eC, some K.dz, some K.fX, some K.aF, some K.cg, some K.i9, none, none, none, none, none, none, none, none, none, none, none, none, none, none, some K.fS, some K.dZ, some K.kd, none, none, none, none, none, none, none, none, none, none, some K.eV, some K.eh, some K.jd, none, none, none, some K.ga, none, some K.fw, some K.je, none, none, none, some K.cB, none, some K.dU, some K.eO, some K.b9, none, none, none, none, none, none, none, none, none, none, none, none, none, none, none, none, none, none, none, none, none, none, some K.dh, none, none, some K.bQ, none, none, none, none, none, none, none, none, none, none, none, some K.aZ, none, none, none, none, none, none, some K.eG, none, none, some K.dV, none, none, some K.jf, none, none, some K.di, some K.gq, none, none, none, none, none, none, none, none, none, none, none, some K.gr, some K.eW, none, none, none, some K.dG, none, some K.iD, none, none, some K.cA, some K.eH, some K.cP, some K.aY, none, some K.aV, some K.cq, none, none, some K.dk, some K.bh, some K.bS, some K.iZ, some K.ke, some K.eX, some K.jg, none, none, none, none, none, none, none, none, none, none, none, none, none, none, none, none, none, none, none, none, none, none, none, none, none, none, none, none, none, none, none, none, none, none, none, none, none, none, none, none, none, none, some K.fB, none, none, some K.b7, some K.bj, some K.fU, some K.aS, some K.af, some K.dq, none, some K.aP, some K.cu, some K.ax, some K.cmp_isNaN_int, none, none, none, none, none, none, none, none, none, none, none, none, none, none, none, some K.jh, none, none, some K.kC, some K.gZ, none, none, none, none, none, none, some K.aI, some K.aJ, some K.bf, some K.bD, some K.aA, some K.av, some K.aQ, some K.ay, some K.aG, some K.bc, some K.aK, some K.dm, none, none, none, some K.bV, none, some K.gv, some K.lQ, some K.gw, some K.dW, some K.gy, some K.fC, some K.gz, some K.m6, some K.eZ, some K.fD, some K.cQ, some K.kf, some K.lT, some K.dO, some K.fe, some K.cR, some K.aH, some K.aL, some K.dt, some K.cy, none, none, none, none, none, none, none, none, none, none, none, none, none, none, none, none, none, none, none, none, none, none, none, none, none, none, none, none, none, none, none, none, none, none, none, none, none, none, none, none, none, none, none, none, none, none, none, none, none, none, none, none, none, none, none, none, none, none, none, none, none, none, none, none, none, none, none, none, none, none, none, none, none, none, none, none, none, none, none, none, none, none, none, none, none, none, none, none, none, none, none, none, none, none, none, none, none, none, none, none, none, none, none, none, none, none, none, none, none, none, none, none, none, none, none, none, none, none, none, none, none, none, none, none, none, none, none, none, none, none, none, none, none, none, none, none, none, none]
instance names : Names := { ρ := fun f => (real[f]?).join }
instance lib : Lib := ⟨fun f => (tab[f]?).join⟩
instance has1 : bW := ⟨rfl, rfl, rfl, rfl, rfl, rfl, rfl, rfl, rfl, rfl, rfl, rfl, rfl, rfl, rfl, rfl, rfl, rfl, rfl, rfl⟩
instance has2 : bL := ⟨rfl, rfl, rfl, rfl, rfl, rfl, rfl, rfl, rfl, rfl, rfl, rfl, rfl, rfl, rfl, rfl, rfl, rfl, rfl, rfl, rfl, rfl, rfl, rfl, rfl, rfl, rfl, rfl, rfl, rfl, rfl, rfl, rfl, rfl, rfl, rfl, rfl⟩
instance has3 : fJ := ⟨rfl, rfl, rfl⟩
instance has4 : eY := ⟨rfl, rfl, rfl, rfl, rfl, rfl, rfl, rfl, rfl, rfl⟩
instance has5 : jB := ⟨rfl, rfl⟩
instance has6 : fM := ⟨rfl, rfl, rfl⟩
instance has7 : fN := ⟨rfl, rfl, rfl⟩
instance has8 : iI := ⟨rfl, rfl⟩
instance has9 : gu := ⟨rfl, rfl, rfl, rfl, rfl, rfl, rfl, rfl, rfl, rfl, rfl, rfl, rfl, rfl, rfl⟩
instance has10 : ec := ⟨⟩
instance has11 : du := ⟨rfl, rfl, rfl, rfl, rfl, rfl, rfl, rfl, rfl, rfl, rfl⟩
instance has12 : iV := ⟨⟩
instance has13 : eQ := ⟨rfl, rfl, rfl, rfl, rfl, rfl, rfl, rfl, rfl, rfl, rfl, rfl, rfl, rfl, rfl⟩
instance has14 : iJ := ⟨rfl, rfl, rfl, rfl, rfl, rfl, rfl, rfl, rfl, rfl, rfl, rfl, rfl, rfl⟩
instance has15 : j4 := ⟨rfl, rfl, rfl, rfl, rfl, rfl, rfl⟩
instance has21 : wC := ⟨⟩
instance has22 : wD := ⟨⟩
instance has23 : wE := ⟨⟩
theorem GK : aR Tryz.prog Tryz.f8 K.i6 = true := by kernel_rfl
theorem IK : aR Tryz.prog Tryz.f10 K.ka = true := by kernel_rfl
theorem zF : aR Tryz.prog Tryz.f11 K.cL = true := by kernel_rfl
theorem xX : aR Tryz.prog Tryz.f17 K.cn = true := by kernel_rfl
theorem zG : aR Tryz.prog Tryz.f12 K.aB = true := by kernel_rfl
theorem B2 : aR Tryz.prog Tryz.f38 K.dC = true := by kernel_rfl
theorem IL : aR Tryz.prog Tryz.f15 K.fH = true := by kernel_rfl
theorem zH : aR Tryz.prog Tryz.f24 K.dK = true := by kernel_rfl
theorem Bz : aR Tryz.prog Tryz.f26 K.dP = true := by kernel_rfl
theorem zI : aR Tryz.prog Tryz.f19 K.b8 = true := by kernel_rfl
theorem Ed : aR Tryz.prog Tryz.f37 K.dy = true := by kernel_rfl
theorem zJ : aR Tryz.prog Tryz.f44 K.bB = true := by kernel_rfl
theorem IM : aR Tryz.prog Tryz.f35 K.ir = true := by kernel_rfl
theorem B3 : aR Tryz.prog Tryz.f45 K.ef = true := by kernel_rfl
theorem LX : aR Tryz.prog Tryz.f13 K.kr = true := by kernel_rfl
theorem zK : aR Tryz.prog Tryz.f28 K.dL = true := by kernel_rfl
theorem Ee : aR Tryz.prog Tryz.f55 K.cX = true := by kernel_rfl
theorem IN : aR Tryz.prog Tryz.f16 K.jF = true := by kernel_rfl
theorem B4 : aR Tryz.prog Tryz.f75 K.eR = true := by kernel_rfl
theorem Ef : aR Tryz.prog Tryz.f25 K.eu = true := by kernel_rfl
theorem GL : aR Tryz.prog Tryz.f30 K.ew = true := by kernel_rfl
theorem Eg : aR Tryz.prog Tryz.f33 K.cH = true := by kernel_rfl
theorem yM : aR Tryz.prog Tryz.f68 K.bC = true := by kernel_rfl
theorem GM : aR Tryz.prog Tryz.f86 K.i7 = true := by kernel_rfl
theorem Eh : aR Tryz.prog Tryz.f87 K.ez = true := by kernel_rfl
theorem GN : aR Tryz.prog Tryz.f88 K.fW = true := by kernel_rfl
theorem Ei : aR Tryz.prog Tryz.f82 K.eB = true := by kernel_rfl
theorem B5 : aR Tryz.prog Tryz.f77 K.cZ = true := by kernel_rfl
theorem IP : aR Tryz.prog Tryz.f83 K.iX = true := by kernel_rfl
theorem B6 : aR Tryz.prog Tryz.f89 K.c7 = true := by kernel_rfl
theorem Ej : aR Tryz.prog Tryz.f42 K.bZ = true := by kernel_rfl
theorem nL : aR Tryz.prog Tryz.f57 K.az = true := by kernel_rfl
theorem qd : aR Tryz.prog Tryz.f70 K.aO = true := by kernel_rfl
theorem zL : aR Tryz.prog Tryz.f80 K.dM = true := by kernel_rfl
theorem GO : aR Tryz.prog Tryz.f107 K.iu = true := by kernel_rfl
theorem B7 : aR Tryz.prog Tryz.f59 K.dD = true := by kernel_rfl
theorem Ek : aR Tryz.prog Tryz.f60 K.gn = true := by kernel_rfl
theorem El : aR Tryz.prog Tryz.f61 K.dQ = true := by kernel_rfl
theorem GP : aR Tryz.prog Tryz.f76 K.iv = true := by kernel_rfl
theorem Em : aR Tryz.prog Tryz.f78 K.fq = true := by kernel_rfl
theorem GQ : aR Tryz.prog Tryz.f112 K.cz = true := by kernel_rfl
theorem zM : aR Tryz.prog Tryz.f27 K.bI = true := by kernel_rfl
theorem GR : aR Tryz.prog Tryz.f122 K.iw = true := by kernel_rfl
theorem En : aR Tryz.prog Tryz.f118 K.cI = true := by kernel_rfl
theorem Eo : aR Tryz.prog Tryz.f109 K.ft = true := by kernel_rfl
theorem o8 : aR Tryz.prog Tryz.f108 K.bk = true := by kernel_rfl
theorem sE : aR Tryz.prog Tryz.f113 K.bN = true := by kernel_rfl
theorem xY : aR Tryz.prog Tryz.f116 K.bX = true := by kernel_rfl
theorem jq : aR Tryz.prog Tryz.f51 K.aq = true := by kernel_rfl
theorem uL : aR Tryz.prog Tryz.f117 K.bu = true := by kernel_rfl
theorem LY : aR Tryz.prog Tryz.f40 K.fg = true := by kernel_rfl
theorem Ep : aR Tryz.prog Tryz.f115 K.eC = true := by kernel_rfl
theorem Er : aR Tryz.prog Tryz.f135 K.dz = true := by kernel_rfl
theorem GS : aR Tryz.prog Tryz.f46 K.fX = true := by kernel_rfl
theorem jX : aR Tryz.prog Tryz.f99 K.aF = true := by kernel_rfl
theorem B8 : aR Tryz.prog Tryz.f90 K.cg = true := by kernel_rfl
theorem GU : aR Tryz.prog Tryz.f123 K.i9 = true := by kernel_rfl
theorem B9 : aR Tryz.prog Tryz.f20 K.fS = true := by kernel_rfl
theorem GV : aR Tryz.prog Tryz.f63 K.dZ = true := by kernel_rfl
theorem IQ : aR Tryz.prog Tryz.f18 K.kd = true := by kernel_rfl
theorem Ca : aR Tryz.prog Tryz.f72 K.eV = true := by kernel_rfl
theorem Cb : aR Tryz.prog Tryz.f22 K.eh = true := by kernel_rfl
theorem GW : aR Tryz.prog Tryz.f110 K.jd = true := by kernel_rfl
theorem GX : aR Tryz.prog Tryz.f23 K.ga = true := by kernel_rfl
theorem Es : aR Tryz.prog Tryz.f66 K.fw = true := by kernel_rfl
theorem GY : aR Tryz.prog Tryz.f56 K.je = true := by kernel_rfl
theorem Cc : aR Tryz.prog Tryz.f58 K.cB = true := by kernel_rfl
theorem BA : aR Tryz.prog Tryz.f30 K.dU = true := by kernel_rfl
theorem BB : aR Tryz.prog Tryz.f30 K.eO = true := by kernel_rfl
theorem uM : aR Tryz.prog Tryz.f68 K.b9 = true := by kernel_rfl
theorem yN : aR Tryz.prog Tryz.f101 K.dh = true := by kernel_rfl
theorem wF : aR Tryz.prog Tryz.f131 K.bQ = true := by kernel_rfl
theorem r7 : aR Tryz.prog Tryz.f41 K.aZ = true := by kernel_rfl
theorem GZ : aR Tryz.prog Tryz.f39 K.eG = true := by kernel_rfl
theorem BD : aR Tryz.prog Tryz.f85 K.dV = true := by kernel_rfl
theorem G0 : aR Tryz.prog Tryz.f84 K.jf = true := by kernel_rfl
theorem yO : aR Tryz.prog Tryz.f121 K.di = true := by kernel_rfl
theorem Et : aR Tryz.prog Tryz.f119 K.gq = true := by kernel_rfl
theorem Eu : aR Tryz.prog Tryz.f106 K.gr = true := by kernel_rfl
theorem Cd : aR Tryz.prog Tryz.f97 K.eW = true := by kernel_rfl
theorem Ce : aR Tryz.prog Tryz.f102 K.dG = true := by kernel_rfl
theorem G1 : aR Tryz.prog Tryz.f111 K.iD = true := by kernel_rfl
theorem zN : aR Tryz.prog Tryz.f129 K.cA = true := by kernel_rfl
theorem G2 : aR Tryz.prog Tryz.f130 K.eH = true := by kernel_rfl
theorem BE : aR Tryz.prog Tryz.f128 K.cP = true := by kernel_rfl
theorem sF : aR Tryz.prog Tryz.f94 K.aY = true := by kernel_rfl
theorem sG : aR Tryz.prog Tryz.f100 K.aV = true := by kernel_rfl
theorem yP : aR Tryz.prog Tryz.f143 K.dk = true := by kernel_rfl
theorem xZ : aR Tryz.prog Tryz.f144 K.bh = true := by kernel_rfl
theorem yQ : aR Tryz.prog Tryz.f142 K.bS = true := by kernel_rfl
theorem IS : aR Tryz.prog Tryz.f71 K.iZ = true := by kernel_rfl
theorem IT : aR Tryz.prog Tryz.f114 K.ke = true := by kernel_rfl
theorem IU : aR Tryz.prog Tryz.f136 K.eX = true := by kernel_rfl
theorem G3 : aR Tryz.prog Tryz.f137 K.jg = true := by kernel_rfl
theorem Ew : aR Tryz.prog Tryz.f47 K.fB = true := by kernel_rfl
theorem wG : aR Tryz.prog Tryz.f91 K.b7 = true := by kernel_rfl
theorem r8 : aR Tryz.prog Tryz.f92 K.bj = true := by kernel_rfl
theorem Cf : aR Tryz.prog Tryz.f93 K.fU = true := by kernel_rfl
theorem qC : aR Tryz.prog Tryz.f95 K.aS = true := by kernel_rfl
theorem fR : aR Tryz.prog Tryz.f49 K.af = true := by kernel_rfl
theorem BF : aR Tryz.prog Tryz.f96 K.dq = true := by kernel_rfl
theorem qe : aR Tryz.prog Tryz.f126 K.aP = true := by kernel_rfl
theorem yR : aR Tryz.prog Tryz.f127 K.cu = true := by kernel_rfl
theorem gE : aR Tryz.prog Tryz.f98 K.ax = true := by kernel_rfl
theorem BG : aR Tryz.prog Tryz.f141 K.cmp_isNaN_int = true := by kernel_rfl
theorem G4 : aR Tryz.prog Tryz.f65 K.jh = true := by kernel_rfl
theorem Ey : aR Tryz.prog Tryz.f52 K.kC = true := by kernel_rfl
theorem Ez : aR Tryz.prog Tryz.f54 K.gZ = true := by kernel_rfl
theorem kN : aR Tryz.prog Tryz.f103 K.aI = true := by kernel_rfl
theorem kO : aR Tryz.prog Tryz.f104 K.aJ = true := by kernel_rfl
theorem BH : aR Tryz.prog Tryz.f105 K.bf = true := by kernel_rfl
theorem o9 : aR Tryz.prog Tryz.f132 K.bD = true := by kernel_rfl
theorem iW : aR Tryz.prog Tryz.f133 K.aA = true := by kernel_rfl
theorem j6 : aR Tryz.prog Tryz.f134 K.av = true := by kernel_rfl
theorem mj : aR Tryz.prog Tryz.f146 K.aQ = true := by kernel_rfl
theorem jL : aR Tryz.prog Tryz.f158 K.ay = true := by kernel_rfl
theorem lr : aR Tryz.prog Tryz.f159 K.aG = true := by kernel_rfl
theorem mq : aR Tryz.prog Tryz.f165 K.bc = true := by kernel_rfl
theorem kP : aR Tryz.prog Tryz.f167 K.aK = true := by kernel_rfl
theorem zO : aR Tryz.prog Tryz.f52 K.dm = true := by kernel_rfl
theorem zP : aR Tryz.prog Tryz.f6 K.bV = true := by kernel_rfl
theorem EA : aR Tryz.prog Tryz.f9 K.gv = true := by kernel_rfl
theorem PB : aR Tryz.prog Tryz.f14 K.lQ = true := by kernel_rfl
theorem IV : aR Tryz.prog Tryz.f21 K.gw = true := by kernel_rfl
theorem EB : aR Tryz.prog Tryz.f29 K.dW = true := by kernel_rfl
theorem EC : aR Tryz.prog Tryz.f31 K.gy = true := by kernel_rfl
theorem ED : aR Tryz.prog Tryz.f32 K.fC = true := by kernel_rfl
theorem EE : aR Tryz.prog Tryz.f34 K.gz = true := by kernel_rfl
theorem IW : aR Tryz.prog Tryz.f36 K.m6 = true := by kernel_rfl
theorem IX : aR Tryz.prog Tryz.f43 K.eZ = true := by kernel_rfl
theorem EF : aR Tryz.prog Tryz.f48 K.fD = true := by kernel_rfl
theorem BI : aR Tryz.prog Tryz.f50 K.cQ = true := by kernel_rfl
theorem IY : aR Tryz.prog Tryz.f53 K.kf = true := by kernel_rfl
theorem LZ : aR Tryz.prog Tryz.f62 K.lT = true := by kernel_rfl
theorem zQ : aR Tryz.prog Tryz.f64 K.dO = true := by kernel_rfl
theorem Cg : aR Tryz.prog Tryz.f67 K.fe = true := by kernel_rfl
theorem BJ : aR Tryz.prog Tryz.f69 K.cR = true := by kernel_rfl
theorem lu : aR Tryz.prog Tryz.f73 K.aH = true := by kernel_rfl
theorem mr : aR Tryz.prog Tryz.f74 K.aL = true := by kernel_rfl
theorem BK : aR Tryz.prog Tryz.f79 K.dt = true := by kernel_rfl
theorem yS : aR Tryz.prog Tryz.f81 K.cy = true := by kernel_rfl
theorem acW : Hz Tryz.prog real tab :=
 ⟨trivial, ⟨⟨by kernel_rfl, ah Tryz.func8 GK⟩, ⟨trivial, ⟨⟨by kernel_rfl, ah Tryz.func10 IK⟩, ⟨⟨by kernel_rfl, ah Tryz.func11 zF⟩, ⟨trivial, ⟨trivial, ⟨trivial, ⟨⟨by kernel_rfl, ah Tryz.func17 xX⟩, ⟨⟨by kernel_rfl, ah Tryz.func12 zG⟩, ⟨⟨by kernel_rfl, ah Tryz.func38 B2⟩, ⟨trivial, ⟨⟨by kernel_rfl, ah Tryz.func15 IL⟩, ⟨⟨by kernel_rfl, ah Tryz.func24 zH⟩, ⟨trivial, ⟨⟨by kernel_rfl, ah Tryz.func26 Bz⟩, ⟨⟨by kernel_rfl, ah Tryz.func19 zI⟩, ⟨trivial, ⟨trivial, ⟨⟨by kernel_rfl, ah Tryz.func37 Ed⟩, ⟨⟨by kernel_rfl, ah Tryz.func44 zJ⟩, ⟨⟨by kernel_rfl, ah Tryz.func35 IM⟩, ⟨⟨by kernel_rfl, ah Tryz.func45 B3⟩, ⟨⟨by kernel_rfl, ah Tryz.func13 LX⟩, ⟨trivial, ⟨trivial, ⟨trivial, ⟨⟨by kernel_rfl, ah Tryz.func28 zK⟩, ⟨⟨by kernel_rfl, ah Tryz.func55 Ee⟩, ⟨trivial, ⟨⟨by kernel_rfl, ah Tryz.func16 IN⟩, ⟨trivial, ⟨trivial, ⟨trivial, ⟨trivial, ⟨⟨by kernel_rfl, ah Tryz.func75 B4⟩, ⟨⟨by kernel_rfl, ah Tryz.func25 Ef⟩, ⟨⟨by kernel_rfl, ah Tryz.func30 GL⟩, ⟨⟨by kernel_rfl, ah Tryz.func33 Eg⟩, ⟨⟨by kernel_rfl, ah Tryz.func68 yM⟩, ⟨⟨by kernel_rfl, ah Tryz.func86 GM⟩, ⟨⟨by kernel_rfl, ah Tryz.func87 Eh⟩, ⟨⟨by kernel_rfl, ah Tryz.func88 GN⟩, ⟨⟨by kernel_rfl, ah Tryz.func82 Ei⟩, ⟨⟨by kernel_rfl, ah Tryz.func77 B5⟩, ⟨⟨by kernel_rfl, ah Tryz.func83 IP⟩, ⟨⟨by kernel_rfl, ah Tryz.func89 B6⟩, ⟨⟨by kernel_rfl, ah Tryz.func42 Ej⟩, ⟨trivial, ⟨⟨by kernel_rfl, ah Tryz.func57 nL⟩, ⟨trivial, ⟨⟨by kernel_rfl, ah Tryz.func70 qd⟩, ⟨trivial, ⟨⟨by kernel_rfl, ah Tryz.func80 zL⟩, ⟨⟨by kernel_rfl, ah Tryz.func107 GO⟩, ⟨trivial, ⟨⟨by kernel_rfl, ah Tryz.func59 B7⟩, ⟨⟨by kernel_rfl, ah Tryz.func60 Ek⟩, ⟨⟨by kernel_rfl, ah Tryz.func61 El⟩, ⟨⟨by kernel_rfl, ah Tryz.func76 GP⟩, ⟨⟨by kernel_rfl, ah Tryz.func78 Em⟩, ⟨⟨by kernel_rfl, ah Tryz.func112 GQ⟩, ⟨⟨by kernel_rfl, ah Tryz.func27 zM⟩, ⟨⟨by kernel_rfl, ah Tryz.func122 GR⟩, ⟨⟨by kernel_rfl, ah Tryz.func118 En⟩, ⟨⟨by kernel_rfl, ah Tryz.func109 Eo⟩, ⟨⟨by kernel_rfl, ah Tryz.func108 o8⟩, ⟨⟨by kernel_rfl, ah Tryz.func113 sE⟩, ⟨⟨by kernel_rfl, ah Tryz.func116 xY⟩, ⟨⟨by kernel_rfl, ah Tryz.func51 jq⟩, ⟨⟨by kernel_rfl, ah Tryz.func117 uL⟩, ⟨⟨by kernel_rfl, ah Tryz.func40 LY⟩, ⟨⟨by kernel_rfl, ah Tryz.func115 Ep⟩, ⟨⟨by kernel_rfl, ah Tryz.func135 Er⟩, ⟨⟨by kernel_rfl, ah Tryz.func46 GS⟩, ⟨⟨by kernel_rfl, ah Tryz.func99 jX⟩, ⟨⟨by kernel_rfl, ah Tryz.func90 B8⟩, ⟨⟨by kernel_rfl, ah Tryz.func123 GU⟩, ⟨trivial, ⟨trivial, ⟨trivial, ⟨trivial, ⟨trivial, ⟨trivial, ⟨trivial, ⟨trivial, ⟨trivial, ⟨trivial, ⟨trivial, ⟨trivial, ⟨trivial, ⟨trivial, ⟨⟨by kernel_rfl, ah Tryz.func20 B9⟩, ⟨⟨by kernel_rfl, ah Tryz.func63 GV⟩, ⟨⟨by kernel_rfl, ah Tryz.func18 IQ⟩, ⟨trivial, ⟨trivial, ⟨trivial, ⟨trivial, ⟨trivial, ⟨trivial, ⟨trivial, ⟨trivial, ⟨trivial, ⟨trivial, ⟨⟨by kernel_rfl, ah Tryz.func72 Ca⟩, ⟨⟨by kernel_rfl, ah Tryz.func22 Cb⟩, ⟨⟨by kernel_rfl, ah Tryz.func110 GW⟩, ⟨trivial, ⟨trivial, ⟨trivial, ⟨⟨by kernel_rfl, ah Tryz.func23 GX⟩, ⟨trivial, ⟨⟨by kernel_rfl, ah Tryz.func66 Es⟩, ⟨⟨by kernel_rfl, ah Tryz.func56 GY⟩, ⟨trivial, ⟨trivial, ⟨trivial, ⟨⟨by kernel_rfl, ah Tryz.func58 Cc⟩, ⟨trivial, ⟨⟨by kernel_rfl, ah Tryz.func30 BA⟩, ⟨⟨by kernel_rfl, ah Tryz.func30 BB⟩, ⟨⟨by kernel_rfl, ah Tryz.func68 uM⟩, ⟨trivial, ⟨trivial, ⟨trivial, ⟨trivial, ⟨trivial, ⟨trivial, ⟨trivial, ⟨trivial, ⟨trivial, ⟨trivial, ⟨trivial, ⟨trivial, ⟨trivial, ⟨trivial, ⟨trivial, ⟨trivial, ⟨trivial, ⟨trivial, ⟨trivial, ⟨trivial, ⟨trivial, ⟨trivial, ⟨⟨by kernel_rfl, ah Tryz.func101 yN⟩, ⟨trivial, ⟨trivial, ⟨⟨by kernel_rfl, ah Tryz.func131 wF⟩, ⟨trivial, ⟨trivial, ⟨trivial, ⟨trivial, ⟨trivial, ⟨trivial, ⟨trivial, ⟨trivial, ⟨trivial, ⟨trivial, ⟨trivial, ⟨⟨by kernel_rfl, ah Tryz.func41 r7⟩, ⟨trivial, ⟨trivial, ⟨trivial, ⟨trivial, ⟨trivial, ⟨trivial, ⟨⟨by kernel_rfl, ah Tryz.func39 GZ⟩, ⟨trivial, ⟨trivial, ⟨⟨by kernel_rfl, ah Tryz.func85 BD⟩, ⟨trivial, ⟨trivial, ⟨⟨by kernel_rfl, ah Tryz.func84 G0⟩, ⟨trivial, ⟨trivial, ⟨⟨by kernel_rfl, ah Tryz.func121 yO⟩, ⟨⟨by kernel_rfl, ah Tryz.func119 Et⟩, ⟨trivial, ⟨trivial, ⟨trivial, ⟨trivial, ⟨trivial, ⟨trivial, ⟨trivial, ⟨trivial, ⟨trivial, ⟨trivial, ⟨trivial, ⟨⟨by kernel_rfl, ah Tryz.func106 Eu⟩, ⟨⟨by kernel_rfl, ah Tryz.func97 Cd⟩, ⟨trivial, ⟨trivial, ⟨trivial, ⟨⟨by kernel_rfl, ah Tryz.func102 Ce⟩, ⟨trivial, ⟨⟨by kernel_rfl, ah Tryz.func111 G1⟩, ⟨trivial, ⟨trivial, ⟨⟨by kernel_rfl, ah Tryz.func129 zN⟩, ⟨⟨by kernel_rfl, ah Tryz.func130 G2⟩, ⟨⟨by kernel_rfl, ah Tryz.func128 BE⟩, ⟨⟨by kernel_rfl, ah Tryz.func94 sF⟩, ⟨trivial, ⟨⟨by kernel_rfl, ah Tryz.func100 sG⟩, ⟨trivial, ⟨trivial, ⟨trivial, ⟨⟨by kernel_rfl, ah Tryz.func143 yP⟩, ⟨⟨by kernel_rfl, ah Tryz.func144 xZ⟩, ⟨⟨by kernel_rfl, ah Tryz.func142 yQ⟩, ⟨⟨by kernel_rfl, ah Tryz.func71 IS⟩, ⟨⟨by kernel_rfl, ah Tryz.func114 IT⟩, ⟨⟨by kernel_rfl, ah Tryz.func136 IU⟩, ⟨⟨by kernel_rfl, ah Tryz.func137 G3⟩, ⟨trivial, ⟨trivial, ⟨trivial, ⟨trivial, ⟨trivial, ⟨trivial, ⟨trivial, ⟨trivial, ⟨trivial, ⟨trivial, ⟨trivial, ⟨trivial, ⟨trivial, ⟨trivial, ⟨trivial, ⟨trivial, ⟨trivial, ⟨trivial, ⟨trivial, ⟨trivial, ⟨trivial, ⟨trivial, ⟨trivial, ⟨trivial, ⟨trivial, ⟨trivial, ⟨trivial, ⟨trivial, ⟨trivial, ⟨trivial, ⟨trivial, ⟨trivial, ⟨trivial, ⟨trivial, ⟨trivial, ⟨trivial, ⟨trivial, ⟨trivial, ⟨trivial, ⟨trivial, ⟨trivial, ⟨trivial, ⟨⟨by kernel_rfl, ah Tryz.func47 Ew⟩, ⟨trivial, ⟨trivial, ⟨⟨by kernel_rfl, ah Tryz.func91 wG⟩, ⟨⟨by kernel_rfl, ah Tryz.func92 r8⟩, ⟨⟨by kernel_rfl, ah Tryz.func93 Cf⟩, ⟨⟨by kernel_rfl, ah Tryz.func95 qC⟩, ⟨⟨by kernel_rfl, ah Tryz.func49 fR⟩, ⟨⟨by kernel_rfl, ah Tryz.func96 BF⟩, ⟨trivial, ⟨⟨by kernel_rfl, ah Tryz.func126 qe⟩, ⟨⟨by kernel_rfl, ah Tryz.func127 yR⟩, ⟨⟨by kernel_rfl, ah Tryz.func98 gE⟩, ⟨⟨by kernel_rfl, ah Tryz.func141 BG⟩, ⟨trivial, ⟨trivial, ⟨trivial, ⟨trivial, ⟨trivial, ⟨trivial, ⟨trivial, ⟨trivial, ⟨trivial, ⟨trivial, ⟨trivial, ⟨trivial, ⟨trivial, ⟨trivial, ⟨trivial, ⟨⟨by kernel_rfl, ah Tryz.func65 G4⟩, ⟨trivial, ⟨trivial, ⟨⟨by kernel_rfl, ah Tryz.func52 Ey⟩, ⟨⟨by kernel_rfl, ah Tryz.func54 Ez⟩, ⟨trivial, ⟨trivial, ⟨trivial, ⟨trivial, ⟨trivial, ⟨trivial, ⟨⟨by kernel_rfl, ah Tryz.func103 kN⟩, ⟨⟨by kernel_rfl, ah Tryz.func104 kO⟩, ⟨⟨by kernel_rfl, ah Tryz.func105 BH⟩, ⟨⟨by kernel_rfl, ah Tryz.func132 o9⟩, ⟨⟨by kernel_rfl, ah Tryz.func133 iW⟩, ⟨⟨by kernel_rfl, ah Tryz.func134 j6⟩, ⟨⟨by kernel_rfl, ah Tryz.func146 mj⟩, ⟨⟨by kernel_rfl, ah Tryz.func158 jL⟩, ⟨⟨by kernel_rfl, ah Tryz.func159 lr⟩, ⟨⟨by kernel_rfl, ah Tryz.func165 mq⟩, ⟨⟨by kernel_rfl, ah Tryz.func167 kP⟩, ⟨⟨by kernel_rfl, ah Tryz.func52 zO⟩, ⟨trivial, ⟨trivial, ⟨trivial, ⟨⟨by kernel_rfl, ah Tryz.func6 zP⟩, ⟨trivial, ⟨⟨by kernel_rfl, ah Tryz.func9 EA⟩, ⟨⟨by kernel_rfl, ah Tryz.func14 PB⟩, ⟨⟨by kernel_rfl, ah Tryz.func21 IV⟩, ⟨⟨by kernel_rfl, ah Tryz.func29 EB⟩, ⟨⟨by kernel_rfl, ah Tryz.func31 EC⟩, ⟨⟨by kernel_rfl, ah Tryz.func32 ED⟩, ⟨⟨by kernel_rfl, ah Tryz.func34 EE⟩, ⟨⟨by kernel_rfl, ah Tryz.func36 IW⟩, ⟨⟨by kernel_rfl, ah Tryz.func43 IX⟩, ⟨⟨by kernel_rfl, ah Tryz.func48 EF⟩, ⟨⟨by kernel_rfl, ah Tryz.func50 BI⟩, ⟨⟨by kernel_rfl, ah Tryz.func53 IY⟩, ⟨⟨by kernel_rfl, ah Tryz.func62 LZ⟩, ⟨⟨by kernel_rfl, ah Tryz.func64 zQ⟩, ⟨⟨by kernel_rfl, ah Tryz.func67 Cg⟩, ⟨⟨by kernel_rfl, ah Tryz.func69 BJ⟩, ⟨⟨by kernel_rfl, ah Tryz.func73 lu⟩, ⟨⟨by kernel_rfl, ah Tryz.func74 mr⟩, ⟨⟨by kernel_rfl, ah Tryz.func79 BK⟩, ⟨⟨by kernel_rfl, ah Tryz.func81 yS⟩, ⟨trivial, ⟨trivial, ⟨trivial, ⟨trivial, ⟨trivial, ⟨trivial, ⟨trivial, ⟨trivial, ⟨trivial, ⟨trivial, ⟨trivial, ⟨trivial, ⟨trivial, ⟨trivial, ⟨trivial, ⟨trivial, ⟨trivial, ⟨trivial, ⟨trivial, ⟨trivial, ⟨trivial, ⟨trivial, ⟨trivial, ⟨trivial, ⟨trivial, ⟨trivial, ⟨trivial, ⟨trivial, ⟨trivial, ⟨trivial, ⟨trivial, ⟨trivial, ⟨trivial, ⟨trivial, ⟨trivial, ⟨trivial, ⟨trivial, ⟨trivial, ⟨trivial, ⟨trivial, ⟨trivial, ⟨trivial, ⟨trivial, ⟨trivial, ⟨trivial, ⟨trivial, ⟨trivial, ⟨trivial, ⟨trivial, ⟨trivial, ⟨trivial, ⟨trivial, ⟨trivial, ⟨trivial, ⟨trivial, ⟨trivial, ⟨trivial, ⟨trivial, ⟨trivial, ⟨trivial, ⟨trivial, ⟨trivial, ⟨trivial, ⟨trivial, ⟨trivial, ⟨trivial, ⟨trivial, ⟨trivial, ⟨trivial, ⟨trivial, ⟨trivial, ⟨trivial, ⟨trivial, ⟨trivial, ⟨trivial, ⟨trivial, ⟨trivial, ⟨trivial, ⟨trivial, ⟨trivial, ⟨trivial, ⟨trivial, ⟨trivial, ⟨trivial, ⟨trivial, ⟨trivial, ⟨trivial, ⟨trivial, ⟨trivial, ⟨trivial, ⟨trivial, ⟨trivial, ⟨trivial, ⟨trivial, ⟨trivial, ⟨trivial, ⟨trivial, ⟨trivial, ⟨trivial, ⟨trivial, ⟨trivial, ⟨trivial, ⟨trivial, ⟨trivial, ⟨trivial, ⟨trivial, ⟨trivial, ⟨trivial, ⟨trivial, ⟨trivial, ⟨trivial, ⟨trivial, ⟨trivial, ⟨trivial, ⟨trivial, ⟨trivial, ⟨trivial, ⟨trivial, ⟨trivial, ⟨trivial, ⟨trivial, ⟨trivial, ⟨trivial, ⟨trivial, ⟨trivial, ⟨trivial, ⟨trivial, ⟨trivial, ⟨trivial, ⟨trivial, ⟨trivial, ⟨trivial, ⟨trivial, ⟨trivial, ⟨trivial, ⟨trivial, ⟨trivial, ⟨trivial, trivial⟩⟩⟩⟩⟩⟩⟩⟩⟩⟩⟩⟩⟩⟩⟩⟩⟩⟩⟩⟩⟩⟩⟩⟩⟩⟩⟩⟩⟩⟩⟩⟩⟩⟩⟩⟩⟩⟩⟩⟩⟩⟩⟩⟩⟩⟩⟩⟩⟩⟩⟩⟩⟩⟩⟩⟩⟩⟩⟩⟩⟩⟩⟩⟩⟩⟩⟩⟩⟩⟩⟩⟩⟩⟩⟩⟩⟩⟩⟩⟩⟩⟩⟩⟩⟩⟩⟩⟩⟩⟩⟩⟩⟩⟩⟩⟩⟩⟩⟩⟩⟩⟩⟩⟩⟩⟩⟩⟩⟩⟩⟩⟩⟩⟩⟩⟩⟩⟩⟩⟩⟩⟩⟩⟩⟩⟩⟩⟩⟩⟩⟩⟩⟩⟩⟩⟩⟩⟩⟩⟩⟩⟩⟩⟩⟩⟩⟩⟩⟩⟩⟩⟩⟩⟩⟩⟩⟩⟩⟩⟩⟩⟩⟩⟩⟩⟩⟩⟩⟩⟩⟩⟩⟩⟩⟩⟩⟩⟩⟩⟩⟩⟩⟩⟩⟩⟩⟩⟩⟩⟩⟩⟩⟩⟩⟩⟩⟩⟩⟩⟩⟩⟩⟩⟩⟩⟩⟩⟩⟩⟩⟩⟩⟩⟩⟩⟩⟩⟩⟩⟩⟩⟩⟩⟩⟩⟩⟩⟩⟩⟩⟩⟩⟩⟩⟩⟩⟩⟩⟩⟩⟩⟩⟩⟩⟩⟩⟩⟩⟩⟩⟩⟩⟩⟩⟩⟩⟩⟩⟩⟩⟩⟩⟩⟩⟩⟩⟩⟩⟩⟩⟩⟩⟩⟩⟩⟩⟩⟩⟩⟩⟩⟩⟩⟩⟩⟩⟩⟩⟩⟩⟩⟩⟩⟩⟩⟩⟩⟩⟩⟩⟩⟩⟩⟩⟩⟩⟩⟩⟩⟩⟩⟩⟩⟩⟩⟩⟩⟩⟩⟩⟩⟩⟩⟩⟩⟩⟩⟩⟩⟩⟩⟩⟩⟩⟩⟩⟩⟩⟩⟩⟩⟩⟩⟩⟩⟩⟩⟩⟩⟩⟩⟩⟩⟩⟩⟩⟩⟩⟩⟩⟩⟩⟩⟩⟩⟩⟩⟩⟩⟩⟩⟩⟩⟩⟩⟩⟩⟩⟩⟩⟩⟩⟩⟩⟩⟩⟩⟩⟩⟩⟩⟩⟩⟩⟩⟩⟩⟩⟩⟩⟩⟩⟩⟩⟩⟩⟩⟩⟩⟩⟩⟩⟩⟩⟩⟩⟩⟩⟩⟩⟩⟩⟩⟩⟩⟩⟩⟩⟩⟩⟩⟩⟩⟩⟩⟩⟩⟩⟩⟩⟩⟩⟩⟩⟩⟩⟩⟩⟩⟩⟩⟩⟩⟩⟩⟩⟩⟩⟩⟩⟩⟩⟩⟩⟩⟩⟩⟩⟩⟩⟩⟩
theorem acX : ∀ f j, Names.ρ f = some j → Names.it f = true → Da Tryz.prog j := fun f j hj h => Bool.noConfusion (show false = true from h)
def XN : List (Nat × List Nat) := [(260, [2, N.aP]), (300, [3, N.av])]
def G5 : Go.Shelf.Ren := ⟨fun | 189 => 125 | 125 => 140 | 257 => 139 | 128 => 156 | 129 => 157 | 294 => 147 | 295 => 148 | 296 => 149 | 297 => 150 | 298 => 151 | 299 => 152 | 216 => 153 | 300 => 154 | 301 => 155 | 328 => 160 | 329 => 161 | 330 => 162 | 331 => 163 | 332 => 164 | 215 => 141 | 343 => 166 | n => n, fun | 28 => 22 | 3 => 3 | 46 => 104 | 0 => 0 | 51 => 133 | 53 => 136 | 4 => 4 | 183 => 159 | 182 => 158 | 131 => 163 | 5 => 5 | 9 => 9 | 218 => 170 | 222 => 174 | 228 => 176 | 229 => 139 | n => n, fun | n => n⟩
theorem Si : Go.Proofs.Lays.n189 Tryz.prog G5 := {
 mixed := by kernel_rfl,
 f125 := Tryz.func140.trans (congrArg some (by kernel_rfl)),
 f128 := Tryz.func156.trans (congrArg some (by kernel_rfl)),
 f129 := Tryz.func157.trans (congrArg some (by kernel_rfl)),
 f189 := Tryz.func125.trans (congrArg some (by kernel_rfl)),
 f215 := Tryz.func141.trans (congrArg some (by kernel_rfl)),
 f216 := Tryz.func153.trans (congrArg some (by kernel_rfl)),
 f257 := Tryz.func139.trans (congrArg some (by kernel_rfl)),
 f294 := Tryz.func147.trans (congrArg some (by kernel_rfl)),
 f295 := Tryz.func148.trans (congrArg some (by kernel_rfl)),
 f296 := Tryz.func149.trans (congrArg some (by kernel_rfl)),
 f297 := Tryz.func150.trans (congrArg some (by kernel_rfl)),
 f298 := Tryz.func151.trans (congrArg some (by kernel_rfl)),
 f299 := Tryz.func152.trans (congrArg some (by kernel_rfl)),
 f300 := Tryz.func154.trans (congrArg some (by kernel_rfl)),
 f301 := Tryz.func155.trans (congrArg some (by kernel_rfl)),
 f328 := Tryz.func160.trans (congrArg some (by kernel_rfl)),
 f329 := Tryz.func161.trans (congrArg some (by kernel_rfl)),
 f330 := Tryz.func162.trans (congrArg some (by kernel_rfl)),
 f331 := Tryz.func163.trans (congrArg some (by kernel_rfl)),
 f332 := Tryz.func164.trans (congrArg some (by kernel_rfl)),
 f343 := Tryz.func166.trans (congrArg some (by kernel_rfl)),
 t0 := Tryz.underlying0,
 a0 := Tryz.isAgg0,
 z0 := Tryz.sizeOf0,
 v0 := Tryz.zeroValue0,
 t3 := Tryz.underlying3,
 a3 := Tryz.isAgg3,
 z3 := Tryz.sizeOf3,
 v3 := Tryz.zeroValue3,
 t4 := Tryz.underlying4,
 a4 := Tryz.isAgg4,
 z4 := Tryz.sizeOf4,
 v4 := Tryz.zeroValue4,
 t5 := Tryz.underlying5,
 a5 := Tryz.isAgg5,
 z5 := Tryz.sizeOf5,
 v5 := Tryz.zeroValue5,
 t9 := Tryz.underlying9,
 a9 := Tryz.isAgg9,
 z9 := Tryz.sizeOf9,
 v9 := Tryz.zeroValue9,
 t28 := Tryz.underlying22,
 a28 := Tryz.isAgg22,
 z28 := Tryz.sizeOf22,
 v28 := Tryz.zeroValue22,
 t46 := Tryz.underlying104,
 a46 := Tryz.isAgg104,
 z46 := Tryz.sizeOf104,
 v46 := Tryz.zeroValue104,
 t51 := Tryz.underlying133,
 a51 := Tryz.isAgg133,
 z51 := Tryz.sizeOf133,
 v51 := Tryz.zeroValue133,
 t53 := Tryz.underlying136,
 a53 := Tryz.isAgg136,
 z53 := Tryz.sizeOf136,
 v53 := Tryz.zeroValue136,
 t131 := Tryz.underlying163,
 a131 := Tryz.isAgg163,
 z131 := Tryz.sizeOf163,
 v131 := Tryz.zeroValue163,
 t182 := Tryz.underlying158,
 a182 := Tryz.isAgg158,
 z182 := Tryz.sizeOf158,
 v182 := Tryz.zeroValue158,
 t183 := Tryz.underlying159,
 a183 := Tryz.isAgg159,
 z183 := Tryz.sizeOf159,
 v183 := Tryz.zeroValue159,
 t218 := Tryz.underlying170,
 a218 := Tryz.isAgg170,
 z218 := Tryz.sizeOf170,
 v218 := Tryz.zeroValue170,
 t222 := Tryz.underlying174,
 a222 := Tryz.isAgg174,
 z222 := Tryz.sizeOf174,
 v222 := Tryz.zeroValue174,
 t228 := Tryz.underlying176,
 a228 := Tryz.isAgg176,
 z228 := Tryz.sizeOf176,
 v228 := Tryz.zeroValue176,
 t229 := Tryz.underlying139,
 a229 := Tryz.isAgg139,
 z229 := Tryz.sizeOf139,
 v229 := Tryz.zeroValue139 }
def Ch : Go.Shelf.Ren := ⟨fun | 6 => 91 | 8 => 124 | 9 => 125 | 11 => 138 | 13 => 140 | 12 => 139 | 23 => 156 | 24 => 157 | 14 => 147 | 15 => 148 | 16 => 149 | 17 => 150 | 18 => 151 | 19 => 152 | 20 => 153 | 21 => 154 | 22 => 155 | 25 => 160 | 26 => 161 | 27 => 162 | 28 => 163 | 29 => 164 | 30 => 141 | 31 => 166 | n => n, fun | 26 => 3 | 28 => 113 | 24 => 22 | 0 => 0 | 3 => 3 | 37 => 104 | 48 => 133 | 50 => 136 | 4 => 4 | 40 => 159 | 39 => 158 | 45 => 163 | 5 => 5 | 9 => 9 | 51 => 170 | 55 => 174 | 57 => 176 | 58 => 139 | 33 => 62 | n => n, fun | n => n⟩
theorem L3 : Go.Proofs.SlLaysZI.n6 Tryz.prog Ch := {
 f6 := ⟨"slices.Sorted[int]", by kernel_rfl, Tryz.func91.trans (congrArg some (by kernel_rfl))⟩,
 f8 := ⟨"slices.Collect[int]", by kernel_rfl, Tryz.func124.trans (congrArg some (by kernel_rfl))⟩,
 f11 := ⟨"slices.AppendSeq[[]int,int]", by kernel_rfl, Tryz.func138.trans (congrArg some (by kernel_rfl))⟩,
 mixed := by kernel_rfl,
 t0 := Tryz.underlying0,
 a0 := Tryz.isAgg0,
 z0 := Tryz.sizeOf0,
 v0 := Tryz.zeroValue0,
 t24 := Tryz.underlying22,
 a24 := Tryz.isAgg22,
 z24 := Tryz.sizeOf22,
 v24 := Tryz.zeroValue22,
 t26 := Tryz.underlying3,
 a26 := Tryz.isAgg3,
 z26 := Tryz.sizeOf3,
 v26 := Tryz.zeroValue3,
 t28 := Tryz.underlying113,
 a28 := Tryz.isAgg113,
 z28 := Tryz.sizeOf113,
 v28 := Tryz.zeroValue113,
 i26 := by kernel_rfl }
section
open Go.RowKit Go.Shelf Go.Maps Go.Sort Go.Proofs
/- the iterator of slices.Values at this program -/
set_option maxRecDepth 100000 in
set_option maxHeartbeats 2000000 in
theorem ahp (n l Bs : Nat) (hn : 1 ≤ n) (W0 : World) (b off len cap : Nat) (zs : List Int) (hlen : zs.length = len) (hreach : len * 8 ≤ 140737488351232) (hb : b < W0.heap.size) (J : List Int → World → Prop)
 (hJ : ∀ s W1, J s W1 → Below W0.heap.size W0 W1)
 (hY : ∀ pre x W1, J pre W1 → pre.length < zs.length → YieldAt Fence.wide (n - 1) Tryz.prog l #[encZ x] W1 fun e W' => e = .returned (.bool true) ∧ J (pre ++ [x]) W' ∧ KeepsWalks W1 W')
 (W : World) (hBs : W.cell? ⟨Bs, 0, none⟩ = some (.slice (some ⟨b, off, none⟩) len cap)) (hc : ∀ j, j < len → W0.cell? ⟨b, off + j, none⟩ = some (.int .i64 (zs[j]?.getD 0))) (h0 : J [] W) :
 CallsIn Fence.wide n Tryz.prog 126 #[.func (.yield l) #[] #[], .pointer (some ⟨Bs, 0, none⟩)] W fun e W' => (∃ v, e = .returned v) ∧ J zs W' := by
 have step : ∀ k, k < zs.length → zs.take k ++ [zs[k]?.getD 0] = zs.take (k + 1) := fun k hk => by
  rw [List.take_succ_eq_append_getElem hk]; simp [hk]
 refine callsIn_of_wp Tryz.func126 rfl trivial ?_ rfl
 simp only [Tryz.ntmps126, List.size_toArray, List.length_cons, List.length_nil, Nat.reduceAdd, Nat.reduceSub, Array.replicate_succ, Array.replicate_zero, List.push_toArray, List.append_toArray, List.nil_append, List.cons_append]
 gi_wp2
 gi_loopw [7] (fun i wr => ∃ k : Nat, k ≤ len ∧ i = .int .i64 k ∧ J (zs.take k) wr)
  (fun i _ => len - (intOf i).toNat)
 case atStart => exact ⟨0, Nat.zero_le _, rfl, h0⟩
 case round =>
  obtain ⟨k, hk, rfl, hJs⟩ := hrel
  by_cases hlt : k < len
  · have hcx : wr.cell? ⟨b, off + k, none⟩ = some (.int .i64 (zs[k]?.getD 0)) := ((hJ _ _ hJs).cell (p := ⟨b, off + k, none⟩) hb).trans (hc k hlt)
    have st := step k (by omega)
    generalize zs[k]?.getD 0 = x at hcx st
    obtain ⟨fn, tmps, assign, body, hy, hR⟩ := hY _ x wr hJs (by rw [List.length_take]; omega)
    clear step
    gi_wp2
    refine hR.mono ?_
    rintro e W3 ⟨rfl, hJ3, -⟩
    gi_wp2
    go_roundw
    case rel => exact ⟨k + 1, by omega, by simp, by rw [← st]; exact hJ3⟩
    case measure => simp [intOf]; omega
  · obtain rfl : k = len := by omega
    gi_wp2
    go_end0
    exact ⟨⟨_, rfl⟩, by rw [← hlen, List.take_length] at hJs; exact hJs⟩
set_option maxRecDepth 100000 in
set_option maxHeartbeats 1000000 in
theorem ahq (n l Bs : Nat) (p : Option Addr) (cap : Nat) (J : List Int → World → Prop) (W : World) (hBs : W.cell? ⟨Bs, 0, none⟩ = some (.slice p 0 cap)) (h0 : J [] W) :
 CallsIn Fence.wide n Tryz.prog 126 #[.func (.yield l) #[] #[], .pointer (some ⟨Bs, 0, none⟩)] W fun e W' => (∃ v, e = .returned v) ∧ J [] W' := by
 refine callsIn_of_wp Tryz.func126 rfl trivial ?_ rfl
 simp only [Tryz.ntmps126, List.size_toArray, List.length_cons, List.length_nil, Nat.reduceAdd, Nat.reduceSub, Array.replicate_succ, Array.replicate_zero, List.push_toArray, List.append_toArray, List.nil_append, List.cons_append]
 gi_wp2
 gi_loopw [7] (fun i wr => i = .int .i64 0 ∧ J [] wr) (fun _ _ => 0)
 case atStart => exact ⟨rfl, h0⟩
 case round =>
  obtain ⟨rfl, hJs⟩ := hrel
  gi_wp2
  go_end0
  exact ⟨⟨_, rfl⟩, hJs⟩
theorem XO : TU Tryz.prog 126 := by
 intro n Bs sv zs w hn hreach hBs hcell hI l J W hW hJ hY h0
 have hc' := (hW.cell (p := ⟨Bs, 0, none⟩) hBs).trans hcell
 rcases hI with ⟨p, cap, rfl, rfl⟩ | ⟨b, off, cap, rfl, hb, hcs⟩
 · exact ahq n l Bs p cap J W hc' h0
 · exact ahp n l Bs hn w b off zs.length cap zs rfl hreach hb J hJ hY W hc' hcs h0
end
theorem Sj : ∀ j, Names.ρ 260 = some j → w9 Tryz.prog j [2, N.aP] := fun j hj => by
 have e : (Names.ρ 260 : Option Nat) = some 91 := by kernel_rfl
 rw [e] at hj; cases hj; exact IG L3 Si (by kernel_rfl) (Go.Proofs.enters_of Tryz.func125 (by kernel_rfl) rfl) (by kernel_rfl) (Go.Proofs.enters_of Tryz.func126 (by kernel_rfl) rfl) XO
def PC : Go.Shelf.Ren := ⟨fun | 8 => 132 | 11 => 145 | n => n, fun | 0 => 0 | 24 => 42 | 26 => 56 | 28 => 121 | 33 => 86 | n => n, fun n => n⟩
theorem ahr : Go.Proofs.acV Tryz.prog PC := {
 mixed := by kernel_rfl,
 f8 := ⟨"slices.Collect[minecontrol/api.World]", by kernel_rfl, Tryz.func132.trans (congrArg some (by kernel_rfl))⟩,
 f11 := ⟨"slices.AppendSeq[[]minecontrol/api.World,minecontrol/api.World]", by kernel_rfl, Tryz.func145.trans (congrArg some (by kernel_rfl))⟩,
 t0 := Tryz.underlying0,
 a0 := Tryz.isAgg0,
 z0 := Tryz.sizeOf0,
 v0 := Tryz.zeroValue0,
 t24 := Tryz.underlying42,
 a24 := Tryz.isAgg42,
 z24 := Tryz.sizeOf42,
 v24 := Tryz.zeroValue42,
 t26 := ⟨_, Tryz.underlying56⟩,
 a26 := Tryz.isAgg56,
 z26 := Tryz.sizeOf56,
 v26 := Tryz.zeroValue56,
 t28 := Tryz.underlying121,
 a28 := Tryz.isAgg121,
 z28 := Tryz.sizeOf121,
 v28 := Tryz.zeroValue121,
 i26 := by kernel_rfl }
section
open Go.RowKit Go.Shelf Go.Maps Go.Sort Go.Proofs
/- the iterator of slices.Values of structures of two cells at this program -/
set_option maxRecDepth 100000 in
set_option maxHeartbeats 2000000 in
theorem acY (n l Bs : Nat) (hn : 1 ≤ n) (W0 : World) (b off len cap : Nat) (zs : List (Value × Value)) (hlen : zs.length = len) (hone : ∀ x ∈ zs, x.1.oneCell' = true ∧ x.2.oneCell' = true) (hreach : len * 48 ≤ 140737488351232) (hb : b < W0.heap.size) (J : List (Value × Value) → World → Prop)
 (hJ : ∀ s W1, J s W1 → Below W0.heap.size W0 W1) (hA : ∀ s W1 o, J s W1 → J s (W1.alloc o))
 (hY : ∀ pre x W1, J pre W1 → pre.length < zs.length → x ∈ zs → YieldAt Fence.wide (n - 1) Tryz.prog l #[acU x] W1 fun e W' => e = .returned (.bool true) ∧ J (pre ++ [x]) W' ∧ KeepsWalks W1 W')
 (W : World) (hBs : W.cell? ⟨Bs, 0, none⟩ = some (.slice (some ⟨b, off, none⟩) len cap)) (hc : ∀ j p, zs[j]? = some p → W0.cell? ⟨b, off + j * 2, none⟩ = some p.1 ∧ W0.cell? ⟨b, off + j * 2 + 1, none⟩ = some p.2) (h0 : J [] W) :
 CallsIn Fence.wide n Tryz.prog 134 #[.func (.yield l) #[] #[], .pointer (some ⟨Bs, 0, none⟩)] W fun e W' => (∃ v, e = .returned v) ∧ J zs W' := by
 have step : ∀ k x, zs[k]? = some x → zs.take k ++ [x] = zs.take (k + 1) := fun k x hk => by
  rw [List.take_add_one, hk]; rfl
 refine callsIn_of_wp Tryz.func134 rfl trivial ?_ rfl
 simp only [Tryz.ntmps134, List.size_toArray, List.length_cons, List.length_nil, Nat.reduceAdd, Nat.reduceSub, Array.replicate_succ, Array.replicate_zero, List.push_toArray, List.append_toArray, List.nil_append, List.cons_append]
 gi_wp2
 gi_loopw [7] (fun i wr => ∃ k : Nat, k ≤ len ∧ i = .int .i64 k ∧ J (zs.take k) wr)
  (fun i _ => len - (intOf i).toNat)
 case atStart => exact ⟨0, Nat.zero_le _, rfl, h0⟩
 case round =>
  obtain ⟨k, hk, rfl, hJs⟩ := hrel
  by_cases hlt : k < len
  · obtain ⟨x, hx⟩ : ∃ x, zs[k]? = some x := ⟨_, List.getElem?_eq_getElem (by omega)⟩
    have hcx0 : wr.cell? ⟨b, off + k * 2, none⟩ = some x.1 := ((hJ _ _ hJs).cell (p := ⟨b, off + k * 2, none⟩) hb).trans (hc k x hx).1
    have hcx1 : wr.cell? ⟨b, off + k * 2 + 1, none⟩ = some x.2 := ((hJ _ _ hJs).cell (p := ⟨b, off + k * 2 + 1, none⟩) hb).trans (hc k x hx).2
    have hm : x ∈ zs := List.mem_of_getElem? hx
    have st := step k x hx
    obtain ⟨hx1, hx2⟩ := hone x hm
    have hst := GI Tryz.prog wr x.1 x.2 (.slice none 0 0) (.slice none 0 0) 56 hx1 hx2
    have cA0 : (wr.alloc (.cells #[x.1, x.2] 56)).cell? ⟨wr.heap.size, 0, none⟩ = some x.1 := nf wr x.1 x.2 56 0 x.1 rfl
    have cA1 : (wr.alloc (.cells #[x.1, x.2] 56)).cell? ⟨wr.heap.size, 1, none⟩ = some x.2 := nf wr x.1 x.2 56 1 x.2 rfl
    obtain ⟨fn, tmps, assign, body, hy, hR⟩ := hY _ x _ (hA _ _ (.cells #[x.1, x.2] 56) hJs) (by rw [List.length_take]; omega) hm
    clear step hone hc
    gi_wp2
    refine hR.mono ?_
    rintro e W3 ⟨rfl, hJ3, -⟩
    gi_wp2
    go_roundw
    case rel => exact ⟨k + 1, by omega, by simp, by rw [← st]; exact hJ3⟩
    case measure => simp [intOf]; omega
  · obtain rfl : k = len := by omega
    gi_wp2
    go_end0
    exact ⟨⟨_, rfl⟩, by rw [← hlen, List.take_length] at hJs; exact hJs⟩
set_option maxRecDepth 100000 in
set_option maxHeartbeats 1000000 in
theorem acZ (n l Bs : Nat) (p : Option Addr) (cap : Nat) (J : List (Value × Value) → World → Prop) (W : World) (hBs : W.cell? ⟨Bs, 0, none⟩ = some (.slice p 0 cap)) (h0 : J [] W) :
 CallsIn Fence.wide n Tryz.prog 134 #[.func (.yield l) #[] #[], .pointer (some ⟨Bs, 0, none⟩)] W fun e W' => (∃ v, e = .returned v) ∧ J [] W' := by
 refine callsIn_of_wp Tryz.func134 rfl trivial ?_ rfl
 simp only [Tryz.ntmps134, List.size_toArray, List.length_cons, List.length_nil, Nat.reduceAdd, Nat.reduceSub, Array.replicate_succ, Array.replicate_zero, List.push_toArray, List.append_toArray, List.nil_append, List.cons_append]
 gi_wp2
 gi_loopw [7] (fun i wr => i = .int .i64 0 ∧ J [] wr) (fun _ _ => 0)
 case atStart => exact ⟨rfl, h0⟩
 case round =>
  obtain ⟨rfl, hJs⟩ := hrel
  gi_wp2
  go_end0
  exact ⟨⟨_, rfl⟩, hJs⟩
theorem Sk : PA Tryz.prog 134 := by
 intro n Bs sv zs w hn hone hreach hBs hcell hI l J W hW hJ hA hY h0
 have hc' := (hW.cell (p := ⟨Bs, 0, none⟩) hBs).trans hcell
 rcases hI with ⟨p, cap, rfl, rfl⟩ | ⟨b, off, cap, rfl, hb, hcs⟩
 · exact acZ n l Bs p cap J W hc' h0
 · exact acY n l Bs hn w b off zs.length cap zs rfl hone hreach hb J hJ hA hY W hc' hcs h0
end
theorem Sl : ∀ j, Names.ρ 300 = some j → w9 Tryz.prog j [3, N.av] := fun j hj => by
 have e : (Names.ρ 300 : Option Nat) = some 132 := by kernel_rfl
 rw [e] at hj; cases hj; exact GJ ahr (by kernel_rfl) (Go.Proofs.enters_of Tryz.func134 (by kernel_rfl) rfl) Sk
theorem Sm : ∀ x ∈ XN, ∀ j, Names.ρ x.1 = some j → w9 Tryz.prog j x.2 := by
 intro x hx
 simp only [XN, List.mem_cons, List.not_mem_nil, or_false] at hx
 rcases hx with rfl | rfl
 · exact Sj
 · exact Sl
end Go.Proofs.YtljlbkjecjloaaaGreat
