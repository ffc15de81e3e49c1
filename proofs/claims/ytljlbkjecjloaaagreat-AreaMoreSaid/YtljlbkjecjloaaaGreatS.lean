/- MADE BY PROGRAM (lib.py): the numbers that the functions have in this program, and the check of each one. -/
import Derived.Test.YtljlbkjecjloaaaGreatProg
import Derived.Test.YtljlbkjecjloaaaGreatZPPP
import Derived.KernelRfl
set_option linter.all false
set_option maxRecDepth 100000
namespace Go.Proofs.YtljlbkjecjloaaaGreat
open Go.Ev
def real : List (Option Nat) := [none, some 8, none, some 10, some 11, none, none, none, some 17, some 12, some 38, none, some 15, none, none, some 26, some 19, none, none, some 37, some 44, some 35, some 45, some 13, none, none, none, some 28, some 55, none, some 16, none, none, none, none, some 75, some 25, some 30, some 33, some 68, some 86, some 87, some 88, some 82, some 77, some 83, some 89, some 42, none, some 57, none, some 70, none, none, some 107, none, some 59, some 60, some 61, some 76, some 78, some 112, some 27, some 122, some 118, some 109, some 108, some 113, none, some 51, none, some 40, some 115, some 135, some 46, some 99, some 90, some 123, none, none, none, none, none, none, none, none, none, none, none, none, none, none, none, none, some 18, none, none, none, none, none, none, none, none, none, none, some 72, none, none, none, none, none, some 23, none, none, none, none, none, none, some 58, none, none, none, none, none, none, none, none, none, none, none, none, none, none, none, none, none, none, none, none, none, none, none, none, none, none, some 101, none, none, some 131, none, none, none, none, none, none, none, none, none, none, none, some 41, none, none, none, none, none, none, some 39, none, none, some 85, none, none, some 84, none, none, some 121, some 119, none, none, none, none, none, none, none, none, none, none, none, some 106, some 97, none, none, none, some 102, none, none, none, none, some 129, some 130, some 128, some 94, none, some 100, none, none, none, some 143, some 144, some 142, some 71, some 114, some 136, some 137, none, none, none, none, none, none, none, none, none, none, none, none, none, none, none, none, none, none, none, none, none, none, none, none, none, none, none, none, none, none, none, none, none, none, none, none, none, none, none, none, none, none, some 47, none, none, some 91, some 92, some 93, some 95, some 49, some 96, none, some 126, some 127, some 98, some 141, none, none, none, none, none, none, none, none, none, none, none, none, none, none, none, none, none, none, some 52, some 54, none, none, none, none, none, none, some 103, some 104, some 105, some 132, some 133, some 134, some 146, some 158, some 159, some 165, some 167, some 52, none, none, some 5, none, none, some 9, some 14, some 21, none, some 31, some 32, none, some 36, some 43, some 48, some 50, some 53, none, none, none, some 69, some 73, some 74, none, none]
def tab : List (Option Go.Ev.Fn) := [none, some K.gM, none, some K.i6, some K.cj, none, none, none, some K.bT, some K.aA, some K.dg, none, some K.gG, none, none, some K.cq, some K.bW, none, none, some K.cX, some K.bk, some K.fV, some K.dz, some K.jt, none, none, none, some K.cL, some K.du, none, some K.i7, none, none, none, none, some K.dT, some K.dE, some K.dF, some K.cD, some K.bw, some K.gN, some K.dG, some K.gO, some K.dH, some K.cF, some K.gH, some K.cG, some K.dI, none, some K.aF, none, some K.aS, none, none, some K.fW, none, some K.dh, some K.eW, some K.dJ, some K.fX, some K.eo, some K.cK, some K.bX, some K.fY, some K.b9, some K.et, some K.bh, some K.bD, none, some K.av, none, some K.eI, some K.dK, some K.cY, some K.fZ, some K.aC, some K.bQ, some K.gP, none, none, none, none, none, none, none, none, none, none, none, none, none, none, none, none, some K.jb, none, none, none, none, none, none, none, none, none, none, some K.dW, none, none, none, none, none, some K.iL, none, none, none, none, none, none, some K.gq, none, none, none, none, none, none, none, none, none, none, none, none, none, none, none, none, none, none, none, none, none, none, none, none, none, none, some K.cM, none, none, some K.bG, none, none, none, none, none, none, none, none, none, none, none, some K.bc, none, none, none, none, none, none, some K.dL, none, none, some K.dw, none, none, some K.gT, none, none, some K.cN, some K.eY, none, none, none, none, none, none, none, none, none, none, none, some K.eZ, some K.dX, none, none, none, some K.dj, none, none, none, none, some K.bY, some K.dM, some K.cy, some K.aX, none, some K.aU, some K.bU, none, none, some K.cP, some K.bf, some K.bH, some K.gJ, some K.jc, some K.dY, some K.gU, none, none, none, none, none, none, none, none, none, none, none, none, none, none, none, none, none, none, none, none, none, none, none, none, none, none, none, none, none, none, none, none, none, none, none, none, none, none, none, none, none, none, some K.eC, none, none, some K.bP, some K.bg, some K.eQ, some K.aP, some K.aa, some K.cU, none, some K.aM, some K.bV, some K.au, some K.cmp_isNaN_int, none, none, none, none, none, none, none, none, none, none, none, none, none, none, none, none, none, none, some K.jy, some K.fO, none, none, none, none, none, none, some K.aH, some K.aI, some K.a8, some K.bq, some K.az, some K.ak, some K.aN, some K.ax, some K.aD, some K.a7, some K.aJ, some K.cQ, none, none, some K.dq, none, none, some K.fP, some K.qS, some K.dZ, none, some K.iD, some K.fe, none, some K.kZ, some K.lf, some K.eD, some K.cz, some K.jd, none, none, none, some K.fH, some K.aE, some K.aK, none, none]
instance names : Names := ⟨fun f => (real[f]?).join⟩
instance lib : Lib := ⟨fun f => (tab[f]?).join⟩
instance has1 : cm := ⟨rfl, rfl, rfl, rfl, rfl, rfl, rfl, rfl, rfl, rfl, rfl, rfl, rfl, rfl, rfl, rfl, rfl, rfl, rfl⟩
instance has2 : bS := ⟨rfl, rfl, rfl, rfl, rfl, rfl, rfl, rfl, rfl, rfl, rfl, rfl, rfl, rfl, rfl, rfl, rfl, rfl, rfl, rfl, rfl, rfl, rfl, rfl, rfl, rfl, rfl, rfl, rfl, rfl, rfl, rfl, rfl, rfl⟩
instance has3 : iv := ⟨rfl⟩
instance has4 : ir := ⟨rfl, rfl, rfl⟩
instance has5 : lr := ⟨rfl, rfl⟩
instance has6 : gE := ⟨rfl, rfl, rfl⟩
instance has7 : gF := ⟨rfl, rfl, rfl⟩
instance has8 : jV := ⟨rfl, rfl⟩
instance has9 : iu := ⟨rfl, rfl, rfl, rfl, rfl, rfl, rfl, rfl, rfl, rfl, rfl, rfl, rfl, rfl⟩
instance has10 : gA := ⟨⟩
instance has11 : fw := ⟨rfl, rfl, rfl, rfl, rfl, rfl, rfl, rfl, rfl, rfl, rfl⟩
instance has12 : oK := ⟨⟩
instance has13 : iQ := ⟨rfl, rfl, rfl, rfl, rfl, rfl, rfl, rfl, rfl, rfl, rfl, rfl, rfl, rfl⟩
instance has14 : m0 := ⟨rfl, rfl, rfl, rfl, rfl, rfl, rfl, rfl, rfl, rfl, rfl⟩
instance has15 : uv := ⟨rfl, rfl, rfl⟩
theorem C0 : aZ Tryz.prog Tryz.f8 K.gM = true := by kernel_rfl
theorem EG : aZ Tryz.prog Tryz.f10 K.i6 = true := by kernel_rfl
theorem wO : aZ Tryz.prog Tryz.f11 K.cj = true := by kernel_rfl
theorem uI : aZ Tryz.prog Tryz.f17 K.bT = true := by kernel_rfl
theorem wP : aZ Tryz.prog Tryz.f12 K.aA = true := by kernel_rfl
theorem y4 : aZ Tryz.prog Tryz.f38 K.dg = true := by kernel_rfl
theorem EH : aZ Tryz.prog Tryz.f15 K.gG = true := by kernel_rfl
theorem yJ : aZ Tryz.prog Tryz.f26 K.cq = true := by kernel_rfl
theorem wQ : aZ Tryz.prog Tryz.f19 K.bW = true := by kernel_rfl
theorem A8 : aZ Tryz.prog Tryz.f37 K.cX = true := by kernel_rfl
theorem wR : aZ Tryz.prog Tryz.f44 K.bk = true := by kernel_rfl
theorem EI : aZ Tryz.prog Tryz.f35 K.fV = true := by kernel_rfl
theorem y5 : aZ Tryz.prog Tryz.f45 K.dz = true := by kernel_rfl
theorem HH : aZ Tryz.prog Tryz.f13 K.jt = true := by kernel_rfl
theorem wS : aZ Tryz.prog Tryz.f28 K.cL = true := by kernel_rfl
theorem A9 : aZ Tryz.prog Tryz.f55 K.du = true := by kernel_rfl
theorem EJ : aZ Tryz.prog Tryz.f16 K.i7 = true := by kernel_rfl
theorem y6 : aZ Tryz.prog Tryz.f75 K.dT = true := by kernel_rfl
theorem Ba : aZ Tryz.prog Tryz.f25 K.dE = true := by kernel_rfl
theorem C1 : aZ Tryz.prog Tryz.f30 K.dF = true := by kernel_rfl
theorem Bb : aZ Tryz.prog Tryz.f33 K.cD = true := by kernel_rfl
theorem vt : aZ Tryz.prog Tryz.f68 K.bw = true := by kernel_rfl
theorem C2 : aZ Tryz.prog Tryz.f86 K.gN = true := by kernel_rfl
theorem Bc : aZ Tryz.prog Tryz.f87 K.dG = true := by kernel_rfl
theorem C3 : aZ Tryz.prog Tryz.f88 K.gO = true := by kernel_rfl
theorem Bd : aZ Tryz.prog Tryz.f82 K.dH = true := by kernel_rfl
theorem y7 : aZ Tryz.prog Tryz.f77 K.cF = true := by kernel_rfl
theorem EK : aZ Tryz.prog Tryz.f83 K.gH = true := by kernel_rfl
theorem y8 : aZ Tryz.prog Tryz.f89 K.cG = true := by kernel_rfl
theorem Be : aZ Tryz.prog Tryz.f42 K.dI = true := by kernel_rfl
theorem lL : aZ Tryz.prog Tryz.f57 K.aF = true := by kernel_rfl
theorem oc : aZ Tryz.prog Tryz.f70 K.aS = true := by kernel_rfl
theorem C4 : aZ Tryz.prog Tryz.f107 K.fW = true := by kernel_rfl
theorem y9 : aZ Tryz.prog Tryz.f59 K.dh = true := by kernel_rfl
theorem Bf : aZ Tryz.prog Tryz.f60 K.eW = true := by kernel_rfl
theorem Bg : aZ Tryz.prog Tryz.f61 K.dJ = true := by kernel_rfl
theorem C5 : aZ Tryz.prog Tryz.f76 K.fX = true := by kernel_rfl
theorem Bh : aZ Tryz.prog Tryz.f78 K.eo = true := by kernel_rfl
theorem C6 : aZ Tryz.prog Tryz.f112 K.cK = true := by kernel_rfl
theorem wT : aZ Tryz.prog Tryz.f27 K.bX = true := by kernel_rfl
theorem C7 : aZ Tryz.prog Tryz.f122 K.fY = true := by kernel_rfl
theorem Bi : aZ Tryz.prog Tryz.f118 K.b9 = true := by kernel_rfl
theorem Bj : aZ Tryz.prog Tryz.f109 K.et = true := by kernel_rfl
theorem m7 : aZ Tryz.prog Tryz.f108 K.bh = true := by kernel_rfl
theorem qj : aZ Tryz.prog Tryz.f113 K.bD = true := by kernel_rfl
theorem gZ : aZ Tryz.prog Tryz.f51 K.av = true := by kernel_rfl
theorem HI : aZ Tryz.prog Tryz.f40 K.eI = true := by kernel_rfl
theorem Bk : aZ Tryz.prog Tryz.f115 K.dK = true := by kernel_rfl
theorem Bl : aZ Tryz.prog Tryz.f135 K.cY = true := by kernel_rfl
theorem C8 : aZ Tryz.prog Tryz.f46 K.fZ = true := by kernel_rfl
theorem iS : aZ Tryz.prog Tryz.f99 K.aC = true := by kernel_rfl
theorem za : aZ Tryz.prog Tryz.f90 K.bQ = true := by kernel_rfl
theorem C9 : aZ Tryz.prog Tryz.f123 K.gP = true := by kernel_rfl
theorem EL : aZ Tryz.prog Tryz.f18 K.jb = true := by kernel_rfl
theorem zb : aZ Tryz.prog Tryz.f72 K.dW = true := by kernel_rfl
theorem Da : aZ Tryz.prog Tryz.f23 K.iL = true := by kernel_rfl
theorem zc : aZ Tryz.prog Tryz.f58 K.gq = true := by kernel_rfl
theorem vu : aZ Tryz.prog Tryz.f101 K.cM = true := by kernel_rfl
theorem s8 : aZ Tryz.prog Tryz.f131 K.bG = true := by kernel_rfl
theorem p9 : aZ Tryz.prog Tryz.f41 K.bc = true := by kernel_rfl
theorem Db : aZ Tryz.prog Tryz.f39 K.dL = true := by kernel_rfl
theorem yK : aZ Tryz.prog Tryz.f85 K.dw = true := by kernel_rfl
theorem Dc : aZ Tryz.prog Tryz.f84 K.gT = true := by kernel_rfl
theorem vv : aZ Tryz.prog Tryz.f121 K.cN = true := by kernel_rfl
theorem Bm : aZ Tryz.prog Tryz.f119 K.eY = true := by kernel_rfl
theorem Bn : aZ Tryz.prog Tryz.f106 K.eZ = true := by kernel_rfl
theorem zd : aZ Tryz.prog Tryz.f97 K.dX = true := by kernel_rfl
theorem ze : aZ Tryz.prog Tryz.f102 K.dj = true := by kernel_rfl
theorem wU : aZ Tryz.prog Tryz.f129 K.bY = true := by kernel_rfl
theorem Dd : aZ Tryz.prog Tryz.f130 K.dM = true := by kernel_rfl
theorem yL : aZ Tryz.prog Tryz.f128 K.cy = true := by kernel_rfl
theorem qk : aZ Tryz.prog Tryz.f94 K.aX = true := by kernel_rfl
theorem ql : aZ Tryz.prog Tryz.f100 K.aU = true := by kernel_rfl
theorem vw : aZ Tryz.prog Tryz.f143 K.cP = true := by kernel_rfl
theorem uJ : aZ Tryz.prog Tryz.f144 K.bf = true := by kernel_rfl
theorem vA : aZ Tryz.prog Tryz.f142 K.bH = true := by kernel_rfl
theorem EM : aZ Tryz.prog Tryz.f71 K.gJ = true := by kernel_rfl
theorem EN : aZ Tryz.prog Tryz.f114 K.jc = true := by kernel_rfl
theorem EO : aZ Tryz.prog Tryz.f136 K.dY = true := by kernel_rfl
theorem De : aZ Tryz.prog Tryz.f137 K.gU = true := by kernel_rfl
theorem Bo : aZ Tryz.prog Tryz.f47 K.eC = true := by kernel_rfl
theorem s9 : aZ Tryz.prog Tryz.f91 K.bP = true := by kernel_rfl
theorem qa : aZ Tryz.prog Tryz.f92 K.bg = true := by kernel_rfl
theorem zf : aZ Tryz.prog Tryz.f93 K.eQ = true := by kernel_rfl
theorem oO : aZ Tryz.prog Tryz.f95 K.aP = true := by kernel_rfl
theorem eJ : aZ Tryz.prog Tryz.f49 K.aa = true := by kernel_rfl
theorem yM : aZ Tryz.prog Tryz.f96 K.cU = true := by kernel_rfl
theorem od : aZ Tryz.prog Tryz.f126 K.aM = true := by kernel_rfl
theorem vB : aZ Tryz.prog Tryz.f127 K.bV = true := by kernel_rfl
theorem fg : aZ Tryz.prog Tryz.f98 K.au = true := by kernel_rfl
theorem yN : aZ Tryz.prog Tryz.f141 K.cmp_isNaN_int = true := by kernel_rfl
theorem Bp : aZ Tryz.prog Tryz.f52 K.jy = true := by kernel_rfl
theorem Bq : aZ Tryz.prog Tryz.f54 K.fO = true := by kernel_rfl
theorem jG : aZ Tryz.prog Tryz.f103 K.aH = true := by kernel_rfl
theorem jH : aZ Tryz.prog Tryz.f104 K.aI = true := by kernel_rfl
theorem yO : aZ Tryz.prog Tryz.f105 K.a8 = true := by kernel_rfl
theorem m8 : aZ Tryz.prog Tryz.f132 K.bq = true := by kernel_rfl
theorem gD : aZ Tryz.prog Tryz.f133 K.az = true := by kernel_rfl
theorem iX : aZ Tryz.prog Tryz.f134 K.ak = true := by kernel_rfl
theorem kt : aZ Tryz.prog Tryz.f146 K.aN = true := by kernel_rfl
theorem iF : aZ Tryz.prog Tryz.f158 K.ax = true := by kernel_rfl
theorem jT : aZ Tryz.prog Tryz.f159 K.aD = true := by kernel_rfl
theorem ku : aZ Tryz.prog Tryz.f165 K.a7 = true := by kernel_rfl
theorem jI : aZ Tryz.prog Tryz.f167 K.aJ = true := by kernel_rfl
theorem wV : aZ Tryz.prog Tryz.f52 K.cQ = true := by kernel_rfl
theorem wW : aZ Tryz.prog Tryz.f5 K.dq = true := by kernel_rfl
theorem Br : aZ Tryz.prog Tryz.f9 K.fP = true := by kernel_rfl
theorem KH : aZ Tryz.prog Tryz.f14 K.qS = true := by kernel_rfl
theorem EP : aZ Tryz.prog Tryz.f21 K.dZ = true := by kernel_rfl
theorem Bt : aZ Tryz.prog Tryz.f31 K.iD = true := by kernel_rfl
theorem Bu : aZ Tryz.prog Tryz.f32 K.fe = true := by kernel_rfl
theorem ER : aZ Tryz.prog Tryz.f36 K.kZ = true := by kernel_rfl
theorem ES : aZ Tryz.prog Tryz.f43 K.lf = true := by kernel_rfl
theorem Bv : aZ Tryz.prog Tryz.f48 K.eD = true := by kernel_rfl
theorem yP : aZ Tryz.prog Tryz.f50 K.cz = true := by kernel_rfl
theorem ET : aZ Tryz.prog Tryz.f53 K.jd = true := by kernel_rfl
theorem yQ : aZ Tryz.prog Tryz.f69 K.fH = true := by kernel_rfl
theorem jU : aZ Tryz.prog Tryz.f73 K.aE = true := by kernel_rfl
theorem kv : aZ Tryz.prog Tryz.f74 K.aK = true := by kernel_rfl
theorem Xu : DF Tryz.prog real tab :=
 ⟨trivial, ⟨⟨by kernel_rfl, aj Tryz.func8 C0⟩, ⟨trivial, ⟨⟨by kernel_rfl, aj Tryz.func10 EG⟩, ⟨⟨by kernel_rfl, aj Tryz.func11 wO⟩, ⟨trivial, ⟨trivial, ⟨trivial, ⟨⟨by kernel_rfl, aj Tryz.func17 uI⟩, ⟨⟨by kernel_rfl, aj Tryz.func12 wP⟩, ⟨⟨by kernel_rfl, aj Tryz.func38 y4⟩, ⟨trivial, ⟨⟨by kernel_rfl, aj Tryz.func15 EH⟩, ⟨trivial, ⟨trivial, ⟨⟨by kernel_rfl, aj Tryz.func26 yJ⟩, ⟨⟨by kernel_rfl, aj Tryz.func19 wQ⟩, ⟨trivial, ⟨trivial, ⟨⟨by kernel_rfl, aj Tryz.func37 A8⟩, ⟨⟨by kernel_rfl, aj Tryz.func44 wR⟩, ⟨⟨by kernel_rfl, aj Tryz.func35 EI⟩, ⟨⟨by kernel_rfl, aj Tryz.func45 y5⟩, ⟨⟨by kernel_rfl, aj Tryz.func13 HH⟩, ⟨trivial, ⟨trivial, ⟨trivial, ⟨⟨by kernel_rfl, aj Tryz.func28 wS⟩, ⟨⟨by kernel_rfl, aj Tryz.func55 A9⟩, ⟨trivial, ⟨⟨by kernel_rfl, aj Tryz.func16 EJ⟩, ⟨trivial, ⟨trivial, ⟨trivial, ⟨trivial, ⟨⟨by kernel_rfl, aj Tryz.func75 y6⟩, ⟨⟨by kernel_rfl, aj Tryz.func25 Ba⟩, ⟨⟨by kernel_rfl, aj Tryz.func30 C1⟩, ⟨⟨by kernel_rfl, aj Tryz.func33 Bb⟩, ⟨⟨by kernel_rfl, aj Tryz.func68 vt⟩, ⟨⟨by kernel_rfl, aj Tryz.func86 C2⟩, ⟨⟨by kernel_rfl, aj Tryz.func87 Bc⟩, ⟨⟨by kernel_rfl, aj Tryz.func88 C3⟩, ⟨⟨by kernel_rfl, aj Tryz.func82 Bd⟩, ⟨⟨by kernel_rfl, aj Tryz.func77 y7⟩, ⟨⟨by kernel_rfl, aj Tryz.func83 EK⟩, ⟨⟨by kernel_rfl, aj Tryz.func89 y8⟩, ⟨⟨by kernel_rfl, aj Tryz.func42 Be⟩, ⟨trivial, ⟨⟨by kernel_rfl, aj Tryz.func57 lL⟩, ⟨trivial, ⟨⟨by kernel_rfl, aj Tryz.func70 oc⟩, ⟨trivial, ⟨trivial, ⟨⟨by kernel_rfl, aj Tryz.func107 C4⟩, ⟨trivial, ⟨⟨by kernel_rfl, aj Tryz.func59 y9⟩, ⟨⟨by kernel_rfl, aj Tryz.func60 Bf⟩, ⟨⟨by kernel_rfl, aj Tryz.func61 Bg⟩, ⟨⟨by kernel_rfl, aj Tryz.func76 C5⟩, ⟨⟨by kernel_rfl, aj Tryz.func78 Bh⟩, ⟨⟨by kernel_rfl, aj Tryz.func112 C6⟩, ⟨⟨by kernel_rfl, aj Tryz.func27 wT⟩, ⟨⟨by kernel_rfl, aj Tryz.func122 C7⟩, ⟨⟨by kernel_rfl, aj Tryz.func118 Bi⟩, ⟨⟨by kernel_rfl, aj Tryz.func109 Bj⟩, ⟨⟨by kernel_rfl, aj Tryz.func108 m7⟩, ⟨⟨by kernel_rfl, aj Tryz.func113 qj⟩, ⟨trivial, ⟨⟨by kernel_rfl, aj Tryz.func51 gZ⟩, ⟨trivial, ⟨⟨by kernel_rfl, aj Tryz.func40 HI⟩, ⟨⟨by kernel_rfl, aj Tryz.func115 Bk⟩, ⟨⟨by kernel_rfl, aj Tryz.func135 Bl⟩, ⟨⟨by kernel_rfl, aj Tryz.func46 C8⟩, ⟨⟨by kernel_rfl, aj Tryz.func99 iS⟩, ⟨⟨by kernel_rfl, aj Tryz.func90 za⟩, ⟨⟨by kernel_rfl, aj Tryz.func123 C9⟩, ⟨trivial, ⟨trivial, ⟨trivial, ⟨trivial, ⟨trivial, ⟨trivial, ⟨trivial, ⟨trivial, ⟨trivial, ⟨trivial, ⟨trivial, ⟨trivial, ⟨trivial, ⟨trivial, ⟨trivial, ⟨trivial, ⟨⟨by kernel_rfl, aj Tryz.func18 EL⟩, ⟨trivial, ⟨trivial, ⟨trivial, ⟨trivial, ⟨trivial, ⟨trivial, ⟨trivial, ⟨trivial, ⟨trivial, ⟨trivial, ⟨⟨by kernel_rfl, aj Tryz.func72 zb⟩, ⟨trivial, ⟨trivial, ⟨trivial, ⟨trivial, ⟨trivial, ⟨⟨by kernel_rfl, aj Tryz.func23 Da⟩, ⟨trivial, ⟨trivial, ⟨trivial, ⟨trivial, ⟨trivial, ⟨trivial, ⟨⟨by kernel_rfl, aj Tryz.func58 zc⟩, ⟨trivial, ⟨trivial, ⟨trivial, ⟨trivial, ⟨trivial, ⟨trivial, ⟨trivial, ⟨trivial, ⟨trivial, ⟨trivial, ⟨trivial, ⟨trivial, ⟨trivial, ⟨trivial, ⟨trivial, ⟨trivial, ⟨trivial, ⟨trivial, ⟨trivial, ⟨trivial, ⟨trivial, ⟨trivial, ⟨trivial, ⟨trivial, ⟨trivial, ⟨trivial, ⟨⟨by kernel_rfl, aj Tryz.func101 vu⟩, ⟨trivial, ⟨trivial, ⟨⟨by kernel_rfl, aj Tryz.func131 s8⟩, ⟨trivial, ⟨trivial, ⟨trivial, ⟨trivial, ⟨trivial, ⟨trivial, ⟨trivial, ⟨trivial, ⟨trivial, ⟨trivial, ⟨trivial, ⟨⟨by kernel_rfl, aj Tryz.func41 p9⟩, ⟨trivial, ⟨trivial, ⟨trivial, ⟨trivial, ⟨trivial, ⟨trivial, ⟨⟨by kernel_rfl, aj Tryz.func39 Db⟩, ⟨trivial, ⟨trivial, ⟨⟨by kernel_rfl, aj Tryz.func85 yK⟩, ⟨trivial, ⟨trivial, ⟨⟨by kernel_rfl, aj Tryz.func84 Dc⟩, ⟨trivial, ⟨trivial, ⟨⟨by kernel_rfl, aj Tryz.func121 vv⟩, ⟨⟨by kernel_rfl, aj Tryz.func119 Bm⟩, ⟨trivial, ⟨trivial, ⟨trivial, ⟨trivial, ⟨trivial, ⟨trivial, ⟨trivial, ⟨trivial, ⟨trivial, ⟨trivial, ⟨trivial, ⟨⟨by kernel_rfl, aj Tryz.func106 Bn⟩, ⟨⟨by kernel_rfl, aj Tryz.func97 zd⟩, ⟨trivial, ⟨trivial, ⟨trivial, ⟨⟨by kernel_rfl, aj Tryz.func102 ze⟩, ⟨trivial, ⟨trivial, ⟨trivial, ⟨trivial, ⟨⟨by kernel_rfl, aj Tryz.func129 wU⟩, ⟨⟨by kernel_rfl, aj Tryz.func130 Dd⟩, ⟨⟨by kernel_rfl, aj Tryz.func128 yL⟩, ⟨⟨by kernel_rfl, aj Tryz.func94 qk⟩, ⟨trivial, ⟨⟨by kernel_rfl, aj Tryz.func100 ql⟩, ⟨trivial, ⟨trivial, ⟨trivial, ⟨⟨by kernel_rfl, aj Tryz.func143 vw⟩, ⟨⟨by kernel_rfl, aj Tryz.func144 uJ⟩, ⟨⟨by kernel_rfl, aj Tryz.func142 vA⟩, ⟨⟨by kernel_rfl, aj Tryz.func71 EM⟩, ⟨⟨by kernel_rfl, aj Tryz.func114 EN⟩, ⟨⟨by kernel_rfl, aj Tryz.func136 EO⟩, ⟨⟨by kernel_rfl, aj Tryz.func137 De⟩, ⟨trivial, ⟨trivial, ⟨trivial, ⟨trivial, ⟨trivial, ⟨trivial, ⟨trivial, ⟨trivial, ⟨trivial, ⟨trivial, ⟨trivial, ⟨trivial, ⟨trivial, ⟨trivial, ⟨trivial, ⟨trivial, ⟨trivial, ⟨trivial, ⟨trivial, ⟨trivial, ⟨trivial, ⟨trivial, ⟨trivial, ⟨trivial, ⟨trivial, ⟨trivial, ⟨trivial, ⟨trivial, ⟨trivial, ⟨trivial, ⟨trivial, ⟨trivial, ⟨trivial, ⟨trivial, ⟨trivial, ⟨trivial, ⟨trivial, ⟨trivial, ⟨trivial, ⟨trivial, ⟨trivial, ⟨trivial, ⟨⟨by kernel_rfl, aj Tryz.func47 Bo⟩, ⟨trivial, ⟨trivial, ⟨⟨by kernel_rfl, aj Tryz.func91 s9⟩, ⟨⟨by kernel_rfl, aj Tryz.func92 qa⟩, ⟨⟨by kernel_rfl, aj Tryz.func93 zf⟩, ⟨⟨by kernel_rfl, aj Tryz.func95 oO⟩, ⟨⟨by kernel_rfl, aj Tryz.func49 eJ⟩, ⟨⟨by kernel_rfl, aj Tryz.func96 yM⟩, ⟨trivial, ⟨⟨by kernel_rfl, aj Tryz.func126 od⟩, ⟨⟨by kernel_rfl, aj Tryz.func127 vB⟩, ⟨⟨by kernel_rfl, aj Tryz.func98 fg⟩, ⟨⟨by kernel_rfl, aj Tryz.func141 yN⟩, ⟨trivial, ⟨trivial, ⟨trivial, ⟨trivial, ⟨trivial, ⟨trivial, ⟨trivial, ⟨trivial, ⟨trivial, ⟨trivial, ⟨trivial, ⟨trivial, ⟨trivial, ⟨trivial, ⟨trivial, ⟨trivial, ⟨trivial, ⟨trivial, ⟨⟨by kernel_rfl, aj Tryz.func52 Bp⟩, ⟨⟨by kernel_rfl, aj Tryz.func54 Bq⟩, ⟨trivial, ⟨trivial, ⟨trivial, ⟨trivial, ⟨trivial, ⟨trivial, ⟨⟨by kernel_rfl, aj Tryz.func103 jG⟩, ⟨⟨by kernel_rfl, aj Tryz.func104 jH⟩, ⟨⟨by kernel_rfl, aj Tryz.func105 yO⟩, ⟨⟨by kernel_rfl, aj Tryz.func132 m8⟩, ⟨⟨by kernel_rfl, aj Tryz.func133 gD⟩, ⟨⟨by kernel_rfl, aj Tryz.func134 iX⟩, ⟨⟨by kernel_rfl, aj Tryz.func146 kt⟩, ⟨⟨by kernel_rfl, aj Tryz.func158 iF⟩, ⟨⟨by kernel_rfl, aj Tryz.func159 jT⟩, ⟨⟨by kernel_rfl, aj Tryz.func165 ku⟩, ⟨⟨by kernel_rfl, aj Tryz.func167 jI⟩, ⟨⟨by kernel_rfl, aj Tryz.func52 wV⟩, ⟨trivial, ⟨trivial, ⟨⟨by kernel_rfl, aj Tryz.func5 wW⟩, ⟨trivial, ⟨trivial, ⟨⟨by kernel_rfl, aj Tryz.func9 Br⟩, ⟨⟨by kernel_rfl, aj Tryz.func14 KH⟩, ⟨⟨by kernel_rfl, aj Tryz.func21 EP⟩, ⟨trivial, ⟨⟨by kernel_rfl, aj Tryz.func31 Bt⟩, ⟨⟨by kernel_rfl, aj Tryz.func32 Bu⟩, ⟨trivial, ⟨⟨by kernel_rfl, aj Tryz.func36 ER⟩, ⟨⟨by kernel_rfl, aj Tryz.func43 ES⟩, ⟨⟨by kernel_rfl, aj Tryz.func48 Bv⟩, ⟨⟨by kernel_rfl, aj Tryz.func50 yP⟩, ⟨⟨by kernel_rfl, aj Tryz.func53 ET⟩, ⟨trivial, ⟨trivial, ⟨trivial, ⟨⟨by kernel_rfl, aj Tryz.func69 yQ⟩, ⟨⟨by kernel_rfl, aj Tryz.func73 jU⟩, ⟨⟨by kernel_rfl, aj Tryz.func74 kv⟩, ⟨trivial, ⟨trivial, trivial⟩⟩⟩⟩⟩⟩⟩⟩⟩⟩⟩⟩⟩⟩⟩⟩⟩⟩⟩⟩⟩⟩⟩⟩⟩⟩⟩⟩⟩⟩⟩⟩⟩⟩⟩⟩⟩⟩⟩⟩⟩⟩⟩⟩⟩⟩⟩⟩⟩⟩⟩⟩⟩⟩⟩⟩⟩⟩⟩⟩⟩⟩⟩⟩⟩⟩⟩⟩⟩⟩⟩⟩⟩⟩⟩⟩⟩⟩⟩⟩⟩⟩⟩⟩⟩⟩⟩⟩⟩⟩⟩⟩⟩⟩⟩⟩⟩⟩⟩⟩⟩⟩⟩⟩⟩⟩⟩⟩⟩⟩⟩⟩⟩⟩⟩⟩⟩⟩⟩⟩⟩⟩⟩⟩⟩⟩⟩⟩⟩⟩⟩⟩⟩⟩⟩⟩⟩⟩⟩⟩⟩⟩⟩⟩⟩⟩⟩⟩⟩⟩⟩⟩⟩⟩⟩⟩⟩⟩⟩⟩⟩⟩⟩⟩⟩⟩⟩⟩⟩⟩⟩⟩⟩⟩⟩⟩⟩⟩⟩⟩⟩⟩⟩⟩⟩⟩⟩⟩⟩⟩⟩⟩⟩⟩⟩⟩⟩⟩⟩⟩⟩⟩⟩⟩⟩⟩⟩⟩⟩⟩⟩⟩⟩⟩⟩⟩⟩⟩⟩⟩⟩⟩⟩⟩⟩⟩⟩⟩⟩⟩⟩⟩⟩⟩⟩⟩⟩⟩⟩⟩⟩⟩⟩⟩⟩⟩⟩⟩⟩⟩⟩⟩⟩⟩⟩⟩⟩⟩⟩⟩⟩⟩⟩⟩⟩⟩⟩⟩⟩⟩⟩⟩⟩⟩⟩⟩⟩⟩⟩⟩⟩⟩⟩⟩⟩⟩⟩⟩⟩⟩⟩⟩⟩⟩⟩⟩⟩⟩⟩⟩⟩⟩⟩⟩⟩⟩⟩⟩⟩⟩⟩⟩⟩⟩⟩⟩⟩⟩⟩⟩⟩⟩⟩⟩⟩⟩⟩⟩⟩⟩⟩⟩⟩⟩
def R6 : List (Nat × List Nat) := [(260, [2, N.aM]), (300, [3, N.ak])]
def Df : Go.Shelf.Ren := ⟨fun | 189 => 125 | 125 => 140 | 257 => 139 | 128 => 156 | 129 => 157 | 294 => 147 | 295 => 148 | 296 => 149 | 297 => 150 | 298 => 151 | 299 => 152 | 216 => 153 | 300 => 154 | 301 => 155 | 328 => 160 | 329 => 161 | 330 => 162 | 331 => 163 | 332 => 164 | 215 => 141 | 343 => 166 | n => n, fun | 28 => 22 | 3 => 3 | 46 => 104 | 0 => 0 | 51 => 133 | 53 => 136 | 4 => 4 | 183 => 159 | 182 => 158 | 131 => 163 | 5 => 5 | 9 => 9 | 218 => 170 | 222 => 174 | 228 => 176 | 229 => 139 | n => n, fun | n => n⟩
theorem M8 : Go.Proofs.Lays.n189 Tryz.prog Df := {
 mixed := by kernel_rfl,
 f125 := Tryz.func140.trans (congrArg some (by kernel_rfl)),
 f128 := Tryz.func156.trans (congrArg some (by kernel_rfl)),
 f129 := Tryz.func157.trans (congrArg some (by kernel_rfl)),
 f189 := Tryz.func125.trans (congrArg some (by kernel_rfl)),
 f215 := Tryz.func141.trans (congrArg some (by kernel_rfl)),
 f216 := Tryz.func153.trans (congrArg some (by kernel_rfl)),
 f257 := Tryz.func139.trans (congrArg some (by kernel_rfl)),
 f294 := Tryz.func147.trans (congrArg some (by kernel_rfl)),
 f295 := Tryz.func148.trans (congrArg some (by kernel_rfl)),
 f296 := Tryz.func149.trans (congrArg some (by kernel_rfl)),
 f297 := Tryz.func150.trans (congrArg some (by kernel_rfl)),
 f298 := Tryz.func151.trans (congrArg some (by kernel_rfl)),
 f299 := Tryz.func152.trans (congrArg some (by kernel_rfl)),
 f300 := Tryz.func154.trans (congrArg some (by kernel_rfl)),
 f301 := Tryz.func155.trans (congrArg some (by kernel_rfl)),
 f328 := Tryz.func160.trans (congrArg some (by kernel_rfl)),
 f329 := Tryz.func161.trans (congrArg some (by kernel_rfl)),
 f330 := Tryz.func162.trans (congrArg some (by kernel_rfl)),
 f331 := Tryz.func163.trans (congrArg some (by kernel_rfl)),
 f332 := Tryz.func164.trans (congrArg some (by kernel_rfl)),
 f343 := Tryz.func166.trans (congrArg some (by kernel_rfl)),
 t0 := Tryz.underlying0,
 a0 := Tryz.isAgg0,
 z0 := Tryz.sizeOf0,
 v0 := Tryz.zeroValue0,
 t3 := Tryz.underlying3,
 a3 := Tryz.isAgg3,
 z3 := Tryz.sizeOf3,
 v3 := Tryz.zeroValue3,
 t4 := Tryz.underlying4,
 a4 := Tryz.isAgg4,
 z4 := Tryz.sizeOf4,
 v4 := Tryz.zeroValue4,
 t5 := Tryz.underlying5,
 a5 := Tryz.isAgg5,
 z5 := Tryz.sizeOf5,
 v5 := Tryz.zeroValue5,
 t9 := Tryz.underlying9,
 a9 := Tryz.isAgg9,
 z9 := Tryz.sizeOf9,
 v9 := Tryz.zeroValue9,
 t28 := Tryz.underlying22,
 a28 := Tryz.isAgg22,
 z28 := Tryz.sizeOf22,
 v28 := Tryz.zeroValue22,
 t46 := Tryz.underlying104,
 a46 := Tryz.isAgg104,
 z46 := Tryz.sizeOf104,
 v46 := Tryz.zeroValue104,
 t51 := Tryz.underlying133,
 a51 := Tryz.isAgg133,
 z51 := Tryz.sizeOf133,
 v51 := Tryz.zeroValue133,
 t53 := Tryz.underlying136,
 a53 := Tryz.isAgg136,
 z53 := Tryz.sizeOf136,
 v53 := Tryz.zeroValue136,
 t131 := Tryz.underlying163,
 a131 := Tryz.isAgg163,
 z131 := Tryz.sizeOf163,
 v131 := Tryz.zeroValue163,
 t182 := Tryz.underlying158,
 a182 := Tryz.isAgg158,
 z182 := Tryz.sizeOf158,
 v182 := Tryz.zeroValue158,
 t183 := Tryz.underlying159,
 a183 := Tryz.isAgg159,
 z183 := Tryz.sizeOf159,
 v183 := Tryz.zeroValue159,
 t218 := Tryz.underlying170,
 a218 := Tryz.isAgg170,
 z218 := Tryz.sizeOf170,
 v218 := Tryz.zeroValue170,
 t222 := Tryz.underlying174,
 a222 := Tryz.isAgg174,
 z222 := Tryz.sizeOf174,
 v222 := Tryz.zeroValue174,
 t228 := Tryz.underlying176,
 a228 := Tryz.isAgg176,
 z228 := Tryz.sizeOf176,
 v228 := Tryz.zeroValue176,
 t229 := Tryz.underlying139,
 a229 := Tryz.isAgg139,
 z229 := Tryz.sizeOf139,
 v229 := Tryz.zeroValue139 }
def zg : Go.Shelf.Ren := ⟨fun | 6 => 91 | 8 => 124 | 9 => 125 | 11 => 138 | 13 => 140 | 12 => 139 | 23 => 156 | 24 => 157 | 14 => 147 | 15 => 148 | 16 => 149 | 17 => 150 | 18 => 151 | 19 => 152 | 20 => 153 | 21 => 154 | 22 => 155 | 25 => 160 | 26 => 161 | 27 => 162 | 28 => 163 | 29 => 164 | 30 => 141 | 31 => 166 | n => n, fun | 26 => 3 | 28 => 113 | 24 => 22 | 0 => 0 | 3 => 3 | 37 => 104 | 48 => 133 | 50 => 136 | 4 => 4 | 40 => 159 | 39 => 158 | 45 => 163 | 5 => 5 | 9 => 9 | 51 => 170 | 55 => 174 | 57 => 176 | 58 => 139 | 33 => 62 | n => n, fun | n => n⟩
theorem HJ : Go.Proofs.SlLaysZI.n6 Tryz.prog zg := {
 f6 := ⟨"slices.Sorted[int]", by kernel_rfl, Tryz.func91.trans (congrArg some (by kernel_rfl))⟩,
 f8 := ⟨"slices.Collect[int]", by kernel_rfl, Tryz.func124.trans (congrArg some (by kernel_rfl))⟩,
 f11 := ⟨"slices.AppendSeq[[]int,int]", by kernel_rfl, Tryz.func138.trans (congrArg some (by kernel_rfl))⟩,
 mixed := by kernel_rfl,
 t0 := Tryz.underlying0,
 a0 := Tryz.isAgg0,
 z0 := Tryz.sizeOf0,
 v0 := Tryz.zeroValue0,
 t24 := Tryz.underlying22,
 a24 := Tryz.isAgg22,
 z24 := Tryz.sizeOf22,
 v24 := Tryz.zeroValue22,
 t26 := Tryz.underlying3,
 a26 := Tryz.isAgg3,
 z26 := Tryz.sizeOf3,
 v26 := Tryz.zeroValue3,
 t28 := Tryz.underlying113,
 a28 := Tryz.isAgg113,
 z28 := Tryz.sizeOf113,
 v28 := Tryz.zeroValue113,
 i26 := by kernel_rfl }
section
open Go.RowKit Go.Shelf Go.Maps Go.Sort Go.Proofs
/- the iterator of slices.Values at this program -/
set_option maxRecDepth 100000 in
set_option maxHeartbeats 2000000 in
theorem acA (n l Bs : Nat) (hn : 1 ≤ n) (W0 : World) (b off len cap : Nat) (zs : List Int) (hlen : zs.length = len) (hreach : len * 8 ≤ 140737488351232) (hb : b < W0.heap.size) (J : List Int → World → Prop)
 (hJ : ∀ s W1, J s W1 → Below W0.heap.size W0 W1)
 (hY : ∀ pre x W1, J pre W1 → pre.length < zs.length → YieldAt Fence.wide (n - 1) Tryz.prog l #[encZ x] W1 fun e W' => e = .returned (.bool true) ∧ J (pre ++ [x]) W' ∧ KeepsWalks W1 W')
 (W : World) (hBs : W.cell? ⟨Bs, 0, none⟩ = some (.slice (some ⟨b, off, none⟩) len cap)) (hc : ∀ j, j < len → W0.cell? ⟨b, off + j, none⟩ = some (.int .i64 (zs[j]?.getD 0))) (h0 : J [] W) :
 CallsIn Fence.wide n Tryz.prog 126 #[.func (.yield l) #[] #[], .pointer (some ⟨Bs, 0, none⟩)] W fun e W' => (∃ v, e = .returned v) ∧ J zs W' := by
 have step : ∀ k, k < zs.length → zs.take k ++ [zs[k]?.getD 0] = zs.take (k + 1) := fun k hk => by
  rw [List.take_succ_eq_append_getElem hk]; simp [hk]
 refine callsIn_of_wp Tryz.func126 rfl trivial ?_ rfl
 simp only [Tryz.ntmps126, List.size_toArray, List.length_cons, List.length_nil, Nat.reduceAdd, Nat.reduceSub, Array.replicate_succ, Array.replicate_zero, List.push_toArray, List.append_toArray, List.nil_append, List.cons_append]
 gi_wp2
 gi_loopw [7] (fun i wr => ∃ k : Nat, k ≤ len ∧ i = .int .i64 k ∧ J (zs.take k) wr)
  (fun i _ => len - (intOf i).toNat)
 case atStart => exact ⟨0, Nat.zero_le _, rfl, h0⟩
 case round =>
  obtain ⟨k, hk, rfl, hJs⟩ := hrel
  by_cases hlt : k < len
  · have hcx : wr.cell? ⟨b, off + k, none⟩ = some (.int .i64 (zs[k]?.getD 0)) := ((hJ _ _ hJs).cell (p := ⟨b, off + k, none⟩) hb).trans (hc k hlt)
    have st := step k (by omega)
    generalize zs[k]?.getD 0 = x at hcx st
    obtain ⟨fn, tmps, assign, body, hy, hR⟩ := hY _ x wr hJs (by rw [List.length_take]; omega)
    clear step
    gi_wp2
    refine hR.mono ?_
    rintro e W3 ⟨rfl, hJ3, -⟩
    gi_wp2
    go_roundw
    case rel => exact ⟨k + 1, by omega, by simp, by rw [← st]; exact hJ3⟩
    case measure => simp [intOf]; omega
  · obtain rfl : k = len := by omega
    gi_wp2
    go_end0
    exact ⟨⟨_, rfl⟩, by rw [← hlen, List.take_length] at hJs; exact hJs⟩
set_option maxRecDepth 100000 in
set_option maxHeartbeats 1000000 in
theorem acB (n l Bs : Nat) (p : Option Addr) (cap : Nat) (J : List Int → World → Prop) (W : World) (hBs : W.cell? ⟨Bs, 0, none⟩ = some (.slice p 0 cap)) (h0 : J [] W) :
 CallsIn Fence.wide n Tryz.prog 126 #[.func (.yield l) #[] #[], .pointer (some ⟨Bs, 0, none⟩)] W fun e W' => (∃ v, e = .returned v) ∧ J [] W' := by
 refine callsIn_of_wp Tryz.func126 rfl trivial ?_ rfl
 simp only [Tryz.ntmps126, List.size_toArray, List.length_cons, List.length_nil, Nat.reduceAdd, Nat.reduceSub, Array.replicate_succ, Array.replicate_zero, List.push_toArray, List.append_toArray, List.nil_append, List.cons_append]
 gi_wp2
 gi_loopw [7] (fun i wr => i = .int .i64 0 ∧ J [] wr) (fun _ _ => 0)
 case atStart => exact ⟨rfl, h0⟩
 case round =>
  obtain ⟨rfl, hJs⟩ := hrel
  gi_wp2
  go_end0
  exact ⟨⟨_, rfl⟩, hJs⟩
theorem R7 : OH Tryz.prog 126 := by
 intro n Bs sv zs w hn hreach hBs hcell hI l J W hW hJ hY h0
 have hc' := (hW.cell (p := ⟨Bs, 0, none⟩) hBs).trans hcell
 rcases hI with ⟨p, cap, rfl, rfl⟩ | ⟨b, off, cap, rfl, hb, hcs⟩
 · exact acB n l Bs p cap J W hc' h0
 · exact acA n l Bs hn w b off zs.length cap zs rfl hreach hb J hJ hY W hc' hcs h0
end
theorem M9 : ∀ j, Names.ρ 260 = some j → tJ Tryz.prog j [2, N.aM] := fun j hj => by
 have e : (Names.ρ 260 : Option Nat) = some 91 := by kernel_rfl
 rw [e] at hj; cases hj; exact EC HJ M8 (by kernel_rfl) (Go.Proofs.enters_of Tryz.func125 (by kernel_rfl) rfl) (by kernel_rfl) (Go.Proofs.enters_of Tryz.func126 (by kernel_rfl) rfl) R7
def KI : Go.Shelf.Ren := ⟨fun | 8 => 132 | 11 => 145 | n => n, fun | 0 => 0 | 24 => 42 | 26 => 56 | 28 => 121 | 33 => 86 | n => n, fun n => n⟩
theorem acC : Go.Proofs.Xt Tryz.prog KI := {
 mixed := by kernel_rfl,
 f8 := ⟨"slices.Collect[minecontrol/api.World]", by kernel_rfl, Tryz.func132.trans (congrArg some (by kernel_rfl))⟩,
 f11 := ⟨"slices.AppendSeq[[]minecontrol/api.World,minecontrol/api.World]", by kernel_rfl, Tryz.func145.trans (congrArg some (by kernel_rfl))⟩,
 t0 := Tryz.underlying0,
 a0 := Tryz.isAgg0,
 z0 := Tryz.sizeOf0,
 v0 := Tryz.zeroValue0,
 t24 := Tryz.underlying42,
 a24 := Tryz.isAgg42,
 z24 := Tryz.sizeOf42,
 v24 := Tryz.zeroValue42,
 t26 := ⟨_, Tryz.underlying56⟩,
 a26 := Tryz.isAgg56,
 z26 := Tryz.sizeOf56,
 v26 := Tryz.zeroValue56,
 t28 := Tryz.underlying121,
 a28 := Tryz.isAgg121,
 z28 := Tryz.sizeOf121,
 v28 := Tryz.zeroValue121,
 i26 := by kernel_rfl }
section
open Go.RowKit Go.Shelf Go.Maps Go.Sort Go.Proofs
/- the iterator of slices.Values of structures of two cells at this program -/
set_option maxRecDepth 100000 in
set_option maxHeartbeats 2000000 in
theorem Xv (n l Bs : Nat) (hn : 1 ≤ n) (W0 : World) (b off len cap : Nat) (zs : List (Value × Value)) (hlen : zs.length = len) (hone : ∀ x ∈ zs, x.1.oneCell' = true ∧ x.2.oneCell' = true) (hreach : len * 48 ≤ 140737488351232) (hb : b < W0.heap.size) (J : List (Value × Value) → World → Prop)
 (hJ : ∀ s W1, J s W1 → Below W0.heap.size W0 W1) (hA : ∀ s W1 o, J s W1 → J s (W1.alloc o))
 (hY : ∀ pre x W1, J pre W1 → pre.length < zs.length → x ∈ zs → YieldAt Fence.wide (n - 1) Tryz.prog l #[Xs x] W1 fun e W' => e = .returned (.bool true) ∧ J (pre ++ [x]) W' ∧ KeepsWalks W1 W')
 (W : World) (hBs : W.cell? ⟨Bs, 0, none⟩ = some (.slice (some ⟨b, off, none⟩) len cap)) (hc : ∀ j p, zs[j]? = some p → W0.cell? ⟨b, off + j * 2, none⟩ = some p.1 ∧ W0.cell? ⟨b, off + j * 2 + 1, none⟩ = some p.2) (h0 : J [] W) :
 CallsIn Fence.wide n Tryz.prog 134 #[.func (.yield l) #[] #[], .pointer (some ⟨Bs, 0, none⟩)] W fun e W' => (∃ v, e = .returned v) ∧ J zs W' := by
 have step : ∀ k x, zs[k]? = some x → zs.take k ++ [x] = zs.take (k + 1) := fun k x hk => by
  rw [List.take_add_one, hk]; rfl
 refine callsIn_of_wp Tryz.func134 rfl trivial ?_ rfl
 simp only [Tryz.ntmps134, List.size_toArray, List.length_cons, List.length_nil, Nat.reduceAdd, Nat.reduceSub, Array.replicate_succ, Array.replicate_zero, List.push_toArray, List.append_toArray, List.nil_append, List.cons_append]
 gi_wp2
 gi_loopw [7] (fun i wr => ∃ k : Nat, k ≤ len ∧ i = .int .i64 k ∧ J (zs.take k) wr)
  (fun i _ => len - (intOf i).toNat)
 case atStart => exact ⟨0, Nat.zero_le _, rfl, h0⟩
 case round =>
  obtain ⟨k, hk, rfl, hJs⟩ := hrel
  by_cases hlt : k < len
  · obtain ⟨x, hx⟩ : ∃ x, zs[k]? = some x := ⟨_, List.getElem?_eq_getElem (by omega)⟩
    have hcx0 : wr.cell? ⟨b, off + k * 2, none⟩ = some x.1 := ((hJ _ _ hJs).cell (p := ⟨b, off + k * 2, none⟩) hb).trans (hc k x hx).1
    have hcx1 : wr.cell? ⟨b, off + k * 2 + 1, none⟩ = some x.2 := ((hJ _ _ hJs).cell (p := ⟨b, off + k * 2 + 1, none⟩) hb).trans (hc k x hx).2
    have hm : x ∈ zs := List.mem_of_getElem? hx
    have st := step k x hx
    obtain ⟨hx1, hx2⟩ := hone x hm
    have hst := CY Tryz.prog wr x.1 x.2 (.slice none 0 0) (.slice none 0 0) 56 hx1 hx2
    have cA0 : (wr.alloc (.cells #[x.1, x.2] 56)).cell? ⟨wr.heap.size, 0, none⟩ = some x.1 := lq wr x.1 x.2 56 0 x.1 rfl
    have cA1 : (wr.alloc (.cells #[x.1, x.2] 56)).cell? ⟨wr.heap.size, 1, none⟩ = some x.2 := lq wr x.1 x.2 56 1 x.2 rfl
    obtain ⟨fn, tmps, assign, body, hy, hR⟩ := hY _ x _ (hA _ _ (.cells #[x.1, x.2] 56) hJs) (by rw [List.length_take]; omega) hm
    clear step hone hc
    gi_wp2
    refine hR.mono ?_
    rintro e W3 ⟨rfl, hJ3, -⟩
    gi_wp2
    go_roundw
    case rel => exact ⟨k + 1, by omega, by simp, by rw [← st]; exact hJ3⟩
    case measure => simp [intOf]; omega
  · obtain rfl : k = len := by omega
    gi_wp2
    go_end0
    exact ⟨⟨_, rfl⟩, by rw [← hlen, List.take_length] at hJs; exact hJs⟩
set_option maxRecDepth 100000 in
set_option maxHeartbeats 1000000 in
theorem Xw (n l Bs : Nat) (p : Option Addr) (cap : Nat) (J : List (Value × Value) → World → Prop) (W : World) (hBs : W.cell? ⟨Bs, 0, none⟩ = some (.slice p 0 cap)) (h0 : J [] W) :
 CallsIn Fence.wide n Tryz.prog 134 #[.func (.yield l) #[] #[], .pointer (some ⟨Bs, 0, none⟩)] W fun e W' => (∃ v, e = .returned v) ∧ J [] W' := by
 refine callsIn_of_wp Tryz.func134 rfl trivial ?_ rfl
 simp only [Tryz.ntmps134, List.size_toArray, List.length_cons, List.length_nil, Nat.reduceAdd, Nat.reduceSub, Array.replicate_succ, Array.replicate_zero, List.push_toArray, List.append_toArray, List.nil_append, List.cons_append]
 gi_wp2
 gi_loopw [7] (fun i wr => i = .int .i64 0 ∧ J [] wr) (fun _ _ => 0)
 case atStart => exact ⟨rfl, h0⟩
 case round =>
  obtain ⟨rfl, hJs⟩ := hrel
  gi_wp2
  go_end0
  exact ⟨⟨_, rfl⟩, hJs⟩
theorem Na : KG Tryz.prog 134 := by
 intro n Bs sv zs w hn hone hreach hBs hcell hI l J W hW hJ hA hY h0
 have hc' := (hW.cell (p := ⟨Bs, 0, none⟩) hBs).trans hcell
 rcases hI with ⟨p, cap, rfl, rfl⟩ | ⟨b, off, cap, rfl, hb, hcs⟩
 · exact Xw n l Bs p cap J W hc' h0
 · exact Xv n l Bs hn w b off zs.length cap zs rfl hone hreach hb J hJ hA hY W hc' hcs h0
end
theorem Nb : ∀ j, Names.ρ 300 = some j → tJ Tryz.prog j [3, N.ak] := fun j hj => by
 have e : (Names.ρ 300 : Option Nat) = some 132 := by kernel_rfl
 rw [e] at hj; cases hj; exact CZ acC (by kernel_rfl) (Go.Proofs.enters_of Tryz.func134 (by kernel_rfl) rfl) Na
theorem Nc : ∀ x ∈ R6, ∀ j, Names.ρ x.1 = some j → tJ Tryz.prog j x.2 := by
 intro x hx
 simp only [R6, List.mem_cons, List.not_mem_nil, or_false] at hx
 rcases hx with rfl | rfl
 · exact M9
 · exact Nb
end Go.Proofs.YtljlbkjecjloaaaGreat
