/- MADE BY PROGRAM (lib.py): the numbers that the functions have in this program, and the check of each one. -/
import Derived.Test.YtljlbkjecjloaaaGreatProg
import Derived.Test.YtljlbkjecjloaaaGreatZPPP
import Derived.KernelRfl
set_option linter.all false
set_option maxRecDepth 100000
namespace Go.Proofs.YtljlbkjecjloaaaGreat
open Go.Ev
def real : List (Option Nat) := [none, some 8, none, some 10, some 11, none, none, none, some 17, some 12, some 38, none, some 15, some 24, none, some 26, some 19, none, none, some 37, some 44, some 35, some 45, some 13, none, none, none, some 28, some 55, none, some 16, none, none, none, none, some 75, some 25, some 30, some 33, some 68, some 86, some 87, some 88, some 82, some 77, some 83, some 89, some 42, none, some 57, none, some 70, none, none, some 107, none, some 59, some 60, some 61, some 76, some 78, some 112, some 27, some 122, some 118, some 109, some 108, some 113, none, some 51, none, some 40, some 115, some 135, some 46, some 99, some 90, some 123, none, none, none, none, none, none, none, none, none, none, none, none, none, none, some 20, none, some 18, none, none, none, none, none, none, none, none, none, none, some 72, some 22, none, none, none, none, some 23, none, none, some 56, none, none, none, some 58, none, none, none, none, none, none, none, none, none, none, none, none, none, none, none, none, none, none, none, none, none, none, none, none, none, none, some 101, none, none, some 131, none, none, none, none, none, none, none, none, none, none, none, some 41, none, none, none, none, none, none, some 39, none, none, some 85, none, none, some 84, none, none, some 121, some 119, none, none, none, none, none, none, none, none, none, none, none, some 106, some 97, none, none, none, some 102, none, none, none, none, some 129, some 130, some 128, some 94, none, some 100, none, none, none, some 143, some 144, some 142, some 71, some 114, some 136, some 137, none, none, none, none, none, none, none, none, none, none, none, none, none, none, none, none, none, none, none, none, none, none, none, none, none, none, none, none, none, none, none, none, none, none, none, none, none, none, none, none, none, none, some 47, none, none, some 91, some 92, some 93, some 95, some 49, some 96, none, some 126, some 127, some 98, some 141, none, none, none, none, none, none, none, none, none, none, none, none, none, none, none, none, none, none, some 52, some 54, none, none, none, none, none, none, some 103, some 104, some 105, some 132, some 133, some 134, some 146, some 158, some 159, some 165, some 167, some 52, none, some 4, none, none, none, some 9, some 14, some 21, none, some 31, some 32, none, some 36, some 43, some 48, some 50, some 53, none, none, none, some 69, some 73, some 74, none, none]
def tab : List (Option Go.Ev.Fn) := [none, some K.gL, none, some K.i9, some K.cj, none, none, none, some K.bR, some K.aA, some K.c8, none, some K.fK, some K.dq, none, some K.dv, some K.bV, none, none, some K.cV, some K.bk, some K.gg, some K.dC, some K.jt, none, none, none, some K.dt, some K.cW, none, some K.iC, none, none, none, none, some K.dW, some K.dw, some K.dH, some K.cF, some K.bw, some K.gM, some K.dI, some K.gN, some K.dJ, some K.cH, some K.gG, some K.cI, some K.dK, none, some K.aB, none, some K.aR, none, none, some K.gh, none, some K.de, some K.fe, some K.dL, some K.gj, some K.ew, some K.cK, some K.cm, some K.gk, some K.b8, some K.ez, some K.bh, some K.bD, none, some K.av, none, some K.eM, some K.dM, some K.cX, some K.eU, some K.aD, some K.bN, some K.gO, none, none, none, none, none, none, none, none, none, none, none, none, none, none, some K.eR, none, some K.jc, none, none, none, none, none, none, none, none, none, none, some K.dZ, some K.ec, none, none, none, none, some K.fH, none, none, some K.gT, none, none, none, some K.bX, none, none, none, none, none, none, none, none, none, none, none, none, none, none, none, none, none, none, none, none, none, none, none, none, none, none, some K.cM, none, none, some K.bF, none, none, none, none, none, none, none, none, none, none, none, some K.bc, none, none, none, none, none, none, some K.dN, none, none, some K.dA, none, none, some K.gU, none, none, some K.cN, some K.ff, none, none, none, none, none, none, none, none, none, none, none, some K.fg, some K.ed, none, none, none, some K.di, none, none, none, none, some K.bW, some K.dO, some K.cA, some K.aX, none, some K.aU, some K.bT, none, none, some K.cP, some K.bf, some K.bG, some K.gI, some K.jd, some K.ee, some K.gX, none, none, none, none, none, none, none, none, none, none, none, none, none, none, none, none, none, none, none, none, none, none, none, none, none, none, none, none, none, none, none, none, none, none, none, none, none, none, none, none, none, none, some K.eE, none, none, some K.bM, some K.bg, some K.eT, some K.aP, some K.ae, some K.cT, none, some K.aM, some K.bU, some K.au, some K.cmp_isNaN_int, none, none, none, none, none, none, none, none, none, none, none, none, none, none, none, none, none, none, some K.jz, some K.fS, none, none, none, none, none, none, some K.aH, some K.aI, some K.a8, some K.bq, some K.az, some K.ak, some K.aO, some K.ay, some K.aE, some K.a7, some K.aJ, some K.cQ, none, some K.b9, none, none, none, some K.fh, some K.qR, some K.fk, none, some K.iF, some K.fm, none, some K.lr, some K.lu, some K.eG, some K.cB, some K.je, none, none, none, some K.fM, some K.aF, some K.aK, none, none]
instance names : Names := ⟨fun f => (real[f]?).join⟩
instance lib : Lib := ⟨fun f => (tab[f]?).join⟩
instance has1 : cn := ⟨rfl, rfl, rfl, rfl, rfl, rfl, rfl, rfl, rfl, rfl, rfl, rfl, rfl, rfl, rfl, rfl, rfl, rfl, rfl, rfl⟩
instance has2 : bS := ⟨rfl, rfl, rfl, rfl, rfl, rfl, rfl, rfl, rfl, rfl, rfl, rfl, rfl, rfl, rfl, rfl, rfl, rfl, rfl, rfl, rfl, rfl, rfl, rfl, rfl, rfl, rfl, rfl, rfl, rfl, rfl, rfl, rfl, rfl⟩
instance has3 : iE := ⟨rfl, rfl⟩
instance has4 : iv := ⟨rfl, rfl, rfl, rfl, rfl⟩
instance has5 : lU := ⟨rfl, rfl⟩
instance has6 : gV := ⟨rfl, rfl, rfl⟩
instance has7 : gW := ⟨rfl, rfl, rfl⟩
instance has8 : kt := ⟨rfl, rfl⟩
instance has9 : iJ := ⟨rfl, rfl, rfl, rfl, rfl, rfl, rfl, rfl, rfl, rfl, rfl, rfl, rfl, rfl⟩
instance has10 : hX := ⟨⟩
instance has11 : fT := ⟨rfl, rfl, rfl, rfl, rfl, rfl, rfl, rfl, rfl, rfl, rfl⟩
instance has12 : qb := ⟨⟩
instance has13 : jr := ⟨rfl, rfl, rfl, rfl, rfl, rfl, rfl, rfl, rfl, rfl, rfl, rfl, rfl, rfl⟩
instance has14 : oK := ⟨rfl, rfl, rfl, rfl, rfl, rfl, rfl, rfl, rfl, rfl, rfl⟩
instance has15 : wK := ⟨rfl, rfl, rfl⟩
theorem C0 : aY Tryz.prog Tryz.f8 K.gL = true := by kernel_rfl
theorem EH : aY Tryz.prog Tryz.f10 K.i9 = true := by kernel_rfl
theorem wO : aY Tryz.prog Tryz.f11 K.cj = true := by kernel_rfl
theorem uG : aY Tryz.prog Tryz.f17 K.bR = true := by kernel_rfl
theorem wP : aY Tryz.prog Tryz.f12 K.aA = true := by kernel_rfl
theorem yV : aY Tryz.prog Tryz.f38 K.c8 = true := by kernel_rfl
theorem EI : aY Tryz.prog Tryz.f15 K.fK = true := by kernel_rfl
theorem wQ : aY Tryz.prog Tryz.f24 K.dq = true := by kernel_rfl
theorem yF : aY Tryz.prog Tryz.f26 K.dv = true := by kernel_rfl
theorem wR : aY Tryz.prog Tryz.f19 K.bV = true := by kernel_rfl
theorem A0 : aY Tryz.prog Tryz.f37 K.cV = true := by kernel_rfl
theorem wS : aY Tryz.prog Tryz.f44 K.bk = true := by kernel_rfl
theorem EJ : aY Tryz.prog Tryz.f35 K.gg = true := by kernel_rfl
theorem yW : aY Tryz.prog Tryz.f45 K.dC = true := by kernel_rfl
theorem HD : aY Tryz.prog Tryz.f13 K.jt = true := by kernel_rfl
theorem wT : aY Tryz.prog Tryz.f28 K.dt = true := by kernel_rfl
theorem A1 : aY Tryz.prog Tryz.f55 K.cW = true := by kernel_rfl
theorem EK : aY Tryz.prog Tryz.f16 K.iC = true := by kernel_rfl
theorem yX : aY Tryz.prog Tryz.f75 K.dW = true := by kernel_rfl
theorem A2 : aY Tryz.prog Tryz.f25 K.dw = true := by kernel_rfl
theorem C1 : aY Tryz.prog Tryz.f30 K.dH = true := by kernel_rfl
theorem A3 : aY Tryz.prog Tryz.f33 K.cF = true := by kernel_rfl
theorem vr : aY Tryz.prog Tryz.f68 K.bw = true := by kernel_rfl
theorem C2 : aY Tryz.prog Tryz.f86 K.gM = true := by kernel_rfl
theorem A4 : aY Tryz.prog Tryz.f87 K.dI = true := by kernel_rfl
theorem C3 : aY Tryz.prog Tryz.f88 K.gN = true := by kernel_rfl
theorem A5 : aY Tryz.prog Tryz.f82 K.dJ = true := by kernel_rfl
theorem yY : aY Tryz.prog Tryz.f77 K.cH = true := by kernel_rfl
theorem EL : aY Tryz.prog Tryz.f83 K.gG = true := by kernel_rfl
theorem yZ : aY Tryz.prog Tryz.f89 K.cI = true := by kernel_rfl
theorem A6 : aY Tryz.prog Tryz.f42 K.dK = true := by kernel_rfl
theorem lN : aY Tryz.prog Tryz.f57 K.aB = true := by kernel_rfl
theorem om : aY Tryz.prog Tryz.f70 K.aR = true := by kernel_rfl
theorem C4 : aY Tryz.prog Tryz.f107 K.gh = true := by kernel_rfl
theorem y0 : aY Tryz.prog Tryz.f59 K.de = true := by kernel_rfl
theorem A7 : aY Tryz.prog Tryz.f60 K.fe = true := by kernel_rfl
theorem A8 : aY Tryz.prog Tryz.f61 K.dL = true := by kernel_rfl
theorem C5 : aY Tryz.prog Tryz.f76 K.gj = true := by kernel_rfl
theorem A9 : aY Tryz.prog Tryz.f78 K.ew = true := by kernel_rfl
theorem C6 : aY Tryz.prog Tryz.f112 K.cK = true := by kernel_rfl
theorem wU : aY Tryz.prog Tryz.f27 K.cm = true := by kernel_rfl
theorem C7 : aY Tryz.prog Tryz.f122 K.gk = true := by kernel_rfl
theorem Ba : aY Tryz.prog Tryz.f118 K.b8 = true := by kernel_rfl
theorem Bb : aY Tryz.prog Tryz.f109 K.ez = true := by kernel_rfl
theorem m8 : aY Tryz.prog Tryz.f108 K.bh = true := by kernel_rfl
theorem qc : aY Tryz.prog Tryz.f113 K.bD = true := by kernel_rfl
theorem ic : aY Tryz.prog Tryz.f51 K.av = true := by kernel_rfl
theorem HE : aY Tryz.prog Tryz.f40 K.eM = true := by kernel_rfl
theorem Bc : aY Tryz.prog Tryz.f115 K.dM = true := by kernel_rfl
theorem Bd : aY Tryz.prog Tryz.f135 K.cX = true := by kernel_rfl
theorem C8 : aY Tryz.prog Tryz.f46 K.eU = true := by kernel_rfl
theorem iX : aY Tryz.prog Tryz.f99 K.aD = true := by kernel_rfl
theorem y3 : aY Tryz.prog Tryz.f90 K.bN = true := by kernel_rfl
theorem C9 : aY Tryz.prog Tryz.f123 K.gO = true := by kernel_rfl
theorem y4 : aY Tryz.prog Tryz.f20 K.eR = true := by kernel_rfl
theorem EM : aY Tryz.prog Tryz.f18 K.jc = true := by kernel_rfl
theorem y5 : aY Tryz.prog Tryz.f72 K.dZ = true := by kernel_rfl
theorem y6 : aY Tryz.prog Tryz.f22 K.ec = true := by kernel_rfl
theorem Da : aY Tryz.prog Tryz.f23 K.fH = true := by kernel_rfl
theorem Db : aY Tryz.prog Tryz.f56 K.gT = true := by kernel_rfl
theorem y7 : aY Tryz.prog Tryz.f58 K.bX = true := by kernel_rfl
theorem vt : aY Tryz.prog Tryz.f101 K.cM = true := by kernel_rfl
theorem s0 : aY Tryz.prog Tryz.f131 K.bF = true := by kernel_rfl
theorem pZ : aY Tryz.prog Tryz.f41 K.bc = true := by kernel_rfl
theorem Dc : aY Tryz.prog Tryz.f39 K.dN = true := by kernel_rfl
theorem yG : aY Tryz.prog Tryz.f85 K.dA = true := by kernel_rfl
theorem Dd : aY Tryz.prog Tryz.f84 K.gU = true := by kernel_rfl
theorem vu : aY Tryz.prog Tryz.f121 K.cN = true := by kernel_rfl
theorem Be : aY Tryz.prog Tryz.f119 K.ff = true := by kernel_rfl
theorem Bf : aY Tryz.prog Tryz.f106 K.fg = true := by kernel_rfl
theorem y8 : aY Tryz.prog Tryz.f97 K.ed = true := by kernel_rfl
theorem y9 : aY Tryz.prog Tryz.f102 K.di = true := by kernel_rfl
theorem wV : aY Tryz.prog Tryz.f129 K.bW = true := by kernel_rfl
theorem De : aY Tryz.prog Tryz.f130 K.dO = true := by kernel_rfl
theorem yH : aY Tryz.prog Tryz.f128 K.cA = true := by kernel_rfl
theorem qd : aY Tryz.prog Tryz.f94 K.aX = true := by kernel_rfl
theorem qe : aY Tryz.prog Tryz.f100 K.aU = true := by kernel_rfl
theorem vv : aY Tryz.prog Tryz.f143 K.cP = true := by kernel_rfl
theorem uH : aY Tryz.prog Tryz.f144 K.bf = true := by kernel_rfl
theorem vA : aY Tryz.prog Tryz.f142 K.bG = true := by kernel_rfl
theorem EN : aY Tryz.prog Tryz.f71 K.gI = true := by kernel_rfl
theorem EO : aY Tryz.prog Tryz.f114 K.jd = true := by kernel_rfl
theorem EP : aY Tryz.prog Tryz.f136 K.ee = true := by kernel_rfl
theorem Df : aY Tryz.prog Tryz.f137 K.gX = true := by kernel_rfl
theorem Bg : aY Tryz.prog Tryz.f47 K.eE = true := by kernel_rfl
theorem s5 : aY Tryz.prog Tryz.f91 K.bM = true := by kernel_rfl
theorem p4 : aY Tryz.prog Tryz.f92 K.bg = true := by kernel_rfl
theorem za : aY Tryz.prog Tryz.f93 K.eT = true := by kernel_rfl
theorem oP : aY Tryz.prog Tryz.f95 K.aP = true := by kernel_rfl
theorem eO : aY Tryz.prog Tryz.f49 K.ae = true := by kernel_rfl
theorem yI : aY Tryz.prog Tryz.f96 K.cT = true := by kernel_rfl
theorem oo : aY Tryz.prog Tryz.f126 K.aM = true := by kernel_rfl
theorem vB : aY Tryz.prog Tryz.f127 K.bU = true := by kernel_rfl
theorem fp : aY Tryz.prog Tryz.f98 K.au = true := by kernel_rfl
theorem yJ : aY Tryz.prog Tryz.f141 K.cmp_isNaN_int = true := by kernel_rfl
theorem Bh : aY Tryz.prog Tryz.f52 K.jz = true := by kernel_rfl
theorem Bi : aY Tryz.prog Tryz.f54 K.fS = true := by kernel_rfl
theorem jK : aY Tryz.prog Tryz.f103 K.aH = true := by kernel_rfl
theorem jL : aY Tryz.prog Tryz.f104 K.aI = true := by kernel_rfl
theorem yK : aY Tryz.prog Tryz.f105 K.a8 = true := by kernel_rfl
theorem m9 : aY Tryz.prog Tryz.f132 K.bq = true := by kernel_rfl
theorem gF : aY Tryz.prog Tryz.f133 K.az = true := by kernel_rfl
theorem i5 : aY Tryz.prog Tryz.f134 K.ak = true := by kernel_rfl
theorem ku : aY Tryz.prog Tryz.f146 K.aO = true := by kernel_rfl
theorem iI : aY Tryz.prog Tryz.f158 K.ay = true := by kernel_rfl
theorem jW : aY Tryz.prog Tryz.f159 K.aE = true := by kernel_rfl
theorem kv : aY Tryz.prog Tryz.f165 K.a7 = true := by kernel_rfl
theorem jM : aY Tryz.prog Tryz.f167 K.aJ = true := by kernel_rfl
theorem wW : aY Tryz.prog Tryz.f52 K.cQ = true := by kernel_rfl
theorem vC : aY Tryz.prog Tryz.f4 K.b9 = true := by kernel_rfl
theorem Bj : aY Tryz.prog Tryz.f9 K.fh = true := by kernel_rfl
theorem KI : aY Tryz.prog Tryz.f14 K.qR = true := by kernel_rfl
theorem ER : aY Tryz.prog Tryz.f21 K.fk = true := by kernel_rfl
theorem Bk : aY Tryz.prog Tryz.f31 K.iF = true := by kernel_rfl
theorem Bl : aY Tryz.prog Tryz.f32 K.fm = true := by kernel_rfl
theorem ES : aY Tryz.prog Tryz.f36 K.lr = true := by kernel_rfl
theorem ET : aY Tryz.prog Tryz.f43 K.lu = true := by kernel_rfl
theorem Bm : aY Tryz.prog Tryz.f48 K.eG = true := by kernel_rfl
theorem yL : aY Tryz.prog Tryz.f50 K.cB = true := by kernel_rfl
theorem EU : aY Tryz.prog Tryz.f53 K.je = true := by kernel_rfl
theorem yM : aY Tryz.prog Tryz.f69 K.fM = true := by kernel_rfl
theorem jX : aY Tryz.prog Tryz.f73 K.aF = true := by kernel_rfl
theorem kx : aY Tryz.prog Tryz.f74 K.aK = true := by kernel_rfl
theorem VJ : DE Tryz.prog real tab :=
 ⟨trivial, ⟨⟨by kernel_rfl, ai Tryz.func8 C0⟩, ⟨trivial, ⟨⟨by kernel_rfl, ai Tryz.func10 EH⟩, ⟨⟨by kernel_rfl, ai Tryz.func11 wO⟩, ⟨trivial, ⟨trivial, ⟨trivial, ⟨⟨by kernel_rfl, ai Tryz.func17 uG⟩, ⟨⟨by kernel_rfl, ai Tryz.func12 wP⟩, ⟨⟨by kernel_rfl, ai Tryz.func38 yV⟩, ⟨trivial, ⟨⟨by kernel_rfl, ai Tryz.func15 EI⟩, ⟨⟨by kernel_rfl, ai Tryz.func24 wQ⟩, ⟨trivial, ⟨⟨by kernel_rfl, ai Tryz.func26 yF⟩, ⟨⟨by kernel_rfl, ai Tryz.func19 wR⟩, ⟨trivial, ⟨trivial, ⟨⟨by kernel_rfl, ai Tryz.func37 A0⟩, ⟨⟨by kernel_rfl, ai Tryz.func44 wS⟩, ⟨⟨by kernel_rfl, ai Tryz.func35 EJ⟩, ⟨⟨by kernel_rfl, ai Tryz.func45 yW⟩, ⟨⟨by kernel_rfl, ai Tryz.func13 HD⟩, ⟨trivial, ⟨trivial, ⟨trivial, ⟨⟨by kernel_rfl, ai Tryz.func28 wT⟩, ⟨⟨by kernel_rfl, ai Tryz.func55 A1⟩, ⟨trivial, ⟨⟨by kernel_rfl, ai Tryz.func16 EK⟩, ⟨trivial, ⟨trivial, ⟨trivial, ⟨trivial, ⟨⟨by kernel_rfl, ai Tryz.func75 yX⟩, ⟨⟨by kernel_rfl, ai Tryz.func25 A2⟩, ⟨⟨by kernel_rfl, ai Tryz.func30 C1⟩, ⟨⟨by kernel_rfl, ai Tryz.func33 A3⟩, ⟨⟨by kernel_rfl, ai Tryz.func68 vr⟩, ⟨⟨by kernel_rfl, ai Tryz.func86 C2⟩, ⟨⟨by kernel_rfl, ai Tryz.func87 A4⟩, ⟨⟨by kernel_rfl, ai Tryz.func88 C3⟩, ⟨⟨by kernel_rfl, ai Tryz.func82 A5⟩, ⟨⟨by kernel_rfl, ai Tryz.func77 yY⟩, ⟨⟨by kernel_rfl, ai Tryz.func83 EL⟩, ⟨⟨by kernel_rfl, ai Tryz.func89 yZ⟩, ⟨⟨by kernel_rfl, ai Tryz.func42 A6⟩, ⟨trivial, ⟨⟨by kernel_rfl, ai Tryz.func57 lN⟩, ⟨trivial, ⟨⟨by kernel_rfl, ai Tryz.func70 om⟩, ⟨trivial, ⟨trivial, ⟨⟨by kernel_rfl, ai Tryz.func107 C4⟩, ⟨trivial, ⟨⟨by kernel_rfl, ai Tryz.func59 y0⟩, ⟨⟨by kernel_rfl, ai Tryz.func60 A7⟩, ⟨⟨by kernel_rfl, ai Tryz.func61 A8⟩, ⟨⟨by kernel_rfl, ai Tryz.func76 C5⟩, ⟨⟨by kernel_rfl, ai Tryz.func78 A9⟩, ⟨⟨by kernel_rfl, ai Tryz.func112 C6⟩, ⟨⟨by kernel_rfl, ai Tryz.func27 wU⟩, ⟨⟨by kernel_rfl, ai Tryz.func122 C7⟩, ⟨⟨by kernel_rfl, ai Tryz.func118 Ba⟩, ⟨⟨by kernel_rfl, ai Tryz.func109 Bb⟩, ⟨⟨by kernel_rfl, ai Tryz.func108 m8⟩, ⟨⟨by kernel_rfl, ai Tryz.func113 qc⟩, ⟨trivial, ⟨⟨by kernel_rfl, ai Tryz.func51 ic⟩, ⟨trivial, ⟨⟨by kernel_rfl, ai Tryz.func40 HE⟩, ⟨⟨by kernel_rfl, ai Tryz.func115 Bc⟩, ⟨⟨by kernel_rfl, ai Tryz.func135 Bd⟩, ⟨⟨by kernel_rfl, ai Tryz.func46 C8⟩, ⟨⟨by kernel_rfl, ai Tryz.func99 iX⟩, ⟨⟨by kernel_rfl, ai Tryz.func90 y3⟩, ⟨⟨by kernel_rfl, ai Tryz.func123 C9⟩, ⟨trivial, ⟨trivial, ⟨trivial, ⟨trivial, ⟨trivial, ⟨trivial, ⟨trivial, ⟨trivial, ⟨trivial, ⟨trivial, ⟨trivial, ⟨trivial, ⟨trivial, ⟨trivial, ⟨⟨by kernel_rfl, ai Tryz.func20 y4⟩, ⟨trivial, ⟨⟨by kernel_rfl, ai Tryz.func18 EM⟩, ⟨trivial, ⟨trivial, ⟨trivial, ⟨trivial, ⟨trivial, ⟨trivial, ⟨trivial, ⟨trivial, ⟨trivial, ⟨trivial, ⟨⟨by kernel_rfl, ai Tryz.func72 y5⟩, ⟨⟨by kernel_rfl, ai Tryz.func22 y6⟩, ⟨trivial, ⟨trivial, ⟨trivial, ⟨trivial, ⟨⟨by kernel_rfl, ai Tryz.func23 Da⟩, ⟨trivial, ⟨trivial, ⟨⟨by kernel_rfl, ai Tryz.func56 Db⟩, ⟨trivial, ⟨trivial, ⟨trivial, ⟨⟨by kernel_rfl, ai Tryz.func58 y7⟩, ⟨trivial, ⟨trivial, ⟨trivial, ⟨trivial, ⟨trivial, ⟨trivial, ⟨trivial, ⟨trivial, ⟨trivial, ⟨trivial, ⟨trivial, ⟨trivial, ⟨trivial, ⟨trivial, ⟨trivial, ⟨trivial, ⟨trivial, ⟨trivial, ⟨trivial, ⟨trivial, ⟨trivial, ⟨trivial, ⟨trivial, ⟨trivial, ⟨trivial, ⟨trivial, ⟨⟨by kernel_rfl, ai Tryz.func101 vt⟩, ⟨trivial, ⟨trivial, ⟨⟨by kernel_rfl, ai Tryz.func131 s0⟩, ⟨trivial, ⟨trivial, ⟨trivial, ⟨trivial, ⟨trivial, ⟨trivial, ⟨trivial, ⟨trivial, ⟨trivial, ⟨trivial, ⟨trivial, ⟨⟨by kernel_rfl, ai Tryz.func41 pZ⟩, ⟨trivial, ⟨trivial, ⟨trivial, ⟨trivial, ⟨trivial, ⟨trivial, ⟨⟨by kernel_rfl, ai Tryz.func39 Dc⟩, ⟨trivial, ⟨trivial, ⟨⟨by kernel_rfl, ai Tryz.func85 yG⟩, ⟨trivial, ⟨trivial, ⟨⟨by kernel_rfl, ai Tryz.func84 Dd⟩, ⟨trivial, ⟨trivial, ⟨⟨by kernel_rfl, ai Tryz.func121 vu⟩, ⟨⟨by kernel_rfl, ai Tryz.func119 Be⟩, ⟨trivial, ⟨trivial, ⟨trivial, ⟨trivial, ⟨trivial, ⟨trivial, ⟨trivial, ⟨trivial, ⟨trivial, ⟨trivial, ⟨trivial, ⟨⟨by kernel_rfl, ai Tryz.func106 Bf⟩, ⟨⟨by kernel_rfl, ai Tryz.func97 y8⟩, ⟨trivial, ⟨trivial, ⟨trivial, ⟨⟨by kernel_rfl, ai Tryz.func102 y9⟩, ⟨trivial, ⟨trivial, ⟨trivial, ⟨trivial, ⟨⟨by kernel_rfl, ai Tryz.func129 wV⟩, ⟨⟨by kernel_rfl, ai Tryz.func130 De⟩, ⟨⟨by kernel_rfl, ai Tryz.func128 yH⟩, ⟨⟨by kernel_rfl, ai Tryz.func94 qd⟩, ⟨trivial, ⟨⟨by kernel_rfl, ai Tryz.func100 qe⟩, ⟨trivial, ⟨trivial, ⟨trivial, ⟨⟨by kernel_rfl, ai Tryz.func143 vv⟩, ⟨⟨by kernel_rfl, ai Tryz.func144 uH⟩, ⟨⟨by kernel_rfl, ai Tryz.func142 vA⟩, ⟨⟨by kernel_rfl, ai Tryz.func71 EN⟩, ⟨⟨by kernel_rfl, ai Tryz.func114 EO⟩, ⟨⟨by kernel_rfl, ai Tryz.func136 EP⟩, ⟨⟨by kernel_rfl, ai Tryz.func137 Df⟩, ⟨trivial, ⟨trivial, ⟨trivial, ⟨trivial, ⟨trivial, ⟨trivial, ⟨trivial, ⟨trivial, ⟨trivial, ⟨trivial, ⟨trivial, ⟨trivial, ⟨trivial, ⟨trivial, ⟨trivial, ⟨trivial, ⟨trivial, ⟨trivial, ⟨trivial, ⟨trivial, ⟨trivial, ⟨trivial, ⟨trivial, ⟨trivial, ⟨trivial, ⟨trivial, ⟨trivial, ⟨trivial, ⟨trivial, ⟨trivial, ⟨trivial, ⟨trivial, ⟨trivial, ⟨trivial, ⟨trivial, ⟨trivial, ⟨trivial, ⟨trivial, ⟨trivial, ⟨trivial, ⟨trivial, ⟨trivial, ⟨⟨by kernel_rfl, ai Tryz.func47 Bg⟩, ⟨trivial, ⟨trivial, ⟨⟨by kernel_rfl, ai Tryz.func91 s5⟩, ⟨⟨by kernel_rfl, ai Tryz.func92 p4⟩, ⟨⟨by kernel_rfl, ai Tryz.func93 za⟩, ⟨⟨by kernel_rfl, ai Tryz.func95 oP⟩, ⟨⟨by kernel_rfl, ai Tryz.func49 eO⟩, ⟨⟨by kernel_rfl, ai Tryz.func96 yI⟩, ⟨trivial, ⟨⟨by kernel_rfl, ai Tryz.func126 oo⟩, ⟨⟨by kernel_rfl, ai Tryz.func127 vB⟩, ⟨⟨by kernel_rfl, ai Tryz.func98 fp⟩, ⟨⟨by kernel_rfl, ai Tryz.func141 yJ⟩, ⟨trivial, ⟨trivial, ⟨trivial, ⟨trivial, ⟨trivial, ⟨trivial, ⟨trivial, ⟨trivial, ⟨trivial, ⟨trivial, ⟨trivial, ⟨trivial, ⟨trivial, ⟨trivial, ⟨trivial, ⟨trivial, ⟨trivial, ⟨trivial, ⟨⟨by kernel_rfl, ai Tryz.func52 Bh⟩, ⟨⟨by kernel_rfl, ai Tryz.func54 Bi⟩, ⟨trivial, ⟨trivial, ⟨trivial, ⟨trivial, ⟨trivial, ⟨trivial, ⟨⟨by kernel_rfl, ai Tryz.func103 jK⟩, ⟨⟨by kernel_rfl, ai Tryz.func104 jL⟩, ⟨⟨by kernel_rfl, ai Tryz.func105 yK⟩, ⟨⟨by kernel_rfl, ai Tryz.func132 m9⟩, ⟨⟨by kernel_rfl, ai Tryz.func133 gF⟩, ⟨⟨by kernel_rfl, ai Tryz.func134 i5⟩, ⟨⟨by kernel_rfl, ai Tryz.func146 ku⟩, ⟨⟨by kernel_rfl, ai Tryz.func158 iI⟩, ⟨⟨by kernel_rfl, ai Tryz.func159 jW⟩, ⟨⟨by kernel_rfl, ai Tryz.func165 kv⟩, ⟨⟨by kernel_rfl, ai Tryz.func167 jM⟩, ⟨⟨by kernel_rfl, ai Tryz.func52 wW⟩, ⟨trivial, ⟨⟨by kernel_rfl, ai Tryz.func4 vC⟩, ⟨trivial, ⟨trivial, ⟨trivial, ⟨⟨by kernel_rfl, ai Tryz.func9 Bj⟩, ⟨⟨by kernel_rfl, ai Tryz.func14 KI⟩, ⟨⟨by kernel_rfl, ai Tryz.func21 ER⟩, ⟨trivial, ⟨⟨by kernel_rfl, ai Tryz.func31 Bk⟩, ⟨⟨by kernel_rfl, ai Tryz.func32 Bl⟩, ⟨trivial, ⟨⟨by kernel_rfl, ai Tryz.func36 ES⟩, ⟨⟨by kernel_rfl, ai Tryz.func43 ET⟩, ⟨⟨by kernel_rfl, ai Tryz.func48 Bm⟩, ⟨⟨by kernel_rfl, ai Tryz.func50 yL⟩, ⟨⟨by kernel_rfl, ai Tryz.func53 EU⟩, ⟨trivial, ⟨trivial, ⟨trivial, ⟨⟨by kernel_rfl, ai Tryz.func69 yM⟩, ⟨⟨by kernel_rfl, ai Tryz.func73 jX⟩, ⟨⟨by kernel_rfl, ai Tryz.func74 kx⟩, ⟨trivial, ⟨trivial, trivial⟩⟩⟩⟩⟩⟩⟩⟩⟩⟩⟩⟩⟩⟩⟩⟩⟩⟩⟩⟩⟩⟩⟩⟩⟩⟩⟩⟩⟩⟩⟩⟩⟩⟩⟩⟩⟩⟩⟩⟩⟩⟩⟩⟩⟩⟩⟩⟩⟩⟩⟩⟩⟩⟩⟩⟩⟩⟩⟩⟩⟩⟩⟩⟩⟩⟩⟩⟩⟩⟩⟩⟩⟩⟩⟩⟩⟩⟩⟩⟩⟩⟩⟩⟩⟩⟩⟩⟩⟩⟩⟩⟩⟩⟩⟩⟩⟩⟩⟩⟩⟩⟩⟩⟩⟩⟩⟩⟩⟩⟩⟩⟩⟩⟩⟩⟩⟩⟩⟩⟩⟩⟩⟩⟩⟩⟩⟩⟩⟩⟩⟩⟩⟩⟩⟩⟩⟩⟩⟩⟩⟩⟩⟩⟩⟩⟩⟩⟩⟩⟩⟩⟩⟩⟩⟩⟩⟩⟩⟩⟩⟩⟩⟩⟩⟩⟩⟩⟩⟩⟩⟩⟩⟩⟩⟩⟩⟩⟩⟩⟩⟩⟩⟩⟩⟩⟩⟩⟩⟩⟩⟩⟩⟩⟩⟩⟩⟩⟩⟩⟩⟩⟩⟩⟩⟩⟩⟩⟩⟩⟩⟩⟩⟩⟩⟩⟩⟩⟩⟩⟩⟩⟩⟩⟩⟩⟩⟩⟩⟩⟩⟩⟩⟩⟩⟩⟩⟩⟩⟩⟩⟩⟩⟩⟩⟩⟩⟩⟩⟩⟩⟩⟩⟩⟩⟩⟩⟩⟩⟩⟩⟩⟩⟩⟩⟩⟩⟩⟩⟩⟩⟩⟩⟩⟩⟩⟩⟩⟩⟩⟩⟩⟩⟩⟩⟩⟩⟩⟩⟩⟩⟩⟩⟩⟩⟩⟩⟩⟩⟩⟩⟩⟩⟩⟩⟩⟩⟩⟩⟩⟩⟩⟩⟩⟩⟩⟩⟩⟩⟩⟩⟩⟩⟩⟩⟩⟩⟩⟩⟩⟩⟩⟩⟩⟩
def RC : List (Nat × List Nat) := [(260, [2, N.aM]), (300, [3, N.ak])]
def Dg : Go.Shelf.Ren := ⟨fun | 189 => 125 | 125 => 140 | 257 => 139 | 128 => 156 | 129 => 157 | 294 => 147 | 295 => 148 | 296 => 149 | 297 => 150 | 298 => 151 | 299 => 152 | 216 => 153 | 300 => 154 | 301 => 155 | 328 => 160 | 329 => 161 | 330 => 162 | 331 => 163 | 332 => 164 | 215 => 141 | 343 => 166 | n => n, fun | 28 => 22 | 3 => 3 | 46 => 104 | 0 => 0 | 51 => 133 | 53 => 136 | 4 => 4 | 183 => 159 | 182 => 158 | 131 => 163 | 5 => 5 | 9 => 9 | 218 => 170 | 222 => 174 | 228 => 176 | 229 => 139 | n => n, fun | n => n⟩
theorem M3 : Go.Proofs.Lays.n189 Tryz.prog Dg := {
 mixed := by kernel_rfl,
 f125 := Tryz.func140.trans (congrArg some (by kernel_rfl)),
 f128 := Tryz.func156.trans (congrArg some (by kernel_rfl)),
 f129 := Tryz.func157.trans (congrArg some (by kernel_rfl)),
 f189 := Tryz.func125.trans (congrArg some (by kernel_rfl)),
 f215 := Tryz.func141.trans (congrArg some (by kernel_rfl)),
 f216 := Tryz.func153.trans (congrArg some (by kernel_rfl)),
 f257 := Tryz.func139.trans (congrArg some (by kernel_rfl)),
 f294 := Tryz.func147.trans (congrArg some (by kernel_rfl)),
 f295 := Tryz.func148.trans (congrArg some (by kernel_rfl)),
 f296 := Tryz.func149.trans (congrArg some (by kernel_rfl)),
 f297 := Tryz.func150.trans (congrArg some (by kernel_rfl)),
 f298 := Tryz.func151.trans (congrArg some (by kernel_rfl)),
 f299 := Tryz.func152.trans (congrArg some (by kernel_rfl)),
 f300 := Tryz.func154.trans (congrArg some (by kernel_rfl)),
 f301 := Tryz.func155.trans (congrArg some (by kernel_rfl)),
 f328 := Tryz.func160.trans (congrArg some (by kernel_rfl)),
 f329 := Tryz.func161.trans (congrArg some (by kernel_rfl)),
 f330 := Tryz.func162.trans (congrArg some (by kernel_rfl)),
 f331 := Tryz.func163.trans (congrArg some (by kernel_rfl)),
 f332 := Tryz.func164.trans (congrArg some (by kernel_rfl)),
 f343 := Tryz.func166.trans (congrArg some (by kernel_rfl)),
 t0 := Tryz.underlying0,
 a0 := Tryz.isAgg0,
 z0 := Tryz.sizeOf0,
 v0 := Tryz.zeroValue0,
 t3 := Tryz.underlying3,
 a3 := Tryz.isAgg3,
 z3 := Tryz.sizeOf3,
 v3 := Tryz.zeroValue3,
 t4 := Tryz.underlying4,
 a4 := Tryz.isAgg4,
 z4 := Tryz.sizeOf4,
 v4 := Tryz.zeroValue4,
 t5 := Tryz.underlying5,
 a5 := Tryz.isAgg5,
 z5 := Tryz.sizeOf5,
 v5 := Tryz.zeroValue5,
 t9 := Tryz.underlying9,
 a9 := Tryz.isAgg9,
 z9 := Tryz.sizeOf9,
 v9 := Tryz.zeroValue9,
 t28 := Tryz.underlying22,
 a28 := Tryz.isAgg22,
 z28 := Tryz.sizeOf22,
 v28 := Tryz.zeroValue22,
 t46 := Tryz.underlying104,
 a46 := Tryz.isAgg104,
 z46 := Tryz.sizeOf104,
 v46 := Tryz.zeroValue104,
 t51 := Tryz.underlying133,
 a51 := Tryz.isAgg133,
 z51 := Tryz.sizeOf133,
 v51 := Tryz.zeroValue133,
 t53 := Tryz.underlying136,
 a53 := Tryz.isAgg136,
 z53 := Tryz.sizeOf136,
 v53 := Tryz.zeroValue136,
 t131 := Tryz.underlying163,
 a131 := Tryz.isAgg163,
 z131 := Tryz.sizeOf163,
 v131 := Tryz.zeroValue163,
 t182 := Tryz.underlying158,
 a182 := Tryz.isAgg158,
 z182 := Tryz.sizeOf158,
 v182 := Tryz.zeroValue158,
 t183 := Tryz.underlying159,
 a183 := Tryz.isAgg159,
 z183 := Tryz.sizeOf159,
 v183 := Tryz.zeroValue159,
 t218 := Tryz.underlying170,
 a218 := Tryz.isAgg170,
 z218 := Tryz.sizeOf170,
 v218 := Tryz.zeroValue170,
 t222 := Tryz.underlying174,
 a222 := Tryz.isAgg174,
 z222 := Tryz.sizeOf174,
 v222 := Tryz.zeroValue174,
 t228 := Tryz.underlying176,
 a228 := Tryz.isAgg176,
 z228 := Tryz.sizeOf176,
 v228 := Tryz.zeroValue176,
 t229 := Tryz.underlying139,
 a229 := Tryz.isAgg139,
 z229 := Tryz.sizeOf139,
 v229 := Tryz.zeroValue139 }
def zb : Go.Shelf.Ren := ⟨fun | 6 => 91 | 8 => 124 | 9 => 125 | 11 => 138 | 13 => 140 | 12 => 139 | 23 => 156 | 24 => 157 | 14 => 147 | 15 => 148 | 16 => 149 | 17 => 150 | 18 => 151 | 19 => 152 | 20 => 153 | 21 => 154 | 22 => 155 | 25 => 160 | 26 => 161 | 27 => 162 | 28 => 163 | 29 => 164 | 30 => 141 | 31 => 166 | n => n, fun | 26 => 3 | 28 => 113 | 24 => 22 | 0 => 0 | 3 => 3 | 37 => 104 | 48 => 133 | 50 => 136 | 4 => 4 | 40 => 159 | 39 => 158 | 45 => 163 | 5 => 5 | 9 => 9 | 51 => 170 | 55 => 174 | 57 => 176 | 58 => 139 | 33 => 62 | n => n, fun | n => n⟩
theorem HF : Go.Proofs.SlLaysZI.n6 Tryz.prog zb := {
 f6 := ⟨"slices.Sorted[int]", by kernel_rfl, Tryz.func91.trans (congrArg some (by kernel_rfl))⟩,
 f8 := ⟨"slices.Collect[int]", by kernel_rfl, Tryz.func124.trans (congrArg some (by kernel_rfl))⟩,
 f11 := ⟨"slices.AppendSeq[[]int,int]", by kernel_rfl, Tryz.func138.trans (congrArg some (by kernel_rfl))⟩,
 mixed := by kernel_rfl,
 t0 := Tryz.underlying0,
 a0 := Tryz.isAgg0,
 z0 := Tryz.sizeOf0,
 v0 := Tryz.zeroValue0,
 t24 := Tryz.underlying22,
 a24 := Tryz.isAgg22,
 z24 := Tryz.sizeOf22,
 v24 := Tryz.zeroValue22,
 t26 := Tryz.underlying3,
 a26 := Tryz.isAgg3,
 z26 := Tryz.sizeOf3,
 v26 := Tryz.zeroValue3,
 t28 := Tryz.underlying113,
 a28 := Tryz.isAgg113,
 z28 := Tryz.sizeOf113,
 v28 := Tryz.zeroValue113,
 i26 := by kernel_rfl }
section
open Go.RowKit Go.Shelf Go.Maps Go.Sort Go.Proofs
/- the iterator of slices.Values at this program -/
set_option maxRecDepth 100000 in
set_option maxHeartbeats 2000000 in
theorem ZZ (n l Bs : Nat) (hn : 1 ≤ n) (W0 : World) (b off len cap : Nat) (zs : List Int) (hlen : zs.length = len) (hreach : len * 8 ≤ 140737488351232) (hb : b < W0.heap.size) (J : List Int → World → Prop)
 (hJ : ∀ s W1, J s W1 → Below W0.heap.size W0 W1)
 (hY : ∀ pre x W1, J pre W1 → pre.length < zs.length → YieldAt Fence.wide (n - 1) Tryz.prog l #[encZ x] W1 fun e W' => e = .returned (.bool true) ∧ J (pre ++ [x]) W' ∧ KeepsWalks W1 W')
 (W : World) (hBs : W.cell? ⟨Bs, 0, none⟩ = some (.slice (some ⟨b, off, none⟩) len cap)) (hc : ∀ j, j < len → W0.cell? ⟨b, off + j, none⟩ = some (.int .i64 (zs[j]?.getD 0))) (h0 : J [] W) :
 CallsIn Fence.wide n Tryz.prog 126 #[.func (.yield l) #[] #[], .pointer (some ⟨Bs, 0, none⟩)] W fun e W' => (∃ v, e = .returned v) ∧ J zs W' := by
 have step : ∀ k, k < zs.length → zs.take k ++ [zs[k]?.getD 0] = zs.take (k + 1) := fun k hk => by
  rw [List.take_succ_eq_append_getElem hk]; simp [hk]
 refine callsIn_of_wp Tryz.func126 rfl trivial ?_ rfl
 simp only [Tryz.ntmps126, List.size_toArray, List.length_cons, List.length_nil, Nat.reduceAdd, Nat.reduceSub, Array.replicate_succ, Array.replicate_zero, List.push_toArray, List.append_toArray, List.nil_append, List.cons_append]
 gi_wp2
 gi_loopw [7] (fun i wr => ∃ k : Nat, k ≤ len ∧ i = .int .i64 k ∧ J (zs.take k) wr)
  (fun i _ => len - (intOf i).toNat)
 case atStart => exact ⟨0, Nat.zero_le _, rfl, h0⟩
 case round =>
  obtain ⟨k, hk, rfl, hJs⟩ := hrel
  by_cases hlt : k < len
  · have hcx : wr.cell? ⟨b, off + k, none⟩ = some (.int .i64 (zs[k]?.getD 0)) := ((hJ _ _ hJs).cell (p := ⟨b, off + k, none⟩) hb).trans (hc k hlt)
    have st := step k (by omega)
    generalize zs[k]?.getD 0 = x at hcx st
    obtain ⟨fn, tmps, assign, body, hy, hR⟩ := hY _ x wr hJs (by rw [List.length_take]; omega)
    clear step
    gi_wp2
    refine hR.mono ?_
    rintro e W3 ⟨rfl, hJ3, -⟩
    gi_wp2
    go_roundw
    case rel => exact ⟨k + 1, by omega, by simp, by rw [← st]; exact hJ3⟩
    case measure => simp [intOf]; omega
  · obtain rfl : k = len := by omega
    gi_wp2
    go_end0
    exact ⟨⟨_, rfl⟩, by rw [← hlen, List.take_length] at hJs; exact hJs⟩
set_option maxRecDepth 100000 in
set_option maxHeartbeats 1000000 in
theorem Z0 (n l Bs : Nat) (p : Option Addr) (cap : Nat) (J : List Int → World → Prop) (W : World) (hBs : W.cell? ⟨Bs, 0, none⟩ = some (.slice p 0 cap)) (h0 : J [] W) :
 CallsIn Fence.wide n Tryz.prog 126 #[.func (.yield l) #[] #[], .pointer (some ⟨Bs, 0, none⟩)] W fun e W' => (∃ v, e = .returned v) ∧ J [] W' := by
 refine callsIn_of_wp Tryz.func126 rfl trivial ?_ rfl
 simp only [Tryz.ntmps126, List.size_toArray, List.length_cons, List.length_nil, Nat.reduceAdd, Nat.reduceSub, Array.replicate_succ, Array.replicate_zero, List.push_toArray, List.append_toArray, List.nil_append, List.cons_append]
 gi_wp2
 gi_loopw [7] (fun i wr => i = .int .i64 0 ∧ J [] wr) (fun _ _ => 0)
 case atStart => exact ⟨rfl, h0⟩
 case round =>
  obtain ⟨rfl, hJs⟩ := hrel
  gi_wp2
  go_end0
  exact ⟨⟨_, rfl⟩, hJs⟩
theorem RD : Ou Tryz.prog 126 := by
 intro n Bs sv zs w hn hreach hBs hcell hI l J W hW hJ hY h0
 have hc' := (hW.cell (p := ⟨Bs, 0, none⟩) hBs).trans hcell
 rcases hI with ⟨p, cap, rfl, rfl⟩ | ⟨b, off, cap, rfl, hb, hcs⟩
 · exact Z0 n l Bs p cap J W hc' h0
 · exact ZZ n l Bs hn w b off zs.length cap zs rfl hreach hb J hJ hY W hc' hcs h0
end
theorem M4 : ∀ j, Names.ρ 260 = some j → tD Tryz.prog j [2, N.aM] := fun j hj => by
 have e : (Names.ρ 260 : Option Nat) = some 91 := by kernel_rfl
 rw [e] at hj; cases hj; exact ED HF M3 (by kernel_rfl) (Go.Proofs.enters_of Tryz.func125 (by kernel_rfl) rfl) (by kernel_rfl) (Go.Proofs.enters_of Tryz.func126 (by kernel_rfl) rfl) RD
def KJ : Go.Shelf.Ren := ⟨fun | 8 => 132 | 11 => 145 | n => n, fun | 0 => 0 | 24 => 42 | 26 => 56 | 28 => 121 | 33 => 86 | n => n, fun n => n⟩
theorem Z1 : Go.Proofs.VI Tryz.prog KJ := {
 mixed := by kernel_rfl,
 f8 := ⟨"slices.Collect[minecontrol/api.World]", by kernel_rfl, Tryz.func132.trans (congrArg some (by kernel_rfl))⟩,
 f11 := ⟨"slices.AppendSeq[[]minecontrol/api.World,minecontrol/api.World]", by kernel_rfl, Tryz.func145.trans (congrArg some (by kernel_rfl))⟩,
 t0 := Tryz.underlying0,
 a0 := Tryz.isAgg0,
 z0 := Tryz.sizeOf0,
 v0 := Tryz.zeroValue0,
 t24 := Tryz.underlying42,
 a24 := Tryz.isAgg42,
 z24 := Tryz.sizeOf42,
 v24 := Tryz.zeroValue42,
 t26 := ⟨_, Tryz.underlying56⟩,
 a26 := Tryz.isAgg56,
 z26 := Tryz.sizeOf56,
 v26 := Tryz.zeroValue56,
 t28 := Tryz.underlying121,
 a28 := Tryz.isAgg121,
 z28 := Tryz.sizeOf121,
 v28 := Tryz.zeroValue121,
 i26 := by kernel_rfl }
section
open Go.RowKit Go.Shelf Go.Maps Go.Sort Go.Proofs
/- the iterator of slices.Values of structures of two cells at this program -/
set_option maxRecDepth 100000 in
set_option maxHeartbeats 2000000 in
theorem VK (n l Bs : Nat) (hn : 1 ≤ n) (W0 : World) (b off len cap : Nat) (zs : List (Value × Value)) (hlen : zs.length = len) (hone : ∀ x ∈ zs, x.1.oneCell' = true ∧ x.2.oneCell' = true) (hreach : len * 48 ≤ 140737488351232) (hb : b < W0.heap.size) (J : List (Value × Value) → World → Prop)
 (hJ : ∀ s W1, J s W1 → Below W0.heap.size W0 W1) (hA : ∀ s W1 o, J s W1 → J s (W1.alloc o))
 (hY : ∀ pre x W1, J pre W1 → pre.length < zs.length → x ∈ zs → YieldAt Fence.wide (n - 1) Tryz.prog l #[VH x] W1 fun e W' => e = .returned (.bool true) ∧ J (pre ++ [x]) W' ∧ KeepsWalks W1 W')
 (W : World) (hBs : W.cell? ⟨Bs, 0, none⟩ = some (.slice (some ⟨b, off, none⟩) len cap)) (hc : ∀ j p, zs[j]? = some p → W0.cell? ⟨b, off + j * 2, none⟩ = some p.1 ∧ W0.cell? ⟨b, off + j * 2 + 1, none⟩ = some p.2) (h0 : J [] W) :
 CallsIn Fence.wide n Tryz.prog 134 #[.func (.yield l) #[] #[], .pointer (some ⟨Bs, 0, none⟩)] W fun e W' => (∃ v, e = .returned v) ∧ J zs W' := by
 have step : ∀ k x, zs[k]? = some x → zs.take k ++ [x] = zs.take (k + 1) := fun k x hk => by
  rw [List.take_add_one, hk]; rfl
 refine callsIn_of_wp Tryz.func134 rfl trivial ?_ rfl
 simp only [Tryz.ntmps134, List.size_toArray, List.length_cons, List.length_nil, Nat.reduceAdd, Nat.reduceSub, Array.replicate_succ, Array.replicate_zero, List.push_toArray, List.append_toArray, List.nil_append, List.cons_append]
 gi_wp2
 gi_loopw [7] (fun i wr => ∃ k : Nat, k ≤ len ∧ i = .int .i64 k ∧ J (zs.take k) wr)
  (fun i _ => len - (intOf i).toNat)
 case atStart => exact ⟨0, Nat.zero_le _, rfl, h0⟩
 case round =>
  obtain ⟨k, hk, rfl, hJs⟩ := hrel
  by_cases hlt : k < len
  · obtain ⟨x, hx⟩ : ∃ x, zs[k]? = some x := ⟨_, List.getElem?_eq_getElem (by omega)⟩
    have hcx0 : wr.cell? ⟨b, off + k * 2, none⟩ = some x.1 := ((hJ _ _ hJs).cell (p := ⟨b, off + k * 2, none⟩) hb).trans (hc k x hx).1
    have hcx1 : wr.cell? ⟨b, off + k * 2 + 1, none⟩ = some x.2 := ((hJ _ _ hJs).cell (p := ⟨b, off + k * 2 + 1, none⟩) hb).trans (hc k x hx).2
    have hm : x ∈ zs := List.mem_of_getElem? hx
    have st := step k x hx
    obtain ⟨hx1, hx2⟩ := hone x hm
    have hst := CY Tryz.prog wr x.1 x.2 (.slice none 0 0) (.slice none 0 0) 56 hx1 hx2
    have cA0 : (wr.alloc (.cells #[x.1, x.2] 56)).cell? ⟨wr.heap.size, 0, none⟩ = some x.1 := lz wr x.1 x.2 56 0 x.1 rfl
    have cA1 : (wr.alloc (.cells #[x.1, x.2] 56)).cell? ⟨wr.heap.size, 1, none⟩ = some x.2 := lz wr x.1 x.2 56 1 x.2 rfl
    obtain ⟨fn, tmps, assign, body, hy, hR⟩ := hY _ x _ (hA _ _ (.cells #[x.1, x.2] 56) hJs) (by rw [List.length_take]; omega) hm
    clear step hone hc
    gi_wp2
    refine hR.mono ?_
    rintro e W3 ⟨rfl, hJ3, -⟩
    gi_wp2
    go_roundw
    case rel => exact ⟨k + 1, by omega, by simp, by rw [← st]; exact hJ3⟩
    case measure => simp [intOf]; omega
  · obtain rfl : k = len := by omega
    gi_wp2
    go_end0
    exact ⟨⟨_, rfl⟩, by rw [← hlen, List.take_length] at hJs; exact hJs⟩
set_option maxRecDepth 100000 in
set_option maxHeartbeats 1000000 in
theorem VL (n l Bs : Nat) (p : Option Addr) (cap : Nat) (J : List (Value × Value) → World → Prop) (W : World) (hBs : W.cell? ⟨Bs, 0, none⟩ = some (.slice p 0 cap)) (h0 : J [] W) :
 CallsIn Fence.wide n Tryz.prog 134 #[.func (.yield l) #[] #[], .pointer (some ⟨Bs, 0, none⟩)] W fun e W' => (∃ v, e = .returned v) ∧ J [] W' := by
 refine callsIn_of_wp Tryz.func134 rfl trivial ?_ rfl
 simp only [Tryz.ntmps134, List.size_toArray, List.length_cons, List.length_nil, Nat.reduceAdd, Nat.reduceSub, Array.replicate_succ, Array.replicate_zero, List.push_toArray, List.append_toArray, List.nil_append, List.cons_append]
 gi_wp2
 gi_loopw [7] (fun i wr => i = .int .i64 0 ∧ J [] wr) (fun _ _ => 0)
 case atStart => exact ⟨rfl, h0⟩
 case round =>
  obtain ⟨rfl, hJs⟩ := hrel
  gi_wp2
  go_end0
  exact ⟨⟨_, rfl⟩, hJs⟩
theorem M5 : KH Tryz.prog 134 := by
 intro n Bs sv zs w hn hone hreach hBs hcell hI l J W hW hJ hA hY h0
 have hc' := (hW.cell (p := ⟨Bs, 0, none⟩) hBs).trans hcell
 rcases hI with ⟨p, cap, rfl, rfl⟩ | ⟨b, off, cap, rfl, hb, hcs⟩
 · exact VL n l Bs p cap J W hc' h0
 · exact VK n l Bs hn w b off zs.length cap zs rfl hone hreach hb J hJ hA hY W hc' hcs h0
end
theorem M6 : ∀ j, Names.ρ 300 = some j → tD Tryz.prog j [3, N.ak] := fun j hj => by
 have e : (Names.ρ 300 : Option Nat) = some 132 := by kernel_rfl
 rw [e] at hj; cases hj; exact CZ Z1 (by kernel_rfl) (Go.Proofs.enters_of Tryz.func134 (by kernel_rfl) rfl) M5
theorem M7 : ∀ x ∈ RC, ∀ j, Names.ρ x.1 = some j → tD Tryz.prog j x.2 := by
 intro x hx
 simp only [RC, List.mem_cons, List.not_mem_nil, or_false] at hx
 rcases hx with rfl | rfl
 · exact M4
 · exact M6
end Go.Proofs.YtljlbkjecjloaaaGreat
