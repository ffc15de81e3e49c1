/- MADE BY PROGRAM (lib.py): the numbers that the functions have in this program, and the check of each one. -/
import Derived.Test.YtljlbkjecjloaaaGreatProg
import Derived.Test.YtljlbkjecjloaaaGreatZPPP
import Derived.KernelRfl
set_option linter.all false
set_option maxRecDepth 100000
namespace Go.Proofs.YtljlbkjecjloaaaGreat
open Go.Ev
def real : List (Option Nat) := [none, some 8, none, some 10, some 11, none, none, none, some 17, some 12, some 38, none, some 15, none, none, some 26, some 19, none, none, some 37, some 44, some 35, some 45, some 13, none, none, none, none, some 55, none, some 16, none, none, none, none, some 75, some 25, some 30, some 33, some 68, some 86, some 87, some 88, some 82, some 77, some 83, some 89, some 42, none, some 57, none, some 70, none, some 80, some 107, none, some 59, some 60, some 61, some 76, some 78, some 112, some 27, some 122, some 118, some 109, some 108, some 113, some 116, some 51, some 117, some 40, some 115, some 135, some 46, some 99, some 90, some 123, none, none, none, none, none, none, none, none, none, none, none, none, none, none, none, none, some 18, none, none, none, none, none, none, none, none, none, none, some 72, none, none, none, none, none, some 23, none, none, none, none, none, none, some 58, none, none, none, none, none, none, none, none, none, none, none, none, none, none, none, none, none, none, none, none, none, none, none, none, none, none, some 101, none, none, some 131, none, none, none, none, none, none, none, none, none, none, none, some 41, none, none, none, none, none, none, some 39, none, none, some 85, none, none, some 84, none, none, some 121, some 119, none, none, none, none, none, none, none, none, none, none, none, some 106, some 97, none, none, none, some 102, none, none, none, none, some 129, some 130, some 128, some 94, none, some 100, none, none, none, some 143, some 144, some 142, some 71, some 114, some 136, some 137, none, none, none, none, none, none, none, none, none, none, none, none, none, none, none, none, none, none, none, none, none, none, none, none, none, none, none, none, none, none, none, none, none, none, none, none, none, none, none, none, none, none, some 47, none, none, some 91, some 92, some 93, some 95, some 49, some 96, none, some 126, some 127, some 98, some 141, none, none, none, none, none, none, none, none, none, none, none, none, none, none, none, none, none, none, some 52, some 54, none, none, none, none, none, none, some 103, some 104, some 105, some 132, some 133, some 134, some 146, some 158, some 159, some 165, some 167, some 52, none, none, none, none, some 7, some 9, some 14, some 21, none, some 31, some 32, some 34, some 36, some 43, some 48, some 50, some 53, none, none, none, some 69, some 73, some 74, some 79, some 81]
def tab : List (Option Go.Ev.Fn) := [none, some K.gT, none, some K.jd, some K.cB, none, none, none, some K.bX, some K.aB, some K.dm, none, some K.iF, none, none, some K.dz, some K.bU, none, none, some K.dg, some K.bq, some K.fO, some K.dF, some K.jx, none, none, none, none, some K.dA, none, some K.je, none, none, none, none, some K.ec, some K.dL, some K.dM, some K.cu, some K.bz, some K.gU, some K.dN, some K.gV, some K.dO, some K.cM, some K.gP, some K.cN, some K.b9, none, some K.az, none, some K.aM, none, some K.dw, some K.gp, none, some K.dn, some K.fm, some K.dP, some K.gq, some K.eD, some K.cQ, some K.cC, some K.gr, some K.cy, some K.eE, some K.bh, some K.bE, some K.bN, some K.ak, some K.bk, some K.eu, some K.dQ, some K.dh, some K.gu, some K.aD, some K.bV, some K.gW, none, none, none, none, none, none, none, none, none, none, none, none, none, none, none, none, some K.jg, none, none, none, none, none, none, none, none, none, none, some K.ef, none, none, none, none, none, some K.fg, none, none, none, none, none, none, some K.b8, none, none, none, none, none, none, none, none, none, none, none, none, none, none, none, none, none, none, none, none, none, none, none, none, none, none, some K.cT, none, none, some K.bG, none, none, none, none, none, none, none, none, none, none, none, some K.bc, none, none, none, none, none, none, some K.dR, none, none, some K.dD, none, none, some K.hU, none, none, some K.cU, some K.fo, none, none, none, none, none, none, none, none, none, none, none, some K.fp, some K.eh, none, none, none, some K.dt, none, none, none, none, some K.b7, some K.dS, some K.cG, some K.aX, none, some K.aU, some K.bY, none, none, some K.cW, some K.bf, some K.bH, some K.gQ, some K.jh, some K.ei, some K.hX, none, none, none, none, none, none, none, none, none, none, none, none, none, none, none, none, none, none, none, none, none, none, none, none, none, none, none, none, none, none, none, none, none, none, none, none, none, none, none, none, none, none, some K.eJ, none, none, some K.bS, some K.bg, some K.eZ, some K.aQ, some K.ae, some K.cZ, none, some K.aN, some K.bZ, some K.av, some K.cmp_isNaN_int, none, none, none, none, none, none, none, none, none, none, none, none, none, none, none, none, none, none, some K.jC, some K.fW, none, none, none, none, none, none, some K.aH, some K.aI, some K.a8, some K.bu, some K.aA, some K.aq, some K.aP, some K.ay, some K.aE, some K.a7, some K.aJ, some K.cX, none, none, none, none, some K.b5, some K.fX, some K.qP, some K.fq, none, some K.ft, some K.eL, some K.fv, some K.lr, some K.lu, some K.eM, some K.cH, some K.ji, none, none, none, some K.cI, some K.aF, some K.aK, some K.c7, some K.b6]
instance names : Names := ⟨fun f => (real[f]?).join⟩
instance lib : Lib := ⟨fun f => (tab[f]?).join⟩
instance has1 : cn := ⟨rfl, rfl, rfl, rfl, rfl, rfl, rfl, rfl, rfl, rfl, rfl, rfl, rfl, rfl, rfl, rfl, rfl, rfl⟩
instance has2 : bR := ⟨rfl, rfl, rfl, rfl, rfl, rfl, rfl, rfl, rfl, rfl, rfl, rfl, rfl, rfl, rfl, rfl, rfl, rfl, rfl, rfl, rfl, rfl, rfl, rfl, rfl, rfl, rfl, rfl, rfl, rfl, rfl, rfl, rfl, rfl, rfl, rfl, rfl⟩
instance has3 : gL := ⟨rfl⟩
instance has4 : gF := ⟨rfl, rfl, rfl⟩
instance has5 : km := ⟨rfl, rfl⟩
instance has6 : gg := ⟨rfl, rfl, rfl⟩
instance has7 : gh := ⟨rfl, rfl, rfl⟩
instance has8 : i5 := ⟨rfl, rfl⟩
instance has9 : gK := ⟨rfl, rfl, rfl, rfl, rfl, rfl, rfl, rfl, rfl, rfl, rfl, rfl, rfl, rfl⟩
instance has10 : fI := ⟨⟩
instance has11 : eO := ⟨rfl, rfl, rfl, rfl, rfl, rfl, rfl, rfl, rfl, rfl, rfl⟩
instance has12 : lB := ⟨⟩
instance has13 : gD := ⟨rfl, rfl, rfl, rfl, rfl, rfl, rfl, rfl, rfl, rfl, rfl, rfl, rfl, rfl⟩
instance has14 : mS := ⟨rfl, rfl, rfl, rfl, rfl, rfl, rfl, rfl, rfl, rfl, rfl, rfl⟩
instance has15 : rJ := ⟨rfl, rfl, rfl, rfl, rfl⟩
theorem C7 : aY Tryz.prog Tryz.f8 K.gT = true := by kernel_rfl
theorem EO : aY Tryz.prog Tryz.f10 K.jd = true := by kernel_rfl
theorem wN : aY Tryz.prog Tryz.f11 K.cB = true := by kernel_rfl
theorem uG : aY Tryz.prog Tryz.f17 K.bX = true := by kernel_rfl
theorem wO : aY Tryz.prog Tryz.f12 K.aB = true := by kernel_rfl
theorem y9 : aY Tryz.prog Tryz.f38 K.dm = true := by kernel_rfl
theorem EP : aY Tryz.prog Tryz.f15 K.iF = true := by kernel_rfl
theorem yP : aY Tryz.prog Tryz.f26 K.dz = true := by kernel_rfl
theorem wP : aY Tryz.prog Tryz.f19 K.bU = true := by kernel_rfl
theorem A9 : aY Tryz.prog Tryz.f37 K.dg = true := by kernel_rfl
theorem wQ : aY Tryz.prog Tryz.f44 K.bq = true := by kernel_rfl
theorem ER : aY Tryz.prog Tryz.f35 K.fO = true := by kernel_rfl
theorem za : aY Tryz.prog Tryz.f45 K.dF = true := by kernel_rfl
theorem HP : aY Tryz.prog Tryz.f13 K.jx = true := by kernel_rfl
theorem Ba : aY Tryz.prog Tryz.f55 K.dA = true := by kernel_rfl
theorem ES : aY Tryz.prog Tryz.f16 K.je = true := by kernel_rfl
theorem zb : aY Tryz.prog Tryz.f75 K.ec = true := by kernel_rfl
theorem Bb : aY Tryz.prog Tryz.f25 K.dL = true := by kernel_rfl
theorem C8 : aY Tryz.prog Tryz.f30 K.dM = true := by kernel_rfl
theorem Bc : aY Tryz.prog Tryz.f33 K.cu = true := by kernel_rfl
theorem vw : aY Tryz.prog Tryz.f68 K.bz = true := by kernel_rfl
theorem C9 : aY Tryz.prog Tryz.f86 K.gU = true := by kernel_rfl
theorem Bd : aY Tryz.prog Tryz.f87 K.dN = true := by kernel_rfl
theorem Da : aY Tryz.prog Tryz.f88 K.gV = true := by kernel_rfl
theorem Be : aY Tryz.prog Tryz.f82 K.dO = true := by kernel_rfl
theorem zc : aY Tryz.prog Tryz.f77 K.cM = true := by kernel_rfl
theorem ET : aY Tryz.prog Tryz.f83 K.gP = true := by kernel_rfl
theorem zd : aY Tryz.prog Tryz.f89 K.cN = true := by kernel_rfl
theorem Bf : aY Tryz.prog Tryz.f42 K.b9 = true := by kernel_rfl
theorem lN : aY Tryz.prog Tryz.f57 K.az = true := by kernel_rfl
theorem oo : aY Tryz.prog Tryz.f70 K.aM = true := by kernel_rfl
theorem wR : aY Tryz.prog Tryz.f80 K.dw = true := by kernel_rfl
theorem Db : aY Tryz.prog Tryz.f107 K.gp = true := by kernel_rfl
theorem ze : aY Tryz.prog Tryz.f59 K.dn = true := by kernel_rfl
theorem Bg : aY Tryz.prog Tryz.f60 K.fm = true := by kernel_rfl
theorem Bh : aY Tryz.prog Tryz.f61 K.dP = true := by kernel_rfl
theorem Dc : aY Tryz.prog Tryz.f76 K.gq = true := by kernel_rfl
theorem Bi : aY Tryz.prog Tryz.f78 K.eD = true := by kernel_rfl
theorem Dd : aY Tryz.prog Tryz.f112 K.cQ = true := by kernel_rfl
theorem wS : aY Tryz.prog Tryz.f27 K.cC = true := by kernel_rfl
theorem De : aY Tryz.prog Tryz.f122 K.gr = true := by kernel_rfl
theorem Bj : aY Tryz.prog Tryz.f118 K.cy = true := by kernel_rfl
theorem Bk : aY Tryz.prog Tryz.f109 K.eE = true := by kernel_rfl
theorem ng : aY Tryz.prog Tryz.f108 K.bh = true := by kernel_rfl
theorem qf : aY Tryz.prog Tryz.f113 K.bE = true := by kernel_rfl
theorem uH : aY Tryz.prog Tryz.f116 K.bN = true := by kernel_rfl
theorem ik : aY Tryz.prog Tryz.f51 K.ak = true := by kernel_rfl
theorem rK : aY Tryz.prog Tryz.f117 K.bk = true := by kernel_rfl
theorem HQ : aY Tryz.prog Tryz.f40 K.eu = true := by kernel_rfl
theorem Bl : aY Tryz.prog Tryz.f115 K.dQ = true := by kernel_rfl
theorem Bm : aY Tryz.prog Tryz.f135 K.dh = true := by kernel_rfl
theorem Df : aY Tryz.prog Tryz.f46 K.gu = true := by kernel_rfl
theorem iV : aY Tryz.prog Tryz.f99 K.aD = true := by kernel_rfl
theorem zf : aY Tryz.prog Tryz.f90 K.bV = true := by kernel_rfl
theorem Dg : aY Tryz.prog Tryz.f123 K.gW = true := by kernel_rfl
theorem EU : aY Tryz.prog Tryz.f18 K.jg = true := by kernel_rfl
theorem zg : aY Tryz.prog Tryz.f72 K.ef = true := by kernel_rfl
theorem Dh : aY Tryz.prog Tryz.f23 K.fg = true := by kernel_rfl
theorem zh : aY Tryz.prog Tryz.f58 K.b8 = true := by kernel_rfl
theorem vA : aY Tryz.prog Tryz.f101 K.cT = true := by kernel_rfl
theorem s0 : aY Tryz.prog Tryz.f131 K.bG = true := by kernel_rfl
theorem p6 : aY Tryz.prog Tryz.f41 K.bc = true := by kernel_rfl
theorem Di : aY Tryz.prog Tryz.f39 K.dR = true := by kernel_rfl
theorem yQ : aY Tryz.prog Tryz.f85 K.dD = true := by kernel_rfl
theorem Dj : aY Tryz.prog Tryz.f84 K.hU = true := by kernel_rfl
theorem vB : aY Tryz.prog Tryz.f121 K.cU = true := by kernel_rfl
theorem Bn : aY Tryz.prog Tryz.f119 K.fo = true := by kernel_rfl
theorem Bo : aY Tryz.prog Tryz.f106 K.fp = true := by kernel_rfl
theorem zi : aY Tryz.prog Tryz.f97 K.eh = true := by kernel_rfl
theorem zj : aY Tryz.prog Tryz.f102 K.dt = true := by kernel_rfl
theorem wT : aY Tryz.prog Tryz.f129 K.b7 = true := by kernel_rfl
theorem Dk : aY Tryz.prog Tryz.f130 K.dS = true := by kernel_rfl
theorem yR : aY Tryz.prog Tryz.f128 K.cG = true := by kernel_rfl
theorem qg : aY Tryz.prog Tryz.f94 K.aX = true := by kernel_rfl
theorem qh : aY Tryz.prog Tryz.f100 K.aU = true := by kernel_rfl
theorem vC : aY Tryz.prog Tryz.f143 K.cW = true := by kernel_rfl
theorem uI : aY Tryz.prog Tryz.f144 K.bf = true := by kernel_rfl
theorem vD : aY Tryz.prog Tryz.f142 K.bH = true := by kernel_rfl
theorem EW : aY Tryz.prog Tryz.f71 K.gQ = true := by kernel_rfl
theorem EX : aY Tryz.prog Tryz.f114 K.jh = true := by kernel_rfl
theorem EY : aY Tryz.prog Tryz.f136 K.ei = true := by kernel_rfl
theorem Dl : aY Tryz.prog Tryz.f137 K.hX = true := by kernel_rfl
theorem Bp : aY Tryz.prog Tryz.f47 K.eJ = true := by kernel_rfl
theorem s6 : aY Tryz.prog Tryz.f91 K.bS = true := by kernel_rfl
theorem p7 : aY Tryz.prog Tryz.f92 K.bg = true := by kernel_rfl
theorem zk : aY Tryz.prog Tryz.f93 K.eZ = true := by kernel_rfl
theorem oO : aY Tryz.prog Tryz.f95 K.aQ = true := by kernel_rfl
theorem eV : aY Tryz.prog Tryz.f49 K.ae = true := by kernel_rfl
theorem yS : aY Tryz.prog Tryz.f96 K.cZ = true := by kernel_rfl
theorem oq : aY Tryz.prog Tryz.f126 K.aN = true := by kernel_rfl
theorem vE : aY Tryz.prog Tryz.f127 K.bZ = true := by kernel_rfl
theorem fy : aY Tryz.prog Tryz.f98 K.av = true := by kernel_rfl
theorem yT : aY Tryz.prog Tryz.f141 K.cmp_isNaN_int = true := by kernel_rfl
theorem Bq : aY Tryz.prog Tryz.f52 K.jC = true := by kernel_rfl
theorem Br : aY Tryz.prog Tryz.f54 K.fW = true := by kernel_rfl
theorem jK : aY Tryz.prog Tryz.f103 K.aH = true := by kernel_rfl
theorem jL : aY Tryz.prog Tryz.f104 K.aI = true := by kernel_rfl
theorem yU : aY Tryz.prog Tryz.f105 K.a8 = true := by kernel_rfl
theorem nh : aY Tryz.prog Tryz.f132 K.bu = true := by kernel_rfl
theorem gO : aY Tryz.prog Tryz.f133 K.aA = true := by kernel_rfl
theorem ja : aY Tryz.prog Tryz.f134 K.aq = true := by kernel_rfl
theorem kv : aY Tryz.prog Tryz.f146 K.aP = true := by kernel_rfl
theorem iJ : aY Tryz.prog Tryz.f158 K.ay = true := by kernel_rfl
theorem jX : aY Tryz.prog Tryz.f159 K.aE = true := by kernel_rfl
theorem kx : aY Tryz.prog Tryz.f165 K.a7 = true := by kernel_rfl
theorem jM : aY Tryz.prog Tryz.f167 K.aJ = true := by kernel_rfl
theorem wU : aY Tryz.prog Tryz.f52 K.cX = true := by kernel_rfl
theorem vF : aY Tryz.prog Tryz.f7 K.b5 = true := by kernel_rfl
theorem Bt : aY Tryz.prog Tryz.f9 K.fX = true := by kernel_rfl
theorem KR : aY Tryz.prog Tryz.f14 K.qP = true := by kernel_rfl
theorem EZ : aY Tryz.prog Tryz.f21 K.fq = true := by kernel_rfl
theorem Bu : aY Tryz.prog Tryz.f31 K.ft = true := by kernel_rfl
theorem Bv : aY Tryz.prog Tryz.f32 K.eL = true := by kernel_rfl
theorem Bw : aY Tryz.prog Tryz.f34 K.fv = true := by kernel_rfl
theorem E1 : aY Tryz.prog Tryz.f36 K.lr = true := by kernel_rfl
theorem E2 : aY Tryz.prog Tryz.f43 K.lu = true := by kernel_rfl
theorem Bx : aY Tryz.prog Tryz.f48 K.eM = true := by kernel_rfl
theorem yV : aY Tryz.prog Tryz.f50 K.cH = true := by kernel_rfl
theorem E3 : aY Tryz.prog Tryz.f53 K.ji = true := by kernel_rfl
theorem yW : aY Tryz.prog Tryz.f69 K.cI = true := by kernel_rfl
theorem jY : aY Tryz.prog Tryz.f73 K.aF = true := by kernel_rfl
theorem ky : aY Tryz.prog Tryz.f74 K.aK = true := by kernel_rfl
theorem yX : aY Tryz.prog Tryz.f79 K.c7 = true := by kernel_rfl
theorem vG : aY Tryz.prog Tryz.f81 K.b6 = true := by kernel_rfl
theorem XL : DN Tryz.prog real tab :=
 ⟨trivial, ⟨⟨by kernel_rfl, ai Tryz.func8 C7⟩, ⟨trivial, ⟨⟨by kernel_rfl, ai Tryz.func10 EO⟩, ⟨⟨by kernel_rfl, ai Tryz.func11 wN⟩, ⟨trivial, ⟨trivial, ⟨trivial, ⟨⟨by kernel_rfl, ai Tryz.func17 uG⟩, ⟨⟨by kernel_rfl, ai Tryz.func12 wO⟩, ⟨⟨by kernel_rfl, ai Tryz.func38 y9⟩, ⟨trivial, ⟨⟨by kernel_rfl, ai Tryz.func15 EP⟩, ⟨trivial, ⟨trivial, ⟨⟨by kernel_rfl, ai Tryz.func26 yP⟩, ⟨⟨by kernel_rfl, ai Tryz.func19 wP⟩, ⟨trivial, ⟨trivial, ⟨⟨by kernel_rfl, ai Tryz.func37 A9⟩, ⟨⟨by kernel_rfl, ai Tryz.func44 wQ⟩, ⟨⟨by kernel_rfl, ai Tryz.func35 ER⟩, ⟨⟨by kernel_rfl, ai Tryz.func45 za⟩, ⟨⟨by kernel_rfl, ai Tryz.func13 HP⟩, ⟨trivial, ⟨trivial, ⟨trivial, ⟨trivial, ⟨⟨by kernel_rfl, ai Tryz.func55 Ba⟩, ⟨trivial, ⟨⟨by kernel_rfl, ai Tryz.func16 ES⟩, ⟨trivial, ⟨trivial, ⟨trivial, ⟨trivial, ⟨⟨by kernel_rfl, ai Tryz.func75 zb⟩, ⟨⟨by kernel_rfl, ai Tryz.func25 Bb⟩, ⟨⟨by kernel_rfl, ai Tryz.func30 C8⟩, ⟨⟨by kernel_rfl, ai Tryz.func33 Bc⟩, ⟨⟨by kernel_rfl, ai Tryz.func68 vw⟩, ⟨⟨by kernel_rfl, ai Tryz.func86 C9⟩, ⟨⟨by kernel_rfl, ai Tryz.func87 Bd⟩, ⟨⟨by kernel_rfl, ai Tryz.func88 Da⟩, ⟨⟨by kernel_rfl, ai Tryz.func82 Be⟩, ⟨⟨by kernel_rfl, ai Tryz.func77 zc⟩, ⟨⟨by kernel_rfl, ai Tryz.func83 ET⟩, ⟨⟨by kernel_rfl, ai Tryz.func89 zd⟩, ⟨⟨by kernel_rfl, ai Tryz.func42 Bf⟩, ⟨trivial, ⟨⟨by kernel_rfl, ai Tryz.func57 lN⟩, ⟨trivial, ⟨⟨by kernel_rfl, ai Tryz.func70 oo⟩, ⟨trivial, ⟨⟨by kernel_rfl, ai Tryz.func80 wR⟩, ⟨⟨by kernel_rfl, ai Tryz.func107 Db⟩, ⟨trivial, ⟨⟨by kernel_rfl, ai Tryz.func59 ze⟩, ⟨⟨by kernel_rfl, ai Tryz.func60 Bg⟩, ⟨⟨by kernel_rfl, ai Tryz.func61 Bh⟩, ⟨⟨by kernel_rfl, ai Tryz.func76 Dc⟩, ⟨⟨by kernel_rfl, ai Tryz.func78 Bi⟩, ⟨⟨by kernel_rfl, ai Tryz.func112 Dd⟩, ⟨⟨by kernel_rfl, ai Tryz.func27 wS⟩, ⟨⟨by kernel_rfl, ai Tryz.func122 De⟩, ⟨⟨by kernel_rfl, ai Tryz.func118 Bj⟩, ⟨⟨by kernel_rfl, ai Tryz.func109 Bk⟩, ⟨⟨by kernel_rfl, ai Tryz.func108 ng⟩, ⟨⟨by kernel_rfl, ai Tryz.func113 qf⟩, ⟨⟨by kernel_rfl, ai Tryz.func116 uH⟩, ⟨⟨by kernel_rfl, ai Tryz.func51 ik⟩, ⟨⟨by kernel_rfl, ai Tryz.func117 rK⟩, ⟨⟨by kernel_rfl, ai Tryz.func40 HQ⟩, ⟨⟨by kernel_rfl, ai Tryz.func115 Bl⟩, ⟨⟨by kernel_rfl, ai Tryz.func135 Bm⟩, ⟨⟨by kernel_rfl, ai Tryz.func46 Df⟩, ⟨⟨by kernel_rfl, ai Tryz.func99 iV⟩, ⟨⟨by kernel_rfl, ai Tryz.func90 zf⟩, ⟨⟨by kernel_rfl, ai Tryz.func123 Dg⟩, ⟨trivial, ⟨trivial, ⟨trivial, ⟨trivial, ⟨trivial, ⟨trivial, ⟨trivial, ⟨trivial, ⟨trivial, ⟨trivial, ⟨trivial, ⟨trivial, ⟨trivial, ⟨trivial, ⟨trivial, ⟨trivial, ⟨⟨by kernel_rfl, ai Tryz.func18 EU⟩, ⟨trivial, ⟨trivial, ⟨trivial, ⟨trivial, ⟨trivial, ⟨trivial, ⟨trivial, ⟨trivial, ⟨trivial, ⟨trivial, ⟨⟨by kernel_rfl, ai Tryz.func72 zg⟩, ⟨trivial, ⟨trivial, ⟨trivial, ⟨trivial, ⟨trivial, ⟨⟨by kernel_rfl, ai Tryz.func23 Dh⟩, ⟨trivial, ⟨trivial, ⟨trivial, ⟨trivial, ⟨trivial, ⟨trivial, ⟨⟨by kernel_rfl, ai Tryz.func58 zh⟩, ⟨trivial, ⟨trivial, ⟨trivial, ⟨trivial, ⟨trivial, ⟨trivial, ⟨trivial, ⟨trivial, ⟨trivial, ⟨trivial, ⟨trivial, ⟨trivial, ⟨trivial, ⟨trivial, ⟨trivial, ⟨trivial, ⟨trivial, ⟨trivial, ⟨trivial, ⟨trivial, ⟨trivial, ⟨trivial, ⟨trivial, ⟨trivial, ⟨trivial, ⟨trivial, ⟨⟨by kernel_rfl, ai Tryz.func101 vA⟩, ⟨trivial, ⟨trivial, ⟨⟨by kernel_rfl, ai Tryz.func131 s0⟩, ⟨trivial, ⟨trivial, ⟨trivial, ⟨trivial, ⟨trivial, ⟨trivial, ⟨trivial, ⟨trivial, ⟨trivial, ⟨trivial, ⟨trivial, ⟨⟨by kernel_rfl, ai Tryz.func41 p6⟩, ⟨trivial, ⟨trivial, ⟨trivial, ⟨trivial, ⟨trivial, ⟨trivial, ⟨⟨by kernel_rfl, ai Tryz.func39 Di⟩, ⟨trivial, ⟨trivial, ⟨⟨by kernel_rfl, ai Tryz.func85 yQ⟩, ⟨trivial, ⟨trivial, ⟨⟨by kernel_rfl, ai Tryz.func84 Dj⟩, ⟨trivial, ⟨trivial, ⟨⟨by kernel_rfl, ai Tryz.func121 vB⟩, ⟨⟨by kernel_rfl, ai Tryz.func119 Bn⟩, ⟨trivial, ⟨trivial, ⟨trivial, ⟨trivial, ⟨trivial, ⟨trivial, ⟨trivial, ⟨trivial, ⟨trivial, ⟨trivial, ⟨trivial, ⟨⟨by kernel_rfl, ai Tryz.func106 Bo⟩, ⟨⟨by kernel_rfl, ai Tryz.func97 zi⟩, ⟨trivial, ⟨trivial, ⟨trivial, ⟨⟨by kernel_rfl, ai Tryz.func102 zj⟩, ⟨trivial, ⟨trivial, ⟨trivial, ⟨trivial, ⟨⟨by kernel_rfl, ai Tryz.func129 wT⟩, ⟨⟨by kernel_rfl, ai Tryz.func130 Dk⟩, ⟨⟨by kernel_rfl, ai Tryz.func128 yR⟩, ⟨⟨by kernel_rfl, ai Tryz.func94 qg⟩, ⟨trivial, ⟨⟨by kernel_rfl, ai Tryz.func100 qh⟩, ⟨trivial, ⟨trivial, ⟨trivial, ⟨⟨by kernel_rfl, ai Tryz.func143 vC⟩, ⟨⟨by kernel_rfl, ai Tryz.func144 uI⟩, ⟨⟨by kernel_rfl, ai Tryz.func142 vD⟩, ⟨⟨by kernel_rfl, ai Tryz.func71 EW⟩, ⟨⟨by kernel_rfl, ai Tryz.func114 EX⟩, ⟨⟨by kernel_rfl, ai Tryz.func136 EY⟩, ⟨⟨by kernel_rfl, ai Tryz.func137 Dl⟩, ⟨trivial, ⟨trivial, ⟨trivial, ⟨trivial, ⟨trivial, ⟨trivial, ⟨trivial, ⟨trivial, ⟨trivial, ⟨trivial, ⟨trivial, ⟨trivial, ⟨trivial, ⟨trivial, ⟨trivial, ⟨trivial, ⟨trivial, ⟨trivial, ⟨trivial, ⟨trivial, ⟨trivial, ⟨trivial, ⟨trivial, ⟨trivial, ⟨trivial, ⟨trivial, ⟨trivial, ⟨trivial, ⟨trivial, ⟨trivial, ⟨trivial, ⟨trivial, ⟨trivial, ⟨trivial, ⟨trivial, ⟨trivial, ⟨trivial, ⟨trivial, ⟨trivial, ⟨trivial, ⟨trivial, ⟨trivial, ⟨⟨by kernel_rfl, ai Tryz.func47 Bp⟩, ⟨trivial, ⟨trivial, ⟨⟨by kernel_rfl, ai Tryz.func91 s6⟩, ⟨⟨by kernel_rfl, ai Tryz.func92 p7⟩, ⟨⟨by kernel_rfl, ai Tryz.func93 zk⟩, ⟨⟨by kernel_rfl, ai Tryz.func95 oO⟩, ⟨⟨by kernel_rfl, ai Tryz.func49 eV⟩, ⟨⟨by kernel_rfl, ai Tryz.func96 yS⟩, ⟨trivial, ⟨⟨by kernel_rfl, ai Tryz.func126 oq⟩, ⟨⟨by kernel_rfl, ai Tryz.func127 vE⟩, ⟨⟨by kernel_rfl, ai Tryz.func98 fy⟩, ⟨⟨by kernel_rfl, ai Tryz.func141 yT⟩, ⟨trivial, ⟨trivial, ⟨trivial, ⟨trivial, ⟨trivial, ⟨trivial, ⟨trivial, ⟨trivial, ⟨trivial, ⟨trivial, ⟨trivial, ⟨trivial, ⟨trivial, ⟨trivial, ⟨trivial, ⟨trivial, ⟨trivial, ⟨trivial, ⟨⟨by kernel_rfl, ai Tryz.func52 Bq⟩, ⟨⟨by kernel_rfl, ai Tryz.func54 Br⟩, ⟨trivial, ⟨trivial, ⟨trivial, ⟨trivial, ⟨trivial, ⟨trivial, ⟨⟨by kernel_rfl, ai Tryz.func103 jK⟩, ⟨⟨by kernel_rfl, ai Tryz.func104 jL⟩, ⟨⟨by kernel_rfl, ai Tryz.func105 yU⟩, ⟨⟨by kernel_rfl, ai Tryz.func132 nh⟩, ⟨⟨by kernel_rfl, ai Tryz.func133 gO⟩, ⟨⟨by kernel_rfl, ai Tryz.func134 ja⟩, ⟨⟨by kernel_rfl, ai Tryz.func146 kv⟩, ⟨⟨by kernel_rfl, ai Tryz.func158 iJ⟩, ⟨⟨by kernel_rfl, ai Tryz.func159 jX⟩, ⟨⟨by kernel_rfl, ai Tryz.func165 kx⟩, ⟨⟨by kernel_rfl, ai Tryz.func167 jM⟩, ⟨⟨by kernel_rfl, ai Tryz.func52 wU⟩, ⟨trivial, ⟨trivial, ⟨trivial, ⟨trivial, ⟨⟨by kernel_rfl, ai Tryz.func7 vF⟩, ⟨⟨by kernel_rfl, ai Tryz.func9 Bt⟩, ⟨⟨by kernel_rfl, ai Tryz.func14 KR⟩, ⟨⟨by kernel_rfl, ai Tryz.func21 EZ⟩, ⟨trivial, ⟨⟨by kernel_rfl, ai Tryz.func31 Bu⟩, ⟨⟨by kernel_rfl, ai Tryz.func32 Bv⟩, ⟨⟨by kernel_rfl, ai Tryz.func34 Bw⟩, ⟨⟨by kernel_rfl, ai Tryz.func36 E1⟩, ⟨⟨by kernel_rfl, ai Tryz.func43 E2⟩, ⟨⟨by kernel_rfl, ai Tryz.func48 Bx⟩, ⟨⟨by kernel_rfl, ai Tryz.func50 yV⟩, ⟨⟨by kernel_rfl, ai Tryz.func53 E3⟩, ⟨trivial, ⟨trivial, ⟨trivial, ⟨⟨by kernel_rfl, ai Tryz.func69 yW⟩, ⟨⟨by kernel_rfl, ai Tryz.func73 jY⟩, ⟨⟨by kernel_rfl, ai Tryz.func74 ky⟩, ⟨⟨by kernel_rfl, ai Tryz.func79 yX⟩, ⟨⟨by kernel_rfl, ai Tryz.func81 vG⟩, trivial⟩⟩⟩⟩⟩⟩⟩⟩⟩⟩⟩⟩⟩⟩⟩⟩⟩⟩⟩⟩⟩⟩⟩⟩⟩⟩⟩⟩⟩⟩⟩⟩⟩⟩⟩⟩⟩⟩⟩⟩⟩⟩⟩⟩⟩⟩⟩⟩⟩⟩⟩⟩⟩⟩⟩⟩⟩⟩⟩⟩⟩⟩⟩⟩⟩⟩⟩⟩⟩⟩⟩⟩⟩⟩⟩⟩⟩⟩⟩⟩⟩⟩⟩⟩⟩⟩⟩⟩⟩⟩⟩⟩⟩⟩⟩⟩⟩⟩⟩⟩⟩⟩⟩⟩⟩⟩⟩⟩⟩⟩⟩⟩⟩⟩⟩⟩⟩⟩⟩⟩⟩⟩⟩⟩⟩⟩⟩⟩⟩⟩⟩⟩⟩⟩⟩⟩⟩⟩⟩⟩⟩⟩⟩⟩⟩⟩⟩⟩⟩⟩⟩⟩⟩⟩⟩⟩⟩⟩⟩⟩⟩⟩⟩⟩⟩⟩⟩⟩⟩⟩⟩⟩⟩⟩⟩⟩⟩⟩⟩⟩⟩⟩⟩⟩⟩⟩⟩⟩⟩⟩⟩⟩⟩⟩⟩⟩⟩⟩⟩⟩⟩⟩⟩⟩⟩⟩⟩⟩⟩⟩⟩⟩⟩⟩⟩⟩⟩⟩⟩⟩⟩⟩⟩⟩⟩⟩⟩⟩⟩⟩⟩⟩⟩⟩⟩⟩⟩⟩⟩⟩⟩⟩⟩⟩⟩⟩⟩⟩⟩⟩⟩⟩⟩⟩⟩⟩⟩⟩⟩⟩⟩⟩⟩⟩⟩⟩⟩⟩⟩⟩⟩⟩⟩⟩⟩⟩⟩⟩⟩⟩⟩⟩⟩⟩⟩⟩⟩⟩⟩⟩⟩⟩⟩⟩⟩⟩⟩⟩⟩⟩⟩⟩⟩⟩⟩⟩⟩⟩⟩⟩⟩⟩⟩⟩⟩⟩⟩⟩⟩⟩⟩⟩⟩⟩⟩⟩⟩⟩⟩⟩⟩⟩⟩⟩
def Sl : List (Nat × List Nat) := [(260, [2, N.aN]), (300, [3, N.aq])]
def Dm : Go.Shelf.Ren := ⟨fun | 189 => 125 | 125 => 140 | 257 => 139 | 128 => 156 | 129 => 157 | 294 => 147 | 295 => 148 | 296 => 149 | 297 => 150 | 298 => 151 | 299 => 152 | 216 => 153 | 300 => 154 | 301 => 155 | 328 => 160 | 329 => 161 | 330 => 162 | 331 => 163 | 332 => 164 | 215 => 141 | 343 => 166 | n => n, fun | 28 => 22 | 3 => 3 | 46 => 104 | 0 => 0 | 51 => 133 | 53 => 136 | 4 => 4 | 183 => 159 | 182 => 158 | 131 => 163 | 5 => 5 | 9 => 9 | 218 => 170 | 222 => 174 | 228 => 176 | 229 => 139 | n => n, fun | n => n⟩
theorem Nl : Go.Proofs.Lays.n189 Tryz.prog Dm := {
 mixed := by kernel_rfl,
 f125 := Tryz.func140.trans (congrArg some (by kernel_rfl)),
 f128 := Tryz.func156.trans (congrArg some (by kernel_rfl)),
 f129 := Tryz.func157.trans (congrArg some (by kernel_rfl)),
 f189 := Tryz.func125.trans (congrArg some (by kernel_rfl)),
 f215 := Tryz.func141.trans (congrArg some (by kernel_rfl)),
 f216 := Tryz.func153.trans (congrArg some (by kernel_rfl)),
 f257 := Tryz.func139.trans (congrArg some (by kernel_rfl)),
 f294 := Tryz.func147.trans (congrArg some (by kernel_rfl)),
 f295 := Tryz.func148.trans (congrArg some (by kernel_rfl)),
 f296 := Tryz.func149.trans (congrArg some (by kernel_rfl)),
 f297 := Tryz.func150.trans (congrArg some (by kernel_rfl)),
 f298 := Tryz.func151.trans (congrArg some (by kernel_rfl)),
 f299 := Tryz.func152.trans (congrArg some (by kernel_rfl)),
 f300 := Tryz.func154.trans (congrArg some (by kernel_rfl)),
 f301 := Tryz.func155.trans (congrArg some (by kernel_rfl)),
 f328 := Tryz.func160.trans (congrArg some (by kernel_rfl)),
 f329 := Tryz.func161.trans (congrArg some (by kernel_rfl)),
 f330 := Tryz.func162.trans (congrArg some (by kernel_rfl)),
 f331 := Tryz.func163.trans (congrArg some (by kernel_rfl)),
 f332 := Tryz.func164.trans (congrArg some (by kernel_rfl)),
 f343 := Tryz.func166.trans (congrArg some (by kernel_rfl)),
 t0 := Tryz.underlying0,
 a0 := Tryz.isAgg0,
 z0 := Tryz.sizeOf0,
 v0 := Tryz.zeroValue0,
 t3 := Tryz.underlying3,
 a3 := Tryz.isAgg3,
 z3 := Tryz.sizeOf3,
 v3 := Tryz.zeroValue3,
 t4 := Tryz.underlying4,
 a4 := Tryz.isAgg4,
 z4 := Tryz.sizeOf4,
 v4 := Tryz.zeroValue4,
 t5 := Tryz.underlying5,
 a5 := Tryz.isAgg5,
 z5 := Tryz.sizeOf5,
 v5 := Tryz.zeroValue5,
 t9 := Tryz.underlying9,
 a9 := Tryz.isAgg9,
 z9 := Tryz.sizeOf9,
 v9 := Tryz.zeroValue9,
 t28 := Tryz.underlying22,
 a28 := Tryz.isAgg22,
 z28 := Tryz.sizeOf22,
 v28 := Tryz.zeroValue22,
 t46 := Tryz.underlying104,
 a46 := Tryz.isAgg104,
 z46 := Tryz.sizeOf104,
 v46 := Tryz.zeroValue104,
 t51 := Tryz.underlying133,
 a51 := Tryz.isAgg133,
 z51 := Tryz.sizeOf133,
 v51 := Tryz.zeroValue133,
 t53 := Tryz.underlying136,
 a53 := Tryz.isAgg136,
 z53 := Tryz.sizeOf136,
 v53 := Tryz.zeroValue136,
 t131 := Tryz.underlying163,
 a131 := Tryz.isAgg163,
 z131 := Tryz.sizeOf163,
 v131 := Tryz.zeroValue163,
 t182 := Tryz.underlying158,
 a182 := Tryz.isAgg158,
 z182 := Tryz.sizeOf158,
 v182 := Tryz.zeroValue158,
 t183 := Tryz.underlying159,
 a183 := Tryz.isAgg159,
 z183 := Tryz.sizeOf159,
 v183 := Tryz.zeroValue159,
 t218 := Tryz.underlying170,
 a218 := Tryz.isAgg170,
 z218 := Tryz.sizeOf170,
 v218 := Tryz.zeroValue170,
 t222 := Tryz.underlying174,
 a222 := Tryz.isAgg174,
 z222 := Tryz.sizeOf174,
 v222 := Tryz.zeroValue174,
 t228 := Tryz.underlying176,
 a228 := Tryz.isAgg176,
 z228 := Tryz.sizeOf176,
 v228 := Tryz.zeroValue176,
 t229 := Tryz.underlying139,
 a229 := Tryz.isAgg139,
 z229 := Tryz.sizeOf139,
 v229 := Tryz.zeroValue139 }
def zm : Go.Shelf.Ren := ⟨fun | 6 => 91 | 8 => 124 | 9 => 125 | 11 => 138 | 13 => 140 | 12 => 139 | 23 => 156 | 24 => 157 | 14 => 147 | 15 => 148 | 16 => 149 | 17 => 150 | 18 => 151 | 19 => 152 | 20 => 153 | 21 => 154 | 22 => 155 | 25 => 160 | 26 => 161 | 27 => 162 | 28 => 163 | 29 => 164 | 30 => 141 | 31 => 166 | n => n, fun | 26 => 3 | 28 => 113 | 24 => 22 | 0 => 0 | 3 => 3 | 37 => 104 | 48 => 133 | 50 => 136 | 4 => 4 | 40 => 159 | 39 => 158 | 45 => 163 | 5 => 5 | 9 => 9 | 51 => 170 | 55 => 174 | 57 => 176 | 58 => 139 | 33 => 62 | n => n, fun | n => n⟩
theorem HR : Go.Proofs.SlLaysZI.n6 Tryz.prog zm := {
 f6 := ⟨"slices.Sorted[int]", by kernel_rfl, Tryz.func91.trans (congrArg some (by kernel_rfl))⟩,
 f8 := ⟨"slices.Collect[int]", by kernel_rfl, Tryz.func124.trans (congrArg some (by kernel_rfl))⟩,
 f11 := ⟨"slices.AppendSeq[[]int,int]", by kernel_rfl, Tryz.func138.trans (congrArg some (by kernel_rfl))⟩,
 mixed := by kernel_rfl,
 t0 := Tryz.underlying0,
 a0 := Tryz.isAgg0,
 z0 := Tryz.sizeOf0,
 v0 := Tryz.zeroValue0,
 t24 := Tryz.underlying22,
 a24 := Tryz.isAgg22,
 z24 := Tryz.sizeOf22,
 v24 := Tryz.zeroValue22,
 t26 := Tryz.underlying3,
 a26 := Tryz.isAgg3,
 z26 := Tryz.sizeOf3,
 v26 := Tryz.zeroValue3,
 t28 := Tryz.underlying113,
 a28 := Tryz.isAgg113,
 z28 := Tryz.sizeOf113,
 v28 := Tryz.zeroValue113,
 i26 := by kernel_rfl }
section
open Go.RowKit Go.Shelf Go.Maps Go.Sort Go.Proofs
/- the iterator of slices.Values at this program -/
set_option maxRecDepth 100000 in
set_option maxHeartbeats 2000000 in
theorem acM (n l Bs : Nat) (hn : 1 ≤ n) (W0 : World) (b off len cap : Nat) (zs : List Int) (hlen : zs.length = len) (hreach : len * 8 ≤ 140737488351232) (hb : b < W0.heap.size) (J : List Int → World → Prop)
 (hJ : ∀ s W1, J s W1 → Below W0.heap.size W0 W1)
 (hY : ∀ pre x W1, J pre W1 → pre.length < zs.length → YieldAt Fence.wide (n - 1) Tryz.prog l #[encZ x] W1 fun e W' => e = .returned (.bool true) ∧ J (pre ++ [x]) W' ∧ KeepsWalks W1 W')
 (W : World) (hBs : W.cell? ⟨Bs, 0, none⟩ = some (.slice (some ⟨b, off, none⟩) len cap)) (hc : ∀ j, j < len → W0.cell? ⟨b, off + j, none⟩ = some (.int .i64 (zs[j]?.getD 0))) (h0 : J [] W) :
 CallsIn Fence.wide n Tryz.prog 126 #[.func (.yield l) #[] #[], .pointer (some ⟨Bs, 0, none⟩)] W fun e W' => (∃ v, e = .returned v) ∧ J zs W' := by
 have step : ∀ k, k < zs.length → zs.take k ++ [zs[k]?.getD 0] = zs.take (k + 1) := fun k hk => by
  rw [List.take_succ_eq_append_getElem hk]; simp [hk]
 refine callsIn_of_wp Tryz.func126 rfl trivial ?_ rfl
 simp only [Tryz.ntmps126, List.size_toArray, List.length_cons, List.length_nil, Nat.reduceAdd, Nat.reduceSub, Array.replicate_succ, Array.replicate_zero, List.push_toArray, List.append_toArray, List.nil_append, List.cons_append]
 gi_wp2
 gi_loopw [7] (fun i wr => ∃ k : Nat, k ≤ len ∧ i = .int .i64 k ∧ J (zs.take k) wr)
  (fun i _ => len - (intOf i).toNat)
 case atStart => exact ⟨0, Nat.zero_le _, rfl, h0⟩
 case round =>
  obtain ⟨k, hk, rfl, hJs⟩ := hrel
  by_cases hlt : k < len
  · have hcx : wr.cell? ⟨b, off + k, none⟩ = some (.int .i64 (zs[k]?.getD 0)) := ((hJ _ _ hJs).cell (p := ⟨b, off + k, none⟩) hb).trans (hc k hlt)
    have st := step k (by omega)
    generalize zs[k]?.getD 0 = x at hcx st
    obtain ⟨fn, tmps, assign, body, hy, hR⟩ := hY _ x wr hJs (by rw [List.length_take]; omega)
    clear step
    gi_wp2
    refine hR.mono ?_
    rintro e W3 ⟨rfl, hJ3, -⟩
    gi_wp2
    go_roundw
    case rel => exact ⟨k + 1, by omega, by simp, by rw [← st]; exact hJ3⟩
    case measure => simp [intOf]; omega
  · obtain rfl : k = len := by omega
    gi_wp2
    go_end0
    exact ⟨⟨_, rfl⟩, by rw [← hlen, List.take_length] at hJs; exact hJs⟩
set_option maxRecDepth 100000 in
set_option maxHeartbeats 1000000 in
theorem acN (n l Bs : Nat) (p : Option Addr) (cap : Nat) (J : List Int → World → Prop) (W : World) (hBs : W.cell? ⟨Bs, 0, none⟩ = some (.slice p 0 cap)) (h0 : J [] W) :
 CallsIn Fence.wide n Tryz.prog 126 #[.func (.yield l) #[] #[], .pointer (some ⟨Bs, 0, none⟩)] W fun e W' => (∃ v, e = .returned v) ∧ J [] W' := by
 refine callsIn_of_wp Tryz.func126 rfl trivial ?_ rfl
 simp only [Tryz.ntmps126, List.size_toArray, List.length_cons, List.length_nil, Nat.reduceAdd, Nat.reduceSub, Array.replicate_succ, Array.replicate_zero, List.push_toArray, List.append_toArray, List.nil_append, List.cons_append]
 gi_wp2
 gi_loopw [7] (fun i wr => i = .int .i64 0 ∧ J [] wr) (fun _ _ => 0)
 case atStart => exact ⟨rfl, h0⟩
 case round =>
  obtain ⟨rfl, hJs⟩ := hrel
  gi_wp2
  go_end0
  exact ⟨⟨_, rfl⟩, hJs⟩
theorem Sm : OV Tryz.prog 126 := by
 intro n Bs sv zs w hn hreach hBs hcell hI l J W hW hJ hY h0
 have hc' := (hW.cell (p := ⟨Bs, 0, none⟩) hBs).trans hcell
 rcases hI with ⟨p, cap, rfl, rfl⟩ | ⟨b, off, cap, rfl, hb, hcs⟩
 · exact acN n l Bs p cap J W hc' h0
 · exact acM n l Bs hn w b off zs.length cap zs rfl hreach hb J hJ hY W hc' hcs h0
end
theorem Nn : ∀ j, Names.ρ 260 = some j → tF Tryz.prog j [2, N.aN] := fun j hj => by
 have e : (Names.ρ 260 : Option Nat) = some 91 := by kernel_rfl
 rw [e] at hj; cases hj; exact EK HR Nl (by kernel_rfl) (Go.Proofs.enters_of Tryz.func125 (by kernel_rfl) rfl) (by kernel_rfl) (Go.Proofs.enters_of Tryz.func126 (by kernel_rfl) rfl) Sm
def KS : Go.Shelf.Ren := ⟨fun | 8 => 132 | 11 => 145 | n => n, fun | 0 => 0 | 24 => 42 | 26 => 56 | 28 => 121 | 33 => 86 | n => n, fun n => n⟩
theorem acO : Go.Proofs.XK Tryz.prog KS := {
 mixed := by kernel_rfl,
 f8 := ⟨"slices.Collect[minecontrol/api.World]", by kernel_rfl, Tryz.func132.trans (congrArg some (by kernel_rfl))⟩,
 f11 := ⟨"slices.AppendSeq[[]minecontrol/api.World,minecontrol/api.World]", by kernel_rfl, Tryz.func145.trans (congrArg some (by kernel_rfl))⟩,
 t0 := Tryz.underlying0,
 a0 := Tryz.isAgg0,
 z0 := Tryz.sizeOf0,
 v0 := Tryz.zeroValue0,
 t24 := Tryz.underlying42,
 a24 := Tryz.isAgg42,
 z24 := Tryz.sizeOf42,
 v24 := Tryz.zeroValue42,
 t26 := ⟨_, Tryz.underlying56⟩,
 a26 := Tryz.isAgg56,
 z26 := Tryz.sizeOf56,
 v26 := Tryz.zeroValue56,
 t28 := Tryz.underlying121,
 a28 := Tryz.isAgg121,
 z28 := Tryz.sizeOf121,
 v28 := Tryz.zeroValue121,
 i26 := by kernel_rfl }
section
open Go.RowKit Go.Shelf Go.Maps Go.Sort Go.Proofs
/- the iterator of slices.Values of structures of two cells at this program -/
set_option maxRecDepth 100000 in
set_option maxHeartbeats 2000000 in
theorem XM (n l Bs : Nat) (hn : 1 ≤ n) (W0 : World) (b off len cap : Nat) (zs : List (Value × Value)) (hlen : zs.length = len) (hone : ∀ x ∈ zs, x.1.oneCell' = true ∧ x.2.oneCell' = true) (hreach : len * 48 ≤ 140737488351232) (hb : b < W0.heap.size) (J : List (Value × Value) → World → Prop)
 (hJ : ∀ s W1, J s W1 → Below W0.heap.size W0 W1) (hA : ∀ s W1 o, J s W1 → J s (W1.alloc o))
 (hY : ∀ pre x W1, J pre W1 → pre.length < zs.length → x ∈ zs → YieldAt Fence.wide (n - 1) Tryz.prog l #[XJ x] W1 fun e W' => e = .returned (.bool true) ∧ J (pre ++ [x]) W' ∧ KeepsWalks W1 W')
 (W : World) (hBs : W.cell? ⟨Bs, 0, none⟩ = some (.slice (some ⟨b, off, none⟩) len cap)) (hc : ∀ j p, zs[j]? = some p → W0.cell? ⟨b, off + j * 2, none⟩ = some p.1 ∧ W0.cell? ⟨b, off + j * 2 + 1, none⟩ = some p.2) (h0 : J [] W) :
 CallsIn Fence.wide n Tryz.prog 134 #[.func (.yield l) #[] #[], .pointer (some ⟨Bs, 0, none⟩)] W fun e W' => (∃ v, e = .returned v) ∧ J zs W' := by
 have step : ∀ k x, zs[k]? = some x → zs.take k ++ [x] = zs.take (k + 1) := fun k x hk => by
  rw [List.take_add_one, hk]; rfl
 refine callsIn_of_wp Tryz.func134 rfl trivial ?_ rfl
 simp only [Tryz.ntmps134, List.size_toArray, List.length_cons, List.length_nil, Nat.reduceAdd, Nat.reduceSub, Array.replicate_succ, Array.replicate_zero, List.push_toArray, List.append_toArray, List.nil_append, List.cons_append]
 gi_wp2
 gi_loopw [7] (fun i wr => ∃ k : Nat, k ≤ len ∧ i = .int .i64 k ∧ J (zs.take k) wr)
  (fun i _ => len - (intOf i).toNat)
 case atStart => exact ⟨0, Nat.zero_le _, rfl, h0⟩
 case round =>
  obtain ⟨k, hk, rfl, hJs⟩ := hrel
  by_cases hlt : k < len
  · obtain ⟨x, hx⟩ : ∃ x, zs[k]? = some x := ⟨_, List.getElem?_eq_getElem (by omega)⟩
    have hcx0 : wr.cell? ⟨b, off + k * 2, none⟩ = some x.1 := ((hJ _ _ hJs).cell (p := ⟨b, off + k * 2, none⟩) hb).trans (hc k x hx).1
    have hcx1 : wr.cell? ⟨b, off + k * 2 + 1, none⟩ = some x.2 := ((hJ _ _ hJs).cell (p := ⟨b, off + k * 2 + 1, none⟩) hb).trans (hc k x hx).2
    have hm : x ∈ zs := List.mem_of_getElem? hx
    have st := step k x hx
    obtain ⟨hx1, hx2⟩ := hone x hm
    have hst := C5 Tryz.prog wr x.1 x.2 (.slice none 0 0) (.slice none 0 0) 56 hx1 hx2
    have cA0 : (wr.alloc (.cells #[x.1, x.2] 56)).cell? ⟨wr.heap.size, 0, none⟩ = some x.1 := lC wr x.1 x.2 56 0 x.1 rfl
    have cA1 : (wr.alloc (.cells #[x.1, x.2] 56)).cell? ⟨wr.heap.size, 1, none⟩ = some x.2 := lC wr x.1 x.2 56 1 x.2 rfl
    obtain ⟨fn, tmps, assign, body, hy, hR⟩ := hY _ x _ (hA _ _ (.cells #[x.1, x.2] 56) hJs) (by rw [List.length_take]; omega) hm
    clear step hone hc
    gi_wp2
    refine hR.mono ?_
    rintro e W3 ⟨rfl, hJ3, -⟩
    gi_wp2
    go_roundw
    case rel => exact ⟨k + 1, by omega, by simp, by rw [← st]; exact hJ3⟩
    case measure => simp [intOf]; omega
  · obtain rfl : k = len := by omega
    gi_wp2
    go_end0
    exact ⟨⟨_, rfl⟩, by rw [← hlen, List.take_length] at hJs; exact hJs⟩
set_option maxRecDepth 100000 in
set_option maxHeartbeats 1000000 in
theorem XN (n l Bs : Nat) (p : Option Addr) (cap : Nat) (J : List (Value × Value) → World → Prop) (W : World) (hBs : W.cell? ⟨Bs, 0, none⟩ = some (.slice p 0 cap)) (h0 : J [] W) :
 CallsIn Fence.wide n Tryz.prog 134 #[.func (.yield l) #[] #[], .pointer (some ⟨Bs, 0, none⟩)] W fun e W' => (∃ v, e = .returned v) ∧ J [] W' := by
 refine callsIn_of_wp Tryz.func134 rfl trivial ?_ rfl
 simp only [Tryz.ntmps134, List.size_toArray, List.length_cons, List.length_nil, Nat.reduceAdd, Nat.reduceSub, Array.replicate_succ, Array.replicate_zero, List.push_toArray, List.append_toArray, List.nil_append, List.cons_append]
 gi_wp2
 gi_loopw [7] (fun i wr => i = .int .i64 0 ∧ J [] wr) (fun _ _ => 0)
 case atStart => exact ⟨rfl, h0⟩
 case round =>
  obtain ⟨rfl, hJs⟩ := hrel
  gi_wp2
  go_end0
  exact ⟨⟨_, rfl⟩, hJs⟩
theorem No : KQ Tryz.prog 134 := by
 intro n Bs sv zs w hn hone hreach hBs hcell hI l J W hW hJ hA hY h0
 have hc' := (hW.cell (p := ⟨Bs, 0, none⟩) hBs).trans hcell
 rcases hI with ⟨p, cap, rfl, rfl⟩ | ⟨b, off, cap, rfl, hb, hcs⟩
 · exact XN n l Bs p cap J W hc' h0
 · exact XM n l Bs hn w b off zs.length cap zs rfl hone hreach hb J hJ hA hY W hc' hcs h0
end
theorem Np : ∀ j, Names.ρ 300 = some j → tF Tryz.prog j [3, N.aq] := fun j hj => by
 have e : (Names.ρ 300 : Option Nat) = some 132 := by kernel_rfl
 rw [e] at hj; cases hj; exact C6 acO (by kernel_rfl) (Go.Proofs.enters_of Tryz.func134 (by kernel_rfl) rfl) No
theorem Nq : ∀ x ∈ Sl, ∀ j, Names.ρ x.1 = some j → tF Tryz.prog j x.2 := by
 intro x hx
 simp only [Sl, List.mem_cons, List.not_mem_nil, or_false] at hx
 rcases hx with rfl | rfl
 · exact Nn
 · exact Np
end Go.Proofs.YtljlbkjecjloaaaGreat
