/- MADE BY PROGRAM (lib.py): the numbers that the functions have in this program, and the check of each one. -/
import Derived.Test.YtifghciaddehaaaGreatProg
import Derived.Test.YtifghciaddehaaaGreatZPG
import Derived.KernelRfl
set_option linter.all false
set_option maxRecDepth 100000
namespace Go.Proofs.YtifghciaddehaaaGreat
open Go.Ev
def real : List (Option Nat) := [none, some 7, none, some 9, some 10, none, none, none, some 11, some 14, some 15, none, some 18, none, none, some 23, some 16, none, none, some 28, some 29, some 30, some 31, some 32, none, none, none, none, some 41, none, some 95, none, none, none, none, some 63, some 64, some 40, some 65, some 66, some 67, some 68, some 69, some 70, some 71, some 72, some 73, some 55, none, some 50, none, some 39, none, some 79, some 83, none, some 98, some 99, some 85, some 100, some 101, some 84, some 61, some 102, some 103, some 104, some 81, some 82, some 119, some 120, some 121, some 75, some 42, some 132, some 133, some 144, some 124, some 146, none, none, none, none, none, none, none, none, none, none, none, none, none, none, none, none, some 13, none, none, none, none, none, none, none, none, none, none, some 49, none, none, none, none, none, none, none, none, none, none, none, none, none, none, none, none, none, none, none, none, none, none, none, none, none, none, none, none, none, none, none, none, none, none, none, none, none, none, none, none, none, none, none, none, none, none, none, none, none, none, none, none, none, none, none, none, none, none, none, none, none, some 48, none, none, none, none, none, some 92, none, none, none, some 125, none, none, none, none, none, none, none, none, none, none, none, none, some 112, none, none, none, some 77, none, none, none, none, some 114, some 115, some 113, some 108, none, some 37, none, none, none, some 139, some 140, some 138, some 155, some 168, some 151, some 174, none, none, none, none, none, none, none, none, none, none, none, none, none, none, none, none, none, none, none, none, none, none, none, none, none, none, some 117, none, none, none, none, none, none, none, none, none, none, none, none, none, none, none, some 74, none, none, some 105, some 106, some 107, some 109, some 110, some 111, none, some 135, some 136, some 137, some 154, none, none, none, none, none, none, none, none, none, none, none, none, none, none, none, none, none, none, some 76, none, none, none, none, some 34, none, none, none, none, none, none, none, none, none, none, none, none, none, some 76, none, none, none, none, none, none, none, none, none, none, none, none, none, none, none, none, none, none, none, none, none, some 52, some 53, none, none, none, none, none, none, none, none, none, none, none, none, none, none, none, none, none, none, none, none, none, none, none, none, none, none, none, none, none, none, none, none, none, none, none, none, none, none, none, none, none, none, none, none, none, none, none, none, none, none, none, none, none, none, none, none, none, none, none, none, none, none, none, none, none, none, none, none, none, none, none, none, none, none, none, none, none, none, none, none, none, none, none, none, none, none, none, some 6, some 8, some 12, some 17, none, some 24, some 25, none, some 27, some 33, some 35, some 36, some 38, none, none, none, some 51, some 54, some 56, some 57, none, none, none, none, some 78, some 80, none, none, none, none, none, none, some 93, some 94, none, some 116, some 118, none, none, some 126, some 127, some 128, some 129, some 130, some 131, some 141, none, some 147, some 148, some 149, some 150, some 152, some 167]
def tab : List (Option Go.Ev.Fn) := [none, some K.gY, none, some K.jh, some K.cL, none, none, none, some K.b5, some K.ax, some K.cq, none, some K.gw, none, none, some K.bQ, some K.c8, none, none, some K.dt, some K.bf, some K.gx, some K.dM, some K.jw, none, none, none, none, some K.dE, none, some K.ji, none, none, none, none, some K.ew, some K.dU, some K.dV, some K.cU, some K.bj, some K.gZ, some K.dW, some K.hU, some K.dX, some K.cV, some K.gW, some K.cW, some K.eO, none, some K.aD, none, some K.aE, none, some K.dC, some K.gy, none, some K.dv, some K.fB, some K.dY, some K.gz, some K.eQ, some K.c7, some K.cM, some K.gA, some K.cE, some K.eR, some K.aF, some K.bE, some K.bR, some K.au, some K.aZ, some K.dF, some K.dZ, some K.du, some K.gB, some K.aC, some K.bX, some K.hX, none, none, none, none, none, none, none, none, none, none, none, none, none, none, none, none, some K.jk, none, none, none, none, none, none, none, none, none, none, some K.cF, none, none, none, none, none, none, none, none, none, none, none, none, none, none, none, none, none, none, none, none, none, none, none, none, none, none, none, none, none, none, none, none, none, none, none, none, none, none, none, none, none, none, none, none, none, none, none, none, none, none, none, none, none, none, none, none, none, none, none, none, none, some K.dy, none, none, none, none, none, some K.ij, none, none, none, some K.fD, none, none, none, none, none, none, none, none, none, none, none, none, some K.eC, none, none, none, some K.gO, none, none, none, none, some K.cj, some K.ea, some K.cP, some K.aV, none, some K.aL, some K.b9, none, none, some K.dg, some K.aW, some K.bJ, some K.jm, some K.jq, some K.dS, some K.ik, none, none, none, none, none, none, none, none, none, none, none, none, none, none, none, none, none, none, none, none, none, none, none, none, none, none, some K.bA, none, none, none, none, none, none, none, none, none, none, none, none, none, none, none, some K.eW, none, none, some K.bV, some K.aX, some K.fk, some K.aP, some K.aj, some K.di, none, some K.aH, some K.cg, some K.aq, some K.cmp_isNaN_int, none, none, none, none, none, none, none, none, none, none, none, none, none, none, none, none, none, none, some K.jB, none, none, none, none, some K.iI, none, none, none, none, none, none, none, none, none, none, none, none, none, some K.fm, none, none, none, none, none, none, none, none, none, none, none, none, none, none, none, none, none, none, none, none, none, some K.aR, some K.aU, none, none, none, none, none, none, none, none, none, none, none, none, none, none, none, none, none, none, none, none, none, none, none, none, none, none, none, none, none, none, none, none, none, none, none, none, none, none, none, none, none, none, none, none, none, none, none, none, none, none, none, none, none, none, none, none, none, none, none, none, none, none, none, none, none, none, none, none, none, none, none, none, none, none, none, none, none, none, none, none, none, none, none, none, none, none, none, some K.bw, some K.fX, some K.cN, some K.cQ, none, some K.dj, some K.dN, none, some K.bH, some K.bL, some K.bc, some K.aM, some K.cH, none, none, none, some K.cY, some K.fv, some K.cZ, some K.cI, none, none, none, none, some K.fY, some K.bz, none, none, none, none, none, none, some K.iD, some K.kI, none, some K.bg, some K.aQ, none, none, some K.im, some K.fQ, some K.bI, some K.ay, some K.cR, some K.gL, some K.bN, none, some K.cm, some K.ak, some K.az, some K.bM, some K.ju, some K.dD]
instance names : Names := { ρ := fun f => (real[f]?).join }
instance lib : Lib := ⟨fun f => (tab[f]?).join⟩
instance has1 : cu := ⟨rfl, rfl, rfl, rfl, rfl, rfl, rfl, rfl, rfl, rfl, rfl, rfl, rfl, rfl, rfl, rfl, rfl, rfl⟩
instance has2 : bP := ⟨rfl, rfl, rfl, rfl, rfl, rfl, rfl, rfl, rfl, rfl, rfl, rfl, rfl, rfl, rfl, rfl, rfl, rfl, rfl, rfl, rfl, rfl, rfl, rfl, rfl, rfl, rfl, rfl, rfl, rfl, rfl, rfl, rfl, rfl, rfl, rfl, rfl⟩
instance has3 : gG := ⟨rfl⟩
instance has4 : gM := ⟨rfl⟩
instance has5 : jO := ⟨⟩
instance has6 : fW := ⟨rfl⟩
instance has7 : fS := ⟨rfl, rfl⟩
instance has8 : iR := ⟨rfl⟩
instance has9 : gF := ⟨rfl, rfl, rfl, rfl, rfl, rfl, rfl, rfl, rfl, rfl, rfl, rfl, rfl, rfl⟩
instance has10 : eX := ⟨rfl⟩
instance has11 : dT := ⟨rfl, rfl, rfl, rfl, rfl, rfl, rfl, rfl, rfl, rfl, rfl⟩
instance has12 : jD := ⟨⟩
instance has13 : iW := ⟨rfl, rfl, rfl⟩
instance has14 : mZ := ⟨⟩
instance has15 : lZ := ⟨rfl, rfl⟩
instance has21 : jP := ⟨rfl, rfl, rfl, rfl, rfl, rfl, rfl, rfl, rfl, rfl, rfl, rfl, rfl, rfl⟩
instance has22 : jE := ⟨rfl, rfl, rfl, rfl, rfl, rfl, rfl, rfl, rfl, rfl, rfl, rfl, rfl, rfl, rfl⟩
instance has23 : oe := ⟨rfl, rfl, rfl, rfl, rfl⟩
theorem DP : aS Tryz.prog Tryz.f7 K.gY = true := by kernel_rfl
theorem FF : aS Tryz.prog Tryz.f9 K.jh = true := by kernel_rfl
theorem xO : aS Tryz.prog Tryz.f10 K.cL = true := by kernel_rfl
theorem vq : aS Tryz.prog Tryz.f11 K.b5 = true := by kernel_rfl
theorem xP : aS Tryz.prog Tryz.f14 K.ax = true := by kernel_rfl
theorem zR : aS Tryz.prog Tryz.f15 K.cq = true := by kernel_rfl
theorem FH : aS Tryz.prog Tryz.f18 K.gw = true := by kernel_rfl
theorem zw : aS Tryz.prog Tryz.f23 K.bQ = true := by kernel_rfl
theorem xQ : aS Tryz.prog Tryz.f16 K.c8 = true := by kernel_rfl
theorem BX : aS Tryz.prog Tryz.f28 K.dt = true := by kernel_rfl
theorem xR : aS Tryz.prog Tryz.f29 K.bf = true := by kernel_rfl
theorem FI : aS Tryz.prog Tryz.f30 K.gx = true := by kernel_rfl
theorem zS : aS Tryz.prog Tryz.f31 K.dM = true := by kernel_rfl
theorem IW : aS Tryz.prog Tryz.f32 K.jw = true := by kernel_rfl
theorem BZ : aS Tryz.prog Tryz.f41 K.dE = true := by kernel_rfl
theorem FJ : aS Tryz.prog Tryz.f95 K.ji = true := by kernel_rfl
theorem zT : aS Tryz.prog Tryz.f63 K.ew = true := by kernel_rfl
theorem B0 : aS Tryz.prog Tryz.f64 K.dU = true := by kernel_rfl
theorem DQ : aS Tryz.prog Tryz.f40 K.dV = true := by kernel_rfl
theorem B1 : aS Tryz.prog Tryz.f65 K.cU = true := by kernel_rfl
theorem wO : aS Tryz.prog Tryz.f66 K.bj = true := by kernel_rfl
theorem DR : aS Tryz.prog Tryz.f67 K.gZ = true := by kernel_rfl
theorem B2 : aS Tryz.prog Tryz.f68 K.dW = true := by kernel_rfl
theorem DT : aS Tryz.prog Tryz.f69 K.hU = true := by kernel_rfl
theorem B3 : aS Tryz.prog Tryz.f70 K.dX = true := by kernel_rfl
theorem zU : aS Tryz.prog Tryz.f71 K.cV = true := by kernel_rfl
theorem FK : aS Tryz.prog Tryz.f72 K.gW = true := by kernel_rfl
theorem zV : aS Tryz.prog Tryz.f73 K.cW = true := by kernel_rfl
theorem B4 : aS Tryz.prog Tryz.f55 K.eO = true := by kernel_rfl
theorem lA : aS Tryz.prog Tryz.f50 K.aD = true := by kernel_rfl
theorem om : aS Tryz.prog Tryz.f39 K.aE = true := by kernel_rfl
theorem xS : aS Tryz.prog Tryz.f79 K.dC = true := by kernel_rfl
theorem DU : aS Tryz.prog Tryz.f83 K.gy = true := by kernel_rfl
theorem zW : aS Tryz.prog Tryz.f98 K.dv = true := by kernel_rfl
theorem B5 : aS Tryz.prog Tryz.f99 K.fB = true := by kernel_rfl
theorem B6 : aS Tryz.prog Tryz.f85 K.dY = true := by kernel_rfl
theorem DV : aS Tryz.prog Tryz.f100 K.gz = true := by kernel_rfl
theorem B7 : aS Tryz.prog Tryz.f101 K.eQ = true := by kernel_rfl
theorem DW : aS Tryz.prog Tryz.f84 K.c7 = true := by kernel_rfl
theorem xT : aS Tryz.prog Tryz.f61 K.cM = true := by kernel_rfl
theorem DX : aS Tryz.prog Tryz.f102 K.gA = true := by kernel_rfl
theorem B8 : aS Tryz.prog Tryz.f103 K.cE = true := by kernel_rfl
theorem B9 : aS Tryz.prog Tryz.f104 K.eR = true := by kernel_rfl
theorem m6 : aS Tryz.prog Tryz.f81 K.aF = true := by kernel_rfl
theorem p8 : aS Tryz.prog Tryz.f82 K.bE = true := by kernel_rfl
theorem vr : aS Tryz.prog Tryz.f119 K.bR = true := by kernel_rfl
theorem iv : aS Tryz.prog Tryz.f120 K.au = true := by kernel_rfl
theorem rR : aS Tryz.prog Tryz.f121 K.aZ = true := by kernel_rfl
theorem IX : aS Tryz.prog Tryz.f75 K.dF = true := by kernel_rfl
theorem Ca : aS Tryz.prog Tryz.f42 K.dZ = true := by kernel_rfl
theorem Cb : aS Tryz.prog Tryz.f132 K.du = true := by kernel_rfl
theorem DY : aS Tryz.prog Tryz.f133 K.gB = true := by kernel_rfl
theorem iX : aS Tryz.prog Tryz.f144 K.aC = true := by kernel_rfl
theorem zX : aS Tryz.prog Tryz.f124 K.bX = true := by kernel_rfl
theorem DZ : aS Tryz.prog Tryz.f146 K.hX = true := by kernel_rfl
theorem FL : aS Tryz.prog Tryz.f13 K.jk = true := by kernel_rfl
theorem zY : aS Tryz.prog Tryz.f49 K.cF = true := by kernel_rfl
theorem D0 : aS Tryz.prog Tryz.f48 K.dy = true := by kernel_rfl
theorem D1 : aS Tryz.prog Tryz.f92 K.ij = true := by kernel_rfl
theorem Cc : aS Tryz.prog Tryz.f125 K.fD = true := by kernel_rfl
theorem zZ : aS Tryz.prog Tryz.f112 K.eC = true := by kernel_rfl
theorem Aa : aS Tryz.prog Tryz.f77 K.gO = true := by kernel_rfl
theorem xU : aS Tryz.prog Tryz.f114 K.cj = true := by kernel_rfl
theorem D2 : aS Tryz.prog Tryz.f115 K.ea = true := by kernel_rfl
theorem zx : aS Tryz.prog Tryz.f113 K.cP = true := by kernel_rfl
theorem p9 : aS Tryz.prog Tryz.f108 K.aV = true := by kernel_rfl
theorem qa : aS Tryz.prog Tryz.f37 K.aL = true := by kernel_rfl
theorem wP : aS Tryz.prog Tryz.f139 K.dg = true := by kernel_rfl
theorem vt : aS Tryz.prog Tryz.f140 K.aW = true := by kernel_rfl
theorem wQ : aS Tryz.prog Tryz.f138 K.bJ = true := by kernel_rfl
theorem FM : aS Tryz.prog Tryz.f155 K.jm = true := by kernel_rfl
theorem FN : aS Tryz.prog Tryz.f168 K.jq = true := by kernel_rfl
theorem FO : aS Tryz.prog Tryz.f151 K.dS = true := by kernel_rfl
theorem D3 : aS Tryz.prog Tryz.f174 K.ik = true := by kernel_rfl
theorem qW : aS Tryz.prog Tryz.f117 K.bA = true := by kernel_rfl
theorem Cd : aS Tryz.prog Tryz.f74 K.eW = true := by kernel_rfl
theorem tO : aS Tryz.prog Tryz.f105 K.bV = true := by kernel_rfl
theorem pU : aS Tryz.prog Tryz.f106 K.aX = true := by kernel_rfl
theorem Ab : aS Tryz.prog Tryz.f107 K.fk = true := by kernel_rfl
theorem oL : aS Tryz.prog Tryz.f109 K.aP = true := by kernel_rfl
theorem fg : aS Tryz.prog Tryz.f110 K.aj = true := by kernel_rfl
theorem zy : aS Tryz.prog Tryz.f111 K.di = true := by kernel_rfl
theorem oo : aS Tryz.prog Tryz.f135 K.aH = true := by kernel_rfl
theorem wR : aS Tryz.prog Tryz.f136 K.cg = true := by kernel_rfl
theorem fG : aS Tryz.prog Tryz.f137 K.aq = true := by kernel_rfl
theorem zz : aS Tryz.prog Tryz.f154 K.cmp_isNaN_int = true := by kernel_rfl
theorem Ce : aS Tryz.prog Tryz.f76 K.jB = true := by kernel_rfl
theorem Cf : aS Tryz.prog Tryz.f34 K.iI = true := by kernel_rfl
theorem xV : aS Tryz.prog Tryz.f76 K.fm = true := by kernel_rfl
theorem jQ : aS Tryz.prog Tryz.f52 K.aR = true := by kernel_rfl
theorem km : aS Tryz.prog Tryz.f53 K.aU = true := by kernel_rfl
theorem pV : aS Tryz.prog Tryz.f6 K.bw = true := by kernel_rfl
theorem Cg : aS Tryz.prog Tryz.f8 K.fX = true := by kernel_rfl
theorem vu : aS Tryz.prog Tryz.f12 K.cN = true := by kernel_rfl
theorem tP : aS Tryz.prog Tryz.f17 K.cQ = true := by kernel_rfl
theorem vv : aS Tryz.prog Tryz.f24 K.dj = true := by kernel_rfl
theorem vw : aS Tryz.prog Tryz.f25 K.dN = true := by kernel_rfl
theorem vz : aS Tryz.prog Tryz.f27 K.bH = true := by kernel_rfl
theorem rS : aS Tryz.prog Tryz.f33 K.bL = true := by kernel_rfl
theorem vA : aS Tryz.prog Tryz.f35 K.bc = true := by kernel_rfl
theorem mV : aS Tryz.prog Tryz.f36 K.aM = true := by kernel_rfl
theorem qX : aS Tryz.prog Tryz.f38 K.cH = true := by kernel_rfl
theorem rT : aS Tryz.prog Tryz.f51 K.cY = true := by kernel_rfl
theorem D4 : aS Tryz.prog Tryz.f54 K.fv = true := by kernel_rfl
theorem rU : aS Tryz.prog Tryz.f56 K.cZ = true := by kernel_rfl
theorem Ch : aS Tryz.prog Tryz.f57 K.cI = true := by kernel_rfl
theorem Ci : aS Tryz.prog Tryz.f78 K.fY = true := by kernel_rfl
theorem rV : aS Tryz.prog Tryz.f80 K.bz = true := by kernel_rfl
theorem IY : aS Tryz.prog Tryz.f93 K.iD = true := by kernel_rfl
theorem IZ : aS Tryz.prog Tryz.f94 K.kI = true := by kernel_rfl
theorem pW : aS Tryz.prog Tryz.f116 K.bg = true := by kernel_rfl
theorem oM : aS Tryz.prog Tryz.f118 K.aQ = true := by kernel_rfl
theorem D5 : aS Tryz.prog Tryz.f126 K.im = true := by kernel_rfl
theorem FP : aS Tryz.prog Tryz.f127 K.fQ = true := by kernel_rfl
theorem vB : aS Tryz.prog Tryz.f128 K.bI = true := by kernel_rfl
theorem iQ : aS Tryz.prog Tryz.f129 K.ay = true := by kernel_rfl
theorem D6 : aS Tryz.prog Tryz.f130 K.cR = true := by kernel_rfl
theorem FQ : aS Tryz.prog Tryz.f131 K.gL = true := by kernel_rfl
theorem qY : aS Tryz.prog Tryz.f141 K.bN = true := by kernel_rfl
theorem tQ : aS Tryz.prog Tryz.f147 K.cm = true := by kernel_rfl
theorem iY : aS Tryz.prog Tryz.f148 K.ak = true := by kernel_rfl
theorem rW : aS Tryz.prog Tryz.f149 K.az = true := by kernel_rfl
theorem rX : aS Tryz.prog Tryz.f150 K.bM = true := by kernel_rfl
theorem FR : aS Tryz.prog Tryz.f152 K.ju = true := by kernel_rfl
theorem xW : aS Tryz.prog Tryz.f167 K.dD = true := by kernel_rfl
theorem abg : EB Tryz.prog real tab :=
 ⟨trivial, ⟨⟨by kernel_rfl, ai Tryz.func7 DP⟩, ⟨trivial, ⟨⟨by kernel_rfl, ai Tryz.func9 FF⟩, ⟨⟨by kernel_rfl, ai Tryz.func10 xO⟩, ⟨trivial, ⟨trivial, ⟨trivial, ⟨⟨by kernel_rfl, ai Tryz.func11 vq⟩, ⟨⟨by kernel_rfl, ai Tryz.func14 xP⟩, ⟨⟨by kernel_rfl, ai Tryz.func15 zR⟩, ⟨trivial, ⟨⟨by kernel_rfl, ai Tryz.func18 FH⟩, ⟨trivial, ⟨trivial, ⟨⟨by kernel_rfl, ai Tryz.func23 zw⟩, ⟨⟨by kernel_rfl, ai Tryz.func16 xQ⟩, ⟨trivial, ⟨trivial, ⟨⟨by kernel_rfl, ai Tryz.func28 BX⟩, ⟨⟨by kernel_rfl, ai Tryz.func29 xR⟩, ⟨⟨by kernel_rfl, ai Tryz.func30 FI⟩, ⟨⟨by kernel_rfl, ai Tryz.func31 zS⟩, ⟨⟨by kernel_rfl, ai Tryz.func32 IW⟩, ⟨trivial, ⟨trivial, ⟨trivial, ⟨trivial, ⟨⟨by kernel_rfl, ai Tryz.func41 BZ⟩, ⟨trivial, ⟨⟨by kernel_rfl, ai Tryz.func95 FJ⟩, ⟨trivial, ⟨trivial, ⟨trivial, ⟨trivial, ⟨⟨by kernel_rfl, ai Tryz.func63 zT⟩, ⟨⟨by kernel_rfl, ai Tryz.func64 B0⟩, ⟨⟨by kernel_rfl, ai Tryz.func40 DQ⟩, ⟨⟨by kernel_rfl, ai Tryz.func65 B1⟩, ⟨⟨by kernel_rfl, ai Tryz.func66 wO⟩, ⟨⟨by kernel_rfl, ai Tryz.func67 DR⟩, ⟨⟨by kernel_rfl, ai Tryz.func68 B2⟩, ⟨⟨by kernel_rfl, ai Tryz.func69 DT⟩, ⟨⟨by kernel_rfl, ai Tryz.func70 B3⟩, ⟨⟨by kernel_rfl, ai Tryz.func71 zU⟩, ⟨⟨by kernel_rfl, ai Tryz.func72 FK⟩, ⟨⟨by kernel_rfl, ai Tryz.func73 zV⟩, ⟨⟨by kernel_rfl, ai Tryz.func55 B4⟩, ⟨trivial, ⟨⟨by kernel_rfl, ai Tryz.func50 lA⟩, ⟨trivial, ⟨⟨by kernel_rfl, ai Tryz.func39 om⟩, ⟨trivial, ⟨⟨by kernel_rfl, ai Tryz.func79 xS⟩, ⟨⟨by kernel_rfl, ai Tryz.func83 DU⟩, ⟨trivial, ⟨⟨by kernel_rfl, ai Tryz.func98 zW⟩, ⟨⟨by kernel_rfl, ai Tryz.func99 B5⟩, ⟨⟨by kernel_rfl, ai Tryz.func85 B6⟩, ⟨⟨by kernel_rfl, ai Tryz.func100 DV⟩, ⟨⟨by kernel_rfl, ai Tryz.func101 B7⟩, ⟨⟨by kernel_rfl, ai Tryz.func84 DW⟩, ⟨⟨by kernel_rfl, ai Tryz.func61 xT⟩, ⟨⟨by kernel_rfl, ai Tryz.func102 DX⟩, ⟨⟨by kernel_rfl, ai Tryz.func103 B8⟩, ⟨⟨by kernel_rfl, ai Tryz.func104 B9⟩, ⟨⟨by kernel_rfl, ai Tryz.func81 m6⟩, ⟨⟨by kernel_rfl, ai Tryz.func82 p8⟩, ⟨⟨by kernel_rfl, ai Tryz.func119 vr⟩, ⟨⟨by kernel_rfl, ai Tryz.func120 iv⟩, ⟨⟨by kernel_rfl, ai Tryz.func121 rR⟩, ⟨⟨by kernel_rfl, ai Tryz.func75 IX⟩, ⟨⟨by kernel_rfl, ai Tryz.func42 Ca⟩, ⟨⟨by kernel_rfl, ai Tryz.func132 Cb⟩, ⟨⟨by kernel_rfl, ai Tryz.func133 DY⟩, ⟨⟨by kernel_rfl, ai Tryz.func144 iX⟩, ⟨⟨by kernel_rfl, ai Tryz.func124 zX⟩, ⟨⟨by kernel_rfl, ai Tryz.func146 DZ⟩, ⟨trivial, ⟨trivial, ⟨trivial, ⟨trivial, ⟨trivial, ⟨trivial, ⟨trivial, ⟨trivial, ⟨trivial, ⟨trivial, ⟨trivial, ⟨trivial, ⟨trivial, ⟨trivial, ⟨trivial, ⟨trivial, ⟨⟨by kernel_rfl, ai Tryz.func13 FL⟩, ⟨trivial, ⟨trivial, ⟨trivial, ⟨trivial, ⟨trivial, ⟨trivial, ⟨trivial, ⟨trivial, ⟨trivial, ⟨trivial, ⟨⟨by kernel_rfl, ai Tryz.func49 zY⟩, ⟨trivial, ⟨trivial, ⟨trivial, ⟨trivial, ⟨trivial, ⟨trivial, ⟨trivial, ⟨trivial, ⟨trivial, ⟨trivial, ⟨trivial, ⟨trivial, ⟨trivial, ⟨trivial, ⟨trivial, ⟨trivial, ⟨trivial, ⟨trivial, ⟨trivial, ⟨trivial, ⟨trivial, ⟨trivial, ⟨trivial, ⟨trivial, ⟨trivial, ⟨trivial, ⟨trivial, ⟨trivial, ⟨trivial, ⟨trivial, ⟨trivial, ⟨trivial, ⟨trivial, ⟨trivial, ⟨trivial, ⟨trivial, ⟨trivial, ⟨trivial, ⟨trivial, ⟨trivial, ⟨trivial, ⟨trivial, ⟨trivial, ⟨trivial, ⟨trivial, ⟨trivial, ⟨trivial, ⟨trivial, ⟨trivial, ⟨trivial, ⟨trivial, ⟨trivial, ⟨trivial, ⟨trivial, ⟨trivial, ⟨trivial, ⟨trivial, ⟨trivial, ⟨trivial, ⟨trivial, ⟨trivial, ⟨⟨by kernel_rfl, ai Tryz.func48 D0⟩, ⟨trivial, ⟨trivial, ⟨trivial, ⟨trivial, ⟨trivial, ⟨⟨by kernel_rfl, ai Tryz.func92 D1⟩, ⟨trivial, ⟨trivial, ⟨trivial, ⟨⟨by kernel_rfl, ai Tryz.func125 Cc⟩, ⟨trivial, ⟨trivial, ⟨trivial, ⟨trivial, ⟨trivial, ⟨trivial, ⟨trivial, ⟨trivial, ⟨trivial, ⟨trivial, ⟨trivial, ⟨trivial, ⟨⟨by kernel_rfl, ai Tryz.func112 zZ⟩, ⟨trivial, ⟨trivial, ⟨trivial, ⟨⟨by kernel_rfl, ai Tryz.func77 Aa⟩, ⟨trivial, ⟨trivial, ⟨trivial, ⟨trivial, ⟨⟨by kernel_rfl, ai Tryz.func114 xU⟩, ⟨⟨by kernel_rfl, ai Tryz.func115 D2⟩, ⟨⟨by kernel_rfl, ai Tryz.func113 zx⟩, ⟨⟨by kernel_rfl, ai Tryz.func108 p9⟩, ⟨trivial, ⟨⟨by kernel_rfl, ai Tryz.func37 qa⟩, ⟨trivial, ⟨trivial, ⟨trivial, ⟨⟨by kernel_rfl, ai Tryz.func139 wP⟩, ⟨⟨by kernel_rfl, ai Tryz.func140 vt⟩, ⟨⟨by kernel_rfl, ai Tryz.func138 wQ⟩, ⟨⟨by kernel_rfl, ai Tryz.func155 FM⟩, ⟨⟨by kernel_rfl, ai Tryz.func168 FN⟩, ⟨⟨by kernel_rfl, ai Tryz.func151 FO⟩, ⟨⟨by kernel_rfl, ai Tryz.func174 D3⟩, ⟨trivial, ⟨trivial, ⟨trivial, ⟨trivial, ⟨trivial, ⟨trivial, ⟨trivial, ⟨trivial, ⟨trivial, ⟨trivial, ⟨trivial, ⟨trivial, ⟨trivial, ⟨trivial, ⟨trivial, ⟨trivial, ⟨trivial, ⟨trivial, ⟨trivial, ⟨trivial, ⟨trivial, ⟨trivial, ⟨trivial, ⟨trivial, ⟨trivial, ⟨trivial, ⟨⟨by kernel_rfl, ai Tryz.func117 qW⟩, ⟨trivial, ⟨trivial, ⟨trivial, ⟨trivial, ⟨trivial, ⟨trivial, ⟨trivial, ⟨trivial, ⟨trivial, ⟨trivial, ⟨trivial, ⟨trivial, ⟨trivial, ⟨trivial, ⟨trivial, ⟨⟨by kernel_rfl, ai Tryz.func74 Cd⟩, ⟨trivial, ⟨trivial, ⟨⟨by kernel_rfl, ai Tryz.func105 tO⟩, ⟨⟨by kernel_rfl, ai Tryz.func106 pU⟩, ⟨⟨by kernel_rfl, ai Tryz.func107 Ab⟩, ⟨⟨by kernel_rfl, ai Tryz.func109 oL⟩, ⟨⟨by kernel_rfl, ai Tryz.func110 fg⟩, ⟨⟨by kernel_rfl, ai Tryz.func111 zy⟩, ⟨trivial, ⟨⟨by kernel_rfl, ai Tryz.func135 oo⟩, ⟨⟨by kernel_rfl, ai Tryz.func136 wR⟩, ⟨⟨by kernel_rfl, ai Tryz.func137 fG⟩, ⟨⟨by kernel_rfl, ai Tryz.func154 zz⟩, ⟨trivial, ⟨trivial, ⟨trivial, ⟨trivial, ⟨trivial, ⟨trivial, ⟨trivial, ⟨trivial, ⟨trivial, ⟨trivial, ⟨trivial, ⟨trivial, ⟨trivial, ⟨trivial, ⟨trivial, ⟨trivial, ⟨trivial, ⟨trivial, ⟨⟨by kernel_rfl, ai Tryz.func76 Ce⟩, ⟨trivial, ⟨trivial, ⟨trivial, ⟨trivial, ⟨⟨by kernel_rfl, ai Tryz.func34 Cf⟩, ⟨trivial, ⟨trivial, ⟨trivial, ⟨trivial, ⟨trivial, ⟨trivial, ⟨trivial, ⟨trivial, ⟨trivial, ⟨trivial, ⟨trivial, ⟨trivial, ⟨trivial, ⟨⟨by kernel_rfl, ai Tryz.func76 xV⟩, ⟨trivial, ⟨trivial, ⟨trivial, ⟨trivial, ⟨trivial, ⟨trivial, ⟨trivial, ⟨trivial, ⟨trivial, ⟨trivial, ⟨trivial, ⟨trivial, ⟨trivial, ⟨trivial, ⟨trivial, ⟨trivial, ⟨trivial, ⟨trivial, ⟨trivial, ⟨trivial, ⟨trivial, ⟨⟨by kernel_rfl, ai Tryz.func52 jQ⟩, ⟨⟨by kernel_rfl, ai Tryz.func53 km⟩, ⟨trivial, ⟨trivial, ⟨trivial, ⟨trivial, ⟨trivial, ⟨trivial, ⟨trivial, ⟨trivial, ⟨trivial, ⟨trivial, ⟨trivial, ⟨trivial, ⟨trivial, ⟨trivial, ⟨trivial, ⟨trivial, ⟨trivial, ⟨trivial, ⟨trivial, ⟨trivial, ⟨trivial, ⟨trivial, ⟨trivial, ⟨trivial, ⟨trivial, ⟨trivial, ⟨trivial, ⟨trivial, ⟨trivial, ⟨trivial, ⟨trivial, ⟨trivial, ⟨trivial, ⟨trivial, ⟨trivial, ⟨trivial, ⟨trivial, ⟨trivial, ⟨trivial, ⟨trivial, ⟨trivial, ⟨trivial, ⟨trivial, ⟨trivial, ⟨trivial, ⟨trivial, ⟨trivial, ⟨trivial, ⟨trivial, ⟨trivial, ⟨trivial, ⟨trivial, ⟨trivial, ⟨trivial, ⟨trivial, ⟨trivial, ⟨trivial, ⟨trivial, ⟨trivial, ⟨trivial, ⟨trivial, ⟨trivial, ⟨trivial, ⟨trivial, ⟨trivial, ⟨trivial, ⟨trivial, ⟨trivial, ⟨trivial, ⟨trivial, ⟨trivial, ⟨trivial, ⟨trivial, ⟨trivial, ⟨trivial, ⟨trivial, ⟨trivial, ⟨trivial, ⟨trivial, ⟨trivial, ⟨trivial, ⟨trivial, ⟨trivial, ⟨trivial, ⟨trivial, ⟨trivial, ⟨trivial, ⟨⟨by kernel_rfl, ai Tryz.func6 pV⟩, ⟨⟨by kernel_rfl, ai Tryz.func8 Cg⟩, ⟨⟨by kernel_rfl, ai Tryz.func12 vu⟩, ⟨⟨by kernel_rfl, ai Tryz.func17 tP⟩, ⟨trivial, ⟨⟨by kernel_rfl, ai Tryz.func24 vv⟩, ⟨⟨by kernel_rfl, ai Tryz.func25 vw⟩, ⟨trivial, ⟨⟨by kernel_rfl, ai Tryz.func27 vz⟩, ⟨⟨by kernel_rfl, ai Tryz.func33 rS⟩, ⟨⟨by kernel_rfl, ai Tryz.func35 vA⟩, ⟨⟨by kernel_rfl, ai Tryz.func36 mV⟩, ⟨⟨by kernel_rfl, ai Tryz.func38 qX⟩, ⟨trivial, ⟨trivial, ⟨trivial, ⟨⟨by kernel_rfl, ai Tryz.func51 rT⟩, ⟨⟨by kernel_rfl, ai Tryz.func54 D4⟩, ⟨⟨by kernel_rfl, ai Tryz.func56 rU⟩, ⟨⟨by kernel_rfl, ai Tryz.func57 Ch⟩, ⟨trivial, ⟨trivial, ⟨trivial, ⟨trivial, ⟨⟨by kernel_rfl, ai Tryz.func78 Ci⟩, ⟨⟨by kernel_rfl, ai Tryz.func80 rV⟩, ⟨trivial, ⟨trivial, ⟨trivial, ⟨trivial, ⟨trivial, ⟨trivial, ⟨⟨by kernel_rfl, ai Tryz.func93 IY⟩, ⟨⟨by kernel_rfl, ai Tryz.func94 IZ⟩, ⟨trivial, ⟨⟨by kernel_rfl, ai Tryz.func116 pW⟩, ⟨⟨by kernel_rfl, ai Tryz.func118 oM⟩, ⟨trivial, ⟨trivial, ⟨⟨by kernel_rfl, ai Tryz.func126 D5⟩, ⟨⟨by kernel_rfl, ai Tryz.func127 FP⟩, ⟨⟨by kernel_rfl, ai Tryz.func128 vB⟩, ⟨⟨by kernel_rfl, ai Tryz.func129 iQ⟩, ⟨⟨by kernel_rfl, ai Tryz.func130 D6⟩, ⟨⟨by kernel_rfl, ai Tryz.func131 FQ⟩, ⟨⟨by kernel_rfl, ai Tryz.func141 qY⟩, ⟨trivial, ⟨⟨by kernel_rfl, ai Tryz.func147 tQ⟩, ⟨⟨by kernel_rfl, ai Tryz.func148 iY⟩, ⟨⟨by kernel_rfl, ai Tryz.func149 rW⟩, ⟨⟨by kernel_rfl, ai Tryz.func150 rX⟩, ⟨⟨by kernel_rfl, ai Tryz.func152 FR⟩, ⟨⟨by kernel_rfl, ai Tryz.func167 xW⟩, trivial⟩⟩⟩⟩⟩⟩⟩⟩⟩⟩⟩⟩⟩⟩⟩⟩⟩⟩⟩⟩⟩⟩⟩⟩⟩⟩⟩⟩⟩⟩⟩⟩⟩⟩⟩⟩⟩⟩⟩⟩⟩⟩⟩⟩⟩⟩⟩⟩⟩⟩⟩⟩⟩⟩⟩⟩⟩⟩⟩⟩⟩⟩⟩⟩⟩⟩⟩⟩⟩⟩⟩⟩⟩⟩⟩⟩⟩⟩⟩⟩⟩⟩⟩⟩⟩⟩⟩⟩⟩⟩⟩⟩⟩⟩⟩⟩⟩⟩⟩⟩⟩⟩⟩⟩⟩⟩⟩⟩⟩⟩⟩⟩⟩⟩⟩⟩⟩⟩⟩⟩⟩⟩⟩⟩⟩⟩⟩⟩⟩⟩⟩⟩⟩⟩⟩⟩⟩⟩⟩⟩⟩⟩⟩⟩⟩⟩⟩⟩⟩⟩⟩⟩⟩⟩⟩⟩⟩⟩⟩⟩⟩⟩⟩⟩⟩⟩⟩⟩⟩⟩⟩⟩⟩⟩⟩⟩⟩⟩⟩⟩⟩⟩⟩⟩⟩⟩⟩⟩⟩⟩⟩⟩⟩⟩⟩⟩⟩⟩⟩⟩⟩⟩⟩⟩⟩⟩⟩⟩⟩⟩⟩⟩⟩⟩⟩⟩⟩⟩⟩⟩⟩⟩⟩⟩⟩⟩⟩⟩⟩⟩⟩⟩⟩⟩⟩⟩⟩⟩⟩⟩⟩⟩⟩⟩⟩⟩⟩⟩⟩⟩⟩⟩⟩⟩⟩⟩⟩⟩⟩⟩⟩⟩⟩⟩⟩⟩⟩⟩⟩⟩⟩⟩⟩⟩⟩⟩⟩⟩⟩⟩⟩⟩⟩⟩⟩⟩⟩⟩⟩⟩⟩⟩⟩⟩⟩⟩⟩⟩⟩⟩⟩⟩⟩⟩⟩⟩⟩⟩⟩⟩⟩⟩⟩⟩⟩⟩⟩⟩⟩⟩⟩⟩⟩⟩⟩⟩⟩⟩⟩⟩⟩⟩⟩⟩⟩⟩⟩⟩⟩⟩⟩⟩⟩⟩⟩⟩⟩⟩⟩⟩⟩⟩⟩⟩⟩⟩⟩⟩⟩⟩⟩⟩⟩⟩⟩⟩⟩⟩⟩⟩⟩⟩⟩⟩⟩⟩⟩⟩⟩⟩⟩⟩⟩⟩⟩⟩⟩⟩⟩⟩⟩⟩⟩⟩⟩⟩⟩⟩⟩⟩⟩⟩⟩⟩⟩⟩⟩⟩⟩⟩⟩⟩⟩⟩⟩⟩⟩⟩⟩⟩⟩⟩⟩⟩⟩⟩⟩⟩⟩⟩⟩⟩⟩⟩⟩⟩⟩⟩⟩⟩⟩⟩⟩⟩⟩⟩⟩⟩⟩⟩⟩⟩⟩⟩⟩⟩⟩⟩⟩⟩⟩⟩⟩⟩⟩⟩⟩⟩⟩⟩⟩⟩
theorem abh : ∀ f j, Names.ρ f = some j → Names.it f = true → A6 Tryz.prog j := fun f j hj h => Bool.noConfusion (show false = true from h)
def Vi : List (Nat × List Nat) := [(241, [1]), (260, [2, N.aH]), (464, [4])]
def D7 : Go.Shelf.Ren := ⟨fun | 189 => 117 | 125 => 143 | 257 => 142 | 128 => 165 | 129 => 166 | 294 => 156 | 295 => 157 | 296 => 158 | 297 => 159 | 298 => 160 | 299 => 161 | 216 => 162 | 300 => 163 | 301 => 164 | 328 => 169 | 329 => 170 | 330 => 171 | 331 => 172 | 332 => 173 | 215 => 154 | 343 => 175 | n => n, fun | 28 => 22 | 3 => 3 | 46 => 166 | 0 => 0 | 51 => 190 | 53 => 192 | 4 => 4 | 183 => 183 | 182 => 182 | 131 => 187 | 5 => 5 | 9 => 9 | 218 => 194 | 222 => 198 | 228 => 200 | 229 => 120 | n => n, fun | n => n⟩
theorem Hm : Go.Proofs.Lays.n189 Tryz.prog D7 := {
 mixed := by kernel_rfl,
 f125 := Tryz.func143.trans (congrArg some (by kernel_rfl)),
 f128 := Tryz.func165.trans (congrArg some (by kernel_rfl)),
 f129 := Tryz.func166.trans (congrArg some (by kernel_rfl)),
 f189 := Tryz.func117.trans (congrArg some (by kernel_rfl)),
 f215 := Tryz.func154.trans (congrArg some (by kernel_rfl)),
 f216 := Tryz.func162.trans (congrArg some (by kernel_rfl)),
 f257 := Tryz.func142.trans (congrArg some (by kernel_rfl)),
 f294 := Tryz.func156.trans (congrArg some (by kernel_rfl)),
 f295 := Tryz.func157.trans (congrArg some (by kernel_rfl)),
 f296 := Tryz.func158.trans (congrArg some (by kernel_rfl)),
 f297 := Tryz.func159.trans (congrArg some (by kernel_rfl)),
 f298 := Tryz.func160.trans (congrArg some (by kernel_rfl)),
 f299 := Tryz.func161.trans (congrArg some (by kernel_rfl)),
 f300 := Tryz.func163.trans (congrArg some (by kernel_rfl)),
 f301 := Tryz.func164.trans (congrArg some (by kernel_rfl)),
 f328 := Tryz.func169.trans (congrArg some (by kernel_rfl)),
 f329 := Tryz.func170.trans (congrArg some (by kernel_rfl)),
 f330 := Tryz.func171.trans (congrArg some (by kernel_rfl)),
 f331 := Tryz.func172.trans (congrArg some (by kernel_rfl)),
 f332 := Tryz.func173.trans (congrArg some (by kernel_rfl)),
 f343 := Tryz.func175.trans (congrArg some (by kernel_rfl)),
 t0 := Tryz.underlying0,
 a0 := Tryz.isAgg0,
 z0 := Tryz.sizeOf0,
 v0 := Tryz.zeroValue0,
 t3 := Tryz.underlying3,
 a3 := Tryz.isAgg3,
 z3 := Tryz.sizeOf3,
 v3 := Tryz.zeroValue3,
 t4 := Tryz.underlying4,
 a4 := Tryz.isAgg4,
 z4 := Tryz.sizeOf4,
 v4 := Tryz.zeroValue4,
 t5 := Tryz.underlying5,
 a5 := Tryz.isAgg5,
 z5 := Tryz.sizeOf5,
 v5 := Tryz.zeroValue5,
 t9 := Tryz.underlying9,
 a9 := Tryz.isAgg9,
 z9 := Tryz.sizeOf9,
 v9 := Tryz.zeroValue9,
 t28 := Tryz.underlying22,
 a28 := Tryz.isAgg22,
 z28 := Tryz.sizeOf22,
 v28 := Tryz.zeroValue22,
 t46 := Tryz.underlying166,
 a46 := Tryz.isAgg166,
 z46 := Tryz.sizeOf166,
 v46 := Tryz.zeroValue166,
 t51 := Tryz.underlying190,
 a51 := Tryz.isAgg190,
 z51 := Tryz.sizeOf190,
 v51 := Tryz.zeroValue190,
 t53 := Tryz.underlying192,
 a53 := Tryz.isAgg192,
 z53 := Tryz.sizeOf192,
 v53 := Tryz.zeroValue192,
 t131 := Tryz.underlying187,
 a131 := Tryz.isAgg187,
 z131 := Tryz.sizeOf187,
 v131 := Tryz.zeroValue187,
 t182 := Tryz.underlying182,
 a182 := Tryz.isAgg182,
 z182 := Tryz.sizeOf182,
 v182 := Tryz.zeroValue182,
 t183 := Tryz.underlying183,
 a183 := Tryz.isAgg183,
 z183 := Tryz.sizeOf183,
 v183 := Tryz.zeroValue183,
 t218 := Tryz.underlying194,
 a218 := Tryz.isAgg194,
 z218 := Tryz.sizeOf194,
 v218 := Tryz.zeroValue194,
 t222 := Tryz.underlying198,
 a222 := Tryz.isAgg198,
 z222 := Tryz.sizeOf198,
 v222 := Tryz.zeroValue198,
 t228 := Tryz.underlying200,
 a228 := Tryz.isAgg200,
 z228 := Tryz.sizeOf200,
 v228 := Tryz.zeroValue200,
 t229 := Tryz.underlying120,
 a229 := Tryz.isAgg120,
 z229 := Tryz.sizeOf120,
 v229 := Tryz.zeroValue120 }
theorem Pu : ∀ j, Names.ρ 241 = some j → r7 Tryz.prog j [1] := fun j hj => by
 have e : (Names.ρ 241 : Option Nat) = some 117 := by kernel_rfl
 rw [e] at hj; cases hj; exact Ms Hm
def Ac : Go.Shelf.Ren := ⟨fun | 6 => 105 | 8 => 134 | 9 => 117 | 11 => 153 | 13 => 143 | 12 => 142 | 23 => 165 | 24 => 166 | 14 => 156 | 15 => 157 | 16 => 158 | 17 => 159 | 18 => 160 | 19 => 161 | 20 => 162 | 21 => 163 | 22 => 164 | 25 => 169 | 26 => 170 | 27 => 171 | 28 => 172 | 29 => 173 | 30 => 154 | 31 => 175 | n => n, fun | 26 => 3 | 28 => 133 | 24 => 22 | 0 => 0 | 3 => 3 | 37 => 166 | 48 => 190 | 50 => 192 | 4 => 4 | 40 => 183 | 39 => 182 | 45 => 187 | 5 => 5 | 9 => 9 | 51 => 194 | 55 => 198 | 57 => 200 | 58 => 120 | 33 => 59 | n => n, fun | n => n⟩
theorem I0 : Go.Proofs.SlLaysZI.n6 Tryz.prog Ac := {
 f6 := ⟨"slices.Sorted[int]", by kernel_rfl, Tryz.func105.trans (congrArg some (by kernel_rfl))⟩,
 f8 := ⟨"slices.Collect[int]", by kernel_rfl, Tryz.func134.trans (congrArg some (by kernel_rfl))⟩,
 f11 := ⟨"slices.AppendSeq[[]int,int]", by kernel_rfl, Tryz.func153.trans (congrArg some (by kernel_rfl))⟩,
 mixed := by kernel_rfl,
 t0 := Tryz.underlying0,
 a0 := Tryz.isAgg0,
 z0 := Tryz.sizeOf0,
 v0 := Tryz.zeroValue0,
 t24 := Tryz.underlying22,
 a24 := Tryz.isAgg22,
 z24 := Tryz.sizeOf22,
 v24 := Tryz.zeroValue22,
 t26 := Tryz.underlying3,
 a26 := Tryz.isAgg3,
 z26 := Tryz.sizeOf3,
 v26 := Tryz.zeroValue3,
 t28 := Tryz.underlying133,
 a28 := Tryz.isAgg133,
 z28 := Tryz.sizeOf133,
 v28 := Tryz.zeroValue133,
 i26 := by kernel_rfl }
section
open Go.RowKit Go.Shelf Go.Maps Go.Sort Go.Proofs
/- the iterator of slices.Values at this program -/
set_option maxRecDepth 100000 in
set_option maxHeartbeats 2000000 in
theorem agr (n l Bs : Nat) (hn : 1 ≤ n) (W0 : World) (b off len cap : Nat) (zs : List Int) (hlen : zs.length = len) (hreach : len * 8 ≤ 140737488351232) (hb : b < W0.heap.size) (J : List Int → World → Prop)
 (hJ : ∀ s W1, J s W1 → Below W0.heap.size W0 W1)
 (hY : ∀ pre x W1, J pre W1 → pre.length < zs.length → YieldAt Fence.wide (n - 1) Tryz.prog l #[encZ x] W1 fun e W' => e = .returned (.bool true) ∧ J (pre ++ [x]) W' ∧ KeepsWalks W1 W')
 (W : World) (hBs : W.cell? ⟨Bs, 0, none⟩ = some (.slice (some ⟨b, off, none⟩) len cap)) (hc : ∀ j, j < len → W0.cell? ⟨b, off + j, none⟩ = some (.int .i64 (zs[j]?.getD 0))) (h0 : J [] W) :
 CallsIn Fence.wide n Tryz.prog 135 #[.func (.yield l) #[] #[], .pointer (some ⟨Bs, 0, none⟩)] W fun e W' => (∃ v, e = .returned v) ∧ J zs W' := by
 have step : ∀ k, k < zs.length → zs.take k ++ [zs[k]?.getD 0] = zs.take (k + 1) := fun k hk => by
  rw [List.take_succ_eq_append_getElem hk]; simp [hk]
 refine callsIn_of_wp Tryz.func135 rfl trivial ?_ rfl
 simp only [Tryz.ntmps135, List.size_toArray, List.length_cons, List.length_nil, Nat.reduceAdd, Nat.reduceSub, Array.replicate_succ, Array.replicate_zero, List.push_toArray, List.append_toArray, List.nil_append, List.cons_append]
 gi_wp2
 gi_loopw [7] (fun i wr => ∃ k : Nat, k ≤ len ∧ i = .int .i64 k ∧ J (zs.take k) wr)
  (fun i _ => len - (intOf i).toNat)
 case atStart => exact ⟨0, Nat.zero_le _, rfl, h0⟩
 case round =>
  obtain ⟨k, hk, rfl, hJs⟩ := hrel
  by_cases hlt : k < len
  · have hcx : wr.cell? ⟨b, off + k, none⟩ = some (.int .i64 (zs[k]?.getD 0)) := ((hJ _ _ hJs).cell (p := ⟨b, off + k, none⟩) hb).trans (hc k hlt)
    have st := step k (by omega)
    generalize zs[k]?.getD 0 = x at hcx st
    obtain ⟨fn, tmps, assign, body, hy, hR⟩ := hY _ x wr hJs (by rw [List.length_take]; omega)
    clear step
    gi_wp2
    refine hR.mono ?_
    rintro e W3 ⟨rfl, hJ3, -⟩
    gi_wp2
    go_roundw
    case rel => exact ⟨k + 1, by omega, by simp, by rw [← st]; exact hJ3⟩
    case measure => simp [intOf]; omega
  · obtain rfl : k = len := by omega
    gi_wp2
    go_end0
    exact ⟨⟨_, rfl⟩, by rw [← hlen, List.take_length] at hJs; exact hJs⟩
set_option maxRecDepth 100000 in
set_option maxHeartbeats 1000000 in
theorem ags (n l Bs : Nat) (p : Option Addr) (cap : Nat) (J : List Int → World → Prop) (W : World) (hBs : W.cell? ⟨Bs, 0, none⟩ = some (.slice p 0 cap)) (h0 : J [] W) :
 CallsIn Fence.wide n Tryz.prog 135 #[.func (.yield l) #[] #[], .pointer (some ⟨Bs, 0, none⟩)] W fun e W' => (∃ v, e = .returned v) ∧ J [] W' := by
 refine callsIn_of_wp Tryz.func135 rfl trivial ?_ rfl
 simp only [Tryz.ntmps135, List.size_toArray, List.length_cons, List.length_nil, Nat.reduceAdd, Nat.reduceSub, Array.replicate_succ, Array.replicate_zero, List.push_toArray, List.append_toArray, List.nil_append, List.cons_append]
 gi_wp2
 gi_loopw [7] (fun i wr => i = .int .i64 0 ∧ J [] wr) (fun _ _ => 0)
 case atStart => exact ⟨rfl, h0⟩
 case round =>
  obtain ⟨rfl, hJs⟩ := hrel
  gi_wp2
  go_end0
  exact ⟨⟨_, rfl⟩, hJs⟩
theorem Vj : Q8 Tryz.prog 135 := by
 intro n Bs sv zs w hn hreach hBs hcell hI l J W hW hJ hY h0
 have hc' := (hW.cell (p := ⟨Bs, 0, none⟩) hBs).trans hcell
 rcases hI with ⟨p, cap, rfl, rfl⟩ | ⟨b, off, cap, rfl, hb, hcs⟩
 · exact ags n l Bs p cap J W hc' h0
 · exact agr n l Bs hn w b off zs.length cap zs rfl hreach hb J hJ hY W hc' hcs h0
end
theorem Pv : ∀ j, Names.ρ 260 = some j → r7 Tryz.prog j [2, N.aH] := fun j hj => by
 have e : (Names.ρ 260 : Option Nat) = some 105 := by kernel_rfl
 rw [e] at hj; cases hj; exact FE I0 Hm (by kernel_rfl) (Go.Proofs.enters_of Tryz.func117 (by kernel_rfl) rfl) (by kernel_rfl) (Go.Proofs.enters_of Tryz.func135 (by kernel_rfl) rfl) Vj
def qZ : Go.Shelf.Ren := ⟨fun | 4 => 141 | n => n, fun | 22 => 22 | 25 => 3 | 3 => 3 | 4 => 4 | 9 => 9 | 20 => 20 | 0 => 0 | n => n, fun | n => n⟩
theorem Pw : Go.Proofs.Lays8.n4 Tryz.prog qZ := {
 f4 := ⟨"slices.Grow[[]int,int]", by kernel_rfl, Tryz.func141.trans (congrArg some (by kernel_rfl))⟩,
 mixed := by kernel_rfl,
 t0 := Tryz.underlying0,
 a0 := Tryz.isAgg0,
 z0 := Tryz.sizeOf0,
 v0 := Tryz.zeroValue0,
 t3 := Tryz.underlying3,
 a3 := Tryz.isAgg3,
 z3 := Tryz.sizeOf3,
 v3 := Tryz.zeroValue3,
 t4 := Tryz.underlying4,
 a4 := Tryz.isAgg4,
 z4 := Tryz.sizeOf4,
 v4 := Tryz.zeroValue4,
 t9 := Tryz.underlying9,
 a9 := Tryz.isAgg9,
 z9 := Tryz.sizeOf9,
 v9 := Tryz.zeroValue9,
 t20 := Tryz.underlying20,
 a20 := Tryz.isAgg20,
 z20 := Tryz.sizeOf20,
 v20 := Tryz.zeroValue20,
 t22 := Tryz.underlying22,
 a22 := Tryz.isAgg22,
 z22 := Tryz.sizeOf22,
 v22 := Tryz.zeroValue22 }
theorem agt : (Tryz.prog.info? (qZ.t 25)).isSome = true := by kernel_rfl
theorem Px : ∀ j, Names.ρ 464 = some j → r7 Tryz.prog j [4] := fun j hj => by
 have e : (Names.ρ 464 : Option Nat) = some 141 := by kernel_rfl
 rw [e] at hj; cases hj; exact Mu Pw (i0 := (Tryz.prog.info? (qZ.t 25)).get agt) (Option.some_get _).symm (by kernel_rfl) (by kernel_rfl) (Nat.le_of_ble_eq_true (by kernel_rfl))
theorem Py : ∀ x ∈ Vi, ∀ j, Names.ρ x.1 = some j → r7 Tryz.prog j x.2 := by
 intro x hx
 simp only [Vi, List.mem_cons, List.not_mem_nil, or_false] at hx
 rcases hx with rfl | rfl | rfl
 · exact Pu
 · exact Pv
 · exact Px
end Go.Proofs.YtifghciaddehaaaGreat
