/- MADE BY PROGRAM (lib.py): the numbers that the functions have in this program, and the check of each one. -/
import Derived.Test.YtifghciaddehaaaGreatProg
import Derived.Test.YtifghciaddehaaaGreatZPG
import Derived.KernelRfl
set_option linter.all false
set_option maxRecDepth 100000
namespace Go.Proofs.YtifghciaddehaaaGreat
open Go.Ev
def real : List (Option Nat) := [none, some 7, none, some 9, some 10, none, none, none, some 11, some 14, some 15, none, some 18, some 21, none, some 23, some 16, none, none, some 28, some 29, some 30, some 31, some 32, none, none, none, some 44, some 41, none, some 95, none, none, none, none, some 63, some 64, some 40, some 65, some 66, some 67, some 68, some 69, some 70, some 71, some 72, some 73, some 55, none, some 50, none, some 39, none, some 79, some 83, none, some 98, some 99, some 85, some 100, some 101, some 84, some 61, some 102, some 103, some 104, some 81, some 82, some 119, some 120, some 121, some 75, some 42, some 132, some 133, some 144, some 124, some 146, none, none, none, none, none, none, none, none, none, none, none, none, none, none, none, none, some 13, none, none, none, none, none, none, none, none, none, none, some 49, none, none, none, none, none, none, none, none, none, none, none, none, none, none, some 40, none, none, none, none, none, none, none, none, none, none, none, none, none, none, none, none, none, none, none, none, none, none, none, none, none, none, none, none, none, none, none, none, none, none, none, none, none, none, none, none, none, none, none, none, none, none, some 48, none, none, none, none, none, some 92, none, none, none, some 125, none, none, none, none, none, none, none, none, none, none, none, none, some 112, none, none, none, some 77, none, none, none, none, some 114, some 115, some 113, some 108, none, some 37, none, some 43, none, some 139, some 140, some 138, some 155, some 168, some 151, some 174, none, none, none, none, none, none, none, none, none, none, none, none, none, none, none, none, none, none, none, none, none, none, none, none, none, none, some 117, none, none, none, none, none, none, none, none, none, none, none, none, none, none, none, some 74, none, none, some 105, some 106, some 107, some 109, some 110, some 111, none, some 135, some 136, some 137, some 154, none, none, none, none, none, none, none, none, none, none, none, none, none, none, none, none, none, none, some 76, none, none, none, none, some 34, some 20, none, none, none, none, none, none, none, none, none, none, none, none, some 76, none, none, none, none, none, none, none, none, none, none, none, none, none, none, none, none, none, none, some 19, none, none, some 52, some 53, none, none, none, none, none, none, none, none, none, none, none, none, none, none, none, none, none, none, none, none, none, none, none, none, none, none, none, none, none, none, none, none, none, none, none, none, none, none, none, none, none, none, none, none, none, none, none, none, none, none, none, none, none, none, none, none, none, none, none, none, none, none, none, none, none, none, none, none, none, none, none, none, none, none, none, none, none, none, none, none, none, none, none, none, some 3, none, none, none, some 8, some 12, some 17, some 22, some 24, some 25, none, none, some 33, some 35, some 36, some 38, some 45, some 46, some 47, some 51, some 54, some 56, some 57, none, none, none, none, some 78, some 80, some 86, some 87, some 88, some 89, some 90, some 91, some 93, some 94, none, some 116, some 118, some 122, some 123, some 126, some 127, some 128, some 129, some 130, some 131, some 141, some 145, some 147, some 148, some 149, some 150, some 152, some 167]
def tab : List (Option Go.Ev.Fn) := [none, some K.jD, none, some K.kO, some K.du, none, none, none, some K.cP, some K.aB, some K.cK, none, some K.cZ, some K.ez, none, some K.cB, some K.cT, none, none, some K.dS, some K.bw, some K.iW, some K.eY, some K.kZ, none, none, none, some K.eB, some K.di, none, some K.iX, none, none, none, none, some K.fY, some K.fD, some K.eT, some K.dI, some K.bA, some K.jE, some K.fE, some K.jF, some K.fF, some K.dJ, some K.jB, some K.dK, some K.gz, none, some K.aK, none, some K.aO, none, some K.eC, some K.iY, none, some K.dX, some K.gZ, some K.eH, some K.iZ, some K.gB, some K.dh, some K.dv, some K.i4, some K.dj, some K.gC, some K.aI, some K.bT, some K.cC, some K.aA, some K.bu, some K.eI, some K.dT, some K.dU, some K.i5, some K.aJ, some K.cA, some K.jG, none, none, none, none, none, none, none, none, none, none, none, none, none, none, none, none, some K.kR, none, none, none, none, none, none, none, none, none, none, some K.dm, none, none, none, none, none, none, none, none, none, none, none, none, none, none, some K.fQ, none, none, none, none, none, none, none, none, none, none, none, none, none, none, none, none, none, none, none, none, none, none, none, none, none, none, none, none, none, none, none, none, none, none, none, none, none, none, none, none, none, none, none, none, none, none, some K.ec, none, none, none, none, none, some K.jL, none, none, none, some K.hU, none, none, none, none, none, none, none, none, none, none, none, none, some K.gg, none, none, none, some K.ed, none, none, none, none, some K.cU, some K.fG, some K.dB, some K.bg, none, some K.aU, some K.cQ, some K.fH, none, some K.dN, some K.bj, some K.bZ, some K.kS, some K.kT, some K.fA, some K.jM, none, none, none, none, none, none, none, none, none, none, none, none, none, none, none, none, none, none, none, none, none, none, none, none, none, none, some K.bN, none, none, none, none, none, none, none, none, none, none, none, none, none, none, none, some K.gF, none, none, some K.cF, some K.bk, some K.gM, some K.aZ, some K.au, some K.dP, none, some K.aR, some K.cR, some K.az, some K.cmp_isNaN_int, none, none, none, none, none, none, none, none, none, none, none, none, none, none, none, none, none, none, some K.lC, none, none, none, none, some K.fJ, some K.eO, none, none, none, none, none, none, none, none, none, none, none, none, some K.eD, none, none, none, none, none, none, none, none, none, none, none, none, none, none, none, none, none, none, some K.eE, none, none, some K.aM, some K.aN, none, none, none, none, none, none, none, none, none, none, none, none, none, none, none, none, none, none, none, none, none, none, none, none, none, none, none, none, none, none, none, none, none, none, none, none, none, none, none, none, none, none, none, none, none, none, none, none, none, none, none, none, none, none, none, none, none, none, none, none, none, none, none, none, none, none, none, none, none, none, none, none, none, none, none, none, none, none, none, none, none, none, none, none, some K.bB, none, none, none, some K.ic, some K.dw, some K.bh, some K.cX, some K.bK, some K.eZ, none, none, some K.cH, some K.bE, some K.aL, some K.bO, some K.jg, some K.kW, some K.gR, some K.bL, some K.gT, some K.dM, some K.dq, none, none, none, none, some K.iL, some K.bM, some K.gx, some K.fT, some K.fK, some K.ie, some K.eU, some K.dV, some K.j4, some K.nf, none, some K.bC, some K.bc, some K.gN, some K.jh, some K.jN, some K.iF, some K.bW, some K.aD, some K.dC, some K.ji, some K.cj, some K.gO, some K.cW, some K.ax, some K.aE, some K.b8, some K.kX, some K.eG]
instance names : Names := { ρ := fun f => (real[f]?).join }
instance lib : Lib := ⟨fun f => (tab[f]?).join⟩
instance has1 : bX := ⟨rfl, rfl, rfl, rfl, rfl, rfl, rfl, rfl, rfl, rfl, rfl, rfl, rfl, rfl, rfl, rfl, rfl, rfl, rfl, rfl⟩
instance has2 : bJ := ⟨rfl, rfl, rfl, rfl, rfl, rfl, rfl, rfl, rfl, rfl, rfl, rfl, rfl, rfl, rfl, rfl, rfl, rfl, rfl, rfl, rfl, rfl, rfl, rfl, rfl, rfl, rfl, rfl, rfl, rfl, rfl, rfl, rfl, rfl, rfl, rfl, rfl⟩
instance has3 : fR := ⟨rfl⟩
instance has4 : fS := ⟨rfl, rfl⟩
instance has5 : iK := ⟨⟩
instance has6 : fy := ⟨rfl⟩
instance has7 : fo := ⟨rfl, rfl⟩
instance has8 : gU := ⟨rfl⟩
instance has9 : fM := ⟨rfl, rfl, rfl, rfl, rfl, rfl, rfl, rfl, rfl, rfl, rfl, rfl, rfl, rfl, rfl⟩
instance has10 : cV := ⟨rfl⟩
instance has11 : cI := ⟨rfl, rfl, rfl, rfl, rfl, rfl, rfl, rfl, rfl, rfl, rfl⟩
instance has12 : fB := ⟨⟩
instance has13 : eu := ⟨rfl, rfl, rfl, rfl⟩
instance has14 : jb := ⟨⟩
instance has15 : iE := ⟨rfl, rfl, rfl⟩
instance has21 : gl := ⟨rfl, rfl, rfl, rfl, rfl, rfl, rfl, rfl, rfl, rfl, rfl, rfl, rfl, rfl, rfl, rfl, rfl⟩
instance has22 : eQ := ⟨rfl, rfl, rfl, rfl, rfl, rfl, rfl, rfl, rfl, rfl, rfl, rfl, rfl, rfl, rfl, rfl, rfl, rfl, rfl, rfl, rfl, rfl, rfl, rfl⟩
instance has23 : jj := ⟨rfl, rfl, rfl, rfl, rfl⟩
theorem HJ : aT Tryz.prog Tryz.f7 K.jD = true := by kernel_rfl
theorem JL : aT Tryz.prog Tryz.f9 K.kO = true := by kernel_rfl
theorem AP : aT Tryz.prog Tryz.f10 K.du = true := by kernel_rfl
theorem yQ : aT Tryz.prog Tryz.f11 K.cP = true := by kernel_rfl
theorem AQ : aT Tryz.prog Tryz.f14 K.aB = true := by kernel_rfl
theorem Db : aT Tryz.prog Tryz.f15 K.cK = true := by kernel_rfl
theorem JM : aT Tryz.prog Tryz.f18 K.cZ = true := by kernel_rfl
theorem AR : aT Tryz.prog Tryz.f21 K.ez = true := by kernel_rfl
theorem CO : aT Tryz.prog Tryz.f23 K.cB = true := by kernel_rfl
theorem AS : aT Tryz.prog Tryz.f16 K.cT = true := by kernel_rfl
theorem Fi : aT Tryz.prog Tryz.f28 K.dS = true := by kernel_rfl
theorem AT : aT Tryz.prog Tryz.f29 K.bw = true := by kernel_rfl
theorem JN : aT Tryz.prog Tryz.f30 K.iW = true := by kernel_rfl
theorem Dc : aT Tryz.prog Tryz.f31 K.eY = true := by kernel_rfl
theorem Nl : aT Tryz.prog Tryz.f32 K.kZ = true := by kernel_rfl
theorem AU : aT Tryz.prog Tryz.f44 K.eB = true := by kernel_rfl
theorem Fj : aT Tryz.prog Tryz.f41 K.di = true := by kernel_rfl
theorem JO : aT Tryz.prog Tryz.f95 K.iX = true := by kernel_rfl
theorem Dd : aT Tryz.prog Tryz.f63 K.fY = true := by kernel_rfl
theorem Fk : aT Tryz.prog Tryz.f64 K.fD = true := by kernel_rfl
theorem HK : aT Tryz.prog Tryz.f40 K.eT = true := by kernel_rfl
theorem Fl : aT Tryz.prog Tryz.f65 K.dI = true := by kernel_rfl
theorem zM : aT Tryz.prog Tryz.f66 K.bA = true := by kernel_rfl
theorem HL : aT Tryz.prog Tryz.f67 K.jE = true := by kernel_rfl
theorem Fm : aT Tryz.prog Tryz.f68 K.fE = true := by kernel_rfl
theorem HM : aT Tryz.prog Tryz.f69 K.jF = true := by kernel_rfl
theorem Fo : aT Tryz.prog Tryz.f70 K.fF = true := by kernel_rfl
theorem De : aT Tryz.prog Tryz.f71 K.dJ = true := by kernel_rfl
theorem JP : aT Tryz.prog Tryz.f72 K.jB = true := by kernel_rfl
theorem Df : aT Tryz.prog Tryz.f73 K.dK = true := by kernel_rfl
theorem Fp : aT Tryz.prog Tryz.f55 K.gz = true := by kernel_rfl
theorem nZ : aT Tryz.prog Tryz.f50 K.aK = true := by kernel_rfl
theorem qC : aT Tryz.prog Tryz.f39 K.aO = true := by kernel_rfl
theorem AV : aT Tryz.prog Tryz.f79 K.eC = true := by kernel_rfl
theorem HN : aT Tryz.prog Tryz.f83 K.iY = true := by kernel_rfl
theorem Dg : aT Tryz.prog Tryz.f98 K.dX = true := by kernel_rfl
theorem Fq : aT Tryz.prog Tryz.f99 K.gZ = true := by kernel_rfl
theorem Fs : aT Tryz.prog Tryz.f85 K.eH = true := by kernel_rfl
theorem HO : aT Tryz.prog Tryz.f100 K.iZ = true := by kernel_rfl
theorem Ft : aT Tryz.prog Tryz.f101 K.gB = true := by kernel_rfl
theorem HP : aT Tryz.prog Tryz.f84 K.dh = true := by kernel_rfl
theorem AX : aT Tryz.prog Tryz.f61 K.dv = true := by kernel_rfl
theorem HQ : aT Tryz.prog Tryz.f102 K.i4 = true := by kernel_rfl
theorem Fu : aT Tryz.prog Tryz.f103 K.dj = true := by kernel_rfl
theorem Fv : aT Tryz.prog Tryz.f104 K.gC = true := by kernel_rfl
theorem pG : aT Tryz.prog Tryz.f81 K.aI = true := by kernel_rfl
theorem tn : aT Tryz.prog Tryz.f82 K.bT = true := by kernel_rfl
theorem yR : aT Tryz.prog Tryz.f119 K.cC = true := by kernel_rfl
theorem jT : aT Tryz.prog Tryz.f120 K.aA = true := by kernel_rfl
theorem vM : aT Tryz.prog Tryz.f121 K.bu = true := by kernel_rfl
theorem Nn : aT Tryz.prog Tryz.f75 K.eI = true := by kernel_rfl
theorem Fw : aT Tryz.prog Tryz.f42 K.dT = true := by kernel_rfl
theorem Fx : aT Tryz.prog Tryz.f132 K.dU = true := by kernel_rfl
theorem HR : aT Tryz.prog Tryz.f133 K.i5 = true := by kernel_rfl
theorem kv : aT Tryz.prog Tryz.f144 K.aJ = true := by kernel_rfl
theorem Dh : aT Tryz.prog Tryz.f124 K.cA = true := by kernel_rfl
theorem HT : aT Tryz.prog Tryz.f146 K.jG = true := by kernel_rfl
theorem JQ : aT Tryz.prog Tryz.f13 K.kR = true := by kernel_rfl
theorem Di : aT Tryz.prog Tryz.f49 K.dm = true := by kernel_rfl
theorem CP : aT Tryz.prog Tryz.f40 K.fQ = true := by kernel_rfl
theorem HU : aT Tryz.prog Tryz.f48 K.ec = true := by kernel_rfl
theorem HV : aT Tryz.prog Tryz.f92 K.jL = true := by kernel_rfl
theorem Fy : aT Tryz.prog Tryz.f125 K.hU = true := by kernel_rfl
theorem Dj : aT Tryz.prog Tryz.f112 K.gg = true := by kernel_rfl
theorem Dk : aT Tryz.prog Tryz.f77 K.ed = true := by kernel_rfl
theorem AY : aT Tryz.prog Tryz.f114 K.cU = true := by kernel_rfl
theorem HW : aT Tryz.prog Tryz.f115 K.fG = true := by kernel_rfl
theorem CQ : aT Tryz.prog Tryz.f113 K.dB = true := by kernel_rfl
theorem tu : aT Tryz.prog Tryz.f108 K.bg = true := by kernel_rfl
theorem tz : aT Tryz.prog Tryz.f37 K.aU = true := by kernel_rfl
theorem FA : aT Tryz.prog Tryz.f43 K.fH = true := by kernel_rfl
theorem zN : aT Tryz.prog Tryz.f139 K.dN = true := by kernel_rfl
theorem yS : aT Tryz.prog Tryz.f140 K.bj = true := by kernel_rfl
theorem zO : aT Tryz.prog Tryz.f138 K.bZ = true := by kernel_rfl
theorem JR : aT Tryz.prog Tryz.f155 K.kS = true := by kernel_rfl
theorem JS : aT Tryz.prog Tryz.f168 K.kT = true := by kernel_rfl
theorem JT : aT Tryz.prog Tryz.f151 K.fA = true := by kernel_rfl
theorem HX : aT Tryz.prog Tryz.f174 K.jM = true := by kernel_rfl
theorem uW : aT Tryz.prog Tryz.f117 K.bN = true := by kernel_rfl
theorem FB : aT Tryz.prog Tryz.f74 K.gF = true := by kernel_rfl
theorem xy : aT Tryz.prog Tryz.f105 K.cF = true := by kernel_rfl
theorem sQ : aT Tryz.prog Tryz.f106 K.bk = true := by kernel_rfl
theorem Dl : aT Tryz.prog Tryz.f107 K.gM = true := by kernel_rfl
theorem rk : aT Tryz.prog Tryz.f109 K.aZ = true := by kernel_rfl
theorem gL : aT Tryz.prog Tryz.f110 K.au = true := by kernel_rfl
theorem CR : aT Tryz.prog Tryz.f111 K.dP = true := by kernel_rfl
theorem qD : aT Tryz.prog Tryz.f135 K.aR = true := by kernel_rfl
theorem zP : aT Tryz.prog Tryz.f136 K.cR = true := by kernel_rfl
theorem im : aT Tryz.prog Tryz.f137 K.az = true := by kernel_rfl
theorem CS : aT Tryz.prog Tryz.f154 K.cmp_isNaN_int = true := by kernel_rfl
theorem FC : aT Tryz.prog Tryz.f76 K.lC = true := by kernel_rfl
theorem FD : aT Tryz.prog Tryz.f34 K.fJ = true := by kernel_rfl
theorem FE : aT Tryz.prog Tryz.f20 K.eO = true := by kernel_rfl
theorem AZ : aT Tryz.prog Tryz.f76 K.eD = true := by kernel_rfl
theorem A0 : aT Tryz.prog Tryz.f19 K.eE = true := by kernel_rfl
theorem lX : aT Tryz.prog Tryz.f52 K.aM = true := by kernel_rfl
theorem mN : aT Tryz.prog Tryz.f53 K.aN = true := by kernel_rfl
theorem sR : aT Tryz.prog Tryz.f3 K.bB = true := by kernel_rfl
theorem FF : aT Tryz.prog Tryz.f8 K.ic = true := by kernel_rfl
theorem yT : aT Tryz.prog Tryz.f12 K.dw = true := by kernel_rfl
theorem xz : aT Tryz.prog Tryz.f17 K.bh = true := by kernel_rfl
theorem Dm : aT Tryz.prog Tryz.f22 K.cX = true := by kernel_rfl
theorem yU : aT Tryz.prog Tryz.f24 K.bK = true := by kernel_rfl
theorem yV : aT Tryz.prog Tryz.f25 K.eZ = true := by kernel_rfl
theorem vN : aT Tryz.prog Tryz.f33 K.cH = true := by kernel_rfl
theorem yW : aT Tryz.prog Tryz.f35 K.bE = true := by kernel_rfl
theorem pB : aT Tryz.prog Tryz.f36 K.aL = true := by kernel_rfl
theorem uX : aT Tryz.prog Tryz.f38 K.bO = true := by kernel_rfl
theorem JU : aT Tryz.prog Tryz.f45 K.jg = true := by kernel_rfl
theorem JV : aT Tryz.prog Tryz.f46 K.kW = true := by kernel_rfl
theorem HY : aT Tryz.prog Tryz.f47 K.gR = true := by kernel_rfl
theorem vO : aT Tryz.prog Tryz.f51 K.bL = true := by kernel_rfl
theorem HZ : aT Tryz.prog Tryz.f54 K.gT = true := by kernel_rfl
theorem vP : aT Tryz.prog Tryz.f56 K.dM = true := by kernel_rfl
theorem FH : aT Tryz.prog Tryz.f57 K.dq = true := by kernel_rfl
theorem FI : aT Tryz.prog Tryz.f78 K.iL = true := by kernel_rfl
theorem vQ : aT Tryz.prog Tryz.f80 K.bM = true := by kernel_rfl
theorem H3 : aT Tryz.prog Tryz.f86 K.gx = true := by kernel_rfl
theorem CT : aT Tryz.prog Tryz.f87 K.fT = true := by kernel_rfl
theorem H4 : aT Tryz.prog Tryz.f88 K.fK = true := by kernel_rfl
theorem FJ : aT Tryz.prog Tryz.f89 K.ie = true := by kernel_rfl
theorem H5 : aT Tryz.prog Tryz.f90 K.eU = true := by kernel_rfl
theorem FK : aT Tryz.prog Tryz.f91 K.dV = true := by kernel_rfl
theorem No : aT Tryz.prog Tryz.f93 K.j4 = true := by kernel_rfl
theorem Np : aT Tryz.prog Tryz.f94 K.nf = true := by kernel_rfl
theorem sT : aT Tryz.prog Tryz.f116 K.bC = true := by kernel_rfl
theorem rm : aT Tryz.prog Tryz.f118 K.bc = true := by kernel_rfl
theorem Dn : aT Tryz.prog Tryz.f122 K.gN = true := by kernel_rfl
theorem JW : aT Tryz.prog Tryz.f123 K.jh = true := by kernel_rfl
theorem H6 : aT Tryz.prog Tryz.f126 K.jN = true := by kernel_rfl
theorem JX : aT Tryz.prog Tryz.f127 K.iF = true := by kernel_rfl
theorem yX : aT Tryz.prog Tryz.f128 K.bW = true := by kernel_rfl
theorem kn : aT Tryz.prog Tryz.f129 K.aD = true := by kernel_rfl
theorem H7 : aT Tryz.prog Tryz.f130 K.dC = true := by kernel_rfl
theorem JY : aT Tryz.prog Tryz.f131 K.ji = true := by kernel_rfl
theorem uY : aT Tryz.prog Tryz.f141 K.cj = true := by kernel_rfl
theorem Dp : aT Tryz.prog Tryz.f145 K.gO = true := by kernel_rfl
theorem xA : aT Tryz.prog Tryz.f147 K.cW = true := by kernel_rfl
theorem kx : aT Tryz.prog Tryz.f148 K.ax = true := by kernel_rfl
theorem vR : aT Tryz.prog Tryz.f149 K.aE = true := by kernel_rfl
theorem vS : aT Tryz.prog Tryz.f150 K.b8 = true := by kernel_rfl
theorem JZ : aT Tryz.prog Tryz.f152 K.kX = true := by kernel_rfl
theorem A1 : aT Tryz.prog Tryz.f167 K.eG = true := by kernel_rfl
theorem ae1 : IB Tryz.prog real tab :=
 ⟨trivial, ⟨⟨by kernel_rfl, aj Tryz.func7 HJ⟩, ⟨trivial, ⟨⟨by kernel_rfl, aj Tryz.func9 JL⟩, ⟨⟨by kernel_rfl, aj Tryz.func10 AP⟩, ⟨trivial, ⟨trivial, ⟨trivial, ⟨⟨by kernel_rfl, aj Tryz.func11 yQ⟩, ⟨⟨by kernel_rfl, aj Tryz.func14 AQ⟩, ⟨⟨by kernel_rfl, aj Tryz.func15 Db⟩, ⟨trivial, ⟨⟨by kernel_rfl, aj Tryz.func18 JM⟩, ⟨⟨by kernel_rfl, aj Tryz.func21 AR⟩, ⟨trivial, ⟨⟨by kernel_rfl, aj Tryz.func23 CO⟩, ⟨⟨by kernel_rfl, aj Tryz.func16 AS⟩, ⟨trivial, ⟨trivial, ⟨⟨by kernel_rfl, aj Tryz.func28 Fi⟩, ⟨⟨by kernel_rfl, aj Tryz.func29 AT⟩, ⟨⟨by kernel_rfl, aj Tryz.func30 JN⟩, ⟨⟨by kernel_rfl, aj Tryz.func31 Dc⟩, ⟨⟨by kernel_rfl, aj Tryz.func32 Nl⟩, ⟨trivial, ⟨trivial, ⟨trivial, ⟨⟨by kernel_rfl, aj Tryz.func44 AU⟩, ⟨⟨by kernel_rfl, aj Tryz.func41 Fj⟩, ⟨trivial, ⟨⟨by kernel_rfl, aj Tryz.func95 JO⟩, ⟨trivial, ⟨trivial, ⟨trivial, ⟨trivial, ⟨⟨by kernel_rfl, aj Tryz.func63 Dd⟩, ⟨⟨by kernel_rfl, aj Tryz.func64 Fk⟩, ⟨⟨by kernel_rfl, aj Tryz.func40 HK⟩, ⟨⟨by kernel_rfl, aj Tryz.func65 Fl⟩, ⟨⟨by kernel_rfl, aj Tryz.func66 zM⟩, ⟨⟨by kernel_rfl, aj Tryz.func67 HL⟩, ⟨⟨by kernel_rfl, aj Tryz.func68 Fm⟩, ⟨⟨by kernel_rfl, aj Tryz.func69 HM⟩, ⟨⟨by kernel_rfl, aj Tryz.func70 Fo⟩, ⟨⟨by kernel_rfl, aj Tryz.func71 De⟩, ⟨⟨by kernel_rfl, aj Tryz.func72 JP⟩, ⟨⟨by kernel_rfl, aj Tryz.func73 Df⟩, ⟨⟨by kernel_rfl, aj Tryz.func55 Fp⟩, ⟨trivial, ⟨⟨by kernel_rfl, aj Tryz.func50 nZ⟩, ⟨trivial, ⟨⟨by kernel_rfl, aj Tryz.func39 qC⟩, ⟨trivial, ⟨⟨by kernel_rfl, aj Tryz.func79 AV⟩, ⟨⟨by kernel_rfl, aj Tryz.func83 HN⟩, ⟨trivial, ⟨⟨by kernel_rfl, aj Tryz.func98 Dg⟩, ⟨⟨by kernel_rfl, aj Tryz.func99 Fq⟩, ⟨⟨by kernel_rfl, aj Tryz.func85 Fs⟩, ⟨⟨by kernel_rfl, aj Tryz.func100 HO⟩, ⟨⟨by kernel_rfl, aj Tryz.func101 Ft⟩, ⟨⟨by kernel_rfl, aj Tryz.func84 HP⟩, ⟨⟨by kernel_rfl, aj Tryz.func61 AX⟩, ⟨⟨by kernel_rfl, aj Tryz.func102 HQ⟩, ⟨⟨by kernel_rfl, aj Tryz.func103 Fu⟩, ⟨⟨by kernel_rfl, aj Tryz.func104 Fv⟩, ⟨⟨by kernel_rfl, aj Tryz.func81 pG⟩, ⟨⟨by kernel_rfl, aj Tryz.func82 tn⟩, ⟨⟨by kernel_rfl, aj Tryz.func119 yR⟩, ⟨⟨by kernel_rfl, aj Tryz.func120 jT⟩, ⟨⟨by kernel_rfl, aj Tryz.func121 vM⟩, ⟨⟨by kernel_rfl, aj Tryz.func75 Nn⟩, ⟨⟨by kernel_rfl, aj Tryz.func42 Fw⟩, ⟨⟨by kernel_rfl, aj Tryz.func132 Fx⟩, ⟨⟨by kernel_rfl, aj Tryz.func133 HR⟩, ⟨⟨by kernel_rfl, aj Tryz.func144 kv⟩, ⟨⟨by kernel_rfl, aj Tryz.func124 Dh⟩, ⟨⟨by kernel_rfl, aj Tryz.func146 HT⟩, ⟨trivial, ⟨trivial, ⟨trivial, ⟨trivial, ⟨trivial, ⟨trivial, ⟨trivial, ⟨trivial, ⟨trivial, ⟨trivial, ⟨trivial, ⟨trivial, ⟨trivial, ⟨trivial, ⟨trivial, ⟨trivial, ⟨⟨by kernel_rfl, aj Tryz.func13 JQ⟩, ⟨trivial, ⟨trivial, ⟨trivial, ⟨trivial, ⟨trivial, ⟨trivial, ⟨trivial, ⟨trivial, ⟨trivial, ⟨trivial, ⟨⟨by kernel_rfl, aj Tryz.func49 Di⟩, ⟨trivial, ⟨trivial, ⟨trivial, ⟨trivial, ⟨trivial, ⟨trivial, ⟨trivial, ⟨trivial, ⟨trivial, ⟨trivial, ⟨trivial, ⟨trivial, ⟨trivial, ⟨trivial, ⟨⟨by kernel_rfl, aj Tryz.func40 CP⟩, ⟨trivial, ⟨trivial, ⟨trivial, ⟨trivial, ⟨trivial, ⟨trivial, ⟨trivial, ⟨trivial, ⟨trivial, ⟨trivial, ⟨trivial, ⟨trivial, ⟨trivial, ⟨trivial, ⟨trivial, ⟨trivial, ⟨trivial, ⟨trivial, ⟨trivial, ⟨trivial, ⟨trivial, ⟨trivial, ⟨trivial, ⟨trivial, ⟨trivial, ⟨trivial, ⟨trivial, ⟨trivial, ⟨trivial, ⟨trivial, ⟨trivial, ⟨trivial, ⟨trivial, ⟨trivial, ⟨trivial, ⟨trivial, ⟨trivial, ⟨trivial, ⟨trivial, ⟨trivial, ⟨trivial, ⟨trivial, ⟨trivial, ⟨trivial, ⟨trivial, ⟨trivial, ⟨⟨by kernel_rfl, aj Tryz.func48 HU⟩, ⟨trivial, ⟨trivial, ⟨trivial, ⟨trivial, ⟨trivial, ⟨⟨by kernel_rfl, aj Tryz.func92 HV⟩, ⟨trivial, ⟨trivial, ⟨trivial, ⟨⟨by kernel_rfl, aj Tryz.func125 Fy⟩, ⟨trivial, ⟨trivial, ⟨trivial, ⟨trivial, ⟨trivial, ⟨trivial, ⟨trivial, ⟨trivial, ⟨trivial, ⟨trivial, ⟨trivial, ⟨trivial, ⟨⟨by kernel_rfl, aj Tryz.func112 Dj⟩, ⟨trivial, ⟨trivial, ⟨trivial, ⟨⟨by kernel_rfl, aj Tryz.func77 Dk⟩, ⟨trivial, ⟨trivial, ⟨trivial, ⟨trivial, ⟨⟨by kernel_rfl, aj Tryz.func114 AY⟩, ⟨⟨by kernel_rfl, aj Tryz.func115 HW⟩, ⟨⟨by kernel_rfl, aj Tryz.func113 CQ⟩, ⟨⟨by kernel_rfl, aj Tryz.func108 tu⟩, ⟨trivial, ⟨⟨by kernel_rfl, aj Tryz.func37 tz⟩, ⟨trivial, ⟨⟨by kernel_rfl, aj Tryz.func43 FA⟩, ⟨trivial, ⟨⟨by kernel_rfl, aj Tryz.func139 zN⟩, ⟨⟨by kernel_rfl, aj Tryz.func140 yS⟩, ⟨⟨by kernel_rfl, aj Tryz.func138 zO⟩, ⟨⟨by kernel_rfl, aj Tryz.func155 JR⟩, ⟨⟨by kernel_rfl, aj Tryz.func168 JS⟩, ⟨⟨by kernel_rfl, aj Tryz.func151 JT⟩, ⟨⟨by kernel_rfl, aj Tryz.func174 HX⟩, ⟨trivial, ⟨trivial, ⟨trivial, ⟨trivial, ⟨trivial, ⟨trivial, ⟨trivial, ⟨trivial, ⟨trivial, ⟨trivial, ⟨trivial, ⟨trivial, ⟨trivial, ⟨trivial, ⟨trivial, ⟨trivial, ⟨trivial, ⟨trivial, ⟨trivial, ⟨trivial, ⟨trivial, ⟨trivial, ⟨trivial, ⟨trivial, ⟨trivial, ⟨trivial, ⟨⟨by kernel_rfl, aj Tryz.func117 uW⟩, ⟨trivial, ⟨trivial, ⟨trivial, ⟨trivial, ⟨trivial, ⟨trivial, ⟨trivial, ⟨trivial, ⟨trivial, ⟨trivial, ⟨trivial, ⟨trivial, ⟨trivial, ⟨trivial, ⟨trivial, ⟨⟨by kernel_rfl, aj Tryz.func74 FB⟩, ⟨trivial, ⟨trivial, ⟨⟨by kernel_rfl, aj Tryz.func105 xy⟩, ⟨⟨by kernel_rfl, aj Tryz.func106 sQ⟩, ⟨⟨by kernel_rfl, aj Tryz.func107 Dl⟩, ⟨⟨by kernel_rfl, aj Tryz.func109 rk⟩, ⟨⟨by kernel_rfl, aj Tryz.func110 gL⟩, ⟨⟨by kernel_rfl, aj Tryz.func111 CR⟩, ⟨trivial, ⟨⟨by kernel_rfl, aj Tryz.func135 qD⟩, ⟨⟨by kernel_rfl, aj Tryz.func136 zP⟩, ⟨⟨by kernel_rfl, aj Tryz.func137 im⟩, ⟨⟨by kernel_rfl, aj Tryz.func154 CS⟩, ⟨trivial, ⟨trivial, ⟨trivial, ⟨trivial, ⟨trivial, ⟨trivial, ⟨trivial, ⟨trivial, ⟨trivial, ⟨trivial, ⟨trivial, ⟨trivial, ⟨trivial, ⟨trivial, ⟨trivial, ⟨trivial, ⟨trivial, ⟨trivial, ⟨⟨by kernel_rfl, aj Tryz.func76 FC⟩, ⟨trivial, ⟨trivial, ⟨trivial, ⟨trivial, ⟨⟨by kernel_rfl, aj Tryz.func34 FD⟩, ⟨⟨by kernel_rfl, aj Tryz.func20 FE⟩, ⟨trivial, ⟨trivial, ⟨trivial, ⟨trivial, ⟨trivial, ⟨trivial, ⟨trivial, ⟨trivial, ⟨trivial, ⟨trivial, ⟨trivial, ⟨trivial, ⟨⟨by kernel_rfl, aj Tryz.func76 AZ⟩, ⟨trivial, ⟨trivial, ⟨trivial, ⟨trivial, ⟨trivial, ⟨trivial, ⟨trivial, ⟨trivial, ⟨trivial, ⟨trivial, ⟨trivial, ⟨trivial, ⟨trivial, ⟨trivial, ⟨trivial, ⟨trivial, ⟨trivial, ⟨trivial, ⟨⟨by kernel_rfl, aj Tryz.func19 A0⟩, ⟨trivial, ⟨trivial, ⟨⟨by kernel_rfl, aj Tryz.func52 lX⟩, ⟨⟨by kernel_rfl, aj Tryz.func53 mN⟩, ⟨trivial, ⟨trivial, ⟨trivial, ⟨trivial, ⟨trivial, ⟨trivial, ⟨trivial, ⟨trivial, ⟨trivial, ⟨trivial, ⟨trivial, ⟨trivial, ⟨trivial, ⟨trivial, ⟨trivial, ⟨trivial, ⟨trivial, ⟨trivial, ⟨trivial, ⟨trivial, ⟨trivial, ⟨trivial, ⟨trivial, ⟨trivial, ⟨trivial, ⟨trivial, ⟨trivial, ⟨trivial, ⟨trivial, ⟨trivial, ⟨trivial, ⟨trivial, ⟨trivial, ⟨trivial, ⟨trivial, ⟨trivial, ⟨trivial, ⟨trivial, ⟨trivial, ⟨trivial, ⟨trivial, ⟨trivial, ⟨trivial, ⟨trivial, ⟨trivial, ⟨trivial, ⟨trivial, ⟨trivial, ⟨trivial, ⟨trivial, ⟨trivial, ⟨trivial, ⟨trivial, ⟨trivial, ⟨trivial, ⟨trivial, ⟨trivial, ⟨trivial, ⟨trivial, ⟨trivial, ⟨trivial, ⟨trivial, ⟨trivial, ⟨trivial, ⟨trivial, ⟨trivial, ⟨trivial, ⟨trivial, ⟨trivial, ⟨trivial, ⟨trivial, ⟨trivial, ⟨trivial, ⟨trivial, ⟨trivial, ⟨trivial, ⟨trivial, ⟨trivial, ⟨trivial, ⟨trivial, ⟨trivial, ⟨trivial, ⟨trivial, ⟨trivial, ⟨⟨by kernel_rfl, aj Tryz.func3 sR⟩, ⟨trivial, ⟨trivial, ⟨trivial, ⟨⟨by kernel_rfl, aj Tryz.func8 FF⟩, ⟨⟨by kernel_rfl, aj Tryz.func12 yT⟩, ⟨⟨by kernel_rfl, aj Tryz.func17 xz⟩, ⟨⟨by kernel_rfl, aj Tryz.func22 Dm⟩, ⟨⟨by kernel_rfl, aj Tryz.func24 yU⟩, ⟨⟨by kernel_rfl, aj Tryz.func25 yV⟩, ⟨trivial, ⟨trivial, ⟨⟨by kernel_rfl, aj Tryz.func33 vN⟩, ⟨⟨by kernel_rfl, aj Tryz.func35 yW⟩, ⟨⟨by kernel_rfl, aj Tryz.func36 pB⟩, ⟨⟨by kernel_rfl, aj Tryz.func38 uX⟩, ⟨⟨by kernel_rfl, aj Tryz.func45 JU⟩, ⟨⟨by kernel_rfl, aj Tryz.func46 JV⟩, ⟨⟨by kernel_rfl, aj Tryz.func47 HY⟩, ⟨⟨by kernel_rfl, aj Tryz.func51 vO⟩, ⟨⟨by kernel_rfl, aj Tryz.func54 HZ⟩, ⟨⟨by kernel_rfl, aj Tryz.func56 vP⟩, ⟨⟨by kernel_rfl, aj Tryz.func57 FH⟩, ⟨trivial, ⟨trivial, ⟨trivial, ⟨trivial, ⟨⟨by kernel_rfl, aj Tryz.func78 FI⟩, ⟨⟨by kernel_rfl, aj Tryz.func80 vQ⟩, ⟨⟨by kernel_rfl, aj Tryz.func86 H3⟩, ⟨⟨by kernel_rfl, aj Tryz.func87 CT⟩, ⟨⟨by kernel_rfl, aj Tryz.func88 H4⟩, ⟨⟨by kernel_rfl, aj Tryz.func89 FJ⟩, ⟨⟨by kernel_rfl, aj Tryz.func90 H5⟩, ⟨⟨by kernel_rfl, aj Tryz.func91 FK⟩, ⟨⟨by kernel_rfl, aj Tryz.func93 No⟩, ⟨⟨by kernel_rfl, aj Tryz.func94 Np⟩, ⟨trivial, ⟨⟨by kernel_rfl, aj Tryz.func116 sT⟩, ⟨⟨by kernel_rfl, aj Tryz.func118 rm⟩, ⟨⟨by kernel_rfl, aj Tryz.func122 Dn⟩, ⟨⟨by kernel_rfl, aj Tryz.func123 JW⟩, ⟨⟨by kernel_rfl, aj Tryz.func126 H6⟩, ⟨⟨by kernel_rfl, aj Tryz.func127 JX⟩, ⟨⟨by kernel_rfl, aj Tryz.func128 yX⟩, ⟨⟨by kernel_rfl, aj Tryz.func129 kn⟩, ⟨⟨by kernel_rfl, aj Tryz.func130 H7⟩, ⟨⟨by kernel_rfl, aj Tryz.func131 JY⟩, ⟨⟨by kernel_rfl, aj Tryz.func141 uY⟩, ⟨⟨by kernel_rfl, aj Tryz.func145 Dp⟩, ⟨⟨by kernel_rfl, aj Tryz.func147 xA⟩, ⟨⟨by kernel_rfl, aj Tryz.func148 kx⟩, ⟨⟨by kernel_rfl, aj Tryz.func149 vR⟩, ⟨⟨by kernel_rfl, aj Tryz.func150 vS⟩, ⟨⟨by kernel_rfl, aj Tryz.func152 JZ⟩, ⟨⟨by kernel_rfl, aj Tryz.func167 A1⟩, trivial⟩⟩⟩⟩⟩⟩⟩⟩⟩⟩⟩⟩⟩⟩⟩⟩⟩⟩⟩⟩⟩⟩⟩⟩⟩⟩⟩⟩⟩⟩⟩⟩⟩⟩⟩⟩⟩⟩⟩⟩⟩⟩⟩⟩⟩⟩⟩⟩⟩⟩⟩⟩⟩⟩⟩⟩⟩⟩⟩⟩⟩⟩⟩⟩⟩⟩⟩⟩⟩⟩⟩⟩⟩⟩⟩⟩⟩⟩⟩⟩⟩⟩⟩⟩⟩⟩⟩⟩⟩⟩⟩⟩⟩⟩⟩⟩⟩⟩⟩⟩⟩⟩⟩⟩⟩⟩⟩⟩⟩⟩⟩⟩⟩⟩⟩⟩⟩⟩⟩⟩⟩⟩⟩⟩⟩⟩⟩⟩⟩⟩⟩⟩⟩⟩⟩⟩⟩⟩⟩⟩⟩⟩⟩⟩⟩⟩⟩⟩⟩⟩⟩⟩⟩⟩⟩⟩⟩⟩⟩⟩⟩⟩⟩⟩⟩⟩⟩⟩⟩⟩⟩⟩⟩⟩⟩⟩⟩⟩⟩⟩⟩⟩⟩⟩⟩⟩⟩⟩⟩⟩⟩⟩⟩⟩⟩⟩⟩⟩⟩⟩⟩⟩⟩⟩⟩⟩⟩⟩⟩⟩⟩⟩⟩⟩⟩⟩⟩⟩⟩⟩⟩⟩⟩⟩⟩⟩⟩⟩⟩⟩⟩⟩⟩⟩⟩⟩⟩⟩⟩⟩⟩⟩⟩⟩⟩⟩⟩⟩⟩⟩⟩⟩⟩⟩⟩⟩⟩⟩⟩⟩⟩⟩⟩⟩⟩⟩⟩⟩⟩⟩⟩⟩⟩⟩⟩⟩⟩⟩⟩⟩⟩⟩⟩⟩⟩⟩⟩⟩⟩⟩⟩⟩⟩⟩⟩⟩⟩⟩⟩⟩⟩⟩⟩⟩⟩⟩⟩⟩⟩⟩⟩⟩⟩⟩⟩⟩⟩⟩⟩⟩⟩⟩⟩⟩⟩⟩⟩⟩⟩⟩⟩⟩⟩⟩⟩⟩⟩⟩⟩⟩⟩⟩⟩⟩⟩⟩⟩⟩⟩⟩⟩⟩⟩⟩⟩⟩⟩⟩⟩⟩⟩⟩⟩⟩⟩⟩⟩⟩⟩⟩⟩⟩⟩⟩⟩⟩⟩⟩⟩⟩⟩⟩⟩⟩⟩⟩⟩⟩⟩⟩⟩⟩⟩⟩⟩⟩⟩⟩⟩⟩⟩⟩⟩⟩⟩⟩⟩⟩⟩⟩⟩⟩⟩⟩⟩⟩⟩⟩⟩⟩⟩⟩⟩⟩⟩⟩⟩⟩⟩⟩⟩⟩⟩⟩⟩⟩⟩⟩⟩⟩⟩⟩⟩⟩⟩⟩⟩⟩⟩⟩⟩⟩⟩⟩⟩⟩⟩⟩⟩⟩⟩⟩⟩⟩⟩⟩⟩⟩⟩⟩⟩⟩
theorem ae2 : ∀ f j, Names.ρ f = some j → Names.it f = true → Ee Tryz.prog j := fun f j hj h => Bool.noConfusion (show false = true from h)
def ZS : List (Nat × List Nat) := [(241, [1]), (260, [2, N.aR]), (464, [4])]
def H8 : Go.Shelf.Ren := ⟨fun | 189 => 117 | 125 => 143 | 257 => 142 | 128 => 165 | 129 => 166 | 294 => 156 | 295 => 157 | 296 => 158 | 297 => 159 | 298 => 160 | 299 => 161 | 216 => 162 | 300 => 163 | 301 => 164 | 328 => 169 | 329 => 170 | 330 => 171 | 331 => 172 | 332 => 173 | 215 => 154 | 343 => 175 | n => n, fun | 28 => 22 | 3 => 3 | 46 => 166 | 0 => 0 | 51 => 190 | 53 => 192 | 4 => 4 | 183 => 183 | 182 => 182 | 131 => 187 | 5 => 5 | 9 => 9 | 218 => 194 | 222 => 198 | 228 => 200 | 229 => 120 | n => n, fun | n => n⟩
theorem LF : Go.Proofs.Lays.n189 Tryz.prog H8 := {
 mixed := by kernel_rfl,
 f125 := Tryz.func143.trans (congrArg some (by kernel_rfl)),
 f128 := Tryz.func165.trans (congrArg some (by kernel_rfl)),
 f129 := Tryz.func166.trans (congrArg some (by kernel_rfl)),
 f189 := Tryz.func117.trans (congrArg some (by kernel_rfl)),
 f215 := Tryz.func154.trans (congrArg some (by kernel_rfl)),
 f216 := Tryz.func162.trans (congrArg some (by kernel_rfl)),
 f257 := Tryz.func142.trans (congrArg some (by kernel_rfl)),
 f294 := Tryz.func156.trans (congrArg some (by kernel_rfl)),
 f295 := Tryz.func157.trans (congrArg some (by kernel_rfl)),
 f296 := Tryz.func158.trans (congrArg some (by kernel_rfl)),
 f297 := Tryz.func159.trans (congrArg some (by kernel_rfl)),
 f298 := Tryz.func160.trans (congrArg some (by kernel_rfl)),
 f299 := Tryz.func161.trans (congrArg some (by kernel_rfl)),
 f300 := Tryz.func163.trans (congrArg some (by kernel_rfl)),
 f301 := Tryz.func164.trans (congrArg some (by kernel_rfl)),
 f328 := Tryz.func169.trans (congrArg some (by kernel_rfl)),
 f329 := Tryz.func170.trans (congrArg some (by kernel_rfl)),
 f330 := Tryz.func171.trans (congrArg some (by kernel_rfl)),
 f331 := Tryz.func172.trans (congrArg some (by kernel_rfl)),
 f332 := Tryz.func173.trans (congrArg some (by kernel_rfl)),
 f343 := Tryz.func175.trans (congrArg some (by kernel_rfl)),
 t0 := Tryz.underlying0,
 a0 := Tryz.isAgg0,
 z0 := Tryz.sizeOf0,
 v0 := Tryz.zeroValue0,
 t3 := Tryz.underlying3,
 a3 := Tryz.isAgg3,
 z3 := Tryz.sizeOf3,
 v3 := Tryz.zeroValue3,
 t4 := Tryz.underlying4,
 a4 := Tryz.isAgg4,
 z4 := Tryz.sizeOf4,
 v4 := Tryz.zeroValue4,
 t5 := Tryz.underlying5,
 a5 := Tryz.isAgg5,
 z5 := Tryz.sizeOf5,
 v5 := Tryz.zeroValue5,
 t9 := Tryz.underlying9,
 a9 := Tryz.isAgg9,
 z9 := Tryz.sizeOf9,
 v9 := Tryz.zeroValue9,
 t28 := Tryz.underlying22,
 a28 := Tryz.isAgg22,
 z28 := Tryz.sizeOf22,
 v28 := Tryz.zeroValue22,
 t46 := Tryz.underlying166,
 a46 := Tryz.isAgg166,
 z46 := Tryz.sizeOf166,
 v46 := Tryz.zeroValue166,
 t51 := Tryz.underlying190,
 a51 := Tryz.isAgg190,
 z51 := Tryz.sizeOf190,
 v51 := Tryz.zeroValue190,
 t53 := Tryz.underlying192,
 a53 := Tryz.isAgg192,
 z53 := Tryz.sizeOf192,
 v53 := Tryz.zeroValue192,
 t131 := Tryz.underlying187,
 a131 := Tryz.isAgg187,
 z131 := Tryz.sizeOf187,
 v131 := Tryz.zeroValue187,
 t182 := Tryz.underlying182,
 a182 := Tryz.isAgg182,
 z182 := Tryz.sizeOf182,
 v182 := Tryz.zeroValue182,
 t183 := Tryz.underlying183,
 a183 := Tryz.isAgg183,
 z183 := Tryz.sizeOf183,
 v183 := Tryz.zeroValue183,
 t218 := Tryz.underlying194,
 a218 := Tryz.isAgg194,
 z218 := Tryz.sizeOf194,
 v218 := Tryz.zeroValue194,
 t222 := Tryz.underlying198,
 a222 := Tryz.isAgg198,
 z222 := Tryz.sizeOf198,
 v222 := Tryz.zeroValue198,
 t228 := Tryz.underlying200,
 a228 := Tryz.isAgg200,
 z228 := Tryz.sizeOf200,
 v228 := Tryz.zeroValue200,
 t229 := Tryz.underlying120,
 a229 := Tryz.isAgg120,
 z229 := Tryz.sizeOf120,
 v229 := Tryz.zeroValue120 }
theorem Uo : ∀ j, Names.ρ 241 = some j → vX Tryz.prog j [1] := fun j hj => by
 have e : (Names.ρ 241 : Option Nat) = some 117 := by kernel_rfl
 rw [e] at hj; cases hj; exact Rr LF
def Dq : Go.Shelf.Ren := ⟨fun | 6 => 105 | 8 => 134 | 9 => 117 | 11 => 153 | 13 => 143 | 12 => 142 | 23 => 165 | 24 => 166 | 14 => 156 | 15 => 157 | 16 => 158 | 17 => 159 | 18 => 160 | 19 => 161 | 20 => 162 | 21 => 163 | 22 => 164 | 25 => 169 | 26 => 170 | 27 => 171 | 28 => 172 | 29 => 173 | 30 => 154 | 31 => 175 | n => n, fun | 26 => 3 | 28 => 133 | 24 => 22 | 0 => 0 | 3 => 3 | 37 => 166 | 48 => 190 | 50 => 192 | 4 => 4 | 40 => 183 | 39 => 182 | 45 => 187 | 5 => 5 | 9 => 9 | 51 => 194 | 55 => 198 | 57 => 200 | 58 => 120 | 33 => 59 | n => n, fun | n => n⟩
theorem Nq : Go.Proofs.SlLaysZI.n6 Tryz.prog Dq := {
 f6 := ⟨"slices.Sorted[int]", by kernel_rfl, Tryz.func105.trans (congrArg some (by kernel_rfl))⟩,
 f8 := ⟨"slices.Collect[int]", by kernel_rfl, Tryz.func134.trans (congrArg some (by kernel_rfl))⟩,
 f11 := ⟨"slices.AppendSeq[[]int,int]", by kernel_rfl, Tryz.func153.trans (congrArg some (by kernel_rfl))⟩,
 mixed := by kernel_rfl,
 t0 := Tryz.underlying0,
 a0 := Tryz.isAgg0,
 z0 := Tryz.sizeOf0,
 v0 := Tryz.zeroValue0,
 t24 := Tryz.underlying22,
 a24 := Tryz.isAgg22,
 z24 := Tryz.sizeOf22,
 v24 := Tryz.zeroValue22,
 t26 := Tryz.underlying3,
 a26 := Tryz.isAgg3,
 z26 := Tryz.sizeOf3,
 v26 := Tryz.zeroValue3,
 t28 := Tryz.underlying133,
 a28 := Tryz.isAgg133,
 z28 := Tryz.sizeOf133,
 v28 := Tryz.zeroValue133,
 i26 := by kernel_rfl }
section
open Go.RowKit Go.Shelf Go.Maps Go.Sort Go.Proofs
/- the iterator of slices.Values at this program -/
set_option maxRecDepth 100000 in
set_option maxHeartbeats 2000000 in
theorem ajn (n l Bs : Nat) (hn : 1 ≤ n) (W0 : World) (b off len cap : Nat) (zs : List Int) (hlen : zs.length = len) (hreach : len * 8 ≤ 140737488351232) (hb : b < W0.heap.size) (J : List Int → World → Prop)
 (hJ : ∀ s W1, J s W1 → Below W0.heap.size W0 W1)
 (hY : ∀ pre x W1, J pre W1 → pre.length < zs.length → YieldAt Fence.wide (n - 1) Tryz.prog l #[encZ x] W1 fun e W' => e = .returned (.bool true) ∧ J (pre ++ [x]) W' ∧ KeepsWalks W1 W')
 (W : World) (hBs : W.cell? ⟨Bs, 0, none⟩ = some (.slice (some ⟨b, off, none⟩) len cap)) (hc : ∀ j, j < len → W0.cell? ⟨b, off + j, none⟩ = some (.int .i64 (zs[j]?.getD 0))) (h0 : J [] W) :
 CallsIn Fence.wide n Tryz.prog 135 #[.func (.yield l) #[] #[], .pointer (some ⟨Bs, 0, none⟩)] W fun e W' => (∃ v, e = .returned v) ∧ J zs W' := by
 have step : ∀ k, k < zs.length → zs.take k ++ [zs[k]?.getD 0] = zs.take (k + 1) := fun k hk => by
  rw [List.take_succ_eq_append_getElem hk]; simp [hk]
 refine callsIn_of_wp Tryz.func135 rfl trivial ?_ rfl
 simp only [Tryz.ntmps135, List.size_toArray, List.length_cons, List.length_nil, Nat.reduceAdd, Nat.reduceSub, Array.replicate_succ, Array.replicate_zero, List.push_toArray, List.append_toArray, List.nil_append, List.cons_append]
 gi_wp2
 gi_loopw [7] (fun i wr => ∃ k : Nat, k ≤ len ∧ i = .int .i64 k ∧ J (zs.take k) wr)
  (fun i _ => len - (intOf i).toNat)
 case atStart => exact ⟨0, Nat.zero_le _, rfl, h0⟩
 case round =>
  obtain ⟨k, hk, rfl, hJs⟩ := hrel
  by_cases hlt : k < len
  · have hcx : wr.cell? ⟨b, off + k, none⟩ = some (.int .i64 (zs[k]?.getD 0)) := ((hJ _ _ hJs).cell (p := ⟨b, off + k, none⟩) hb).trans (hc k hlt)
    have st := step k (by omega)
    generalize zs[k]?.getD 0 = x at hcx st
    obtain ⟨fn, tmps, assign, body, hy, hR⟩ := hY _ x wr hJs (by rw [List.length_take]; omega)
    clear step
    gi_wp2
    refine hR.mono ?_
    rintro e W3 ⟨rfl, hJ3, -⟩
    gi_wp2
    go_roundw
    case rel => exact ⟨k + 1, by omega, by simp, by rw [← st]; exact hJ3⟩
    case measure => simp [intOf]; omega
  · obtain rfl : k = len := by omega
    gi_wp2
    go_end0
    exact ⟨⟨_, rfl⟩, by rw [← hlen, List.take_length] at hJs; exact hJs⟩
set_option maxRecDepth 100000 in
set_option maxHeartbeats 1000000 in
theorem ajo (n l Bs : Nat) (p : Option Addr) (cap : Nat) (J : List Int → World → Prop) (W : World) (hBs : W.cell? ⟨Bs, 0, none⟩ = some (.slice p 0 cap)) (h0 : J [] W) :
 CallsIn Fence.wide n Tryz.prog 135 #[.func (.yield l) #[] #[], .pointer (some ⟨Bs, 0, none⟩)] W fun e W' => (∃ v, e = .returned v) ∧ J [] W' := by
 refine callsIn_of_wp Tryz.func135 rfl trivial ?_ rfl
 simp only [Tryz.ntmps135, List.size_toArray, List.length_cons, List.length_nil, Nat.reduceAdd, Nat.reduceSub, Array.replicate_succ, Array.replicate_zero, List.push_toArray, List.append_toArray, List.nil_append, List.cons_append]
 gi_wp2
 gi_loopw [7] (fun i wr => i = .int .i64 0 ∧ J [] wr) (fun _ _ => 0)
 case atStart => exact ⟨rfl, h0⟩
 case round =>
  obtain ⟨rfl, hJs⟩ := hrel
  gi_wp2
  go_end0
  exact ⟨⟨_, rfl⟩, hJs⟩
theorem ZT : VZ Tryz.prog 135 := by
 intro n Bs sv zs w hn hreach hBs hcell hI l J W hW hJ hY h0
 have hc' := (hW.cell (p := ⟨Bs, 0, none⟩) hBs).trans hcell
 rcases hI with ⟨p, cap, rfl, rfl⟩ | ⟨b, off, cap, rfl, hb, hcs⟩
 · exact ajo n l Bs p cap J W hc' h0
 · exact ajn n l Bs hn w b off zs.length cap zs rfl hreach hb J hJ hY W hc' hcs h0
end
theorem Up : ∀ j, Names.ρ 260 = some j → vX Tryz.prog j [2, N.aR] := fun j hj => by
 have e : (Names.ρ 260 : Option Nat) = some 105 := by kernel_rfl
 rw [e] at hj; cases hj; exact JK Nq LF (by kernel_rfl) (Go.Proofs.enters_of Tryz.func117 (by kernel_rfl) rfl) (by kernel_rfl) (Go.Proofs.enters_of Tryz.func135 (by kernel_rfl) rfl) ZT
def uZ : Go.Shelf.Ren := ⟨fun | 4 => 141 | n => n, fun | 22 => 22 | 25 => 3 | 3 => 3 | 4 => 4 | 9 => 9 | 20 => 20 | 0 => 0 | n => n, fun | n => n⟩
theorem Uq : Go.Proofs.Lays8.n4 Tryz.prog uZ := {
 f4 := ⟨"slices.Grow[[]int,int]", by kernel_rfl, Tryz.func141.trans (congrArg some (by kernel_rfl))⟩,
 mixed := by kernel_rfl,
 t0 := Tryz.underlying0,
 a0 := Tryz.isAgg0,
 z0 := Tryz.sizeOf0,
 v0 := Tryz.zeroValue0,
 t3 := Tryz.underlying3,
 a3 := Tryz.isAgg3,
 z3 := Tryz.sizeOf3,
 v3 := Tryz.zeroValue3,
 t4 := Tryz.underlying4,
 a4 := Tryz.isAgg4,
 z4 := Tryz.sizeOf4,
 v4 := Tryz.zeroValue4,
 t9 := Tryz.underlying9,
 a9 := Tryz.isAgg9,
 z9 := Tryz.sizeOf9,
 v9 := Tryz.zeroValue9,
 t20 := Tryz.underlying20,
 a20 := Tryz.isAgg20,
 z20 := Tryz.sizeOf20,
 v20 := Tryz.zeroValue20,
 t22 := Tryz.underlying22,
 a22 := Tryz.isAgg22,
 z22 := Tryz.sizeOf22,
 v22 := Tryz.zeroValue22 }
theorem ajp : (Tryz.prog.info? (uZ.t 25)).isSome = true := by kernel_rfl
theorem Ur : ∀ j, Names.ρ 464 = some j → vX Tryz.prog j [4] := fun j hj => by
 have e : (Names.ρ 464 : Option Nat) = some 141 := by kernel_rfl
 rw [e] at hj; cases hj; exact Rt Uq (i0 := (Tryz.prog.info? (uZ.t 25)).get ajp) (Option.some_get _).symm (by kernel_rfl) (by kernel_rfl) (Nat.le_of_ble_eq_true (by kernel_rfl))
theorem Us : ∀ x ∈ ZS, ∀ j, Names.ρ x.1 = some j → vX Tryz.prog j x.2 := by
 intro x hx
 simp only [ZS, List.mem_cons, List.not_mem_nil, or_false] at hx
 rcases hx with rfl | rfl | rfl
 · exact Uo
 · exact Up
 · exact Ur
end Go.Proofs.YtifghciaddehaaaGreat
