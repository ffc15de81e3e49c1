/- MADE BY PROGRAM (lib.py): the numbers that the functions have in this program, and the check of each one. -/
import Derived.Test.YtgedjeljhicagaaGreatProg
import Derived.Test.YtgedjeljhicagaaGreatZPPP
import Derived.KernelRfl
set_option linter.all false
set_option maxRecDepth 100000
namespace Go.Proofs.YtgedjeljhicagaaGreat
open Go.Ev
def real : List (Option Nat) := [none, some 9, none, some 11, none, none, none, none, none, some 15, none, none, some 24, none, none, none, none, none, none, some 14, some 21, none, none, some 17, none, none, none, none, some 45, none, none, none, none, none, none, some 46, some 22, some 37, some 53, some 54, some 55, some 56, some 57, none, some 91, none, none, some 74, none, some 93, none, some 95, none, some 38, some 90, none, some 58, some 59, some 60, some 100, some 101, some 65, some 26, some 102, none, some 66, some 125, some 103, some 75, some 76, some 77, some 41, some 111, some 106, some 107, some 113, some 129, some 139, none, none, none, none, none, none, none, none, none, none, none, none, none, none, none, none, none, none, none, none, none, none, none, none, none, none, none, some 86, none, none, none, none, none, none, none, none, none, none, none, none, none, none, none, none, none, none, none, none, none, none, none, none, none, none, none, none, none, none, none, none, none, none, none, none, none, none, none, some 92, none, none, some 124, none, none, none, none, none, none, none, none, none, none, none, some 121, none, none, none, none, none, none, some 40, none, none, some 135, none, none, some 85, none, none, some 152, some 120, none, none, none, none, none, none, none, none, some 44, none, none, some 99, some 84, none, some 63, none, none, none, some 32, none, some 87, some 88, some 89, some 119, some 80, some 104, some 43, none, none, some 51, some 122, some 123, some 134, some 136, some 153, some 161, some 162, none, none, none, none, none, none, none, none, none, none, none, none, none, none, none, none, none, none, none, none, none, none, none, none, none, none, none, none, none, none, none, none, none, none, none, none, none, none, none, none, none, none, some 39, none, none, some 78, some 79, some 42, some 81, some 82, some 83, none, some 116, some 117, some 118, some 133, none, some 4, none, none, none, none, some 10, some 13, some 18, some 19, some 20, some 25, none, none, none, some 47, some 48, some 49, some 50, some 52, some 61, some 62, none, none, none, some 94, some 96, some 97, some 98, some 126, some 127, some 128, some 138, some 154, some 155, some 163, some 165, some 50]
def tab : List (Option Go.Ev.Fn) := [none, some K.gB, none, some K.iJ, none, none, none, none, none, some K.bP, none, none, some K.gY, none, none, none, none, none, none, some K.dj, some K.bh, none, none, some K.iQ, none, none, none, none, some K.dk, none, none, none, none, none, none, some K.dK, some K.dD, some K.eC, some K.cX, some K.bG, some K.gC, some K.dE, some K.gD, none, some K.dL, none, none, some K.dY, none, some K.aG, none, some K.aR, none, some K.er, some K.fM, none, some K.et, some K.fy, some K.eH, some K.fN, some K.eI, some K.fO, some K.bQ, some K.fP, none, some K.eJ, some K.a8, some K.bq, some K.dv, some K.aK, some K.cJ, some K.cK, some K.dF, some K.cY, some K.fQ, some K.aO, some K.bY, some K.gE, none, none, none, none, none, none, none, none, none, none, none, none, none, none, none, none, none, none, none, none, none, none, none, none, none, none, none, some K.dN, none, none, none, none, none, none, none, none, none, none, none, none, none, none, none, none, none, none, none, none, none, none, none, none, none, none, none, none, none, none, none, none, none, none, none, none, none, none, none, some K.cB, none, none, some K.bF, none, none, none, none, none, none, none, none, none, none, none, some K.bZ, none, none, none, none, none, none, some K.dV, none, none, some K.fq, none, none, some K.gJ, none, none, some K.dO, some K.eO, none, none, none, none, none, none, none, none, some K.gk, none, none, some K.eP, some K.dw, none, some K.jd, none, none, none, some K.fV, none, some K.dI, some K.bR, some K.dt, some K.cR, some K.aT, some K.gl, some K.aH, some K.b9, none, some K.dy, some K.cN, some K.aZ, some K.bH, some K.iL, some K.iM, some K.dP, some K.gK, none, none, none, none, none, none, none, none, none, none, none, none, none, none, none, none, none, none, none, none, none, none, none, none, none, none, none, none, none, none, none, none, none, none, none, none, none, none, none, none, none, none, some K.dm, none, none, some K.bO, some K.a7, some K.dQ, some K.aQ, some K.ai, some K.cT, none, some K.aN, some K.cg, some K.ay, some K.cmp_isNaN_int, none, some K.cO, none, none, none, none, some K.fB, some K.ic, some K.gL, some K.fX, some K.bw, some K.j5, none, none, none, some K.gM, some K.aM, some K.gN, some K.i6, some K.fC, some K.ie, some K.ig, none, none, none, some K.dz, some K.aI, some K.aJ, some K.af, some K.bn, some K.aC, some K.ax, some K.aA, some K.aj, some K.aa, some K.aL, some K.aB, some K.cD]
instance names : Names := { ρ := fun f => (real[f]?).join }
instance lib : Lib := ⟨fun f => (tab[f]?).join⟩
instance has1 : cH := ⟨rfl, rfl, rfl, rfl, rfl, rfl, rfl, rfl, rfl, rfl⟩
instance has2 : b7 := ⟨rfl, rfl, rfl, rfl, rfl, rfl, rfl, rfl, rfl, rfl, rfl, rfl, rfl, rfl, rfl, rfl, rfl, rfl, rfl, rfl, rfl, rfl, rfl, rfl, rfl, rfl, rfl, rfl, rfl, rfl, rfl, rfl, rfl⟩
instance has3 : gI := ⟨⟩
instance has4 : gy := ⟨rfl⟩
instance has5 : jy := ⟨rfl, rfl⟩
instance has6 : fG := ⟨rfl, rfl, rfl⟩
instance has7 : fH := ⟨rfl, rfl, rfl⟩
instance has8 : iC := ⟨rfl, rfl, rfl, rfl⟩
instance has9 : gg := ⟨rfl, rfl, rfl, rfl, rfl, rfl, rfl, rfl, rfl, rfl, rfl, rfl, rfl, rfl, rfl, rfl, rfl⟩
instance has10 : fg := ⟨⟩
instance has11 : eb := ⟨rfl, rfl, rfl, rfl, rfl, rfl, rfl, rfl, rfl, rfl, rfl⟩
instance has12 : iu := ⟨rfl, rfl, rfl, rfl, rfl, rfl, rfl⟩
instance has13 : eU := ⟨rfl, rfl, rfl, rfl, rfl, rfl, rfl, rfl, rfl, rfl, rfl, rfl, rfl, rfl, rfl, rfl, rfl, rfl, rfl, rfl⟩
theorem zW : bf Tryz.prog Tryz.f9 K.gB = true := by kernel_rfl
theorem BL : bf Tryz.prog Tryz.f11 K.iJ = true := by kernel_rfl
theorem tN : bf Tryz.prog Tryz.f15 K.bP = true := by kernel_rfl
theorem BM : bf Tryz.prog Tryz.f24 K.gY = true := by kernel_rfl
theorem yj : bf Tryz.prog Tryz.f14 K.dj = true := by kernel_rfl
theorem tO : bf Tryz.prog Tryz.f21 K.bh = true := by kernel_rfl
theorem Ee : bf Tryz.prog Tryz.f17 K.iQ = true := by kernel_rfl
theorem yk : bf Tryz.prog Tryz.f45 K.dk = true := by kernel_rfl
theorem vW : bf Tryz.prog Tryz.f46 K.dK = true := by kernel_rfl
theorem yl : bf Tryz.prog Tryz.f22 K.dD = true := by kernel_rfl
theorem zX : bf Tryz.prog Tryz.f37 K.eC = true := by kernel_rfl
theorem ym : bf Tryz.prog Tryz.f53 K.cX = true := by kernel_rfl
theorem sK : bf Tryz.prog Tryz.f54 K.bG = true := by kernel_rfl
theorem zY : bf Tryz.prog Tryz.f55 K.gC = true := by kernel_rfl
theorem yn : bf Tryz.prog Tryz.f56 K.dE = true := by kernel_rfl
theorem zZ : bf Tryz.prog Tryz.f57 K.gD = true := by kernel_rfl
theorem vX : bf Tryz.prog Tryz.f91 K.dL = true := by kernel_rfl
theorem yo : bf Tryz.prog Tryz.f74 K.dY = true := by kernel_rfl
theorem kj : bf Tryz.prog Tryz.f93 K.aG = true := by kernel_rfl
theorem ma : bf Tryz.prog Tryz.f95 K.aR = true := by kernel_rfl
theorem tP : bf Tryz.prog Tryz.f38 K.er = true := by kernel_rfl
theorem Aa : bf Tryz.prog Tryz.f90 K.fM = true := by kernel_rfl
theorem vY : bf Tryz.prog Tryz.f58 K.et = true := by kernel_rfl
theorem yp : bf Tryz.prog Tryz.f59 K.fy = true := by kernel_rfl
theorem yq : bf Tryz.prog Tryz.f60 K.eH = true := by kernel_rfl
theorem Ab : bf Tryz.prog Tryz.f100 K.fN = true := by kernel_rfl
theorem yr : bf Tryz.prog Tryz.f101 K.eI = true := by kernel_rfl
theorem Ac : bf Tryz.prog Tryz.f65 K.fO = true := by kernel_rfl
theorem tQ : bf Tryz.prog Tryz.f26 K.bQ = true := by kernel_rfl
theorem Ad : bf Tryz.prog Tryz.f102 K.fP = true := by kernel_rfl
theorem yu : bf Tryz.prog Tryz.f66 K.eJ = true := by kernel_rfl
theorem kX : bf Tryz.prog Tryz.f125 K.a8 = true := by kernel_rfl
theorem nS : bf Tryz.prog Tryz.f103 K.bq = true := by kernel_rfl
theorem rU : bf Tryz.prog Tryz.f75 K.dv = true := by kernel_rfl
theorem gQ : bf Tryz.prog Tryz.f76 K.aK = true := by kernel_rfl
theorem pD : bf Tryz.prog Tryz.f77 K.cJ = true := by kernel_rfl
theorem Ef : bf Tryz.prog Tryz.f41 K.cK = true := by kernel_rfl
theorem yv : bf Tryz.prog Tryz.f111 K.dF = true := by kernel_rfl
theorem yx : bf Tryz.prog Tryz.f106 K.cY = true := by kernel_rfl
theorem Ae : bf Tryz.prog Tryz.f107 K.fQ = true := by kernel_rfl
theorem iy : bf Tryz.prog Tryz.f113 K.aO = true := by kernel_rfl
theorem vZ : bf Tryz.prog Tryz.f129 K.bY = true := by kernel_rfl
theorem Af : bf Tryz.prog Tryz.f139 K.gE = true := by kernel_rfl
theorem wc : bf Tryz.prog Tryz.f86 K.dN = true := by kernel_rfl
theorem sL : bf Tryz.prog Tryz.f92 K.cB = true := by kernel_rfl
theorem qu : bf Tryz.prog Tryz.f124 K.bF = true := by kernel_rfl
theorem nI : bf Tryz.prog Tryz.f121 K.bZ = true := by kernel_rfl
theorem Ag : bf Tryz.prog Tryz.f40 K.dV = true := by kernel_rfl
theorem vG : bf Tryz.prog Tryz.f135 K.fq = true := by kernel_rfl
theorem Ah : bf Tryz.prog Tryz.f85 K.gJ = true := by kernel_rfl
theorem sM : bf Tryz.prog Tryz.f152 K.dO = true := by kernel_rfl
theorem yy : bf Tryz.prog Tryz.f120 K.eO = true := by kernel_rfl
theorem we : bf Tryz.prog Tryz.f44 K.gk = true := by kernel_rfl
theorem yz : bf Tryz.prog Tryz.f99 K.eP = true := by kernel_rfl
theorem wg : bf Tryz.prog Tryz.f84 K.dw = true := by kernel_rfl
theorem Ai : bf Tryz.prog Tryz.f63 K.jd = true := by kernel_rfl
theorem Aj : bf Tryz.prog Tryz.f32 K.fV = true := by kernel_rfl
theorem tR : bf Tryz.prog Tryz.f87 K.dI = true := by kernel_rfl
theorem tS : bf Tryz.prog Tryz.f88 K.bR = true := by kernel_rfl
theorem Ak : bf Tryz.prog Tryz.f89 K.dt = true := by kernel_rfl
theorem vH : bf Tryz.prog Tryz.f119 K.cR = true := by kernel_rfl
theorem nT : bf Tryz.prog Tryz.f80 K.aT = true := by kernel_rfl
theorem wm : bf Tryz.prog Tryz.f104 K.gl = true := by kernel_rfl
theorem nU : bf Tryz.prog Tryz.f43 K.aH = true := by kernel_rfl
theorem wo : bf Tryz.prog Tryz.f51 K.dy = true := by kernel_rfl
theorem sN : bf Tryz.prog Tryz.f122 K.cN = true := by kernel_rfl
theorem rV : bf Tryz.prog Tryz.f123 K.aZ = true := by kernel_rfl
theorem sO : bf Tryz.prog Tryz.f134 K.bH = true := by kernel_rfl
theorem BN : bf Tryz.prog Tryz.f136 K.iL = true := by kernel_rfl
theorem BO : bf Tryz.prog Tryz.f153 K.iM = true := by kernel_rfl
theorem BP : bf Tryz.prog Tryz.f161 K.dP = true := by kernel_rfl
theorem Al : bf Tryz.prog Tryz.f162 K.gK = true := by kernel_rfl
theorem yA : bf Tryz.prog Tryz.f39 K.dm = true := by kernel_rfl
theorem qv : bf Tryz.prog Tryz.f78 K.bO = true := by kernel_rfl
theorem nJ : bf Tryz.prog Tryz.f79 K.a7 = true := by kernel_rfl
theorem wq : bf Tryz.prog Tryz.f42 K.dQ = true := by kernel_rfl
theorem mK : bf Tryz.prog Tryz.f81 K.aQ = true := by kernel_rfl
theorem ei : bf Tryz.prog Tryz.f82 K.ai = true := by kernel_rfl
theorem vI : bf Tryz.prog Tryz.f83 K.cT = true := by kernel_rfl
theorem mc : bf Tryz.prog Tryz.f116 K.aN = true := by kernel_rfl
theorem sP : bf Tryz.prog Tryz.f117 K.cg = true := by kernel_rfl
theorem eX : bf Tryz.prog Tryz.f118 K.ay = true := by kernel_rfl
theorem vJ : bf Tryz.prog Tryz.f133 K.cmp_isNaN_int = true := by kernel_rfl
theorem sQ : bf Tryz.prog Tryz.f4 K.cO = true := by kernel_rfl
theorem yB : bf Tryz.prog Tryz.f10 K.fB = true := by kernel_rfl
theorem yC : bf Tryz.prog Tryz.f13 K.ic = true := by kernel_rfl
theorem Am : bf Tryz.prog Tryz.f18 K.gL = true := by kernel_rfl
theorem An : bf Tryz.prog Tryz.f19 K.fX = true := by kernel_rfl
theorem tT : bf Tryz.prog Tryz.f20 K.bw = true := by kernel_rfl
theorem BQ : bf Tryz.prog Tryz.f25 K.j5 = true := by kernel_rfl
theorem Ao : bf Tryz.prog Tryz.f47 K.gM = true := by kernel_rfl
theorem jf : bf Tryz.prog Tryz.f48 K.aM = true := by kernel_rfl
theorem Aq : bf Tryz.prog Tryz.f49 K.gN = true := by kernel_rfl
theorem yD : bf Tryz.prog Tryz.f50 K.i6 = true := by kernel_rfl
theorem yE : bf Tryz.prog Tryz.f52 K.fC = true := by kernel_rfl
theorem yF : bf Tryz.prog Tryz.f61 K.ie = true := by kernel_rfl
theorem yG : bf Tryz.prog Tryz.f62 K.ig = true := by kernel_rfl
theorem wu : bf Tryz.prog Tryz.f94 K.dz = true := by kernel_rfl
theorem i7 : bf Tryz.prog Tryz.f96 K.aI = true := by kernel_rfl
theorem i9 : bf Tryz.prog Tryz.f97 K.aJ = true := by kernel_rfl
theorem vK : bf Tryz.prog Tryz.f98 K.af = true := by kernel_rfl
theorem kY : bf Tryz.prog Tryz.f126 K.bn = true := by kernel_rfl
theorem gw : bf Tryz.prog Tryz.f127 K.aC = true := by kernel_rfl
theorem iG : bf Tryz.prog Tryz.f128 K.ax = true := by kernel_rfl
theorem jD : bf Tryz.prog Tryz.f138 K.aA = true := by kernel_rfl
theorem ik : bf Tryz.prog Tryz.f154 K.aj = true := by kernel_rfl
theorem jg : bf Tryz.prog Tryz.f155 K.aa = true := by kernel_rfl
theorem jE : bf Tryz.prog Tryz.f163 K.aL = true := by kernel_rfl
theorem ja : bf Tryz.prog Tryz.f165 K.aB = true := by kernel_rfl
theorem tU : bf Tryz.prog Tryz.f50 K.cD = true := by kernel_rfl
theorem TK : AT Tryz.prog real tab :=
 ⟨trivial, ⟨⟨by kernel_rfl, ak Tryz.func9 zW⟩, ⟨trivial, ⟨⟨by kernel_rfl, ak Tryz.func11 BL⟩, ⟨trivial, ⟨trivial, ⟨trivial, ⟨trivial, ⟨trivial, ⟨⟨by kernel_rfl, ak Tryz.func15 tN⟩, ⟨trivial, ⟨trivial, ⟨⟨by kernel_rfl, ak Tryz.func24 BM⟩, ⟨trivial, ⟨trivial, ⟨trivial, ⟨trivial, ⟨trivial, ⟨trivial, ⟨⟨by kernel_rfl, ak Tryz.func14 yj⟩, ⟨⟨by kernel_rfl, ak Tryz.func21 tO⟩, ⟨trivial, ⟨trivial, ⟨⟨by kernel_rfl, ak Tryz.func17 Ee⟩, ⟨trivial, ⟨trivial, ⟨trivial, ⟨trivial, ⟨⟨by kernel_rfl, ak Tryz.func45 yk⟩, ⟨trivial, ⟨trivial, ⟨trivial, ⟨trivial, ⟨trivial, ⟨trivial, ⟨⟨by kernel_rfl, ak Tryz.func46 vW⟩, ⟨⟨by kernel_rfl, ak Tryz.func22 yl⟩, ⟨⟨by kernel_rfl, ak Tryz.func37 zX⟩, ⟨⟨by kernel_rfl, ak Tryz.func53 ym⟩, ⟨⟨by kernel_rfl, ak Tryz.func54 sK⟩, ⟨⟨by kernel_rfl, ak Tryz.func55 zY⟩, ⟨⟨by kernel_rfl, ak Tryz.func56 yn⟩, ⟨⟨by kernel_rfl, ak Tryz.func57 zZ⟩, ⟨trivial, ⟨⟨by kernel_rfl, ak Tryz.func91 vX⟩, ⟨trivial, ⟨trivial, ⟨⟨by kernel_rfl, ak Tryz.func74 yo⟩, ⟨trivial, ⟨⟨by kernel_rfl, ak Tryz.func93 kj⟩, ⟨trivial, ⟨⟨by kernel_rfl, ak Tryz.func95 ma⟩, ⟨trivial, ⟨⟨by kernel_rfl, ak Tryz.func38 tP⟩, ⟨⟨by kernel_rfl, ak Tryz.func90 Aa⟩, ⟨trivial, ⟨⟨by kernel_rfl, ak Tryz.func58 vY⟩, ⟨⟨by kernel_rfl, ak Tryz.func59 yp⟩, ⟨⟨by kernel_rfl, ak Tryz.func60 yq⟩, ⟨⟨by kernel_rfl, ak Tryz.func100 Ab⟩, ⟨⟨by kernel_rfl, ak Tryz.func101 yr⟩, ⟨⟨by kernel_rfl, ak Tryz.func65 Ac⟩, ⟨⟨by kernel_rfl, ak Tryz.func26 tQ⟩, ⟨⟨by kernel_rfl, ak Tryz.func102 Ad⟩, ⟨trivial, ⟨⟨by kernel_rfl, ak Tryz.func66 yu⟩, ⟨⟨by kernel_rfl, ak Tryz.func125 kX⟩, ⟨⟨by kernel_rfl, ak Tryz.func103 nS⟩, ⟨⟨by kernel_rfl, ak Tryz.func75 rU⟩, ⟨⟨by kernel_rfl, ak Tryz.func76 gQ⟩, ⟨⟨by kernel_rfl, ak Tryz.func77 pD⟩, ⟨⟨by kernel_rfl, ak Tryz.func41 Ef⟩, ⟨⟨by kernel_rfl, ak Tryz.func111 yv⟩, ⟨⟨by kernel_rfl, ak Tryz.func106 yx⟩, ⟨⟨by kernel_rfl, ak Tryz.func107 Ae⟩, ⟨⟨by kernel_rfl, ak Tryz.func113 iy⟩, ⟨⟨by kernel_rfl, ak Tryz.func129 vZ⟩, ⟨⟨by kernel_rfl, ak Tryz.func139 Af⟩, ⟨trivial, ⟨trivial, ⟨trivial, ⟨trivial, ⟨trivial, ⟨trivial, ⟨trivial, ⟨trivial, ⟨trivial, ⟨trivial, ⟨trivial, ⟨trivial, ⟨trivial, ⟨trivial, ⟨trivial, ⟨trivial, ⟨trivial, ⟨trivial, ⟨trivial, ⟨trivial, ⟨trivial, ⟨trivial, ⟨trivial, ⟨trivial, ⟨trivial, ⟨trivial, ⟨trivial, ⟨⟨by kernel_rfl, ak Tryz.func86 wc⟩, ⟨trivial, ⟨trivial, ⟨trivial, ⟨trivial, ⟨trivial, ⟨trivial, ⟨trivial, ⟨trivial, ⟨trivial, ⟨trivial, ⟨trivial, ⟨trivial, ⟨trivial, ⟨trivial, ⟨trivial, ⟨trivial, ⟨trivial, ⟨trivial, ⟨trivial, ⟨trivial, ⟨trivial, ⟨trivial, ⟨trivial, ⟨trivial, ⟨trivial, ⟨trivial, ⟨trivial, ⟨trivial, ⟨trivial, ⟨trivial, ⟨trivial, ⟨trivial, ⟨trivial, ⟨trivial, ⟨trivial, ⟨trivial, ⟨trivial, ⟨trivial, ⟨trivial, ⟨⟨by kernel_rfl, ak Tryz.func92 sL⟩, ⟨trivial, ⟨trivial, ⟨⟨by kernel_rfl, ak Tryz.func124 qu⟩, ⟨trivial, ⟨trivial, ⟨trivial, ⟨trivial, ⟨trivial, ⟨trivial, ⟨trivial, ⟨trivial, ⟨trivial, ⟨trivial, ⟨trivial, ⟨⟨by kernel_rfl, ak Tryz.func121 nI⟩, ⟨trivial, ⟨trivial, ⟨trivial, ⟨trivial, ⟨trivial, ⟨trivial, ⟨⟨by kernel_rfl, ak Tryz.func40 Ag⟩, ⟨trivial, ⟨trivial, ⟨⟨by kernel_rfl, ak Tryz.func135 vG⟩, ⟨trivial, ⟨trivial, ⟨⟨by kernel_rfl, ak Tryz.func85 Ah⟩, ⟨trivial, ⟨trivial, ⟨⟨by kernel_rfl, ak Tryz.func152 sM⟩, ⟨⟨by kernel_rfl, ak Tryz.func120 yy⟩, ⟨trivial, ⟨trivial, ⟨trivial, ⟨trivial, ⟨trivial, ⟨trivial, ⟨trivial, ⟨trivial, ⟨⟨by kernel_rfl, ak Tryz.func44 we⟩, ⟨trivial, ⟨trivial, ⟨⟨by kernel_rfl, ak Tryz.func99 yz⟩, ⟨⟨by kernel_rfl, ak Tryz.func84 wg⟩, ⟨trivial, ⟨⟨by kernel_rfl, ak Tryz.func63 Ai⟩, ⟨trivial, ⟨trivial, ⟨trivial, ⟨⟨by kernel_rfl, ak Tryz.func32 Aj⟩, ⟨trivial, ⟨⟨by kernel_rfl, ak Tryz.func87 tR⟩, ⟨⟨by kernel_rfl, ak Tryz.func88 tS⟩, ⟨⟨by kernel_rfl, ak Tryz.func89 Ak⟩, ⟨⟨by kernel_rfl, ak Tryz.func119 vH⟩, ⟨⟨by kernel_rfl, ak Tryz.func80 nT⟩, ⟨⟨by kernel_rfl, ak Tryz.func104 wm⟩, ⟨⟨by kernel_rfl, ak Tryz.func43 nU⟩, ⟨trivial, ⟨trivial, ⟨⟨by kernel_rfl, ak Tryz.func51 wo⟩, ⟨⟨by kernel_rfl, ak Tryz.func122 sN⟩, ⟨⟨by kernel_rfl, ak Tryz.func123 rV⟩, ⟨⟨by kernel_rfl, ak Tryz.func134 sO⟩, ⟨⟨by kernel_rfl, ak Tryz.func136 BN⟩, ⟨⟨by kernel_rfl, ak Tryz.func153 BO⟩, ⟨⟨by kernel_rfl, ak Tryz.func161 BP⟩, ⟨⟨by kernel_rfl, ak Tryz.func162 Al⟩, ⟨trivial, ⟨trivial, ⟨trivial, ⟨trivial, ⟨trivial, ⟨trivial, ⟨trivial, ⟨trivial, ⟨trivial, ⟨trivial, ⟨trivial, ⟨trivial, ⟨trivial, ⟨trivial, ⟨trivial, ⟨trivial, ⟨trivial, ⟨trivial, ⟨trivial, ⟨trivial, ⟨trivial, ⟨trivial, ⟨trivial, ⟨trivial, ⟨trivial, ⟨trivial, ⟨trivial, ⟨trivial, ⟨trivial, ⟨trivial, ⟨trivial, ⟨trivial, ⟨trivial, ⟨trivial, ⟨trivial, ⟨trivial, ⟨trivial, ⟨trivial, ⟨trivial, ⟨trivial, ⟨trivial, ⟨trivial, ⟨⟨by kernel_rfl, ak Tryz.func39 yA⟩, ⟨trivial, ⟨trivial, ⟨⟨by kernel_rfl, ak Tryz.func78 qv⟩, ⟨⟨by kernel_rfl, ak Tryz.func79 nJ⟩, ⟨⟨by kernel_rfl, ak Tryz.func42 wq⟩, ⟨⟨by kernel_rfl, ak Tryz.func81 mK⟩, ⟨⟨by kernel_rfl, ak Tryz.func82 ei⟩, ⟨⟨by kernel_rfl, ak Tryz.func83 vI⟩, ⟨trivial, ⟨⟨by kernel_rfl, ak Tryz.func116 mc⟩, ⟨⟨by kernel_rfl, ak Tryz.func117 sP⟩, ⟨⟨by kernel_rfl, ak Tryz.func118 eX⟩, ⟨⟨by kernel_rfl, ak Tryz.func133 vJ⟩, ⟨trivial, ⟨⟨by kernel_rfl, ak Tryz.func4 sQ⟩, ⟨trivial, ⟨trivial, ⟨trivial, ⟨trivial, ⟨⟨by kernel_rfl, ak Tryz.func10 yB⟩, ⟨⟨by kernel_rfl, ak Tryz.func13 yC⟩, ⟨⟨by kernel_rfl, ak Tryz.func18 Am⟩, ⟨⟨by kernel_rfl, ak Tryz.func19 An⟩, ⟨⟨by kernel_rfl, ak Tryz.func20 tT⟩, ⟨⟨by kernel_rfl, ak Tryz.func25 BQ⟩, ⟨trivial, ⟨trivial, ⟨trivial, ⟨⟨by kernel_rfl, ak Tryz.func47 Ao⟩, ⟨⟨by kernel_rfl, ak Tryz.func48 jf⟩, ⟨⟨by kernel_rfl, ak Tryz.func49 Aq⟩, ⟨⟨by kernel_rfl, ak Tryz.func50 yD⟩, ⟨⟨by kernel_rfl, ak Tryz.func52 yE⟩, ⟨⟨by kernel_rfl, ak Tryz.func61 yF⟩, ⟨⟨by kernel_rfl, ak Tryz.func62 yG⟩, ⟨trivial, ⟨trivial, ⟨trivial, ⟨⟨by kernel_rfl, ak Tryz.func94 wu⟩, ⟨⟨by kernel_rfl, ak Tryz.func96 i7⟩, ⟨⟨by kernel_rfl, ak Tryz.func97 i9⟩, ⟨⟨by kernel_rfl, ak Tryz.func98 vK⟩, ⟨⟨by kernel_rfl, ak Tryz.func126 kY⟩, ⟨⟨by kernel_rfl, ak Tryz.func127 gw⟩, ⟨⟨by kernel_rfl, ak Tryz.func128 iG⟩, ⟨⟨by kernel_rfl, ak Tryz.func138 jD⟩, ⟨⟨by kernel_rfl, ak Tryz.func154 ik⟩, ⟨⟨by kernel_rfl, ak Tryz.func155 jg⟩, ⟨⟨by kernel_rfl, ak Tryz.func163 jE⟩, ⟨⟨by kernel_rfl, ak Tryz.func165 ja⟩, ⟨⟨by kernel_rfl, ak Tryz.func50 tU⟩, trivial⟩⟩⟩⟩⟩⟩⟩⟩⟩⟩⟩⟩⟩⟩⟩⟩⟩⟩⟩⟩⟩⟩⟩⟩⟩⟩⟩⟩⟩⟩⟩⟩⟩⟩⟩⟩⟩⟩⟩⟩⟩⟩⟩⟩⟩⟩⟩⟩⟩⟩⟩⟩⟩⟩⟩⟩⟩⟩⟩⟩⟩⟩⟩⟩⟩⟩⟩⟩⟩⟩⟩⟩⟩⟩⟩⟩⟩⟩⟩⟩⟩⟩⟩⟩⟩⟩⟩⟩⟩⟩⟩⟩⟩⟩⟩⟩⟩⟩⟩⟩⟩⟩⟩⟩⟩⟩⟩⟩⟩⟩⟩⟩⟩⟩⟩⟩⟩⟩⟩⟩⟩⟩⟩⟩⟩⟩⟩⟩⟩⟩⟩⟩⟩⟩⟩⟩⟩⟩⟩⟩⟩⟩⟩⟩⟩⟩⟩⟩⟩⟩⟩⟩⟩⟩⟩⟩⟩⟩⟩⟩⟩⟩⟩⟩⟩⟩⟩⟩⟩⟩⟩⟩⟩⟩⟩⟩⟩⟩⟩⟩⟩⟩⟩⟩⟩⟩⟩⟩⟩⟩⟩⟩⟩⟩⟩⟩⟩⟩⟩⟩⟩⟩⟩⟩⟩⟩⟩⟩⟩⟩⟩⟩⟩⟩⟩⟩⟩⟩⟩⟩⟩⟩⟩⟩⟩⟩⟩⟩⟩⟩⟩⟩⟩⟩⟩⟩⟩⟩⟩⟩⟩⟩⟩⟩⟩⟩⟩⟩⟩⟩⟩⟩⟩⟩⟩⟩⟩⟩⟩⟩⟩⟩⟩⟩⟩⟩⟩⟩⟩⟩⟩⟩⟩⟩⟩⟩⟩⟩⟩⟩⟩⟩⟩⟩⟩⟩⟩⟩⟩⟩⟩⟩⟩⟩⟩⟩⟩⟩⟩⟩⟩⟩⟩⟩⟩⟩⟩⟩⟩
theorem TL : ∀ f j, Names.ρ f = some j → Names.it f = true → xy Tryz.prog j := fun f j hj h => Bool.noConfusion (show false = true from h)
def Of : List (Nat × List Nat) := [(260, [2, N.aN]), (300, [3, N.ax])]
def Ar : Go.Shelf.Ren := ⟨fun | 189 => 115 | 125 => 132 | 257 => 131 | 128 => 149 | 129 => 150 | 294 => 140 | 295 => 141 | 296 => 142 | 297 => 143 | 298 => 144 | 299 => 145 | 216 => 146 | 300 => 147 | 301 => 148 | 328 => 156 | 329 => 157 | 330 => 158 | 331 => 159 | 332 => 160 | 215 => 133 | 343 => 164 | n => n, fun | 28 => 22 | 3 => 3 | 46 => 141 | 0 => 0 | 51 => 158 | 53 => 160 | 4 => 4 | 183 => 151 | 182 => 150 | 131 => 155 | 5 => 5 | 9 => 9 | 218 => 167 | 222 => 171 | 228 => 177 | 229 => 147 | n => n, fun | n => n⟩
theorem Jl : Go.Proofs.Lays.n189 Tryz.prog Ar := {
 mixed := by kernel_rfl,
 f125 := Tryz.func132.trans (congrArg some (by kernel_rfl)),
 f128 := Tryz.func149.trans (congrArg some (by kernel_rfl)),
 f129 := Tryz.func150.trans (congrArg some (by kernel_rfl)),
 f189 := Tryz.func115.trans (congrArg some (by kernel_rfl)),
 f215 := Tryz.func133.trans (congrArg some (by kernel_rfl)),
 f216 := Tryz.func146.trans (congrArg some (by kernel_rfl)),
 f257 := Tryz.func131.trans (congrArg some (by kernel_rfl)),
 f294 := Tryz.func140.trans (congrArg some (by kernel_rfl)),
 f295 := Tryz.func141.trans (congrArg some (by kernel_rfl)),
 f296 := Tryz.func142.trans (congrArg some (by kernel_rfl)),
 f297 := Tryz.func143.trans (congrArg some (by kernel_rfl)),
 f298 := Tryz.func144.trans (congrArg some (by kernel_rfl)),
 f299 := Tryz.func145.trans (congrArg some (by kernel_rfl)),
 f300 := Tryz.func147.trans (congrArg some (by kernel_rfl)),
 f301 := Tryz.func148.trans (congrArg some (by kernel_rfl)),
 f328 := Tryz.func156.trans (congrArg some (by kernel_rfl)),
 f329 := Tryz.func157.trans (congrArg some (by kernel_rfl)),
 f330 := Tryz.func158.trans (congrArg some (by kernel_rfl)),
 f331 := Tryz.func159.trans (congrArg some (by kernel_rfl)),
 f332 := Tryz.func160.trans (congrArg some (by kernel_rfl)),
 f343 := Tryz.func164.trans (congrArg some (by kernel_rfl)),
 t0 := Tryz.underlying0,
 a0 := Tryz.isAgg0,
 z0 := Tryz.sizeOf0,
 v0 := Tryz.zeroValue0,
 t3 := Tryz.underlying3,
 a3 := Tryz.isAgg3,
 z3 := Tryz.sizeOf3,
 v3 := Tryz.zeroValue3,
 t4 := Tryz.underlying4,
 a4 := Tryz.isAgg4,
 z4 := Tryz.sizeOf4,
 v4 := Tryz.zeroValue4,
 t5 := Tryz.underlying5,
 a5 := Tryz.isAgg5,
 z5 := Tryz.sizeOf5,
 v5 := Tryz.zeroValue5,
 t9 := Tryz.underlying9,
 a9 := Tryz.isAgg9,
 z9 := Tryz.sizeOf9,
 v9 := Tryz.zeroValue9,
 t28 := Tryz.underlying22,
 a28 := Tryz.isAgg22,
 z28 := Tryz.sizeOf22,
 v28 := Tryz.zeroValue22,
 t46 := Tryz.underlying141,
 a46 := Tryz.isAgg141,
 z46 := Tryz.sizeOf141,
 v46 := Tryz.zeroValue141,
 t51 := Tryz.underlying158,
 a51 := Tryz.isAgg158,
 z51 := Tryz.sizeOf158,
 v51 := Tryz.zeroValue158,
 t53 := Tryz.underlying160,
 a53 := Tryz.isAgg160,
 z53 := Tryz.sizeOf160,
 v53 := Tryz.zeroValue160,
 t131 := Tryz.underlying155,
 a131 := Tryz.isAgg155,
 z131 := Tryz.sizeOf155,
 v131 := Tryz.zeroValue155,
 t182 := Tryz.underlying150,
 a182 := Tryz.isAgg150,
 z182 := Tryz.sizeOf150,
 v182 := Tryz.zeroValue150,
 t183 := Tryz.underlying151,
 a183 := Tryz.isAgg151,
 z183 := Tryz.sizeOf151,
 v183 := Tryz.zeroValue151,
 t218 := Tryz.underlying167,
 a218 := Tryz.isAgg167,
 z218 := Tryz.sizeOf167,
 v218 := Tryz.zeroValue167,
 t222 := Tryz.underlying171,
 a222 := Tryz.isAgg171,
 z222 := Tryz.sizeOf171,
 v222 := Tryz.zeroValue171,
 t228 := Tryz.underlying177,
 a228 := Tryz.isAgg177,
 z228 := Tryz.sizeOf177,
 v228 := Tryz.zeroValue177,
 t229 := Tryz.underlying147,
 a229 := Tryz.isAgg147,
 z229 := Tryz.sizeOf147,
 v229 := Tryz.zeroValue147 }
def wy : Go.Shelf.Ren := ⟨fun | 6 => 78 | 8 => 114 | 9 => 115 | 11 => 130 | 13 => 132 | 12 => 131 | 23 => 149 | 24 => 150 | 14 => 140 | 15 => 141 | 16 => 142 | 17 => 143 | 18 => 144 | 19 => 145 | 20 => 146 | 21 => 147 | 22 => 148 | 25 => 156 | 26 => 157 | 27 => 158 | 28 => 159 | 29 => 160 | 30 => 133 | 31 => 164 | n => n, fun | 26 => 3 | 28 => 104 | 24 => 22 | 0 => 0 | 3 => 3 | 37 => 141 | 48 => 158 | 50 => 160 | 4 => 4 | 40 => 151 | 39 => 150 | 45 => 155 | 5 => 5 | 9 => 9 | 51 => 167 | 55 => 171 | 57 => 177 | 58 => 147 | 33 => 40 | n => n, fun | n => n⟩
theorem Eg : Go.Proofs.SlLaysZI.n6 Tryz.prog wy := {
 f6 := ⟨"slices.Sorted[int]", by kernel_rfl, Tryz.func78.trans (congrArg some (by kernel_rfl))⟩,
 f8 := ⟨"slices.Collect[int]", by kernel_rfl, Tryz.func114.trans (congrArg some (by kernel_rfl))⟩,
 f11 := ⟨"slices.AppendSeq[[]int,int]", by kernel_rfl, Tryz.func130.trans (congrArg some (by kernel_rfl))⟩,
 mixed := by kernel_rfl,
 t0 := Tryz.underlying0,
 a0 := Tryz.isAgg0,
 z0 := Tryz.sizeOf0,
 v0 := Tryz.zeroValue0,
 t24 := Tryz.underlying22,
 a24 := Tryz.isAgg22,
 z24 := Tryz.sizeOf22,
 v24 := Tryz.zeroValue22,
 t26 := Tryz.underlying3,
 a26 := Tryz.isAgg3,
 z26 := Tryz.sizeOf3,
 v26 := Tryz.zeroValue3,
 t28 := Tryz.underlying104,
 a28 := Tryz.isAgg104,
 z28 := Tryz.sizeOf104,
 v28 := Tryz.zeroValue104,
 i26 := by kernel_rfl }
section
open Go.RowKit Go.Shelf Go.Maps Go.Sort Go.Proofs
/- the iterator of slices.Values at this program -/
set_option maxRecDepth 100000 in
set_option maxHeartbeats 2000000 in
theorem Y1 (n l Bs : Nat) (hn : 1 ≤ n) (W0 : World) (b off len cap : Nat) (zs : List Int) (hlen : zs.length = len) (hreach : len * 8 ≤ 140737488351232) (hb : b < W0.heap.size) (J : List Int → World → Prop)
 (hJ : ∀ s W1, J s W1 → Below W0.heap.size W0 W1)
 (hY : ∀ pre x W1, J pre W1 → pre.length < zs.length → YieldAt Fence.wide (n - 1) Tryz.prog l #[encZ x] W1 fun e W' => e = .returned (.bool true) ∧ J (pre ++ [x]) W' ∧ KeepsWalks W1 W')
 (W : World) (hBs : W.cell? ⟨Bs, 0, none⟩ = some (.slice (some ⟨b, off, none⟩) len cap)) (hc : ∀ j, j < len → W0.cell? ⟨b, off + j, none⟩ = some (.int .i64 (zs[j]?.getD 0))) (h0 : J [] W) :
 CallsIn Fence.wide n Tryz.prog 116 #[.func (.yield l) #[] #[], .pointer (some ⟨Bs, 0, none⟩)] W fun e W' => (∃ v, e = .returned v) ∧ J zs W' := by
 have step : ∀ k, k < zs.length → zs.take k ++ [zs[k]?.getD 0] = zs.take (k + 1) := fun k hk => by
  rw [List.take_succ_eq_append_getElem hk]; simp [hk]
 refine callsIn_of_wp Tryz.func116 rfl trivial ?_ rfl
 simp only [Tryz.ntmps116, List.size_toArray, List.length_cons, List.length_nil, Nat.reduceAdd, Nat.reduceSub, Array.replicate_succ, Array.replicate_zero, List.push_toArray, List.append_toArray, List.nil_append, List.cons_append]
 gi_wp2
 gi_loopw [7] (fun i wr => ∃ k : Nat, k ≤ len ∧ i = .int .i64 k ∧ J (zs.take k) wr)
  (fun i _ => len - (intOf i).toNat)
 case atStart => exact ⟨0, Nat.zero_le _, rfl, h0⟩
 case round =>
  obtain ⟨k, hk, rfl, hJs⟩ := hrel
  by_cases hlt : k < len
  · have hcx : wr.cell? ⟨b, off + k, none⟩ = some (.int .i64 (zs[k]?.getD 0)) := ((hJ _ _ hJs).cell (p := ⟨b, off + k, none⟩) hb).trans (hc k hlt)
    have st := step k (by omega)
    generalize zs[k]?.getD 0 = x at hcx st
    obtain ⟨fn, tmps, assign, body, hy, hR⟩ := hY _ x wr hJs (by rw [List.length_take]; omega)
    clear step
    gi_wp2
    refine hR.mono ?_
    rintro e W3 ⟨rfl, hJ3, -⟩
    gi_wp2
    go_roundw
    case rel => exact ⟨k + 1, by omega, by simp, by rw [← st]; exact hJ3⟩
    case measure => simp [intOf]; omega
  · obtain rfl : k = len := by omega
    gi_wp2
    go_end0
    exact ⟨⟨_, rfl⟩, by rw [← hlen, List.take_length] at hJs; exact hJs⟩
set_option maxRecDepth 100000 in
set_option maxHeartbeats 1000000 in
theorem Y2 (n l Bs : Nat) (p : Option Addr) (cap : Nat) (J : List Int → World → Prop) (W : World) (hBs : W.cell? ⟨Bs, 0, none⟩ = some (.slice p 0 cap)) (h0 : J [] W) :
 CallsIn Fence.wide n Tryz.prog 116 #[.func (.yield l) #[] #[], .pointer (some ⟨Bs, 0, none⟩)] W fun e W' => (∃ v, e = .returned v) ∧ J [] W' := by
 refine callsIn_of_wp Tryz.func116 rfl trivial ?_ rfl
 simp only [Tryz.ntmps116, List.size_toArray, List.length_cons, List.length_nil, Nat.reduceAdd, Nat.reduceSub, Array.replicate_succ, Array.replicate_zero, List.push_toArray, List.append_toArray, List.nil_append, List.cons_append]
 gi_wp2
 gi_loopw [7] (fun i wr => i = .int .i64 0 ∧ J [] wr) (fun _ _ => 0)
 case atStart => exact ⟨rfl, h0⟩
 case round =>
  obtain ⟨rfl, hJs⟩ := hrel
  gi_wp2
  go_end0
  exact ⟨⟨_, rfl⟩, hJs⟩
theorem Og : GV Tryz.prog 116 := by
 intro n Bs sv zs w hn hreach hBs hcell hI l J W hW hJ hY h0
 have hc' := (hW.cell (p := ⟨Bs, 0, none⟩) hBs).trans hcell
 rcases hI with ⟨p, cap, rfl, rfl⟩ | ⟨b, off, cap, rfl, hb, hcs⟩
 · exact Y2 n l Bs p cap J W hc' h0
 · exact Y1 n l Bs hn w b off zs.length cap zs rfl hreach hb J hJ hY W hc' hcs h0
end
theorem Jm : ∀ j, Names.ρ 260 = some j → pI Tryz.prog j [2, N.aN] := fun j hj => by
 have e : (Names.ρ 260 : Option Nat) = some 78 := by kernel_rfl
 rw [e] at hj; cases hj; exact BH Eg Jl (by kernel_rfl) (Go.Proofs.enters_of Tryz.func115 (by kernel_rfl) rfl) (by kernel_rfl) (Go.Proofs.enters_of Tryz.func116 (by kernel_rfl) rfl) Og
def G0 : Go.Shelf.Ren := ⟨fun | 8 => 126 | 11 => 137 | n => n, fun | 0 => 0 | 24 => 33 | 26 => 55 | 28 => 118 | 33 => 101 | n => n, fun n => n⟩
theorem Y3 : Go.Proofs.TJ Tryz.prog G0 := {
 mixed := by kernel_rfl,
 f8 := ⟨"slices.Collect[minecontrol/api.World]", by kernel_rfl, Tryz.func126.trans (congrArg some (by kernel_rfl))⟩,
 f11 := ⟨"slices.AppendSeq[[]minecontrol/api.World,minecontrol/api.World]", by kernel_rfl, Tryz.func137.trans (congrArg some (by kernel_rfl))⟩,
 t0 := Tryz.underlying0,
 a0 := Tryz.isAgg0,
 z0 := Tryz.sizeOf0,
 v0 := Tryz.zeroValue0,
 t24 := Tryz.underlying33,
 a24 := Tryz.isAgg33,
 z24 := Tryz.sizeOf33,
 v24 := Tryz.zeroValue33,
 t26 := ⟨_, Tryz.underlying55⟩,
 a26 := Tryz.isAgg55,
 z26 := Tryz.sizeOf55,
 v26 := Tryz.zeroValue55,
 t28 := Tryz.underlying118,
 a28 := Tryz.isAgg118,
 z28 := Tryz.sizeOf118,
 v28 := Tryz.zeroValue118,
 i26 := by kernel_rfl }
section
open Go.RowKit Go.Shelf Go.Maps Go.Sort Go.Proofs
/- the iterator of slices.Values of structures of two cells at this program -/
set_option maxRecDepth 100000 in
set_option maxHeartbeats 2000000 in
theorem TM (n l Bs : Nat) (hn : 1 ≤ n) (W0 : World) (b off len cap : Nat) (zs : List (Value × Value)) (hlen : zs.length = len) (hone : ∀ x ∈ zs, x.1.oneCell' = true ∧ x.2.oneCell' = true) (hreach : len * 48 ≤ 140737488351232) (hb : b < W0.heap.size) (J : List (Value × Value) → World → Prop)
 (hJ : ∀ s W1, J s W1 → Below W0.heap.size W0 W1) (hA : ∀ s W1 o, J s W1 → J s (W1.alloc o))
 (hY : ∀ pre x W1, J pre W1 → pre.length < zs.length → x ∈ zs → YieldAt Fence.wide (n - 1) Tryz.prog l #[TI x] W1 fun e W' => e = .returned (.bool true) ∧ J (pre ++ [x]) W' ∧ KeepsWalks W1 W')
 (W : World) (hBs : W.cell? ⟨Bs, 0, none⟩ = some (.slice (some ⟨b, off, none⟩) len cap)) (hc : ∀ j p, zs[j]? = some p → W0.cell? ⟨b, off + j * 2, none⟩ = some p.1 ∧ W0.cell? ⟨b, off + j * 2 + 1, none⟩ = some p.2) (h0 : J [] W) :
 CallsIn Fence.wide n Tryz.prog 128 #[.func (.yield l) #[] #[], .pointer (some ⟨Bs, 0, none⟩)] W fun e W' => (∃ v, e = .returned v) ∧ J zs W' := by
 have step : ∀ k x, zs[k]? = some x → zs.take k ++ [x] = zs.take (k + 1) := fun k x hk => by
  rw [List.take_add_one, hk]; rfl
 refine callsIn_of_wp Tryz.func128 rfl trivial ?_ rfl
 simp only [Tryz.ntmps128, List.size_toArray, List.length_cons, List.length_nil, Nat.reduceAdd, Nat.reduceSub, Array.replicate_succ, Array.replicate_zero, List.push_toArray, List.append_toArray, List.nil_append, List.cons_append]
 gi_wp2
 gi_loopw [7] (fun i wr => ∃ k : Nat, k ≤ len ∧ i = .int .i64 k ∧ J (zs.take k) wr)
  (fun i _ => len - (intOf i).toNat)
 case atStart => exact ⟨0, Nat.zero_le _, rfl, h0⟩
 case round =>
  obtain ⟨k, hk, rfl, hJs⟩ := hrel
  by_cases hlt : k < len
  · obtain ⟨x, hx⟩ : ∃ x, zs[k]? = some x := ⟨_, List.getElem?_eq_getElem (by omega)⟩
    have hcx0 : wr.cell? ⟨b, off + k * 2, none⟩ = some x.1 := ((hJ _ _ hJs).cell (p := ⟨b, off + k * 2, none⟩) hb).trans (hc k x hx).1
    have hcx1 : wr.cell? ⟨b, off + k * 2 + 1, none⟩ = some x.2 := ((hJ _ _ hJs).cell (p := ⟨b, off + k * 2 + 1, none⟩) hb).trans (hc k x hx).2
    have hm : x ∈ zs := List.mem_of_getElem? hx
    have st := step k x hx
    obtain ⟨hx1, hx2⟩ := hone x hm
    have hst := zU Tryz.prog wr x.1 x.2 (.slice none 0 0) (.slice none 0 0) 55 hx1 hx2
    have cA0 : (wr.alloc (.cells #[x.1, x.2] 55)).cell? ⟨wr.heap.size, 0, none⟩ = some x.1 := j7 wr x.1 x.2 55 0 x.1 rfl
    have cA1 : (wr.alloc (.cells #[x.1, x.2] 55)).cell? ⟨wr.heap.size, 1, none⟩ = some x.2 := j7 wr x.1 x.2 55 1 x.2 rfl
    obtain ⟨fn, tmps, assign, body, hy, hR⟩ := hY _ x _ (hA _ _ (.cells #[x.1, x.2] 55) hJs) (by rw [List.length_take]; omega) hm
    clear step hone hc
    gi_wp2
    refine hR.mono ?_
    rintro e W3 ⟨rfl, hJ3, -⟩
    gi_wp2
    go_roundw
    case rel => exact ⟨k + 1, by omega, by simp, by rw [← st]; exact hJ3⟩
    case measure => simp [intOf]; omega
  · obtain rfl : k = len := by omega
    gi_wp2
    go_end0
    exact ⟨⟨_, rfl⟩, by rw [← hlen, List.take_length] at hJs; exact hJs⟩
set_option maxRecDepth 100000 in
set_option maxHeartbeats 1000000 in
theorem TN (n l Bs : Nat) (p : Option Addr) (cap : Nat) (J : List (Value × Value) → World → Prop) (W : World) (hBs : W.cell? ⟨Bs, 0, none⟩ = some (.slice p 0 cap)) (h0 : J [] W) :
 CallsIn Fence.wide n Tryz.prog 128 #[.func (.yield l) #[] #[], .pointer (some ⟨Bs, 0, none⟩)] W fun e W' => (∃ v, e = .returned v) ∧ J [] W' := by
 refine callsIn_of_wp Tryz.func128 rfl trivial ?_ rfl
 simp only [Tryz.ntmps128, List.size_toArray, List.length_cons, List.length_nil, Nat.reduceAdd, Nat.reduceSub, Array.replicate_succ, Array.replicate_zero, List.push_toArray, List.append_toArray, List.nil_append, List.cons_append]
 gi_wp2
 gi_loopw [7] (fun i wr => i = .int .i64 0 ∧ J [] wr) (fun _ _ => 0)
 case atStart => exact ⟨rfl, h0⟩
 case round =>
  obtain ⟨rfl, hJs⟩ := hrel
  gi_wp2
  go_end0
  exact ⟨⟨_, rfl⟩, hJs⟩
theorem Jn : GZ Tryz.prog 128 := by
 intro n Bs sv zs w hn hone hreach hBs hcell hI l J W hW hJ hA hY h0
 have hc' := (hW.cell (p := ⟨Bs, 0, none⟩) hBs).trans hcell
 rcases hI with ⟨p, cap, rfl, rfl⟩ | ⟨b, off, cap, rfl, hb, hcs⟩
 · exact TN n l Bs p cap J W hc' h0
 · exact TM n l Bs hn w b off zs.length cap zs rfl hone hreach hb J hJ hA hY W hc' hcs h0
end
theorem Jo : ∀ j, Names.ρ 300 = some j → pI Tryz.prog j [3, N.ax] := fun j hj => by
 have e : (Names.ρ 300 : Option Nat) = some 126 := by kernel_rfl
 rw [e] at hj; cases hj; exact zV Y3 (by kernel_rfl) (Go.Proofs.enters_of Tryz.func128 (by kernel_rfl) rfl) Jn
theorem Jp : ∀ x ∈ Of, ∀ j, Names.ρ x.1 = some j → pI Tryz.prog j x.2 := by
 intro x hx
 simp only [Of, List.mem_cons, List.not_mem_nil, or_false] at hx
 rcases hx with rfl | rfl
 · exact Jm
 · exact Jo
end Go.Proofs.YtgedjeljhicagaaGreat
