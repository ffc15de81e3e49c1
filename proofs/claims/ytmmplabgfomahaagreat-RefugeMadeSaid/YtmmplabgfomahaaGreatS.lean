/- MADE BY PROGRAM (lib.py): the numbers that the functions have in this program, and the check of each one. -/
import Derived.Test.YtmmplabgfomahaaGreatProg
import Derived.Test.YtmmplabgfomahaaGreatZPP
import Derived.KernelRfl
set_option linter.all false
set_option maxRecDepth 100000
namespace Go.Proofs.YtmmplabgfomahaaGreat
open Go.Ev
def real : List (Option Nat) := [none, some 4, none, some 6, some 7, none, none, none, none, some 9, some 22, none, some 64, none, none, some 21, some 10, none, none, none, none, none, none, some 23, none, none, none, none, some 41, none, some 33, none, none, none, none, none, none, none, none, none, none, none, none, none, none, none, none, some 26, none, some 29, none, some 52, none, none, some 62, none, none, none, none, none, none, none, some 14, none, none, none, some 55, some 71, none, none, none, some 40, none, none, none, none, some 78, some 86, none, none, none, none, some 36, none, none, none, none, none, none, none, none, none, none, none, none, none, none, none, none, none, none, none, none, none, none, some 25, none, none, none, none, none, none, none, none, none, none, none, none, none, none, none, none, none, none, none, none, none, none, none, none, none, none, none, none, none, none, none, none, none, none, none, none, none, none, none, none, none, none, none, none, none, none, none, none, none, none, none, none, none, none, some 53, none, none, none, none, none, none, some 37, none, none, some 72, none, none, some 60, none, none, some 84, some 79, none, none, none, none, none, none, none, none, none, none, none, none, none, none, none, none, none, none, none, none, none, none, none, none, none, none, some 45, none, none, none, none, none, none, none, none, some 73, none, none, none, none, none, none, none, none, none, none, none, none, none, none, none, none, none, none, none, none, none, none, none, none, none, none, none, none, none, none, none, none, none, none, none, none, none, none, none, none, none, none, none, none, none, none, some 47, some 48, none, none, none, none, none, some 69, none, none, none, none, none, none, none, none, none, none, none, none, none, none, none, none, none, none, none, none, none, none, none, none, none, none, none, none, none, none, none, none, none, none, none, none, none, none, none, none, none, none, none, none, none, none, none, none, none, none, none, none, none, none, none, none, none, none, none, none, none, none, none, none, none, none, none, none, none, none, none, none, none, none, none, none, none, none, none, none, none, none, none, none, none, none, none, none, none, none, none, none, none, none, none, none, none, none, none, none, none, none, none, none, none, none, none, none, none, none, none, none, none, none, none, none, none, none, none, none, none, none, none, none, none, none, none, none, none, none, none, none, none, none, none, none, none, none, none, none, none, none, none, none, none, none, none, none, none, none, none, none, none, some 8, none, none, none, none, none, none, none, none, none, none, none, some 35, none, none, some 24, none, none, none, none, none, none, none, none, some 58, none, some 59, some 32, some 56, some 77, none, some 31, some 57, none, some 46, some 76, some 75, none, none, none, none, none, some 54, none, some 85, none, none, none, none, some 74, none, none, none, none, none, none, none, none, some 5, some 17, some 13, some 18, some 20, some 19, some 11, some 42, some 43, some 44, some 50, some 49, some 15, some 27, some 28, some 30, some 63, some 65, some 66, some 70, some 38, some 39, some 51, some 61, some 47, some 3, some 12, some 16, some 34]
def tab : List (Option Go.Ev.Fn) := [none, some K.fM, none, some K.gR, some K.bX, none, none, none, none, some K.aq, some K.bh, none, some K.cH, none, none, some K.bj, some K.b8, none, none, none, none, none, none, some K.ie, none, none, none, none, some K.dy, none, some K.fe, none, none, none, none, none, none, none, none, none, none, none, none, none, none, none, none, some K.dV, none, some K.aA, none, some K.aE, none, none, some K.ff, none, none, none, none, none, none, none, some K.bE, none, none, none, some K.aJ, some K.aX, none, none, none, some K.gn, none, none, none, none, some K.bH, some K.fN, none, none, none, none, some K.cF, none, none, none, none, none, none, none, none, none, none, none, none, none, none, none, none, none, none, none, none, none, none, some K.cz, none, none, none, none, none, none, none, none, none, none, none, none, none, none, none, none, none, none, none, none, none, none, none, none, none, none, none, none, none, none, none, none, none, none, none, none, none, none, none, none, none, none, none, none, none, none, none, none, none, none, none, none, none, none, some K.aN, none, none, none, none, none, none, some K.eE, none, none, some K.cK, none, none, some K.fO, none, none, some K.b9, some K.dW, none, none, none, none, none, none, none, none, none, none, none, none, none, none, none, none, none, none, none, none, none, none, none, none, none, none, some K.aQ, none, none, none, none, none, none, none, none, some K.dt, none, none, none, none, none, none, none, none, none, none, none, none, none, none, none, none, none, none, none, none, none, none, none, none, none, none, none, none, none, none, none, none, none, none, none, none, none, none, none, none, none, none, none, none, none, none, some K.c8, some K.aS, none, none, none, none, none, some K.ak, none, none, none, none, none, none, none, none, none, none, none, none, none, none, none, none, none, none, none, none, none, none, none, none, none, none, none, none, none, none, none, none, none, none, none, none, none, none, none, none, none, none, none, none, none, none, none, none, none, none, none, none, none, none, none, none, none, none, none, none, none, none, none, none, none, none, none, none, none, none, none, none, none, none, none, none, none, none, none, none, none, none, none, none, none, none, none, none, none, none, none, none, none, none, none, none, none, none, none, none, none, none, none, none, none, none, none, none, none, none, none, none, none, none, none, none, none, none, none, none, none, none, none, none, none, none, none, none, none, none, none, none, none, none, none, none, none, none, none, none, none, none, none, none, none, none, none, none, none, none, none, none, none, some K.bY, none, none, none, none, none, none, none, none, none, none, none, some K.gV, none, none, some K.fP, none, none, none, none, none, none, none, none, some K.dQ, none, some K.c9, some K.dX, some K.df, some K.dg, none, some K.jh, some K.gW, none, some K.aB, some K.dJ, some K.fJ, none, none, none, none, none, some K.fL, none, some K.dK, none, none, none, none, some K.gX, none, none, none, none, none, none, none, none, some K.eQ, some K.eR, some K.dL, some K.cq, some K.bR, some K.cU, some K.bW, some K.du, some K.fQ, some K.dY, some K.az, some K.b6, some K.cC, some K.bP, some K.dM, some K.bB, some K.cO, some K.fg, some K.eF, some K.bu, some K.ai, some K.bZ, some K.aM, some K.au, some K.aY, some K.bC, some K.cQ, some K.dB, some K.eI]
instance names : Names := { ρ := fun f => (real[f]?).join }
instance lib : Lib := ⟨fun f => (tab[f]?).join⟩
instance has1 : aZ := ⟨rfl, rfl, rfl, rfl, rfl, rfl, rfl, rfl, rfl, rfl, rfl⟩
instance has2 : bc := ⟨rfl, rfl, rfl, rfl, rfl, rfl, rfl, rfl, rfl, rfl⟩
instance has3 : cG := ⟨rfl⟩
instance has4 : cJ := ⟨rfl⟩
instance has5 : eC := ⟨⟩
instance has6 : cL := ⟨rfl, rfl, rfl⟩
instance has7 : cM := ⟨rfl, rfl, rfl⟩
instance has8 : dG := ⟨⟩
instance has9 : dE := ⟨rfl, rfl⟩
instance has10 : bI := ⟨⟩
instance has11 : bM := ⟨rfl, rfl, rfl⟩
instance has12 : cA := ⟨⟩
instance has13 : cB := ⟨⟩
instance has14 : gw := ⟨⟩
instance has15 : gz := ⟨⟩
instance has21 : gg := ⟨rfl, rfl, rfl⟩
instance has22 : eu := ⟨rfl, rfl, rfl, rfl, rfl, rfl, rfl, rfl, rfl, rfl, rfl, rfl⟩
instance has23 : gH := ⟨rfl⟩
instance has24 : gY := ⟨⟩
instance has25 : dR := ⟨rfl, rfl, rfl, rfl, rfl, rfl, rfl, rfl, rfl, rfl, rfl, rfl, rfl, rfl, rfl, rfl, rfl⟩
instance has26 : jf := ⟨rfl, rfl, rfl, rfl, rfl, rfl, rfl, rfl⟩
instance has27 : zk := ⟨rfl, rfl, rfl, rfl⟩
theorem Bo : bF Tryz.prog Tryz.f4 K.fM = true := by kernel_rfl
theorem Di : bF Tryz.prog Tryz.f6 K.gR = true := by kernel_rfl
theorem uJ : bF Tryz.prog Tryz.f7 K.bX = true := by kernel_rfl
theorem uK : bF Tryz.prog Tryz.f9 K.aq = true := by kernel_rfl
theorem xd : bF Tryz.prog Tryz.f22 K.bh = true := by kernel_rfl
theorem Dj : bF Tryz.prog Tryz.f64 K.cH = true := by kernel_rfl
theorem wT : bF Tryz.prog Tryz.f21 K.bj = true := by kernel_rfl
theorem uL : bF Tryz.prog Tryz.f10 K.b8 = true := by kernel_rfl
theorem GM : bF Tryz.prog Tryz.f23 K.ie = true := by kernel_rfl
theorem zm : bF Tryz.prog Tryz.f41 K.dy = true := by kernel_rfl
theorem Dk : bF Tryz.prog Tryz.f33 K.fe = true := by kernel_rfl
theorem zn : bF Tryz.prog Tryz.f26 K.dV = true := by kernel_rfl
theorem jO : bF Tryz.prog Tryz.f29 K.aA = true := by kernel_rfl
theorem lK : bF Tryz.prog Tryz.f52 K.aE = true := by kernel_rfl
theorem Bp : bF Tryz.prog Tryz.f62 K.ff = true := by kernel_rfl
theorem uM : bF Tryz.prog Tryz.f14 K.bE = true := by kernel_rfl
theorem kD : bF Tryz.prog Tryz.f55 K.aJ = true := by kernel_rfl
theorem nG : bF Tryz.prog Tryz.f71 K.aX = true := by kernel_rfl
theorem GN : bF Tryz.prog Tryz.f40 K.gn = true := by kernel_rfl
theorem xe : bF Tryz.prog Tryz.f78 K.bH = true := by kernel_rfl
theorem Bq : bF Tryz.prog Tryz.f86 K.fN = true := by kernel_rfl
theorem uN : bF Tryz.prog Tryz.f36 K.cF = true := by kernel_rfl
theorem xf : bF Tryz.prog Tryz.f25 K.cz = true := by kernel_rfl
theorem m6 : bF Tryz.prog Tryz.f53 K.aN = true := by kernel_rfl
theorem Br : bF Tryz.prog Tryz.f37 K.eE = true := by kernel_rfl
theorem wU : bF Tryz.prog Tryz.f72 K.cK = true := by kernel_rfl
theorem Bt : bF Tryz.prog Tryz.f60 K.fO = true := by kernel_rfl
theorem tE : bF Tryz.prog Tryz.f84 K.b9 = true := by kernel_rfl
theorem zo : bF Tryz.prog Tryz.f79 K.dW = true := by kernel_rfl
theorem nH : bF Tryz.prog Tryz.f45 K.aQ = true := by kernel_rfl
theorem Dl : bF Tryz.prog Tryz.f73 K.dt = true := by kernel_rfl
theorem qI : bF Tryz.prog Tryz.f47 K.c8 = true := by kernel_rfl
theorem m7 : bF Tryz.prog Tryz.f48 K.aS = true := by kernel_rfl
theorem lL : bF Tryz.prog Tryz.f69 K.ak = true := by kernel_rfl
theorem sy : bF Tryz.prog Tryz.f8 K.bY = true := by kernel_rfl
theorem Dm : bF Tryz.prog Tryz.f35 K.gV = true := by kernel_rfl
theorem Bu : bF Tryz.prog Tryz.f24 K.fP = true := by kernel_rfl
theorem Bv : bF Tryz.prog Tryz.f58 K.dQ = true := by kernel_rfl
theorem Bw : bF Tryz.prog Tryz.f59 K.c9 = true := by kernel_rfl
theorem zp : bF Tryz.prog Tryz.f32 K.dX = true := by kernel_rfl
theorem Bx : bF Tryz.prog Tryz.f56 K.df = true := by kernel_rfl
theorem zq : bF Tryz.prog Tryz.f77 K.dg = true := by kernel_rfl
theorem GO : bF Tryz.prog Tryz.f31 K.jh = true := by kernel_rfl
theorem Dn : bF Tryz.prog Tryz.f57 K.gW = true := by kernel_rfl
theorem mj : bF Tryz.prog Tryz.f46 K.aB = true := by kernel_rfl
theorem xh : bF Tryz.prog Tryz.f76 K.dJ = true := by kernel_rfl
theorem Dp : bF Tryz.prog Tryz.f75 K.fJ = true := by kernel_rfl
theorem Dq : bF Tryz.prog Tryz.f54 K.fL = true := by kernel_rfl
theorem xi : bF Tryz.prog Tryz.f85 K.dK = true := by kernel_rfl
theorem Dr : bF Tryz.prog Tryz.f74 K.gX = true := by kernel_rfl
theorem zr : bF Tryz.prog Tryz.f5 K.eQ = true := by kernel_rfl
theorem zt : bF Tryz.prog Tryz.f17 K.eR = true := by kernel_rfl
theorem xj : bF Tryz.prog Tryz.f13 K.dL = true := by kernel_rfl
theorem wV : bF Tryz.prog Tryz.f18 K.cq = true := by kernel_rfl
theorem zu : bF Tryz.prog Tryz.f20 K.bR = true := by kernel_rfl
theorem xk : bF Tryz.prog Tryz.f19 K.cU = true := by kernel_rfl
theorem xm : bF Tryz.prog Tryz.f11 K.bW = true := by kernel_rfl
theorem xn : bF Tryz.prog Tryz.f42 K.du = true := by kernel_rfl
theorem By : bF Tryz.prog Tryz.f43 K.fQ = true := by kernel_rfl
theorem zv : bF Tryz.prog Tryz.f44 K.dY = true := by kernel_rfl
theorem pI : bF Tryz.prog Tryz.f50 K.az = true := by kernel_rfl
theorem zw : bF Tryz.prog Tryz.f49 K.b6 = true := by kernel_rfl
theorem xp : bF Tryz.prog Tryz.f15 K.cC = true := by kernel_rfl
theorem uO : bF Tryz.prog Tryz.f27 K.bP = true := by kernel_rfl
theorem xq : bF Tryz.prog Tryz.f28 K.dM = true := by kernel_rfl
theorem sA : bF Tryz.prog Tryz.f30 K.bB = true := by kernel_rfl
theorem zx : bF Tryz.prog Tryz.f63 K.cO = true := by kernel_rfl
theorem Bz : bF Tryz.prog Tryz.f65 K.fg = true := by kernel_rfl
theorem BA : bF Tryz.prog Tryz.f66 K.eF = true := by kernel_rfl
theorem oT : bF Tryz.prog Tryz.f70 K.bu = true := by kernel_rfl
theorem fG : bF Tryz.prog Tryz.f38 K.ai = true := by kernel_rfl
theorem uP : bF Tryz.prog Tryz.f39 K.bZ = true := by kernel_rfl
theorem uQ : bF Tryz.prog Tryz.f51 K.aM = true := by kernel_rfl
theorem gA : bF Tryz.prog Tryz.f61 K.au = true := by kernel_rfl
theorem nI : bF Tryz.prog Tryz.f47 K.aY = true := by kernel_rfl
theorem sB : bF Tryz.prog Tryz.f3 K.bC = true := by kernel_rfl
theorem zy : bF Tryz.prog Tryz.f12 K.cQ = true := by kernel_rfl
theorem zz : bF Tryz.prog Tryz.f16 K.dB = true := by kernel_rfl
theorem BB : bF Tryz.prog Tryz.f34 K.eI = true := by kernel_rfl
theorem aaQ : Cd Tryz.prog real tab :=
 ⟨trivial, ⟨⟨by kernel_rfl, aj Tryz.func4 Bo⟩, ⟨trivial, ⟨⟨by kernel_rfl, aj Tryz.func6 Di⟩, ⟨⟨by kernel_rfl, aj Tryz.func7 uJ⟩, ⟨trivial, ⟨trivial, ⟨trivial, ⟨trivial, ⟨⟨by kernel_rfl, aj Tryz.func9 uK⟩, ⟨⟨by kernel_rfl, aj Tryz.func22 xd⟩, ⟨trivial, ⟨⟨by kernel_rfl, aj Tryz.func64 Dj⟩, ⟨trivial, ⟨trivial, ⟨⟨by kernel_rfl, aj Tryz.func21 wT⟩, ⟨⟨by kernel_rfl, aj Tryz.func10 uL⟩, ⟨trivial, ⟨trivial, ⟨trivial, ⟨trivial, ⟨trivial, ⟨trivial, ⟨⟨by kernel_rfl, aj Tryz.func23 GM⟩, ⟨trivial, ⟨trivial, ⟨trivial, ⟨trivial, ⟨⟨by kernel_rfl, aj Tryz.func41 zm⟩, ⟨trivial, ⟨⟨by kernel_rfl, aj Tryz.func33 Dk⟩, ⟨trivial, ⟨trivial, ⟨trivial, ⟨trivial, ⟨trivial, ⟨trivial, ⟨trivial, ⟨trivial, ⟨trivial, ⟨trivial, ⟨trivial, ⟨trivial, ⟨trivial, ⟨trivial, ⟨trivial, ⟨trivial, ⟨⟨by kernel_rfl, aj Tryz.func26 zn⟩, ⟨trivial, ⟨⟨by kernel_rfl, aj Tryz.func29 jO⟩, ⟨trivial, ⟨⟨by kernel_rfl, aj Tryz.func52 lK⟩, ⟨trivial, ⟨trivial, ⟨⟨by kernel_rfl, aj Tryz.func62 Bp⟩, ⟨trivial, ⟨trivial, ⟨trivial, ⟨trivial, ⟨trivial, ⟨trivial, ⟨trivial, ⟨⟨by kernel_rfl, aj Tryz.func14 uM⟩, ⟨trivial, ⟨trivial, ⟨trivial, ⟨⟨by kernel_rfl, aj Tryz.func55 kD⟩, ⟨⟨by kernel_rfl, aj Tryz.func71 nG⟩, ⟨trivial, ⟨trivial, ⟨trivial, ⟨⟨by kernel_rfl, aj Tryz.func40 GN⟩, ⟨trivial, ⟨trivial, ⟨trivial, ⟨trivial, ⟨⟨by kernel_rfl, aj Tryz.func78 xe⟩, ⟨⟨by kernel_rfl, aj Tryz.func86 Bq⟩, ⟨trivial, ⟨trivial, ⟨trivial, ⟨trivial, ⟨⟨by kernel_rfl, aj Tryz.func36 uN⟩, ⟨trivial, ⟨trivial, ⟨trivial, ⟨trivial, ⟨trivial, ⟨trivial, ⟨trivial, ⟨trivial, ⟨trivial, ⟨trivial, ⟨trivial, ⟨trivial, ⟨trivial, ⟨trivial, ⟨trivial, ⟨trivial, ⟨trivial, ⟨trivial, ⟨trivial, ⟨trivial, ⟨trivial, ⟨trivial, ⟨⟨by kernel_rfl, aj Tryz.func25 xf⟩, ⟨trivial, ⟨trivial, ⟨trivial, ⟨trivial, ⟨trivial, ⟨trivial, ⟨trivial, ⟨trivial, ⟨trivial, ⟨trivial, ⟨trivial, ⟨trivial, ⟨trivial, ⟨trivial, ⟨trivial, ⟨trivial, ⟨trivial, ⟨trivial, ⟨trivial, ⟨trivial, ⟨trivial, ⟨trivial, ⟨trivial, ⟨trivial, ⟨trivial, ⟨trivial, ⟨trivial, ⟨trivial, ⟨trivial, ⟨trivial, ⟨trivial, ⟨trivial, ⟨trivial, ⟨trivial, ⟨trivial, ⟨trivial, ⟨trivial, ⟨trivial, ⟨trivial, ⟨trivial, ⟨trivial, ⟨trivial, ⟨trivial, ⟨trivial, ⟨trivial, ⟨trivial, ⟨trivial, ⟨trivial, ⟨trivial, ⟨trivial, ⟨trivial, ⟨trivial, ⟨trivial, ⟨trivial, ⟨⟨by kernel_rfl, aj Tryz.func53 m6⟩, ⟨trivial, ⟨trivial, ⟨trivial, ⟨trivial, ⟨trivial, ⟨trivial, ⟨⟨by kernel_rfl, aj Tryz.func37 Br⟩, ⟨trivial, ⟨trivial, ⟨⟨by kernel_rfl, aj Tryz.func72 wU⟩, ⟨trivial, ⟨trivial, ⟨⟨by kernel_rfl, aj Tryz.func60 Bt⟩, ⟨trivial, ⟨trivial, ⟨⟨by kernel_rfl, aj Tryz.func84 tE⟩, ⟨⟨by kernel_rfl, aj Tryz.func79 zo⟩, ⟨trivial, ⟨trivial, ⟨trivial, ⟨trivial, ⟨trivial, ⟨trivial, ⟨trivial, ⟨trivial, ⟨trivial, ⟨trivial, ⟨trivial, ⟨trivial, ⟨trivial, ⟨trivial, ⟨trivial, ⟨trivial, ⟨trivial, ⟨trivial, ⟨trivial, ⟨trivial, ⟨trivial, ⟨trivial, ⟨trivial, ⟨trivial, ⟨trivial, ⟨trivial, ⟨⟨by kernel_rfl, aj Tryz.func45 nH⟩, ⟨trivial, ⟨trivial, ⟨trivial, ⟨trivial, ⟨trivial, ⟨trivial, ⟨trivial, ⟨trivial, ⟨⟨by kernel_rfl, aj Tryz.func73 Dl⟩, ⟨trivial, ⟨trivial, ⟨trivial, ⟨trivial, ⟨trivial, ⟨trivial, ⟨trivial, ⟨trivial, ⟨trivial, ⟨trivial, ⟨trivial, ⟨trivial, ⟨trivial, ⟨trivial, ⟨trivial, ⟨trivial, ⟨trivial, ⟨trivial, ⟨trivial, ⟨trivial, ⟨trivial, ⟨trivial, ⟨trivial, ⟨trivial, ⟨trivial, ⟨trivial, ⟨trivial, ⟨trivial, ⟨trivial, ⟨trivial, ⟨trivial, ⟨trivial, ⟨trivial, ⟨trivial, ⟨trivial, ⟨trivial, ⟨trivial, ⟨trivial, ⟨trivial, ⟨trivial, ⟨trivial, ⟨trivial, ⟨trivial, ⟨trivial, ⟨trivial, ⟨trivial, ⟨⟨by kernel_rfl, aj Tryz.func47 qI⟩, ⟨⟨by kernel_rfl, aj Tryz.func48 m7⟩, ⟨trivial, ⟨trivial, ⟨trivial, ⟨trivial, ⟨trivial, ⟨⟨by kernel_rfl, aj Tryz.func69 lL⟩, ⟨trivial, ⟨trivial, ⟨trivial, ⟨trivial, ⟨trivial, ⟨trivial, ⟨trivial, ⟨trivial, ⟨trivial, ⟨trivial, ⟨trivial, ⟨trivial, ⟨trivial, ⟨trivial, ⟨trivial, ⟨trivial, ⟨trivial, ⟨trivial, ⟨trivial, ⟨trivial, ⟨trivial, ⟨trivial, ⟨trivial, ⟨trivial, ⟨trivial, ⟨trivial, ⟨trivial, ⟨trivial, ⟨trivial, ⟨trivial, ⟨trivial, ⟨trivial, ⟨trivial, ⟨trivial, ⟨trivial, ⟨trivial, ⟨trivial, ⟨trivial, ⟨trivial, ⟨trivial, ⟨trivial, ⟨trivial, ⟨trivial, ⟨trivial, ⟨trivial, ⟨trivial, ⟨trivial, ⟨trivial, ⟨trivial, ⟨trivial, ⟨trivial, ⟨trivial, ⟨trivial, ⟨trivial, ⟨trivial, ⟨trivial, ⟨trivial, ⟨trivial, ⟨trivial, ⟨trivial, ⟨trivial, ⟨trivial, ⟨trivial, ⟨trivial, ⟨trivial, ⟨trivial, ⟨trivial, ⟨trivial, ⟨trivial, ⟨trivial, ⟨trivial, ⟨trivial, ⟨trivial, ⟨trivial, ⟨trivial, ⟨trivial, ⟨trivial, ⟨trivial, ⟨trivial, ⟨trivial, ⟨trivial, ⟨trivial, ⟨trivial, ⟨trivial, ⟨trivial, ⟨trivial, ⟨trivial, ⟨trivial, ⟨trivial, ⟨trivial, ⟨trivial, ⟨trivial, ⟨trivial, ⟨trivial, ⟨trivial, ⟨trivial, ⟨trivial, ⟨trivial, ⟨trivial, ⟨trivial, ⟨trivial, ⟨trivial, ⟨trivial, ⟨trivial, ⟨trivial, ⟨trivial, ⟨trivial, ⟨trivial, ⟨trivial, ⟨trivial, ⟨trivial, ⟨trivial, ⟨trivial, ⟨trivial, ⟨trivial, ⟨trivial, ⟨trivial, ⟨trivial, ⟨trivial, ⟨trivial, ⟨trivial, ⟨trivial, ⟨trivial, ⟨trivial, ⟨trivial, ⟨trivial, ⟨trivial, ⟨trivial, ⟨trivial, ⟨trivial, ⟨trivial, ⟨trivial, ⟨trivial, ⟨trivial, ⟨trivial, ⟨trivial, ⟨trivial, ⟨trivial, ⟨trivial, ⟨trivial, ⟨trivial, ⟨trivial, ⟨trivial, ⟨trivial, ⟨trivial, ⟨trivial, ⟨trivial, ⟨trivial, ⟨trivial, ⟨trivial, ⟨trivial, ⟨trivial, ⟨trivial, ⟨⟨by kernel_rfl, aj Tryz.func8 sy⟩, ⟨trivial, ⟨trivial, ⟨trivial, ⟨trivial, ⟨trivial, ⟨trivial, ⟨trivial, ⟨trivial, ⟨trivial, ⟨trivial, ⟨trivial, ⟨⟨by kernel_rfl, aj Tryz.func35 Dm⟩, ⟨trivial, ⟨trivial, ⟨⟨by kernel_rfl, aj Tryz.func24 Bu⟩, ⟨trivial, ⟨trivial, ⟨trivial, ⟨trivial, ⟨trivial, ⟨trivial, ⟨trivial, ⟨trivial, ⟨⟨by kernel_rfl, aj Tryz.func58 Bv⟩, ⟨trivial, ⟨⟨by kernel_rfl, aj Tryz.func59 Bw⟩, ⟨⟨by kernel_rfl, aj Tryz.func32 zp⟩, ⟨⟨by kernel_rfl, aj Tryz.func56 Bx⟩, ⟨⟨by kernel_rfl, aj Tryz.func77 zq⟩, ⟨trivial, ⟨⟨by kernel_rfl, aj Tryz.func31 GO⟩, ⟨⟨by kernel_rfl, aj Tryz.func57 Dn⟩, ⟨trivial, ⟨⟨by kernel_rfl, aj Tryz.func46 mj⟩, ⟨⟨by kernel_rfl, aj Tryz.func76 xh⟩, ⟨⟨by kernel_rfl, aj Tryz.func75 Dp⟩, ⟨trivial, ⟨trivial, ⟨trivial, ⟨trivial, ⟨trivial, ⟨⟨by kernel_rfl, aj Tryz.func54 Dq⟩, ⟨trivial, ⟨⟨by kernel_rfl, aj Tryz.func85 xi⟩, ⟨trivial, ⟨trivial, ⟨trivial, ⟨trivial, ⟨⟨by kernel_rfl, aj Tryz.func74 Dr⟩, ⟨trivial, ⟨trivial, ⟨trivial, ⟨trivial, ⟨trivial, ⟨trivial, ⟨trivial, ⟨trivial, ⟨⟨by kernel_rfl, aj Tryz.func5 zr⟩, ⟨⟨by kernel_rfl, aj Tryz.func17 zt⟩, ⟨⟨by kernel_rfl, aj Tryz.func13 xj⟩, ⟨⟨by kernel_rfl, aj Tryz.func18 wV⟩, ⟨⟨by kernel_rfl, aj Tryz.func20 zu⟩, ⟨⟨by kernel_rfl, aj Tryz.func19 xk⟩, ⟨⟨by kernel_rfl, aj Tryz.func11 xm⟩, ⟨⟨by kernel_rfl, aj Tryz.func42 xn⟩, ⟨⟨by kernel_rfl, aj Tryz.func43 By⟩, ⟨⟨by kernel_rfl, aj Tryz.func44 zv⟩, ⟨⟨by kernel_rfl, aj Tryz.func50 pI⟩, ⟨⟨by kernel_rfl, aj Tryz.func49 zw⟩, ⟨⟨by kernel_rfl, aj Tryz.func15 xp⟩, ⟨⟨by kernel_rfl, aj Tryz.func27 uO⟩, ⟨⟨by kernel_rfl, aj Tryz.func28 xq⟩, ⟨⟨by kernel_rfl, aj Tryz.func30 sA⟩, ⟨⟨by kernel_rfl, aj Tryz.func63 zx⟩, ⟨⟨by kernel_rfl, aj Tryz.func65 Bz⟩, ⟨⟨by kernel_rfl, aj Tryz.func66 BA⟩, ⟨⟨by kernel_rfl, aj Tryz.func70 oT⟩, ⟨⟨by kernel_rfl, aj Tryz.func38 fG⟩, ⟨⟨by kernel_rfl, aj Tryz.func39 uP⟩, ⟨⟨by kernel_rfl, aj Tryz.func51 uQ⟩, ⟨⟨by kernel_rfl, aj Tryz.func61 gA⟩, ⟨⟨by kernel_rfl, aj Tryz.func47 nI⟩, ⟨⟨by kernel_rfl, aj Tryz.func3 sB⟩, ⟨⟨by kernel_rfl, aj Tryz.func12 zy⟩, ⟨⟨by kernel_rfl, aj Tryz.func16 zz⟩, ⟨⟨by kernel_rfl, aj Tryz.func34 BB⟩, trivial⟩⟩⟩⟩⟩⟩⟩⟩⟩⟩⟩⟩⟩⟩⟩⟩⟩⟩⟩⟩⟩⟩⟩⟩⟩⟩⟩⟩⟩⟩⟩⟩⟩⟩⟩⟩⟩⟩⟩⟩⟩⟩⟩⟩⟩⟩⟩⟩⟩⟩⟩⟩⟩⟩⟩⟩⟩⟩⟩⟩⟩⟩⟩⟩⟩⟩⟩⟩⟩⟩⟩⟩⟩⟩⟩⟩⟩⟩⟩⟩⟩⟩⟩⟩⟩⟩⟩⟩⟩⟩⟩⟩⟩⟩⟩⟩⟩⟩⟩⟩⟩⟩⟩⟩⟩⟩⟩⟩⟩⟩⟩⟩⟩⟩⟩⟩⟩⟩⟩⟩⟩⟩⟩⟩⟩⟩⟩⟩⟩⟩⟩⟩⟩⟩⟩⟩⟩⟩⟩⟩⟩⟩⟩⟩⟩⟩⟩⟩⟩⟩⟩⟩⟩⟩⟩⟩⟩⟩⟩⟩⟩⟩⟩⟩⟩⟩⟩⟩⟩⟩⟩⟩⟩⟩⟩⟩⟩⟩⟩⟩⟩⟩⟩⟩⟩⟩⟩⟩⟩⟩⟩⟩⟩⟩⟩⟩⟩⟩⟩⟩⟩⟩⟩⟩⟩⟩⟩⟩⟩⟩⟩⟩⟩⟩⟩⟩⟩⟩⟩⟩⟩⟩⟩⟩⟩⟩⟩⟩⟩⟩⟩⟩⟩⟩⟩⟩⟩⟩⟩⟩⟩⟩⟩⟩⟩⟩⟩⟩⟩⟩⟩⟩⟩⟩⟩⟩⟩⟩⟩⟩⟩⟩⟩⟩⟩⟩⟩⟩⟩⟩⟩⟩⟩⟩⟩⟩⟩⟩⟩⟩⟩⟩⟩⟩⟩⟩⟩⟩⟩⟩⟩⟩⟩⟩⟩⟩⟩⟩⟩⟩⟩⟩⟩⟩⟩⟩⟩⟩⟩⟩⟩⟩⟩⟩⟩⟩⟩⟩⟩⟩⟩⟩⟩⟩⟩⟩⟩⟩⟩⟩⟩⟩⟩⟩⟩⟩⟩⟩⟩⟩⟩⟩⟩⟩⟩⟩⟩⟩⟩⟩⟩⟩⟩⟩⟩⟩⟩⟩⟩⟩⟩⟩⟩⟩⟩⟩⟩⟩⟩⟩⟩⟩⟩⟩⟩⟩⟩⟩⟩⟩⟩⟩⟩⟩⟩⟩⟩⟩⟩⟩⟩⟩⟩⟩⟩⟩⟩⟩⟩⟩⟩⟩⟩⟩⟩⟩⟩⟩⟩⟩⟩⟩⟩⟩⟩⟩⟩⟩⟩⟩⟩⟩⟩⟩⟩⟩⟩⟩⟩⟩⟩⟩⟩⟩⟩⟩⟩⟩⟩⟩⟩⟩⟩⟩⟩⟩⟩⟩⟩⟩⟩⟩⟩⟩⟩⟩⟩⟩⟩⟩⟩⟩⟩⟩⟩⟩⟩⟩⟩⟩⟩⟩⟩⟩⟩⟩⟩⟩⟩⟩⟩⟩⟩⟩⟩⟩⟩⟩⟩⟩⟩⟩⟩⟩⟩⟩⟩⟩⟩⟩⟩⟩⟩⟩⟩⟩⟩⟩
theorem aaR : ∀ f j, Names.ρ f = some j → Names.it f = true → yo Tryz.prog j := fun f j hj h => Bool.noConfusion (show false = true from h)
def Uf : List (Nat × List Nat) := [(260, [2, N.ak]), (503, [5, N.ak])]
def BD : Go.Shelf.Ren := ⟨fun | 189 => 68 | 125 => 82 | 257 => 81 | 128 => 96 | 129 => 97 | 294 => 87 | 295 => 88 | 296 => 89 | 297 => 90 | 298 => 91 | 299 => 92 | 216 => 93 | 300 => 94 | 301 => 95 | 328 => 98 | 329 => 99 | 330 => 100 | 331 => 101 | 332 => 102 | 215 => 103 | 343 => 104 | n => n, fun | 28 => 22 | 3 => 3 | 46 => 99 | 0 => 0 | 51 => 120 | 53 => 123 | 4 => 4 | 183 => 130 | 182 => 129 | 131 => 72 | 5 => 5 | 9 => 9 | 218 => 137 | 222 => 141 | 228 => 143 | 229 => 114 | n => n, fun | n => n⟩
theorem Fl : Go.Proofs.Lays.n189 Tryz.prog BD := {
 mixed := by kernel_rfl,
 f125 := Tryz.func82.trans (congrArg some (by kernel_rfl)),
 f128 := Tryz.func96.trans (congrArg some (by kernel_rfl)),
 f129 := Tryz.func97.trans (congrArg some (by kernel_rfl)),
 f189 := Tryz.func68.trans (congrArg some (by kernel_rfl)),
 f215 := Tryz.func103.trans (congrArg some (by kernel_rfl)),
 f216 := Tryz.func93.trans (congrArg some (by kernel_rfl)),
 f257 := Tryz.func81.trans (congrArg some (by kernel_rfl)),
 f294 := Tryz.func87.trans (congrArg some (by kernel_rfl)),
 f295 := Tryz.func88.trans (congrArg some (by kernel_rfl)),
 f296 := Tryz.func89.trans (congrArg some (by kernel_rfl)),
 f297 := Tryz.func90.trans (congrArg some (by kernel_rfl)),
 f298 := Tryz.func91.trans (congrArg some (by kernel_rfl)),
 f299 := Tryz.func92.trans (congrArg some (by kernel_rfl)),
 f300 := Tryz.func94.trans (congrArg some (by kernel_rfl)),
 f301 := Tryz.func95.trans (congrArg some (by kernel_rfl)),
 f328 := Tryz.func98.trans (congrArg some (by kernel_rfl)),
 f329 := Tryz.func99.trans (congrArg some (by kernel_rfl)),
 f330 := Tryz.func100.trans (congrArg some (by kernel_rfl)),
 f331 := Tryz.func101.trans (congrArg some (by kernel_rfl)),
 f332 := Tryz.func102.trans (congrArg some (by kernel_rfl)),
 f343 := Tryz.func104.trans (congrArg some (by kernel_rfl)),
 t0 := Tryz.underlying0,
 a0 := Tryz.isAgg0,
 z0 := Tryz.sizeOf0,
 v0 := Tryz.zeroValue0,
 t3 := Tryz.underlying3,
 a3 := Tryz.isAgg3,
 z3 := Tryz.sizeOf3,
 v3 := Tryz.zeroValue3,
 t4 := Tryz.underlying4,
 a4 := Tryz.isAgg4,
 z4 := Tryz.sizeOf4,
 v4 := Tryz.zeroValue4,
 t5 := Tryz.underlying5,
 a5 := Tryz.isAgg5,
 z5 := Tryz.sizeOf5,
 v5 := Tryz.zeroValue5,
 t9 := Tryz.underlying9,
 a9 := Tryz.isAgg9,
 z9 := Tryz.sizeOf9,
 v9 := Tryz.zeroValue9,
 t28 := Tryz.underlying22,
 a28 := Tryz.isAgg22,
 z28 := Tryz.sizeOf22,
 v28 := Tryz.zeroValue22,
 t46 := Tryz.underlying99,
 a46 := Tryz.isAgg99,
 z46 := Tryz.sizeOf99,
 v46 := Tryz.zeroValue99,
 t51 := Tryz.underlying120,
 a51 := Tryz.isAgg120,
 z51 := Tryz.sizeOf120,
 v51 := Tryz.zeroValue120,
 t53 := Tryz.underlying123,
 a53 := Tryz.isAgg123,
 z53 := Tryz.sizeOf123,
 v53 := Tryz.zeroValue123,
 t131 := Tryz.underlying72,
 a131 := Tryz.isAgg72,
 z131 := Tryz.sizeOf72,
 v131 := Tryz.zeroValue72,
 t182 := Tryz.underlying129,
 a182 := Tryz.isAgg129,
 z182 := Tryz.sizeOf129,
 v182 := Tryz.zeroValue129,
 t183 := Tryz.underlying130,
 a183 := Tryz.isAgg130,
 z183 := Tryz.sizeOf130,
 v183 := Tryz.zeroValue130,
 t218 := Tryz.underlying137,
 a218 := Tryz.isAgg137,
 z218 := Tryz.sizeOf137,
 v218 := Tryz.zeroValue137,
 t222 := Tryz.underlying141,
 a222 := Tryz.isAgg141,
 z222 := Tryz.sizeOf141,
 v222 := Tryz.zeroValue141,
 t228 := Tryz.underlying143,
 a228 := Tryz.isAgg143,
 z228 := Tryz.sizeOf143,
 v228 := Tryz.zeroValue143,
 t229 := Tryz.underlying114,
 a229 := Tryz.isAgg114,
 z229 := Tryz.sizeOf114,
 v229 := Tryz.zeroValue114 }
def xv : Go.Shelf.Ren := ⟨fun | 6 => 47 | 8 => 67 | 9 => 68 | 11 => 80 | 13 => 82 | 12 => 81 | 23 => 96 | 24 => 97 | 14 => 87 | 15 => 88 | 16 => 89 | 17 => 90 | 18 => 91 | 19 => 92 | 20 => 93 | 21 => 94 | 22 => 95 | 25 => 98 | 26 => 99 | 27 => 100 | 28 => 101 | 29 => 102 | 30 => 103 | 31 => 104 | n => n, fun | 26 => 3 | 28 => 83 | 24 => 22 | 0 => 0 | 3 => 3 | 37 => 99 | 48 => 120 | 50 => 123 | 4 => 4 | 40 => 130 | 39 => 129 | 45 => 72 | 5 => 5 | 9 => 9 | 51 => 137 | 55 => 141 | 57 => 143 | 58 => 114 | 33 => 56 | n => n, fun | n => n⟩
theorem yi : Go.Proofs.SlLaysZI.n6 Tryz.prog xv := {
 f6 := ⟨"slices.Sorted[int]", by kernel_rfl, Tryz.func47.trans (congrArg some (by kernel_rfl))⟩,
 f8 := ⟨"slices.Collect[int]", by kernel_rfl, Tryz.func67.trans (congrArg some (by kernel_rfl))⟩,
 f11 := ⟨"slices.AppendSeq[[]int,int]", by kernel_rfl, Tryz.func80.trans (congrArg some (by kernel_rfl))⟩,
 mixed := by kernel_rfl,
 t0 := Tryz.underlying0,
 a0 := Tryz.isAgg0,
 z0 := Tryz.sizeOf0,
 v0 := Tryz.zeroValue0,
 t24 := Tryz.underlying22,
 a24 := Tryz.isAgg22,
 z24 := Tryz.sizeOf22,
 v24 := Tryz.zeroValue22,
 t26 := Tryz.underlying3,
 a26 := Tryz.isAgg3,
 z26 := Tryz.sizeOf3,
 v26 := Tryz.zeroValue3,
 t28 := Tryz.underlying83,
 a28 := Tryz.isAgg83,
 z28 := Tryz.sizeOf83,
 v28 := Tryz.zeroValue83,
 i26 := by kernel_rfl }
section
open Go.RowKit Go.Shelf Go.Maps Go.Sort Go.Proofs
/- the iterator of slices.Values at this program -/
set_option maxRecDepth 100000 in
set_option maxHeartbeats 2000000 in
theorem agb (n l Bs : Nat) (hn : 1 ≤ n) (W0 : World) (b off len cap : Nat) (zs : List Int) (hlen : zs.length = len) (hreach : len * 8 ≤ 140737488351232) (hb : b < W0.heap.size) (J : List Int → World → Prop)
 (hJ : ∀ s W1, J s W1 → Below W0.heap.size W0 W1)
 (hY : ∀ pre x W1, J pre W1 → pre.length < zs.length → YieldAt Fence.wide (n - 1) Tryz.prog l #[encZ x] W1 fun e W' => e = .returned (.bool true) ∧ J (pre ++ [x]) W' ∧ KeepsWalks W1 W')
 (W : World) (hBs : W.cell? ⟨Bs, 0, none⟩ = some (.slice (some ⟨b, off, none⟩) len cap)) (hc : ∀ j, j < len → W0.cell? ⟨b, off + j, none⟩ = some (.int .i64 (zs[j]?.getD 0))) (h0 : J [] W) :
 CallsIn Fence.wide n Tryz.prog 69 #[.func (.yield l) #[] #[], .pointer (some ⟨Bs, 0, none⟩)] W fun e W' => (∃ v, e = .returned v) ∧ J zs W' := by
 have step : ∀ k, k < zs.length → zs.take k ++ [zs[k]?.getD 0] = zs.take (k + 1) := fun k hk => by
  rw [List.take_succ_eq_append_getElem hk]; simp [hk]
 refine callsIn_of_wp Tryz.func69 rfl trivial ?_ rfl
 simp only [Tryz.ntmps69, List.size_toArray, List.length_cons, List.length_nil, Nat.reduceAdd, Nat.reduceSub, Array.replicate_succ, Array.replicate_zero, List.push_toArray, List.append_toArray, List.nil_append, List.cons_append]
 gi_wp2
 gi_loopw [7] (fun i wr => ∃ k : Nat, k ≤ len ∧ i = .int .i64 k ∧ J (zs.take k) wr)
  (fun i _ => len - (intOf i).toNat)
 case atStart => exact ⟨0, Nat.zero_le _, rfl, h0⟩
 case round =>
  obtain ⟨k, hk, rfl, hJs⟩ := hrel
  by_cases hlt : k < len
  · have hcx : wr.cell? ⟨b, off + k, none⟩ = some (.int .i64 (zs[k]?.getD 0)) := ((hJ _ _ hJs).cell (p := ⟨b, off + k, none⟩) hb).trans (hc k hlt)
    have st := step k (by omega)
    generalize zs[k]?.getD 0 = x at hcx st
    obtain ⟨fn, tmps, assign, body, hy, hR⟩ := hY _ x wr hJs (by rw [List.length_take]; omega)
    clear step
    gi_wp2
    refine hR.mono ?_
    rintro e W3 ⟨rfl, hJ3, -⟩
    gi_wp2
    go_roundw
    case rel => exact ⟨k + 1, by omega, by simp, by rw [← st]; exact hJ3⟩
    case measure => simp [intOf]; omega
  · obtain rfl : k = len := by omega
    gi_wp2
    go_end0
    exact ⟨⟨_, rfl⟩, by rw [← hlen, List.take_length] at hJs; exact hJs⟩
set_option maxRecDepth 100000 in
set_option maxHeartbeats 1000000 in
theorem agc (n l Bs : Nat) (p : Option Addr) (cap : Nat) (J : List Int → World → Prop) (W : World) (hBs : W.cell? ⟨Bs, 0, none⟩ = some (.slice p 0 cap)) (h0 : J [] W) :
 CallsIn Fence.wide n Tryz.prog 69 #[.func (.yield l) #[] #[], .pointer (some ⟨Bs, 0, none⟩)] W fun e W' => (∃ v, e = .returned v) ∧ J [] W' := by
 refine callsIn_of_wp Tryz.func69 rfl trivial ?_ rfl
 simp only [Tryz.ntmps69, List.size_toArray, List.length_cons, List.length_nil, Nat.reduceAdd, Nat.reduceSub, Array.replicate_succ, Array.replicate_zero, List.push_toArray, List.append_toArray, List.nil_append, List.cons_append]
 gi_wp2
 gi_loopw [7] (fun i wr => i = .int .i64 0 ∧ J [] wr) (fun _ _ => 0)
 case atStart => exact ⟨rfl, h0⟩
 case round =>
  obtain ⟨rfl, hJs⟩ := hrel
  gi_wp2
  go_end0
  exact ⟨⟨_, rfl⟩, hJs⟩
theorem Kx : Kw Tryz.prog 69 := by
 intro n Bs sv zs w hn hreach hBs hcell hI l J W hW hJ hY h0
 have hc' := (hW.cell (p := ⟨Bs, 0, none⟩) hBs).trans hcell
 rcases hI with ⟨p, cap, rfl, rfl⟩ | ⟨b, off, cap, rfl, hb, hcs⟩
 · exact agc n l Bs p cap J W hc' h0
 · exact agb n l Bs hn w b off zs.length cap zs rfl hreach hb J hJ hY W hc' hcs h0
end
theorem NF : ∀ j, Names.ρ 260 = some j → rq Tryz.prog j [2, N.ak] := fun j hj => by
 have e : (Names.ρ 260 : Option Nat) = some 47 := by kernel_rfl
 rw [e] at hj; cases hj; exact Dh yi Fl (by kernel_rfl) (Go.Proofs.enters_of Tryz.func68 (by kernel_rfl) rfl) (by kernel_rfl) (Go.Proofs.enters_of Tryz.func69 (by kernel_rfl) rfl) Kx
theorem NG : ∀ j, Names.ρ 503 = some j → rq Tryz.prog j [5, N.ak] := fun j hj => by
 have e : (Names.ρ 503 : Option Nat) = some 47 := by kernel_rfl
 rw [e] at hj; cases hj; exact Bm yi Fl (by kernel_rfl) (Go.Proofs.enters_of Tryz.func68 (by kernel_rfl) rfl) (by kernel_rfl) (Go.Proofs.enters_of Tryz.func69 (by kernel_rfl) rfl) Kx
theorem NH : ∀ x ∈ Uf, ∀ j, Names.ρ x.1 = some j → rq Tryz.prog j x.2 := by
 intro x hx
 simp only [Uf, List.mem_cons, List.not_mem_nil, or_false] at hx
 rcases hx with rfl | rfl
 · exact NF
 · exact NG
end Go.Proofs.YtmmplabgfomahaaGreat
