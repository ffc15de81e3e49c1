/- MADE BY PROGRAM (lib.py): the numbers that the functions have in this program, and the check of each one. -/
import Derived.Test.YtafioeehabcnhaaProg
import Derived.Test.YtafioeehabcnhaaZPP
import Derived.KernelRfl
set_option linter.all false
set_option maxRecDepth 100000
namespace Go.Proofs.Ytafioeehabcnhaa
open Go.Ev
def real : List (Option Nat) := [none, some 6, none, some 8, some 9, none, none, none, none, some 13, some 15, none, some 20, none, none, some 14, some 18, none, none, none, none, none, none, some 16, none, none, none, none, some 64, none, some 63, none, none, none, none, none, none, none, none, none, none, none, none, none, none, none, none, none, none, some 31, none, some 43, none, none, some 82, none, none, none, none, none, none, none, some 27, none, none, none, some 56, some 72, none, none, none, some 30, none, none, some 96, none, some 107, some 109, none, none, none, none, none, none, none, none, none, none, none, none, none, none, none, none, none, none, none, none, none, none, none, none, none, none, none, some 53, none, none, none, none, none, none, none, none, some 65, none, none, none, none, none, none, none, none, none, none, none, none, none, none, none, none, none, none, none, none, none, none, none, none, none, none, none, none, none, none, none, none, none, none, none, none, none, none, none, none, none, none, none, none, none, none, none, none, none, none, none, none, some 54, none, none, none, none, none, some 78, none, none, none, some 97, none, none, none, none, none, none, none, none, none, none, none, none, none, none, none, none, none, none, none, none, none, none, none, none, none, none, some 62, none, none, none, none, none, none, some 67, some 83, some 99, some 100, none, none, none, none, none, none, none, none, none, none, none, none, none, none, none, none, none, none, none, none, none, none, none, none, none, none, some 44, none, none, none, none, none, none, none, none, none, none, none, none, none, none, none, none, none, none, some 57, some 58, none, none, none, none, none, some 81, none, none, none, none, none, none, none, none, none, none, none, none, none, none, none, none, none, none, none, none, none, none, none, none, none, none, none, none, none, none, none, none, none, none, none, none, none, none, none, none, none, none, none, none, none, none, none, none, none, none, none, none, none, none, none, none, none, none, none, none, none, none, some 59, some 60, none, none, none, none, some 5, some 7, some 10, some 11, some 12, none, some 19, some 21, some 22, none, none, none, some 26, some 28, some 29, some 32, some 33, some 34, some 35, some 36, some 37, none, some 39, some 40, some 41, some 42, none, none, some 47, some 48, some 49, some 50, some 51, some 52, some 55, some 61, some 68, some 69, some 70, some 71, some 75, some 76, some 77, some 79, some 84, some 34, some 37, some 34]
def tab : List (Option Go.Ev.Fn) := [none, some K.fL, none, some K.gD, some K.cr, none, none, none, none, some K.aF, some K.bn, none, some K.gj, none, none, some K.cX, some K.cF, none, none, none, none, none, none, some K.gL, none, none, none, none, some K.dQ, none, some K.gE, none, none, none, none, none, none, none, none, none, none, none, none, none, none, none, none, none, none, some K.aO, none, some K.aZ, none, none, some K.eU, none, none, none, none, none, none, none, some K.ct, none, none, none, some K.a8, some K.bB, none, none, none, some K.b6, none, none, some K.eV, none, some K.bS, some K.fM, none, none, none, none, none, none, none, none, none, none, none, none, none, none, none, none, none, none, none, none, none, none, none, none, none, none, none, some K.dm, none, none, none, none, none, none, none, none, some K.eX, none, none, none, none, none, none, none, none, none, none, none, none, none, none, none, none, none, none, none, none, none, none, none, none, none, none, none, none, none, none, none, none, none, none, none, none, none, none, none, none, none, none, none, none, none, none, none, none, none, none, none, none, some K.eY, none, none, none, none, none, some K.fN, none, none, none, some K.dS, none, none, none, none, none, none, none, none, none, none, none, none, none, none, none, none, none, none, none, none, none, none, none, none, none, none, some K.ay, none, none, none, none, none, none, some K.gp, some K.gF, some K.dr, some K.fO, none, none, none, none, none, none, none, none, none, none, none, none, none, none, none, none, none, none, none, none, none, none, none, none, none, none, some K.bA, none, none, none, none, none, none, none, none, none, none, none, none, none, none, none, none, none, none, some K.cC, some K.bo, none, none, none, none, none, some K.aQ, none, none, none, none, none, none, none, none, none, none, none, none, none, none, none, none, none, none, none, none, none, none, none, none, none, none, none, none, none, none, none, none, none, none, none, none, none, none, none, none, none, none, none, none, none, none, none, none, none, none, none, none, none, none, none, none, none, none, none, none, none, none, some K.aG, some K.aJ, none, none, none, none, some K.bK, some K.dT, some K.bE, some K.gr, some K.b5, none, some K.gu, some K.dy, some K.ag, none, none, none, some K.fQ, some K.gV, some K.bY, some K.eF, some K.dt, some K.fj, some K.dj, some K.cy, some K.de, none, some K.eG, some K.cg, some K.dD, some K.fe, none, none, some K.cP, some K.ez, some K.dM, some K.ah, some K.aU, some K.bu, some K.ao, some K.aq, some K.cK, some K.ax, some K.cL, some K.cZ, some K.c7, some K.cQ, some K.bC, some K.aC, some K.aI, some K.ch, some K.aW, some K.aX]
instance names : Names := { ρ := fun f => (real[f]?).join }
instance lib : Lib := ⟨fun f => (tab[f]?).join⟩
instance has1 : bT := ⟨rfl, rfl, rfl, rfl, rfl, rfl, rfl, rfl, rfl, rfl, rfl⟩
instance has2 : bU := ⟨rfl, rfl, rfl, rfl, rfl, rfl, rfl, rfl, rfl, rfl⟩
instance has3 : dL := ⟨⟩
instance has4 : dI := ⟨rfl, rfl⟩
instance has5 : fP := ⟨⟩
instance has6 : dF := ⟨rfl⟩
instance has7 : dC := ⟨rfl, rfl⟩
instance has8 : eO := ⟨⟩
instance has9 : eD := ⟨rfl, rfl, rfl, rfl, rfl⟩
instance has10 : cE := ⟨rfl⟩
instance has11 : cO := ⟨rfl, rfl, rfl⟩
instance has12 : ea := ⟨⟩
instance has13 : eb := ⟨⟩
instance has14 : fT := ⟨⟩
instance has15 : fw := ⟨rfl, rfl⟩
instance has16 : fH := ⟨rfl, rfl, rfl, rfl, rfl, rfl, rfl, rfl⟩
instance has17 : dU := ⟨rfl, rfl, rfl, rfl, rfl, rfl, rfl, rfl, rfl, rfl, rfl, rfl, rfl, rfl, rfl, rfl, rfl⟩
instance has18 : ec := ⟨rfl, rfl, rfl, rfl, rfl, rfl, rfl, rfl, rfl, rfl, rfl, rfl, rfl, rfl, rfl, rfl⟩
theorem wM : bR Try.prog Try.f6 K.fL = true := by kernel_rfl
theorem yx : bR Try.prog Try.f8 K.gD = true := by kernel_rfl
theorem qy : bR Try.prog Try.f9 K.cr = true := by kernel_rfl
theorem qz : bR Try.prog Try.f13 K.aF = true := by kernel_rfl
theorem sW : bR Try.prog Try.f15 K.bn = true := by kernel_rfl
theorem yy : bR Try.prog Try.f20 K.gj = true := by kernel_rfl
theorem sE : bR Try.prog Try.f14 K.cX = true := by kernel_rfl
theorem qA : bR Try.prog Try.f18 K.cF = true := by kernel_rfl
theorem AM : bR Try.prog Try.f16 K.gL = true := by kernel_rfl
theorem uL : bR Try.prog Try.f64 K.dQ = true := by kernel_rfl
theorem yz : bR Try.prog Try.f63 K.gE = true := by kernel_rfl
theorem i4 : bR Try.prog Try.f31 K.aO = true := by kernel_rfl
theorem jZ : bR Try.prog Try.f43 K.aZ = true := by kernel_rfl
theorem wN : bR Try.prog Try.f82 K.eU = true := by kernel_rfl
theorem qB : bR Try.prog Try.f27 K.ct = true := by kernel_rfl
theorem jF : bR Try.prog Try.f56 K.a8 = true := by kernel_rfl
theorem lq : bR Try.prog Try.f72 K.bB = true := by kernel_rfl
theorem AN : bR Try.prog Try.f30 K.b6 = true := by kernel_rfl
theorem wO : bR Try.prog Try.f96 K.eV = true := by kernel_rfl
theorem sX : bR Try.prog Try.f107 K.bS = true := by kernel_rfl
theorem wP : bR Try.prog Try.f109 K.fM = true := by kernel_rfl
theorem sY : bR Try.prog Try.f53 K.dm = true := by kernel_rfl
theorem wQ : bR Try.prog Try.f65 K.eX = true := by kernel_rfl
theorem wR : bR Try.prog Try.f54 K.eY = true := by kernel_rfl
theorem wS : bR Try.prog Try.f78 K.fN = true := by kernel_rfl
theorem uM : bR Try.prog Try.f97 K.dS = true := by kernel_rfl
theorem lu : bR Try.prog Try.f62 K.ay = true := by kernel_rfl
theorem yA : bR Try.prog Try.f67 K.gp = true := by kernel_rfl
theorem yB : bR Try.prog Try.f83 K.gF = true := by kernel_rfl
theorem yC : bR Try.prog Try.f99 K.dr = true := by kernel_rfl
theorem wT : bR Try.prog Try.f100 K.fO = true := by kernel_rfl
theorem me : bR Try.prog Try.f44 K.bA = true := by kernel_rfl
theorem nS : bR Try.prog Try.f57 K.cC = true := by kernel_rfl
theorem kU : bR Try.prog Try.f58 K.bo = true := by kernel_rfl
theorem j3 : bR Try.prog Try.f81 K.aQ = true := by kernel_rfl
theorem hU : bR Try.prog Try.f59 K.aG = true := by kernel_rfl
theorem iw : bR Try.prog Try.f60 K.aJ = true := by kernel_rfl
theorem oY : bR Try.prog Try.f5 K.bK = true := by kernel_rfl
theorem uN : bR Try.prog Try.f7 K.dT = true := by kernel_rfl
theorem nT : bR Try.prog Try.f10 K.bE = true := by kernel_rfl
theorem uO : bR Try.prog Try.f11 K.gr = true := by kernel_rfl
theorem uP : bR Try.prog Try.f12 K.b5 = true := by kernel_rfl
theorem uQ : bR Try.prog Try.f19 K.gu = true := by kernel_rfl
theorem wU : bR Try.prog Try.f21 K.dy = true := by kernel_rfl
theorem wV : bR Try.prog Try.f22 K.ag = true := by kernel_rfl
theorem wW : bR Try.prog Try.f26 K.fQ = true := by kernel_rfl
theorem wX : bR Try.prog Try.f28 K.gV = true := by kernel_rfl
theorem pK : bR Try.prog Try.f29 K.bY = true := by kernel_rfl
theorem sF : bR Try.prog Try.f32 K.eF = true := by kernel_rfl
theorem s4 : bR Try.prog Try.f33 K.dt = true := by kernel_rfl
theorem s5 : bR Try.prog Try.f34 K.fj = true := by kernel_rfl
theorem uR : bR Try.prog Try.f35 K.dj = true := by kernel_rfl
theorem qC : bR Try.prog Try.f36 K.cy = true := by kernel_rfl
theorem wY : bR Try.prog Try.f37 K.de = true := by kernel_rfl
theorem sG : bR Try.prog Try.f39 K.eG = true := by kernel_rfl
theorem s6 : bR Try.prog Try.f40 K.cg = true := by kernel_rfl
theorem uS : bR Try.prog Try.f41 K.dD = true := by kernel_rfl
theorem wZ : bR Try.prog Try.f42 K.fe = true := by kernel_rfl
theorem uT : bR Try.prog Try.f47 K.cP = true := by kernel_rfl
theorem w6 : bR Try.prog Try.f48 K.ez = true := by kernel_rfl
theorem w7 : bR Try.prog Try.f49 K.dM = true := by kernel_rfl
theorem w8 : bR Try.prog Try.f50 K.ah = true := by kernel_rfl
theorem w9 : bR Try.prog Try.f51 K.aU = true := by kernel_rfl
theorem nU : bR Try.prog Try.f52 K.bu = true := by kernel_rfl
theorem eu : bR Try.prog Try.f55 K.ao = true := by kernel_rfl
theorem gK : bR Try.prog Try.f61 K.aq = true := by kernel_rfl
theorem sH : bR Try.prog Try.f68 K.cK = true := by kernel_rfl
theorem fD : bR Try.prog Try.f69 K.ax = true := by kernel_rfl
theorem sI : bR Try.prog Try.f70 K.cL = true := by kernel_rfl
theorem sJ : bR Try.prog Try.f71 K.cZ = true := by kernel_rfl
theorem uU : bR Try.prog Try.f75 K.c7 = true := by kernel_rfl
theorem uV : bR Try.prog Try.f76 K.cQ = true := by kernel_rfl
theorem qD : bR Try.prog Try.f77 K.bC = true := by kernel_rfl
theorem eM : bR Try.prog Try.f79 K.aC = true := by kernel_rfl
theorem fY : bR Try.prog Try.f84 K.aI = true := by kernel_rfl
theorem pL : bR Try.prog Try.f34 K.ch = true := by kernel_rfl
theorem sK : bR Try.prog Try.f37 K.aW = true := by kernel_rfl
theorem pM : bR Try.prog Try.f34 K.aX = true := by kernel_rfl
theorem RM : xF Try.prog real tab :=
 ⟨trivial, ⟨⟨by kernel_rfl, aH Try.func6 wM⟩, ⟨trivial, ⟨⟨by kernel_rfl, aH Try.func8 yx⟩, ⟨⟨by kernel_rfl, aH Try.func9 qy⟩, ⟨trivial, ⟨trivial, ⟨trivial, ⟨trivial, ⟨⟨by kernel_rfl, aH Try.func13 qz⟩, ⟨⟨by kernel_rfl, aH Try.func15 sW⟩, ⟨trivial, ⟨⟨by kernel_rfl, aH Try.func20 yy⟩, ⟨trivial, ⟨trivial, ⟨⟨by kernel_rfl, aH Try.func14 sE⟩, ⟨⟨by kernel_rfl, aH Try.func18 qA⟩, ⟨trivial, ⟨trivial, ⟨trivial, ⟨trivial, ⟨trivial, ⟨trivial, ⟨⟨by kernel_rfl, aH Try.func16 AM⟩, ⟨trivial, ⟨trivial, ⟨trivial, ⟨trivial, ⟨⟨by kernel_rfl, aH Try.func64 uL⟩, ⟨trivial, ⟨⟨by kernel_rfl, aH Try.func63 yz⟩, ⟨trivial, ⟨trivial, ⟨trivial, ⟨trivial, ⟨trivial, ⟨trivial, ⟨trivial, ⟨trivial, ⟨trivial, ⟨trivial, ⟨trivial, ⟨trivial, ⟨trivial, ⟨trivial, ⟨trivial, ⟨trivial, ⟨trivial, ⟨trivial, ⟨⟨by kernel_rfl, aH Try.func31 i4⟩, ⟨trivial, ⟨⟨by kernel_rfl, aH Try.func43 jZ⟩, ⟨trivial, ⟨trivial, ⟨⟨by kernel_rfl, aH Try.func82 wN⟩, ⟨trivial, ⟨trivial, ⟨trivial, ⟨trivial, ⟨trivial, ⟨trivial, ⟨trivial, ⟨⟨by kernel_rfl, aH Try.func27 qB⟩, ⟨trivial, ⟨trivial, ⟨trivial, ⟨⟨by kernel_rfl, aH Try.func56 jF⟩, ⟨⟨by kernel_rfl, aH Try.func72 lq⟩, ⟨trivial, ⟨trivial, ⟨trivial, ⟨⟨by kernel_rfl, aH Try.func30 AN⟩, ⟨trivial, ⟨trivial, ⟨⟨by kernel_rfl, aH Try.func96 wO⟩, ⟨trivial, ⟨⟨by kernel_rfl, aH Try.func107 sX⟩, ⟨⟨by kernel_rfl, aH Try.func109 wP⟩, ⟨trivial, ⟨trivial, ⟨trivial, ⟨trivial, ⟨trivial, ⟨trivial, ⟨trivial, ⟨trivial, ⟨trivial, ⟨trivial, ⟨trivial, ⟨trivial, ⟨trivial, ⟨trivial, ⟨trivial, ⟨trivial, ⟨trivial, ⟨trivial, ⟨trivial, ⟨trivial, ⟨trivial, ⟨trivial, ⟨trivial, ⟨trivial, ⟨trivial, ⟨trivial, ⟨trivial, ⟨⟨by kernel_rfl, aH Try.func53 sY⟩, ⟨trivial, ⟨trivial, ⟨trivial, ⟨trivial, ⟨trivial, ⟨trivial, ⟨trivial, ⟨trivial, ⟨⟨by kernel_rfl, aH Try.func65 wQ⟩, ⟨trivial, ⟨trivial, ⟨trivial, ⟨trivial, ⟨trivial, ⟨trivial, ⟨trivial, ⟨trivial, ⟨trivial, ⟨trivial, ⟨trivial, ⟨trivial, ⟨trivial, ⟨trivial, ⟨trivial, ⟨trivial, ⟨trivial, ⟨trivial, ⟨trivial, ⟨trivial, ⟨trivial, ⟨trivial, ⟨trivial, ⟨trivial, ⟨trivial, ⟨trivial, ⟨trivial, ⟨trivial, ⟨trivial, ⟨trivial, ⟨trivial, ⟨trivial, ⟨trivial, ⟨trivial, ⟨trivial, ⟨trivial, ⟨trivial, ⟨trivial, ⟨trivial, ⟨trivial, ⟨trivial, ⟨trivial, ⟨trivial, ⟨trivial, ⟨trivial, ⟨trivial, ⟨trivial, ⟨trivial, ⟨trivial, ⟨trivial, ⟨trivial, ⟨trivial, ⟨⟨by kernel_rfl, aH Try.func54 wR⟩, ⟨trivial, ⟨trivial, ⟨trivial, ⟨trivial, ⟨trivial, ⟨⟨by kernel_rfl, aH Try.func78 wS⟩, ⟨trivial, ⟨trivial, ⟨trivial, ⟨⟨by kernel_rfl, aH Try.func97 uM⟩, ⟨trivial, ⟨trivial, ⟨trivial, ⟨trivial, ⟨trivial, ⟨trivial, ⟨trivial, ⟨trivial, ⟨trivial, ⟨trivial, ⟨trivial, ⟨trivial, ⟨trivial, ⟨trivial, ⟨trivial, ⟨trivial, ⟨trivial, ⟨trivial, ⟨trivial, ⟨trivial, ⟨trivial, ⟨trivial, ⟨trivial, ⟨trivial, ⟨trivial, ⟨trivial, ⟨⟨by kernel_rfl, aH Try.func62 lu⟩, ⟨trivial, ⟨trivial, ⟨trivial, ⟨trivial, ⟨trivial, ⟨trivial, ⟨⟨by kernel_rfl, aH Try.func67 yA⟩, ⟨⟨by kernel_rfl, aH Try.func83 yB⟩, ⟨⟨by kernel_rfl, aH Try.func99 yC⟩, ⟨⟨by kernel_rfl, aH Try.func100 wT⟩, ⟨trivial, ⟨trivial, ⟨trivial, ⟨trivial, ⟨trivial, ⟨trivial, ⟨trivial, ⟨trivial, ⟨trivial, ⟨trivial, ⟨trivial, ⟨trivial, ⟨trivial, ⟨trivial, ⟨trivial, ⟨trivial, ⟨trivial, ⟨trivial, ⟨trivial, ⟨trivial, ⟨trivial, ⟨trivial, ⟨trivial, ⟨trivial, ⟨trivial, ⟨trivial, ⟨⟨by kernel_rfl, aH Try.func44 me⟩, ⟨trivial, ⟨trivial, ⟨trivial, ⟨trivial, ⟨trivial, ⟨trivial, ⟨trivial, ⟨trivial, ⟨trivial, ⟨trivial, ⟨trivial, ⟨trivial, ⟨trivial, ⟨trivial, ⟨trivial, ⟨trivial, ⟨trivial, ⟨trivial, ⟨⟨by kernel_rfl, aH Try.func57 nS⟩, ⟨⟨by kernel_rfl, aH Try.func58 kU⟩, ⟨trivial, ⟨trivial, ⟨trivial, ⟨trivial, ⟨trivial, ⟨⟨by kernel_rfl, aH Try.func81 j3⟩, ⟨trivial, ⟨trivial, ⟨trivial, ⟨trivial, ⟨trivial, ⟨trivial, ⟨trivial, ⟨trivial, ⟨trivial, ⟨trivial, ⟨trivial, ⟨trivial, ⟨trivial, ⟨trivial, ⟨trivial, ⟨trivial, ⟨trivial, ⟨trivial, ⟨trivial, ⟨trivial, ⟨trivial, ⟨trivial, ⟨trivial, ⟨trivial, ⟨trivial, ⟨trivial, ⟨trivial, ⟨trivial, ⟨trivial, ⟨trivial, ⟨trivial, ⟨trivial, ⟨trivial, ⟨trivial, ⟨trivial, ⟨trivial, ⟨trivial, ⟨trivial, ⟨trivial, ⟨trivial, ⟨trivial, ⟨trivial, ⟨trivial, ⟨trivial, ⟨trivial, ⟨trivial, ⟨trivial, ⟨trivial, ⟨trivial, ⟨trivial, ⟨trivial, ⟨trivial, ⟨trivial, ⟨trivial, ⟨trivial, ⟨trivial, ⟨trivial, ⟨trivial, ⟨trivial, ⟨trivial, ⟨trivial, ⟨trivial, ⟨⟨by kernel_rfl, aH Try.func59 hU⟩, ⟨⟨by kernel_rfl, aH Try.func60 iw⟩, ⟨trivial, ⟨trivial, ⟨trivial, ⟨trivial, ⟨⟨by kernel_rfl, aH Try.func5 oY⟩, ⟨⟨by kernel_rfl, aH Try.func7 uN⟩, ⟨⟨by kernel_rfl, aH Try.func10 nT⟩, ⟨⟨by kernel_rfl, aH Try.func11 uO⟩, ⟨⟨by kernel_rfl, aH Try.func12 uP⟩, ⟨trivial, ⟨⟨by kernel_rfl, aH Try.func19 uQ⟩, ⟨⟨by kernel_rfl, aH Try.func21 wU⟩, ⟨⟨by kernel_rfl, aH Try.func22 wV⟩, ⟨trivial, ⟨trivial, ⟨trivial, ⟨⟨by kernel_rfl, aH Try.func26 wW⟩, ⟨⟨by kernel_rfl, aH Try.func28 wX⟩, ⟨⟨by kernel_rfl, aH Try.func29 pK⟩, ⟨⟨by kernel_rfl, aH Try.func32 sF⟩, ⟨⟨by kernel_rfl, aH Try.func33 s4⟩, ⟨⟨by kernel_rfl, aH Try.func34 s5⟩, ⟨⟨by kernel_rfl, aH Try.func35 uR⟩, ⟨⟨by kernel_rfl, aH Try.func36 qC⟩, ⟨⟨by kernel_rfl, aH Try.func37 wY⟩, ⟨trivial, ⟨⟨by kernel_rfl, aH Try.func39 sG⟩, ⟨⟨by kernel_rfl, aH Try.func40 s6⟩, ⟨⟨by kernel_rfl, aH Try.func41 uS⟩, ⟨⟨by kernel_rfl, aH Try.func42 wZ⟩, ⟨trivial, ⟨trivial, ⟨⟨by kernel_rfl, aH Try.func47 uT⟩, ⟨⟨by kernel_rfl, aH Try.func48 w6⟩, ⟨⟨by kernel_rfl, aH Try.func49 w7⟩, ⟨⟨by kernel_rfl, aH Try.func50 w8⟩, ⟨⟨by kernel_rfl, aH Try.func51 w9⟩, ⟨⟨by kernel_rfl, aH Try.func52 nU⟩, ⟨⟨by kernel_rfl, aH Try.func55 eu⟩, ⟨⟨by kernel_rfl, aH Try.func61 gK⟩, ⟨⟨by kernel_rfl, aH Try.func68 sH⟩, ⟨⟨by kernel_rfl, aH Try.func69 fD⟩, ⟨⟨by kernel_rfl, aH Try.func70 sI⟩, ⟨⟨by kernel_rfl, aH Try.func71 sJ⟩, ⟨⟨by kernel_rfl, aH Try.func75 uU⟩, ⟨⟨by kernel_rfl, aH Try.func76 uV⟩, ⟨⟨by kernel_rfl, aH Try.func77 qD⟩, ⟨⟨by kernel_rfl, aH Try.func79 eM⟩, ⟨⟨by kernel_rfl, aH Try.func84 fY⟩, ⟨⟨by kernel_rfl, aH Try.func34 pL⟩, ⟨⟨by kernel_rfl, aH Try.func37 sK⟩, ⟨⟨by kernel_rfl, aH Try.func34 pM⟩, trivial⟩⟩⟩⟩⟩⟩⟩⟩⟩⟩⟩⟩⟩⟩⟩⟩⟩⟩⟩⟩⟩⟩⟩⟩⟩⟩⟩⟩⟩⟩⟩⟩⟩⟩⟩⟩⟩⟩⟩⟩⟩⟩⟩⟩⟩⟩⟩⟩⟩⟩⟩⟩⟩⟩⟩⟩⟩⟩⟩⟩⟩⟩⟩⟩⟩⟩⟩⟩⟩⟩⟩⟩⟩⟩⟩⟩⟩⟩⟩⟩⟩⟩⟩⟩⟩⟩⟩⟩⟩⟩⟩⟩⟩⟩⟩⟩⟩⟩⟩⟩⟩⟩⟩⟩⟩⟩⟩⟩⟩⟩⟩⟩⟩⟩⟩⟩⟩⟩⟩⟩⟩⟩⟩⟩⟩⟩⟩⟩⟩⟩⟩⟩⟩⟩⟩⟩⟩⟩⟩⟩⟩⟩⟩⟩⟩⟩⟩⟩⟩⟩⟩⟩⟩⟩⟩⟩⟩⟩⟩⟩⟩⟩⟩⟩⟩⟩⟩⟩⟩⟩⟩⟩⟩⟩⟩⟩⟩⟩⟩⟩⟩⟩⟩⟩⟩⟩⟩⟩⟩⟩⟩⟩⟩⟩⟩⟩⟩⟩⟩⟩⟩⟩⟩⟩⟩⟩⟩⟩⟩⟩⟩⟩⟩⟩⟩⟩⟩⟩⟩⟩⟩⟩⟩⟩⟩⟩⟩⟩⟩⟩⟩⟩⟩⟩⟩⟩⟩⟩⟩⟩⟩⟩⟩⟩⟩⟩⟩⟩⟩⟩⟩⟩⟩⟩⟩⟩⟩⟩⟩⟩⟩⟩⟩⟩⟩⟩⟩⟩⟩⟩⟩⟩⟩⟩⟩⟩⟩⟩⟩⟩⟩⟩⟩⟩⟩⟩⟩⟩⟩⟩⟩⟩⟩⟩⟩⟩⟩⟩⟩⟩⟩⟩⟩⟩⟩⟩⟩⟩⟩⟩⟩⟩⟩⟩⟩⟩⟩⟩⟩⟩⟩⟩⟩⟩⟩⟩⟩⟩⟩⟩⟩⟩⟩⟩⟩⟩⟩⟩⟩⟩⟩⟩⟩⟩⟩⟩⟩⟩⟩⟩⟩⟩⟩⟩⟩⟩⟩⟩⟩⟩⟩⟩⟩⟩⟩⟩⟩⟩⟩⟩⟩⟩⟩⟩⟩⟩⟩⟩⟩⟩⟩⟩⟩⟩
theorem RN : ∀ f j, Names.ρ f = some j → Names.it f = true → tX Try.prog j := fun f j hj h => Bool.noConfusion (show false = true from h)
def L0 : List (Nat × List Nat) := [(241, [1]), (260, [2, N.aQ])]
def xa : Go.Shelf.Ren := ⟨fun | 189 => 44 | 125 => 74 | 257 => 73 | 128 => 94 | 129 => 95 | 294 => 85 | 295 => 86 | 296 => 87 | 297 => 88 | 298 => 89 | 299 => 90 | 216 => 91 | 300 => 92 | 301 => 93 | 328 => 101 | 329 => 102 | 330 => 103 | 331 => 104 | 332 => 105 | 215 => 106 | 343 => 108 | n => n, fun | 28 => 22 | 3 => 3 | 46 => 116 | 0 => 0 | 51 => 131 | 53 => 133 | 4 => 4 | 183 => 124 | 182 => 123 | 131 => 128 | 5 => 5 | 9 => 9 | 218 => 139 | 222 => 88 | 228 => 145 | 229 => 146 | n => n, fun | n => n⟩
theorem zE : Go.Proofs.Lays.n189 Try.prog xa := {
 mixed := by kernel_rfl,
 f125 := Try.func74.trans (congrArg some (by kernel_rfl)),
 f128 := Try.func94.trans (congrArg some (by kernel_rfl)),
 f129 := Try.func95.trans (congrArg some (by kernel_rfl)),
 f189 := Try.func44.trans (congrArg some (by kernel_rfl)),
 f215 := Try.func106.trans (congrArg some (by kernel_rfl)),
 f216 := Try.func91.trans (congrArg some (by kernel_rfl)),
 f257 := Try.func73.trans (congrArg some (by kernel_rfl)),
 f294 := Try.func85.trans (congrArg some (by kernel_rfl)),
 f295 := Try.func86.trans (congrArg some (by kernel_rfl)),
 f296 := Try.func87.trans (congrArg some (by kernel_rfl)),
 f297 := Try.func88.trans (congrArg some (by kernel_rfl)),
 f298 := Try.func89.trans (congrArg some (by kernel_rfl)),
 f299 := Try.func90.trans (congrArg some (by kernel_rfl)),
 f300 := Try.func92.trans (congrArg some (by kernel_rfl)),
 f301 := Try.func93.trans (congrArg some (by kernel_rfl)),
 f328 := Try.func101.trans (congrArg some (by kernel_rfl)),
 f329 := Try.func102.trans (congrArg some (by kernel_rfl)),
 f330 := Try.func103.trans (congrArg some (by kernel_rfl)),
 f331 := Try.func104.trans (congrArg some (by kernel_rfl)),
 f332 := Try.func105.trans (congrArg some (by kernel_rfl)),
 f343 := Try.func108.trans (congrArg some (by kernel_rfl)),
 t0 := Try.underlying0,
 a0 := Try.isAgg0,
 z0 := Try.sizeOf0,
 v0 := Try.zeroValue0,
 t3 := Try.underlying3,
 a3 := Try.isAgg3,
 z3 := Try.sizeOf3,
 v3 := Try.zeroValue3,
 t4 := Try.underlying4,
 a4 := Try.isAgg4,
 z4 := Try.sizeOf4,
 v4 := Try.zeroValue4,
 t5 := Try.underlying5,
 a5 := Try.isAgg5,
 z5 := Try.sizeOf5,
 v5 := Try.zeroValue5,
 t9 := Try.underlying9,
 a9 := Try.isAgg9,
 z9 := Try.sizeOf9,
 v9 := Try.zeroValue9,
 t28 := Try.underlying22,
 a28 := Try.isAgg22,
 z28 := Try.sizeOf22,
 v28 := Try.zeroValue22,
 t46 := Try.underlying116,
 a46 := Try.isAgg116,
 z46 := Try.sizeOf116,
 v46 := Try.zeroValue116,
 t51 := Try.underlying131,
 a51 := Try.isAgg131,
 z51 := Try.sizeOf131,
 v51 := Try.zeroValue131,
 t53 := Try.underlying133,
 a53 := Try.isAgg133,
 z53 := Try.sizeOf133,
 v53 := Try.zeroValue133,
 t131 := Try.underlying128,
 a131 := Try.isAgg128,
 z131 := Try.sizeOf128,
 v131 := Try.zeroValue128,
 t182 := Try.underlying123,
 a182 := Try.isAgg123,
 z182 := Try.sizeOf123,
 v182 := Try.zeroValue123,
 t183 := Try.underlying124,
 a183 := Try.isAgg124,
 z183 := Try.sizeOf124,
 v183 := Try.zeroValue124,
 t218 := Try.underlying139,
 a218 := Try.isAgg139,
 z218 := Try.sizeOf139,
 v218 := Try.zeroValue139,
 t222 := Try.underlying88,
 a222 := Try.isAgg88,
 z222 := Try.sizeOf88,
 v222 := Try.zeroValue88,
 t228 := Try.underlying145,
 a228 := Try.isAgg145,
 z228 := Try.sizeOf145,
 v228 := Try.zeroValue145,
 t229 := Try.underlying146,
 a229 := Try.isAgg146,
 z229 := Try.sizeOf146,
 v229 := Try.zeroValue146 }
theorem Ga : ∀ j, Names.ρ 241 = some j → pV Try.prog j [1] := fun j hj => by
 have e : (Names.ρ 241 : Option Nat) = some 44 := by kernel_rfl
 rw [e] at hj; cases hj; exact DH zE
def s7 : Go.Shelf.Ren := ⟨fun | 6 => 57 | 8 => 80 | 9 => 44 | 11 => 98 | 13 => 74 | 12 => 73 | 23 => 94 | 24 => 95 | 14 => 85 | 15 => 86 | 16 => 87 | 17 => 88 | 18 => 89 | 19 => 90 | 20 => 91 | 21 => 92 | 22 => 93 | 25 => 101 | 26 => 102 | 27 => 103 | 28 => 104 | 29 => 105 | 30 => 106 | 31 => 108 | n => n, fun | 26 => 3 | 28 => 100 | 24 => 22 | 0 => 0 | 3 => 3 | 37 => 116 | 48 => 131 | 50 => 133 | 4 => 4 | 40 => 124 | 39 => 123 | 45 => 128 | 5 => 5 | 9 => 9 | 51 => 139 | 55 => 88 | 57 => 145 | 58 => 146 | 33 => 42 | n => n, fun | n => n⟩
theorem AO : Go.Proofs.SlLaysZI.n6 Try.prog s7 := {
 f6 := ⟨"slices.Sorted[int]", by kernel_rfl, Try.func57.trans (congrArg some (by kernel_rfl))⟩,
 f8 := ⟨"slices.Collect[int]", by kernel_rfl, Try.func80.trans (congrArg some (by kernel_rfl))⟩,
 f11 := ⟨"slices.AppendSeq[[]int,int]", by kernel_rfl, Try.func98.trans (congrArg some (by kernel_rfl))⟩,
 mixed := by kernel_rfl,
 t0 := Try.underlying0,
 a0 := Try.isAgg0,
 z0 := Try.sizeOf0,
 v0 := Try.zeroValue0,
 t24 := Try.underlying22,
 a24 := Try.isAgg22,
 z24 := Try.sizeOf22,
 v24 := Try.zeroValue22,
 t26 := Try.underlying3,
 a26 := Try.isAgg3,
 z26 := Try.sizeOf3,
 v26 := Try.zeroValue3,
 t28 := Try.underlying100,
 a28 := Try.isAgg100,
 z28 := Try.sizeOf100,
 v28 := Try.zeroValue100,
 i26 := by kernel_rfl }
section
open Go.RowKit Go.Shelf Go.Maps Go.Sort Go.Proofs
/- the iterator of slices.Values at this program -/
set_option maxRecDepth 100000 in
set_option maxHeartbeats 2000000 in
theorem Xe (n l Bs : Nat) (hn : 1 ≤ n) (W0 : World) (b off len cap : Nat) (zs : List Int) (hlen : zs.length = len) (hreach : len * 8 ≤ 140737488351232) (hb : b < W0.heap.size) (J : List Int → World → Prop)
 (hJ : ∀ s W1, J s W1 → Below W0.heap.size W0 W1)
 (hY : ∀ pre x W1, J pre W1 → pre.length < zs.length → YieldAt Fence.wide (n - 1) Try.prog l #[encZ x] W1 fun e W' => e = .returned (.bool true) ∧ J (pre ++ [x]) W' ∧ KeepsWalks W1 W')
 (W : World) (hBs : W.cell? ⟨Bs, 0, none⟩ = some (.slice (some ⟨b, off, none⟩) len cap)) (hc : ∀ j, j < len → W0.cell? ⟨b, off + j, none⟩ = some (.int .i64 (zs[j]?.getD 0))) (h0 : J [] W) :
 CallsIn Fence.wide n Try.prog 81 #[.func (.yield l) #[] #[], .pointer (some ⟨Bs, 0, none⟩)] W fun e W' => (∃ v, e = .returned v) ∧ J zs W' := by
 have step : ∀ k, k < zs.length → zs.take k ++ [zs[k]?.getD 0] = zs.take (k + 1) := fun k hk => by
  rw [List.take_succ_eq_append_getElem hk]; simp [hk]
 refine callsIn_of_wp Try.func81 rfl trivial ?_ rfl
 simp only [Try.ntmps81, List.size_toArray, List.length_cons, List.length_nil, Nat.reduceAdd, Nat.reduceSub, Array.replicate_succ, Array.replicate_zero, List.push_toArray, List.append_toArray, List.nil_append, List.cons_append]
 gi_wp2
 gi_loopw [7] (fun i wr => ∃ k : Nat, k ≤ len ∧ i = .int .i64 k ∧ J (zs.take k) wr)
  (fun i _ => len - (intOf i).toNat)
 case atStart => exact ⟨0, Nat.zero_le _, rfl, h0⟩
 case round =>
  obtain ⟨k, hk, rfl, hJs⟩ := hrel
  by_cases hlt : k < len
  · have hcx : wr.cell? ⟨b, off + k, none⟩ = some (.int .i64 (zs[k]?.getD 0)) := ((hJ _ _ hJs).cell (p := ⟨b, off + k, none⟩) hb).trans (hc k hlt)
    have st := step k (by omega)
    generalize zs[k]?.getD 0 = x at hcx st
    obtain ⟨fn, tmps, assign, body, hy, hR⟩ := hY _ x wr hJs (by rw [List.length_take]; omega)
    clear step
    gi_wp2
    refine hR.mono ?_
    rintro e W3 ⟨rfl, hJ3, -⟩
    gi_wp2
    go_roundw
    case rel => exact ⟨k + 1, by omega, by simp, by rw [← st]; exact hJ3⟩
    case measure => simp [intOf]; omega
  · obtain rfl : k = len := by omega
    gi_wp2
    go_end0
    exact ⟨⟨_, rfl⟩, by rw [← hlen, List.take_length] at hJs; exact hJs⟩
set_option maxRecDepth 100000 in
set_option maxHeartbeats 1000000 in
theorem Xf (n l Bs : Nat) (p : Option Addr) (cap : Nat) (J : List Int → World → Prop) (W : World) (hBs : W.cell? ⟨Bs, 0, none⟩ = some (.slice p 0 cap)) (h0 : J [] W) :
 CallsIn Fence.wide n Try.prog 81 #[.func (.yield l) #[] #[], .pointer (some ⟨Bs, 0, none⟩)] W fun e W' => (∃ v, e = .returned v) ∧ J [] W' := by
 refine callsIn_of_wp Try.func81 rfl trivial ?_ rfl
 simp only [Try.ntmps81, List.size_toArray, List.length_cons, List.length_nil, Nat.reduceAdd, Nat.reduceSub, Array.replicate_succ, Array.replicate_zero, List.push_toArray, List.append_toArray, List.nil_append, List.cons_append]
 gi_wp2
 gi_loopw [7] (fun i wr => i = .int .i64 0 ∧ J [] wr) (fun _ _ => 0)
 case atStart => exact ⟨rfl, h0⟩
 case round =>
  obtain ⟨rfl, hJs⟩ := hrel
  gi_wp2
  go_end0
  exact ⟨⟨_, rfl⟩, hJs⟩
theorem L3 : HK Try.prog 81 := by
 intro n Bs sv zs w hn hreach hBs hcell hI l J W hW hJ hY h0
 have hc' := (hW.cell (p := ⟨Bs, 0, none⟩) hBs).trans hcell
 rcases hI with ⟨p, cap, rfl, rfl⟩ | ⟨b, off, cap, rfl, hb, hcs⟩
 · exact Xf n l Bs p cap J W hc' h0
 · exact Xe n l Bs hn w b off zs.length cap zs rfl hreach hb J hJ hY W hc' hcs h0
end
theorem Gb : ∀ j, Names.ρ 260 = some j → pV Try.prog j [2, N.aQ] := fun j hj => by
 have e : (Names.ρ 260 : Option Nat) = some 57 := by kernel_rfl
 rw [e] at hj; cases hj; exact yw AO zE (by kernel_rfl) (Go.Proofs.enters_of Try.func44 (by kernel_rfl) rfl) (by kernel_rfl) (Go.Proofs.enters_of Try.func81 (by kernel_rfl) rfl) L3
theorem Gc : ∀ x ∈ L0, ∀ j, Names.ρ x.1 = some j → pV Try.prog j x.2 := by
 intro x hx
 simp only [L0, List.mem_cons, List.not_mem_nil, or_false] at hx
 rcases hx with rfl | rfl
 · exact Ga
 · exact Gb
end Go.Proofs.Ytafioeehabcnhaa
