/- MADE BY PROGRAM (lib.py): the numbers that the functions have in this program, and the check of each one. -/
import Derived.Test.YtafioeehabcnhaaProg
import Derived.Test.YtafioeehabcnhaaZPP
import Derived.KernelRfl
set_option linter.all false
set_option maxRecDepth 100000
namespace Go.Proofs.Ytafioeehabcnhaa
open Go.Ev
def real : List (Option Nat) := [none, some 6, none, some 8, some 9, none, none, none, none, some 13, some 15, none, some 20, none, none, some 14, some 18, none, none, none, none, none, none, some 16, none, none, none, none, none, none, none, none, none, none, none, none, none, none, none, none, none, none, none, none, none, none, none, none, none, some 31, none, some 43, none, none, none, none, none, none, none, none, none, none, none, none, none, none, some 56, some 72, none, none, none, some 30, none, none, none, none, none, none, none, none, none, none, none, none, none, none, none, none, none, none, none, none, none, none, none, none, none, none, none, none, none, none, none, none, none, some 53, none, none, none, none, none, none, none, none, none, none, none, none, none, none, none, none, none, none, none, none, none, none, none, none, none, none, none, none, none, none, none, none, none, none, none, none, none, none, none, none, none, none, none, none, none, none, none, none, none, none, none, none, none, none, none, none, none, none, none, none, none, some 54, none, none, none, none, none, some 78, none, none, none, some 97, none, none, none, none, none, none, none, none, none, none, none, none, none, none, none, none, none, none, none, none, none, none, none, none, none, none, some 62, none, none, none, none, none, none, some 67, some 83, some 99, some 100, none, none, none, none, none, none, none, none, none, none, none, none, none, none, none, none, none, none, none, none, none, none, none, none, none, none, some 44, none, none, none, none, none, none, none, none, none, none, none, none, none, none, none, none, none, none, some 57, some 58, none, none, none, none, none, some 81, none, none, none, none, none, none, none, none, none, none, none, none, none, none, none, none, none, none, none, none, none, none, none, none, none, none, none, none, none, none, none, none, none, none, none, none, none, none, none, none, none, none, none, none, none, none, none, none, none, none, none, none, none, none, none, none, none, none, none, none, none, none, some 59, some 60, none, none, none, some 4, none, some 7, none, some 11, none, none, some 19, some 21, some 22, some 23, some 24, some 25, none, some 28, some 29, some 32, some 33, some 34, none, none, none, none, some 39, some 40, some 41, some 42, some 45, some 46, none, none, none, none, none, some 52, some 55, some 61, some 68, some 69, some 70, some 71, none, none, none, some 79, some 84, some 34, none, some 34]
def tab : List (Option Go.Ev.Fn) := [none, some K.ez, none, some K.fh, some K.bQ, none, none, none, none, some K.aG, some K.ba, none, some K.dn, none, none, some K.bI, some K.bR, none, none, none, none, none, none, some K.fq, none, none, none, none, none, none, none, none, none, none, none, none, none, none, none, none, none, none, none, none, none, none, none, none, none, some K.aF, none, some K.aQ, none, none, none, none, none, none, none, none, none, none, none, none, none, none, some K.aR, some K.bc, none, none, none, some K.bJ, none, none, none, none, none, none, none, none, none, none, none, none, none, none, none, none, none, none, none, none, none, none, none, none, none, none, none, none, none, none, none, none, none, some K.cJ, none, none, none, none, none, none, none, none, none, none, none, none, none, none, none, none, none, none, none, none, none, none, none, none, none, none, none, none, none, none, none, none, none, none, none, none, none, none, none, none, none, none, none, none, none, none, none, none, none, none, none, none, none, none, none, none, none, none, none, none, none, some K.dV, none, none, none, none, none, some K.eB, none, none, none, some K.dq, none, none, none, none, none, none, none, none, none, none, none, none, none, none, none, none, none, none, none, none, none, none, none, none, none, none, some K.au, none, none, none, none, none, none, some K.eQ, some K.fj, some K.cM, some K.eC, none, none, none, none, none, none, none, none, none, none, none, none, none, none, none, none, none, none, none, none, none, none, none, none, none, none, some K.a8, none, none, none, none, none, none, none, none, none, none, none, none, none, none, none, none, none, none, some K.bW, some K.aY, none, none, none, none, none, some K.aK, none, none, none, none, none, none, none, none, none, none, none, none, none, none, none, none, none, none, none, none, none, none, none, none, none, none, none, none, none, none, none, none, none, none, none, none, none, none, none, none, none, none, none, none, none, none, none, none, none, none, none, none, none, none, none, none, none, none, none, none, none, none, some K.ay, some K.aB, none, none, none, some K.bG, none, some K.dK, none, some K.bN, none, none, some K.cj, some K.cQ, some K.ae, some K.ed, some K.cr, some K.dL, none, some K.fH, some K.bH, some K.b7, some K.cN, some K.df, none, none, none, none, some K.bX, some K.bO, some K.cY, some K.dW, some K.br, some K.bY, none, none, none, none, none, some K.aZ, some K.ai, some K.aj, some K.b8, some K.aq, some K.b9, some K.cz, none, none, none, some K.ax, some K.aA, some K.bP, none, some K.aP]
instance names : Names := { ρ := fun f => (real[f]?).join }
instance lib : Lib := ⟨fun f => (tab[f]?).join⟩
instance has1 : bz := ⟨rfl, rfl, rfl, rfl, rfl, rfl, rfl, rfl, rfl⟩
instance has2 : bD := ⟨rfl, rfl, rfl, rfl, rfl⟩
instance has3 : cZ := ⟨⟩
instance has4 : c7 := ⟨rfl⟩
instance has5 : dZ := ⟨⟩
instance has6 : cL := ⟨rfl⟩
instance has7 : cI := ⟨rfl, rfl⟩
instance has8 : dE := ⟨⟩
instance has9 : dt := ⟨rfl, rfl, rfl, rfl, rfl⟩
instance has10 : bM := ⟨rfl⟩
instance has11 : bZ := ⟨rfl, rfl, rfl⟩
instance has12 : cW := ⟨⟩
instance has13 : cX := ⟨⟩
instance has14 : dO := ⟨⟩
instance has15 : dF := ⟨rfl, rfl⟩
instance has16 : dM := ⟨rfl, rfl, rfl, rfl, rfl, rfl, rfl, rfl⟩
instance has17 : dr := ⟨rfl, rfl, rfl, rfl, rfl, rfl, rfl, rfl, rfl, rfl, rfl, rfl⟩
instance has18 : dv := ⟨rfl, rfl, rfl, rfl, rfl, rfl, rfl, rfl, rfl, rfl, rfl⟩
theorem tT : cm Try.prog Try.f6 K.ez = true := by kernel_rfl
theorem vI : cm Try.prog Try.f8 K.fh = true := by kernel_rfl
theorem oz : cm Try.prog Try.f9 K.bQ = true := by kernel_rfl
theorem oA : cm Try.prog Try.f13 K.aG = true := by kernel_rfl
theorem qb : cm Try.prog Try.f15 K.ba = true := by kernel_rfl
theorem vJ : cm Try.prog Try.f20 K.dn = true := by kernel_rfl
theorem pS : cm Try.prog Try.f14 K.bI = true := by kernel_rfl
theorem oB : cm Try.prog Try.f18 K.bR = true := by kernel_rfl
theorem yf : cm Try.prog Try.f16 K.fq = true := by kernel_rfl
theorem gL : cm Try.prog Try.f31 K.aF = true := by kernel_rfl
theorem iZ : cm Try.prog Try.f43 K.aQ = true := by kernel_rfl
theorem iD : cm Try.prog Try.f56 K.aR = true := by kernel_rfl
theorem jY : cm Try.prog Try.f72 K.bc = true := by kernel_rfl
theorem yg : cm Try.prog Try.f30 K.bJ = true := by kernel_rfl
theorem qc : cm Try.prog Try.f53 K.cJ = true := by kernel_rfl
theorem tU : cm Try.prog Try.f54 K.dV = true := by kernel_rfl
theorem tV : cm Try.prog Try.f78 K.eB = true := by kernel_rfl
theorem rY : cm Try.prog Try.f97 K.dq = true := by kernel_rfl
theorem jZ : cm Try.prog Try.f62 K.au = true := by kernel_rfl
theorem vK : cm Try.prog Try.f67 K.eQ = true := by kernel_rfl
theorem vL : cm Try.prog Try.f83 K.fj = true := by kernel_rfl
theorem vM : cm Try.prog Try.f99 K.cM = true := by kernel_rfl
theorem tW : cm Try.prog Try.f100 K.eC = true := by kernel_rfl
theorem kx : cm Try.prog Try.f44 K.a8 = true := by kernel_rfl
theorem lQ : cm Try.prog Try.f57 K.bW = true := by kernel_rfl
theorem jR : cm Try.prog Try.f58 K.aY = true := by kernel_rfl
theorem i4 : cm Try.prog Try.f81 K.aK = true := by kernel_rfl
theorem fJ : cm Try.prog Try.f59 K.ay = true := by kernel_rfl
theorem fY : cm Try.prog Try.f60 K.aB = true := by kernel_rfl
theorem mT : cm Try.prog Try.f4 K.bG = true := by kernel_rfl
theorem rZ : cm Try.prog Try.f7 K.dK = true := by kernel_rfl
theorem r5 : cm Try.prog Try.f11 K.bN = true := by kernel_rfl
theorem r6 : cm Try.prog Try.f19 K.cj = true := by kernel_rfl
theorem tX : cm Try.prog Try.f21 K.cQ = true := by kernel_rfl
theorem tY : cm Try.prog Try.f22 K.ae = true := by kernel_rfl
theorem yh : cm Try.prog Try.f23 K.ed = true := by kernel_rfl
theorem oC : cm Try.prog Try.f24 K.cr = true := by kernel_rfl
theorem r7 : cm Try.prog Try.f25 K.dL = true := by kernel_rfl
theorem tZ : cm Try.prog Try.f28 K.fH = true := by kernel_rfl
theorem nE : cm Try.prog Try.f29 K.bH = true := by kernel_rfl
theorem pT : cm Try.prog Try.f32 K.b7 = true := by kernel_rfl
theorem qd : cm Try.prog Try.f33 K.cN = true := by kernel_rfl
theorem qf : cm Try.prog Try.f34 K.df = true := by kernel_rfl
theorem pU : cm Try.prog Try.f39 K.bX = true := by kernel_rfl
theorem qg : cm Try.prog Try.f40 K.bO = true := by kernel_rfl
theorem r8 : cm Try.prog Try.f41 K.cY = true := by kernel_rfl
theorem ua : cm Try.prog Try.f42 K.dW = true := by kernel_rfl
theorem r9 : cm Try.prog Try.f45 K.br = true := by kernel_rfl
theorem pV : cm Try.prog Try.f46 K.bY = true := by kernel_rfl
theorem lS : cm Try.prog Try.f52 K.aZ = true := by kernel_rfl
theorem dB : cm Try.prog Try.f55 K.ai = true := by kernel_rfl
theorem fp : cm Try.prog Try.f61 K.aj = true := by kernel_rfl
theorem pW : cm Try.prog Try.f68 K.b8 = true := by kernel_rfl
theorem eh : cm Try.prog Try.f69 K.aq = true := by kernel_rfl
theorem pX : cm Try.prog Try.f70 K.b9 = true := by kernel_rfl
theorem pY : cm Try.prog Try.f71 K.cz = true := by kernel_rfl
theorem dP : cm Try.prog Try.f79 K.ax = true := by kernel_rfl
theorem eJ : cm Try.prog Try.f84 K.aA = true := by kernel_rfl
theorem nF : cm Try.prog Try.f34 K.bP = true := by kernel_rfl
theorem nG : cm Try.prog Try.f34 K.aP = true := by kernel_rfl
theorem Pz : uK Try.prog real tab :=
 ⟨trivial, ⟨⟨by kernel_rfl, aJ Try.func6 tT⟩, ⟨trivial, ⟨⟨by kernel_rfl, aJ Try.func8 vI⟩, ⟨⟨by kernel_rfl, aJ Try.func9 oz⟩, ⟨trivial, ⟨trivial, ⟨trivial, ⟨trivial, ⟨⟨by kernel_rfl, aJ Try.func13 oA⟩, ⟨⟨by kernel_rfl, aJ Try.func15 qb⟩, ⟨trivial, ⟨⟨by kernel_rfl, aJ Try.func20 vJ⟩, ⟨trivial, ⟨trivial, ⟨⟨by kernel_rfl, aJ Try.func14 pS⟩, ⟨⟨by kernel_rfl, aJ Try.func18 oB⟩, ⟨trivial, ⟨trivial, ⟨trivial, ⟨trivial, ⟨trivial, ⟨trivial, ⟨⟨by kernel_rfl, aJ Try.func16 yf⟩, ⟨trivial, ⟨trivial, ⟨trivial, ⟨trivial, ⟨trivial, ⟨trivial, ⟨trivial, ⟨trivial, ⟨trivial, ⟨trivial, ⟨trivial, ⟨trivial, ⟨trivial, ⟨trivial, ⟨trivial, ⟨trivial, ⟨trivial, ⟨trivial, ⟨trivial, ⟨trivial, ⟨trivial, ⟨trivial, ⟨trivial, ⟨trivial, ⟨trivial, ⟨⟨by kernel_rfl, aJ Try.func31 gL⟩, ⟨trivial, ⟨⟨by kernel_rfl, aJ Try.func43 iZ⟩, ⟨trivial, ⟨trivial, ⟨trivial, ⟨trivial, ⟨trivial, ⟨trivial, ⟨trivial, ⟨trivial, ⟨trivial, ⟨trivial, ⟨trivial, ⟨trivial, ⟨trivial, ⟨trivial, ⟨⟨by kernel_rfl, aJ Try.func56 iD⟩, ⟨⟨by kernel_rfl, aJ Try.func72 jY⟩, ⟨trivial, ⟨trivial, ⟨trivial, ⟨⟨by kernel_rfl, aJ Try.func30 yg⟩, ⟨trivial, ⟨trivial, ⟨trivial, ⟨trivial, ⟨trivial, ⟨trivial, ⟨trivial, ⟨trivial, ⟨trivial, ⟨trivial, ⟨trivial, ⟨trivial, ⟨trivial, ⟨trivial, ⟨trivial, ⟨trivial, ⟨trivial, ⟨trivial, ⟨trivial, ⟨trivial, ⟨trivial, ⟨trivial, ⟨trivial, ⟨trivial, ⟨trivial, ⟨trivial, ⟨trivial, ⟨trivial, ⟨trivial, ⟨trivial, ⟨trivial, ⟨trivial, ⟨trivial, ⟨⟨by kernel_rfl, aJ Try.func53 qc⟩, ⟨trivial, ⟨trivial, ⟨trivial, ⟨trivial, ⟨trivial, ⟨trivial, ⟨trivial, ⟨trivial, ⟨trivial, ⟨trivial, ⟨trivial, ⟨trivial, ⟨trivial, ⟨trivial, ⟨trivial, ⟨trivial, ⟨trivial, ⟨trivial, ⟨trivial, ⟨trivial, ⟨trivial, ⟨trivial, ⟨trivial, ⟨trivial, ⟨trivial, ⟨trivial, ⟨trivial, ⟨trivial, ⟨trivial, ⟨trivial, ⟨trivial, ⟨trivial, ⟨trivial, ⟨trivial, ⟨trivial, ⟨trivial, ⟨trivial, ⟨trivial, ⟨trivial, ⟨trivial, ⟨trivial, ⟨trivial, ⟨trivial, ⟨trivial, ⟨trivial, ⟨trivial, ⟨trivial, ⟨trivial, ⟨trivial, ⟨trivial, ⟨trivial, ⟨trivial, ⟨trivial, ⟨trivial, ⟨trivial, ⟨trivial, ⟨trivial, ⟨trivial, ⟨trivial, ⟨trivial, ⟨trivial, ⟨⟨by kernel_rfl, aJ Try.func54 tU⟩, ⟨trivial, ⟨trivial, ⟨trivial, ⟨trivial, ⟨trivial, ⟨⟨by kernel_rfl, aJ Try.func78 tV⟩, ⟨trivial, ⟨trivial, ⟨trivial, ⟨⟨by kernel_rfl, aJ Try.func97 rY⟩, ⟨trivial, ⟨trivial, ⟨trivial, ⟨trivial, ⟨trivial, ⟨trivial, ⟨trivial, ⟨trivial, ⟨trivial, ⟨trivial, ⟨trivial, ⟨trivial, ⟨trivial, ⟨trivial, ⟨trivial, ⟨trivial, ⟨trivial, ⟨trivial, ⟨trivial, ⟨trivial, ⟨trivial, ⟨trivial, ⟨trivial, ⟨trivial, ⟨trivial, ⟨trivial, ⟨⟨by kernel_rfl, aJ Try.func62 jZ⟩, ⟨trivial, ⟨trivial, ⟨trivial, ⟨trivial, ⟨trivial, ⟨trivial, ⟨⟨by kernel_rfl, aJ Try.func67 vK⟩, ⟨⟨by kernel_rfl, aJ Try.func83 vL⟩, ⟨⟨by kernel_rfl, aJ Try.func99 vM⟩, ⟨⟨by kernel_rfl, aJ Try.func100 tW⟩, ⟨trivial, ⟨trivial, ⟨trivial, ⟨trivial, ⟨trivial, ⟨trivial, ⟨trivial, ⟨trivial, ⟨trivial, ⟨trivial, ⟨trivial, ⟨trivial, ⟨trivial, ⟨trivial, ⟨trivial, ⟨trivial, ⟨trivial, ⟨trivial, ⟨trivial, ⟨trivial, ⟨trivial, ⟨trivial, ⟨trivial, ⟨trivial, ⟨trivial, ⟨trivial, ⟨⟨by kernel_rfl, aJ Try.func44 kx⟩, ⟨trivial, ⟨trivial, ⟨trivial, ⟨trivial, ⟨trivial, ⟨trivial, ⟨trivial, ⟨trivial, ⟨trivial, ⟨trivial, ⟨trivial, ⟨trivial, ⟨trivial, ⟨trivial, ⟨trivial, ⟨trivial, ⟨trivial, ⟨trivial, ⟨⟨by kernel_rfl, aJ Try.func57 lQ⟩, ⟨⟨by kernel_rfl, aJ Try.func58 jR⟩, ⟨trivial, ⟨trivial, ⟨trivial, ⟨trivial, ⟨trivial, ⟨⟨by kernel_rfl, aJ Try.func81 i4⟩, ⟨trivial, ⟨trivial, ⟨trivial, ⟨trivial, ⟨trivial, ⟨trivial, ⟨trivial, ⟨trivial, ⟨trivial, ⟨trivial, ⟨trivial, ⟨trivial, ⟨trivial, ⟨trivial, ⟨trivial, ⟨trivial, ⟨trivial, ⟨trivial, ⟨trivial, ⟨trivial, ⟨trivial, ⟨trivial, ⟨trivial, ⟨trivial, ⟨trivial, ⟨trivial, ⟨trivial, ⟨trivial, ⟨trivial, ⟨trivial, ⟨trivial, ⟨trivial, ⟨trivial, ⟨trivial, ⟨trivial, ⟨trivial, ⟨trivial, ⟨trivial, ⟨trivial, ⟨trivial, ⟨trivial, ⟨trivial, ⟨trivial, ⟨trivial, ⟨trivial, ⟨trivial, ⟨trivial, ⟨trivial, ⟨trivial, ⟨trivial, ⟨trivial, ⟨trivial, ⟨trivial, ⟨trivial, ⟨trivial, ⟨trivial, ⟨trivial, ⟨trivial, ⟨trivial, ⟨trivial, ⟨trivial, ⟨trivial, ⟨⟨by kernel_rfl, aJ Try.func59 fJ⟩, ⟨⟨by kernel_rfl, aJ Try.func60 fY⟩, ⟨trivial, ⟨trivial, ⟨trivial, ⟨⟨by kernel_rfl, aJ Try.func4 mT⟩, ⟨trivial, ⟨⟨by kernel_rfl, aJ Try.func7 rZ⟩, ⟨trivial, ⟨⟨by kernel_rfl, aJ Try.func11 r5⟩, ⟨trivial, ⟨trivial, ⟨⟨by kernel_rfl, aJ Try.func19 r6⟩, ⟨⟨by kernel_rfl, aJ Try.func21 tX⟩, ⟨⟨by kernel_rfl, aJ Try.func22 tY⟩, ⟨⟨by kernel_rfl, aJ Try.func23 yh⟩, ⟨⟨by kernel_rfl, aJ Try.func24 oC⟩, ⟨⟨by kernel_rfl, aJ Try.func25 r7⟩, ⟨trivial, ⟨⟨by kernel_rfl, aJ Try.func28 tZ⟩, ⟨⟨by kernel_rfl, aJ Try.func29 nE⟩, ⟨⟨by kernel_rfl, aJ Try.func32 pT⟩, ⟨⟨by kernel_rfl, aJ Try.func33 qd⟩, ⟨⟨by kernel_rfl, aJ Try.func34 qf⟩, ⟨trivial, ⟨trivial, ⟨trivial, ⟨trivial, ⟨⟨by kernel_rfl, aJ Try.func39 pU⟩, ⟨⟨by kernel_rfl, aJ Try.func40 qg⟩, ⟨⟨by kernel_rfl, aJ Try.func41 r8⟩, ⟨⟨by kernel_rfl, aJ Try.func42 ua⟩, ⟨⟨by kernel_rfl, aJ Try.func45 r9⟩, ⟨⟨by kernel_rfl, aJ Try.func46 pV⟩, ⟨trivial, ⟨trivial, ⟨trivial, ⟨trivial, ⟨trivial, ⟨⟨by kernel_rfl, aJ Try.func52 lS⟩, ⟨⟨by kernel_rfl, aJ Try.func55 dB⟩, ⟨⟨by kernel_rfl, aJ Try.func61 fp⟩, ⟨⟨by kernel_rfl, aJ Try.func68 pW⟩, ⟨⟨by kernel_rfl, aJ Try.func69 eh⟩, ⟨⟨by kernel_rfl, aJ Try.func70 pX⟩, ⟨⟨by kernel_rfl, aJ Try.func71 pY⟩, ⟨trivial, ⟨trivial, ⟨trivial, ⟨⟨by kernel_rfl, aJ Try.func79 dP⟩, ⟨⟨by kernel_rfl, aJ Try.func84 eJ⟩, ⟨⟨by kernel_rfl, aJ Try.func34 nF⟩, ⟨trivial, ⟨⟨by kernel_rfl, aJ Try.func34 nG⟩, trivial⟩⟩⟩⟩⟩⟩⟩⟩⟩⟩⟩⟩⟩⟩⟩⟩⟩⟩⟩⟩⟩⟩⟩⟩⟩⟩⟩⟩⟩⟩⟩⟩⟩⟩⟩⟩⟩⟩⟩⟩⟩⟩⟩⟩⟩⟩⟩⟩⟩⟩⟩⟩⟩⟩⟩⟩⟩⟩⟩⟩⟩⟩⟩⟩⟩⟩⟩⟩⟩⟩⟩⟩⟩⟩⟩⟩⟩⟩⟩⟩⟩⟩⟩⟩⟩⟩⟩⟩⟩⟩⟩⟩⟩⟩⟩⟩⟩⟩⟩⟩⟩⟩⟩⟩⟩⟩⟩⟩⟩⟩⟩⟩⟩⟩⟩⟩⟩⟩⟩⟩⟩⟩⟩⟩⟩⟩⟩⟩⟩⟩⟩⟩⟩⟩⟩⟩⟩⟩⟩⟩⟩⟩⟩⟩⟩⟩⟩⟩⟩⟩⟩⟩⟩⟩⟩⟩⟩⟩⟩⟩⟩⟩⟩⟩⟩⟩⟩⟩⟩⟩⟩⟩⟩⟩⟩⟩⟩⟩⟩⟩⟩⟩⟩⟩⟩⟩⟩⟩⟩⟩⟩⟩⟩⟩⟩⟩⟩⟩⟩⟩⟩⟩⟩⟩⟩⟩⟩⟩⟩⟩⟩⟩⟩⟩⟩⟩⟩⟩⟩⟩⟩⟩⟩⟩⟩⟩⟩⟩⟩⟩⟩⟩⟩⟩⟩⟩⟩⟩⟩⟩⟩⟩⟩⟩⟩⟩⟩⟩⟩⟩⟩⟩⟩⟩⟩⟩⟩⟩⟩⟩⟩⟩⟩⟩⟩⟩⟩⟩⟩⟩⟩⟩⟩⟩⟩⟩⟩⟩⟩⟩⟩⟩⟩⟩⟩⟩⟩⟩⟩⟩⟩⟩⟩⟩⟩⟩⟩⟩⟩⟩⟩⟩⟩⟩⟩⟩⟩⟩⟩⟩⟩⟩⟩⟩⟩⟩⟩⟩⟩⟩⟩⟩⟩⟩⟩⟩⟩⟩⟩⟩⟩⟩⟩⟩⟩⟩⟩⟩⟩⟩⟩⟩⟩⟩⟩⟩⟩⟩⟩⟩⟩⟩⟩⟩⟩⟩⟩⟩⟩⟩⟩⟩⟩⟩⟩⟩⟩⟩⟩⟩⟩⟩⟩⟩⟩⟩⟩⟩⟩⟩⟩⟩⟩⟩
theorem PA : ∀ f j, Names.ρ f = some j → Names.it f = true → qZ Try.prog j := fun f j hj h => Bool.noConfusion (show false = true from h)
def Ju : List (Nat × List Nat) := [(241, [1]), (260, [2, N.aK])]
def uc : Go.Shelf.Ren := ⟨fun | 189 => 44 | 125 => 74 | 257 => 73 | 128 => 94 | 129 => 95 | 294 => 85 | 295 => 86 | 296 => 87 | 297 => 88 | 298 => 89 | 299 => 90 | 216 => 91 | 300 => 92 | 301 => 93 | 328 => 101 | 329 => 102 | 330 => 103 | 331 => 104 | 332 => 105 | 215 => 106 | 343 => 108 | n => n, fun | 28 => 22 | 3 => 3 | 46 => 116 | 0 => 0 | 51 => 131 | 53 => 133 | 4 => 4 | 183 => 124 | 182 => 123 | 131 => 128 | 5 => 5 | 9 => 9 | 218 => 139 | 222 => 88 | 228 => 145 | 229 => 146 | n => n, fun | n => n⟩
theorem w7 : Go.Proofs.Lays.n189 Try.prog uc := {
 mixed := by kernel_rfl,
 f125 := Try.func74.trans (congrArg some (by kernel_rfl)),
 f128 := Try.func94.trans (congrArg some (by kernel_rfl)),
 f129 := Try.func95.trans (congrArg some (by kernel_rfl)),
 f189 := Try.func44.trans (congrArg some (by kernel_rfl)),
 f215 := Try.func106.trans (congrArg some (by kernel_rfl)),
 f216 := Try.func91.trans (congrArg some (by kernel_rfl)),
 f257 := Try.func73.trans (congrArg some (by kernel_rfl)),
 f294 := Try.func85.trans (congrArg some (by kernel_rfl)),
 f295 := Try.func86.trans (congrArg some (by kernel_rfl)),
 f296 := Try.func87.trans (congrArg some (by kernel_rfl)),
 f297 := Try.func88.trans (congrArg some (by kernel_rfl)),
 f298 := Try.func89.trans (congrArg some (by kernel_rfl)),
 f299 := Try.func90.trans (congrArg some (by kernel_rfl)),
 f300 := Try.func92.trans (congrArg some (by kernel_rfl)),
 f301 := Try.func93.trans (congrArg some (by kernel_rfl)),
 f328 := Try.func101.trans (congrArg some (by kernel_rfl)),
 f329 := Try.func102.trans (congrArg some (by kernel_rfl)),
 f330 := Try.func103.trans (congrArg some (by kernel_rfl)),
 f331 := Try.func104.trans (congrArg some (by kernel_rfl)),
 f332 := Try.func105.trans (congrArg some (by kernel_rfl)),
 f343 := Try.func108.trans (congrArg some (by kernel_rfl)),
 t0 := Try.underlying0,
 a0 := Try.isAgg0,
 z0 := Try.sizeOf0,
 v0 := Try.zeroValue0,
 t3 := Try.underlying3,
 a3 := Try.isAgg3,
 z3 := Try.sizeOf3,
 v3 := Try.zeroValue3,
 t4 := Try.underlying4,
 a4 := Try.isAgg4,
 z4 := Try.sizeOf4,
 v4 := Try.zeroValue4,
 t5 := Try.underlying5,
 a5 := Try.isAgg5,
 z5 := Try.sizeOf5,
 v5 := Try.zeroValue5,
 t9 := Try.underlying9,
 a9 := Try.isAgg9,
 z9 := Try.sizeOf9,
 v9 := Try.zeroValue9,
 t28 := Try.underlying22,
 a28 := Try.isAgg22,
 z28 := Try.sizeOf22,
 v28 := Try.zeroValue22,
 t46 := Try.underlying116,
 a46 := Try.isAgg116,
 z46 := Try.sizeOf116,
 v46 := Try.zeroValue116,
 t51 := Try.underlying131,
 a51 := Try.isAgg131,
 z51 := Try.sizeOf131,
 v51 := Try.zeroValue131,
 t53 := Try.underlying133,
 a53 := Try.isAgg133,
 z53 := Try.sizeOf133,
 v53 := Try.zeroValue133,
 t131 := Try.underlying128,
 a131 := Try.isAgg128,
 z131 := Try.sizeOf128,
 v131 := Try.zeroValue128,
 t182 := Try.underlying123,
 a182 := Try.isAgg123,
 z182 := Try.sizeOf123,
 v182 := Try.zeroValue123,
 t183 := Try.underlying124,
 a183 := Try.isAgg124,
 z183 := Try.sizeOf124,
 v183 := Try.zeroValue124,
 t218 := Try.underlying139,
 a218 := Try.isAgg139,
 z218 := Try.sizeOf139,
 v218 := Try.zeroValue139,
 t222 := Try.underlying88,
 a222 := Try.isAgg88,
 z222 := Try.sizeOf88,
 v222 := Try.zeroValue88,
 t228 := Try.underlying145,
 a228 := Try.isAgg145,
 z228 := Try.sizeOf145,
 v228 := Try.zeroValue145,
 t229 := Try.underlying146,
 a229 := Try.isAgg146,
 z229 := Try.sizeOf146,
 v229 := Try.zeroValue146 }
theorem DF : ∀ j, Names.ρ 241 = some j → nQ Try.prog j [1] := fun j hj => by
 have e : (Names.ρ 241 : Option Nat) = some 44 := by kernel_rfl
 rw [e] at hj; cases hj; exact Bc w7
def qh : Go.Shelf.Ren := ⟨fun | 6 => 57 | 8 => 80 | 9 => 44 | 11 => 98 | 13 => 74 | 12 => 73 | 23 => 94 | 24 => 95 | 14 => 85 | 15 => 86 | 16 => 87 | 17 => 88 | 18 => 89 | 19 => 90 | 20 => 91 | 21 => 92 | 22 => 93 | 25 => 101 | 26 => 102 | 27 => 103 | 28 => 104 | 29 => 105 | 30 => 106 | 31 => 108 | n => n, fun | 26 => 3 | 28 => 100 | 24 => 22 | 0 => 0 | 3 => 3 | 37 => 116 | 48 => 131 | 50 => 133 | 4 => 4 | 40 => 124 | 39 => 123 | 45 => 128 | 5 => 5 | 9 => 9 | 51 => 139 | 55 => 88 | 57 => 145 | 58 => 146 | 33 => 42 | n => n, fun | n => n⟩
theorem yi : Go.Proofs.SlLaysZI.n6 Try.prog qh := {
 f6 := ⟨"slices.Sorted[int]", by kernel_rfl, Try.func57.trans (congrArg some (by kernel_rfl))⟩,
 f8 := ⟨"slices.Collect[int]", by kernel_rfl, Try.func80.trans (congrArg some (by kernel_rfl))⟩,
 f11 := ⟨"slices.AppendSeq[[]int,int]", by kernel_rfl, Try.func98.trans (congrArg some (by kernel_rfl))⟩,
 mixed := by kernel_rfl,
 t0 := Try.underlying0,
 a0 := Try.isAgg0,
 z0 := Try.sizeOf0,
 v0 := Try.zeroValue0,
 t24 := Try.underlying22,
 a24 := Try.isAgg22,
 z24 := Try.sizeOf22,
 v24 := Try.zeroValue22,
 t26 := Try.underlying3,
 a26 := Try.isAgg3,
 z26 := Try.sizeOf3,
 v26 := Try.zeroValue3,
 t28 := Try.underlying100,
 a28 := Try.isAgg100,
 z28 := Try.sizeOf100,
 v28 := Try.zeroValue100,
 i26 := by kernel_rfl }
section
open Go.RowKit Go.Shelf Go.Maps Go.Sort Go.Proofs
/- the iterator of slices.Values at this program -/
set_option maxRecDepth 100000 in
set_option maxHeartbeats 2000000 in
theorem UY (n l Bs : Nat) (hn : 1 ≤ n) (W0 : World) (b off len cap : Nat) (zs : List Int) (hlen : zs.length = len) (hreach : len * 8 ≤ 140737488351232) (hb : b < W0.heap.size) (J : List Int → World → Prop)
 (hJ : ∀ s W1, J s W1 → Below W0.heap.size W0 W1)
 (hY : ∀ pre x W1, J pre W1 → pre.length < zs.length → YieldAt Fence.wide (n - 1) Try.prog l #[encZ x] W1 fun e W' => e = .returned (.bool true) ∧ J (pre ++ [x]) W' ∧ KeepsWalks W1 W')
 (W : World) (hBs : W.cell? ⟨Bs, 0, none⟩ = some (.slice (some ⟨b, off, none⟩) len cap)) (hc : ∀ j, j < len → W0.cell? ⟨b, off + j, none⟩ = some (.int .i64 (zs[j]?.getD 0))) (h0 : J [] W) :
 CallsIn Fence.wide n Try.prog 81 #[.func (.yield l) #[] #[], .pointer (some ⟨Bs, 0, none⟩)] W fun e W' => (∃ v, e = .returned v) ∧ J zs W' := by
 have step : ∀ k, k < zs.length → zs.take k ++ [zs[k]?.getD 0] = zs.take (k + 1) := fun k hk => by
  rw [List.take_succ_eq_append_getElem hk]; simp [hk]
 refine callsIn_of_wp Try.func81 rfl trivial ?_ rfl
 simp only [Try.ntmps81, List.size_toArray, List.length_cons, List.length_nil, Nat.reduceAdd, Nat.reduceSub, Array.replicate_succ, Array.replicate_zero, List.push_toArray, List.append_toArray, List.nil_append, List.cons_append]
 gi_wp2
 gi_loopw [7] (fun i wr => ∃ k : Nat, k ≤ len ∧ i = .int .i64 k ∧ J (zs.take k) wr)
  (fun i _ => len - (intOf i).toNat)
 case atStart => exact ⟨0, Nat.zero_le _, rfl, h0⟩
 case round =>
  obtain ⟨k, hk, rfl, hJs⟩ := hrel
  by_cases hlt : k < len
  · have hcx : wr.cell? ⟨b, off + k, none⟩ = some (.int .i64 (zs[k]?.getD 0)) := ((hJ _ _ hJs).cell (p := ⟨b, off + k, none⟩) hb).trans (hc k hlt)
    have st := step k (by omega)
    generalize zs[k]?.getD 0 = x at hcx st
    obtain ⟨fn, tmps, assign, body, hy, hR⟩ := hY _ x wr hJs (by rw [List.length_take]; omega)
    clear step
    gi_wp2
    refine hR.mono ?_
    rintro e W3 ⟨rfl, hJ3, -⟩
    gi_wp2
    go_roundw
    case rel => exact ⟨k + 1, by omega, by simp, by rw [← st]; exact hJ3⟩
    case measure => simp [intOf]; omega
  · obtain rfl : k = len := by omega
    gi_wp2
    go_end0
    exact ⟨⟨_, rfl⟩, by rw [← hlen, List.take_length] at hJs; exact hJs⟩
set_option maxRecDepth 100000 in
set_option maxHeartbeats 1000000 in
theorem UZ (n l Bs : Nat) (p : Option Addr) (cap : Nat) (J : List Int → World → Prop) (W : World) (hBs : W.cell? ⟨Bs, 0, none⟩ = some (.slice p 0 cap)) (h0 : J [] W) :
 CallsIn Fence.wide n Try.prog 81 #[.func (.yield l) #[] #[], .pointer (some ⟨Bs, 0, none⟩)] W fun e W' => (∃ v, e = .returned v) ∧ J [] W' := by
 refine callsIn_of_wp Try.func81 rfl trivial ?_ rfl
 simp only [Try.ntmps81, List.size_toArray, List.length_cons, List.length_nil, Nat.reduceAdd, Nat.reduceSub, Array.replicate_succ, Array.replicate_zero, List.push_toArray, List.append_toArray, List.nil_append, List.cons_append]
 gi_wp2
 gi_loopw [7] (fun i wr => i = .int .i64 0 ∧ J [] wr) (fun _ _ => 0)
 case atStart => exact ⟨rfl, h0⟩
 case round =>
  obtain ⟨rfl, hJs⟩ := hrel
  gi_wp2
  go_end0
  exact ⟨⟨_, rfl⟩, hJs⟩
theorem Jv : Fg Try.prog 81 := by
 intro n Bs sv zs w hn hreach hBs hcell hI l J W hW hJ hY h0
 have hc' := (hW.cell (p := ⟨Bs, 0, none⟩) hBs).trans hcell
 rcases hI with ⟨p, cap, rfl, rfl⟩ | ⟨b, off, cap, rfl, hb, hcs⟩
 · exact UZ n l Bs p cap J W hc' h0
 · exact UY n l Bs hn w b off zs.length cap zs rfl hreach hb J hJ hY W hc' hcs h0
end
theorem DG : ∀ j, Names.ρ 260 = some j → nQ Try.prog j [2, N.aK] := fun j hj => by
 have e : (Names.ρ 260 : Option Nat) = some 57 := by kernel_rfl
 rw [e] at hj; cases hj; exact vH yi w7 (by kernel_rfl) (Go.Proofs.enters_of Try.func44 (by kernel_rfl) rfl) (by kernel_rfl) (Go.Proofs.enters_of Try.func81 (by kernel_rfl) rfl) Jv
theorem DH : ∀ x ∈ Ju, ∀ j, Names.ρ x.1 = some j → nQ Try.prog j x.2 := by
 intro x hx
 simp only [Ju, List.mem_cons, List.not_mem_nil, or_false] at hx
 rcases hx with rfl | rfl
 · exact DF
 · exact DG
end Go.Proofs.Ytafioeehabcnhaa
