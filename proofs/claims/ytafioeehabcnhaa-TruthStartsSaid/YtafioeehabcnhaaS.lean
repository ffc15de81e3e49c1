/- MADE BY PROGRAM (lib.py): the numbers that the functions have in this program, and the check of each one. -/
import Derived.Test.YtafioeehabcnhaaProg
import Derived.Test.YtafioeehabcnhaaZPP
import Derived.KernelRfl
set_option linter.all false
set_option maxRecDepth 100000
namespace Go.Proofs.Ytafioeehabcnhaa
open Go.Ev
def real : List (Option Nat) := [none, some 6, none, some 8, some 9, none, none, none, none, some 13, some 15, none, some 20, none, none, some 14, some 18, none, none, none, none, none, none, some 16, none, none, none, none, some 64, none, some 63, none, none, none, none, none, none, none, none, none, none, none, none, none, none, none, none, none, none, some 31, none, some 43, none, none, some 82, none, none, none, none, none, none, none, some 27, none, none, none, some 56, some 72, none, none, none, some 30, none, none, none, none, none, none, none, none, none, none, none, none, none, none, none, none, none, none, none, none, none, none, none, none, none, none, none, none, none, none, none, none, none, some 53, none, none, none, none, none, none, none, none, some 65, none, none, none, none, none, none, none, none, none, none, none, none, none, none, none, none, none, none, none, none, none, none, none, none, none, none, none, none, none, none, none, none, none, none, none, none, none, none, none, none, none, none, none, none, none, none, none, none, none, none, none, none, some 54, none, none, none, none, none, some 78, none, none, none, some 97, none, none, none, none, none, none, none, none, none, none, none, none, none, none, none, none, none, none, none, none, none, none, none, none, none, none, some 62, none, none, none, none, none, none, some 67, some 83, some 99, some 100, none, none, none, none, none, none, none, none, none, none, none, none, none, none, none, none, none, none, none, none, none, none, none, none, none, none, some 44, none, none, none, none, none, none, none, none, none, none, none, none, none, none, none, none, none, none, some 57, some 58, none, none, none, none, none, some 81, none, none, none, none, none, none, none, none, none, none, none, none, none, none, none, none, none, none, none, none, none, none, none, none, none, none, none, none, none, none, none, none, none, none, none, none, none, none, none, none, none, none, none, none, none, none, none, none, none, none, none, none, none, none, none, none, none, none, none, some 66, none, none, some 59, some 60, none, none, some 3, none, none, some 7, some 10, some 11, some 12, some 17, some 19, some 21, some 22, none, none, none, none, some 28, some 29, some 32, some 33, some 34, some 35, some 36, some 37, some 38, some 39, some 40, some 41, some 42, none, none, none, none, none, none, none, some 52, some 55, some 61, some 68, some 69, some 70, some 71, none, none, none, some 79, some 84, some 34, none, some 34]
def tab : List (Option Go.Ev.Fn) := [none, some K.dn, none, some K.dY, some K.bh, none, none, none, none, some K.az, some K.aW, none, some K.dZ, none, none, some K.a8, some K.bw, none, none, none, none, none, none, some K.dC, none, none, none, none, some K.cJ, none, some K.ec, none, none, none, none, none, none, none, none, none, none, none, none, none, none, none, none, none, none, some K.av, none, some K.aN, none, none, some K.cV, none, none, none, none, none, none, none, some K.aQ, none, none, none, some K.aE, some K.a7, none, none, none, some K.ba, none, none, none, none, none, none, none, none, none, none, none, none, none, none, none, none, none, none, none, none, none, none, none, none, none, none, none, none, none, none, none, none, none, some K.bU, none, none, none, none, none, none, none, none, some K.dq, none, none, none, none, none, none, none, none, none, none, none, none, none, none, none, none, none, none, none, none, none, none, none, none, none, none, none, none, none, none, none, none, none, none, none, none, none, none, none, none, none, none, none, none, none, none, none, none, none, none, none, none, some K.cY, none, none, none, none, none, some K.dt, none, none, none, some K.cq, none, none, none, none, none, none, none, none, none, none, none, none, none, none, none, none, none, none, none, none, none, none, none, none, none, none, some K.ai, none, none, none, none, none, none, some K.eK, some K.fh, some K.fj, some K.eu, none, none, none, none, none, none, none, none, none, none, none, none, none, none, none, none, none, none, none, none, none, none, none, none, none, none, some K.bf, none, none, none, none, none, none, none, none, none, none, none, none, none, none, none, none, none, none, some K.bo, some K.aJ, none, none, none, none, none, some K.aA, none, none, none, none, none, none, none, none, none, none, none, none, none, none, none, none, none, none, none, none, none, none, none, none, none, none, none, none, none, none, none, none, none, none, none, none, none, none, none, none, none, none, none, none, none, none, none, none, none, none, none, none, none, none, none, none, none, none, none, some K.bI, none, none, some K.ak, some K.ao, none, none, some K.aD, none, none, some K.cK, some K.aM, some K.aU, some K.aR, some K.cj, some K.dM, some K.dQ, some K.dR, none, none, none, none, some K.ez, some K.aX, some K.bD, some K.bW, some K.cg, some K.b7, some K.bz, some K.du, some K.dv, some K.cD, some K.cE, some K.cL, some K.eB, none, none, none, none, none, none, none, some K.aK, some K.ae, some K.aj, some K.cF, some K.au, some K.cG, some K.cH, none, none, none, some K.ah, some K.ay, some K.bL, none, some K.bX]
instance names : Names := ⟨fun f => (real[f]?).join⟩
instance lib : Lib := ⟨fun f => (tab[f]?).join⟩
instance has1 : bq := ⟨rfl, rfl, rfl, rfl, rfl, rfl, rfl, rfl, rfl, rfl, rfl⟩
instance has2 : bu := ⟨rfl, rfl, rfl, rfl, rfl, rfl, rfl⟩
instance has3 : dw := ⟨⟩
instance has4 : dr := ⟨rfl, rfl⟩
instance has5 : fe := ⟨⟩
instance has6 : c9 := ⟨rfl⟩
instance has7 : c8 := ⟨rfl, rfl⟩
instance has8 : ew := ⟨⟩
instance has9 : dU := ⟨rfl, rfl, rfl, rfl, rfl⟩
instance has10 : cC := ⟨rfl⟩
instance has11 : cZ := ⟨rfl, rfl, rfl⟩
instance has12 : fM := ⟨⟩
instance has13 : fN := ⟨⟩
instance has14 : kB := ⟨⟩
instance has15 : iX := ⟨rfl, rfl, rfl⟩
instance has16 : jo := ⟨rfl, rfl, rfl, rfl, rfl, rfl, rfl, rfl, rfl⟩
instance has17 : gM := ⟨rfl, rfl, rfl, rfl, rfl, rfl, rfl, rfl, rfl, rfl, rfl, rfl, rfl⟩
instance has18 : iS := ⟨rfl, rfl, rfl, rfl, rfl, rfl, rfl, rfl, rfl, rfl, rfl⟩
theorem si : bj Try.prog Try.f6 K.dn = true := by kernel_rfl
theorem tU : bj Try.prog Try.f8 K.dY = true := by kernel_rfl
theorem nq : bj Try.prog Try.f9 K.bh = true := by kernel_rfl
theorem ns : bj Try.prog Try.f13 K.az = true := by kernel_rfl
theorem ph : bj Try.prog Try.f15 K.aW = true := by kernel_rfl
theorem tV : bj Try.prog Try.f20 K.dZ = true := by kernel_rfl
theorem oZ : bj Try.prog Try.f14 K.a8 = true := by kernel_rfl
theorem nv : bj Try.prog Try.f18 K.bw = true := by kernel_rfl
theorem wt : bj Try.prog Try.f16 K.dC = true := by kernel_rfl
theorem qz : bj Try.prog Try.f64 K.cJ = true := by kernel_rfl
theorem tW : bj Try.prog Try.f63 K.ec = true := by kernel_rfl
theorem fD : bj Try.prog Try.f31 K.av = true := by kernel_rfl
theorem gP : bj Try.prog Try.f43 K.aN = true := by kernel_rfl
theorem sj : bj Try.prog Try.f82 K.cV = true := by kernel_rfl
theorem ny : bj Try.prog Try.f27 K.aQ = true := by kernel_rfl
theorem gq : bj Try.prog Try.f56 K.aE = true := by kernel_rfl
theorem iY : bj Try.prog Try.f72 K.a7 = true := by kernel_rfl
theorem wu : bj Try.prog Try.f30 K.ba = true := by kernel_rfl
theorem pj : bj Try.prog Try.f53 K.bU = true := by kernel_rfl
theorem sk : bj Try.prog Try.f65 K.dq = true := by kernel_rfl
theorem sn : bj Try.prog Try.f54 K.cY = true := by kernel_rfl
theorem so : bj Try.prog Try.f78 K.dt = true := by kernel_rfl
theorem qA : bj Try.prog Try.f97 K.cq = true := by kernel_rfl
theorem iZ : bj Try.prog Try.f62 K.ai = true := by kernel_rfl
theorem tX : bj Try.prog Try.f67 K.eK = true := by kernel_rfl
theorem tY : bj Try.prog Try.f83 K.fh = true := by kernel_rfl
theorem tZ : bj Try.prog Try.f99 K.fj = true := by kernel_rfl
theorem sq : bj Try.prog Try.f100 K.eu = true := by kernel_rfl
theorem jB : bj Try.prog Try.f44 K.bf = true := by kernel_rfl
theorem kG : bj Try.prog Try.f57 K.bo = true := by kernel_rfl
theorem iT : bj Try.prog Try.f58 K.aJ = true := by kernel_rfl
theorem gQ : bj Try.prog Try.f81 K.aA = true := by kernel_rfl
theorem nz : bj Try.prog Try.f66 K.bI = true := by kernel_rfl
theorem eE : bj Try.prog Try.f59 K.ak = true := by kernel_rfl
theorem eP : bj Try.prog Try.f60 K.ao = true := by kernel_rfl
theorem kH : bj Try.prog Try.f3 K.aD = true := by kernel_rfl
theorem qB : bj Try.prog Try.f7 K.cK = true := by kernel_rfl
theorem kI : bj Try.prog Try.f10 K.aM = true := by kernel_rfl
theorem qC : bj Try.prog Try.f11 K.aU = true := by kernel_rfl
theorem qD : bj Try.prog Try.f12 K.aR = true := by kernel_rfl
theorem sr : bj Try.prog Try.f17 K.cj = true := by kernel_rfl
theorem qE : bj Try.prog Try.f19 K.dM = true := by kernel_rfl
theorem su : bj Try.prog Try.f21 K.dQ = true := by kernel_rfl
theorem sw : bj Try.prog Try.f22 K.dR = true := by kernel_rfl
theorem sx : bj Try.prog Try.f28 K.ez = true := by kernel_rfl
theorem mA : bj Try.prog Try.f29 K.aX = true := by kernel_rfl
theorem o3 : bj Try.prog Try.f32 K.bD = true := by kernel_rfl
theorem pn : bj Try.prog Try.f33 K.bW = true := by kernel_rfl
theorem po : bj Try.prog Try.f34 K.cg = true := by kernel_rfl
theorem qF : bj Try.prog Try.f35 K.b7 = true := by kernel_rfl
theorem nB : bj Try.prog Try.f36 K.bz = true := by kernel_rfl
theorem sy : bj Try.prog Try.f37 K.du = true := by kernel_rfl
theorem sA : bj Try.prog Try.f38 K.dv = true := by kernel_rfl
theorem o4 : bj Try.prog Try.f39 K.cD = true := by kernel_rfl
theorem pq : bj Try.prog Try.f40 K.cE = true := by kernel_rfl
theorem qG : bj Try.prog Try.f41 K.cL = true := by kernel_rfl
theorem sB : bj Try.prog Try.f42 K.eB = true := by kernel_rfl
theorem kJ : bj Try.prog Try.f52 K.aK = true := by kernel_rfl
theorem cz : bj Try.prog Try.f55 K.ae = true := by kernel_rfl
theorem ef : bj Try.prog Try.f61 K.aj = true := by kernel_rfl
theorem o5 : bj Try.prog Try.f68 K.cF = true := by kernel_rfl
theorem di : bj Try.prog Try.f69 K.au = true := by kernel_rfl
theorem o6 : bj Try.prog Try.f70 K.cG = true := by kernel_rfl
theorem o7 : bj Try.prog Try.f71 K.cH = true := by kernel_rfl
theorem cO : bj Try.prog Try.f79 K.ah = true := by kernel_rfl
theorem dG : bj Try.prog Try.f84 K.ay = true := by kernel_rfl
theorem mB : bj Try.prog Try.f34 K.bL = true := by kernel_rfl
theorem mC : bj Try.prog Try.f34 K.bX = true := by kernel_rfl
theorem Mv : s7 Try.prog real tab :=
 ⟨trivial, ⟨⟨by kernel_rfl, aq Try.func6 si⟩, ⟨trivial, ⟨⟨by kernel_rfl, aq Try.func8 tU⟩, ⟨⟨by kernel_rfl, aq Try.func9 nq⟩, ⟨trivial, ⟨trivial, ⟨trivial, ⟨trivial, ⟨⟨by kernel_rfl, aq Try.func13 ns⟩, ⟨⟨by kernel_rfl, aq Try.func15 ph⟩, ⟨trivial, ⟨⟨by kernel_rfl, aq Try.func20 tV⟩, ⟨trivial, ⟨trivial, ⟨⟨by kernel_rfl, aq Try.func14 oZ⟩, ⟨⟨by kernel_rfl, aq Try.func18 nv⟩, ⟨trivial, ⟨trivial, ⟨trivial, ⟨trivial, ⟨trivial, ⟨trivial, ⟨⟨by kernel_rfl, aq Try.func16 wt⟩, ⟨trivial, ⟨trivial, ⟨trivial, ⟨trivial, ⟨⟨by kernel_rfl, aq Try.func64 qz⟩, ⟨trivial, ⟨⟨by kernel_rfl, aq Try.func63 tW⟩, ⟨trivial, ⟨trivial, ⟨trivial, ⟨trivial, ⟨trivial, ⟨trivial, ⟨trivial, ⟨trivial, ⟨trivial, ⟨trivial, ⟨trivial, ⟨trivial, ⟨trivial, ⟨trivial, ⟨trivial, ⟨trivial, ⟨trivial, ⟨trivial, ⟨⟨by kernel_rfl, aq Try.func31 fD⟩, ⟨trivial, ⟨⟨by kernel_rfl, aq Try.func43 gP⟩, ⟨trivial, ⟨trivial, ⟨⟨by kernel_rfl, aq Try.func82 sj⟩, ⟨trivial, ⟨trivial, ⟨trivial, ⟨trivial, ⟨trivial, ⟨trivial, ⟨trivial, ⟨⟨by kernel_rfl, aq Try.func27 ny⟩, ⟨trivial, ⟨trivial, ⟨trivial, ⟨⟨by kernel_rfl, aq Try.func56 gq⟩, ⟨⟨by kernel_rfl, aq Try.func72 iY⟩, ⟨trivial, ⟨trivial, ⟨trivial, ⟨⟨by kernel_rfl, aq Try.func30 wu⟩, ⟨trivial, ⟨trivial, ⟨trivial, ⟨trivial, ⟨trivial, ⟨trivial, ⟨trivial, ⟨trivial, ⟨trivial, ⟨trivial, ⟨trivial, ⟨trivial, ⟨trivial, ⟨trivial, ⟨trivial, ⟨trivial, ⟨trivial, ⟨trivial, ⟨trivial, ⟨trivial, ⟨trivial, ⟨trivial, ⟨trivial, ⟨trivial, ⟨trivial, ⟨trivial, ⟨trivial, ⟨trivial, ⟨trivial, ⟨trivial, ⟨trivial, ⟨trivial, ⟨trivial, ⟨⟨by kernel_rfl, aq Try.func53 pj⟩, ⟨trivial, ⟨trivial, ⟨trivial, ⟨trivial, ⟨trivial, ⟨trivial, ⟨trivial, ⟨trivial, ⟨⟨by kernel_rfl, aq Try.func65 sk⟩, ⟨trivial, ⟨trivial, ⟨trivial, ⟨trivial, ⟨trivial, ⟨trivial, ⟨trivial, ⟨trivial, ⟨trivial, ⟨trivial, ⟨trivial, ⟨trivial, ⟨trivial, ⟨trivial, ⟨trivial, ⟨trivial, ⟨trivial, ⟨trivial, ⟨trivial, ⟨trivial, ⟨trivial, ⟨trivial, ⟨trivial, ⟨trivial, ⟨trivial, ⟨trivial, ⟨trivial, ⟨trivial, ⟨trivial, ⟨trivial, ⟨trivial, ⟨trivial, ⟨trivial, ⟨trivial, ⟨trivial, ⟨trivial, ⟨trivial, ⟨trivial, ⟨trivial, ⟨trivial, ⟨trivial, ⟨trivial, ⟨trivial, ⟨trivial, ⟨trivial, ⟨trivial, ⟨trivial, ⟨trivial, ⟨trivial, ⟨trivial, ⟨trivial, ⟨trivial, ⟨⟨by kernel_rfl, aq Try.func54 sn⟩, ⟨trivial, ⟨trivial, ⟨trivial, ⟨trivial, ⟨trivial, ⟨⟨by kernel_rfl, aq Try.func78 so⟩, ⟨trivial, ⟨trivial, ⟨trivial, ⟨⟨by kernel_rfl, aq Try.func97 qA⟩, ⟨trivial, ⟨trivial, ⟨trivial, ⟨trivial, ⟨trivial, ⟨trivial, ⟨trivial, ⟨trivial, ⟨trivial, ⟨trivial, ⟨trivial, ⟨trivial, ⟨trivial, ⟨trivial, ⟨trivial, ⟨trivial, ⟨trivial, ⟨trivial, ⟨trivial, ⟨trivial, ⟨trivial, ⟨trivial, ⟨trivial, ⟨trivial, ⟨trivial, ⟨trivial, ⟨⟨by kernel_rfl, aq Try.func62 iZ⟩, ⟨trivial, ⟨trivial, ⟨trivial, ⟨trivial, ⟨trivial, ⟨trivial, ⟨⟨by kernel_rfl, aq Try.func67 tX⟩, ⟨⟨by kernel_rfl, aq Try.func83 tY⟩, ⟨⟨by kernel_rfl, aq Try.func99 tZ⟩, ⟨⟨by kernel_rfl, aq Try.func100 sq⟩, ⟨trivial, ⟨trivial, ⟨trivial, ⟨trivial, ⟨trivial, ⟨trivial, ⟨trivial, ⟨trivial, ⟨trivial, ⟨trivial, ⟨trivial, ⟨trivial, ⟨trivial, ⟨trivial, ⟨trivial, ⟨trivial, ⟨trivial, ⟨trivial, ⟨trivial, ⟨trivial, ⟨trivial, ⟨trivial, ⟨trivial, ⟨trivial, ⟨trivial, ⟨trivial, ⟨⟨by kernel_rfl, aq Try.func44 jB⟩, ⟨trivial, ⟨trivial, ⟨trivial, ⟨trivial, ⟨trivial, ⟨trivial, ⟨trivial, ⟨trivial, ⟨trivial, ⟨trivial, ⟨trivial, ⟨trivial, ⟨trivial, ⟨trivial, ⟨trivial, ⟨trivial, ⟨trivial, ⟨trivial, ⟨⟨by kernel_rfl, aq Try.func57 kG⟩, ⟨⟨by kernel_rfl, aq Try.func58 iT⟩, ⟨trivial, ⟨trivial, ⟨trivial, ⟨trivial, ⟨trivial, ⟨⟨by kernel_rfl, aq Try.func81 gQ⟩, ⟨trivial, ⟨trivial, ⟨trivial, ⟨trivial, ⟨trivial, ⟨trivial, ⟨trivial, ⟨trivial, ⟨trivial, ⟨trivial, ⟨trivial, ⟨trivial, ⟨trivial, ⟨trivial, ⟨trivial, ⟨trivial, ⟨trivial, ⟨trivial, ⟨trivial, ⟨trivial, ⟨trivial, ⟨trivial, ⟨trivial, ⟨trivial, ⟨trivial, ⟨trivial, ⟨trivial, ⟨trivial, ⟨trivial, ⟨trivial, ⟨trivial, ⟨trivial, ⟨trivial, ⟨trivial, ⟨trivial, ⟨trivial, ⟨trivial, ⟨trivial, ⟨trivial, ⟨trivial, ⟨trivial, ⟨trivial, ⟨trivial, ⟨trivial, ⟨trivial, ⟨trivial, ⟨trivial, ⟨trivial, ⟨trivial, ⟨trivial, ⟨trivial, ⟨trivial, ⟨trivial, ⟨trivial, ⟨trivial, ⟨trivial, ⟨trivial, ⟨trivial, ⟨trivial, ⟨⟨by kernel_rfl, aq Try.func66 nz⟩, ⟨trivial, ⟨trivial, ⟨⟨by kernel_rfl, aq Try.func59 eE⟩, ⟨⟨by kernel_rfl, aq Try.func60 eP⟩, ⟨trivial, ⟨trivial, ⟨⟨by kernel_rfl, aq Try.func3 kH⟩, ⟨trivial, ⟨trivial, ⟨⟨by kernel_rfl, aq Try.func7 qB⟩, ⟨⟨by kernel_rfl, aq Try.func10 kI⟩, ⟨⟨by kernel_rfl, aq Try.func11 qC⟩, ⟨⟨by kernel_rfl, aq Try.func12 qD⟩, ⟨⟨by kernel_rfl, aq Try.func17 sr⟩, ⟨⟨by kernel_rfl, aq Try.func19 qE⟩, ⟨⟨by kernel_rfl, aq Try.func21 su⟩, ⟨⟨by kernel_rfl, aq Try.func22 sw⟩, ⟨trivial, ⟨trivial, ⟨trivial, ⟨trivial, ⟨⟨by kernel_rfl, aq Try.func28 sx⟩, ⟨⟨by kernel_rfl, aq Try.func29 mA⟩, ⟨⟨by kernel_rfl, aq Try.func32 o3⟩, ⟨⟨by kernel_rfl, aq Try.func33 pn⟩, ⟨⟨by kernel_rfl, aq Try.func34 po⟩, ⟨⟨by kernel_rfl, aq Try.func35 qF⟩, ⟨⟨by kernel_rfl, aq Try.func36 nB⟩, ⟨⟨by kernel_rfl, aq Try.func37 sy⟩, ⟨⟨by kernel_rfl, aq Try.func38 sA⟩, ⟨⟨by kernel_rfl, aq Try.func39 o4⟩, ⟨⟨by kernel_rfl, aq Try.func40 pq⟩, ⟨⟨by kernel_rfl, aq Try.func41 qG⟩, ⟨⟨by kernel_rfl, aq Try.func42 sB⟩, ⟨trivial, ⟨trivial, ⟨trivial, ⟨trivial, ⟨trivial, ⟨trivial, ⟨trivial, ⟨⟨by kernel_rfl, aq Try.func52 kJ⟩, ⟨⟨by kernel_rfl, aq Try.func55 cz⟩, ⟨⟨by kernel_rfl, aq Try.func61 ef⟩, ⟨⟨by kernel_rfl, aq Try.func68 o5⟩, ⟨⟨by kernel_rfl, aq Try.func69 di⟩, ⟨⟨by kernel_rfl, aq Try.func70 o6⟩, ⟨⟨by kernel_rfl, aq Try.func71 o7⟩, ⟨trivial, ⟨trivial, ⟨trivial, ⟨⟨by kernel_rfl, aq Try.func79 cO⟩, ⟨⟨by kernel_rfl, aq Try.func84 dG⟩, ⟨⟨by kernel_rfl, aq Try.func34 mB⟩, ⟨trivial, ⟨⟨by kernel_rfl, aq Try.func34 mC⟩, trivial⟩⟩⟩⟩⟩⟩⟩⟩⟩⟩⟩⟩⟩⟩⟩⟩⟩⟩⟩⟩⟩⟩⟩⟩⟩⟩⟩⟩⟩⟩⟩⟩⟩⟩⟩⟩⟩⟩⟩⟩⟩⟩⟩⟩⟩⟩⟩⟩⟩⟩⟩⟩⟩⟩⟩⟩⟩⟩⟩⟩⟩⟩⟩⟩⟩⟩⟩⟩⟩⟩⟩⟩⟩⟩⟩⟩⟩⟩⟩⟩⟩⟩⟩⟩⟩⟩⟩⟩⟩⟩⟩⟩⟩⟩⟩⟩⟩⟩⟩⟩⟩⟩⟩⟩⟩⟩⟩⟩⟩⟩⟩⟩⟩⟩⟩⟩⟩⟩⟩⟩⟩⟩⟩⟩⟩⟩⟩⟩⟩⟩⟩⟩⟩⟩⟩⟩⟩⟩⟩⟩⟩⟩⟩⟩⟩⟩⟩⟩⟩⟩⟩⟩⟩⟩⟩⟩⟩⟩⟩⟩⟩⟩⟩⟩⟩⟩⟩⟩⟩⟩⟩⟩⟩⟩⟩⟩⟩⟩⟩⟩⟩⟩⟩⟩⟩⟩⟩⟩⟩⟩⟩⟩⟩⟩⟩⟩⟩⟩⟩⟩⟩⟩⟩⟩⟩⟩⟩⟩⟩⟩⟩⟩⟩⟩⟩⟩⟩⟩⟩⟩⟩⟩⟩⟩⟩⟩⟩⟩⟩⟩⟩⟩⟩⟩⟩⟩⟩⟩⟩⟩⟩⟩⟩⟩⟩⟩⟩⟩⟩⟩⟩⟩⟩⟩⟩⟩⟩⟩⟩⟩⟩⟩⟩⟩⟩⟩⟩⟩⟩⟩⟩⟩⟩⟩⟩⟩⟩⟩⟩⟩⟩⟩⟩⟩⟩⟩⟩⟩⟩⟩⟩⟩⟩⟩⟩⟩⟩⟩⟩⟩⟩⟩⟩⟩⟩⟩⟩⟩⟩⟩⟩⟩⟩⟩⟩⟩⟩⟩⟩⟩⟩⟩⟩⟩⟩⟩⟩⟩⟩⟩⟩⟩⟩⟩⟩⟩⟩⟩⟩⟩⟩⟩⟩⟩⟩⟩⟩⟩⟩⟩⟩⟩⟩⟩⟩⟩⟩⟩⟩⟩⟩⟩⟩⟩⟩⟩⟩⟩⟩⟩⟩⟩⟩⟩⟩⟩⟩⟩⟩⟩⟩⟩⟩⟩
def GI : List (Nat × List Nat) := [(241, [1]), (260, [2, N.aA])]
def sC : Go.Shelf.Ren := ⟨fun | 189 => 44 | 125 => 74 | 257 => 73 | 128 => 94 | 129 => 95 | 294 => 85 | 295 => 86 | 296 => 87 | 297 => 88 | 298 => 89 | 299 => 90 | 216 => 91 | 300 => 92 | 301 => 93 | 328 => 101 | 329 => 102 | 330 => 103 | 331 => 104 | 332 => 105 | 215 => 106 | 343 => 108 | n => n, fun | 28 => 22 | 3 => 3 | 46 => 116 | 0 => 0 | 51 => 131 | 53 => 133 | 4 => 4 | 183 => 124 | 182 => 123 | 131 => 128 | 5 => 5 | 9 => 9 | 218 => 139 | 222 => 88 | 228 => 145 | 229 => 146 | n => n, fun | n => n⟩
theorem vg : Go.Proofs.Lays.n189 Try.prog sC := {
 mixed := by kernel_rfl,
 f125 := Try.func74.trans (congrArg some (by kernel_rfl)),
 f128 := Try.func94.trans (congrArg some (by kernel_rfl)),
 f129 := Try.func95.trans (congrArg some (by kernel_rfl)),
 f189 := Try.func44.trans (congrArg some (by kernel_rfl)),
 f215 := Try.func106.trans (congrArg some (by kernel_rfl)),
 f216 := Try.func91.trans (congrArg some (by kernel_rfl)),
 f257 := Try.func73.trans (congrArg some (by kernel_rfl)),
 f294 := Try.func85.trans (congrArg some (by kernel_rfl)),
 f295 := Try.func86.trans (congrArg some (by kernel_rfl)),
 f296 := Try.func87.trans (congrArg some (by kernel_rfl)),
 f297 := Try.func88.trans (congrArg some (by kernel_rfl)),
 f298 := Try.func89.trans (congrArg some (by kernel_rfl)),
 f299 := Try.func90.trans (congrArg some (by kernel_rfl)),
 f300 := Try.func92.trans (congrArg some (by kernel_rfl)),
 f301 := Try.func93.trans (congrArg some (by kernel_rfl)),
 f328 := Try.func101.trans (congrArg some (by kernel_rfl)),
 f329 := Try.func102.trans (congrArg some (by kernel_rfl)),
 f330 := Try.func103.trans (congrArg some (by kernel_rfl)),
 f331 := Try.func104.trans (congrArg some (by kernel_rfl)),
 f332 := Try.func105.trans (congrArg some (by kernel_rfl)),
 f343 := Try.func108.trans (congrArg some (by kernel_rfl)),
 t0 := Try.underlying0,
 a0 := Try.isAgg0,
 z0 := Try.sizeOf0,
 v0 := Try.zeroValue0,
 t3 := Try.underlying3,
 a3 := Try.isAgg3,
 z3 := Try.sizeOf3,
 v3 := Try.zeroValue3,
 t4 := Try.underlying4,
 a4 := Try.isAgg4,
 z4 := Try.sizeOf4,
 v4 := Try.zeroValue4,
 t5 := Try.underlying5,
 a5 := Try.isAgg5,
 z5 := Try.sizeOf5,
 v5 := Try.zeroValue5,
 t9 := Try.underlying9,
 a9 := Try.isAgg9,
 z9 := Try.sizeOf9,
 v9 := Try.zeroValue9,
 t28 := Try.underlying22,
 a28 := Try.isAgg22,
 z28 := Try.sizeOf22,
 v28 := Try.zeroValue22,
 t46 := Try.underlying116,
 a46 := Try.isAgg116,
 z46 := Try.sizeOf116,
 v46 := Try.zeroValue116,
 t51 := Try.underlying131,
 a51 := Try.isAgg131,
 z51 := Try.sizeOf131,
 v51 := Try.zeroValue131,
 t53 := Try.underlying133,
 a53 := Try.isAgg133,
 z53 := Try.sizeOf133,
 v53 := Try.zeroValue133,
 t131 := Try.underlying128,
 a131 := Try.isAgg128,
 z131 := Try.sizeOf128,
 v131 := Try.zeroValue128,
 t182 := Try.underlying123,
 a182 := Try.isAgg123,
 z182 := Try.sizeOf123,
 v182 := Try.zeroValue123,
 t183 := Try.underlying124,
 a183 := Try.isAgg124,
 z183 := Try.sizeOf124,
 v183 := Try.zeroValue124,
 t218 := Try.underlying139,
 a218 := Try.isAgg139,
 z218 := Try.sizeOf139,
 v218 := Try.zeroValue139,
 t222 := Try.underlying88,
 a222 := Try.isAgg88,
 z222 := Try.sizeOf88,
 v222 := Try.zeroValue88,
 t228 := Try.underlying145,
 a228 := Try.isAgg145,
 z228 := Try.sizeOf145,
 v228 := Try.zeroValue145,
 t229 := Try.underlying146,
 a229 := Try.isAgg146,
 z229 := Try.sizeOf146,
 v229 := Try.zeroValue146 }
theorem Bh : ∀ j, Names.ρ 241 = some j → mK Try.prog j [1] := fun j hj => by
 have e : (Names.ρ 241 : Option Nat) = some 44 := by kernel_rfl
 rw [e] at hj; cases hj; exact yZ vg
def pt : Go.Shelf.Ren := ⟨fun | 6 => 57 | 8 => 80 | 9 => 44 | 11 => 98 | 13 => 74 | 12 => 73 | 23 => 94 | 24 => 95 | 14 => 85 | 15 => 86 | 16 => 87 | 17 => 88 | 18 => 89 | 19 => 90 | 20 => 91 | 21 => 92 | 22 => 93 | 25 => 101 | 26 => 102 | 27 => 103 | 28 => 104 | 29 => 105 | 30 => 106 | 31 => 108 | n => n, fun | 26 => 3 | 28 => 100 | 24 => 22 | 0 => 0 | 3 => 3 | 37 => 116 | 48 => 131 | 50 => 133 | 4 => 4 | 40 => 124 | 39 => 123 | 45 => 128 | 5 => 5 | 9 => 9 | 51 => 139 | 55 => 88 | 57 => 145 | 58 => 146 | 33 => 42 | n => n, fun | n => n⟩
theorem wx : Go.Proofs.SlLaysZI.n6 Try.prog pt := {
 f6 := ⟨"slices.Sorted[int]", by kernel_rfl, Try.func57.trans (congrArg some (by kernel_rfl))⟩,
 f8 := ⟨"slices.Collect[int]", by kernel_rfl, Try.func80.trans (congrArg some (by kernel_rfl))⟩,
 f11 := ⟨"slices.AppendSeq[[]int,int]", by kernel_rfl, Try.func98.trans (congrArg some (by kernel_rfl))⟩,
 mixed := by kernel_rfl,
 t0 := Try.underlying0,
 a0 := Try.isAgg0,
 z0 := Try.sizeOf0,
 v0 := Try.zeroValue0,
 t24 := Try.underlying22,
 a24 := Try.isAgg22,
 z24 := Try.sizeOf22,
 v24 := Try.zeroValue22,
 t26 := Try.underlying3,
 a26 := Try.isAgg3,
 z26 := Try.sizeOf3,
 v26 := Try.zeroValue3,
 t28 := Try.underlying100,
 a28 := Try.isAgg100,
 z28 := Try.sizeOf100,
 v28 := Try.zeroValue100,
 i26 := by kernel_rfl }
section
open Go.RowKit Go.Shelf Go.Maps Go.Sort Go.Proofs
/- the iterator of slices.Values at this program -/
set_option maxRecDepth 100000 in
set_option maxHeartbeats 2000000 in
theorem RS (n l Bs : Nat) (hn : 1 ≤ n) (W0 : World) (b off len cap : Nat) (zs : List Int) (hlen : zs.length = len) (hreach : len * 8 ≤ 140737488351232) (hb : b < W0.heap.size) (J : List Int → World → Prop)
 (hJ : ∀ s W1, J s W1 → Below W0.heap.size W0 W1)
 (hY : ∀ pre x W1, J pre W1 → pre.length < zs.length → YieldAt Fence.wide (n - 1) Try.prog l #[encZ x] W1 fun e W' => e = .returned (.bool true) ∧ J (pre ++ [x]) W' ∧ KeepsWalks W1 W')
 (W : World) (hBs : W.cell? ⟨Bs, 0, none⟩ = some (.slice (some ⟨b, off, none⟩) len cap)) (hc : ∀ j, j < len → W0.cell? ⟨b, off + j, none⟩ = some (.int .i64 (zs[j]?.getD 0))) (h0 : J [] W) :
 CallsIn Fence.wide n Try.prog 81 #[.func (.yield l) #[] #[], .pointer (some ⟨Bs, 0, none⟩)] W fun e W' => (∃ v, e = .returned v) ∧ J zs W' := by
 have step : ∀ k, k < zs.length → zs.take k ++ [zs[k]?.getD 0] = zs.take (k + 1) := fun k hk => by
  rw [List.take_succ_eq_append_getElem hk]; simp [hk]
 refine callsIn_of_wp Try.func81 rfl trivial ?_ rfl
 simp only [Try.ntmps81, List.size_toArray, List.length_cons, List.length_nil, Nat.reduceAdd, Nat.reduceSub, Array.replicate_succ, Array.replicate_zero, List.push_toArray, List.append_toArray, List.nil_append, List.cons_append]
 gi_wp2
 gi_loopw [7] (fun i wr => ∃ k : Nat, k ≤ len ∧ i = .int .i64 k ∧ J (zs.take k) wr)
  (fun i _ => len - (intOf i).toNat)
 case atStart => exact ⟨0, Nat.zero_le _, rfl, h0⟩
 case round =>
  obtain ⟨k, hk, rfl, hJs⟩ := hrel
  by_cases hlt : k < len
  · have hcx : wr.cell? ⟨b, off + k, none⟩ = some (.int .i64 (zs[k]?.getD 0)) := ((hJ _ _ hJs).cell (p := ⟨b, off + k, none⟩) hb).trans (hc k hlt)
    have st := step k (by omega)
    generalize zs[k]?.getD 0 = x at hcx st
    obtain ⟨fn, tmps, assign, body, hy, hR⟩ := hY _ x wr hJs (by rw [List.length_take]; omega)
    clear step
    gi_wp2
    refine hR.mono ?_
    rintro e W3 ⟨rfl, hJ3, -⟩
    gi_wp2
    go_roundw
    case rel => exact ⟨k + 1, by omega, by simp, by rw [← st]; exact hJ3⟩
    case measure => simp [intOf]; omega
  · obtain rfl : k = len := by omega
    gi_wp2
    go_end0
    exact ⟨⟨_, rfl⟩, by rw [← hlen, List.take_length] at hJs; exact hJs⟩
set_option maxRecDepth 100000 in
set_option maxHeartbeats 1000000 in
theorem RT (n l Bs : Nat) (p : Option Addr) (cap : Nat) (J : List Int → World → Prop) (W : World) (hBs : W.cell? ⟨Bs, 0, none⟩ = some (.slice p 0 cap)) (h0 : J [] W) :
 CallsIn Fence.wide n Try.prog 81 #[.func (.yield l) #[] #[], .pointer (some ⟨Bs, 0, none⟩)] W fun e W' => (∃ v, e = .returned v) ∧ J [] W' := by
 refine callsIn_of_wp Try.func81 rfl trivial ?_ rfl
 simp only [Try.ntmps81, List.size_toArray, List.length_cons, List.length_nil, Nat.reduceAdd, Nat.reduceSub, Array.replicate_succ, Array.replicate_zero, List.push_toArray, List.append_toArray, List.nil_append, List.cons_append]
 gi_wp2
 gi_loopw [7] (fun i wr => i = .int .i64 0 ∧ J [] wr) (fun _ _ => 0)
 case atStart => exact ⟨rfl, h0⟩
 case round =>
  obtain ⟨rfl, hJs⟩ := hrel
  gi_wp2
  go_end0
  exact ⟨⟨_, rfl⟩, hJs⟩
theorem GJ : CP Try.prog 81 := by
 intro n Bs sv zs w hn hreach hBs hcell hI l J W hW hJ hY h0
 have hc' := (hW.cell (p := ⟨Bs, 0, none⟩) hBs).trans hcell
 rcases hI with ⟨p, cap, rfl, rfl⟩ | ⟨b, off, cap, rfl, hb, hcs⟩
 · exact RT n l Bs p cap J W hc' h0
 · exact RS n l Bs hn w b off zs.length cap zs rfl hreach hb J hJ hY W hc' hcs h0
end
theorem Bi : ∀ j, Names.ρ 260 = some j → mK Try.prog j [2, N.aA] := fun j hj => by
 have e : (Names.ρ 260 : Option Nat) = some 57 := by kernel_rfl
 rw [e] at hj; cases hj; exact tT wx vg (by kernel_rfl) (Go.Proofs.enters_of Try.func44 (by kernel_rfl) rfl) (by kernel_rfl) (Go.Proofs.enters_of Try.func81 (by kernel_rfl) rfl) GJ
theorem Bj : ∀ x ∈ GI, ∀ j, Names.ρ x.1 = some j → mK Try.prog j x.2 := by
 intro x hx
 simp only [GI, List.mem_cons, List.not_mem_nil, or_false] at hx
 rcases hx with rfl | rfl
 · exact Bh
 · exact Bi
end Go.Proofs.Ytafioeehabcnhaa
