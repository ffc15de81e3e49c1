/- MADE BY PROGRAM (lib.py): the numbers that the functions have in this program, and the check of each one. -/
import Derived.Test.YtifghciaddehaaaGreatProg
import Derived.Test.YtifghciaddehaaaGreatZPG
import Derived.KernelRfl
set_option linter.all false
set_option maxRecDepth 100000
namespace Go.Proofs.YtifghciaddehaaaGreat
open Go.Ev
def real : List (Option Nat) := [none, some 7, none, some 9, some 10, none, none, none, none, some 14, some 15, none, some 18, none, none, some 23, none, none, none, some 28, none, none, none, some 32, none, none, none, none, some 41, none, none, none, none, none, none, some 63, some 64, none, none, none, none, none, none, none, some 71, none, none, some 55, none, some 50, none, some 39, none, some 79, some 83, none, some 98, some 99, some 85, none, none, none, none, none, none, some 104, some 81, some 82, some 119, some 120, some 121, some 75, none, some 132, some 133, some 144, some 124, some 146, none, none, none, none, none, none, none, none, none, none, none, none, none, none, none, none, none, none, none, none, none, none, none, none, none, none, none, some 49, none, none, none, none, none, none, none, none, none, none, none, none, none, none, none, none, none, none, none, none, none, none, none, none, none, none, none, none, none, none, none, none, none, none, none, none, none, none, none, none, none, none, none, none, none, none, none, none, none, none, none, none, none, none, none, none, none, none, none, none, none, some 48, none, none, none, none, none, some 92, none, none, none, some 125, none, none, none, none, none, none, none, none, none, none, none, none, some 112, none, none, none, some 77, none, none, none, none, some 114, some 115, some 113, some 108, none, some 37, none, none, none, some 139, some 140, some 138, some 155, some 168, some 151, some 174, none, none, none, none, none, none, none, none, none, none, none, none, none, none, none, none, none, none, none, none, none, none, none, none, none, none, some 117, none, none, none, none, none, none, none, none, none, none, none, none, none, none, none, some 74, none, none, some 105, some 106, some 107, some 109, some 110, some 111, none, some 135, some 136, some 137, some 154, none, none, none, none, none, none, none, none, none, none, none, none, none, none, none, none, none, none, some 76, none, none, none, none, some 34, none, none, none, none, none, none, none, none, none, none, none, none, none, some 76, none, none, none, none, none, none, none, none, none, none, none, none, none, none, none, none, none, none, some 19, none, none, some 52, some 53, none, none, none, none, none, none, none, none, none, none, none, none, none, none, none, none, none, none, none, none, none, none, none, none, none, none, none, none, none, none, none, none, none, none, none, none, none, none, none, none, none, none, none, none, none, none, none, none, none, none, none, none, none, none, none, none, none, none, none, none, none, none, none, none, none, none, none, none, none, none, none, none, none, none, none, none, none, none, none, none, none, none, none, none, none, some 4, none, none, some 8, some 12, some 17, none, some 24, some 25, none, none, some 33, some 35, some 36, some 38, none, none, none, some 51, some 54, some 56, some 57, none, none, none, none, some 78, some 80, none, none, none, none, none, none, some 93, some 94, none, some 116, some 118, none, none, some 126, some 127, some 128, some 129, some 130, some 131, some 141, none, some 147, some 148, some 149, some 150, some 152, some 167]
def tab : List (Option Go.Ev.Fn) := [none, some K.ec, none, some K.fA, some K.bL, none, none, none, none, some K.aD, some K.bu, none, some K.fX, none, none, some K.aW, none, none, none, some K.eH, none, none, none, some K.fE, none, none, none, none, some K.dD, none, none, none, none, none, none, some K.dN, some K.eI, none, none, none, none, none, none, none, some K.dO, none, none, some K.cP, none, some K.av, none, some K.az, none, some K.cZ, some K.eW, none, some K.dP, some K.eJ, some K.eK, none, none, none, none, none, none, some K.eL, some K.aF, some K.aU, some K.cu, some K.ax, some K.bR, some K.cV, none, some K.dV, some K.eX, some K.aA, some K.dQ, some K.fN, none, none, none, none, none, none, none, none, none, none, none, none, none, none, none, none, none, none, none, none, none, none, none, none, none, none, none, some K.bE, none, none, none, none, none, none, none, none, none, none, none, none, none, none, none, none, none, none, none, none, none, none, none, none, none, none, none, none, none, none, none, none, none, none, none, none, none, none, none, none, none, none, none, none, none, none, none, none, none, none, none, none, none, none, none, none, none, none, none, none, none, some K.bZ, none, none, none, none, none, some K.ed, none, none, none, some K.dj, none, none, none, none, none, none, none, none, none, none, none, none, some K.dS, none, none, none, some K.dT, none, none, none, none, some K.cF, some K.eY, some K.cW, some K.bf, none, some K.aH, none, none, none, some K.cG, some K.cy, some K.cH, some K.gS, some K.gT, some K.cD, some K.fO, none, none, none, none, none, none, none, none, none, none, none, none, none, none, none, none, none, none, none, none, none, none, none, none, none, none, some K.bF, none, none, none, none, none, none, none, none, none, none, none, none, none, none, none, some K.eP, none, none, some K.bo, some K.aP, some K.dU, some K.ba, some K.ai, some K.dz, none, some K.aG, some K.cI, some K.ak, some K.cmp_isNaN_int, none, none, none, none, none, none, none, none, none, none, none, none, none, none, none, none, none, none, some K.fH, none, none, none, none, some K.eQ, none, none, none, none, none, none, none, none, none, none, none, none, none, some K.c7, none, none, none, none, none, none, none, none, none, none, none, none, none, none, none, none, none, none, some K.bV, none, none, some K.au, some K.ay, none, none, none, none, none, none, none, none, none, none, none, none, none, none, none, none, none, none, none, none, none, none, none, none, none, none, none, none, none, none, none, none, none, none, none, none, none, none, none, none, none, none, none, none, none, none, none, none, none, none, none, none, none, none, none, none, none, none, none, none, none, none, none, none, none, none, none, none, none, none, none, none, none, none, none, none, none, none, none, none, none, none, none, none, none, some K.aO, none, none, some K.dG, some K.bM, some K.bO, none, some K.aI, some K.bk, none, none, some K.bS, some K.cA, some K.aK, some K.bG, none, none, none, some K.aQ, some K.dg, some K.aR, some K.bH, none, none, none, none, some K.eR, some K.bT, none, none, none, none, none, none, some K.eC, some K.gM, none, some K.bh, some K.bc, none, none, some K.ee, some K.dA, some K.aV, some K.aj, some K.bP, some K.dM, some K.bI, none, some K.bq, some K.ae, some K.ao, some K.aY, some K.fD, some K.ch]
instance names : Names := { ρ := fun f => (real[f]?).join }
instance lib : Lib := ⟨fun f => (tab[f]?).join⟩
instance has1 : bQ := ⟨rfl, rfl, rfl, rfl, rfl, rfl, rfl, rfl, rfl, rfl, rfl, rfl⟩
instance has2 : bC := ⟨rfl, rfl, rfl, rfl, rfl, rfl, rfl, rfl, rfl, rfl, rfl, rfl, rfl, rfl, rfl, rfl, rfl, rfl, rfl, rfl, rfl⟩
instance has3 : eE := ⟨⟩
instance has4 : eB := ⟨rfl⟩
instance has5 : gU := ⟨⟩
instance has6 : dW := ⟨rfl⟩
instance has7 : dR := ⟨rfl, rfl⟩
instance has8 : fP := ⟨rfl⟩
instance has9 : ez := ⟨rfl, rfl, rfl, rfl, rfl, rfl, rfl, rfl, rfl, rfl, rfl, rfl, rfl⟩
instance has10 : dF := ⟨rfl⟩
instance has11 : df := ⟨rfl, rfl, rfl, rfl, rfl, rfl, rfl, rfl, rfl, rfl, rfl⟩
instance has12 : iF := ⟨⟩
instance has13 : gK := ⟨rfl, rfl, rfl⟩
instance has14 : nH := ⟨⟩
instance has15 : kT := ⟨rfl, rfl, rfl⟩
instance has21 : gW := ⟨rfl, rfl, rfl, rfl, rfl, rfl, rfl, rfl, rfl, rfl, rfl, rfl, rfl⟩
instance has22 : gz := ⟨rfl, rfl, rfl, rfl, rfl, rfl, rfl, rfl, rfl, rfl, rfl, rfl, rfl, rfl, rfl⟩
instance has23 : kV := ⟨rfl, rfl, rfl, rfl, rfl⟩
theorem wW : aL Tryz.prog Tryz.f7 K.ec = true := by kernel_rfl
theorem yy : aL Tryz.prog Tryz.f9 K.fA = true := by kernel_rfl
theorem qR : aL Tryz.prog Tryz.f10 K.bL = true := by kernel_rfl
theorem qS : aL Tryz.prog Tryz.f14 K.aD = true := by kernel_rfl
theorem tj : aL Tryz.prog Tryz.f15 K.bu = true := by kernel_rfl
theorem yz : aL Tryz.prog Tryz.f18 K.fX = true := by kernel_rfl
theorem sN : aL Tryz.prog Tryz.f23 K.aW = true := by kernel_rfl
theorem ve : aL Tryz.prog Tryz.f28 K.eH = true := by kernel_rfl
theorem A0 : aL Tryz.prog Tryz.f32 K.fE = true := by kernel_rfl
theorem vf : aL Tryz.prog Tryz.f41 K.dD = true := by kernel_rfl
theorem tn : aL Tryz.prog Tryz.f63 K.dN = true := by kernel_rfl
theorem vg : aL Tryz.prog Tryz.f64 K.eI = true := by kernel_rfl
theorem tq : aL Tryz.prog Tryz.f71 K.dO = true := by kernel_rfl
theorem vh : aL Tryz.prog Tryz.f55 K.cP = true := by kernel_rfl
theorem im : aL Tryz.prog Tryz.f50 K.av = true := by kernel_rfl
theorem jK : aL Tryz.prog Tryz.f39 K.az = true := by kernel_rfl
theorem qT : aL Tryz.prog Tryz.f79 K.cZ = true := by kernel_rfl
theorem wX : aL Tryz.prog Tryz.f83 K.eW = true := by kernel_rfl
theorem tu : aL Tryz.prog Tryz.f98 K.dP = true := by kernel_rfl
theorem vi : aL Tryz.prog Tryz.f99 K.eJ = true := by kernel_rfl
theorem vj : aL Tryz.prog Tryz.f85 K.eK = true := by kernel_rfl
theorem vk : aL Tryz.prog Tryz.f104 K.eL = true := by kernel_rfl
theorem jf : aL Tryz.prog Tryz.f81 K.aF = true := by kernel_rfl
theorem kW : aL Tryz.prog Tryz.f82 K.aU = true := by kernel_rfl
theorem pj : aL Tryz.prog Tryz.f119 K.cu = true := by kernel_rfl
theorem et : aL Tryz.prog Tryz.f120 K.ax = true := by kernel_rfl
theorem mJ : aL Tryz.prog Tryz.f121 K.bR = true := by kernel_rfl
theorem A1 : aL Tryz.prog Tryz.f75 K.cV = true := by kernel_rfl
theorem vl : aL Tryz.prog Tryz.f132 K.dV = true := by kernel_rfl
theorem wY : aL Tryz.prog Tryz.f133 K.eX = true := by kernel_rfl
theorem eZ : aL Tryz.prog Tryz.f144 K.aA = true := by kernel_rfl
theorem tv : aL Tryz.prog Tryz.f124 K.dQ = true := by kernel_rfl
theorem wZ : aL Tryz.prog Tryz.f146 K.fN = true := by kernel_rfl
theorem tx : aL Tryz.prog Tryz.f49 K.bE = true := by kernel_rfl
theorem w5 : aL Tryz.prog Tryz.f48 K.bZ = true := by kernel_rfl
theorem w6 : aL Tryz.prog Tryz.f92 K.ed = true := by kernel_rfl
theorem vm : aL Tryz.prog Tryz.f125 K.dj = true := by kernel_rfl
theorem tz : aL Tryz.prog Tryz.f112 K.dS = true := by kernel_rfl
theorem tA : aL Tryz.prog Tryz.f77 K.dT = true := by kernel_rfl
theorem qU : aL Tryz.prog Tryz.f114 K.cF = true := by kernel_rfl
theorem w7 : aL Tryz.prog Tryz.f115 K.eY = true := by kernel_rfl
theorem sO : aL Tryz.prog Tryz.f113 K.cW = true := by kernel_rfl
theorem kX : aL Tryz.prog Tryz.f108 K.bf = true := by kernel_rfl
theorem kY : aL Tryz.prog Tryz.f37 K.aH = true := by kernel_rfl
theorem p9 : aL Tryz.prog Tryz.f139 K.cG = true := by kernel_rfl
theorem pn : aL Tryz.prog Tryz.f140 K.cy = true := by kernel_rfl
theorem qa : aL Tryz.prog Tryz.f138 K.cH = true := by kernel_rfl
theorem yA : aL Tryz.prog Tryz.f155 K.gS = true := by kernel_rfl
theorem yB : aL Tryz.prog Tryz.f168 K.gT = true := by kernel_rfl
theorem yC : aL Tryz.prog Tryz.f151 K.cD = true := by kernel_rfl
theorem w8 : aL Tryz.prog Tryz.f174 K.fO = true := by kernel_rfl
theorem lV : aL Tryz.prog Tryz.f117 K.bF = true := by kernel_rfl
theorem vn : aL Tryz.prog Tryz.f74 K.eP = true := by kernel_rfl
theorem nQ : aL Tryz.prog Tryz.f105 K.bo = true := by kernel_rfl
theorem kJ : aL Tryz.prog Tryz.f106 K.aP = true := by kernel_rfl
theorem tB : aL Tryz.prog Tryz.f107 K.dU = true := by kernel_rfl
theorem j9 : aL Tryz.prog Tryz.f109 K.ba = true := by kernel_rfl
theorem cX : aL Tryz.prog Tryz.f110 K.ai = true := by kernel_rfl
theorem sP : aL Tryz.prog Tryz.f111 K.dz = true := by kernel_rfl
theorem jL : aL Tryz.prog Tryz.f135 K.aG = true := by kernel_rfl
theorem qb : aL Tryz.prog Tryz.f136 K.cI = true := by kernel_rfl
theorem dq : aL Tryz.prog Tryz.f137 K.ak = true := by kernel_rfl
theorem sQ : aL Tryz.prog Tryz.f154 K.cmp_isNaN_int = true := by kernel_rfl
theorem vo : aL Tryz.prog Tryz.f76 K.fH = true := by kernel_rfl
theorem vq : aL Tryz.prog Tryz.f34 K.eQ = true := by kernel_rfl
theorem qV : aL Tryz.prog Tryz.f76 K.c7 = true := by kernel_rfl
theorem qW : aL Tryz.prog Tryz.f19 K.bV = true := by kernel_rfl
theorem fT : aL Tryz.prog Tryz.f52 K.au = true := by kernel_rfl
theorem gA : aL Tryz.prog Tryz.f53 K.ay = true := by kernel_rfl
theorem kZ : aL Tryz.prog Tryz.f4 K.aO = true := by kernel_rfl
theorem vr : aL Tryz.prog Tryz.f8 K.dG = true := by kernel_rfl
theorem po : aL Tryz.prog Tryz.f12 K.bM = true := by kernel_rfl
theorem nS : aL Tryz.prog Tryz.f17 K.bO = true := by kernel_rfl
theorem pq : aL Tryz.prog Tryz.f24 K.aI = true := by kernel_rfl
theorem pt : aL Tryz.prog Tryz.f25 K.bk = true := by kernel_rfl
theorem mK : aL Tryz.prog Tryz.f33 K.bS = true := by kernel_rfl
theorem pw : aL Tryz.prog Tryz.f35 K.cA = true := by kernel_rfl
theorem iZ : aL Tryz.prog Tryz.f36 K.aK = true := by kernel_rfl
theorem lW : aL Tryz.prog Tryz.f38 K.bG = true := by kernel_rfl
theorem mL : aL Tryz.prog Tryz.f51 K.aQ = true := by kernel_rfl
theorem w9 : aL Tryz.prog Tryz.f54 K.dg = true := by kernel_rfl
theorem mM : aL Tryz.prog Tryz.f56 K.aR = true := by kernel_rfl
theorem vt : aL Tryz.prog Tryz.f57 K.bH = true := by kernel_rfl
theorem vu : aL Tryz.prog Tryz.f78 K.eR = true := by kernel_rfl
theorem mN : aL Tryz.prog Tryz.f80 K.bT = true := by kernel_rfl
theorem A2 : aL Tryz.prog Tryz.f93 K.eC = true := by kernel_rfl
theorem A3 : aL Tryz.prog Tryz.f94 K.gM = true := by kernel_rfl
theorem kK : aL Tryz.prog Tryz.f116 K.bh = true := by kernel_rfl
theorem ka : aL Tryz.prog Tryz.f118 K.bc = true := by kernel_rfl
theorem xc : aL Tryz.prog Tryz.f126 K.ee = true := by kernel_rfl
theorem yD : aL Tryz.prog Tryz.f127 K.dA = true := by kernel_rfl
theorem px : aL Tryz.prog Tryz.f128 K.aV = true := by kernel_rfl
theorem eU : aL Tryz.prog Tryz.f129 K.aj = true := by kernel_rfl
theorem xd : aL Tryz.prog Tryz.f130 K.bP = true := by kernel_rfl
theorem yE : aL Tryz.prog Tryz.f131 K.dM = true := by kernel_rfl
theorem lX : aL Tryz.prog Tryz.f141 K.bI = true := by kernel_rfl
theorem nT : aL Tryz.prog Tryz.f147 K.bq = true := by kernel_rfl
theorem fe : aL Tryz.prog Tryz.f148 K.ae = true := by kernel_rfl
theorem mO : aL Tryz.prog Tryz.f149 K.ao = true := by kernel_rfl
theorem mP : aL Tryz.prog Tryz.f150 K.aY = true := by kernel_rfl
theorem yF : aL Tryz.prog Tryz.f152 K.fD = true := by kernel_rfl
theorem qX : aL Tryz.prog Tryz.f167 K.ch = true := by kernel_rfl
theorem SC : xJ Tryz.prog real tab :=
 ⟨trivial, ⟨⟨by kernel_rfl, ah Tryz.func7 wW⟩, ⟨trivial, ⟨⟨by kernel_rfl, ah Tryz.func9 yy⟩, ⟨⟨by kernel_rfl, ah Tryz.func10 qR⟩, ⟨trivial, ⟨trivial, ⟨trivial, ⟨trivial, ⟨⟨by kernel_rfl, ah Tryz.func14 qS⟩, ⟨⟨by kernel_rfl, ah Tryz.func15 tj⟩, ⟨trivial, ⟨⟨by kernel_rfl, ah Tryz.func18 yz⟩, ⟨trivial, ⟨trivial, ⟨⟨by kernel_rfl, ah Tryz.func23 sN⟩, ⟨trivial, ⟨trivial, ⟨trivial, ⟨⟨by kernel_rfl, ah Tryz.func28 ve⟩, ⟨trivial, ⟨trivial, ⟨trivial, ⟨⟨by kernel_rfl, ah Tryz.func32 A0⟩, ⟨trivial, ⟨trivial, ⟨trivial, ⟨trivial, ⟨⟨by kernel_rfl, ah Tryz.func41 vf⟩, ⟨trivial, ⟨trivial, ⟨trivial, ⟨trivial, ⟨trivial, ⟨trivial, ⟨⟨by kernel_rfl, ah Tryz.func63 tn⟩, ⟨⟨by kernel_rfl, ah Tryz.func64 vg⟩, ⟨trivial, ⟨trivial, ⟨trivial, ⟨trivial, ⟨trivial, ⟨trivial, ⟨trivial, ⟨⟨by kernel_rfl, ah Tryz.func71 tq⟩, ⟨trivial, ⟨trivial, ⟨⟨by kernel_rfl, ah Tryz.func55 vh⟩, ⟨trivial, ⟨⟨by kernel_rfl, ah Tryz.func50 im⟩, ⟨trivial, ⟨⟨by kernel_rfl, ah Tryz.func39 jK⟩, ⟨trivial, ⟨⟨by kernel_rfl, ah Tryz.func79 qT⟩, ⟨⟨by kernel_rfl, ah Tryz.func83 wX⟩, ⟨trivial, ⟨⟨by kernel_rfl, ah Tryz.func98 tu⟩, ⟨⟨by kernel_rfl, ah Tryz.func99 vi⟩, ⟨⟨by kernel_rfl, ah Tryz.func85 vj⟩, ⟨trivial, ⟨trivial, ⟨trivial, ⟨trivial, ⟨trivial, ⟨trivial, ⟨⟨by kernel_rfl, ah Tryz.func104 vk⟩, ⟨⟨by kernel_rfl, ah Tryz.func81 jf⟩, ⟨⟨by kernel_rfl, ah Tryz.func82 kW⟩, ⟨⟨by kernel_rfl, ah Tryz.func119 pj⟩, ⟨⟨by kernel_rfl, ah Tryz.func120 et⟩, ⟨⟨by kernel_rfl, ah Tryz.func121 mJ⟩, ⟨⟨by kernel_rfl, ah Tryz.func75 A1⟩, ⟨trivial, ⟨⟨by kernel_rfl, ah Tryz.func132 vl⟩, ⟨⟨by kernel_rfl, ah Tryz.func133 wY⟩, ⟨⟨by kernel_rfl, ah Tryz.func144 eZ⟩, ⟨⟨by kernel_rfl, ah Tryz.func124 tv⟩, ⟨⟨by kernel_rfl, ah Tryz.func146 wZ⟩, ⟨trivial, ⟨trivial, ⟨trivial, ⟨trivial, ⟨trivial, ⟨trivial, ⟨trivial, ⟨trivial, ⟨trivial, ⟨trivial, ⟨trivial, ⟨trivial, ⟨trivial, ⟨trivial, ⟨trivial, ⟨trivial, ⟨trivial, ⟨trivial, ⟨trivial, ⟨trivial, ⟨trivial, ⟨trivial, ⟨trivial, ⟨trivial, ⟨trivial, ⟨trivial, ⟨trivial, ⟨⟨by kernel_rfl, ah Tryz.func49 tx⟩, ⟨trivial, ⟨trivial, ⟨trivial, ⟨trivial, ⟨trivial, ⟨trivial, ⟨trivial, ⟨trivial, ⟨trivial, ⟨trivial, ⟨trivial, ⟨trivial, ⟨trivial, ⟨trivial, ⟨trivial, ⟨trivial, ⟨trivial, ⟨trivial, ⟨trivial, ⟨trivial, ⟨trivial, ⟨trivial, ⟨trivial, ⟨trivial, ⟨trivial, ⟨trivial, ⟨trivial, ⟨trivial, ⟨trivial, ⟨trivial, ⟨trivial, ⟨trivial, ⟨trivial, ⟨trivial, ⟨trivial, ⟨trivial, ⟨trivial, ⟨trivial, ⟨trivial, ⟨trivial, ⟨trivial, ⟨trivial, ⟨trivial, ⟨trivial, ⟨trivial, ⟨trivial, ⟨trivial, ⟨trivial, ⟨trivial, ⟨trivial, ⟨trivial, ⟨trivial, ⟨trivial, ⟨trivial, ⟨trivial, ⟨trivial, ⟨trivial, ⟨trivial, ⟨trivial, ⟨trivial, ⟨trivial, ⟨⟨by kernel_rfl, ah Tryz.func48 w5⟩, ⟨trivial, ⟨trivial, ⟨trivial, ⟨trivial, ⟨trivial, ⟨⟨by kernel_rfl, ah Tryz.func92 w6⟩, ⟨trivial, ⟨trivial, ⟨trivial, ⟨⟨by kernel_rfl, ah Tryz.func125 vm⟩, ⟨trivial, ⟨trivial, ⟨trivial, ⟨trivial, ⟨trivial, ⟨trivial, ⟨trivial, ⟨trivial, ⟨trivial, ⟨trivial, ⟨trivial, ⟨trivial, ⟨⟨by kernel_rfl, ah Tryz.func112 tz⟩, ⟨trivial, ⟨trivial, ⟨trivial, ⟨⟨by kernel_rfl, ah Tryz.func77 tA⟩, ⟨trivial, ⟨trivial, ⟨trivial, ⟨trivial, ⟨⟨by kernel_rfl, ah Tryz.func114 qU⟩, ⟨⟨by kernel_rfl, ah Tryz.func115 w7⟩, ⟨⟨by kernel_rfl, ah Tryz.func113 sO⟩, ⟨⟨by kernel_rfl, ah Tryz.func108 kX⟩, ⟨trivial, ⟨⟨by kernel_rfl, ah Tryz.func37 kY⟩, ⟨trivial, ⟨trivial, ⟨trivial, ⟨⟨by kernel_rfl, ah Tryz.func139 p9⟩, ⟨⟨by kernel_rfl, ah Tryz.func140 pn⟩, ⟨⟨by kernel_rfl, ah Tryz.func138 qa⟩, ⟨⟨by kernel_rfl, ah Tryz.func155 yA⟩, ⟨⟨by kernel_rfl, ah Tryz.func168 yB⟩, ⟨⟨by kernel_rfl, ah Tryz.func151 yC⟩, ⟨⟨by kernel_rfl, ah Tryz.func174 w8⟩, ⟨trivial, ⟨trivial, ⟨trivial, ⟨trivial, ⟨trivial, ⟨trivial, ⟨trivial, ⟨trivial, ⟨trivial, ⟨trivial, ⟨trivial, ⟨trivial, ⟨trivial, ⟨trivial, ⟨trivial, ⟨trivial, ⟨trivial, ⟨trivial, ⟨trivial, ⟨trivial, ⟨trivial, ⟨trivial, ⟨trivial, ⟨trivial, ⟨trivial, ⟨trivial, ⟨⟨by kernel_rfl, ah Tryz.func117 lV⟩, ⟨trivial, ⟨trivial, ⟨trivial, ⟨trivial, ⟨trivial, ⟨trivial, ⟨trivial, ⟨trivial, ⟨trivial, ⟨trivial, ⟨trivial, ⟨trivial, ⟨trivial, ⟨trivial, ⟨trivial, ⟨⟨by kernel_rfl, ah Tryz.func74 vn⟩, ⟨trivial, ⟨trivial, ⟨⟨by kernel_rfl, ah Tryz.func105 nQ⟩, ⟨⟨by kernel_rfl, ah Tryz.func106 kJ⟩, ⟨⟨by kernel_rfl, ah Tryz.func107 tB⟩, ⟨⟨by kernel_rfl, ah Tryz.func109 j9⟩, ⟨⟨by kernel_rfl, ah Tryz.func110 cX⟩, ⟨⟨by kernel_rfl, ah Tryz.func111 sP⟩, ⟨trivial, ⟨⟨by kernel_rfl, ah Tryz.func135 jL⟩, ⟨⟨by kernel_rfl, ah Tryz.func136 qb⟩, ⟨⟨by kernel_rfl, ah Tryz.func137 dq⟩, ⟨⟨by kernel_rfl, ah Tryz.func154 sQ⟩, ⟨trivial, ⟨trivial, ⟨trivial, ⟨trivial, ⟨trivial, ⟨trivial, ⟨trivial, ⟨trivial, ⟨trivial, ⟨trivial, ⟨trivial, ⟨trivial, ⟨trivial, ⟨trivial, ⟨trivial, ⟨trivial, ⟨trivial, ⟨trivial, ⟨⟨by kernel_rfl, ah Tryz.func76 vo⟩, ⟨trivial, ⟨trivial, ⟨trivial, ⟨trivial, ⟨⟨by kernel_rfl, ah Tryz.func34 vq⟩, ⟨trivial, ⟨trivial, ⟨trivial, ⟨trivial, ⟨trivial, ⟨trivial, ⟨trivial, ⟨trivial, ⟨trivial, ⟨trivial, ⟨trivial, ⟨trivial, ⟨trivial, ⟨⟨by kernel_rfl, ah Tryz.func76 qV⟩, ⟨trivial, ⟨trivial, ⟨trivial, ⟨trivial, ⟨trivial, ⟨trivial, ⟨trivial, ⟨trivial, ⟨trivial, ⟨trivial, ⟨trivial, ⟨trivial, ⟨trivial, ⟨trivial, ⟨trivial, ⟨trivial, ⟨trivial, ⟨trivial, ⟨⟨by kernel_rfl, ah Tryz.func19 qW⟩, ⟨trivial, ⟨trivial, ⟨⟨by kernel_rfl, ah Tryz.func52 fT⟩, ⟨⟨by kernel_rfl, ah Tryz.func53 gA⟩, ⟨trivial, ⟨trivial, ⟨trivial, ⟨trivial, ⟨trivial, ⟨trivial, ⟨trivial, ⟨trivial, ⟨trivial, ⟨trivial, ⟨trivial, ⟨trivial, ⟨trivial, ⟨trivial, ⟨trivial, ⟨trivial, ⟨trivial, ⟨trivial, ⟨trivial, ⟨trivial, ⟨trivial, ⟨trivial, ⟨trivial, ⟨trivial, ⟨trivial, ⟨trivial, ⟨trivial, ⟨trivial, ⟨trivial, ⟨trivial, ⟨trivial, ⟨trivial, ⟨trivial, ⟨trivial, ⟨trivial, ⟨trivial, ⟨trivial, ⟨trivial, ⟨trivial, ⟨trivial, ⟨trivial, ⟨trivial, ⟨trivial, ⟨trivial, ⟨trivial, ⟨trivial, ⟨trivial, ⟨trivial, ⟨trivial, ⟨trivial, ⟨trivial, ⟨trivial, ⟨trivial, ⟨trivial, ⟨trivial, ⟨trivial, ⟨trivial, ⟨trivial, ⟨trivial, ⟨trivial, ⟨trivial, ⟨trivial, ⟨trivial, ⟨trivial, ⟨trivial, ⟨trivial, ⟨trivial, ⟨trivial, ⟨trivial, ⟨trivial, ⟨trivial, ⟨trivial, ⟨trivial, ⟨trivial, ⟨trivial, ⟨trivial, ⟨trivial, ⟨trivial, ⟨trivial, ⟨trivial, ⟨trivial, ⟨trivial, ⟨trivial, ⟨trivial, ⟨trivial, ⟨⟨by kernel_rfl, ah Tryz.func4 kZ⟩, ⟨trivial, ⟨trivial, ⟨⟨by kernel_rfl, ah Tryz.func8 vr⟩, ⟨⟨by kernel_rfl, ah Tryz.func12 po⟩, ⟨⟨by kernel_rfl, ah Tryz.func17 nS⟩, ⟨trivial, ⟨⟨by kernel_rfl, ah Tryz.func24 pq⟩, ⟨⟨by kernel_rfl, ah Tryz.func25 pt⟩, ⟨trivial, ⟨trivial, ⟨⟨by kernel_rfl, ah Tryz.func33 mK⟩, ⟨⟨by kernel_rfl, ah Tryz.func35 pw⟩, ⟨⟨by kernel_rfl, ah Tryz.func36 iZ⟩, ⟨⟨by kernel_rfl, ah Tryz.func38 lW⟩, ⟨trivial, ⟨trivial, ⟨trivial, ⟨⟨by kernel_rfl, ah Tryz.func51 mL⟩, ⟨⟨by kernel_rfl, ah Tryz.func54 w9⟩, ⟨⟨by kernel_rfl, ah Tryz.func56 mM⟩, ⟨⟨by kernel_rfl, ah Tryz.func57 vt⟩, ⟨trivial, ⟨trivial, ⟨trivial, ⟨trivial, ⟨⟨by kernel_rfl, ah Tryz.func78 vu⟩, ⟨⟨by kernel_rfl, ah Tryz.func80 mN⟩, ⟨trivial, ⟨trivial, ⟨trivial, ⟨trivial, ⟨trivial, ⟨trivial, ⟨⟨by kernel_rfl, ah Tryz.func93 A2⟩, ⟨⟨by kernel_rfl, ah Tryz.func94 A3⟩, ⟨trivial, ⟨⟨by kernel_rfl, ah Tryz.func116 kK⟩, ⟨⟨by kernel_rfl, ah Tryz.func118 ka⟩, ⟨trivial, ⟨trivial, ⟨⟨by kernel_rfl, ah Tryz.func126 xc⟩, ⟨⟨by kernel_rfl, ah Tryz.func127 yD⟩, ⟨⟨by kernel_rfl, ah Tryz.func128 px⟩, ⟨⟨by kernel_rfl, ah Tryz.func129 eU⟩, ⟨⟨by kernel_rfl, ah Tryz.func130 xd⟩, ⟨⟨by kernel_rfl, ah Tryz.func131 yE⟩, ⟨⟨by kernel_rfl, ah Tryz.func141 lX⟩, ⟨trivial, ⟨⟨by kernel_rfl, ah Tryz.func147 nT⟩, ⟨⟨by kernel_rfl, ah Tryz.func148 fe⟩, ⟨⟨by kernel_rfl, ah Tryz.func149 mO⟩, ⟨⟨by kernel_rfl, ah Tryz.func150 mP⟩, ⟨⟨by kernel_rfl, ah Tryz.func152 yF⟩, ⟨⟨by kernel_rfl, ah Tryz.func167 qX⟩, trivial⟩⟩⟩⟩⟩⟩⟩⟩⟩⟩⟩⟩⟩⟩⟩⟩⟩⟩⟩⟩⟩⟩⟩⟩⟩⟩⟩⟩⟩⟩⟩⟩⟩⟩⟩⟩⟩⟩⟩⟩⟩⟩⟩⟩⟩⟩⟩⟩⟩⟩⟩⟩⟩⟩⟩⟩⟩⟩⟩⟩⟩⟩⟩⟩⟩⟩⟩⟩⟩⟩⟩⟩⟩⟩⟩⟩⟩⟩⟩⟩⟩⟩⟩⟩⟩⟩⟩⟩⟩⟩⟩⟩⟩⟩⟩⟩⟩⟩⟩⟩⟩⟩⟩⟩⟩⟩⟩⟩⟩⟩⟩⟩⟩⟩⟩⟩⟩⟩⟩⟩⟩⟩⟩⟩⟩⟩⟩⟩⟩⟩⟩⟩⟩⟩⟩⟩⟩⟩⟩⟩⟩⟩⟩⟩⟩⟩⟩⟩⟩⟩⟩⟩⟩⟩⟩⟩⟩⟩⟩⟩⟩⟩⟩⟩⟩⟩⟩⟩⟩⟩⟩⟩⟩⟩⟩⟩⟩⟩⟩⟩⟩⟩⟩⟩⟩⟩⟩⟩⟩⟩⟩⟩⟩⟩⟩⟩⟩⟩⟩⟩⟩⟩⟩⟩⟩⟩⟩⟩⟩⟩⟩⟩⟩⟩⟩⟩⟩⟩⟩⟩⟩⟩⟩⟩⟩⟩⟩⟩⟩⟩⟩⟩⟩⟩⟩⟩⟩⟩⟩⟩⟩⟩⟩⟩⟩⟩⟩⟩⟩⟩⟩⟩⟩⟩⟩⟩⟩⟩⟩⟩⟩⟩⟩⟩⟩⟩⟩⟩⟩⟩⟩⟩⟩⟩⟩⟩⟩⟩⟩⟩⟩⟩⟩⟩⟩⟩⟩⟩⟩⟩⟩⟩⟩⟩⟩⟩⟩⟩⟩⟩⟩⟩⟩⟩⟩⟩⟩⟩⟩⟩⟩⟩⟩⟩⟩⟩⟩⟩⟩⟩⟩⟩⟩⟩⟩⟩⟩⟩⟩⟩⟩⟩⟩⟩⟩⟩⟩⟩⟩⟩⟩⟩⟩⟩⟩⟩⟩⟩⟩⟩⟩⟩⟩⟩⟩⟩⟩⟩⟩⟩⟩⟩⟩⟩⟩⟩⟩⟩⟩⟩⟩⟩⟩⟩⟩⟩⟩⟩⟩⟩⟩⟩⟩⟩⟩⟩⟩⟩⟩⟩⟩⟩⟩⟩⟩⟩⟩⟩⟩⟩⟩⟩⟩⟩⟩⟩⟩⟩⟩⟩⟩⟩⟩⟩⟩⟩⟩⟩⟩⟩⟩⟩⟩⟩⟩⟩⟩⟩⟩⟩⟩⟩⟩⟩⟩⟩⟩⟩⟩⟩⟩⟩⟩⟩⟩⟩⟩⟩⟩⟩⟩⟩⟩⟩⟩⟩⟩⟩⟩⟩⟩⟩⟩⟩⟩⟩⟩⟩⟩⟩⟩⟩
theorem SD : ∀ f j, Names.ρ f = some j → Names.it f = true → uv Tryz.prog j := fun f j hj h => Bool.noConfusion (show false = true from h)
def L6 : List (Nat × List Nat) := [(241, [1]), (260, [2, N.aG]), (464, [4])]
def xe : Go.Shelf.Ren := ⟨fun | 189 => 117 | 125 => 143 | 257 => 142 | 128 => 165 | 129 => 166 | 294 => 156 | 295 => 157 | 296 => 158 | 297 => 159 | 298 => 160 | 299 => 161 | 216 => 162 | 300 => 163 | 301 => 164 | 328 => 169 | 329 => 170 | 330 => 171 | 331 => 172 | 332 => 173 | 215 => 154 | 343 => 175 | n => n, fun | 28 => 22 | 3 => 3 | 46 => 166 | 0 => 0 | 51 => 190 | 53 => 192 | 4 => 4 | 183 => 183 | 182 => 182 | 131 => 187 | 5 => 5 | 9 => 9 | 218 => 194 | 222 => 198 | 228 => 200 | 229 => 120 | n => n, fun | n => n⟩
theorem zH : Go.Proofs.Lays.n189 Tryz.prog xe := {
 mixed := by kernel_rfl,
 f125 := Tryz.func143.trans (congrArg some (by kernel_rfl)),
 f128 := Tryz.func165.trans (congrArg some (by kernel_rfl)),
 f129 := Tryz.func166.trans (congrArg some (by kernel_rfl)),
 f189 := Tryz.func117.trans (congrArg some (by kernel_rfl)),
 f215 := Tryz.func154.trans (congrArg some (by kernel_rfl)),
 f216 := Tryz.func162.trans (congrArg some (by kernel_rfl)),
 f257 := Tryz.func142.trans (congrArg some (by kernel_rfl)),
 f294 := Tryz.func156.trans (congrArg some (by kernel_rfl)),
 f295 := Tryz.func157.trans (congrArg some (by kernel_rfl)),
 f296 := Tryz.func158.trans (congrArg some (by kernel_rfl)),
 f297 := Tryz.func159.trans (congrArg some (by kernel_rfl)),
 f298 := Tryz.func160.trans (congrArg some (by kernel_rfl)),
 f299 := Tryz.func161.trans (congrArg some (by kernel_rfl)),
 f300 := Tryz.func163.trans (congrArg some (by kernel_rfl)),
 f301 := Tryz.func164.trans (congrArg some (by kernel_rfl)),
 f328 := Tryz.func169.trans (congrArg some (by kernel_rfl)),
 f329 := Tryz.func170.trans (congrArg some (by kernel_rfl)),
 f330 := Tryz.func171.trans (congrArg some (by kernel_rfl)),
 f331 := Tryz.func172.trans (congrArg some (by kernel_rfl)),
 f332 := Tryz.func173.trans (congrArg some (by kernel_rfl)),
 f343 := Tryz.func175.trans (congrArg some (by kernel_rfl)),
 t0 := Tryz.underlying0,
 a0 := Tryz.isAgg0,
 z0 := Tryz.sizeOf0,
 v0 := Tryz.zeroValue0,
 t3 := Tryz.underlying3,
 a3 := Tryz.isAgg3,
 z3 := Tryz.sizeOf3,
 v3 := Tryz.zeroValue3,
 t4 := Tryz.underlying4,
 a4 := Tryz.isAgg4,
 z4 := Tryz.sizeOf4,
 v4 := Tryz.zeroValue4,
 t5 := Tryz.underlying5,
 a5 := Tryz.isAgg5,
 z5 := Tryz.sizeOf5,
 v5 := Tryz.zeroValue5,
 t9 := Tryz.underlying9,
 a9 := Tryz.isAgg9,
 z9 := Tryz.sizeOf9,
 v9 := Tryz.zeroValue9,
 t28 := Tryz.underlying22,
 a28 := Tryz.isAgg22,
 z28 := Tryz.sizeOf22,
 v28 := Tryz.zeroValue22,
 t46 := Tryz.underlying166,
 a46 := Tryz.isAgg166,
 z46 := Tryz.sizeOf166,
 v46 := Tryz.zeroValue166,
 t51 := Tryz.underlying190,
 a51 := Tryz.isAgg190,
 z51 := Tryz.sizeOf190,
 v51 := Tryz.zeroValue190,
 t53 := Tryz.underlying192,
 a53 := Tryz.isAgg192,
 z53 := Tryz.sizeOf192,
 v53 := Tryz.zeroValue192,
 t131 := Tryz.underlying187,
 a131 := Tryz.isAgg187,
 z131 := Tryz.sizeOf187,
 v131 := Tryz.zeroValue187,
 t182 := Tryz.underlying182,
 a182 := Tryz.isAgg182,
 z182 := Tryz.sizeOf182,
 v182 := Tryz.zeroValue182,
 t183 := Tryz.underlying183,
 a183 := Tryz.isAgg183,
 z183 := Tryz.sizeOf183,
 v183 := Tryz.zeroValue183,
 t218 := Tryz.underlying194,
 a218 := Tryz.isAgg194,
 z218 := Tryz.sizeOf194,
 v218 := Tryz.zeroValue194,
 t222 := Tryz.underlying198,
 a222 := Tryz.isAgg198,
 z222 := Tryz.sizeOf198,
 v222 := Tryz.zeroValue198,
 t228 := Tryz.underlying200,
 a228 := Tryz.isAgg200,
 z228 := Tryz.sizeOf200,
 v228 := Tryz.zeroValue200,
 t229 := Tryz.underlying120,
 a229 := Tryz.isAgg120,
 z229 := Tryz.sizeOf120,
 v229 := Tryz.zeroValue120 }
theorem Gr : ∀ j, Names.ρ 241 = some j → mU Tryz.prog j [1] := fun j hj => by
 have e : (Names.ρ 241 : Option Nat) = some 117 := by kernel_rfl
 rw [e] at hj; cases hj; exact DI zH
def tC : Go.Shelf.Ren := ⟨fun | 6 => 105 | 8 => 134 | 9 => 117 | 11 => 153 | 13 => 143 | 12 => 142 | 23 => 165 | 24 => 166 | 14 => 156 | 15 => 157 | 16 => 158 | 17 => 159 | 18 => 160 | 19 => 161 | 20 => 162 | 21 => 163 | 22 => 164 | 25 => 169 | 26 => 170 | 27 => 171 | 28 => 172 | 29 => 173 | 30 => 154 | 31 => 175 | n => n, fun | 26 => 3 | 28 => 133 | 24 => 22 | 0 => 0 | 3 => 3 | 37 => 166 | 48 => 190 | 50 => 192 | 4 => 4 | 40 => 183 | 39 => 182 | 45 => 187 | 5 => 5 | 9 => 9 | 51 => 194 | 55 => 198 | 57 => 200 | 58 => 120 | 33 => 59 | n => n, fun | n => n⟩
theorem A4 : Go.Proofs.SlLaysZI.n6 Tryz.prog tC := {
 f6 := ⟨"slices.Sorted[int]", by kernel_rfl, Tryz.func105.trans (congrArg some (by kernel_rfl))⟩,
 f8 := ⟨"slices.Collect[int]", by kernel_rfl, Tryz.func134.trans (congrArg some (by kernel_rfl))⟩,
 f11 := ⟨"slices.AppendSeq[[]int,int]", by kernel_rfl, Tryz.func153.trans (congrArg some (by kernel_rfl))⟩,
 mixed := by kernel_rfl,
 t0 := Tryz.underlying0,
 a0 := Tryz.isAgg0,
 z0 := Tryz.sizeOf0,
 v0 := Tryz.zeroValue0,
 t24 := Tryz.underlying22,
 a24 := Tryz.isAgg22,
 z24 := Tryz.sizeOf22,
 v24 := Tryz.zeroValue22,
 t26 := Tryz.underlying3,
 a26 := Tryz.isAgg3,
 z26 := Tryz.sizeOf3,
 v26 := Tryz.zeroValue3,
 t28 := Tryz.underlying133,
 a28 := Tryz.isAgg133,
 z28 := Tryz.sizeOf133,
 v28 := Tryz.zeroValue133,
 i26 := by kernel_rfl }
section
open Go.RowKit Go.Shelf Go.Maps Go.Sort Go.Proofs
/- the iterator of slices.Values at this program -/
set_option maxRecDepth 100000 in
set_option maxHeartbeats 2000000 in
theorem X1 (n l Bs : Nat) (hn : 1 ≤ n) (W0 : World) (b off len cap : Nat) (zs : List Int) (hlen : zs.length = len) (hreach : len * 8 ≤ 140737488351232) (hb : b < W0.heap.size) (J : List Int → World → Prop)
 (hJ : ∀ s W1, J s W1 → Below W0.heap.size W0 W1)
 (hY : ∀ pre x W1, J pre W1 → pre.length < zs.length → YieldAt Fence.wide (n - 1) Tryz.prog l #[encZ x] W1 fun e W' => e = .returned (.bool true) ∧ J (pre ++ [x]) W' ∧ KeepsWalks W1 W')
 (W : World) (hBs : W.cell? ⟨Bs, 0, none⟩ = some (.slice (some ⟨b, off, none⟩) len cap)) (hc : ∀ j, j < len → W0.cell? ⟨b, off + j, none⟩ = some (.int .i64 (zs[j]?.getD 0))) (h0 : J [] W) :
 CallsIn Fence.wide n Tryz.prog 135 #[.func (.yield l) #[] #[], .pointer (some ⟨Bs, 0, none⟩)] W fun e W' => (∃ v, e = .returned v) ∧ J zs W' := by
 have step : ∀ k, k < zs.length → zs.take k ++ [zs[k]?.getD 0] = zs.take (k + 1) := fun k hk => by
  rw [List.take_succ_eq_append_getElem hk]; simp [hk]
 refine callsIn_of_wp Tryz.func135 rfl trivial ?_ rfl
 simp only [Tryz.ntmps135, List.size_toArray, List.length_cons, List.length_nil, Nat.reduceAdd, Nat.reduceSub, Array.replicate_succ, Array.replicate_zero, List.push_toArray, List.append_toArray, List.nil_append, List.cons_append]
 gi_wp2
 gi_loopw [7] (fun i wr => ∃ k : Nat, k ≤ len ∧ i = .int .i64 k ∧ J (zs.take k) wr)
  (fun i _ => len - (intOf i).toNat)
 case atStart => exact ⟨0, Nat.zero_le _, rfl, h0⟩
 case round =>
  obtain ⟨k, hk, rfl, hJs⟩ := hrel
  by_cases hlt : k < len
  · have hcx : wr.cell? ⟨b, off + k, none⟩ = some (.int .i64 (zs[k]?.getD 0)) := ((hJ _ _ hJs).cell (p := ⟨b, off + k, none⟩) hb).trans (hc k hlt)
    have st := step k (by omega)
    generalize zs[k]?.getD 0 = x at hcx st
    obtain ⟨fn, tmps, assign, body, hy, hR⟩ := hY _ x wr hJs (by rw [List.length_take]; omega)
    clear step
    gi_wp2
    refine hR.mono ?_
    rintro e W3 ⟨rfl, hJ3, -⟩
    gi_wp2
    go_roundw
    case rel => exact ⟨k + 1, by omega, by simp, by rw [← st]; exact hJ3⟩
    case measure => simp [intOf]; omega
  · obtain rfl : k = len := by omega
    gi_wp2
    go_end0
    exact ⟨⟨_, rfl⟩, by rw [← hlen, List.take_length] at hJs; exact hJs⟩
set_option maxRecDepth 100000 in
set_option maxHeartbeats 1000000 in
theorem X2 (n l Bs : Nat) (p : Option Addr) (cap : Nat) (J : List Int → World → Prop) (W : World) (hBs : W.cell? ⟨Bs, 0, none⟩ = some (.slice p 0 cap)) (h0 : J [] W) :
 CallsIn Fence.wide n Tryz.prog 135 #[.func (.yield l) #[] #[], .pointer (some ⟨Bs, 0, none⟩)] W fun e W' => (∃ v, e = .returned v) ∧ J [] W' := by
 refine callsIn_of_wp Tryz.func135 rfl trivial ?_ rfl
 simp only [Tryz.ntmps135, List.size_toArray, List.length_cons, List.length_nil, Nat.reduceAdd, Nat.reduceSub, Array.replicate_succ, Array.replicate_zero, List.push_toArray, List.append_toArray, List.nil_append, List.cons_append]
 gi_wp2
 gi_loopw [7] (fun i wr => i = .int .i64 0 ∧ J [] wr) (fun _ _ => 0)
 case atStart => exact ⟨rfl, h0⟩
 case round =>
  obtain ⟨rfl, hJs⟩ := hrel
  gi_wp2
  go_end0
  exact ⟨⟨_, rfl⟩, hJs⟩
theorem L7 : H6 Tryz.prog 135 := by
 intro n Bs sv zs w hn hreach hBs hcell hI l J W hW hJ hY h0
 have hc' := (hW.cell (p := ⟨Bs, 0, none⟩) hBs).trans hcell
 rcases hI with ⟨p, cap, rfl, rfl⟩ | ⟨b, off, cap, rfl, hb, hcs⟩
 · exact X2 n l Bs p cap J W hc' h0
 · exact X1 n l Bs hn w b off zs.length cap zs rfl hreach hb J hJ hY W hc' hcs h0
end
theorem Gs : ∀ j, Names.ρ 260 = some j → mU Tryz.prog j [2, N.aG] := fun j hj => by
 have e : (Names.ρ 260 : Option Nat) = some 105 := by kernel_rfl
 rw [e] at hj; cases hj; exact yx A4 zH (by kernel_rfl) (Go.Proofs.enters_of Tryz.func117 (by kernel_rfl) rfl) (by kernel_rfl) (Go.Proofs.enters_of Tryz.func135 (by kernel_rfl) rfl) L7
def lY : Go.Shelf.Ren := ⟨fun | 4 => 141 | n => n, fun | 22 => 22 | 25 => 3 | 3 => 3 | 4 => 4 | 9 => 9 | 20 => 20 | 0 => 0 | n => n, fun | n => n⟩
theorem Gt : Go.Proofs.Lays8.n4 Tryz.prog lY := {
 f4 := ⟨"slices.Grow[[]int,int]", by kernel_rfl, Tryz.func141.trans (congrArg some (by kernel_rfl))⟩,
 mixed := by kernel_rfl,
 t0 := Tryz.underlying0,
 a0 := Tryz.isAgg0,
 z0 := Tryz.sizeOf0,
 v0 := Tryz.zeroValue0,
 t3 := Tryz.underlying3,
 a3 := Tryz.isAgg3,
 z3 := Tryz.sizeOf3,
 v3 := Tryz.zeroValue3,
 t4 := Tryz.underlying4,
 a4 := Tryz.isAgg4,
 z4 := Tryz.sizeOf4,
 v4 := Tryz.zeroValue4,
 t9 := Tryz.underlying9,
 a9 := Tryz.isAgg9,
 z9 := Tryz.sizeOf9,
 v9 := Tryz.zeroValue9,
 t20 := Tryz.underlying20,
 a20 := Tryz.isAgg20,
 z20 := Tryz.sizeOf20,
 v20 := Tryz.zeroValue20,
 t22 := Tryz.underlying22,
 a22 := Tryz.isAgg22,
 z22 := Tryz.sizeOf22,
 v22 := Tryz.zeroValue22 }
theorem X3 : (Tryz.prog.info? (lY.t 25)).isSome = true := by kernel_rfl
theorem Gu : ∀ j, Names.ρ 464 = some j → mU Tryz.prog j [4] := fun j hj => by
 have e : (Names.ρ 464 : Option Nat) = some 141 := by kernel_rfl
 rw [e] at hj; cases hj; exact DK Gt (i0 := (Tryz.prog.info? (lY.t 25)).get X3) (Option.some_get _).symm (by kernel_rfl) (by kernel_rfl) (Nat.le_of_ble_eq_true (by kernel_rfl))
theorem Gv : ∀ x ∈ L6, ∀ j, Names.ρ x.1 = some j → mU Tryz.prog j x.2 := by
 intro x hx
 simp only [L6, List.mem_cons, List.not_mem_nil, or_false] at hx
 rcases hx with rfl | rfl | rfl
 · exact Gr
 · exact Gs
 · exact Gu
end Go.Proofs.YtifghciaddehaaaGreat
