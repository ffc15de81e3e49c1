/- MADE BY PROGRAM (lib.py): the numbers that the functions have in this program, and the check of each one. -/
import Derived.Test.YtfeojjgfpaklnaaGreatProg
import Derived.Maps.OwnOps
import Derived.WalkKit
import Derived.Test.YtfeojjgfpaklnaaGreatZPD
import Derived.KernelRfl
set_option linter.all false
set_option maxRecDepth 100000
namespace Go.Proofs.YtfeojjgfpaklnaaGreat
open Go.Ev
def real : List (Option Nat) := [none, some 4, none, some 6, some 7, none, none, some 8, none, some 9, some 18, none, none, none, none, some 17, none, none, none, none, none, none, none, some 19, none, none, none, none, none, none, none, none, none, none, none, none, none, none, none, none, none, none, none, none, none, none, none, some 84, none, some 25, none, some 113, none, some 114, none, none, none, none, none, none, none, none, none, none, none, none, some 47, some 180, some 181, some 115, some 182, some 22, none, none, none, some 183, none, none, none, none, none, none, none, none, none, none, some 169, some 170, some 171, none, some 34, none, none, none, none, none, none, none, none, none, some 285, none, none, some 229, some 237, some 21, none, none, none, none, some 79, some 119, none, none, none, some 129, some 55, some 130, some 185, some 195, none, none, none, none, none, none, none, none, some 122, none, none, none, none, none, none, none, some 187, none, none, none, none, none, none, none, none, some 238, some 239, some 240, some 289, none, none, none, none, none, some 32, some 139, none, none, none, some 52, some 53, some 54, none, none, none, none, none, some 20, some 44, some 91, some 92, some 93, none, some 42, some 82, none, some 138, some 80, none, none, none, none, none, none, none, none, some 58, none, none, some 278, some 273, none, none, none, some 284, none, none, none, some 94, some 95, some 96, some 304, some 117, none, some 56, none, none, none, some 140, some 141, some 313, some 199, some 260, some 294, some 301, none, none, none, none, none, none, none, none, some 36, some 164, some 165, none, none, some 167, none, some 145, none, none, none, none, none, none, none, none, some 223, some 224, some 135, none, some 282, some 282, none, none, none, none, none, none, none, none, none, none, none, none, some 214, none, none, some 88, some 89, some 57, some 271, some 226, some 272, none, some 136, none, some 283, none, none, none, none, none, none, none, none, some 37, none, none, none, none, none, none, none, none, none, none, some 99, some 218, none, none, none, none, none, none, some 275, some 276, some 277, some 305, some 306, some 307, some 315, some 318, some 319, none, none, some 99, none, none, none, none, none, none, none, some 168, none, none, some 219, none, none, none, some 225, some 227, some 228, none, none, none, none, some 60, some 61, none, none, none, none, none, none, none, some 31, none, none, some 146, some 59, none, none, none, none, none, none, some 48, some 49, some 50, some 51, none, none, none, none, none, some 200, some 97, some 98, none, none, none, none, none, none, none, some 86, some 87, some 90, some 142, some 120, some 143, some 144, none, none, none, some 133, some 186, some 51, none, none, none, none, none, none, none, none, none, none, none, none, none, none, some 38, none, none, none, none, none, none, none, none, none, none, none, none, none, none, none, none, none, none, none, none, none, none, none, none, none, none, none, none, none, none, none, none, none, none, none, none, none, none, none, some 33, none, some 126, none, none, none, none, none, none, none, none, none, none, none, none, none, none, none, none, none, none, none, none, none, none, none, none, none, none, none, none, none, none, none, none, none, none, none, none, none, none, none, none, none, none, none, none, none, none, none, none, none, none, none, none, none, none, none, none, none, none, none, none, none, none, none, none, none, none, none, none, none, none, none, none, none, none, some 14, none, none, none, none, none, none, none, some 35, some 39, none, none, some 62, some 63, some 64, some 65, some 66, none, none, none, none, some 100, some 101, some 102, some 103, some 104, some 105, none, none, none, none, some 110, some 111, some 112, none, none, none, some 155, none, none, none, none, none, none, none, none, none, none, none, none, some 5, none, none, none, none, some 15, some 16, none, none, none, none, none, none, none, none, some 40, some 41, none, none, some 67, some 68, some 69, some 70, some 71, some 72, some 73, some 74, some 75, some 76, some 77, some 78, some 106, some 107, some 108, some 109, some 116, some 118, some 121, some 123, some 124, some 125, some 127, some 128, some 163, some 166, some 184, some 188, none, none, none, none, some 3, some 10, some 11, some 12, some 13, some 23, some 24, some 26, some 27, some 28, some 29, some 30, some 43, some 45, some 46, some 81, some 83, some 85, some 131, some 132]
def tab : List (Option Go.Ev.Fn) := [none, some K.gN, none, some K.jc, some K.b6, none, none, some K.bV, none, some K.bc, some K.bR, none, none, none, none, some K.cC, none, none, none, none, none, none, none, some K.ji, none, none, none, none, none, none, none, none, none, none, none, none, none, none, none, none, none, none, none, none, none, none, none, some K.dr, none, some K.ai, none, some K.aK, none, some K.dv, none, none, none, none, none, none, none, none, none, none, none, none, some K.bh, some K.bB, some K.di, some K.aB, some K.ck, some K.aS, none, none, none, some K.aQ, none, none, none, none, none, none, none, none, none, none, some K.jC, some K.gg, some K.ig, none, some K.dD, none, none, none, none, none, none, none, none, none, some K.ij, none, none, some K.bC, some K.eY, some K.bl, none, none, none, none, some K.ew, some K.iS, none, none, none, some K.gj, some K.iT, some K.iU, some K.gk, some K.gl, none, none, none, none, none, none, none, none, some K.ik, none, none, none, none, none, none, none, some K.jE, none, none, none, none, none, none, none, none, some K.cZ, some K.gn, some K.gp, some K.cH, none, none, none, none, none, some K.il, some K.gq, none, none, none, some K.im, some K.bm, some K.cm, none, none, none, none, none, some K.bL, some K.aq, some K.eZ, some K.fc, some K.b9, none, some K.gO, some K.aJ, none, some K.dF, some K.eF, none, none, none, none, none, none, none, none, some K.gr, none, none, some K.iq, some K.gu, none, none, none, some K.gw, none, none, none, some K.ef, some K.cM, some K.gP, some K.dX, some K.bw, none, some K.ae, none, none, none, some K.dG, some K.dj, some K.dH, some K.kM, some K.kN, some K.kO, some K.jF, none, none, none, none, none, none, none, none, some K.jG, some K.kP, some K.ir, none, none, some K.kQ, none, some K.iu, none, none, none, none, none, none, none, none, some K.j8, some K.kR, some K.bX, none, some K.iv, some K.eh, none, none, none, none, none, none, none, none, none, none, none, none, some K.iw, none, none, some K.bJ, some K.bn, some K.ff, some K.bH, some K.ak, some K.fg, none, some K.bf, none, some K.aA, none, none, none, none, none, none, none, none, some K.iy, none, none, none, none, none, none, none, none, none, none, some K.iz, some K.iA, none, none, none, none, none, none, some K.aV, some K.aW, some K.fh, some K.bA, some K.aI, some K.aE, some K.a7, some K.aL, some K.aT, none, none, some K.dw, none, none, none, none, none, none, none, some K.kT, none, none, some K.iB, none, none, none, some K.iC, some K.fk, some K.kU, none, none, none, none, some K.aH, some K.aM, none, none, none, none, none, none, none, some K.iD, none, none, some K.iE, some K.jI, none, none, none, none, none, none, some K.c7, some K.fm, some K.fp, some K.gx, none, none, none, none, none, some K.gy, some K.gD, some K.jJ, none, none, none, none, none, none, none, some K.cI, some K.aC, some K.aO, some K.fq, some K.ay, some K.ft, some K.fv, none, none, none, some K.aF, some K.aN, some K.dI, none, none, none, none, none, none, none, none, none, none, none, none, none, none, some K.jK, none, none, none, none, none, none, none, none, none, none, none, none, none, none, none, none, none, none, none, none, none, none, none, none, none, none, none, none, none, none, none, none, none, none, none, none, none, none, none, some K.jL, none, some K.iF, none, none, none, none, none, none, none, none, none, none, none, none, none, none, none, none, none, none, none, none, none, none, none, none, none, none, none, none, none, none, none, none, none, none, none, none, none, none, none, none, none, none, none, none, none, none, none, none, none, none, none, none, none, none, none, none, none, none, none, none, none, none, none, none, none, none, none, none, none, none, none, none, none, none, some K.jM, none, none, none, none, none, none, none, some K.gz, some K.eH, none, none, some K.a8, some K.fw, some K.dY, some K.aY, some K.jN, none, none, none, none, some K.cN, some K.cO, some K.cP, some K.cQ, some K.cR, some K.cT, none, none, none, none, some K.cU, some K.cV, some K.cW, none, none, none, some K.bY, none, none, none, none, none, none, none, none, none, none, none, none, some K.fY, none, none, none, none, some K.mB, some K.iG, none, none, none, none, none, none, none, none, some K.kV, some K.iH, none, none, some K.kW, some K.fx, some K.dy, some K.fy, some K.iI, some K.fA, some K.gA, some K.fB, some K.fC, some K.fD, some K.fE, some K.gB, some K.cr, some K.dz, some K.ct, some K.cu, some K.dk, some K.fF, some K.ei, some K.aD, some K.dJ, some K.gE, some K.gC, some K.ek, some K.cJ, some K.cK, some K.en, some K.aG, none, none, none, none, some K.cy, some K.bZ, some K.b5, some K.bN, some K.cz, some K.bO, some K.dK, some K.bz, some K.br, some K.c8, some K.dL, some K.c9, some K.cA, some K.bk, some K.bP, some K.bD, some K.cB, some K.bg, some K.bE, some K.bq]
instance names : Names := { ρ := fun f => (real[f]?).join }
instance lib : Lib := ⟨fun f => (tab[f]?).join⟩
instance has1 : dt := ⟨rfl, rfl, rfl, rfl, rfl, rfl, rfl, rfl⟩
instance has2 : dm := ⟨rfl, rfl, rfl, rfl, rfl, rfl, rfl, rfl, rfl, rfl, rfl⟩
instance has3 : kg := ⟨rfl, rfl, rfl, rfl⟩
instance has4 : jj := ⟨rfl, rfl, rfl, rfl, rfl, rfl, rfl, rfl, rfl, rfl, rfl⟩
instance has5 : mh := ⟨rfl, rfl, rfl, rfl, rfl, rfl⟩
instance has6 : gY := ⟨rfl, rfl, rfl, rfl, rfl, rfl, rfl, rfl, rfl, rfl⟩
instance has7 : i5 := ⟨rfl, rfl, rfl, rfl⟩
instance has8 : lJ := ⟨rfl, rfl, rfl⟩
instance has9 : jV := ⟨rfl, rfl, rfl, rfl, rfl, rfl, rfl, rfl, rfl, rfl, rfl, rfl, rfl, rfl⟩
instance has10 : gJ := ⟨rfl, rfl, rfl, rfl, rfl, rfl, rfl, rfl, rfl, rfl⟩
instance has11 : jd := ⟨rfl, rfl, rfl, rfl, rfl, rfl, rfl, rfl, rfl⟩
instance has12 : R1 := ⟨rfl⟩
instance has13 : sQ := ⟨rfl, rfl, rfl, rfl, rfl, rfl, rfl, rfl, rfl, rfl, rfl, rfl⟩
instance has14 : Ef := ⟨rfl, rfl, rfl, rfl, rfl⟩
instance has15 : Mg := ⟨rfl, rfl⟩
instance has16 : JH := ⟨rfl, rfl, rfl⟩
instance has17 : AY := ⟨rfl, rfl, rfl, rfl, rfl, rfl, rfl⟩
instance has18 : vK := ⟨rfl, rfl, rfl, rfl, rfl, rfl, rfl, rfl, rfl, rfl⟩
instance has19 : R2 := ⟨rfl⟩
instance has21 : R3 := ⟨rfl⟩
instance has22 : R4 := ⟨rfl⟩
instance has28 : JI := ⟨rfl, rfl, rfl⟩
instance has29 : pL := ⟨rfl, rfl, rfl, rfl, rfl, rfl, rfl, rfl, rfl, rfl, rfl, rfl, rfl, rfl, rfl⟩
instance has30 : jf := ⟨rfl, rfl, rfl, rfl, rfl, rfl, rfl, rfl, rfl, rfl, rfl, rfl, rfl, rfl, rfl, rfl, rfl, rfl⟩
instance has31 : kc := ⟨rfl, rfl, rfl, rfl, rfl, rfl, rfl, rfl, rfl, rfl, rfl, rfl, rfl, rfl, rfl⟩
instance has32 : jr := ⟨rfl, rfl, rfl, rfl, rfl, rfl, rfl, rfl, rfl, rfl, rfl, rfl, rfl, rfl, rfl, rfl, rfl, rfl, rfl, rfl⟩
theorem CB : az Tryz.prog Tryz.f4 K.gN = true := by kernel_rfl
theorem Em : az Tryz.prog Tryz.f6 K.jc = true := by kernel_rfl
theorem vN : az Tryz.prog Tryz.f7 K.b6 = true := by kernel_rfl
theorem tZ : az Tryz.prog Tryz.f8 K.bV = true := by kernel_rfl
theorem vO : az Tryz.prog Tryz.f9 K.bc = true := by kernel_rfl
theorem yW : az Tryz.prog Tryz.f18 K.bR = true := by kernel_rfl
theorem xZ : az Tryz.prog Tryz.f17 K.cC = true := by kernel_rfl
theorem GZ : az Tryz.prog Tryz.f19 K.ji = true := by kernel_rfl
theorem A0 : az Tryz.prog Tryz.f84 K.dr = true := by kernel_rfl
theorem lz : az Tryz.prog Tryz.f25 K.ai = true := by kernel_rfl
theorem mR : az Tryz.prog Tryz.f113 K.aK = true := by kernel_rfl
theorem vP : az Tryz.prog Tryz.f114 K.dv = true := by kernel_rfl
theorem mi : az Tryz.prog Tryz.f47 K.bh = true := by kernel_rfl
theorem oO : az Tryz.prog Tryz.f180 K.bB = true := by kernel_rfl
theorem s9 : az Tryz.prog Tryz.f181 K.di = true := by kernel_rfl
theorem gU : az Tryz.prog Tryz.f115 K.aB = true := by kernel_rfl
theorem qc : az Tryz.prog Tryz.f182 K.ck = true := by kernel_rfl
theorem G0 : az Tryz.prog Tryz.f22 K.aS = true := by kernel_rfl
theorem iW : az Tryz.prog Tryz.f183 K.aQ = true := by kernel_rfl
theorem CC : az Tryz.prog Tryz.f169 K.jC = true := by kernel_rfl
theorem yX : az Tryz.prog Tryz.f170 K.gg = true := by kernel_rfl
theorem A1 : az Tryz.prog Tryz.f171 K.ig = true := by kernel_rfl
theorem yY : az Tryz.prog Tryz.f34 K.dD = true := by kernel_rfl
theorem A2 : az Tryz.prog Tryz.f285 K.ij = true := by kernel_rfl
theorem oP : az Tryz.prog Tryz.f229 K.bC = true := by kernel_rfl
theorem x0 : az Tryz.prog Tryz.f237 K.eY = true := by kernel_rfl
theorem yZ : az Tryz.prog Tryz.f21 K.bl = true := by kernel_rfl
theorem CD : az Tryz.prog Tryz.f79 K.ew = true := by kernel_rfl
theorem CE : az Tryz.prog Tryz.f119 K.iS = true := by kernel_rfl
theorem y0 : az Tryz.prog Tryz.f129 K.gj = true := by kernel_rfl
theorem CF : az Tryz.prog Tryz.f55 K.iT = true := by kernel_rfl
theorem CG : az Tryz.prog Tryz.f130 K.iU = true := by kernel_rfl
theorem y1 : az Tryz.prog Tryz.f185 K.gk = true := by kernel_rfl
theorem y2 : az Tryz.prog Tryz.f195 K.gl = true := by kernel_rfl
theorem A3 : az Tryz.prog Tryz.f122 K.ik = true := by kernel_rfl
theorem CH : az Tryz.prog Tryz.f187 K.jE = true := by kernel_rfl
theorem ua : az Tryz.prog Tryz.f238 K.cZ = true := by kernel_rfl
theorem y3 : az Tryz.prog Tryz.f239 K.gn = true := by kernel_rfl
theorem y4 : az Tryz.prog Tryz.f240 K.gp = true := by kernel_rfl
theorem rf : az Tryz.prog Tryz.f289 K.cH = true := by kernel_rfl
theorem A4 : az Tryz.prog Tryz.f32 K.il = true := by kernel_rfl
theorem y5 : az Tryz.prog Tryz.f139 K.gq = true := by kernel_rfl
theorem A5 : az Tryz.prog Tryz.f52 K.im = true := by kernel_rfl
theorem nX : az Tryz.prog Tryz.f53 K.bm = true := by kernel_rfl
theorem qd : az Tryz.prog Tryz.f54 K.cm = true := by kernel_rfl
theorem CI : az Tryz.prog Tryz.f20 K.bL = true := by kernel_rfl
theorem iM : az Tryz.prog Tryz.f44 K.aq = true := by kernel_rfl
theorem x7 : az Tryz.prog Tryz.f91 K.eZ = true := by kernel_rfl
theorem x8 : az Tryz.prog Tryz.f92 K.fc = true := by kernel_rfl
theorem rj : az Tryz.prog Tryz.f93 K.b9 = true := by kernel_rfl
theorem CJ : az Tryz.prog Tryz.f42 K.gO = true := by kernel_rfl
theorem jg : az Tryz.prog Tryz.f82 K.aJ = true := by kernel_rfl
theorem uc : az Tryz.prog Tryz.f138 K.dF = true := by kernel_rfl
theorem A6 : az Tryz.prog Tryz.f80 K.eF = true := by kernel_rfl
theorem y6 : az Tryz.prog Tryz.f58 K.gr = true := by kernel_rfl
theorem A7 : az Tryz.prog Tryz.f278 K.iq = true := by kernel_rfl
theorem y7 : az Tryz.prog Tryz.f273 K.gu = true := by kernel_rfl
theorem y8 : az Tryz.prog Tryz.f284 K.gw = true := by kernel_rfl
theorem vQ : az Tryz.prog Tryz.f94 K.ef = true := by kernel_rfl
theorem vR : az Tryz.prog Tryz.f95 K.cM = true := by kernel_rfl
theorem CK : az Tryz.prog Tryz.f96 K.gP = true := by kernel_rfl
theorem x9 : az Tryz.prog Tryz.f304 K.dX = true := by kernel_rfl
theorem oQ : az Tryz.prog Tryz.f117 K.bw = true := by kernel_rfl
theorem oR : az Tryz.prog Tryz.f56 K.ae = true := by kernel_rfl
theorem ud : az Tryz.prog Tryz.f140 K.dG = true := by kernel_rfl
theorem ta : az Tryz.prog Tryz.f141 K.dj = true := by kernel_rfl
theorem ue : az Tryz.prog Tryz.f313 K.dH = true := by kernel_rfl
theorem En : az Tryz.prog Tryz.f199 K.kM = true := by kernel_rfl
theorem Eo : az Tryz.prog Tryz.f260 K.kN = true := by kernel_rfl
theorem Ep : az Tryz.prog Tryz.f294 K.kO = true := by kernel_rfl
theorem CL : az Tryz.prog Tryz.f301 K.jF = true := by kernel_rfl
theorem CM : az Tryz.prog Tryz.f36 K.jG = true := by kernel_rfl
theorem Er : az Tryz.prog Tryz.f164 K.kP = true := by kernel_rfl
theorem A8 : az Tryz.prog Tryz.f165 K.ir = true := by kernel_rfl
theorem Es : az Tryz.prog Tryz.f167 K.kQ = true := by kernel_rfl
theorem A9 : az Tryz.prog Tryz.f145 K.iu = true := by kernel_rfl
theorem Et : az Tryz.prog Tryz.f223 K.j8 = true := by kernel_rfl
theorem Eu : az Tryz.prog Tryz.f224 K.kR = true := by kernel_rfl
theorem pN : az Tryz.prog Tryz.f135 K.bX = true := by kernel_rfl
theorem Ba : az Tryz.prog Tryz.f282 K.iv = true := by kernel_rfl
theorem vS : az Tryz.prog Tryz.f282 K.eh = true := by kernel_rfl
theorem Bb : az Tryz.prog Tryz.f214 K.iw = true := by kernel_rfl
theorem rk : az Tryz.prog Tryz.f88 K.bJ = true := by kernel_rfl
theorem nY : az Tryz.prog Tryz.f89 K.bn = true := by kernel_rfl
theorem y9 : az Tryz.prog Tryz.f57 K.ff = true := by kernel_rfl
theorem ny : az Tryz.prog Tryz.f271 K.bH = true := by kernel_rfl
theorem ed : az Tryz.prog Tryz.f226 K.ak = true := by kernel_rfl
theorem ya : az Tryz.prog Tryz.f272 K.fg = true := by kernel_rfl
theorem mS : az Tryz.prog Tryz.f136 K.bf = true := by kernel_rfl
theorem eL : az Tryz.prog Tryz.f283 K.aA = true := by kernel_rfl
theorem Bc : az Tryz.prog Tryz.f37 K.iy = true := by kernel_rfl
theorem Bd : az Tryz.prog Tryz.f99 K.iz = true := by kernel_rfl
theorem Be : az Tryz.prog Tryz.f218 K.iA = true := by kernel_rfl
theorem jy : az Tryz.prog Tryz.f275 K.aV = true := by kernel_rfl
theorem jz : az Tryz.prog Tryz.f276 K.aW = true := by kernel_rfl
theorem yb : az Tryz.prog Tryz.f277 K.fh = true := by kernel_rfl
theorem mj : az Tryz.prog Tryz.f305 K.bA = true := by kernel_rfl
theorem gG : az Tryz.prog Tryz.f306 K.aI = true := by kernel_rfl
theorem i6 : az Tryz.prog Tryz.f307 K.aE = true := by kernel_rfl
theorem kh : az Tryz.prog Tryz.f315 K.a7 = true := by kernel_rfl
theorem iN : az Tryz.prog Tryz.f318 K.aL = true := by kernel_rfl
theorem jS : az Tryz.prog Tryz.f319 K.aT = true := by kernel_rfl
theorem vT : az Tryz.prog Tryz.f99 K.dw = true := by kernel_rfl
theorem Ew : az Tryz.prog Tryz.f168 K.kT = true := by kernel_rfl
theorem Bf : az Tryz.prog Tryz.f219 K.iB = true := by kernel_rfl
theorem Bg : az Tryz.prog Tryz.f225 K.iC = true := by kernel_rfl
theorem yc : az Tryz.prog Tryz.f227 K.fk = true := by kernel_rfl
theorem Ey : az Tryz.prog Tryz.f228 K.kU = true := by kernel_rfl
theorem jT : az Tryz.prog Tryz.f60 K.aH = true := by kernel_rfl
theorem kj : az Tryz.prog Tryz.f61 K.aM = true := by kernel_rfl
theorem Bh : az Tryz.prog Tryz.f31 K.iD = true := by kernel_rfl
theorem Bi : az Tryz.prog Tryz.f146 K.iE = true := by kernel_rfl
theorem CN : az Tryz.prog Tryz.f59 K.jI = true := by kernel_rfl
theorem uf : az Tryz.prog Tryz.f48 K.c7 = true := by kernel_rfl
theorem yd : az Tryz.prog Tryz.f49 K.fm = true := by kernel_rfl
theorem za : az Tryz.prog Tryz.f50 K.fp = true := by kernel_rfl
theorem zb : az Tryz.prog Tryz.f51 K.gx = true := by kernel_rfl
theorem zc : az Tryz.prog Tryz.f200 K.gy = true := by kernel_rfl
theorem Bj : az Tryz.prog Tryz.f97 K.gD = true := by kernel_rfl
theorem CO : az Tryz.prog Tryz.f98 K.jJ = true := by kernel_rfl
theorem rm : az Tryz.prog Tryz.f86 K.cI = true := by kernel_rfl
theorem eT : az Tryz.prog Tryz.f87 K.aC = true := by kernel_rfl
theorem jh : az Tryz.prog Tryz.f90 K.aO = true := by kernel_rfl
theorem ye : az Tryz.prog Tryz.f142 K.fq = true := by kernel_rfl
theorem gH : az Tryz.prog Tryz.f120 K.ay = true := by kernel_rfl
theorem yf : az Tryz.prog Tryz.f143 K.ft = true := by kernel_rfl
theorem yg : az Tryz.prog Tryz.f144 K.fv = true := by kernel_rfl
theorem fR : az Tryz.prog Tryz.f133 K.aF = true := by kernel_rfl
theorem hU : az Tryz.prog Tryz.f186 K.aN = true := by kernel_rfl
theorem ug : az Tryz.prog Tryz.f51 K.dI = true := by kernel_rfl
theorem CP : az Tryz.prog Tryz.f38 K.jK = true := by kernel_rfl
theorem CQ : az Tryz.prog Tryz.f33 K.jL = true := by kernel_rfl
theorem Bk : az Tryz.prog Tryz.f126 K.iF = true := by kernel_rfl
theorem CR : az Tryz.prog Tryz.f14 K.jM = true := by kernel_rfl
theorem zd : az Tryz.prog Tryz.f35 K.gz = true := by kernel_rfl
theorem Bl : az Tryz.prog Tryz.f39 K.eH = true := by kernel_rfl
theorem km : az Tryz.prog Tryz.f62 K.a8 = true := by kernel_rfl
theorem ze : az Tryz.prog Tryz.f63 K.fw = true := by kernel_rfl
theorem yh : az Tryz.prog Tryz.f64 K.dY = true := by kernel_rfl
theorem jU : az Tryz.prog Tryz.f65 K.aY = true := by kernel_rfl
theorem CS : az Tryz.prog Tryz.f66 K.jN = true := by kernel_rfl
theorem vU : az Tryz.prog Tryz.f100 K.cN = true := by kernel_rfl
theorem vV : az Tryz.prog Tryz.f101 K.cO = true := by kernel_rfl
theorem vW : az Tryz.prog Tryz.f102 K.cP = true := by kernel_rfl
theorem vX : az Tryz.prog Tryz.f103 K.cQ = true := by kernel_rfl
theorem vY : az Tryz.prog Tryz.f104 K.cR = true := by kernel_rfl
theorem vZ : az Tryz.prog Tryz.f105 K.cT = true := by kernel_rfl
theorem wa : az Tryz.prog Tryz.f110 K.cU = true := by kernel_rfl
theorem wb : az Tryz.prog Tryz.f111 K.cV = true := by kernel_rfl
theorem wc : az Tryz.prog Tryz.f112 K.cW = true := by kernel_rfl
theorem uh : az Tryz.prog Tryz.f155 K.bY = true := by kernel_rfl
theorem CT : az Tryz.prog Tryz.f5 K.fY = true := by kernel_rfl
theorem G1 : az Tryz.prog Tryz.f15 K.mB = true := by kernel_rfl
theorem Bm : az Tryz.prog Tryz.f16 K.iG = true := by kernel_rfl
theorem Ez : az Tryz.prog Tryz.f40 K.kV = true := by kernel_rfl
theorem Bo : az Tryz.prog Tryz.f41 K.iH = true := by kernel_rfl
theorem EA : az Tryz.prog Tryz.f67 K.kW = true := by kernel_rfl
theorem yi : az Tryz.prog Tryz.f68 K.fx = true := by kernel_rfl
theorem we : az Tryz.prog Tryz.f69 K.dy = true := by kernel_rfl
theorem yj : az Tryz.prog Tryz.f70 K.fy = true := by kernel_rfl
theorem Bp : az Tryz.prog Tryz.f71 K.iI = true := by kernel_rfl
theorem yk : az Tryz.prog Tryz.f72 K.fA = true := by kernel_rfl
theorem zf : az Tryz.prog Tryz.f73 K.gA = true := by kernel_rfl
theorem yl : az Tryz.prog Tryz.f74 K.fB = true := by kernel_rfl
theorem ym : az Tryz.prog Tryz.f75 K.fC = true := by kernel_rfl
theorem yn : az Tryz.prog Tryz.f76 K.fD = true := by kernel_rfl
theorem yo : az Tryz.prog Tryz.f77 K.fE = true := by kernel_rfl
theorem zg : az Tryz.prog Tryz.f78 K.gB = true := by kernel_rfl
theorem ui : az Tryz.prog Tryz.f106 K.cr = true := by kernel_rfl
theorem yp : az Tryz.prog Tryz.f107 K.dz = true := by kernel_rfl
theorem uj : az Tryz.prog Tryz.f108 K.ct = true := by kernel_rfl
theorem uk : az Tryz.prog Tryz.f109 K.cu = true := by kernel_rfl
theorem tc : az Tryz.prog Tryz.f116 K.dk = true := by kernel_rfl
theorem zh : az Tryz.prog Tryz.f118 K.fF = true := by kernel_rfl
theorem wg : az Tryz.prog Tryz.f121 K.ei = true := by kernel_rfl
theorem eU : az Tryz.prog Tryz.f123 K.aD = true := by kernel_rfl
theorem um : az Tryz.prog Tryz.f124 K.dJ = true := by kernel_rfl
theorem Bq : az Tryz.prog Tryz.f125 K.gE = true := by kernel_rfl
theorem zi : az Tryz.prog Tryz.f127 K.gC = true := by kernel_rfl
theorem wi : az Tryz.prog Tryz.f128 K.ek = true := by kernel_rfl
theorem rn : az Tryz.prog Tryz.f163 K.cJ = true := by kernel_rfl
theorem rp : az Tryz.prog Tryz.f166 K.cK = true := by kernel_rfl
theorem wj : az Tryz.prog Tryz.f184 K.en = true := by kernel_rfl
theorem fS : az Tryz.prog Tryz.f188 K.aG = true := by kernel_rfl
theorem wk : az Tryz.prog Tryz.f3 K.cy = true := by kernel_rfl
theorem uo : az Tryz.prog Tryz.f10 K.bZ = true := by kernel_rfl
theorem uq : az Tryz.prog Tryz.f11 K.b5 = true := by kernel_rfl
theorem ur : az Tryz.prog Tryz.f12 K.bN = true := by kernel_rfl
theorem wm : az Tryz.prog Tryz.f13 K.cz = true := by kernel_rfl
theorem uu : az Tryz.prog Tryz.f23 K.bO = true := by kernel_rfl
theorem zj : az Tryz.prog Tryz.f24 K.dK = true := by kernel_rfl
theorem rq : az Tryz.prog Tryz.f26 K.bz = true := by kernel_rfl
theorem pO : az Tryz.prog Tryz.f27 K.br = true := by kernel_rfl
theorem yq : az Tryz.prog Tryz.f28 K.c8 = true := by kernel_rfl
theorem zk : az Tryz.prog Tryz.f29 K.dL = true := by kernel_rfl
theorem yr : az Tryz.prog Tryz.f30 K.c9 = true := by kernel_rfl
theorem uv : az Tryz.prog Tryz.f43 K.cA = true := by kernel_rfl
theorem ru : az Tryz.prog Tryz.f45 K.bk = true := by kernel_rfl
theorem rv : az Tryz.prog Tryz.f46 K.bP = true := by kernel_rfl
theorem rz : az Tryz.prog Tryz.f81 K.bD = true := by kernel_rfl
theorem uw : az Tryz.prog Tryz.f83 K.cB = true := by kernel_rfl
theorem pP : az Tryz.prog Tryz.f85 K.bg = true := by kernel_rfl
theorem wo : az Tryz.prog Tryz.f131 K.bE = true := by kernel_rfl
theorem rA : az Tryz.prog Tryz.f132 K.bq = true := by kernel_rfl
theorem Yp : Dr Tryz.prog real tab :=
 ⟨trivial, ⟨⟨by kernel_rfl, aa Tryz.func4 CB⟩, ⟨trivial, ⟨⟨by kernel_rfl, aa Tryz.func6 Em⟩, ⟨⟨by kernel_rfl, aa Tryz.func7 vN⟩, ⟨trivial, ⟨trivial, ⟨⟨by kernel_rfl, aa Tryz.func8 tZ⟩, ⟨trivial, ⟨⟨by kernel_rfl, aa Tryz.func9 vO⟩, ⟨⟨by kernel_rfl, aa Tryz.func18 yW⟩, ⟨trivial, ⟨trivial, ⟨trivial, ⟨trivial, ⟨⟨by kernel_rfl, aa Tryz.func17 xZ⟩, ⟨trivial, ⟨trivial, ⟨trivial, ⟨trivial, ⟨trivial, ⟨trivial, ⟨trivial, ⟨⟨by kernel_rfl, aa Tryz.func19 GZ⟩, ⟨trivial, ⟨trivial, ⟨trivial, ⟨trivial, ⟨trivial, ⟨trivial, ⟨trivial, ⟨trivial, ⟨trivial, ⟨trivial, ⟨trivial, ⟨trivial, ⟨trivial, ⟨trivial, ⟨trivial, ⟨trivial, ⟨trivial, ⟨trivial, ⟨trivial, ⟨trivial, ⟨trivial, ⟨trivial, ⟨trivial, ⟨⟨by kernel_rfl, aa Tryz.func84 A0⟩, ⟨trivial, ⟨⟨by kernel_rfl, aa Tryz.func25 lz⟩, ⟨trivial, ⟨⟨by kernel_rfl, aa Tryz.func113 mR⟩, ⟨trivial, ⟨⟨by kernel_rfl, aa Tryz.func114 vP⟩, ⟨trivial, ⟨trivial, ⟨trivial, ⟨trivial, ⟨trivial, ⟨trivial, ⟨trivial, ⟨trivial, ⟨trivial, ⟨trivial, ⟨trivial, ⟨trivial, ⟨⟨by kernel_rfl, aa Tryz.func47 mi⟩, ⟨⟨by kernel_rfl, aa Tryz.func180 oO⟩, ⟨⟨by kernel_rfl, aa Tryz.func181 s9⟩, ⟨⟨by kernel_rfl, aa Tryz.func115 gU⟩, ⟨⟨by kernel_rfl, aa Tryz.func182 qc⟩, ⟨⟨by kernel_rfl, aa Tryz.func22 G0⟩, ⟨trivial, ⟨trivial, ⟨trivial, ⟨⟨by kernel_rfl, aa Tryz.func183 iW⟩, ⟨trivial, ⟨trivial, ⟨trivial, ⟨trivial, ⟨trivial, ⟨trivial, ⟨trivial, ⟨trivial, ⟨trivial, ⟨trivial, ⟨⟨by kernel_rfl, aa Tryz.func169 CC⟩, ⟨⟨by kernel_rfl, aa Tryz.func170 yX⟩, ⟨⟨by kernel_rfl, aa Tryz.func171 A1⟩, ⟨trivial, ⟨⟨by kernel_rfl, aa Tryz.func34 yY⟩, ⟨trivial, ⟨trivial, ⟨trivial, ⟨trivial, ⟨trivial, ⟨trivial, ⟨trivial, ⟨trivial, ⟨trivial, ⟨⟨by kernel_rfl, aa Tryz.func285 A2⟩, ⟨trivial, ⟨trivial, ⟨⟨by kernel_rfl, aa Tryz.func229 oP⟩, ⟨⟨by kernel_rfl, aa Tryz.func237 x0⟩, ⟨⟨by kernel_rfl, aa Tryz.func21 yZ⟩, ⟨trivial, ⟨trivial, ⟨trivial, ⟨trivial, ⟨⟨by kernel_rfl, aa Tryz.func79 CD⟩, ⟨⟨by kernel_rfl, aa Tryz.func119 CE⟩, ⟨trivial, ⟨trivial, ⟨trivial, ⟨⟨by kernel_rfl, aa Tryz.func129 y0⟩, ⟨⟨by kernel_rfl, aa Tryz.func55 CF⟩, ⟨⟨by kernel_rfl, aa Tryz.func130 CG⟩, ⟨⟨by kernel_rfl, aa Tryz.func185 y1⟩, ⟨⟨by kernel_rfl, aa Tryz.func195 y2⟩, ⟨trivial, ⟨trivial, ⟨trivial, ⟨trivial, ⟨trivial, ⟨trivial, ⟨trivial, ⟨trivial, ⟨⟨by kernel_rfl, aa Tryz.func122 A3⟩, ⟨trivial, ⟨trivial, ⟨trivial, ⟨trivial, ⟨trivial, ⟨trivial, ⟨trivial, ⟨⟨by kernel_rfl, aa Tryz.func187 CH⟩, ⟨trivial, ⟨trivial, ⟨trivial, ⟨trivial, ⟨trivial, ⟨trivial, ⟨trivial, ⟨trivial, ⟨⟨by kernel_rfl, aa Tryz.func238 ua⟩, ⟨⟨by kernel_rfl, aa Tryz.func239 y3⟩, ⟨⟨by kernel_rfl, aa Tryz.func240 y4⟩, ⟨⟨by kernel_rfl, aa Tryz.func289 rf⟩, ⟨trivial, ⟨trivial, ⟨trivial, ⟨trivial, ⟨trivial, ⟨⟨by kernel_rfl, aa Tryz.func32 A4⟩, ⟨⟨by kernel_rfl, aa Tryz.func139 y5⟩, ⟨trivial, ⟨trivial, ⟨trivial, ⟨⟨by kernel_rfl, aa Tryz.func52 A5⟩, ⟨⟨by kernel_rfl, aa Tryz.func53 nX⟩, ⟨⟨by kernel_rfl, aa Tryz.func54 qd⟩, ⟨trivial, ⟨trivial, ⟨trivial, ⟨trivial, ⟨trivial, ⟨⟨by kernel_rfl, aa Tryz.func20 CI⟩, ⟨⟨by kernel_rfl, aa Tryz.func44 iM⟩, ⟨⟨by kernel_rfl, aa Tryz.func91 x7⟩, ⟨⟨by kernel_rfl, aa Tryz.func92 x8⟩, ⟨⟨by kernel_rfl, aa Tryz.func93 rj⟩, ⟨trivial, ⟨⟨by kernel_rfl, aa Tryz.func42 CJ⟩, ⟨⟨by kernel_rfl, aa Tryz.func82 jg⟩, ⟨trivial, ⟨⟨by kernel_rfl, aa Tryz.func138 uc⟩, ⟨⟨by kernel_rfl, aa Tryz.func80 A6⟩, ⟨trivial, ⟨trivial, ⟨trivial, ⟨trivial, ⟨trivial, ⟨trivial, ⟨trivial, ⟨trivial, ⟨⟨by kernel_rfl, aa Tryz.func58 y6⟩, ⟨trivial, ⟨trivial, ⟨⟨by kernel_rfl, aa Tryz.func278 A7⟩, ⟨⟨by kernel_rfl, aa Tryz.func273 y7⟩, ⟨trivial, ⟨trivial, ⟨trivial, ⟨⟨by kernel_rfl, aa Tryz.func284 y8⟩, ⟨trivial, ⟨trivial, ⟨trivial, ⟨⟨by kernel_rfl, aa Tryz.func94 vQ⟩, ⟨⟨by kernel_rfl, aa Tryz.func95 vR⟩, ⟨⟨by kernel_rfl, aa Tryz.func96 CK⟩, ⟨⟨by kernel_rfl, aa Tryz.func304 x9⟩, ⟨⟨by kernel_rfl, aa Tryz.func117 oQ⟩, ⟨trivial, ⟨⟨by kernel_rfl, aa Tryz.func56 oR⟩, ⟨trivial, ⟨trivial, ⟨trivial, ⟨⟨by kernel_rfl, aa Tryz.func140 ud⟩, ⟨⟨by kernel_rfl, aa Tryz.func141 ta⟩, ⟨⟨by kernel_rfl, aa Tryz.func313 ue⟩, ⟨⟨by kernel_rfl, aa Tryz.func199 En⟩, ⟨⟨by kernel_rfl, aa Tryz.func260 Eo⟩, ⟨⟨by kernel_rfl, aa Tryz.func294 Ep⟩, ⟨⟨by kernel_rfl, aa Tryz.func301 CL⟩, ⟨trivial, ⟨trivial, ⟨trivial, ⟨trivial, ⟨trivial, ⟨trivial, ⟨trivial, ⟨trivial, ⟨⟨by kernel_rfl, aa Tryz.func36 CM⟩, ⟨⟨by kernel_rfl, aa Tryz.func164 Er⟩, ⟨⟨by kernel_rfl, aa Tryz.func165 A8⟩, ⟨trivial, ⟨trivial, ⟨⟨by kernel_rfl, aa Tryz.func167 Es⟩, ⟨trivial, ⟨⟨by kernel_rfl, aa Tryz.func145 A9⟩, ⟨trivial, ⟨trivial, ⟨trivial, ⟨trivial, ⟨trivial, ⟨trivial, ⟨trivial, ⟨trivial, ⟨⟨by kernel_rfl, aa Tryz.func223 Et⟩, ⟨⟨by kernel_rfl, aa Tryz.func224 Eu⟩, ⟨⟨by kernel_rfl, aa Tryz.func135 pN⟩, ⟨trivial, ⟨⟨by kernel_rfl, aa Tryz.func282 Ba⟩, ⟨⟨by kernel_rfl, aa Tryz.func282 vS⟩, ⟨trivial, ⟨trivial, ⟨trivial, ⟨trivial, ⟨trivial, ⟨trivial, ⟨trivial, ⟨trivial, ⟨trivial, ⟨trivial, ⟨trivial, ⟨trivial, ⟨⟨by kernel_rfl, aa Tryz.func214 Bb⟩, ⟨trivial, ⟨trivial, ⟨⟨by kernel_rfl, aa Tryz.func88 rk⟩, ⟨⟨by kernel_rfl, aa Tryz.func89 nY⟩, ⟨⟨by kernel_rfl, aa Tryz.func57 y9⟩, ⟨⟨by kernel_rfl, aa Tryz.func271 ny⟩, ⟨⟨by kernel_rfl, aa Tryz.func226 ed⟩, ⟨⟨by kernel_rfl, aa Tryz.func272 ya⟩, ⟨trivial, ⟨⟨by kernel_rfl, aa Tryz.func136 mS⟩, ⟨trivial, ⟨⟨by kernel_rfl, aa Tryz.func283 eL⟩, ⟨trivial, ⟨trivial, ⟨trivial, ⟨trivial, ⟨trivial, ⟨trivial, ⟨trivial, ⟨trivial, ⟨⟨by kernel_rfl, aa Tryz.func37 Bc⟩, ⟨trivial, ⟨trivial, ⟨trivial, ⟨trivial, ⟨trivial, ⟨trivial, ⟨trivial, ⟨trivial, ⟨trivial, ⟨trivial, ⟨⟨by kernel_rfl, aa Tryz.func99 Bd⟩, ⟨⟨by kernel_rfl, aa Tryz.func218 Be⟩, ⟨trivial, ⟨trivial, ⟨trivial, ⟨trivial, ⟨trivial, ⟨trivial, ⟨⟨by kernel_rfl, aa Tryz.func275 jy⟩, ⟨⟨by kernel_rfl, aa Tryz.func276 jz⟩, ⟨⟨by kernel_rfl, aa Tryz.func277 yb⟩, ⟨⟨by kernel_rfl, aa Tryz.func305 mj⟩, ⟨⟨by kernel_rfl, aa Tryz.func306 gG⟩, ⟨⟨by kernel_rfl, aa Tryz.func307 i6⟩, ⟨⟨by kernel_rfl, aa Tryz.func315 kh⟩, ⟨⟨by kernel_rfl, aa Tryz.func318 iN⟩, ⟨⟨by kernel_rfl, aa Tryz.func319 jS⟩, ⟨trivial, ⟨trivial, ⟨⟨by kernel_rfl, aa Tryz.func99 vT⟩, ⟨trivial, ⟨trivial, ⟨trivial, ⟨trivial, ⟨trivial, ⟨trivial, ⟨trivial, ⟨⟨by kernel_rfl, aa Tryz.func168 Ew⟩, ⟨trivial, ⟨trivial, ⟨⟨by kernel_rfl, aa Tryz.func219 Bf⟩, ⟨trivial, ⟨trivial, ⟨trivial, ⟨⟨by kernel_rfl, aa Tryz.func225 Bg⟩, ⟨⟨by kernel_rfl, aa Tryz.func227 yc⟩, ⟨⟨by kernel_rfl, aa Tryz.func228 Ey⟩, ⟨trivial, ⟨trivial, ⟨trivial, ⟨trivial, ⟨⟨by kernel_rfl, aa Tryz.func60 jT⟩, ⟨⟨by kernel_rfl, aa Tryz.func61 kj⟩, ⟨trivial, ⟨trivial, ⟨trivial, ⟨trivial, ⟨trivial, ⟨trivial, ⟨trivial, ⟨⟨by kernel_rfl, aa Tryz.func31 Bh⟩, ⟨trivial, ⟨trivial, ⟨⟨by kernel_rfl, aa Tryz.func146 Bi⟩, ⟨⟨by kernel_rfl, aa Tryz.func59 CN⟩, ⟨trivial, ⟨trivial, ⟨trivial, ⟨trivial, ⟨trivial, ⟨trivial, ⟨⟨by kernel_rfl, aa Tryz.func48 uf⟩, ⟨⟨by kernel_rfl, aa Tryz.func49 yd⟩, ⟨⟨by kernel_rfl, aa Tryz.func50 za⟩, ⟨⟨by kernel_rfl, aa Tryz.func51 zb⟩, ⟨trivial, ⟨trivial, ⟨trivial, ⟨trivial, ⟨trivial, ⟨⟨by kernel_rfl, aa Tryz.func200 zc⟩, ⟨⟨by kernel_rfl, aa Tryz.func97 Bj⟩, ⟨⟨by kernel_rfl, aa Tryz.func98 CO⟩, ⟨trivial, ⟨trivial, ⟨trivial, ⟨trivial, ⟨trivial, ⟨trivial, ⟨trivial, ⟨⟨by kernel_rfl, aa Tryz.func86 rm⟩, ⟨⟨by kernel_rfl, aa Tryz.func87 eT⟩, ⟨⟨by kernel_rfl, aa Tryz.func90 jh⟩, ⟨⟨by kernel_rfl, aa Tryz.func142 ye⟩, ⟨⟨by kernel_rfl, aa Tryz.func120 gH⟩, ⟨⟨by kernel_rfl, aa Tryz.func143 yf⟩, ⟨⟨by kernel_rfl, aa Tryz.func144 yg⟩, ⟨trivial, ⟨trivial, ⟨trivial, ⟨⟨by kernel_rfl, aa Tryz.func133 fR⟩, ⟨⟨by kernel_rfl, aa Tryz.func186 hU⟩, ⟨⟨by kernel_rfl, aa Tryz.func51 ug⟩, ⟨trivial, ⟨trivial, ⟨trivial, ⟨trivial, ⟨trivial, ⟨trivial, ⟨trivial, ⟨trivial, ⟨trivial, ⟨trivial, ⟨trivial, ⟨trivial, ⟨trivial, ⟨trivial, ⟨⟨by kernel_rfl, aa Tryz.func38 CP⟩, ⟨trivial, ⟨trivial, ⟨trivial, ⟨trivial, ⟨trivial, ⟨trivial, ⟨trivial, ⟨trivial, ⟨trivial, ⟨trivial, ⟨trivial, ⟨trivial, ⟨trivial, ⟨trivial, ⟨trivial, ⟨trivial, ⟨trivial, ⟨trivial, ⟨trivial, ⟨trivial, ⟨trivial, ⟨trivial, ⟨trivial, ⟨trivial, ⟨trivial, ⟨trivial, ⟨trivial, ⟨trivial, ⟨trivial, ⟨trivial, ⟨trivial, ⟨trivial, ⟨trivial, ⟨trivial, ⟨trivial, ⟨trivial, ⟨trivial, ⟨trivial, ⟨trivial, ⟨⟨by kernel_rfl, aa Tryz.func33 CQ⟩, ⟨trivial, ⟨⟨by kernel_rfl, aa Tryz.func126 Bk⟩, ⟨trivial, ⟨trivial, ⟨trivial, ⟨trivial, ⟨trivial, ⟨trivial, ⟨trivial, ⟨trivial, ⟨trivial, ⟨trivial, ⟨trivial, ⟨trivial, ⟨trivial, ⟨trivial, ⟨trivial, ⟨trivial, ⟨trivial, ⟨trivial, ⟨trivial, ⟨trivial, ⟨trivial, ⟨trivial, ⟨trivial, ⟨trivial, ⟨trivial, ⟨trivial, ⟨trivial, ⟨trivial, ⟨trivial, ⟨trivial, ⟨trivial, ⟨trivial, ⟨trivial, ⟨trivial, ⟨trivial, ⟨trivial, ⟨trivial, ⟨trivial, ⟨trivial, ⟨trivial, ⟨trivial, ⟨trivial, ⟨trivial, ⟨trivial, ⟨trivial, ⟨trivial, ⟨trivial, ⟨trivial, ⟨trivial, ⟨trivial, ⟨trivial, ⟨trivial, ⟨trivial, ⟨trivial, ⟨trivial, ⟨trivial, ⟨trivial, ⟨trivial, ⟨trivial, ⟨trivial, ⟨trivial, ⟨trivial, ⟨trivial, ⟨trivial, ⟨trivial, ⟨trivial, ⟨trivial, ⟨trivial, ⟨trivial, ⟨trivial, ⟨trivial, ⟨trivial, ⟨trivial, ⟨trivial, ⟨⟨by kernel_rfl, aa Tryz.func14 CR⟩, ⟨trivial, ⟨trivial, ⟨trivial, ⟨trivial, ⟨trivial, ⟨trivial, ⟨trivial, ⟨⟨by kernel_rfl, aa Tryz.func35 zd⟩, ⟨⟨by kernel_rfl, aa Tryz.func39 Bl⟩, ⟨trivial, ⟨trivial, ⟨⟨by kernel_rfl, aa Tryz.func62 km⟩, ⟨⟨by kernel_rfl, aa Tryz.func63 ze⟩, ⟨⟨by kernel_rfl, aa Tryz.func64 yh⟩, ⟨⟨by kernel_rfl, aa Tryz.func65 jU⟩, ⟨⟨by kernel_rfl, aa Tryz.func66 CS⟩, ⟨trivial, ⟨trivial, ⟨trivial, ⟨trivial, ⟨⟨by kernel_rfl, aa Tryz.func100 vU⟩, ⟨⟨by kernel_rfl, aa Tryz.func101 vV⟩, ⟨⟨by kernel_rfl, aa Tryz.func102 vW⟩, ⟨⟨by kernel_rfl, aa Tryz.func103 vX⟩, ⟨⟨by kernel_rfl, aa Tryz.func104 vY⟩, ⟨⟨by kernel_rfl, aa Tryz.func105 vZ⟩, ⟨trivial, ⟨trivial, ⟨trivial, ⟨trivial, ⟨⟨by kernel_rfl, aa Tryz.func110 wa⟩, ⟨⟨by kernel_rfl, aa Tryz.func111 wb⟩, ⟨⟨by kernel_rfl, aa Tryz.func112 wc⟩, ⟨trivial, ⟨trivial, ⟨trivial, ⟨⟨by kernel_rfl, aa Tryz.func155 uh⟩, ⟨trivial, ⟨trivial, ⟨trivial, ⟨trivial, ⟨trivial, ⟨trivial, ⟨trivial, ⟨trivial, ⟨trivial, ⟨trivial, ⟨trivial, ⟨trivial, ⟨⟨by kernel_rfl, aa Tryz.func5 CT⟩, ⟨trivial, ⟨trivial, ⟨trivial, ⟨trivial, ⟨⟨by kernel_rfl, aa Tryz.func15 G1⟩, ⟨⟨by kernel_rfl, aa Tryz.func16 Bm⟩, ⟨trivial, ⟨trivial, ⟨trivial, ⟨trivial, ⟨trivial, ⟨trivial, ⟨trivial, ⟨trivial, ⟨⟨by kernel_rfl, aa Tryz.func40 Ez⟩, ⟨⟨by kernel_rfl, aa Tryz.func41 Bo⟩, ⟨trivial, ⟨trivial, ⟨⟨by kernel_rfl, aa Tryz.func67 EA⟩, ⟨⟨by kernel_rfl, aa Tryz.func68 yi⟩, ⟨⟨by kernel_rfl, aa Tryz.func69 we⟩, ⟨⟨by kernel_rfl, aa Tryz.func70 yj⟩, ⟨⟨by kernel_rfl, aa Tryz.func71 Bp⟩, ⟨⟨by kernel_rfl, aa Tryz.func72 yk⟩, ⟨⟨by kernel_rfl, aa Tryz.func73 zf⟩, ⟨⟨by kernel_rfl, aa Tryz.func74 yl⟩, ⟨⟨by kernel_rfl, aa Tryz.func75 ym⟩, ⟨⟨by kernel_rfl, aa Tryz.func76 yn⟩, ⟨⟨by kernel_rfl, aa Tryz.func77 yo⟩, ⟨⟨by kernel_rfl, aa Tryz.func78 zg⟩, ⟨⟨by kernel_rfl, aa Tryz.func106 ui⟩, ⟨⟨by kernel_rfl, aa Tryz.func107 yp⟩, ⟨⟨by kernel_rfl, aa Tryz.func108 uj⟩, ⟨⟨by kernel_rfl, aa Tryz.func109 uk⟩, ⟨⟨by kernel_rfl, aa Tryz.func116 tc⟩, ⟨⟨by kernel_rfl, aa Tryz.func118 zh⟩, ⟨⟨by kernel_rfl, aa Tryz.func121 wg⟩, ⟨⟨by kernel_rfl, aa Tryz.func123 eU⟩, ⟨⟨by kernel_rfl, aa Tryz.func124 um⟩, ⟨⟨by kernel_rfl, aa Tryz.func125 Bq⟩, ⟨⟨by kernel_rfl, aa Tryz.func127 zi⟩, ⟨⟨by kernel_rfl, aa Tryz.func128 wi⟩, ⟨⟨by kernel_rfl, aa Tryz.func163 rn⟩, ⟨⟨by kernel_rfl, aa Tryz.func166 rp⟩, ⟨⟨by kernel_rfl, aa Tryz.func184 wj⟩, ⟨⟨by kernel_rfl, aa Tryz.func188 fS⟩, ⟨trivial, ⟨trivial, ⟨trivial, ⟨trivial, ⟨⟨by kernel_rfl, aa Tryz.func3 wk⟩, ⟨⟨by kernel_rfl, aa Tryz.func10 uo⟩, ⟨⟨by kernel_rfl, aa Tryz.func11 uq⟩, ⟨⟨by kernel_rfl, aa Tryz.func12 ur⟩, ⟨⟨by kernel_rfl, aa Tryz.func13 wm⟩, ⟨⟨by kernel_rfl, aa Tryz.func23 uu⟩, ⟨⟨by kernel_rfl, aa Tryz.func24 zj⟩, ⟨⟨by kernel_rfl, aa Tryz.func26 rq⟩, ⟨⟨by kernel_rfl, aa Tryz.func27 pO⟩, ⟨⟨by kernel_rfl, aa Tryz.func28 yq⟩, ⟨⟨by kernel_rfl, aa Tryz.func29 zk⟩, ⟨⟨by kernel_rfl, aa Tryz.func30 yr⟩, ⟨⟨by kernel_rfl, aa Tryz.func43 uv⟩, ⟨⟨by kernel_rfl, aa Tryz.func45 ru⟩, ⟨⟨by kernel_rfl, aa Tryz.func46 rv⟩, ⟨⟨by kernel_rfl, aa Tryz.func81 rz⟩, ⟨⟨by kernel_rfl, aa Tryz.func83 uw⟩, ⟨⟨by kernel_rfl, aa Tryz.func85 pP⟩, ⟨⟨by kernel_rfl, aa Tryz.func131 wo⟩, ⟨⟨by kernel_rfl, aa Tryz.func132 rA⟩, trivial⟩⟩⟩⟩⟩⟩⟩⟩⟩⟩⟩⟩⟩⟩⟩⟩⟩⟩⟩⟩⟩⟩⟩⟩⟩⟩⟩⟩⟩⟩⟩⟩⟩⟩⟩⟩⟩⟩⟩⟩⟩⟩⟩⟩⟩⟩⟩⟩⟩⟩⟩⟩⟩⟩⟩⟩⟩⟩⟩⟩⟩⟩⟩⟩⟩⟩⟩⟩⟩⟩⟩⟩⟩⟩⟩⟩⟩⟩⟩⟩⟩⟩⟩⟩⟩⟩⟩⟩⟩⟩⟩⟩⟩⟩⟩⟩⟩⟩⟩⟩⟩⟩⟩⟩⟩⟩⟩⟩⟩⟩⟩⟩⟩⟩⟩⟩⟩⟩⟩⟩⟩⟩⟩⟩⟩⟩⟩⟩⟩⟩⟩⟩⟩⟩⟩⟩⟩⟩⟩⟩⟩⟩⟩⟩⟩⟩⟩⟩⟩⟩⟩⟩⟩⟩⟩⟩⟩⟩⟩⟩⟩⟩⟩⟩⟩⟩⟩⟩⟩⟩⟩⟩⟩⟩⟩⟩⟩⟩⟩⟩⟩⟩⟩⟩⟩⟩⟩⟩⟩⟩⟩⟩⟩⟩⟩⟩⟩⟩⟩⟩⟩⟩⟩⟩⟩⟩⟩⟩⟩⟩⟩⟩⟩⟩⟩⟩⟩⟩⟩⟩⟩⟩⟩⟩⟩⟩⟩⟩⟩⟩⟩⟩⟩⟩⟩⟩⟩⟩⟩⟩⟩⟩⟩⟩⟩⟩⟩⟩⟩⟩⟩⟩⟩⟩⟩⟩⟩⟩⟩⟩⟩⟩⟩⟩⟩⟩⟩⟩⟩⟩⟩⟩⟩⟩⟩⟩⟩⟩⟩⟩⟩⟩⟩⟩⟩⟩⟩⟩⟩⟩⟩⟩⟩⟩⟩⟩⟩⟩⟩⟩⟩⟩⟩⟩⟩⟩⟩⟩⟩⟩⟩⟩⟩⟩⟩⟩⟩⟩⟩⟩⟩⟩⟩⟩⟩⟩⟩⟩⟩⟩⟩⟩⟩⟩⟩⟩⟩⟩⟩⟩⟩⟩⟩⟩⟩⟩⟩⟩⟩⟩⟩⟩⟩⟩⟩⟩⟩⟩⟩⟩⟩⟩⟩⟩⟩⟩⟩⟩⟩⟩⟩⟩⟩⟩⟩⟩⟩⟩⟩⟩⟩⟩⟩⟩⟩⟩⟩⟩⟩⟩⟩⟩⟩⟩⟩⟩⟩⟩⟩⟩⟩⟩⟩⟩⟩⟩⟩⟩⟩⟩⟩⟩⟩⟩⟩⟩⟩⟩⟩⟩⟩⟩⟩⟩⟩⟩⟩⟩⟩⟩⟩⟩⟩⟩⟩⟩⟩⟩⟩⟩⟩⟩⟩⟩⟩⟩⟩⟩⟩⟩⟩⟩⟩⟩⟩⟩⟩⟩⟩⟩⟩⟩⟩⟩⟩⟩⟩⟩⟩⟩⟩⟩⟩⟩⟩⟩⟩⟩⟩⟩⟩⟩⟩⟩⟩⟩⟩⟩⟩⟩⟩⟩⟩⟩⟩⟩⟩⟩⟩⟩⟩⟩⟩⟩⟩⟩⟩⟩⟩⟩⟩⟩⟩⟩⟩⟩⟩⟩⟩⟩⟩⟩⟩⟩⟩⟩⟩⟩⟩⟩⟩⟩⟩⟩⟩⟩⟩⟩⟩⟩⟩⟩⟩⟩⟩⟩⟩⟩⟩⟩⟩⟩⟩⟩⟩⟩⟩⟩⟩⟩⟩⟩⟩⟩⟩⟩⟩⟩⟩⟩⟩⟩⟩⟩⟩⟩⟩⟩⟩⟩⟩⟩⟩⟩⟩⟩⟩⟩⟩⟩⟩⟩⟩⟩⟩⟩⟩⟩⟩⟩⟩⟩⟩⟩⟩⟩⟩⟩⟩⟩⟩⟩⟩⟩⟩⟩⟩⟩⟩⟩⟩⟩⟩⟩⟩⟩⟩⟩⟩⟩⟩⟩⟩⟩
theorem Yq : ∀ f j, Names.ρ f = some j → Names.it f = true → Aa Tryz.prog j := fun f j hj h => Bool.noConfusion (show false = true from h)
def R5 : List (Nat × List Nat) := [(241, [1]), (260, [2, N.bf]), (300, [3, N.aE]), (582, [6, N.cN, N.cO, N.cP, N.cQ, N.cR, N.cT, N.cr, N.dz, N.ct, N.cu, N.cU, N.cV, N.cW])]
def CU : Go.Shelf.Ren := ⟨fun | 189 => 135 | 125 => 198 | 257 => 197 | 128 => 258 | 129 => 259 | 294 => 249 | 295 => 250 | 296 => 251 | 297 => 252 | 298 => 253 | 299 => 254 | 216 => 255 | 300 => 256 | 301 => 257 | 328 => 296 | 329 => 297 | 330 => 298 | 331 => 299 | 332 => 300 | 215 => 248 | 343 => 312 | n => n, fun | 28 => 22 | 3 => 3 | 46 => 175 | 0 => 0 | 51 => 209 | 53 => 212 | 4 => 4 | 183 => 332 | 182 => 331 | 131 => 300 | 5 => 5 | 9 => 9 | 218 => 367 | 222 => 276 | 228 => 377 | 229 => 378 | n => n, fun | n => n⟩
theorem FM : Go.Proofs.Lays.n189 Tryz.prog CU := {
 mixed := by kernel_rfl,
 f125 := Tryz.func198.trans (congrArg some (by kernel_rfl)),
 f128 := Tryz.func258.trans (congrArg some (by kernel_rfl)),
 f129 := Tryz.func259.trans (congrArg some (by kernel_rfl)),
 f189 := Tryz.func135.trans (congrArg some (by kernel_rfl)),
 f215 := Tryz.func248.trans (congrArg some (by kernel_rfl)),
 f216 := Tryz.func255.trans (congrArg some (by kernel_rfl)),
 f257 := Tryz.func197.trans (congrArg some (by kernel_rfl)),
 f294 := Tryz.func249.trans (congrArg some (by kernel_rfl)),
 f295 := Tryz.func250.trans (congrArg some (by kernel_rfl)),
 f296 := Tryz.func251.trans (congrArg some (by kernel_rfl)),
 f297 := Tryz.func252.trans (congrArg some (by kernel_rfl)),
 f298 := Tryz.func253.trans (congrArg some (by kernel_rfl)),
 f299 := Tryz.func254.trans (congrArg some (by kernel_rfl)),
 f300 := Tryz.func256.trans (congrArg some (by kernel_rfl)),
 f301 := Tryz.func257.trans (congrArg some (by kernel_rfl)),
 f328 := Tryz.func296.trans (congrArg some (by kernel_rfl)),
 f329 := Tryz.func297.trans (congrArg some (by kernel_rfl)),
 f330 := Tryz.func298.trans (congrArg some (by kernel_rfl)),
 f331 := Tryz.func299.trans (congrArg some (by kernel_rfl)),
 f332 := Tryz.func300.trans (congrArg some (by kernel_rfl)),
 f343 := Tryz.func312.trans (congrArg some (by kernel_rfl)),
 t0 := Tryz.underlying0,
 a0 := Tryz.isAgg0,
 z0 := Tryz.sizeOf0,
 v0 := Tryz.zeroValue0,
 t3 := Tryz.underlying3,
 a3 := Tryz.isAgg3,
 z3 := Tryz.sizeOf3,
 v3 := Tryz.zeroValue3,
 t4 := Tryz.underlying4,
 a4 := Tryz.isAgg4,
 z4 := Tryz.sizeOf4,
 v4 := Tryz.zeroValue4,
 t5 := Tryz.underlying5,
 a5 := Tryz.isAgg5,
 z5 := Tryz.sizeOf5,
 v5 := Tryz.zeroValue5,
 t9 := Tryz.underlying9,
 a9 := Tryz.isAgg9,
 z9 := Tryz.sizeOf9,
 v9 := Tryz.zeroValue9,
 t28 := Tryz.underlying22,
 a28 := Tryz.isAgg22,
 z28 := Tryz.sizeOf22,
 v28 := Tryz.zeroValue22,
 t46 := Tryz.underlying175,
 a46 := Tryz.isAgg175,
 z46 := Tryz.sizeOf175,
 v46 := Tryz.zeroValue175,
 t51 := Tryz.underlying209,
 a51 := Tryz.isAgg209,
 z51 := Tryz.sizeOf209,
 v51 := Tryz.zeroValue209,
 t53 := Tryz.underlying212,
 a53 := Tryz.isAgg212,
 z53 := Tryz.sizeOf212,
 v53 := Tryz.zeroValue212,
 t131 := Tryz.underlying300,
 a131 := Tryz.isAgg300,
 z131 := Tryz.sizeOf300,
 v131 := Tryz.zeroValue300,
 t182 := Tryz.underlying331,
 a182 := Tryz.isAgg331,
 z182 := Tryz.sizeOf331,
 v182 := Tryz.zeroValue331,
 t183 := Tryz.underlying332,
 a183 := Tryz.isAgg332,
 z183 := Tryz.sizeOf332,
 v183 := Tryz.zeroValue332,
 t218 := Tryz.underlying367,
 a218 := Tryz.isAgg367,
 z218 := Tryz.sizeOf367,
 v218 := Tryz.zeroValue367,
 t222 := Tryz.underlying276,
 a222 := Tryz.isAgg276,
 z222 := Tryz.sizeOf276,
 v222 := Tryz.zeroValue276,
 t228 := Tryz.underlying377,
 a228 := Tryz.isAgg377,
 z228 := Tryz.sizeOf377,
 v228 := Tryz.zeroValue377,
 t229 := Tryz.underlying378,
 a229 := Tryz.isAgg378,
 z229 := Tryz.sizeOf378,
 v229 := Tryz.zeroValue378 }
theorem Mj : ∀ j, Names.ρ 241 = some j → mV Tryz.prog j [1] := fun j hj => by
 have e : (Names.ρ 241 : Option Nat) = some 135 := by kernel_rfl
 rw [e] at hj; cases hj; exact JJ FM
def zm : Go.Shelf.Ren := ⟨fun | 6 => 88 | 8 => 134 | 9 => 135 | 11 => 196 | 13 => 198 | 12 => 197 | 23 => 258 | 24 => 259 | 14 => 249 | 15 => 250 | 16 => 251 | 17 => 252 | 18 => 253 | 19 => 254 | 20 => 255 | 21 => 256 | 22 => 257 | 25 => 296 | 26 => 297 | 27 => 298 | 28 => 299 | 29 => 300 | 30 => 248 | 31 => 312 | n => n, fun | 26 => 3 | 28 => 172 | 24 => 22 | 0 => 0 | 3 => 3 | 37 => 175 | 48 => 209 | 50 => 212 | 4 => 4 | 40 => 332 | 39 => 331 | 45 => 300 | 5 => 5 | 9 => 9 | 51 => 367 | 55 => 276 | 57 => 377 | 58 => 378 | 33 => 94 | n => n, fun | n => n⟩
theorem G2 : Go.Proofs.SlLaysZI.n6 Tryz.prog zm := {
 f6 := ⟨"slices.Sorted[int]", by kernel_rfl, Tryz.func88.trans (congrArg some (by kernel_rfl))⟩,
 f8 := ⟨"slices.Collect[int]", by kernel_rfl, Tryz.func134.trans (congrArg some (by kernel_rfl))⟩,
 f11 := ⟨"slices.AppendSeq[[]int,int]", by kernel_rfl, Tryz.func196.trans (congrArg some (by kernel_rfl))⟩,
 mixed := by kernel_rfl,
 t0 := Tryz.underlying0,
 a0 := Tryz.isAgg0,
 z0 := Tryz.sizeOf0,
 v0 := Tryz.zeroValue0,
 t24 := Tryz.underlying22,
 a24 := Tryz.isAgg22,
 z24 := Tryz.sizeOf22,
 v24 := Tryz.zeroValue22,
 t26 := Tryz.underlying3,
 a26 := Tryz.isAgg3,
 z26 := Tryz.sizeOf3,
 v26 := Tryz.zeroValue3,
 t28 := Tryz.underlying172,
 a28 := Tryz.isAgg172,
 z28 := Tryz.sizeOf172,
 v28 := Tryz.zeroValue172,
 i26 := by kernel_rfl }
section
open Go.RowKit Go.Shelf Go.Maps Go.Sort Go.Proofs
/- the iterator of slices.Values at this program -/
set_option maxRecDepth 100000 in
set_option maxHeartbeats 2000000 in
theorem adz (n l Bs : Nat) (hn : 1 ≤ n) (W0 : World) (b off len cap : Nat) (zs : List Int) (hlen : zs.length = len) (hreach : len * 8 ≤ 140737488351232) (hb : b < W0.heap.size) (J : List Int → World → Prop)
 (hJ : ∀ s W1, J s W1 → Below W0.heap.size W0 W1)
 (hY : ∀ pre x W1, J pre W1 → pre.length < zs.length → YieldAt Fence.wide (n - 1) Tryz.prog l #[encZ x] W1 fun e W' => e = .returned (.bool true) ∧ J (pre ++ [x]) W' ∧ KeepsWalks W1 W')
 (W : World) (hBs : W.cell? ⟨Bs, 0, none⟩ = some (.slice (some ⟨b, off, none⟩) len cap)) (hc : ∀ j, j < len → W0.cell? ⟨b, off + j, none⟩ = some (.int .i64 (zs[j]?.getD 0))) (h0 : J [] W) :
 CallsIn Fence.wide n Tryz.prog 136 #[.func (.yield l) #[] #[], .pointer (some ⟨Bs, 0, none⟩)] W fun e W' => (∃ v, e = .returned v) ∧ J zs W' := by
 have step : ∀ k, k < zs.length → zs.take k ++ [zs[k]?.getD 0] = zs.take (k + 1) := fun k hk => by
  rw [List.take_succ_eq_append_getElem hk]; simp [hk]
 refine callsIn_of_wp Tryz.func136 rfl trivial ?_ rfl
 simp only [Tryz.ntmps136, List.size_toArray, List.length_cons, List.length_nil, Nat.reduceAdd, Nat.reduceSub, Array.replicate_succ, Array.replicate_zero, List.push_toArray, List.append_toArray, List.nil_append, List.cons_append]
 gi_wp2
 gi_loopw [7] (fun i wr => ∃ k : Nat, k ≤ len ∧ i = .int .i64 k ∧ J (zs.take k) wr)
  (fun i _ => len - (intOf i).toNat)
 case atStart => exact ⟨0, Nat.zero_le _, rfl, h0⟩
 case round =>
  obtain ⟨k, hk, rfl, hJs⟩ := hrel
  by_cases hlt : k < len
  · have hcx : wr.cell? ⟨b, off + k, none⟩ = some (.int .i64 (zs[k]?.getD 0)) := ((hJ _ _ hJs).cell (p := ⟨b, off + k, none⟩) hb).trans (hc k hlt)
    have st := step k (by omega)
    generalize zs[k]?.getD 0 = x at hcx st
    obtain ⟨fn, tmps, assign, body, hy, hR⟩ := hY _ x wr hJs (by rw [List.length_take]; omega)
    clear step
    gi_wp2
    refine hR.mono ?_
    rintro e W3 ⟨rfl, hJ3, -⟩
    gi_wp2
    go_roundw
    case rel => exact ⟨k + 1, by omega, by simp, by rw [← st]; exact hJ3⟩
    case measure => simp [intOf]; omega
  · obtain rfl : k = len := by omega
    gi_wp2
    go_end0
    exact ⟨⟨_, rfl⟩, by rw [← hlen, List.take_length] at hJs; exact hJs⟩
set_option maxRecDepth 100000 in
set_option maxHeartbeats 1000000 in
theorem adA (n l Bs : Nat) (p : Option Addr) (cap : Nat) (J : List Int → World → Prop) (W : World) (hBs : W.cell? ⟨Bs, 0, none⟩ = some (.slice p 0 cap)) (h0 : J [] W) :
 CallsIn Fence.wide n Tryz.prog 136 #[.func (.yield l) #[] #[], .pointer (some ⟨Bs, 0, none⟩)] W fun e W' => (∃ v, e = .returned v) ∧ J [] W' := by
 refine callsIn_of_wp Tryz.func136 rfl trivial ?_ rfl
 simp only [Tryz.ntmps136, List.size_toArray, List.length_cons, List.length_nil, Nat.reduceAdd, Nat.reduceSub, Array.replicate_succ, Array.replicate_zero, List.push_toArray, List.append_toArray, List.nil_append, List.cons_append]
 gi_wp2
 gi_loopw [7] (fun i wr => i = .int .i64 0 ∧ J [] wr) (fun _ _ => 0)
 case atStart => exact ⟨rfl, h0⟩
 case round =>
  obtain ⟨rfl, hJs⟩ := hrel
  gi_wp2
  go_end0
  exact ⟨⟨_, rfl⟩, hJs⟩
theorem R6 : JK Tryz.prog 136 := by
 intro n Bs sv zs w hn hreach hBs hcell hI l J W hW hJ hY h0
 have hc' := (hW.cell (p := ⟨Bs, 0, none⟩) hBs).trans hcell
 rcases hI with ⟨p, cap, rfl, rfl⟩ | ⟨b, off, cap, rfl, hb, hcs⟩
 · exact adA n l Bs p cap J W hc' h0
 · exact adz n l Bs hn w b off zs.length cap zs rfl hreach hb J hJ hY W hc' hcs h0
end
theorem Mk : ∀ j, Names.ρ 260 = some j → mV Tryz.prog j [2, N.bf] := fun j hj => by
 have e : (Names.ρ 260 : Option Nat) = some 88 := by kernel_rfl
 rw [e] at hj; cases hj; exact Ei G2 FM (by kernel_rfl) (Go.Proofs.enters_of Tryz.func135 (by kernel_rfl) rfl) (by kernel_rfl) (Go.Proofs.enters_of Tryz.func136 (by kernel_rfl) rfl) R6
def JQ : Go.Shelf.Ren := ⟨fun | 8 => 305 | 11 => 314 | n => n, fun | 0 => 0 | 24 => 68 | 26 => 142 | 28 => 348 | 33 => 192 | n => n, fun n => n⟩
theorem adB : Go.Proofs.Ym Tryz.prog JQ := {
 mixed := by kernel_rfl,
 f8 := ⟨"slices.Collect[minecontrol/api.World]", by kernel_rfl, Tryz.func305.trans (congrArg some (by kernel_rfl))⟩,
 f11 := ⟨"slices.AppendSeq[[]minecontrol/api.World,minecontrol/api.World]", by kernel_rfl, Tryz.func314.trans (congrArg some (by kernel_rfl))⟩,
 t0 := Tryz.underlying0,
 a0 := Tryz.isAgg0,
 z0 := Tryz.sizeOf0,
 v0 := Tryz.zeroValue0,
 t24 := Tryz.underlying68,
 a24 := Tryz.isAgg68,
 z24 := Tryz.sizeOf68,
 v24 := Tryz.zeroValue68,
 t26 := ⟨_, Tryz.underlying142⟩,
 a26 := Tryz.isAgg142,
 z26 := Tryz.sizeOf142,
 v26 := Tryz.zeroValue142,
 t28 := Tryz.underlying348,
 a28 := Tryz.isAgg348,
 z28 := Tryz.sizeOf348,
 v28 := Tryz.zeroValue348,
 i26 := by kernel_rfl }
section
open Go.RowKit Go.Shelf Go.Maps Go.Sort Go.Proofs
/- the iterator of slices.Values of structures of two cells at this program -/
set_option maxRecDepth 100000 in
set_option maxHeartbeats 2000000 in
theorem Yr (n l Bs : Nat) (hn : 1 ≤ n) (W0 : World) (b off len cap : Nat) (zs : List (Value × Value)) (hlen : zs.length = len) (hone : ∀ x ∈ zs, x.1.oneCell' = true ∧ x.2.oneCell' = true) (hreach : len * 48 ≤ 140737488351232) (hb : b < W0.heap.size) (J : List (Value × Value) → World → Prop)
 (hJ : ∀ s W1, J s W1 → Below W0.heap.size W0 W1) (hA : ∀ s W1 o, J s W1 → J s (W1.alloc o))
 (hY : ∀ pre x W1, J pre W1 → pre.length < zs.length → x ∈ zs → YieldAt Fence.wide (n - 1) Tryz.prog l #[Yl x] W1 fun e W' => e = .returned (.bool true) ∧ J (pre ++ [x]) W' ∧ KeepsWalks W1 W')
 (W : World) (hBs : W.cell? ⟨Bs, 0, none⟩ = some (.slice (some ⟨b, off, none⟩) len cap)) (hc : ∀ j p, zs[j]? = some p → W0.cell? ⟨b, off + j * 2, none⟩ = some p.1 ∧ W0.cell? ⟨b, off + j * 2 + 1, none⟩ = some p.2) (h0 : J [] W) :
 CallsIn Fence.wide n Tryz.prog 307 #[.func (.yield l) #[] #[], .pointer (some ⟨Bs, 0, none⟩)] W fun e W' => (∃ v, e = .returned v) ∧ J zs W' := by
 have step : ∀ k x, zs[k]? = some x → zs.take k ++ [x] = zs.take (k + 1) := fun k x hk => by
  rw [List.take_add_one, hk]; rfl
 refine callsIn_of_wp Tryz.func307 rfl trivial ?_ rfl
 simp only [Tryz.ntmps307, List.size_toArray, List.length_cons, List.length_nil, Nat.reduceAdd, Nat.reduceSub, Array.replicate_succ, Array.replicate_zero, List.push_toArray, List.append_toArray, List.nil_append, List.cons_append]
 gi_wp2
 gi_loopw [7] (fun i wr => ∃ k : Nat, k ≤ len ∧ i = .int .i64 k ∧ J (zs.take k) wr)
  (fun i _ => len - (intOf i).toNat)
 case atStart => exact ⟨0, Nat.zero_le _, rfl, h0⟩
 case round =>
  obtain ⟨k, hk, rfl, hJs⟩ := hrel
  by_cases hlt : k < len
  · obtain ⟨x, hx⟩ : ∃ x, zs[k]? = some x := ⟨_, List.getElem?_eq_getElem (by omega)⟩
    have hcx0 : wr.cell? ⟨b, off + k * 2, none⟩ = some x.1 := ((hJ _ _ hJs).cell (p := ⟨b, off + k * 2, none⟩) hb).trans (hc k x hx).1
    have hcx1 : wr.cell? ⟨b, off + k * 2 + 1, none⟩ = some x.2 := ((hJ _ _ hJs).cell (p := ⟨b, off + k * 2 + 1, none⟩) hb).trans (hc k x hx).2
    have hm : x ∈ zs := List.mem_of_getElem? hx
    have st := step k x hx
    obtain ⟨hx1, hx2⟩ := hone x hm
    have hst := Cz Tryz.prog wr x.1 x.2 (.slice none 0 0) (.slice none 0 0) 142 hx1 hx2
    have cA0 : (wr.alloc (.cells #[x.1, x.2] 142)).cell? ⟨wr.heap.size, 0, none⟩ = some x.1 := kX wr x.1 x.2 142 0 x.1 rfl
    have cA1 : (wr.alloc (.cells #[x.1, x.2] 142)).cell? ⟨wr.heap.size, 1, none⟩ = some x.2 := kX wr x.1 x.2 142 1 x.2 rfl
    obtain ⟨fn, tmps, assign, body, hy, hR⟩ := hY _ x _ (hA _ _ (.cells #[x.1, x.2] 142) hJs) (by rw [List.length_take]; omega) hm
    clear step hone hc
    gi_wp2
    refine hR.mono ?_
    rintro e W3 ⟨rfl, hJ3, -⟩
    gi_wp2
    go_roundw
    case rel => exact ⟨k + 1, by omega, by simp, by rw [← st]; exact hJ3⟩
    case measure => simp [intOf]; omega
  · obtain rfl : k = len := by omega
    gi_wp2
    go_end0
    exact ⟨⟨_, rfl⟩, by rw [← hlen, List.take_length] at hJs; exact hJs⟩
set_option maxRecDepth 100000 in
set_option maxHeartbeats 1000000 in
theorem Ys (n l Bs : Nat) (p : Option Addr) (cap : Nat) (J : List (Value × Value) → World → Prop) (W : World) (hBs : W.cell? ⟨Bs, 0, none⟩ = some (.slice p 0 cap)) (h0 : J [] W) :
 CallsIn Fence.wide n Tryz.prog 307 #[.func (.yield l) #[] #[], .pointer (some ⟨Bs, 0, none⟩)] W fun e W' => (∃ v, e = .returned v) ∧ J [] W' := by
 refine callsIn_of_wp Tryz.func307 rfl trivial ?_ rfl
 simp only [Tryz.ntmps307, List.size_toArray, List.length_cons, List.length_nil, Nat.reduceAdd, Nat.reduceSub, Array.replicate_succ, Array.replicate_zero, List.push_toArray, List.append_toArray, List.nil_append, List.cons_append]
 gi_wp2
 gi_loopw [7] (fun i wr => i = .int .i64 0 ∧ J [] wr) (fun _ _ => 0)
 case atStart => exact ⟨rfl, h0⟩
 case round =>
  obtain ⟨rfl, hJs⟩ := hrel
  gi_wp2
  go_end0
  exact ⟨⟨_, rfl⟩, hJs⟩
theorem Ml : JO Tryz.prog 307 := by
 intro n Bs sv zs w hn hone hreach hBs hcell hI l J W hW hJ hA hY h0
 have hc' := (hW.cell (p := ⟨Bs, 0, none⟩) hBs).trans hcell
 rcases hI with ⟨p, cap, rfl, rfl⟩ | ⟨b, off, cap, rfl, hb, hcs⟩
 · exact Ys n l Bs p cap J W hc' h0
 · exact Yr n l Bs hn w b off zs.length cap zs rfl hone hreach hb J hJ hA hY W hc' hcs h0
end
theorem Mm : ∀ j, Names.ρ 300 = some j → mV Tryz.prog j [3, N.aE] := fun j hj => by
 have e : (Names.ρ 300 : Option Nat) = some 305 := by kernel_rfl
 rw [e] at hj; cases hj; exact CA adB (by kernel_rfl) (Go.Proofs.enters_of Tryz.func307 (by kernel_rfl) rfl) Ml
section
open Go.RowKit Go.Maps Go.Proofs
theorem mmE (t : TypeId) (w : Go.World) : (Instr.makeMap t none).run Tryz.prog w = .ok (.map (some w.heap.size)) (w.alloc (.map (tY []) ([] : List Nat).length)) := rfl
theorem adC (n j : Nat) (w : Go.World) (h : ([100, 101, 102, 103, 104, 105, 106, 107, 108, 109, 110, 111, 112] : List Nat)[n]? = some j) : Calls Tryz.prog 67 #[.int .i64 (n + 1)] w fun e w' => e = .returned (.func (.func j) #[] #[]) ∧ w' = w.alloc (.map (tY [100, 101, 102, 103, 104, 105, 106, 107, 108, 109, 110, 111, 112]) ([100, 101, 102, 103, 104, 105, 106, 107, 108, 109, 110, 111, 112] : List Nat).length) := by
 have hmm := mmE
 go_enter Tryz.func67, Tryz.ntmps67
 go_wp2_with (first
  | (at_lookup; refine GX w rfl _ _ 187 rfl 3 158 Tryz.underlying187 Tryz.underlying3 rfl [100, 101, 102, 103, 104, 105, 106, 107, 108, 109, 110, 111, 112] n j rfl h 13 ?_)
  | (refine GW w rfl _ _ _ 187 rfl 3 158 Tryz.underlying187 Tryz.underlying3 rfl _ _ rfl rfl ?_)
  | go_in)
 go_ret
 exact ⟨rfl, rfl⟩
end
theorem Mn : ∀ j, Names.ρ 582 = some j → mV Tryz.prog j [6, N.cN, N.cO, N.cP, N.cQ, N.cR, N.cT, N.cr, N.dz, N.ct, N.cu, N.cU, N.cV, N.cW] := fun j hj => by
 have e : (Names.ρ 582 : Option Nat) = some 67 := by kernel_rfl
 rw [e] at hj; cases hj; exact GY (ids := [100, 101, 102, 103, 104, 105, 106, 107, 108, 109, 110, 111, 112]) (by kernel_rfl) adC
theorem Mo : ∀ x ∈ R5, ∀ j, Names.ρ x.1 = some j → mV Tryz.prog j x.2 := by
 intro x hx
 simp only [R5, List.mem_cons, List.not_mem_nil, or_false] at hx
 rcases hx with rfl | rfl | rfl | rfl
 · exact Mj
 · exact Mk
 · exact Mm
 · exact Mn
end Go.Proofs.YtfeojjgfpaklnaaGreat
