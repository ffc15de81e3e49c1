/- MADE BY PROGRAM (lib.py): the numbers that the functions have in this program, and the check of each one. -/
import Derived.Test.YtmmplabgfomahaaProg
import Derived.Test.YtmmplabgfomahaaZPP
import Derived.KernelRfl
set_option linter.all false
set_option maxRecDepth 100000
namespace Go.Proofs.Ytmmplabgfomahaa
open Go.Ev
def real : List (Option Nat) := [none, some 9, none, some 10, none, none, none, none, none, some 15, some 27, none, some 14, none, none, none, none, none, none, none, none, none, none, some 34, none, none, none, none, none, none, none, none, none, none, none, none, none, none, none, none, none, none, none, none, none, none, none, none, none, none, none, none, none, none, none, none, none, none, none, none, none, none, none, none, none, none, none, none, none, none, none, some 32, none, none, none, none, none, none, none, none, none, none, some 26, none, none, none, none, none, none, none, none, none, none, none, none, none, none, none, none, none, none, none, none, none, none, none, none, none, none, none, none, none, none, none, none, none, none, none, none, none, none, none, none, none, none, none, none, none, none, none, none, none, none, none, none, none, none, none, none, none, none, none, none, none, none, none, none, none, none, none, none, none, none, none, none, none, none, none, none, none, none, none, none, none, none, none, none, none, none, none, none, none, none, none, none, none, none, none, none, none, none, none, none, none, none, none, none, none, none, none, none, none, none, none, none, none, none, none, none, none, none, none, none, none, some 28, none, none, none, none, none, none, none, none, none, none, none, none, none, none, none, none, none, none, none, none, none, none, none, none, none, none, none, none, none, none, none, none, none, none, none, none, none, none, none, none, none, none, none, none, none, none, none, none, none, none, none, none, none, none, none, some 30, some 31, none, none, none, none, none, some 52, none, none, none, none, none, none, none, none, none, none, none, none, none, none, none, none, none, none, none, none, none, none, none, none, none, none, none, none, none, none, none, none, none, none, none, none, none, none, none, none, none, none, none, none, none, none, none, none, none, none, none, none, none, none, none, none, none, none, none, none, none, none, none, none, none, none, none, none, none, none, none, none, none, none, none, none, none, none, none, none, none, none, none, none, none, none, none, none, none, none, none, none, none, none, none, none, none, none, none, none, none, none, none, none, none, none, none, none, none, none, none, none, none, none, none, none, none, none, none, none, none, none, none, none, none, none, none, none, none, none, none, none, none, none, none, none, none, none, none, none, none, none, none, none, none, none, none, none, none, none, none, none, none, none, none, none, none, none, none, none, none, none, none, none, none, none, none, none, none, none, none, none, none, none, none, none, none, none, none, none, none, none, none, none, none, none, none, some 29, none, none, none, none, none, none, none, none, none, none, none, none, none, none, none, none, none, none, none, none, some 4, none, none, some 7, none, some 11, some 12, some 13, some 16, none, none, none, none, some 33, some 35, none, none, none, none, none, none, none, some 53, none, none, none, none, some 30]
def tab : List (Option Go.Ev.Fn) := [none, some K.cJ, none, some K.dr, none, none, none, none, none, some K.av, some K.br, none, some K.dt, none, none, none, none, none, none, none, none, none, none, some K.dA, none, none, none, none, none, none, none, none, none, none, none, none, none, none, none, none, none, none, none, none, none, none, none, none, none, none, none, none, none, none, none, none, none, none, none, none, none, none, none, none, none, none, none, none, none, none, none, some K.dQ, none, none, none, none, none, none, none, none, none, none, some K.ba, none, none, none, none, none, none, none, none, none, none, none, none, none, none, none, none, none, none, none, none, none, none, none, none, none, none, none, none, none, none, none, none, none, none, none, none, none, none, none, none, none, none, none, none, none, none, none, none, none, none, none, none, none, none, none, none, none, none, none, none, none, none, none, none, none, none, none, none, none, none, none, none, none, none, none, none, none, none, none, none, none, none, none, none, none, none, none, none, none, none, none, none, none, none, none, none, none, none, none, none, none, none, none, none, none, none, none, none, none, none, none, none, none, none, none, none, none, none, none, none, none, some K.az, none, none, none, none, none, none, none, none, none, none, none, none, none, none, none, none, none, none, none, none, none, none, none, none, none, none, none, none, none, none, none, none, none, none, none, none, none, none, none, none, none, none, none, none, none, none, none, none, none, none, none, none, none, none, none, some K.bB, some K.aA, none, none, none, none, none, some K.af, none, none, none, none, none, none, none, none, none, none, none, none, none, none, none, none, none, none, none, none, none, none, none, none, none, none, none, none, none, none, none, none, none, none, none, none, none, none, none, none, none, none, none, none, none, none, none, none, none, none, none, none, none, none, none, none, none, none, none, none, none, none, none, none, none, none, none, none, none, none, none, none, none, none, none, none, none, none, none, none, none, none, none, none, none, none, none, none, none, none, none, none, none, none, none, none, none, none, none, none, none, none, none, none, none, none, none, none, none, none, none, none, none, none, none, none, none, none, none, none, none, none, none, none, none, none, none, none, none, none, none, none, none, none, none, none, none, none, none, none, none, none, none, none, none, none, none, none, none, none, none, none, none, none, none, none, none, none, none, none, none, none, none, none, none, none, none, none, none, none, none, none, none, none, none, none, none, none, none, none, none, none, none, none, none, none, none, some K.aj, none, none, none, none, none, none, none, none, none, none, none, none, none, none, none, none, none, none, none, none, some K.aB, none, none, some K.b9, none, some K.bO, some K.aV, some K.aS, some K.bu, none, none, none, none, some K.ai, some K.aW, none, none, none, none, none, none, none, some K.aH, none, none, none, none, some K.aF]
instance names : Names := { ρ := fun f => (real[f]?).join }
instance lib : Lib := ⟨fun f => (tab[f]?).join⟩
instance has1 : aL := ⟨rfl, rfl, rfl, rfl, rfl, rfl⟩
instance has2 : aN := ⟨rfl⟩
instance has3 : bF := ⟨rfl⟩
instance has4 : bJ := ⟨⟩
instance has5 : cT := ⟨⟩
instance has6 : bL := ⟨⟩
instance has7 : bM := ⟨⟩
instance has8 : cC := ⟨⟩
instance has9 : cA := ⟨rfl⟩
instance has10 : aZ := ⟨⟩
instance has11 : a7 := ⟨rfl, rfl, rfl⟩
instance has12 : bX := ⟨⟩
instance has13 : bY := ⟨⟩
instance has14 : gr := ⟨⟩
instance has15 : gu := ⟨⟩
instance has21 : iq := ⟨⟩
instance has22 : gR := ⟨rfl⟩
instance has23 : ir := ⟨⟩
instance has24 : eK := ⟨⟩
instance has25 : dy := ⟨rfl, rfl, rfl, rfl, rfl, rfl, rfl, rfl⟩
instance has26 : jR := ⟨rfl, rfl⟩
theorem rM : eH Try.prog Try.f9 K.cJ = true := by kernel_rfl
theorem tS : eH Try.prog Try.f10 K.dr = true := by kernel_rfl
theorem mL : eH Try.prog Try.f15 K.av = true := by kernel_rfl
theorem oA : eH Try.prog Try.f27 K.br = true := by kernel_rfl
theorem tT : eH Try.prog Try.f14 K.dt = true := by kernel_rfl
theorem xb : eH Try.prog Try.f34 K.dA = true := by kernel_rfl
theorem xc : eH Try.prog Try.f32 K.dQ = true := by kernel_rfl
theorem mM : eH Try.prog Try.f26 K.ba = true := by kernel_rfl
theorem iu : eH Try.prog Try.f28 K.az = true := by kernel_rfl
theorem jT : eH Try.prog Try.f30 K.bB = true := by kernel_rfl
theorem gS : eH Try.prog Try.f31 K.aA = true := by kernel_rfl
theorem fY : eH Try.prog Try.f52 K.af = true := by kernel_rfl
theorem gw : eH Try.prog Try.f29 K.aj = true := by kernel_rfl
theorem jU : eH Try.prog Try.f4 K.aB = true := by kernel_rfl
theorem qn : eH Try.prog Try.f7 K.b9 = true := by kernel_rfl
theorem oB : eH Try.prog Try.f11 K.bO = true := by kernel_rfl
theorem om : eH Try.prog Try.f12 K.aV = true := by kernel_rfl
theorem qo : eH Try.prog Try.f13 K.aS = true := by kernel_rfl
theorem oC : eH Try.prog Try.f16 K.bu = true := by kernel_rfl
theorem jo : eH Try.prog Try.f33 K.ai = true := by kernel_rfl
theorem qp : eH Try.prog Try.f35 K.aW = true := by kernel_rfl
theorem iT : eH Try.prog Try.f53 K.aH = true := by kernel_rfl
theorem iv : eH Try.prog Try.f30 K.aF = true := by kernel_rfl
theorem QJ : sH Try.prog real tab :=
 ⟨trivial, ⟨⟨by kernel_rfl, bf Try.func9 rM⟩, ⟨trivial, ⟨⟨by kernel_rfl, bf Try.func10 tS⟩, ⟨trivial, ⟨trivial, ⟨trivial, ⟨trivial, ⟨trivial, ⟨⟨by kernel_rfl, bf Try.func15 mL⟩, ⟨⟨by kernel_rfl, bf Try.func27 oA⟩, ⟨trivial, ⟨⟨by kernel_rfl, bf Try.func14 tT⟩, ⟨trivial, ⟨trivial, ⟨trivial, ⟨trivial, ⟨trivial, ⟨trivial, ⟨trivial, ⟨trivial, ⟨trivial, ⟨trivial, ⟨⟨by kernel_rfl, bf Try.func34 xb⟩, ⟨trivial, ⟨trivial, ⟨trivial, ⟨trivial, ⟨trivial, ⟨trivial, ⟨trivial, ⟨trivial, ⟨trivial, ⟨trivial, ⟨trivial, ⟨trivial, ⟨trivial, ⟨trivial, ⟨trivial, ⟨trivial, ⟨trivial, ⟨trivial, ⟨trivial, ⟨trivial, ⟨trivial, ⟨trivial, ⟨trivial, ⟨trivial, ⟨trivial, ⟨trivial, ⟨trivial, ⟨trivial, ⟨trivial, ⟨trivial, ⟨trivial, ⟨trivial, ⟨trivial, ⟨trivial, ⟨trivial, ⟨trivial, ⟨trivial, ⟨trivial, ⟨trivial, ⟨trivial, ⟨trivial, ⟨trivial, ⟨trivial, ⟨trivial, ⟨trivial, ⟨trivial, ⟨trivial, ⟨⟨by kernel_rfl, bf Try.func32 xc⟩, ⟨trivial, ⟨trivial, ⟨trivial, ⟨trivial, ⟨trivial, ⟨trivial, ⟨trivial, ⟨trivial, ⟨trivial, ⟨trivial, ⟨⟨by kernel_rfl, bf Try.func26 mM⟩, ⟨trivial, ⟨trivial, ⟨trivial, ⟨trivial, ⟨trivial, ⟨trivial, ⟨trivial, ⟨trivial, ⟨trivial, ⟨trivial, ⟨trivial, ⟨trivial, ⟨trivial, ⟨trivial, ⟨trivial, ⟨trivial, ⟨trivial, ⟨trivial, ⟨trivial, ⟨trivial, ⟨trivial, ⟨trivial, ⟨trivial, ⟨trivial, ⟨trivial, ⟨trivial, ⟨trivial, ⟨trivial, ⟨trivial, ⟨trivial, ⟨trivial, ⟨trivial, ⟨trivial, ⟨trivial, ⟨trivial, ⟨trivial, ⟨trivial, ⟨trivial, ⟨trivial, ⟨trivial, ⟨trivial, ⟨trivial, ⟨trivial, ⟨trivial, ⟨trivial, ⟨trivial, ⟨trivial, ⟨trivial, ⟨trivial, ⟨trivial, ⟨trivial, ⟨trivial, ⟨trivial, ⟨trivial, ⟨trivial, ⟨trivial, ⟨trivial, ⟨trivial, ⟨trivial, ⟨trivial, ⟨trivial, ⟨trivial, ⟨trivial, ⟨trivial, ⟨trivial, ⟨trivial, ⟨trivial, ⟨trivial, ⟨trivial, ⟨trivial, ⟨trivial, ⟨trivial, ⟨trivial, ⟨trivial, ⟨trivial, ⟨trivial, ⟨trivial, ⟨trivial, ⟨trivial, ⟨trivial, ⟨trivial, ⟨trivial, ⟨trivial, ⟨trivial, ⟨trivial, ⟨trivial, ⟨trivial, ⟨trivial, ⟨trivial, ⟨trivial, ⟨trivial, ⟨trivial, ⟨trivial, ⟨trivial, ⟨trivial, ⟨trivial, ⟨trivial, ⟨trivial, ⟨trivial, ⟨trivial, ⟨trivial, ⟨trivial, ⟨trivial, ⟨trivial, ⟨trivial, ⟨trivial, ⟨trivial, ⟨trivial, ⟨trivial, ⟨trivial, ⟨trivial, ⟨trivial, ⟨trivial, ⟨trivial, ⟨trivial, ⟨trivial, ⟨trivial, ⟨trivial, ⟨trivial, ⟨trivial, ⟨trivial, ⟨⟨by kernel_rfl, bf Try.func28 iu⟩, ⟨trivial, ⟨trivial, ⟨trivial, ⟨trivial, ⟨trivial, ⟨trivial, ⟨trivial, ⟨trivial, ⟨trivial, ⟨trivial, ⟨trivial, ⟨trivial, ⟨trivial, ⟨trivial, ⟨trivial, ⟨trivial, ⟨trivial, ⟨trivial, ⟨trivial, ⟨trivial, ⟨trivial, ⟨trivial, ⟨trivial, ⟨trivial, ⟨trivial, ⟨trivial, ⟨trivial, ⟨trivial, ⟨trivial, ⟨trivial, ⟨trivial, ⟨trivial, ⟨trivial, ⟨trivial, ⟨trivial, ⟨trivial, ⟨trivial, ⟨trivial, ⟨trivial, ⟨trivial, ⟨trivial, ⟨trivial, ⟨trivial, ⟨trivial, ⟨trivial, ⟨trivial, ⟨trivial, ⟨trivial, ⟨trivial, ⟨trivial, ⟨trivial, ⟨trivial, ⟨trivial, ⟨trivial, ⟨trivial, ⟨⟨by kernel_rfl, bf Try.func30 jT⟩, ⟨⟨by kernel_rfl, bf Try.func31 gS⟩, ⟨trivial, ⟨trivial, ⟨trivial, ⟨trivial, ⟨trivial, ⟨⟨by kernel_rfl, bf Try.func52 fY⟩, ⟨trivial, ⟨trivial, ⟨trivial, ⟨trivial, ⟨trivial, ⟨trivial, ⟨trivial, ⟨trivial, ⟨trivial, ⟨trivial, ⟨trivial, ⟨trivial, ⟨trivial, ⟨trivial, ⟨trivial, ⟨trivial, ⟨trivial, ⟨trivial, ⟨trivial, ⟨trivial, ⟨trivial, ⟨trivial, ⟨trivial, ⟨trivial, ⟨trivial, ⟨trivial, ⟨trivial, ⟨trivial, ⟨trivial, ⟨trivial, ⟨trivial, ⟨trivial, ⟨trivial, ⟨trivial, ⟨trivial, ⟨trivial, ⟨trivial, ⟨trivial, ⟨trivial, ⟨trivial, ⟨trivial, ⟨trivial, ⟨trivial, ⟨trivial, ⟨trivial, ⟨trivial, ⟨trivial, ⟨trivial, ⟨trivial, ⟨trivial, ⟨trivial, ⟨trivial, ⟨trivial, ⟨trivial, ⟨trivial, ⟨trivial, ⟨trivial, ⟨trivial, ⟨trivial, ⟨trivial, ⟨trivial, ⟨trivial, ⟨trivial, ⟨trivial, ⟨trivial, ⟨trivial, ⟨trivial, ⟨trivial, ⟨trivial, ⟨trivial, ⟨trivial, ⟨trivial, ⟨trivial, ⟨trivial, ⟨trivial, ⟨trivial, ⟨trivial, ⟨trivial, ⟨trivial, ⟨trivial, ⟨trivial, ⟨trivial, ⟨trivial, ⟨trivial, ⟨trivial, ⟨trivial, ⟨trivial, ⟨trivial, ⟨trivial, ⟨trivial, ⟨trivial, ⟨trivial, ⟨trivial, ⟨trivial, ⟨trivial, ⟨trivial, ⟨trivial, ⟨trivial, ⟨trivial, ⟨trivial, ⟨trivial, ⟨trivial, ⟨trivial, ⟨trivial, ⟨trivial, ⟨trivial, ⟨trivial, ⟨trivial, ⟨trivial, ⟨trivial, ⟨trivial, ⟨trivial, ⟨trivial, ⟨trivial, ⟨trivial, ⟨trivial, ⟨trivial, ⟨trivial, ⟨trivial, ⟨trivial, ⟨trivial, ⟨trivial, ⟨trivial, ⟨trivial, ⟨trivial, ⟨trivial, ⟨trivial, ⟨trivial, ⟨trivial, ⟨trivial, ⟨trivial, ⟨trivial, ⟨trivial, ⟨trivial, ⟨trivial, ⟨trivial, ⟨trivial, ⟨trivial, ⟨trivial, ⟨trivial, ⟨trivial, ⟨trivial, ⟨trivial, ⟨trivial, ⟨trivial, ⟨trivial, ⟨trivial, ⟨trivial, ⟨trivial, ⟨trivial, ⟨trivial, ⟨trivial, ⟨trivial, ⟨trivial, ⟨trivial, ⟨trivial, ⟨trivial, ⟨trivial, ⟨trivial, ⟨trivial, ⟨trivial, ⟨trivial, ⟨trivial, ⟨trivial, ⟨trivial, ⟨trivial, ⟨trivial, ⟨trivial, ⟨trivial, ⟨trivial, ⟨trivial, ⟨trivial, ⟨trivial, ⟨trivial, ⟨trivial, ⟨trivial, ⟨trivial, ⟨trivial, ⟨trivial, ⟨trivial, ⟨trivial, ⟨trivial, ⟨trivial, ⟨trivial, ⟨trivial, ⟨trivial, ⟨trivial, ⟨⟨by kernel_rfl, bf Try.func29 gw⟩, ⟨trivial, ⟨trivial, ⟨trivial, ⟨trivial, ⟨trivial, ⟨trivial, ⟨trivial, ⟨trivial, ⟨trivial, ⟨trivial, ⟨trivial, ⟨trivial, ⟨trivial, ⟨trivial, ⟨trivial, ⟨trivial, ⟨trivial, ⟨trivial, ⟨trivial, ⟨trivial, ⟨⟨by kernel_rfl, bf Try.func4 jU⟩, ⟨trivial, ⟨trivial, ⟨⟨by kernel_rfl, bf Try.func7 qn⟩, ⟨trivial, ⟨⟨by kernel_rfl, bf Try.func11 oB⟩, ⟨⟨by kernel_rfl, bf Try.func12 om⟩, ⟨⟨by kernel_rfl, bf Try.func13 qo⟩, ⟨⟨by kernel_rfl, bf Try.func16 oC⟩, ⟨trivial, ⟨trivial, ⟨trivial, ⟨trivial, ⟨⟨by kernel_rfl, bf Try.func33 jo⟩, ⟨⟨by kernel_rfl, bf Try.func35 qp⟩, ⟨trivial, ⟨trivial, ⟨trivial, ⟨trivial, ⟨trivial, ⟨trivial, ⟨trivial, ⟨⟨by kernel_rfl, bf Try.func53 iT⟩, ⟨trivial, ⟨trivial, ⟨trivial, ⟨trivial, ⟨⟨by kernel_rfl, bf Try.func30 iv⟩, trivial⟩⟩⟩⟩⟩⟩⟩⟩⟩⟩⟩⟩⟩⟩⟩⟩⟩⟩⟩⟩⟩⟩⟩⟩⟩⟩⟩⟩⟩⟩⟩⟩⟩⟩⟩⟩⟩⟩⟩⟩⟩⟩⟩⟩⟩⟩⟩⟩⟩⟩⟩⟩⟩⟩⟩⟩⟩⟩⟩⟩⟩⟩⟩⟩⟩⟩⟩⟩⟩⟩⟩⟩⟩⟩⟩⟩⟩⟩⟩⟩⟩⟩⟩⟩⟩⟩⟩⟩⟩⟩⟩⟩⟩⟩⟩⟩⟩⟩⟩⟩⟩⟩⟩⟩⟩⟩⟩⟩⟩⟩⟩⟩⟩⟩⟩⟩⟩⟩⟩⟩⟩⟩⟩⟩⟩⟩⟩⟩⟩⟩⟩⟩⟩⟩⟩⟩⟩⟩⟩⟩⟩⟩⟩⟩⟩⟩⟩⟩⟩⟩⟩⟩⟩⟩⟩⟩⟩⟩⟩⟩⟩⟩⟩⟩⟩⟩⟩⟩⟩⟩⟩⟩⟩⟩⟩⟩⟩⟩⟩⟩⟩⟩⟩⟩⟩⟩⟩⟩⟩⟩⟩⟩⟩⟩⟩⟩⟩⟩⟩⟩⟩⟩⟩⟩⟩⟩⟩⟩⟩⟩⟩⟩⟩⟩⟩⟩⟩⟩⟩⟩⟩⟩⟩⟩⟩⟩⟩⟩⟩⟩⟩⟩⟩⟩⟩⟩⟩⟩⟩⟩⟩⟩⟩⟩⟩⟩⟩⟩⟩⟩⟩⟩⟩⟩⟩⟩⟩⟩⟩⟩⟩⟩⟩⟩⟩⟩⟩⟩⟩⟩⟩⟩⟩⟩⟩⟩⟩⟩⟩⟩⟩⟩⟩⟩⟩⟩⟩⟩⟩⟩⟩⟩⟩⟩⟩⟩⟩⟩⟩⟩⟩⟩⟩⟩⟩⟩⟩⟩⟩⟩⟩⟩⟩⟩⟩⟩⟩⟩⟩⟩⟩⟩⟩⟩⟩⟩⟩⟩⟩⟩⟩⟩⟩⟩⟩⟩⟩⟩⟩⟩⟩⟩⟩⟩⟩⟩⟩⟩⟩⟩⟩⟩⟩⟩⟩⟩⟩⟩⟩⟩⟩⟩⟩⟩⟩⟩⟩⟩⟩⟩⟩⟩⟩⟩⟩⟩⟩⟩⟩⟩⟩⟩⟩⟩⟩⟩⟩⟩⟩⟩⟩⟩⟩⟩⟩⟩⟩⟩⟩⟩⟩⟩⟩⟩⟩⟩⟩⟩⟩⟩⟩⟩⟩⟩⟩⟩⟩⟩⟩⟩⟩⟩⟩⟩⟩⟩⟩⟩⟩⟩⟩⟩⟩⟩⟩⟩⟩⟩⟩⟩⟩⟩⟩⟩⟩⟩⟩⟩⟩⟩⟩⟩⟩⟩⟩⟩⟩⟩⟩⟩⟩⟩⟩⟩⟩⟩⟩⟩⟩⟩⟩⟩⟩⟩⟩⟩⟩⟩⟩⟩⟩⟩⟩⟩⟩⟩⟩⟩⟩⟩⟩⟩⟩⟩⟩⟩⟩⟩⟩⟩⟩⟩⟩⟩
theorem QK : ∀ f j, Names.ρ f = some j → Names.it f = true → pA Try.prog j := fun f j hj h => Bool.noConfusion (show false = true from h)
def JJ : List (Nat × List Nat) := [(260, [2, N.af]), (503, [5, N.af])]
def rN : Go.Shelf.Ren := ⟨fun | 189 => 51 | 125 => 66 | 257 => 65 | 128 => 83 | 129 => 84 | 294 => 74 | 295 => 75 | 296 => 76 | 297 => 77 | 298 => 78 | 299 => 79 | 216 => 80 | 300 => 81 | 301 => 82 | 328 => 88 | 329 => 89 | 330 => 90 | 331 => 91 | 332 => 92 | 215 => 93 | 343 => 94 | n => n, fun | 28 => 23 | 3 => 3 | 46 => 84 | 0 => 0 | 51 => 118 | 53 => 120 | 4 => 4 | 183 => 111 | 182 => 110 | 131 => 115 | 5 => 5 | 9 => 9 | 218 => 125 | 222 => 129 | 228 => 131 | 229 => 95 | n => n, fun | n => n⟩
theorem vH : Go.Proofs.Lays.n189 Try.prog rN := {
 mixed := by kernel_rfl,
 f125 := Try.func66.trans (congrArg some (by kernel_rfl)),
 f128 := Try.func83.trans (congrArg some (by kernel_rfl)),
 f129 := Try.func84.trans (congrArg some (by kernel_rfl)),
 f189 := Try.func51.trans (congrArg some (by kernel_rfl)),
 f215 := Try.func93.trans (congrArg some (by kernel_rfl)),
 f216 := Try.func80.trans (congrArg some (by kernel_rfl)),
 f257 := Try.func65.trans (congrArg some (by kernel_rfl)),
 f294 := Try.func74.trans (congrArg some (by kernel_rfl)),
 f295 := Try.func75.trans (congrArg some (by kernel_rfl)),
 f296 := Try.func76.trans (congrArg some (by kernel_rfl)),
 f297 := Try.func77.trans (congrArg some (by kernel_rfl)),
 f298 := Try.func78.trans (congrArg some (by kernel_rfl)),
 f299 := Try.func79.trans (congrArg some (by kernel_rfl)),
 f300 := Try.func81.trans (congrArg some (by kernel_rfl)),
 f301 := Try.func82.trans (congrArg some (by kernel_rfl)),
 f328 := Try.func88.trans (congrArg some (by kernel_rfl)),
 f329 := Try.func89.trans (congrArg some (by kernel_rfl)),
 f330 := Try.func90.trans (congrArg some (by kernel_rfl)),
 f331 := Try.func91.trans (congrArg some (by kernel_rfl)),
 f332 := Try.func92.trans (congrArg some (by kernel_rfl)),
 f343 := Try.func94.trans (congrArg some (by kernel_rfl)),
 t0 := Try.underlying0,
 a0 := Try.isAgg0,
 z0 := Try.sizeOf0,
 v0 := Try.zeroValue0,
 t3 := Try.underlying3,
 a3 := Try.isAgg3,
 z3 := Try.sizeOf3,
 v3 := Try.zeroValue3,
 t4 := Try.underlying4,
 a4 := Try.isAgg4,
 z4 := Try.sizeOf4,
 v4 := Try.zeroValue4,
 t5 := Try.underlying5,
 a5 := Try.isAgg5,
 z5 := Try.sizeOf5,
 v5 := Try.zeroValue5,
 t9 := Try.underlying9,
 a9 := Try.isAgg9,
 z9 := Try.sizeOf9,
 v9 := Try.zeroValue9,
 t28 := Try.underlying23,
 a28 := Try.isAgg23,
 z28 := Try.sizeOf23,
 v28 := Try.zeroValue23,
 t46 := Try.underlying84,
 a46 := Try.isAgg84,
 z46 := Try.sizeOf84,
 v46 := Try.zeroValue84,
 t51 := Try.underlying118,
 a51 := Try.isAgg118,
 z51 := Try.sizeOf118,
 v51 := Try.zeroValue118,
 t53 := Try.underlying120,
 a53 := Try.isAgg120,
 z53 := Try.sizeOf120,
 v53 := Try.zeroValue120,
 t131 := Try.underlying115,
 a131 := Try.isAgg115,
 z131 := Try.sizeOf115,
 v131 := Try.zeroValue115,
 t182 := Try.underlying110,
 a182 := Try.isAgg110,
 z182 := Try.sizeOf110,
 v182 := Try.zeroValue110,
 t183 := Try.underlying111,
 a183 := Try.isAgg111,
 z183 := Try.sizeOf111,
 v183 := Try.zeroValue111,
 t218 := Try.underlying125,
 a218 := Try.isAgg125,
 z218 := Try.sizeOf125,
 v218 := Try.zeroValue125,
 t222 := Try.underlying129,
 a222 := Try.isAgg129,
 z222 := Try.sizeOf129,
 v222 := Try.zeroValue129,
 t228 := Try.underlying131,
 a228 := Try.isAgg131,
 z228 := Try.sizeOf131,
 v228 := Try.zeroValue131,
 t229 := Try.underlying95,
 a229 := Try.isAgg95,
 z229 := Try.sizeOf95,
 v229 := Try.zeroValue95 }
def oD : Go.Shelf.Ren := ⟨fun | 6 => 30 | 8 => 50 | 9 => 51 | 11 => 64 | 13 => 66 | 12 => 65 | 23 => 83 | 24 => 84 | 14 => 74 | 15 => 75 | 16 => 76 | 17 => 77 | 18 => 78 | 19 => 79 | 20 => 80 | 21 => 81 | 22 => 82 | 25 => 88 | 26 => 89 | 27 => 90 | 28 => 91 | 29 => 92 | 30 => 93 | 31 => 94 | n => n, fun | 26 => 3 | 28 => 65 | 24 => 23 | 0 => 0 | 3 => 3 | 37 => 84 | 48 => 118 | 50 => 120 | 4 => 4 | 40 => 111 | 39 => 110 | 45 => 115 | 5 => 5 | 9 => 9 | 51 => 125 | 55 => 129 | 57 => 131 | 58 => 95 | 33 => 74 | n => n, fun | n => n⟩
theorem pq : Go.Proofs.SlLaysZI.n6 Try.prog oD := {
 f6 := ⟨"slices.Sorted[int]", by kernel_rfl, Try.func30.trans (congrArg some (by kernel_rfl))⟩,
 f8 := ⟨"slices.Collect[int]", by kernel_rfl, Try.func50.trans (congrArg some (by kernel_rfl))⟩,
 f11 := ⟨"slices.AppendSeq[[]int,int]", by kernel_rfl, Try.func64.trans (congrArg some (by kernel_rfl))⟩,
 mixed := by kernel_rfl,
 t0 := Try.underlying0,
 a0 := Try.isAgg0,
 z0 := Try.sizeOf0,
 v0 := Try.zeroValue0,
 t24 := Try.underlying23,
 a24 := Try.isAgg23,
 z24 := Try.sizeOf23,
 v24 := Try.zeroValue23,
 t26 := Try.underlying3,
 a26 := Try.isAgg3,
 z26 := Try.sizeOf3,
 v26 := Try.zeroValue3,
 t28 := Try.underlying65,
 a28 := Try.isAgg65,
 z28 := Try.sizeOf65,
 v28 := Try.zeroValue65,
 i26 := by kernel_rfl }
section
open Go.RowKit Go.Shelf Go.Maps Go.Sort Go.Proofs
/- the iterator of slices.Values at this program -/
set_option maxRecDepth 100000 in
set_option maxHeartbeats 2000000 in
theorem Wv (n l Bs : Nat) (hn : 1 ≤ n) (W0 : World) (b off len cap : Nat) (zs : List Int) (hlen : zs.length = len) (hreach : len * 8 ≤ 140737488351232) (hb : b < W0.heap.size) (J : List Int → World → Prop)
 (hJ : ∀ s W1, J s W1 → Below W0.heap.size W0 W1)
 (hY : ∀ pre x W1, J pre W1 → pre.length < zs.length → YieldAt Fence.wide (n - 1) Try.prog l #[encZ x] W1 fun e W' => e = .returned (.bool true) ∧ J (pre ++ [x]) W' ∧ KeepsWalks W1 W')
 (W : World) (hBs : W.cell? ⟨Bs, 0, none⟩ = some (.slice (some ⟨b, off, none⟩) len cap)) (hc : ∀ j, j < len → W0.cell? ⟨b, off + j, none⟩ = some (.int .i64 (zs[j]?.getD 0))) (h0 : J [] W) :
 CallsIn Fence.wide n Try.prog 52 #[.func (.yield l) #[] #[], .pointer (some ⟨Bs, 0, none⟩)] W fun e W' => (∃ v, e = .returned v) ∧ J zs W' := by
 have step : ∀ k, k < zs.length → zs.take k ++ [zs[k]?.getD 0] = zs.take (k + 1) := fun k hk => by
  rw [List.take_succ_eq_append_getElem hk]; simp [hk]
 refine callsIn_of_wp Try.func52 rfl trivial ?_ rfl
 simp only [Try.ntmps52, List.size_toArray, List.length_cons, List.length_nil, Nat.reduceAdd, Nat.reduceSub, Array.replicate_succ, Array.replicate_zero, List.push_toArray, List.append_toArray, List.nil_append, List.cons_append]
 gi_wp2
 gi_loopw [7] (fun i wr => ∃ k : Nat, k ≤ len ∧ i = .int .i64 k ∧ J (zs.take k) wr)
  (fun i _ => len - (intOf i).toNat)
 case atStart => exact ⟨0, Nat.zero_le _, rfl, h0⟩
 case round =>
  obtain ⟨k, hk, rfl, hJs⟩ := hrel
  by_cases hlt : k < len
  · have hcx : wr.cell? ⟨b, off + k, none⟩ = some (.int .i64 (zs[k]?.getD 0)) := ((hJ _ _ hJs).cell (p := ⟨b, off + k, none⟩) hb).trans (hc k hlt)
    have st := step k (by omega)
    generalize zs[k]?.getD 0 = x at hcx st
    obtain ⟨fn, tmps, assign, body, hy, hR⟩ := hY _ x wr hJs (by rw [List.length_take]; omega)
    clear step
    gi_wp2
    refine hR.mono ?_
    rintro e W3 ⟨rfl, hJ3, -⟩
    gi_wp2
    go_roundw
    case rel => exact ⟨k + 1, by omega, by simp, by rw [← st]; exact hJ3⟩
    case measure => simp [intOf]; omega
  · obtain rfl : k = len := by omega
    gi_wp2
    go_end0
    exact ⟨⟨_, rfl⟩, by rw [← hlen, List.take_length] at hJs; exact hJs⟩
set_option maxRecDepth 100000 in
set_option maxHeartbeats 1000000 in
theorem Ww (n l Bs : Nat) (p : Option Addr) (cap : Nat) (J : List Int → World → Prop) (W : World) (hBs : W.cell? ⟨Bs, 0, none⟩ = some (.slice p 0 cap)) (h0 : J [] W) :
 CallsIn Fence.wide n Try.prog 52 #[.func (.yield l) #[] #[], .pointer (some ⟨Bs, 0, none⟩)] W fun e W' => (∃ v, e = .returned v) ∧ J [] W' := by
 refine callsIn_of_wp Try.func52 rfl trivial ?_ rfl
 simp only [Try.ntmps52, List.size_toArray, List.length_cons, List.length_nil, Nat.reduceAdd, Nat.reduceSub, Array.replicate_succ, Array.replicate_zero, List.push_toArray, List.append_toArray, List.nil_append, List.cons_append]
 gi_wp2
 gi_loopw [7] (fun i wr => i = .int .i64 0 ∧ J [] wr) (fun _ _ => 0)
 case atStart => exact ⟨rfl, h0⟩
 case round =>
  obtain ⟨rfl, hJs⟩ := hrel
  gi_wp2
  go_end0
  exact ⟨⟨_, rfl⟩, hJs⟩
theorem Ax : Aw Try.prog 52 := by
 intro n Bs sv zs w hn hreach hBs hcell hI l J W hW hJ hY h0
 have hc' := (hW.cell (p := ⟨Bs, 0, none⟩) hBs).trans hcell
 rcases hI with ⟨p, cap, rfl, rfl⟩ | ⟨b, off, cap, rfl, hb, hcs⟩
 · exact Ww n l Bs p cap J W hc' h0
 · exact Wv n l Bs hn w b off zs.length cap zs rfl hreach hb J hJ hY W hc' hcs h0
end
theorem Dd : ∀ j, Names.ρ 260 = some j → kp Try.prog j [2, N.af] := fun j hj => by
 have e : (Names.ρ 260 : Option Nat) = some 30 := by kernel_rfl
 rw [e] at hj; cases hj; exact tR pq vH (by kernel_rfl) (Go.Proofs.enters_of Try.func51 (by kernel_rfl) rfl) (by kernel_rfl) (Go.Proofs.enters_of Try.func52 (by kernel_rfl) rfl) Ax
theorem De : ∀ j, Names.ρ 503 = some j → kp Try.prog j [5, N.af] := fun j hj => by
 have e : (Names.ρ 503 : Option Nat) = some 30 := by kernel_rfl
 rw [e] at hj; cases hj; exact rL pq vH (by kernel_rfl) (Go.Proofs.enters_of Try.func51 (by kernel_rfl) rfl) (by kernel_rfl) (Go.Proofs.enters_of Try.func52 (by kernel_rfl) rfl) Ax
theorem Df : ∀ x ∈ JJ, ∀ j, Names.ρ x.1 = some j → kp Try.prog j x.2 := by
 intro x hx
 simp only [JJ, List.mem_cons, List.not_mem_nil, or_false] at hx
 rcases hx with rfl | rfl
 · exact Dd
 · exact De
end Go.Proofs.Ytmmplabgfomahaa
