/- MADE BY PROGRAM (lib.py): the numbers that the functions have in this program, and the check of each one. -/
import Derived.Test.YtbajpjfhkieglaaProg
import Derived.Shelf.Abstract
import Derived.RangeFuncBox
import Derived.RangeFuncLeaves
import Derived.WalkKit
import Derived.OwnWalkIn
import Derived.TacticsInMore
import Derived.LoopNIn
import Derived.LoopIn
import Derived.Test.YtbajpjfhkieglaaZ3
import Derived.KernelRfl
set_option linter.all false
set_option maxRecDepth 100000
namespace Go.Proofs.Ytbajpjfhkieglaa
open Go.Ev
def real : List (Option Nat) := [none, some 11, none, some 12, none, none, none, none, none, some 22, some 14, none, none, none, none, none, none, none, none, none, none, none, none, some 16, none, none, none, none, none, none, none, none, none, none, none, none, none, none, none, none, none, none, none, none, none, none, none, none, none, some 35, none, none, none, none, none, none, none, none, none, none, none, none, none, none, none, none, some 47, none, none, none, none, some 37, none, none, none, none, none, none, none, none, none, none, none, none, none, none, none, none, none, none, none, none, none, none, none, none, none, none, none, none, none, none, none, none, none, some 44, none, none, none, none, none, none, none, none, none, none, none, none, none, none, none, none, none, none, none, none, none, none, none, none, none, none, none, none, none, none, none, none, none, none, none, none, none, none, none, none, none, none, none, none, none, none, none, none, none, none, none, none, none, none, some 34, none, none, none, none, none, none, none, none, none, some 46, none, none, none, none, none, some 50, none, none, none, none, none, none, none, none, none, none, none, none, none, none, none, none, none, none, none, none, none, none, none, none, none, none, none, some 39, none, none, none, none, none, none, none, none, none, none, none, none, none, none, none, none, none, none, none, none, none, none, none, none, none, none, none, none, none, none, none, none, none, none, none, none, none, none, none, none, none, none, none, none, none, none, none, none, none, none, none, none, none, none, none, none, none, none, none, none, none, none, none, none, none, none, none, none, none, none, none, none, none, none, none, none, none, none, none, none, none, none, none, none, none, none, none, none, none, none, none, none, none, none, none, none, none, none, none, none, none, none, none, none, none, none, none, none, none, none, none, none, none, none, none, none, none, none, none, none, none, none, none, none, none, none, none, none, none, none, none, none, none, none, none, none, none, none, none, none, none, none, none, none, none, none, none, none, none, none, none, none, none, none, none, none, none, none, none, none, none, none, none, none, none, none, none, none, none, none, none, none, none, none, none, none, none, none, none, none, none, none, some 6, none, some 8, none, none, none, none, none, none, some 19, some 20, none, some 23, none, some 25, none, none, some 28, some 29, none, none, some 36, some 38, none, some 41, some 42, some 43, none, some 48]
def tab : List (Option Go.Ev.Fn) := [none, some K.bK, none, some K.b0, none, none, none, none, none, some K.aF, some K.aV, none, none, none, none, none, none, none, none, none, none, none, none, some K.bS, none, none, none, none, none, none, none, none, none, none, none, none, none, none, none, none, none, none, none, none, none, none, none, none, none, some K.ag, none, none, none, none, none, none, none, none, none, none, none, none, none, none, none, none, some K.ai, none, none, none, none, some K.bG, none, none, none, none, none, none, none, none, none, none, none, none, none, none, none, none, none, none, none, none, none, none, none, none, none, none, none, none, none, none, none, none, none, some K.bc, none, none, none, none, none, none, none, none, none, none, none, none, none, none, none, none, none, none, none, none, none, none, none, none, none, none, none, none, none, none, none, none, none, none, none, none, none, none, none, none, none, none, none, none, none, none, none, none, none, none, none, none, none, none, some K.aq, none, none, none, none, none, none, none, none, none, some K.aQ, none, none, none, none, none, some K.aL, none, none, none, none, none, none, none, none, none, none, none, none, none, none, none, none, none, none, none, none, none, none, none, none, none, none, none, some K.ak, none, none, none, none, none, none, none, none, none, none, none, none, none, none, none, none, none, none, none, none, none, none, none, none, none, none, none, none, none, none, none, none, none, none, none, none, none, none, none, none, none, none, none, none, none, none, none, none, none, none, none, none, none, none, none, none, none, none, none, none, none, none, none, none, none, none, none, none, none, none, none, none, none, none, none, none, none, none, none, none, none, none, none, none, none, none, none, none, none, none, none, none, none, none, none, none, none, none, none, none, none, none, none, none, none, none, none, none, none, none, none, none, none, none, none, none, none, none, none, none, none, none, none, none, none, none, none, none, none, none, none, none, none, none, none, none, none, none, none, none, none, none, none, none, none, none, none, none, none, none, none, none, none, none, none, none, none, none, none, none, none, none, none, none, none, none, none, none, none, none, none, none, none, none, none, none, none, none, none, none, none, none, some K.aP, none, some K.bw, none, none, none, none, none, none, some K.bD, some K.aA, none, some K.aW, none, some K.cb, none, none, some K.cL, some K.aS, none, none, some K.ax, some K.ay, none, some K.b5, some K.bf, some K.aC, none, some K.au]
instance names : Names := { ρ := fun f => (real[f]?).join, it := fun f => f == 415 }
instance lib : Lib := ⟨fun f => (tab[f]?).join⟩
instance has1 : dh := ⟨rfl, rfl, rfl, rfl, rfl⟩
instance has2 : dy := ⟨rfl, rfl, rfl⟩
instance has3 : nu := ⟨⟩
instance has4 : mz := ⟨rfl⟩
instance has6 : kL := ⟨rfl, rfl⟩
instance has7 : kQ := ⟨rfl⟩
instance has8 : ny := ⟨⟩
instance has9 : mB := ⟨rfl⟩
instance has17 : gz := ⟨⟩
instance has19 : cH := ⟨rfl, rfl, rfl, rfl, rfl, rfl, rfl, rfl, rfl, rfl, rfl, rfl, rfl⟩
instance has20 : fK := ⟨rfl⟩
theorem mj : cm Try.prog Try.f11 K.bK = true := by kernel_rfl
theorem nF : cm Try.prog Try.f12 K.b0 = true := by kernel_rfl
theorem iF : cm Try.prog Try.f22 K.aF = true := by kernel_rfl
theorem jN : cm Try.prog Try.f14 K.aV = true := by kernel_rfl
theorem pI : cm Try.prog Try.f16 K.bS = true := by kernel_rfl
theorem cQ : cm Try.prog Try.f35 K.ag = true := by kernel_rfl
theorem di : cm Try.prog Try.f47 K.ai = true := by kernel_rfl
theorem pJ : cm Try.prog Try.f37 K.bG = true := by kernel_rfl
theorem jO : cm Try.prog Try.f44 K.bc = true := by kernel_rfl
theorem dZ : cm Try.prog Try.f34 K.aq = true := by kernel_rfl
theorem jG : cm Try.prog Try.f46 K.aQ = true := by kernel_rfl
theorem gX : cm Try.prog Try.f50 K.aL = true := by kernel_rfl
theorem ei : cm Try.prog Try.f39 K.ak = true := by kernel_rfl
theorem iG : cm Try.prog Try.f6 K.aP = true := by kernel_rfl
theorem kP : cm Try.prog Try.f8 K.bw = true := by kernel_rfl
theorem ml : cm Try.prog Try.f19 K.bD = true := by kernel_rfl
theorem gC : cm Try.prog Try.f20 K.aA = true := by kernel_rfl
theorem nG : cm Try.prog Try.f23 K.aW = true := by kernel_rfl
theorem mm : cm Try.prog Try.f25 K.cb = true := by kernel_rfl
theorem nH : cm Try.prog Try.f28 K.cL = true := by kernel_rfl
theorem mo : cm Try.prog Try.f29 K.aS = true := by kernel_rfl
theorem fe : cm Try.prog Try.f36 K.ax = true := by kernel_rfl
theorem ff : cm Try.prog Try.f38 K.ay = true := by kernel_rfl
theorem nI : cm Try.prog Try.f41 K.b5 = true := by kernel_rfl
theorem jP : cm Try.prog Try.f42 K.bf = true := by kernel_rfl
theorem dI : cm Try.prog Try.f43 K.aC = true := by kernel_rfl
theorem dj : cm Try.prog Try.f48 K.au = true := by kernel_rfl
theorem G5 : mW Try.prog real tab :=
 ⟨trivial, ⟨⟨by kernel_rfl, aJ Try.func11 mj⟩, ⟨trivial, ⟨⟨by kernel_rfl, aJ Try.func12 nF⟩, ⟨trivial, ⟨trivial, ⟨trivial, ⟨trivial, ⟨trivial, ⟨⟨by kernel_rfl, aJ Try.func22 iF⟩, ⟨⟨by kernel_rfl, aJ Try.func14 jN⟩, ⟨trivial, ⟨trivial, ⟨trivial, ⟨trivial, ⟨trivial, ⟨trivial, ⟨trivial, ⟨trivial, ⟨trivial, ⟨trivial, ⟨trivial, ⟨trivial, ⟨⟨by kernel_rfl, aJ Try.func16 pI⟩, ⟨trivial, ⟨trivial, ⟨trivial, ⟨trivial, ⟨trivial, ⟨trivial, ⟨trivial, ⟨trivial, ⟨trivial, ⟨trivial, ⟨trivial, ⟨trivial, ⟨trivial, ⟨trivial, ⟨trivial, ⟨trivial, ⟨trivial, ⟨trivial, ⟨trivial, ⟨trivial, ⟨trivial, ⟨trivial, ⟨trivial, ⟨trivial, ⟨trivial, ⟨⟨by kernel_rfl, aJ Try.func35 cQ⟩, ⟨trivial, ⟨trivial, ⟨trivial, ⟨trivial, ⟨trivial, ⟨trivial, ⟨trivial, ⟨trivial, ⟨trivial, ⟨trivial, ⟨trivial, ⟨trivial, ⟨trivial, ⟨trivial, ⟨trivial, ⟨trivial, ⟨⟨by kernel_rfl, aJ Try.func47 di⟩, ⟨trivial, ⟨trivial, ⟨trivial, ⟨trivial, ⟨⟨by kernel_rfl, aJ Try.func37 pJ⟩, ⟨trivial, ⟨trivial, ⟨trivial, ⟨trivial, ⟨trivial, ⟨trivial, ⟨trivial, ⟨trivial, ⟨trivial, ⟨trivial, ⟨trivial, ⟨trivial, ⟨trivial, ⟨trivial, ⟨trivial, ⟨trivial, ⟨trivial, ⟨trivial, ⟨trivial, ⟨trivial, ⟨trivial, ⟨trivial, ⟨trivial, ⟨trivial, ⟨trivial, ⟨trivial, ⟨trivial, ⟨trivial, ⟨trivial, ⟨trivial, ⟨trivial, ⟨trivial, ⟨trivial, ⟨⟨by kernel_rfl, aJ Try.func44 jO⟩, ⟨trivial, ⟨trivial, ⟨trivial, ⟨trivial, ⟨trivial, ⟨trivial, ⟨trivial, ⟨trivial, ⟨trivial, ⟨trivial, ⟨trivial, ⟨trivial, ⟨trivial, ⟨trivial, ⟨trivial, ⟨trivial, ⟨trivial, ⟨trivial, ⟨trivial, ⟨trivial, ⟨trivial, ⟨trivial, ⟨trivial, ⟨trivial, ⟨trivial, ⟨trivial, ⟨trivial, ⟨trivial, ⟨trivial, ⟨trivial, ⟨trivial, ⟨trivial, ⟨trivial, ⟨trivial, ⟨trivial, ⟨trivial, ⟨trivial, ⟨trivial, ⟨trivial, ⟨trivial, ⟨trivial, ⟨trivial, ⟨trivial, ⟨trivial, ⟨trivial, ⟨trivial, ⟨trivial, ⟨trivial, ⟨trivial, ⟨trivial, ⟨trivial, ⟨trivial, ⟨trivial, ⟨trivial, ⟨⟨by kernel_rfl, aJ Try.func34 dZ⟩, ⟨trivial, ⟨trivial, ⟨trivial, ⟨trivial, ⟨trivial, ⟨trivial, ⟨trivial, ⟨trivial, ⟨trivial, ⟨⟨by kernel_rfl, aJ Try.func46 jG⟩, ⟨trivial, ⟨trivial, ⟨trivial, ⟨trivial, ⟨trivial, ⟨⟨by kernel_rfl, aJ Try.func50 gX⟩, ⟨trivial, ⟨trivial, ⟨trivial, ⟨trivial, ⟨trivial, ⟨trivial, ⟨trivial, ⟨trivial, ⟨trivial, ⟨trivial, ⟨trivial, ⟨trivial, ⟨trivial, ⟨trivial, ⟨trivial, ⟨trivial, ⟨trivial, ⟨trivial, ⟨trivial, ⟨trivial, ⟨trivial, ⟨trivial, ⟨trivial, ⟨trivial, ⟨trivial, ⟨trivial, ⟨trivial, ⟨⟨by kernel_rfl, aJ Try.func39 ei⟩, ⟨trivial, ⟨trivial, ⟨trivial, ⟨trivial, ⟨trivial, ⟨trivial, ⟨trivial, ⟨trivial, ⟨trivial, ⟨trivial, ⟨trivial, ⟨trivial, ⟨trivial, ⟨trivial, ⟨trivial, ⟨trivial, ⟨trivial, ⟨trivial, ⟨trivial, ⟨trivial, ⟨trivial, ⟨trivial, ⟨trivial, ⟨trivial, ⟨trivial, ⟨trivial, ⟨trivial, ⟨trivial, ⟨trivial, ⟨trivial, ⟨trivial, ⟨trivial, ⟨trivial, ⟨trivial, ⟨trivial, ⟨trivial, ⟨trivial, ⟨trivial, ⟨trivial, ⟨trivial, ⟨trivial, ⟨trivial, ⟨trivial, ⟨trivial, ⟨trivial, ⟨trivial, ⟨trivial, ⟨trivial, ⟨trivial, ⟨trivial, ⟨trivial, ⟨trivial, ⟨trivial, ⟨trivial, ⟨trivial, ⟨trivial, ⟨trivial, ⟨trivial, ⟨trivial, ⟨trivial, ⟨trivial, ⟨trivial, ⟨trivial, ⟨trivial, ⟨trivial, ⟨trivial, ⟨trivial, ⟨trivial, ⟨trivial, ⟨trivial, ⟨trivial, ⟨trivial, ⟨trivial, ⟨trivial, ⟨trivial, ⟨trivial, ⟨trivial, ⟨trivial, ⟨trivial, ⟨trivial, ⟨trivial, ⟨trivial, ⟨trivial, ⟨trivial, ⟨trivial, ⟨trivial, ⟨trivial, ⟨trivial, ⟨trivial, ⟨trivial, ⟨trivial, ⟨trivial, ⟨trivial, ⟨trivial, ⟨trivial, ⟨trivial, ⟨trivial, ⟨trivial, ⟨trivial, ⟨trivial, ⟨trivial, ⟨trivial, ⟨trivial, ⟨trivial, ⟨trivial, ⟨trivial, ⟨trivial, ⟨trivial, ⟨trivial, ⟨trivial, ⟨trivial, ⟨trivial, ⟨trivial, ⟨trivial, ⟨trivial, ⟨trivial, ⟨trivial, ⟨trivial, ⟨trivial, ⟨trivial, ⟨trivial, ⟨trivial, ⟨trivial, ⟨trivial, ⟨trivial, ⟨trivial, ⟨trivial, ⟨trivial, ⟨trivial, ⟨trivial, ⟨trivial, ⟨trivial, ⟨trivial, ⟨trivial, ⟨trivial, ⟨trivial, ⟨trivial, ⟨trivial, ⟨trivial, ⟨trivial, ⟨trivial, ⟨trivial, ⟨trivial, ⟨trivial, ⟨trivial, ⟨trivial, ⟨trivial, ⟨trivial, ⟨trivial, ⟨trivial, ⟨trivial, ⟨trivial, ⟨trivial, ⟨trivial, ⟨trivial, ⟨trivial, ⟨trivial, ⟨trivial, ⟨trivial, ⟨trivial, ⟨trivial, ⟨trivial, ⟨trivial, ⟨trivial, ⟨trivial, ⟨trivial, ⟨trivial, ⟨trivial, ⟨trivial, ⟨trivial, ⟨trivial, ⟨trivial, ⟨trivial, ⟨trivial, ⟨trivial, ⟨trivial, ⟨trivial, ⟨trivial, ⟨trivial, ⟨trivial, ⟨trivial, ⟨trivial, ⟨⟨by kernel_rfl, aJ Try.func6 iG⟩, ⟨trivial, ⟨⟨by kernel_rfl, aJ Try.func8 kP⟩, ⟨trivial, ⟨trivial, ⟨trivial, ⟨trivial, ⟨trivial, ⟨trivial, ⟨⟨by kernel_rfl, aJ Try.func19 ml⟩, ⟨⟨by kernel_rfl, aJ Try.func20 gC⟩, ⟨trivial, ⟨⟨by kernel_rfl, aJ Try.func23 nG⟩, ⟨trivial, ⟨⟨by kernel_rfl, aJ Try.func25 mm⟩, ⟨trivial, ⟨trivial, ⟨⟨by kernel_rfl, aJ Try.func28 nH⟩, ⟨⟨by kernel_rfl, aJ Try.func29 mo⟩, ⟨trivial, ⟨trivial, ⟨⟨by kernel_rfl, aJ Try.func36 fe⟩, ⟨⟨by kernel_rfl, aJ Try.func38 ff⟩, ⟨trivial, ⟨⟨by kernel_rfl, aJ Try.func41 nI⟩, ⟨⟨by kernel_rfl, aJ Try.func42 jP⟩, ⟨⟨by kernel_rfl, aJ Try.func43 dI⟩, ⟨trivial, ⟨⟨by kernel_rfl, aJ Try.func48 dj⟩, trivial⟩⟩⟩⟩⟩⟩⟩⟩⟩⟩⟩⟩⟩⟩⟩⟩⟩⟩⟩⟩⟩⟩⟩⟩⟩⟩⟩⟩⟩⟩⟩⟩⟩⟩⟩⟩⟩⟩⟩⟩⟩⟩⟩⟩⟩⟩⟩⟩⟩⟩⟩⟩⟩⟩⟩⟩⟩⟩⟩⟩⟩⟩⟩⟩⟩⟩⟩⟩⟩⟩⟩⟩⟩⟩⟩⟩⟩⟩⟩⟩⟩⟩⟩⟩⟩⟩⟩⟩⟩⟩⟩⟩⟩⟩⟩⟩⟩⟩⟩⟩⟩⟩⟩⟩⟩⟩⟩⟩⟩⟩⟩⟩⟩⟩⟩⟩⟩⟩⟩⟩⟩⟩⟩⟩⟩⟩⟩⟩⟩⟩⟩⟩⟩⟩⟩⟩⟩⟩⟩⟩⟩⟩⟩⟩⟩⟩⟩⟩⟩⟩⟩⟩⟩⟩⟩⟩⟩⟩⟩⟩⟩⟩⟩⟩⟩⟩⟩⟩⟩⟩⟩⟩⟩⟩⟩⟩⟩⟩⟩⟩⟩⟩⟩⟩⟩⟩⟩⟩⟩⟩⟩⟩⟩⟩⟩⟩⟩⟩⟩⟩⟩⟩⟩⟩⟩⟩⟩⟩⟩⟩⟩⟩⟩⟩⟩⟩⟩⟩⟩⟩⟩⟩⟩⟩⟩⟩⟩⟩⟩⟩⟩⟩⟩⟩⟩⟩⟩⟩⟩⟩⟩⟩⟩⟩⟩⟩⟩⟩⟩⟩⟩⟩⟩⟩⟩⟩⟩⟩⟩⟩⟩⟩⟩⟩⟩⟩⟩⟩⟩⟩⟩⟩⟩⟩⟩⟩⟩⟩⟩⟩⟩⟩⟩⟩⟩⟩⟩⟩⟩⟩⟩⟩⟩⟩⟩⟩⟩⟩⟩⟩⟩⟩⟩⟩⟩⟩⟩⟩⟩⟩⟩⟩⟩⟩⟩⟩⟩⟩⟩⟩⟩⟩⟩⟩⟩⟩⟩⟩⟩⟩⟩⟩⟩⟩⟩⟩⟩⟩⟩⟩⟩⟩⟩⟩⟩⟩⟩⟩⟩⟩⟩⟩⟩⟩⟩⟩⟩⟩⟩⟩⟩⟩⟩⟩⟩⟩⟩⟩⟩⟩⟩⟩⟩⟩⟩⟩⟩⟩⟩⟩⟩⟩⟩⟩⟩⟩⟩⟩⟩⟩⟩⟩⟩⟩⟩⟩⟩⟩⟩⟩⟩⟩⟩⟩⟩⟩⟩⟩⟩⟩⟩⟩⟩⟩⟩⟩
section
open Go.RowKit Go.Shelf Go.Proofs
/- the inner function of slices.Chunk at this program -/
def Ng : Value → Int | .int _ q => q | _ => 0
set_option maxRecDepth 100000 in
set_option maxHeartbeats 2000000 in
theorem vf : iP Try.prog 48 := by
 refine ⟨Go.Proofs.enters_of Try.func48 (by kernel_rfl) rfl, ?_⟩
 intro n l Bs Bn m J hn hm hD hc hY W h0
 refine callsIn_of_wp Try.func48 rfl trivial ?_ rfl
 simp only [Try.ntmps48, List.size_toArray, List.length_cons, List.length_nil, Nat.reduceAdd, Nat.reduceSub, Array.replicate_succ, Array.replicate_zero, List.push_toArray, List.append_toArray, List.nil_append, List.cons_append]
 have hD' : ∀ k W, J k W → J k W.drew := hD
 gi_wp2
 gi_loopw [4] (fun i wr => ∃ k : Nat, k ≤ m ∧ i = .int .i64 (2 * k) ∧ J k wr)
  (fun i _ => 2 * m - (Ng i).toNat)
 case atStart => exact ⟨0, Nat.zero_le _, rfl, h0⟩
 case round =>
  obtain ⟨k, hk, rfl, hJs⟩ := hrel
  obtain ⟨cn, a, cap, cs, ha⟩ := hc _ _ hJs
  by_cases hlt : k < m
  · obtain ⟨hcap, b, off, rfl⟩ := ha (by omega)
    obtain ⟨fn, tmps, assign, body, hy, hR⟩ := hY k _ b off cap hlt (hD' _ _ hJs) cs
    have hcn : ∀ W, J (k + 1) W → W.cell? ⟨Bn, 0, none⟩ = some (.int .i64 2) := fun W h => (hc _ _ h).1
    clear hY hc ha hD hD'
    gi_wp2
    gi_region
    gi_wp2
    refine hR.mono ?_
    rintro e W3 ⟨rfl, hJ3⟩
    have cn3 := hcn _ hJ3
    clear hcn
    gi_wp2
    go_roundw
    case rel => exact ⟨k + 1, by omega, by simp; omega, hJ3⟩
    case measure => simp [Ng]; omega
  · obtain rfl : k = m := by omega
    clear hY
    gi_wp2
    go_end0
    exact ⟨⟨_, rfl⟩, hJs⟩
end
theorem G6 : ∀ f j, Names.ρ f = some j → Names.it f = true → iP Try.prog j := fun f j hj h => by
 have e : f = 415 := eq_of_beq h
 subst e
 have e : (Names.ρ 415 : Option Nat) = some 48 := by kernel_rfl
 rw [e] at hj; cases hj; exact vf
def G7 : List (Nat × List Nat) := []
theorem vg : ∀ x ∈ G7, ∀ j, Names.ρ x.1 = some j → nU Try.prog j x.2 := by
 intro x hx
 cases hx
end Go.Proofs.Ytbajpjfhkieglaa
