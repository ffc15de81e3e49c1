/-
  No cell of these rows narrows 'for every input' (looked for: loops, veiled, ifaces, maps, wideKeys, modest, calm, conditions, laid).
  DERIVED. THE GIVEN ROWS OF THIS SEAT. 5 by the template 'for every input the law returns true; each argument reads behind the call as it read before'; 0 by the template 'total and deterministic' (their statements: YtljlbkjecjloaaaGreatTotals.lean).
  GIVEN WITH THE SEED: the statements are not yours to turn. If you find one false, say at which input.
  Laid BY PROGRAM, IN A SANDBOX (cutbox-rows.mjs): the forced cells as the released guide's own fill.sh prints them over the translation c79e19b4799ac949… (all of the seat's roots in one cut). By AI agents, Wed Nov 11 2026. No macro, syntax, notation, axiom, sorry.
-/
import Derived.Test.YtljlbkjecjloaaaGreatChecked
import GoSem.Claim
import GoSem.ClaimJoined
import GoSem.ClaimMapViews
import Derived.JoinedTies
import Derived.KernelRfl
namespace Go.Proofs.YtljlbkjecjloaaaGreat
/- THE CELL 'sum', in the pinned program and in every row, IS THE sha256 OF THE DUMP (.gsa) THAT YtljlbkjecjloaaaGreatProg.lean LOADS. Nothing in Lean hashes anything: it is a label: what it is worth is what the hold of that sum in a sandbox is worth. -/
noncomputable def Tryz.pinned : Pinned := { name := "ytljlbkjecjloaaagreat", sum := "c79e19b4799ac949b2a8ebbaae481a14655c2c66fe94ae59cefbf3c981050c49", checked := Tryz.checked }
namespace Rows
def none {H : Type} : Left H := { results := [], args := [] }

/-- 'minecontrollaw32.AreaOf': WHATEVER THE INPUT: true; the input reads as it did. -/
def areaOfSpec : ChangeSpec := { name := "areaOf", fn := fun _ => fun
  | [d1, d2] => { results := [.lit (.bool true)], args := [d1, d2] }
  | _ => none }
def areaOfRow : OpenClaim := { program := "ytljlbkjecjloaaagreat", sum := "c79e19b4799ac949b2a8ebbaae481a14655c2c66fe94ae59cefbf3c981050c49", func := "minecontrol/minecontrollaw32.AreaOf", spec := "areaOf", unfollowed := true, recurses := true, apart := false }
def AreaOfSaid : Prop := areaOfRow.holds Tryz.pinned (OpenSpec.ofChange areaOfSpec)

/-- ITS FALSE NEIGHBOUR: 'it returns false'. Refute it at one input. -/
def areaOfWrong : ChangeSpec := { name := "areaOf", fn := fun _ => fun
  | [d1, d2] => { results := [.lit (.bool false)], args := [d1, d2] }
  | _ => none }
def AreaOfWrongFalsely : Prop := areaOfRow.holds Tryz.pinned (OpenSpec.ofChange areaOfWrong)

/-- 'minecontrollaw32.AreaHolds': WHATEVER THE INPUT: true; the input reads as it did. -/
def areaHoldsSpec : ChangeSpec := { name := "areaHolds", fn := fun _ => fun
  | [d] => { results := [.lit (.bool true)], args := [d] }
  | _ => none }
def areaHoldsRow : OpenClaim := { program := "ytljlbkjecjloaaagreat", sum := "c79e19b4799ac949b2a8ebbaae481a14655c2c66fe94ae59cefbf3c981050c49", func := "minecontrol/minecontrollaw32.AreaHolds", spec := "areaHolds", unfollowed := true, recurses := true, apart := false }
def AreaHoldsSaid : Prop := areaHoldsRow.holds Tryz.pinned (OpenSpec.ofChange areaHoldsSpec)

/-- ITS FALSE NEIGHBOUR: 'it returns false'. Refute it at one input. -/
def areaHoldsWrong : ChangeSpec := { name := "areaHolds", fn := fun _ => fun
  | [d] => { results := [.lit (.bool false)], args := [d] }
  | _ => none }
def AreaHoldsWrongFalsely : Prop := areaHoldsRow.holds Tryz.pinned (OpenSpec.ofChange areaHoldsWrong)

/-- 'minecontrollaw32.AreaMore': WHATEVER THE INPUT: true; the input reads as it did. -/
def areaMoreSpec : ChangeSpec := { name := "areaMore", fn := fun _ => fun
  | [d] => { results := [.lit (.bool true)], args := [d] }
  | _ => none }
def areaMoreRow : OpenClaim := { program := "ytljlbkjecjloaaagreat", sum := "c79e19b4799ac949b2a8ebbaae481a14655c2c66fe94ae59cefbf3c981050c49", func := "minecontrol/minecontrollaw32.AreaMore", spec := "areaMore", unfollowed := true, recurses := true, apart := false }
def AreaMoreSaid : Prop := areaMoreRow.holds Tryz.pinned (OpenSpec.ofChange areaMoreSpec)

/-- ITS FALSE NEIGHBOUR: 'it returns false'. Refute it at one input. -/
def areaMoreWrong : ChangeSpec := { name := "areaMore", fn := fun _ => fun
  | [d] => { results := [.lit (.bool false)], args := [d] }
  | _ => none }
def AreaMoreWrongFalsely : Prop := areaMoreRow.holds Tryz.pinned (OpenSpec.ofChange areaMoreWrong)

/-- 'minecontrollaw32.AreaMade': WHATEVER THE INPUT: true; the input reads as it did. -/
def areaMadeSpec : ChangeSpec := { name := "areaMade", fn := fun _ => fun
  | [d] => { results := [.lit (.bool true)], args := [d] }
  | _ => none }
def areaMadeRow : OpenClaim := { program := "ytljlbkjecjloaaagreat", sum := "c79e19b4799ac949b2a8ebbaae481a14655c2c66fe94ae59cefbf3c981050c49", func := "minecontrol/minecontrollaw32.AreaMade", spec := "areaMade", unfollowed := true, recurses := true, apart := false }
def AreaMadeSaid : Prop := areaMadeRow.holds Tryz.pinned (OpenSpec.ofChange areaMadeSpec)

/-- ITS FALSE NEIGHBOUR: 'it returns false'. Refute it at one input. -/
def areaMadeWrong : ChangeSpec := { name := "areaMade", fn := fun _ => fun
  | [d] => { results := [.lit (.bool false)], args := [d] }
  | _ => none }
def AreaMadeWrongFalsely : Prop := areaMadeRow.holds Tryz.pinned (OpenSpec.ofChange areaMadeWrong)

/-- 'minecontrollaw32.AreaSeals': WHATEVER THE INPUT: true; the input reads as it did. -/
def areaSealsSpec : ChangeSpec := { name := "areaSeals", fn := fun _ => fun
  | [d] => { results := [.lit (.bool true)], args := [d] }
  | _ => none }
def areaSealsRow : OpenClaim := { program := "ytljlbkjecjloaaagreat", sum := "c79e19b4799ac949b2a8ebbaae481a14655c2c66fe94ae59cefbf3c981050c49", func := "minecontrol/minecontrollaw32.AreaSeals", spec := "areaSeals", unfollowed := true, recurses := true, apart := false }
def AreaSealsSaid : Prop := areaSealsRow.holds Tryz.pinned (OpenSpec.ofChange areaSealsSpec)

/-- ITS FALSE NEIGHBOUR: 'it returns false'. Refute it at one input. -/
def areaSealsWrong : ChangeSpec := { name := "areaSeals", fn := fun _ => fun
  | [d] => { results := [.lit (.bool false)], args := [d] }
  | _ => none }
def AreaSealsWrongFalsely : Prop := areaSealsRow.holds Tryz.pinned (OpenSpec.ofChange areaSealsWrong)

/- THE SECOND FORM. 'bulk': how many values and letters a reading holds, each counted each time it is reached (what is shared counts as often as it is met; a slice's spare places count too). A statement '..UptoSaid' is the law's where the arguments, and the package variables that the reading takes, are together of bulk at most 1048576: NARROWER than '..Said'. Prove '..Said' where nothing that the law and all that it calls make is longer than what came in: it says more and counts as full. Else prove '..UptoSaid'. A law counts once. -/
mutual
def uptoBulk {H : Type} : DataW H → Nat
  | .lit (.string bytes) => bytes.length + 1
  | .lit _ => 1
  | .nil => 1
  | .ptr d => uptoBulk d + 1
  | .slice elems spare => uptoBulkAll elems + uptoBulkAll spare + 1
  | .agg parts => uptoBulkAll parts + 1
  | .iface _ d => uptoBulk d + 1
  | .map entries => uptoBulkEntries entries + 1
  | .held _ => 1
def uptoBulkAll {H : Type} : List (DataW H) → Nat
  | [] => 0
  | d :: r => uptoBulk d + uptoBulkAll r
def uptoBulkEntries {H : Type} : List (Lit × DataW H) → Nat
  | [] => 0
  | x :: r => uptoBulkEntry x + uptoBulkEntries r
def uptoBulkEntry {H : Type} : Lit × DataW H → Nat
  | (.string bytes, d) => bytes.length + uptoBulk d + 1
  | (_, d) => uptoBulk d + 1
 end
def uptoSmall : (H : Type) → List (DataW H) → Bool := fun _ ds => decide (uptoBulkAll ds ≤ 1048576)
def OpenSpec.upto (s : _root_.Go.ChangeSpec) : _root_.Go.OpenSpec := { _root_.Go.OpenSpec.ofChange s with cond := some uptoSmall }

/-- 'minecontrollaw32.AreaOf', WHERE WHAT IT READS IS OF BULK AT MOST 1048576: true; the input reads as it did. -/
def areaOfUptoRow : OpenClaim := { program := "ytljlbkjecjloaaagreat", sum := "c79e19b4799ac949b2a8ebbaae481a14655c2c66fe94ae59cefbf3c981050c49", func := "minecontrol/minecontrollaw32.AreaOf", spec := "areaOf", unfollowed := true, recurses := true, apart := false, narrowed := true }
def AreaOfUptoSaid : Prop := areaOfUptoRow.holds Tryz.pinned (OpenSpec.upto areaOfSpec)

/-- 'minecontrollaw32.AreaHolds', WHERE WHAT IT READS IS OF BULK AT MOST 1048576: true; the input reads as it did. -/
def areaHoldsUptoRow : OpenClaim := { program := "ytljlbkjecjloaaagreat", sum := "c79e19b4799ac949b2a8ebbaae481a14655c2c66fe94ae59cefbf3c981050c49", func := "minecontrol/minecontrollaw32.AreaHolds", spec := "areaHolds", unfollowed := true, recurses := true, apart := false, narrowed := true }
def AreaHoldsUptoSaid : Prop := areaHoldsUptoRow.holds Tryz.pinned (OpenSpec.upto areaHoldsSpec)

/-- 'minecontrollaw32.AreaMore', WHERE WHAT IT READS IS OF BULK AT MOST 1048576: true; the input reads as it did. -/
def areaMoreUptoRow : OpenClaim := { program := "ytljlbkjecjloaaagreat", sum := "c79e19b4799ac949b2a8ebbaae481a14655c2c66fe94ae59cefbf3c981050c49", func := "minecontrol/minecontrollaw32.AreaMore", spec := "areaMore", unfollowed := true, recurses := true, apart := false, narrowed := true }
def AreaMoreUptoSaid : Prop := areaMoreUptoRow.holds Tryz.pinned (OpenSpec.upto areaMoreSpec)

/-- 'minecontrollaw32.AreaMade', WHERE WHAT IT READS IS OF BULK AT MOST 1048576: true; the input reads as it did. -/
def areaMadeUptoRow : OpenClaim := { program := "ytljlbkjecjloaaagreat", sum := "c79e19b4799ac949b2a8ebbaae481a14655c2c66fe94ae59cefbf3c981050c49", func := "minecontrol/minecontrollaw32.AreaMade", spec := "areaMade", unfollowed := true, recurses := true, apart := false, narrowed := true }
def AreaMadeUptoSaid : Prop := areaMadeUptoRow.holds Tryz.pinned (OpenSpec.upto areaMadeSpec)

/-- 'minecontrollaw32.AreaSeals', WHERE WHAT IT READS IS OF BULK AT MOST 1048576: true; the input reads as it did. -/
def areaSealsUptoRow : OpenClaim := { program := "ytljlbkjecjloaaagreat", sum := "c79e19b4799ac949b2a8ebbaae481a14655c2c66fe94ae59cefbf3c981050c49", func := "minecontrol/minecontrollaw32.AreaSeals", spec := "areaSeals", unfollowed := true, recurses := true, apart := false, narrowed := true }
def AreaSealsUptoSaid : Prop := areaSealsUptoRow.holds Tryz.pinned (OpenSpec.upto areaSealsSpec)

end Rows
end Go.Proofs.YtljlbkjecjloaaaGreat
