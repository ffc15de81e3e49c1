/-
  No cell of these rows narrows 'for every input' (looked for: loops, veiled, ifaces, maps, wideKeys, modest, calm, conditions, laid).
  DERIVED. THE GIVEN ROWS OF THIS SEAT. 4 by the template 'for every input the law returns true; each argument reads behind the call as it read before'; 0 by the template 'total and deterministic' (their statements: YtifghciaddehaaaGreatTotals.lean).
  GIVEN WITH THE SEED: the statements are not yours to turn. If you find one false, say at which input.
  Laid BY PROGRAM, IN A SANDBOX (cutbox-rows.mjs): the forced cells as the released guide's own fill.sh prints them over the translation 7332daeb5b7c3672… (all of the seat's roots in one cut). By AI agents, Wed Nov 11 2026. No macro, syntax, notation, axiom, sorry.
-/
import Derived.Test.YtifghciaddehaaaGreatChecked
import GoSem.Claim
import GoSem.ClaimJoined
import GoSem.ClaimMapViews
import Derived.JoinedTies
import Derived.KernelRfl
namespace Go.Proofs.YtifghciaddehaaaGreat
/- THE CELL 'sum', in the pinned program and in every row, IS THE sha256 OF THE DUMP (.gsa) THAT YtifghciaddehaaaGreatProg.lean LOADS. Nothing in Lean hashes anything: it is a label: what it is worth is what the hold of that sum in a sandbox is worth. -/
noncomputable def Tryz.pinned : Pinned := { name := "ytifghciaddehaaagreat", sum := "7332daeb5b7c3672b33862c01bb87ecf77382bdedbd072a6ee5a5ff3c28ee8e4", checked := Tryz.checked }
namespace Rows
def none {H : Type} : Left H := { results := [], args := [] }

/-- 'minecontrollaw31.AcceptanceKeeps': WHATEVER THE INPUT: true; the input reads as it did. -/
def acceptanceKeepsSpec : ChangeSpec := { name := "acceptanceKeeps", fn := fun _ => fun
  | [d] => { results := [.lit (.bool true)], args := [d] }
  | _ => none }
def acceptanceKeepsRow : OpenClaim := { program := "ytifghciaddehaaagreat", sum := "7332daeb5b7c3672b33862c01bb87ecf77382bdedbd072a6ee5a5ff3c28ee8e4", func := "minecontrol/minecontrollaw31.AcceptanceKeeps", spec := "acceptanceKeeps", unfollowed := true, recurses := true, apart := false }
def AcceptanceKeepsSaid : Prop := acceptanceKeepsRow.holds Tryz.pinned (OpenSpec.ofChange acceptanceKeepsSpec)

/-- ITS FALSE NEIGHBOUR: 'it returns false'. Refute it at one input. -/
def acceptanceKeepsWrong : ChangeSpec := { name := "acceptanceKeeps", fn := fun _ => fun
  | [d] => { results := [.lit (.bool false)], args := [d] }
  | _ => none }
def AcceptanceKeepsWrongFalsely : Prop := acceptanceKeepsRow.holds Tryz.pinned (OpenSpec.ofChange acceptanceKeepsWrong)

/-- 'minecontrollaw31.AcceptanceBack': WHATEVER THE INPUT: true; the input reads as it did. -/
def acceptanceBackSpec : ChangeSpec := { name := "acceptanceBack", fn := fun _ => fun
  | [d] => { results := [.lit (.bool true)], args := [d] }
  | _ => none }
def acceptanceBackRow : OpenClaim := { program := "ytifghciaddehaaagreat", sum := "7332daeb5b7c3672b33862c01bb87ecf77382bdedbd072a6ee5a5ff3c28ee8e4", func := "minecontrol/minecontrollaw31.AcceptanceBack", spec := "acceptanceBack", unfollowed := true, recurses := true, apart := false }
def AcceptanceBackSaid : Prop := acceptanceBackRow.holds Tryz.pinned (OpenSpec.ofChange acceptanceBackSpec)

/-- ITS FALSE NEIGHBOUR: 'it returns false'. Refute it at one input. -/
def acceptanceBackWrong : ChangeSpec := { name := "acceptanceBack", fn := fun _ => fun
  | [d] => { results := [.lit (.bool false)], args := [d] }
  | _ => none }
def AcceptanceBackWrongFalsely : Prop := acceptanceBackRow.holds Tryz.pinned (OpenSpec.ofChange acceptanceBackWrong)

/-- 'minecontrollaw31.AcceptanceMade': WHATEVER THE INPUT: true; the input reads as it did. -/
def acceptanceMadeSpec : ChangeSpec := { name := "acceptanceMade", fn := fun _ => fun
  | [d] => { results := [.lit (.bool true)], args := [d] }
  | _ => none }
def acceptanceMadeRow : OpenClaim := { program := "ytifghciaddehaaagreat", sum := "7332daeb5b7c3672b33862c01bb87ecf77382bdedbd072a6ee5a5ff3c28ee8e4", func := "minecontrol/minecontrollaw31.AcceptanceMade", spec := "acceptanceMade", unfollowed := true, recurses := true, apart := false }
def AcceptanceMadeSaid : Prop := acceptanceMadeRow.holds Tryz.pinned (OpenSpec.ofChange acceptanceMadeSpec)

/-- ITS FALSE NEIGHBOUR: 'it returns false'. Refute it at one input. -/
def acceptanceMadeWrong : ChangeSpec := { name := "acceptanceMade", fn := fun _ => fun
  | [d] => { results := [.lit (.bool false)], args := [d] }
  | _ => none }
def AcceptanceMadeWrongFalsely : Prop := acceptanceMadeRow.holds Tryz.pinned (OpenSpec.ofChange acceptanceMadeWrong)

/-- 'minecontrollaw31.AcceptanceNamed': WHATEVER THE INPUT: true; the input reads as it did. -/
def acceptanceNamedSpec : ChangeSpec := { name := "acceptanceNamed", fn := fun _ => fun
  | [d] => { results := [.lit (.bool true)], args := [d] }
  | _ => none }
def acceptanceNamedRow : OpenClaim := { program := "ytifghciaddehaaagreat", sum := "7332daeb5b7c3672b33862c01bb87ecf77382bdedbd072a6ee5a5ff3c28ee8e4", func := "minecontrol/minecontrollaw31.AcceptanceNamed", spec := "acceptanceNamed", unfollowed := true, recurses := true, apart := false }
def AcceptanceNamedSaid : Prop := acceptanceNamedRow.holds Tryz.pinned (OpenSpec.ofChange acceptanceNamedSpec)

/-- ITS FALSE NEIGHBOUR: 'it returns false'. Refute it at one input. -/
def acceptanceNamedWrong : ChangeSpec := { name := "acceptanceNamed", fn := fun _ => fun
  | [d] => { results := [.lit (.bool false)], args := [d] }
  | _ => none }
def AcceptanceNamedWrongFalsely : Prop := acceptanceNamedRow.holds Tryz.pinned (OpenSpec.ofChange acceptanceNamedWrong)

/- THE SECOND FORM. 'bulk': how many values and letters a reading holds, each counted each time it is reached (what is shared counts as often as it is met; a slice's spare places count too). A statement '..UptoSaid' is the law's where the arguments, and the package variables that the reading takes, are together of bulk at most 1048576: NARROWER than '..Said'. Prove '..Said' where nothing that the law and all that it calls make is longer than what came in: it says more and counts as full. Else prove '..UptoSaid'. A law counts once. -/
mutual
def uptoBulk {H : Type} : DataW H → Nat
  | .lit (.string bytes) => bytes.length + 1
  | .lit _ => 1
  | .nil => 1
  | .ptr d => uptoBulk d + 1
  | .slice elems spare => uptoBulkAll elems + uptoBulkAll spare + 1
  | .agg parts => uptoBulkAll parts + 1
  | .iface _ d => uptoBulk d + 1
  | .map entries => uptoBulkEntries entries + 1
  | .held _ => 1
def uptoBulkAll {H : Type} : List (DataW H) → Nat
  | [] => 0
  | d :: r => uptoBulk d + uptoBulkAll r
def uptoBulkEntries {H : Type} : List (Lit × DataW H) → Nat
  | [] => 0
  | x :: r => uptoBulkEntry x + uptoBulkEntries r
def uptoBulkEntry {H : Type} : Lit × DataW H → Nat
  | (.string bytes, d) => bytes.length + uptoBulk d + 1
  | (_, d) => uptoBulk d + 1
 end
def uptoSmall : (H : Type) → List (DataW H) → Bool := fun _ ds => decide (uptoBulkAll ds ≤ 1048576)
def OpenSpec.upto (s : _root_.Go.ChangeSpec) : _root_.Go.OpenSpec := { _root_.Go.OpenSpec.ofChange s with cond := some uptoSmall }

/-- 'minecontrollaw31.AcceptanceKeeps', WHERE WHAT IT READS IS OF BULK AT MOST 1048576: true; the input reads as it did. -/
def acceptanceKeepsUptoRow : OpenClaim := { program := "ytifghciaddehaaagreat", sum := "7332daeb5b7c3672b33862c01bb87ecf77382bdedbd072a6ee5a5ff3c28ee8e4", func := "minecontrol/minecontrollaw31.AcceptanceKeeps", spec := "acceptanceKeeps", unfollowed := true, recurses := true, apart := false, narrowed := true }
def AcceptanceKeepsUptoSaid : Prop := acceptanceKeepsUptoRow.holds Tryz.pinned (OpenSpec.upto acceptanceKeepsSpec)

/-- 'minecontrollaw31.AcceptanceBack', WHERE WHAT IT READS IS OF BULK AT MOST 1048576: true; the input reads as it did. -/
def acceptanceBackUptoRow : OpenClaim := { program := "ytifghciaddehaaagreat", sum := "7332daeb5b7c3672b33862c01bb87ecf77382bdedbd072a6ee5a5ff3c28ee8e4", func := "minecontrol/minecontrollaw31.AcceptanceBack", spec := "acceptanceBack", unfollowed := true, recurses := true, apart := false, narrowed := true }
def AcceptanceBackUptoSaid : Prop := acceptanceBackUptoRow.holds Tryz.pinned (OpenSpec.upto acceptanceBackSpec)

/-- 'minecontrollaw31.AcceptanceMade', WHERE WHAT IT READS IS OF BULK AT MOST 1048576: true; the input reads as it did. -/
def acceptanceMadeUptoRow : OpenClaim := { program := "ytifghciaddehaaagreat", sum := "7332daeb5b7c3672b33862c01bb87ecf77382bdedbd072a6ee5a5ff3c28ee8e4", func := "minecontrol/minecontrollaw31.AcceptanceMade", spec := "acceptanceMade", unfollowed := true, recurses := true, apart := false, narrowed := true }
def AcceptanceMadeUptoSaid : Prop := acceptanceMadeUptoRow.holds Tryz.pinned (OpenSpec.upto acceptanceMadeSpec)

/-- 'minecontrollaw31.AcceptanceNamed', WHERE WHAT IT READS IS OF BULK AT MOST 1048576: true; the input reads as it did. -/
def acceptanceNamedUptoRow : OpenClaim := { program := "ytifghciaddehaaagreat", sum := "7332daeb5b7c3672b33862c01bb87ecf77382bdedbd072a6ee5a5ff3c28ee8e4", func := "minecontrol/minecontrollaw31.AcceptanceNamed", spec := "acceptanceNamed", unfollowed := true, recurses := true, apart := false, narrowed := true }
def AcceptanceNamedUptoSaid : Prop := acceptanceNamedUptoRow.holds Tryz.pinned (OpenSpec.upto acceptanceNamedSpec)

end Rows
end Go.Proofs.YtifghciaddehaaaGreat
