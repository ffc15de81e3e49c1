/-
  No cell of these rows narrows 'for every input' (looked for: loops, veiled, ifaces, maps, wideKeys, modest, calm, conditions, laid).
  DERIVED. THE GIVEN ROWS OF THIS SEAT. 3 by the template 'for every input the law returns true; each argument reads behind the call as it read before'; 0 by the template 'total and deterministic' (their statements: YtafioeehabcnhaaTotals.lean).
  GIVEN WITH THE SEED: the statements are not yours to turn. If you find one false, say at which input.
  Laid BY PROGRAM, IN A SANDBOX (cutbox-rows.mjs): the forced cells as the released guide's own fill.sh prints them over the translation 5ddb19d231b53e62… (all of the seat's roots in one cut). By AI agents, Wed Nov 11 2026. No macro, syntax, notation, axiom, sorry.
-/
import Derived.Test.YtafioeehabcnhaaChecked
import GoSem.Claim
import GoSem.ClaimJoined
import GoSem.ClaimMapViews
import Derived.JoinedTies
import Derived.KernelRfl
namespace Go.Proofs.Ytafioeehabcnhaa
/- THE CELL 'sum', in the pinned program and in every row, IS THE sha256 OF THE DUMP (.gsa) THAT YtafioeehabcnhaaProg.lean LOADS. Nothing in Lean hashes anything: it is a label: what it is worth is what the hold of that sum in a sandbox is worth. -/
noncomputable def Try.pinned : Pinned := { name := "ytafioeehabcnhaa", sum := "5ddb19d231b53e62913455de68a469b3f688727b35a7abd5d7d47cd84ec25743", checked := Try.checked }
namespace Rows
def none {H : Type} : Left H := { results := [], args := [] }

/-- 'minecontrollaw43.TruthStarts': WHATEVER THE INPUT: true; the input reads as it did. -/
def truthStartsSpec : ChangeSpec := { name := "truthStarts", fn := fun _ => fun
  | [d1, d2, d3] => { results := [.lit (.bool true)], args := [d1, d2, d3] }
  | _ => none }
def truthStartsRow : OpenClaim := { program := "ytafioeehabcnhaa", sum := "5ddb19d231b53e62913455de68a469b3f688727b35a7abd5d7d47cd84ec25743", func := "minecontrol/minecontrollaw43.TruthStarts", spec := "truthStarts", unfollowed := true, recurses := true, apart := false }
def TruthStartsSaid : Prop := truthStartsRow.holds Try.pinned (OpenSpec.ofChange truthStartsSpec)

/-- ITS FALSE NEIGHBOUR: 'it returns false'. Refute it at one input. -/
def truthStartsWrong : ChangeSpec := { name := "truthStarts", fn := fun _ => fun
  | [d1, d2, d3] => { results := [.lit (.bool false)], args := [d1, d2, d3] }
  | _ => none }
def TruthStartsWrongFalsely : Prop := truthStartsRow.holds Try.pinned (OpenSpec.ofChange truthStartsWrong)

/-- 'minecontrollaw43.TruthLooks': WHATEVER THE INPUT: true; the input reads as it did. -/
def truthLooksSpec : ChangeSpec := { name := "truthLooks", fn := fun _ => fun
  | [d] => { results := [.lit (.bool true)], args := [d] }
  | _ => none }
def truthLooksRow : OpenClaim := { program := "ytafioeehabcnhaa", sum := "5ddb19d231b53e62913455de68a469b3f688727b35a7abd5d7d47cd84ec25743", func := "minecontrol/minecontrollaw43.TruthLooks", spec := "truthLooks", unfollowed := true, recurses := true, apart := false }
def TruthLooksSaid : Prop := truthLooksRow.holds Try.pinned (OpenSpec.ofChange truthLooksSpec)

/-- ITS FALSE NEIGHBOUR: 'it returns false'. Refute it at one input. -/
def truthLooksWrong : ChangeSpec := { name := "truthLooks", fn := fun _ => fun
  | [d] => { results := [.lit (.bool false)], args := [d] }
  | _ => none }
def TruthLooksWrongFalsely : Prop := truthLooksRow.holds Try.pinned (OpenSpec.ofChange truthLooksWrong)

/-- 'minecontrollaw43.TruthTwice': WHATEVER THE INPUT: true; the input reads as it did. -/
def truthTwiceSpec : ChangeSpec := { name := "truthTwice", fn := fun _ => fun
  | [d] => { results := [.lit (.bool true)], args := [d] }
  | _ => none }
def truthTwiceRow : OpenClaim := { program := "ytafioeehabcnhaa", sum := "5ddb19d231b53e62913455de68a469b3f688727b35a7abd5d7d47cd84ec25743", func := "minecontrol/minecontrollaw43.TruthTwice", spec := "truthTwice", unfollowed := true, recurses := true, apart := false }
def TruthTwiceSaid : Prop := truthTwiceRow.holds Try.pinned (OpenSpec.ofChange truthTwiceSpec)

/-- ITS FALSE NEIGHBOUR: 'it returns false'. Refute it at one input. -/
def truthTwiceWrong : ChangeSpec := { name := "truthTwice", fn := fun _ => fun
  | [d] => { results := [.lit (.bool false)], args := [d] }
  | _ => none }
def TruthTwiceWrongFalsely : Prop := truthTwiceRow.holds Try.pinned (OpenSpec.ofChange truthTwiceWrong)

/- THE SECOND FORM. 'bulk': how many values and letters a reading holds, each counted each time it is reached (what is shared counts as often as it is met; a slice's spare places count too). A statement '..UptoSaid' is the law's where the arguments, and the package variables that the reading takes, are together of bulk at most 1048576: NARROWER than '..Said'. Prove '..Said' where nothing that the law and all that it calls make is longer than what came in: it says more and counts as full. Else prove '..UptoSaid'. A law counts once. -/
mutual
def uptoBulk {H : Type} : DataW H → Nat
  | .lit (.string bytes) => bytes.length + 1
  | .lit _ => 1
  | .nil => 1
  | .ptr d => uptoBulk d + 1
  | .slice elems spare => uptoBulkAll elems + uptoBulkAll spare + 1
  | .agg parts => uptoBulkAll parts + 1
  | .iface _ d => uptoBulk d + 1
  | .map entries => uptoBulkEntries entries + 1
  | .held _ => 1
def uptoBulkAll {H : Type} : List (DataW H) → Nat
  | [] => 0
  | d :: r => uptoBulk d + uptoBulkAll r
def uptoBulkEntries {H : Type} : List (Lit × DataW H) → Nat
  | [] => 0
  | x :: r => uptoBulkEntry x + uptoBulkEntries r
def uptoBulkEntry {H : Type} : Lit × DataW H → Nat
  | (.string bytes, d) => bytes.length + uptoBulk d + 1
  | (_, d) => uptoBulk d + 1
 end
def uptoSmall : (H : Type) → List (DataW H) → Bool := fun _ ds => decide (uptoBulkAll ds ≤ 1048576)
def OpenSpec.upto (s : _root_.Go.ChangeSpec) : _root_.Go.OpenSpec := { _root_.Go.OpenSpec.ofChange s with cond := some uptoSmall }

/-- 'minecontrollaw43.TruthStarts', WHERE WHAT IT READS IS OF BULK AT MOST 1048576: true; the input reads as it did. -/
def truthStartsUptoRow : OpenClaim := { program := "ytafioeehabcnhaa", sum := "5ddb19d231b53e62913455de68a469b3f688727b35a7abd5d7d47cd84ec25743", func := "minecontrol/minecontrollaw43.TruthStarts", spec := "truthStarts", unfollowed := true, recurses := true, apart := false, narrowed := true }
def TruthStartsUptoSaid : Prop := truthStartsUptoRow.holds Try.pinned (OpenSpec.upto truthStartsSpec)

/-- 'minecontrollaw43.TruthLooks', WHERE WHAT IT READS IS OF BULK AT MOST 1048576: true; the input reads as it did. -/
def truthLooksUptoRow : OpenClaim := { program := "ytafioeehabcnhaa", sum := "5ddb19d231b53e62913455de68a469b3f688727b35a7abd5d7d47cd84ec25743", func := "minecontrol/minecontrollaw43.TruthLooks", spec := "truthLooks", unfollowed := true, recurses := true, apart := false, narrowed := true }
def TruthLooksUptoSaid : Prop := truthLooksUptoRow.holds Try.pinned (OpenSpec.upto truthLooksSpec)

/-- 'minecontrollaw43.TruthTwice', WHERE WHAT IT READS IS OF BULK AT MOST 1048576: true; the input reads as it did. -/
def truthTwiceUptoRow : OpenClaim := { program := "ytafioeehabcnhaa", sum := "5ddb19d231b53e62913455de68a469b3f688727b35a7abd5d7d47cd84ec25743", func := "minecontrol/minecontrollaw43.TruthTwice", spec := "truthTwice", unfollowed := true, recurses := true, apart := false, narrowed := true }
def TruthTwiceUptoSaid : Prop := truthTwiceUptoRow.holds Try.pinned (OpenSpec.upto truthTwiceSpec)

end Rows
end Go.Proofs.Ytafioeehabcnhaa
