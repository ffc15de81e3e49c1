/-
  No cell of these rows narrows 'for every input' (looked for: loops, veiled, ifaces, maps, wideKeys, modest, calm, conditions, laid).
  DERIVED. THE GIVEN ROWS OF THIS SEAT. 4 by the template 'for every input the law returns true; each argument reads behind the call as it read before'; 0 by the template 'total and deterministic' (their statements: YtmmplabgfomahaaTotals.lean).
  GIVEN WITH THE SEED: the statements are not yours to turn. If you find one false, say at which input.
  Laid BY PROGRAM, IN A SANDBOX (cutbox-rows.mjs): the forced cells as the released guide's own fill.sh prints them over the translation bced923dc39b7946… (all of the seat's roots in one cut). By AI agents, Wed Nov 11 2026. No macro, syntax, notation, axiom, sorry.
-/
import Derived.Test.YtmmplabgfomahaaChecked
import GoSem.Claim
import GoSem.ClaimJoined
import GoSem.ClaimMapViews
import Derived.JoinedTies
import Derived.KernelRfl
namespace Go.Proofs.Ytmmplabgfomahaa
/- THE CELL 'sum', in the pinned program and in every row, IS THE sha256 OF THE DUMP (.gsa) THAT YtmmplabgfomahaaProg.lean LOADS. Nothing in Lean hashes anything: it is a label: what it is worth is what the hold of that sum in a sandbox is worth. -/
noncomputable def Try.pinned : Pinned := { name := "ytmmplabgfomahaa", sum := "bced923dc39b7946bed1415e61716dcb718e9a3fca581d137c20909d218e3750", checked := Try.checked }
namespace Rows
def none {H : Type} : Left H := { results := [], args := [] }

/-- 'minecontrollaw30.RefugeRaw': WHATEVER THE INPUT: true; the input reads as it did. -/
def refugeRawSpec : ChangeSpec := { name := "refugeRaw", fn := fun _ => fun
  | [d1, d2] => { results := [.lit (.bool true)], args := [d1, d2] }
  | _ => none }
def refugeRawRow : OpenClaim := { program := "ytmmplabgfomahaa", sum := "bced923dc39b7946bed1415e61716dcb718e9a3fca581d137c20909d218e3750", func := "minecontrol/minecontrollaw30.RefugeRaw", spec := "refugeRaw", unfollowed := true, recurses := true, apart := false }
def RefugeRawSaid : Prop := refugeRawRow.holds Try.pinned (OpenSpec.ofChange refugeRawSpec)

/-- ITS FALSE NEIGHBOUR: 'it returns false'. Refute it at one input. -/
def refugeRawWrong : ChangeSpec := { name := "refugeRaw", fn := fun _ => fun
  | [d1, d2] => { results := [.lit (.bool false)], args := [d1, d2] }
  | _ => none }
def RefugeRawWrongFalsely : Prop := refugeRawRow.holds Try.pinned (OpenSpec.ofChange refugeRawWrong)

/-- 'minecontrollaw30.RefugeSeats': WHATEVER THE INPUT: true; the input reads as it did. -/
def refugeSeatsSpec : ChangeSpec := { name := "refugeSeats", fn := fun _ => fun
  | [d] => { results := [.lit (.bool true)], args := [d] }
  | _ => none }
def refugeSeatsRow : OpenClaim := { program := "ytmmplabgfomahaa", sum := "bced923dc39b7946bed1415e61716dcb718e9a3fca581d137c20909d218e3750", func := "minecontrol/minecontrollaw30.RefugeSeats", spec := "refugeSeats", unfollowed := true, recurses := true, apart := false }
def RefugeSeatsSaid : Prop := refugeSeatsRow.holds Try.pinned (OpenSpec.ofChange refugeSeatsSpec)

/-- ITS FALSE NEIGHBOUR: 'it returns false'. Refute it at one input. -/
def refugeSeatsWrong : ChangeSpec := { name := "refugeSeats", fn := fun _ => fun
  | [d] => { results := [.lit (.bool false)], args := [d] }
  | _ => none }
def RefugeSeatsWrongFalsely : Prop := refugeSeatsRow.holds Try.pinned (OpenSpec.ofChange refugeSeatsWrong)

/-- 'minecontrollaw30.RefugeOrder': WHATEVER THE INPUT: true; the input reads as it did. -/
def refugeOrderSpec : ChangeSpec := { name := "refugeOrder", fn := fun _ => fun
  | [d] => { results := [.lit (.bool true)], args := [d] }
  | _ => none }
def refugeOrderRow : OpenClaim := { program := "ytmmplabgfomahaa", sum := "bced923dc39b7946bed1415e61716dcb718e9a3fca581d137c20909d218e3750", func := "minecontrol/minecontrollaw30.RefugeOrder", spec := "refugeOrder", unfollowed := true, recurses := true, apart := false }
def RefugeOrderSaid : Prop := refugeOrderRow.holds Try.pinned (OpenSpec.ofChange refugeOrderSpec)

/-- ITS FALSE NEIGHBOUR: 'it returns false'. Refute it at one input. -/
def refugeOrderWrong : ChangeSpec := { name := "refugeOrder", fn := fun _ => fun
  | [d] => { results := [.lit (.bool false)], args := [d] }
  | _ => none }
def RefugeOrderWrongFalsely : Prop := refugeOrderRow.holds Try.pinned (OpenSpec.ofChange refugeOrderWrong)

/-- 'minecontrollaw30.RefugeReached': WHATEVER THE INPUT: true; the input reads as it did. -/
def refugeReachedSpec : ChangeSpec := { name := "refugeReached", fn := fun _ => fun
  | [d] => { results := [.lit (.bool true)], args := [d] }
  | _ => none }
def refugeReachedRow : OpenClaim := { program := "ytmmplabgfomahaa", sum := "bced923dc39b7946bed1415e61716dcb718e9a3fca581d137c20909d218e3750", func := "minecontrol/minecontrollaw30.RefugeReached", spec := "refugeReached", unfollowed := true, recurses := true, apart := false }
def RefugeReachedSaid : Prop := refugeReachedRow.holds Try.pinned (OpenSpec.ofChange refugeReachedSpec)

/-- ITS FALSE NEIGHBOUR: 'it returns false'. Refute it at one input. -/
def refugeReachedWrong : ChangeSpec := { name := "refugeReached", fn := fun _ => fun
  | [d] => { results := [.lit (.bool false)], args := [d] }
  | _ => none }
def RefugeReachedWrongFalsely : Prop := refugeReachedRow.holds Try.pinned (OpenSpec.ofChange refugeReachedWrong)

/- THE SECOND FORM. 'bulk': how many values and letters a reading holds, each counted each time it is reached (what is shared counts as often as it is met; a slice's spare places count too). A statement '..UptoSaid' is the law's where the arguments, and the package variables that the reading takes, are together of bulk at most 1048576: NARROWER than '..Said'. Prove '..Said' where nothing that the law and all that it calls make is longer than what came in: it says more and counts as full. Else prove '..UptoSaid'. A law counts once. -/
mutual
def uptoBulk {H : Type} : DataW H → Nat
  | .lit (.string bytes) => bytes.length + 1
  | .lit _ => 1
  | .nil => 1
  | .ptr d => uptoBulk d + 1
  | .slice elems spare => uptoBulkAll elems + uptoBulkAll spare + 1
  | .agg parts => uptoBulkAll parts + 1
  | .iface _ d => uptoBulk d + 1
  | .map entries => uptoBulkEntries entries + 1
  | .held _ => 1
def uptoBulkAll {H : Type} : List (DataW H) → Nat
  | [] => 0
  | d :: r => uptoBulk d + uptoBulkAll r
def uptoBulkEntries {H : Type} : List (Lit × DataW H) → Nat
  | [] => 0
  | x :: r => uptoBulkEntry x + uptoBulkEntries r
def uptoBulkEntry {H : Type} : Lit × DataW H → Nat
  | (.string bytes, d) => bytes.length + uptoBulk d + 1
  | (_, d) => uptoBulk d + 1
 end
def uptoSmall : (H : Type) → List (DataW H) → Bool := fun _ ds => decide (uptoBulkAll ds ≤ 1048576)
def OpenSpec.upto (s : _root_.Go.ChangeSpec) : _root_.Go.OpenSpec := { _root_.Go.OpenSpec.ofChange s with cond := some uptoSmall }

/-- 'minecontrollaw30.RefugeRaw', WHERE WHAT IT READS IS OF BULK AT MOST 1048576: true; the input reads as it did. -/
def refugeRawUptoRow : OpenClaim := { program := "ytmmplabgfomahaa", sum := "bced923dc39b7946bed1415e61716dcb718e9a3fca581d137c20909d218e3750", func := "minecontrol/minecontrollaw30.RefugeRaw", spec := "refugeRaw", unfollowed := true, recurses := true, apart := false, narrowed := true }
def RefugeRawUptoSaid : Prop := refugeRawUptoRow.holds Try.pinned (OpenSpec.upto refugeRawSpec)

/-- 'minecontrollaw30.RefugeSeats', WHERE WHAT IT READS IS OF BULK AT MOST 1048576: true; the input reads as it did. -/
def refugeSeatsUptoRow : OpenClaim := { program := "ytmmplabgfomahaa", sum := "bced923dc39b7946bed1415e61716dcb718e9a3fca581d137c20909d218e3750", func := "minecontrol/minecontrollaw30.RefugeSeats", spec := "refugeSeats", unfollowed := true, recurses := true, apart := false, narrowed := true }
def RefugeSeatsUptoSaid : Prop := refugeSeatsUptoRow.holds Try.pinned (OpenSpec.upto refugeSeatsSpec)

/-- 'minecontrollaw30.RefugeOrder', WHERE WHAT IT READS IS OF BULK AT MOST 1048576: true; the input reads as it did. -/
def refugeOrderUptoRow : OpenClaim := { program := "ytmmplabgfomahaa", sum := "bced923dc39b7946bed1415e61716dcb718e9a3fca581d137c20909d218e3750", func := "minecontrol/minecontrollaw30.RefugeOrder", spec := "refugeOrder", unfollowed := true, recurses := true, apart := false, narrowed := true }
def RefugeOrderUptoSaid : Prop := refugeOrderUptoRow.holds Try.pinned (OpenSpec.upto refugeOrderSpec)

/-- 'minecontrollaw30.RefugeReached', WHERE WHAT IT READS IS OF BULK AT MOST 1048576: true; the input reads as it did. -/
def refugeReachedUptoRow : OpenClaim := { program := "ytmmplabgfomahaa", sum := "bced923dc39b7946bed1415e61716dcb718e9a3fca581d137c20909d218e3750", func := "minecontrol/minecontrollaw30.RefugeReached", spec := "refugeReached", unfollowed := true, recurses := true, apart := false, narrowed := true }
def RefugeReachedUptoSaid : Prop := refugeReachedUptoRow.holds Try.pinned (OpenSpec.upto refugeReachedSpec)

end Rows
end Go.Proofs.Ytmmplabgfomahaa
