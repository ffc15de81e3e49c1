/-
  No cell of these rows narrows 'for every input' (looked for: loops, veiled, ifaces, maps, wideKeys, modest, calm, conditions, laid).
  DERIVED. THE GIVEN ROWS OF THIS SEAT. 7 by the template 'for every input the law returns true; each argument reads behind the call as it read before'; 0 by the template 'total and deterministic' (their statements: YtgeclpmbbaimgaaTotals.lean).
  GIVEN WITH THE SEED: the statements are not yours to turn. If you find one false, say at which input.
  Laid BY PROGRAM, IN A SANDBOX (cutbox-rows.mjs): the forced cells as the released guide's own fill.sh prints them over the translation e2c509b258ce647d… (all of the seat's roots in one cut). By AI agents, Wed Nov 11 2026. No macro, syntax, notation, axiom, sorry.
-/
import Derived.Test.YtgeclpmbbaimgaaChecked
import GoSem.Claim
import GoSem.ClaimJoined
import GoSem.ClaimMapViews
import Derived.JoinedTies
import Derived.KernelRfl
namespace Go.Proofs.Ytgeclpmbbaimgaa
/- THE CELL 'sum', in the pinned program and in every row, IS THE sha256 OF THE DUMP (.gsa) THAT YtgeclpmbbaimgaaProg.lean LOADS. Nothing in Lean hashes anything: it is a label: what it is worth is what the hold of that sum in a sandbox is worth. -/
noncomputable def Try.pinned : Pinned := { name := "ytgeclpmbbaimgaa", sum := "e2c509b258ce647d0142a0edfd3b022ab06da51037ab586879dbf7938cb27f64", checked := Try.checked }
namespace Rows
def none {H : Type} : Left H := { results := [], args := [] }

/-- 'minecontrollaw25.PlacesLeast': WHATEVER THE INPUT: true; the input reads as it did. -/
def placesLeastSpec : ChangeSpec := { name := "placesLeast", fn := fun _ => fun
  | [d1, d2] => { results := [.lit (.bool true)], args := [d1, d2] }
  | _ => none }
def placesLeastRow : OpenClaim := { program := "ytgeclpmbbaimgaa", sum := "e2c509b258ce647d0142a0edfd3b022ab06da51037ab586879dbf7938cb27f64", func := "minecontrol/minecontrollaw25.PlacesLeast", spec := "placesLeast", unfollowed := true, recurses := true, apart := false }
def PlacesLeastSaid : Prop := placesLeastRow.holds Try.pinned (OpenSpec.ofChange placesLeastSpec)

/-- ITS FALSE NEIGHBOUR: 'it returns false'. Refute it at one input. -/
def placesLeastWrong : ChangeSpec := { name := "placesLeast", fn := fun _ => fun
  | [d1, d2] => { results := [.lit (.bool false)], args := [d1, d2] }
  | _ => none }
def PlacesLeastWrongFalsely : Prop := placesLeastRow.holds Try.pinned (OpenSpec.ofChange placesLeastWrong)

/-- 'minecontrollaw25.PlacesJoins': WHATEVER THE INPUT: true; the input reads as it did. -/
def placesJoinsSpec : ChangeSpec := { name := "placesJoins", fn := fun _ => fun
  | [d1, d2] => { results := [.lit (.bool true)], args := [d1, d2] }
  | _ => none }
def placesJoinsRow : OpenClaim := { program := "ytgeclpmbbaimgaa", sum := "e2c509b258ce647d0142a0edfd3b022ab06da51037ab586879dbf7938cb27f64", func := "minecontrol/minecontrollaw25.PlacesJoins", spec := "placesJoins", unfollowed := true, recurses := true, apart := false }
def PlacesJoinsSaid : Prop := placesJoinsRow.holds Try.pinned (OpenSpec.ofChange placesJoinsSpec)

/-- ITS FALSE NEIGHBOUR: 'it returns false'. Refute it at one input. -/
def placesJoinsWrong : ChangeSpec := { name := "placesJoins", fn := fun _ => fun
  | [d1, d2] => { results := [.lit (.bool false)], args := [d1, d2] }
  | _ => none }
def PlacesJoinsWrongFalsely : Prop := placesJoinsRow.holds Try.pinned (OpenSpec.ofChange placesJoinsWrong)

/-- 'minecontrollaw25.PlacesTrue': WHATEVER THE INPUT: true; the input reads as it did. -/
def placesTrueSpec : ChangeSpec := { name := "placesTrue", fn := fun _ => fun
  | [d1, d2] => { results := [.lit (.bool true)], args := [d1, d2] }
  | _ => none }
def placesTrueRow : OpenClaim := { program := "ytgeclpmbbaimgaa", sum := "e2c509b258ce647d0142a0edfd3b022ab06da51037ab586879dbf7938cb27f64", func := "minecontrol/minecontrollaw25.PlacesTrue", spec := "placesTrue", unfollowed := true, recurses := true, apart := false }
def PlacesTrueSaid : Prop := placesTrueRow.holds Try.pinned (OpenSpec.ofChange placesTrueSpec)

/-- ITS FALSE NEIGHBOUR: 'it returns false'. Refute it at one input. -/
def placesTrueWrong : ChangeSpec := { name := "placesTrue", fn := fun _ => fun
  | [d1, d2] => { results := [.lit (.bool false)], args := [d1, d2] }
  | _ => none }
def PlacesTrueWrongFalsely : Prop := placesTrueRow.holds Try.pinned (OpenSpec.ofChange placesTrueWrong)

/-- 'minecontrollaw25.PlacesShift': WHATEVER THE INPUT: true; the input reads as it did. -/
def placesShiftSpec : ChangeSpec := { name := "placesShift", fn := fun _ => fun
  | [d1, d2] => { results := [.lit (.bool true)], args := [d1, d2] }
  | _ => none }
def placesShiftRow : OpenClaim := { program := "ytgeclpmbbaimgaa", sum := "e2c509b258ce647d0142a0edfd3b022ab06da51037ab586879dbf7938cb27f64", func := "minecontrol/minecontrollaw25.PlacesShift", spec := "placesShift", unfollowed := true, recurses := true, apart := false }
def PlacesShiftSaid : Prop := placesShiftRow.holds Try.pinned (OpenSpec.ofChange placesShiftSpec)

/-- ITS FALSE NEIGHBOUR: 'it returns false'. Refute it at one input. -/
def placesShiftWrong : ChangeSpec := { name := "placesShift", fn := fun _ => fun
  | [d1, d2] => { results := [.lit (.bool false)], args := [d1, d2] }
  | _ => none }
def PlacesShiftWrongFalsely : Prop := placesShiftRow.holds Try.pinned (OpenSpec.ofChange placesShiftWrong)

/-- 'minecontrollaw25.PlacesLess': WHATEVER THE INPUT: true; the input reads as it did. -/
def placesLessSpec : ChangeSpec := { name := "placesLess", fn := fun _ => fun
  | [d] => { results := [.lit (.bool true)], args := [d] }
  | _ => none }
def placesLessRow : OpenClaim := { program := "ytgeclpmbbaimgaa", sum := "e2c509b258ce647d0142a0edfd3b022ab06da51037ab586879dbf7938cb27f64", func := "minecontrol/minecontrollaw25.PlacesLess", spec := "placesLess", unfollowed := true, recurses := true, apart := false }
def PlacesLessSaid : Prop := placesLessRow.holds Try.pinned (OpenSpec.ofChange placesLessSpec)

/-- ITS FALSE NEIGHBOUR: 'it returns false'. Refute it at one input. -/
def placesLessWrong : ChangeSpec := { name := "placesLess", fn := fun _ => fun
  | [d] => { results := [.lit (.bool false)], args := [d] }
  | _ => none }
def PlacesLessWrongFalsely : Prop := placesLessRow.holds Try.pinned (OpenSpec.ofChange placesLessWrong)

/-- 'minecontrollaw25.PlacesRaw': WHATEVER THE INPUT: true; the input reads as it did. -/
def placesRawSpec : ChangeSpec := { name := "placesRaw", fn := fun _ => fun
  | [d1, d2, d3] => { results := [.lit (.bool true)], args := [d1, d2, d3] }
  | _ => none }
def placesRawRow : OpenClaim := { program := "ytgeclpmbbaimgaa", sum := "e2c509b258ce647d0142a0edfd3b022ab06da51037ab586879dbf7938cb27f64", func := "minecontrol/minecontrollaw25.PlacesRaw", spec := "placesRaw", unfollowed := true, recurses := true, apart := false }
def PlacesRawSaid : Prop := placesRawRow.holds Try.pinned (OpenSpec.ofChange placesRawSpec)

/-- ITS FALSE NEIGHBOUR: 'it returns false'. Refute it at one input. -/
def placesRawWrong : ChangeSpec := { name := "placesRaw", fn := fun _ => fun
  | [d1, d2, d3] => { results := [.lit (.bool false)], args := [d1, d2, d3] }
  | _ => none }
def PlacesRawWrongFalsely : Prop := placesRawRow.holds Try.pinned (OpenSpec.ofChange placesRawWrong)

/-- 'minecontrollaw25.PlacesMade': WHATEVER THE INPUT: true; the input reads as it did. -/
def placesMadeSpec : ChangeSpec := { name := "placesMade", fn := fun _ => fun
  | [d] => { results := [.lit (.bool true)], args := [d] }
  | _ => none }
def placesMadeRow : OpenClaim := { program := "ytgeclpmbbaimgaa", sum := "e2c509b258ce647d0142a0edfd3b022ab06da51037ab586879dbf7938cb27f64", func := "minecontrol/minecontrollaw25.PlacesMade", spec := "placesMade", unfollowed := true, recurses := true, apart := false }
def PlacesMadeSaid : Prop := placesMadeRow.holds Try.pinned (OpenSpec.ofChange placesMadeSpec)

/-- ITS FALSE NEIGHBOUR: 'it returns false'. Refute it at one input. -/
def placesMadeWrong : ChangeSpec := { name := "placesMade", fn := fun _ => fun
  | [d] => { results := [.lit (.bool false)], args := [d] }
  | _ => none }
def PlacesMadeWrongFalsely : Prop := placesMadeRow.holds Try.pinned (OpenSpec.ofChange placesMadeWrong)

/- THE SECOND FORM. 'bulk': how many values and letters a reading holds, each counted each time it is reached (what is shared counts as often as it is met; a slice's spare places count too). A statement '..UptoSaid' is the law's where the arguments, and the package variables that the reading takes, are together of bulk at most 1048576: NARROWER than '..Said'. Prove '..Said' where nothing that the law and all that it calls make is longer than what came in: it says more and counts as full. Else prove '..UptoSaid'. A law counts once. -/
mutual
def uptoBulk {H : Type} : DataW H → Nat
  | .lit (.string bytes) => bytes.length + 1
  | .lit _ => 1
  | .nil => 1
  | .ptr d => uptoBulk d + 1
  | .slice elems spare => uptoBulkAll elems + uptoBulkAll spare + 1
  | .agg parts => uptoBulkAll parts + 1
  | .iface _ d => uptoBulk d + 1
  | .map entries => uptoBulkEntries entries + 1
  | .held _ => 1
def uptoBulkAll {H : Type} : List (DataW H) → Nat
  | [] => 0
  | d :: r => uptoBulk d + uptoBulkAll r
def uptoBulkEntries {H : Type} : List (Lit × DataW H) → Nat
  | [] => 0
  | x :: r => uptoBulkEntry x + uptoBulkEntries r
def uptoBulkEntry {H : Type} : Lit × DataW H → Nat
  | (.string bytes, d) => bytes.length + uptoBulk d + 1
  | (_, d) => uptoBulk d + 1
 end
def uptoSmall : (H : Type) → List (DataW H) → Bool := fun _ ds => decide (uptoBulkAll ds ≤ 1048576)
def OpenSpec.upto (s : _root_.Go.ChangeSpec) : _root_.Go.OpenSpec := { _root_.Go.OpenSpec.ofChange s with cond := some uptoSmall }

/-- 'minecontrollaw25.PlacesLeast', WHERE WHAT IT READS IS OF BULK AT MOST 1048576: true; the input reads as it did. -/
def placesLeastUptoRow : OpenClaim := { program := "ytgeclpmbbaimgaa", sum := "e2c509b258ce647d0142a0edfd3b022ab06da51037ab586879dbf7938cb27f64", func := "minecontrol/minecontrollaw25.PlacesLeast", spec := "placesLeast", unfollowed := true, recurses := true, apart := false, narrowed := true }
def PlacesLeastUptoSaid : Prop := placesLeastUptoRow.holds Try.pinned (OpenSpec.upto placesLeastSpec)

/-- 'minecontrollaw25.PlacesJoins', WHERE WHAT IT READS IS OF BULK AT MOST 1048576: true; the input reads as it did. -/
def placesJoinsUptoRow : OpenClaim := { program := "ytgeclpmbbaimgaa", sum := "e2c509b258ce647d0142a0edfd3b022ab06da51037ab586879dbf7938cb27f64", func := "minecontrol/minecontrollaw25.PlacesJoins", spec := "placesJoins", unfollowed := true, recurses := true, apart := false, narrowed := true }
def PlacesJoinsUptoSaid : Prop := placesJoinsUptoRow.holds Try.pinned (OpenSpec.upto placesJoinsSpec)

/-- 'minecontrollaw25.PlacesTrue', WHERE WHAT IT READS IS OF BULK AT MOST 1048576: true; the input reads as it did. -/
def placesTrueUptoRow : OpenClaim := { program := "ytgeclpmbbaimgaa", sum := "e2c509b258ce647d0142a0edfd3b022ab06da51037ab586879dbf7938cb27f64", func := "minecontrol/minecontrollaw25.PlacesTrue", spec := "placesTrue", unfollowed := true, recurses := true, apart := false, narrowed := true }
def PlacesTrueUptoSaid : Prop := placesTrueUptoRow.holds Try.pinned (OpenSpec.upto placesTrueSpec)

/-- 'minecontrollaw25.PlacesShift', WHERE WHAT IT READS IS OF BULK AT MOST 1048576: true; the input reads as it did. -/
def placesShiftUptoRow : OpenClaim := { program := "ytgeclpmbbaimgaa", sum := "e2c509b258ce647d0142a0edfd3b022ab06da51037ab586879dbf7938cb27f64", func := "minecontrol/minecontrollaw25.PlacesShift", spec := "placesShift", unfollowed := true, recurses := true, apart := false, narrowed := true }
def PlacesShiftUptoSaid : Prop := placesShiftUptoRow.holds Try.pinned (OpenSpec.upto placesShiftSpec)

/-- 'minecontrollaw25.PlacesLess', WHERE WHAT IT READS IS OF BULK AT MOST 1048576: true; the input reads as it did. -/
def placesLessUptoRow : OpenClaim := { program := "ytgeclpmbbaimgaa", sum := "e2c509b258ce647d0142a0edfd3b022ab06da51037ab586879dbf7938cb27f64", func := "minecontrol/minecontrollaw25.PlacesLess", spec := "placesLess", unfollowed := true, recurses := true, apart := false, narrowed := true }
def PlacesLessUptoSaid : Prop := placesLessUptoRow.holds Try.pinned (OpenSpec.upto placesLessSpec)

/-- 'minecontrollaw25.PlacesRaw', WHERE WHAT IT READS IS OF BULK AT MOST 1048576: true; the input reads as it did. -/
def placesRawUptoRow : OpenClaim := { program := "ytgeclpmbbaimgaa", sum := "e2c509b258ce647d0142a0edfd3b022ab06da51037ab586879dbf7938cb27f64", func := "minecontrol/minecontrollaw25.PlacesRaw", spec := "placesRaw", unfollowed := true, recurses := true, apart := false, narrowed := true }
def PlacesRawUptoSaid : Prop := placesRawUptoRow.holds Try.pinned (OpenSpec.upto placesRawSpec)

/-- 'minecontrollaw25.PlacesMade', WHERE WHAT IT READS IS OF BULK AT MOST 1048576: true; the input reads as it did. -/
def placesMadeUptoRow : OpenClaim := { program := "ytgeclpmbbaimgaa", sum := "e2c509b258ce647d0142a0edfd3b022ab06da51037ab586879dbf7938cb27f64", func := "minecontrol/minecontrollaw25.PlacesMade", spec := "placesMade", unfollowed := true, recurses := true, apart := false, narrowed := true }
def PlacesMadeUptoSaid : Prop := placesMadeUptoRow.holds Try.pinned (OpenSpec.upto placesMadeSpec)

end Rows
end Go.Proofs.Ytgeclpmbbaimgaa
