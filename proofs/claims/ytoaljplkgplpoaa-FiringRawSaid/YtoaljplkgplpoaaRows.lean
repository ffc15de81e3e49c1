/-
  No cell of these rows narrows 'for every input' (looked for: loops, veiled, ifaces, maps, wideKeys, modest, calm, conditions, laid).
  DERIVED. THE GIVEN ROWS OF THIS SEAT. 3 by the template 'for every input the law returns true; each argument reads behind the call as it read before'; 0 by the template 'total and deterministic' (their statements: YtoaljplkgplpoaaTotals.lean).
  GIVEN WITH THE SEED: the statements are not yours to turn. If you find one false, say at which input.
  Laid BY PROGRAM, IN A SANDBOX (cutbox-rows.mjs): the forced cells as the released guide's own fill.sh prints them over the translation b3082e281d320a7b… (all of the seat's roots in one cut). By AI agents, Wed Nov 11 2026. No macro, syntax, notation, axiom, sorry.
-/
import Derived.Test.YtoaljplkgplpoaaChecked
import GoSem.Claim
import GoSem.ClaimJoined
import GoSem.ClaimMapViews
import Derived.JoinedTies
import Derived.KernelRfl
namespace Go.Proofs.Ytoaljplkgplpoaa
/- THE CELL 'sum', in the pinned program and in every row, IS THE sha256 OF THE DUMP (.gsa) THAT YtoaljplkgplpoaaProg.lean LOADS. Nothing in Lean hashes anything: it is a label: what it is worth is what the hold of that sum in a sandbox is worth. -/
noncomputable def Try.pinned : Pinned := { name := "ytoaljplkgplpoaa", sum := "b3082e281d320a7b3fd27bcd8c87373a9a466c192f98f77b71206855d940a608", checked := Try.checked }
namespace Rows
def none {H : Type} : Left H := { results := [], args := [] }

/-- 'minecontrollaw34.FiringRaw': WHATEVER THE INPUT: true; the input reads as it did. -/
def firingRawSpec : ChangeSpec := { name := "firingRaw", fn := fun _ => fun
  | [d1, d2, d3] => { results := [.lit (.bool true)], args := [d1, d2, d3] }
  | _ => none }
def firingRawRow : OpenClaim := { program := "ytoaljplkgplpoaa", sum := "b3082e281d320a7b3fd27bcd8c87373a9a466c192f98f77b71206855d940a608", func := "minecontrol/minecontrollaw34.FiringRaw", spec := "firingRaw", unfollowed := true, recurses := true, apart := false }
def FiringRawSaid : Prop := firingRawRow.holds Try.pinned (OpenSpec.ofChange firingRawSpec)

/-- ITS FALSE NEIGHBOUR: 'it returns false'. Refute it at one input. -/
def firingRawWrong : ChangeSpec := { name := "firingRaw", fn := fun _ => fun
  | [d1, d2, d3] => { results := [.lit (.bool false)], args := [d1, d2, d3] }
  | _ => none }
def FiringRawWrongFalsely : Prop := firingRawRow.holds Try.pinned (OpenSpec.ofChange firingRawWrong)

/-- 'minecontrollaw34.FiringMade': WHATEVER THE INPUT: true; the input reads as it did. -/
def firingMadeSpec : ChangeSpec := { name := "firingMade", fn := fun _ => fun
  | [d] => { results := [.lit (.bool true)], args := [d] }
  | _ => none }
def firingMadeRow : OpenClaim := { program := "ytoaljplkgplpoaa", sum := "b3082e281d320a7b3fd27bcd8c87373a9a466c192f98f77b71206855d940a608", func := "minecontrol/minecontrollaw34.FiringMade", spec := "firingMade", unfollowed := true, recurses := true, apart := false }
def FiringMadeSaid : Prop := firingMadeRow.holds Try.pinned (OpenSpec.ofChange firingMadeSpec)

/-- ITS FALSE NEIGHBOUR: 'it returns false'. Refute it at one input. -/
def firingMadeWrong : ChangeSpec := { name := "firingMade", fn := fun _ => fun
  | [d] => { results := [.lit (.bool false)], args := [d] }
  | _ => none }
def FiringMadeWrongFalsely : Prop := firingMadeRow.holds Try.pinned (OpenSpec.ofChange firingMadeWrong)

/-- 'minecontrollaw34.FiringNeeds': WHATEVER THE INPUT: true; the input reads as it did. -/
def firingNeedsSpec : ChangeSpec := { name := "firingNeeds", fn := fun _ => fun
  | [d] => { results := [.lit (.bool true)], args := [d] }
  | _ => none }
def firingNeedsRow : OpenClaim := { program := "ytoaljplkgplpoaa", sum := "b3082e281d320a7b3fd27bcd8c87373a9a466c192f98f77b71206855d940a608", func := "minecontrol/minecontrollaw34.FiringNeeds", spec := "firingNeeds", unfollowed := true, recurses := true, apart := false }
def FiringNeedsSaid : Prop := firingNeedsRow.holds Try.pinned (OpenSpec.ofChange firingNeedsSpec)

/-- ITS FALSE NEIGHBOUR: 'it returns false'. Refute it at one input. -/
def firingNeedsWrong : ChangeSpec := { name := "firingNeeds", fn := fun _ => fun
  | [d] => { results := [.lit (.bool false)], args := [d] }
  | _ => none }
def FiringNeedsWrongFalsely : Prop := firingNeedsRow.holds Try.pinned (OpenSpec.ofChange firingNeedsWrong)

/- THE SECOND FORM. 'bulk': how many values and letters a reading holds, each counted each time it is reached (what is shared counts as often as it is met; a slice's spare places count too). A statement '..UptoSaid' is the law's where the arguments, and the package variables that the reading takes, are together of bulk at most 1048576: NARROWER than '..Said'. Prove '..Said' where nothing that the law and all that it calls make is longer than what came in: it says more and counts as full. Else prove '..UptoSaid'. A law counts once. -/
mutual
def uptoBulk {H : Type} : DataW H → Nat
  | .lit (.string bytes) => bytes.length + 1
  | .lit _ => 1
  | .nil => 1
  | .ptr d => uptoBulk d + 1
  | .slice elems spare => uptoBulkAll elems + uptoBulkAll spare + 1
  | .agg parts => uptoBulkAll parts + 1
  | .iface _ d => uptoBulk d + 1
  | .map entries => uptoBulkEntries entries + 1
  | .held _ => 1
def uptoBulkAll {H : Type} : List (DataW H) → Nat
  | [] => 0
  | d :: r => uptoBulk d + uptoBulkAll r
def uptoBulkEntries {H : Type} : List (Lit × DataW H) → Nat
  | [] => 0
  | x :: r => uptoBulkEntry x + uptoBulkEntries r
def uptoBulkEntry {H : Type} : Lit × DataW H → Nat
  | (.string bytes, d) => bytes.length + uptoBulk d + 1
  | (_, d) => uptoBulk d + 1
 end
def uptoSmall : (H : Type) → List (DataW H) → Bool := fun _ ds => decide (uptoBulkAll ds ≤ 1048576)
def OpenSpec.upto (s : _root_.Go.ChangeSpec) : _root_.Go.OpenSpec := { _root_.Go.OpenSpec.ofChange s with cond := some uptoSmall }

/-- 'minecontrollaw34.FiringRaw', WHERE WHAT IT READS IS OF BULK AT MOST 1048576: true; the input reads as it did. -/
def firingRawUptoRow : OpenClaim := { program := "ytoaljplkgplpoaa", sum := "b3082e281d320a7b3fd27bcd8c87373a9a466c192f98f77b71206855d940a608", func := "minecontrol/minecontrollaw34.FiringRaw", spec := "firingRaw", unfollowed := true, recurses := true, apart := false, narrowed := true }
def FiringRawUptoSaid : Prop := firingRawUptoRow.holds Try.pinned (OpenSpec.upto firingRawSpec)

/-- 'minecontrollaw34.FiringMade', WHERE WHAT IT READS IS OF BULK AT MOST 1048576: true; the input reads as it did. -/
def firingMadeUptoRow : OpenClaim := { program := "ytoaljplkgplpoaa", sum := "b3082e281d320a7b3fd27bcd8c87373a9a466c192f98f77b71206855d940a608", func := "minecontrol/minecontrollaw34.FiringMade", spec := "firingMade", unfollowed := true, recurses := true, apart := false, narrowed := true }
def FiringMadeUptoSaid : Prop := firingMadeUptoRow.holds Try.pinned (OpenSpec.upto firingMadeSpec)

/-- 'minecontrollaw34.FiringNeeds', WHERE WHAT IT READS IS OF BULK AT MOST 1048576: true; the input reads as it did. -/
def firingNeedsUptoRow : OpenClaim := { program := "ytoaljplkgplpoaa", sum := "b3082e281d320a7b3fd27bcd8c87373a9a466c192f98f77b71206855d940a608", func := "minecontrol/minecontrollaw34.FiringNeeds", spec := "firingNeeds", unfollowed := true, recurses := true, apart := false, narrowed := true }
def FiringNeedsUptoSaid : Prop := firingNeedsUptoRow.holds Try.pinned (OpenSpec.upto firingNeedsSpec)

end Rows
end Go.Proofs.Ytoaljplkgplpoaa
