/-
  No cell of these rows narrows 'for every input' (looked for: loops, veiled, ifaces, maps, wideKeys, modest, calm, conditions, laid).
  DERIVED. THE GIVEN ROWS OF THIS SEAT. 4 by the template 'for every input the law returns true; each argument reads behind the call as it read before'; 0 by the template 'total and deterministic' (their statements: YtnmkojcfpmdajaaTotals.lean).
  GIVEN WITH THE SEED: the statements are not yours to turn. If you find one false, say at which input.
  Laid BY PROGRAM, IN A SANDBOX (cutbox-rows.mjs): the forced cells as the released guide's own fill.sh prints them over the translation 98f5352619738735… (all of the seat's roots in one cut). By AI agents, Wed Nov 11 2026. No macro, syntax, notation, axiom, sorry.
-/
import Derived.Test.YtnmkojcfpmdajaaChecked
import GoSem.Claim
import GoSem.ClaimJoined
import GoSem.ClaimMapViews
import Derived.JoinedTies
import Derived.KernelRfl
namespace Go.Proofs.Ytnmkojcfpmdajaa
/- THE CELL 'sum', in the pinned program and in every row, IS THE sha256 OF THE DUMP (.gsa) THAT YtnmkojcfpmdajaaProg.lean LOADS. Nothing in Lean hashes anything: it is a label: what it is worth is what the hold of that sum in a sandbox is worth. -/
noncomputable def Try.pinned : Pinned := { name := "ytnmkojcfpmdajaa", sum := "98f5352619738735d512d0ba9e6c049fcf14e7e3f4c03bac6ccd3deb9483556e", checked := Try.checked }
namespace Rows
def none {H : Type} : Left H := { results := [], args := [] }

/-- 'minecontrollaw27.HeadsMore': WHATEVER THE INPUT: true; the input reads as it did. -/
def headsMoreSpec : ChangeSpec := { name := "headsMore", fn := fun _ => fun
  | [d] => { results := [.lit (.bool true)], args := [d] }
  | _ => none }
def headsMoreRow : OpenClaim := { program := "ytnmkojcfpmdajaa", sum := "98f5352619738735d512d0ba9e6c049fcf14e7e3f4c03bac6ccd3deb9483556e", func := "minecontrol/minecontrollaw27.HeadsMore", spec := "headsMore", unfollowed := true, recurses := true, apart := false }
def HeadsMoreSaid : Prop := headsMoreRow.holds Try.pinned (OpenSpec.ofChange headsMoreSpec)

/-- ITS FALSE NEIGHBOUR: 'it returns false'. Refute it at one input. -/
def headsMoreWrong : ChangeSpec := { name := "headsMore", fn := fun _ => fun
  | [d] => { results := [.lit (.bool false)], args := [d] }
  | _ => none }
def HeadsMoreWrongFalsely : Prop := headsMoreRow.holds Try.pinned (OpenSpec.ofChange headsMoreWrong)

/-- 'minecontrollaw27.HeadsSplit': WHATEVER THE INPUT: true; the input reads as it did. -/
def headsSplitSpec : ChangeSpec := { name := "headsSplit", fn := fun _ => fun
  | [d] => { results := [.lit (.bool true)], args := [d] }
  | _ => none }
def headsSplitRow : OpenClaim := { program := "ytnmkojcfpmdajaa", sum := "98f5352619738735d512d0ba9e6c049fcf14e7e3f4c03bac6ccd3deb9483556e", func := "minecontrol/minecontrollaw27.HeadsSplit", spec := "headsSplit", unfollowed := true, recurses := true, apart := false }
def HeadsSplitSaid : Prop := headsSplitRow.holds Try.pinned (OpenSpec.ofChange headsSplitSpec)

/-- ITS FALSE NEIGHBOUR: 'it returns false'. Refute it at one input. -/
def headsSplitWrong : ChangeSpec := { name := "headsSplit", fn := fun _ => fun
  | [d] => { results := [.lit (.bool false)], args := [d] }
  | _ => none }
def HeadsSplitWrongFalsely : Prop := headsSplitRow.holds Try.pinned (OpenSpec.ofChange headsSplitWrong)

/-- 'minecontrollaw27.HeadsAll': WHATEVER THE INPUT: true; the input reads as it did. -/
def headsAllSpec : ChangeSpec := { name := "headsAll", fn := fun _ => fun
  | [d1, d2, d3] => { results := [.lit (.bool true)], args := [d1, d2, d3] }
  | _ => none }
def headsAllRow : OpenClaim := { program := "ytnmkojcfpmdajaa", sum := "98f5352619738735d512d0ba9e6c049fcf14e7e3f4c03bac6ccd3deb9483556e", func := "minecontrol/minecontrollaw27.HeadsAll", spec := "headsAll", unfollowed := true, recurses := true, apart := false }
def HeadsAllSaid : Prop := headsAllRow.holds Try.pinned (OpenSpec.ofChange headsAllSpec)

/-- ITS FALSE NEIGHBOUR: 'it returns false'. Refute it at one input. -/
def headsAllWrong : ChangeSpec := { name := "headsAll", fn := fun _ => fun
  | [d1, d2, d3] => { results := [.lit (.bool false)], args := [d1, d2, d3] }
  | _ => none }
def HeadsAllWrongFalsely : Prop := headsAllRow.holds Try.pinned (OpenSpec.ofChange headsAllWrong)

/-- 'minecontrollaw27.HeadsTrue': WHATEVER THE INPUT: true; the input reads as it did. -/
def headsTrueSpec : ChangeSpec := { name := "headsTrue", fn := fun _ => fun
  | [d] => { results := [.lit (.bool true)], args := [d] }
  | _ => none }
def headsTrueRow : OpenClaim := { program := "ytnmkojcfpmdajaa", sum := "98f5352619738735d512d0ba9e6c049fcf14e7e3f4c03bac6ccd3deb9483556e", func := "minecontrol/minecontrollaw27.HeadsTrue", spec := "headsTrue", unfollowed := true, recurses := true, apart := false }
def HeadsTrueSaid : Prop := headsTrueRow.holds Try.pinned (OpenSpec.ofChange headsTrueSpec)

/-- ITS FALSE NEIGHBOUR: 'it returns false'. Refute it at one input. -/
def headsTrueWrong : ChangeSpec := { name := "headsTrue", fn := fun _ => fun
  | [d] => { results := [.lit (.bool false)], args := [d] }
  | _ => none }
def HeadsTrueWrongFalsely : Prop := headsTrueRow.holds Try.pinned (OpenSpec.ofChange headsTrueWrong)

/- THE SECOND FORM. 'bulk': how many values and letters a reading holds, each counted each time it is reached (what is shared counts as often as it is met; a slice's spare places count too). A statement '..UptoSaid' is the law's where the arguments, and the package variables that the reading takes, are together of bulk at most 1048576: NARROWER than '..Said'. Prove '..Said' where nothing that the law and all that it calls make is longer than what came in: it says more and counts as full. Else prove '..UptoSaid'. A law counts once. -/
mutual
def uptoBulk {H : Type} : DataW H → Nat
  | .lit (.string bytes) => bytes.length + 1
  | .lit _ => 1
  | .nil => 1
  | .ptr d => uptoBulk d + 1
  | .slice elems spare => uptoBulkAll elems + uptoBulkAll spare + 1
  | .agg parts => uptoBulkAll parts + 1
  | .iface _ d => uptoBulk d + 1
  | .map entries => uptoBulkEntries entries + 1
  | .held _ => 1
def uptoBulkAll {H : Type} : List (DataW H) → Nat
  | [] => 0
  | d :: r => uptoBulk d + uptoBulkAll r
def uptoBulkEntries {H : Type} : List (Lit × DataW H) → Nat
  | [] => 0
  | x :: r => uptoBulkEntry x + uptoBulkEntries r
def uptoBulkEntry {H : Type} : Lit × DataW H → Nat
  | (.string bytes, d) => bytes.length + uptoBulk d + 1
  | (_, d) => uptoBulk d + 1
 end
def uptoSmall : (H : Type) → List (DataW H) → Bool := fun _ ds => decide (uptoBulkAll ds ≤ 1048576)
def OpenSpec.upto (s : _root_.Go.ChangeSpec) : _root_.Go.OpenSpec := { _root_.Go.OpenSpec.ofChange s with cond := some uptoSmall }

/-- 'minecontrollaw27.HeadsMore', WHERE WHAT IT READS IS OF BULK AT MOST 1048576: true; the input reads as it did. -/
def headsMoreUptoRow : OpenClaim := { program := "ytnmkojcfpmdajaa", sum := "98f5352619738735d512d0ba9e6c049fcf14e7e3f4c03bac6ccd3deb9483556e", func := "minecontrol/minecontrollaw27.HeadsMore", spec := "headsMore", unfollowed := true, recurses := true, apart := false, narrowed := true }
def HeadsMoreUptoSaid : Prop := headsMoreUptoRow.holds Try.pinned (OpenSpec.upto headsMoreSpec)

/-- 'minecontrollaw27.HeadsSplit', WHERE WHAT IT READS IS OF BULK AT MOST 1048576: true; the input reads as it did. -/
def headsSplitUptoRow : OpenClaim := { program := "ytnmkojcfpmdajaa", sum := "98f5352619738735d512d0ba9e6c049fcf14e7e3f4c03bac6ccd3deb9483556e", func := "minecontrol/minecontrollaw27.HeadsSplit", spec := "headsSplit", unfollowed := true, recurses := true, apart := false, narrowed := true }
def HeadsSplitUptoSaid : Prop := headsSplitUptoRow.holds Try.pinned (OpenSpec.upto headsSplitSpec)

/-- 'minecontrollaw27.HeadsAll', WHERE WHAT IT READS IS OF BULK AT MOST 1048576: true; the input reads as it did. -/
def headsAllUptoRow : OpenClaim := { program := "ytnmkojcfpmdajaa", sum := "98f5352619738735d512d0ba9e6c049fcf14e7e3f4c03bac6ccd3deb9483556e", func := "minecontrol/minecontrollaw27.HeadsAll", spec := "headsAll", unfollowed := true, recurses := true, apart := false, narrowed := true }
def HeadsAllUptoSaid : Prop := headsAllUptoRow.holds Try.pinned (OpenSpec.upto headsAllSpec)

/-- 'minecontrollaw27.HeadsTrue', WHERE WHAT IT READS IS OF BULK AT MOST 1048576: true; the input reads as it did. -/
def headsTrueUptoRow : OpenClaim := { program := "ytnmkojcfpmdajaa", sum := "98f5352619738735d512d0ba9e6c049fcf14e7e3f4c03bac6ccd3deb9483556e", func := "minecontrol/minecontrollaw27.HeadsTrue", spec := "headsTrue", unfollowed := true, recurses := true, apart := false, narrowed := true }
def HeadsTrueUptoSaid : Prop := headsTrueUptoRow.holds Try.pinned (OpenSpec.upto headsTrueSpec)

end Rows
end Go.Proofs.Ytnmkojcfpmdajaa
