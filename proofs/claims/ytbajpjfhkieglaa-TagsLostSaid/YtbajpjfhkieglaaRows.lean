/-
  No cell of these rows narrows 'for every input' (looked for: loops, veiled, ifaces, maps, wideKeys, modest, calm, conditions, laid).
  DERIVED. THE GIVEN ROWS OF THIS SEAT. 5 by the template 'for every input the law returns true; each argument reads behind the call as it read before'; 0 by the template 'total and deterministic' (their statements: YtbajpjfhkieglaaTotals.lean).
  GIVEN WITH THE SEED: the statements are not yours to turn. If you find one false, say at which input.
  Laid BY PROGRAM, IN A SANDBOX (cutbox-rows.mjs): the forced cells as the released guide's own fill.sh prints them over the translation cf87355bdb98bb82… (all of the seat's roots in one cut). By AI agents, Wed Nov 11 2026. No macro, syntax, notation, axiom, sorry.
-/
import Derived.Test.YtbajpjfhkieglaaChecked
import GoSem.Claim
import GoSem.ClaimJoined
import GoSem.ClaimMapViews
import Derived.JoinedTies
import Derived.KernelRfl
namespace Go.Proofs.Ytbajpjfhkieglaa
/- THE CELL 'sum', in the pinned program and in every row, IS THE sha256 OF THE DUMP (.gsa) THAT YtbajpjfhkieglaaProg.lean LOADS. Nothing in Lean hashes anything: it is a label: what it is worth is what the hold of that sum in a sandbox is worth. -/
noncomputable def Try.pinned : Pinned := { name := "ytbajpjfhkieglaa", sum := "cf87355bdb98bb82ccfdb7875eefdcdd783a79b8290f8359d126bbbd96a076e7", checked := Try.checked }
namespace Rows
def none {H : Type} : Left H := { results := [], args := [] }

/-- 'minecontrollaw23.TagsRaw': WHATEVER THE INPUT: true; the input reads as it did. -/
def tagsRawSpec : ChangeSpec := { name := "tagsRaw", fn := fun _ => fun
  | [d1, d2] => { results := [.lit (.bool true)], args := [d1, d2] }
  | _ => none }
def tagsRawRow : OpenClaim := { program := "ytbajpjfhkieglaa", sum := "cf87355bdb98bb82ccfdb7875eefdcdd783a79b8290f8359d126bbbd96a076e7", func := "minecontrol/minecontrollaw23.TagsRaw", spec := "tagsRaw", unfollowed := true, recurses := true, apart := false }
def TagsRawSaid : Prop := tagsRawRow.holds Try.pinned (OpenSpec.ofChange tagsRawSpec)

/-- ITS FALSE NEIGHBOUR: 'it returns false'. Refute it at one input. -/
def tagsRawWrong : ChangeSpec := { name := "tagsRaw", fn := fun _ => fun
  | [d1, d2] => { results := [.lit (.bool false)], args := [d1, d2] }
  | _ => none }
def TagsRawWrongFalsely : Prop := tagsRawRow.holds Try.pinned (OpenSpec.ofChange tagsRawWrong)

/-- 'minecontrollaw23.TagsMade': WHATEVER THE INPUT: true; the input reads as it did. -/
def tagsMadeSpec : ChangeSpec := { name := "tagsMade", fn := fun _ => fun
  | [d1, d2, d3] => { results := [.lit (.bool true)], args := [d1, d2, d3] }
  | _ => none }
def tagsMadeRow : OpenClaim := { program := "ytbajpjfhkieglaa", sum := "cf87355bdb98bb82ccfdb7875eefdcdd783a79b8290f8359d126bbbd96a076e7", func := "minecontrol/minecontrollaw23.TagsMade", spec := "tagsMade", unfollowed := true, recurses := true, apart := false }
def TagsMadeSaid : Prop := tagsMadeRow.holds Try.pinned (OpenSpec.ofChange tagsMadeSpec)

/-- ITS FALSE NEIGHBOUR: 'it returns false'. Refute it at one input. -/
def tagsMadeWrong : ChangeSpec := { name := "tagsMade", fn := fun _ => fun
  | [d1, d2, d3] => { results := [.lit (.bool false)], args := [d1, d2, d3] }
  | _ => none }
def TagsMadeWrongFalsely : Prop := tagsMadeRow.holds Try.pinned (OpenSpec.ofChange tagsMadeWrong)

/-- 'minecontrollaw23.TagsTakes': WHATEVER THE INPUT: true; the input reads as it did. -/
def tagsTakesSpec : ChangeSpec := { name := "tagsTakes", fn := fun _ => fun
  | [d1, d2, d3] => { results := [.lit (.bool true)], args := [d1, d2, d3] }
  | _ => none }
def tagsTakesRow : OpenClaim := { program := "ytbajpjfhkieglaa", sum := "cf87355bdb98bb82ccfdb7875eefdcdd783a79b8290f8359d126bbbd96a076e7", func := "minecontrol/minecontrollaw23.TagsTakes", spec := "tagsTakes", unfollowed := true, recurses := true, apart := false }
def TagsTakesSaid : Prop := tagsTakesRow.holds Try.pinned (OpenSpec.ofChange tagsTakesSpec)

/-- ITS FALSE NEIGHBOUR: 'it returns false'. Refute it at one input. -/
def tagsTakesWrong : ChangeSpec := { name := "tagsTakes", fn := fun _ => fun
  | [d1, d2, d3] => { results := [.lit (.bool false)], args := [d1, d2, d3] }
  | _ => none }
def TagsTakesWrongFalsely : Prop := tagsTakesRow.holds Try.pinned (OpenSpec.ofChange tagsTakesWrong)

/-- 'minecontrollaw23.TagsLost': WHATEVER THE INPUT: true; the input reads as it did. -/
def tagsLostSpec : ChangeSpec := { name := "tagsLost", fn := fun _ => fun
  | [d1, d2] => { results := [.lit (.bool true)], args := [d1, d2] }
  | _ => none }
def tagsLostRow : OpenClaim := { program := "ytbajpjfhkieglaa", sum := "cf87355bdb98bb82ccfdb7875eefdcdd783a79b8290f8359d126bbbd96a076e7", func := "minecontrol/minecontrollaw23.TagsLost", spec := "tagsLost", unfollowed := true, recurses := true, apart := false }
def TagsLostSaid : Prop := tagsLostRow.holds Try.pinned (OpenSpec.ofChange tagsLostSpec)

/-- ITS FALSE NEIGHBOUR: 'it returns false'. Refute it at one input. -/
def tagsLostWrong : ChangeSpec := { name := "tagsLost", fn := fun _ => fun
  | [d1, d2] => { results := [.lit (.bool false)], args := [d1, d2] }
  | _ => none }
def TagsLostWrongFalsely : Prop := tagsLostRow.holds Try.pinned (OpenSpec.ofChange tagsLostWrong)

/-- 'minecontrollaw23.TagsBytes': WHATEVER THE INPUT: true; the input reads as it did. -/
def tagsBytesSpec : ChangeSpec := { name := "tagsBytes", fn := fun _ => fun
  | [d1, d2] => { results := [.lit (.bool true)], args := [d1, d2] }
  | _ => none }
def tagsBytesRow : OpenClaim := { program := "ytbajpjfhkieglaa", sum := "cf87355bdb98bb82ccfdb7875eefdcdd783a79b8290f8359d126bbbd96a076e7", func := "minecontrol/minecontrollaw23.TagsBytes", spec := "tagsBytes", unfollowed := true, recurses := true, apart := false }
def TagsBytesSaid : Prop := tagsBytesRow.holds Try.pinned (OpenSpec.ofChange tagsBytesSpec)

/-- ITS FALSE NEIGHBOUR: 'it returns false'. Refute it at one input. -/
def tagsBytesWrong : ChangeSpec := { name := "tagsBytes", fn := fun _ => fun
  | [d1, d2] => { results := [.lit (.bool false)], args := [d1, d2] }
  | _ => none }
def TagsBytesWrongFalsely : Prop := tagsBytesRow.holds Try.pinned (OpenSpec.ofChange tagsBytesWrong)

/- THE SECOND FORM. 'bulk': how many values and letters a reading holds, each counted each time it is reached (what is shared counts as often as it is met; a slice's spare places count too). A statement '..UptoSaid' is the law's where the arguments, and the package variables that the reading takes, are together of bulk at most 1048576: NARROWER than '..Said'. Prove '..Said' where nothing that the law and all that it calls make is longer than what came in: it says more and counts as full. Else prove '..UptoSaid'. A law counts once. -/
mutual
def uptoBulk {H : Type} : DataW H → Nat
  | .lit (.string bytes) => bytes.length + 1
  | .lit _ => 1
  | .nil => 1
  | .ptr d => uptoBulk d + 1
  | .slice elems spare => uptoBulkAll elems + uptoBulkAll spare + 1
  | .agg parts => uptoBulkAll parts + 1
  | .iface _ d => uptoBulk d + 1
  | .map entries => uptoBulkEntries entries + 1
  | .held _ => 1
def uptoBulkAll {H : Type} : List (DataW H) → Nat
  | [] => 0
  | d :: r => uptoBulk d + uptoBulkAll r
def uptoBulkEntries {H : Type} : List (Lit × DataW H) → Nat
  | [] => 0
  | x :: r => uptoBulkEntry x + uptoBulkEntries r
def uptoBulkEntry {H : Type} : Lit × DataW H → Nat
  | (.string bytes, d) => bytes.length + uptoBulk d + 1
  | (_, d) => uptoBulk d + 1
 end
def uptoSmall : (H : Type) → List (DataW H) → Bool := fun _ ds => decide (uptoBulkAll ds ≤ 1048576)
def OpenSpec.upto (s : _root_.Go.ChangeSpec) : _root_.Go.OpenSpec := { _root_.Go.OpenSpec.ofChange s with cond := some uptoSmall }

/-- 'minecontrollaw23.TagsRaw', WHERE WHAT IT READS IS OF BULK AT MOST 1048576: true; the input reads as it did. -/
def tagsRawUptoRow : OpenClaim := { program := "ytbajpjfhkieglaa", sum := "cf87355bdb98bb82ccfdb7875eefdcdd783a79b8290f8359d126bbbd96a076e7", func := "minecontrol/minecontrollaw23.TagsRaw", spec := "tagsRaw", unfollowed := true, recurses := true, apart := false, narrowed := true }
def TagsRawUptoSaid : Prop := tagsRawUptoRow.holds Try.pinned (OpenSpec.upto tagsRawSpec)

/-- 'minecontrollaw23.TagsMade', WHERE WHAT IT READS IS OF BULK AT MOST 1048576: true; the input reads as it did. -/
def tagsMadeUptoRow : OpenClaim := { program := "ytbajpjfhkieglaa", sum := "cf87355bdb98bb82ccfdb7875eefdcdd783a79b8290f8359d126bbbd96a076e7", func := "minecontrol/minecontrollaw23.TagsMade", spec := "tagsMade", unfollowed := true, recurses := true, apart := false, narrowed := true }
def TagsMadeUptoSaid : Prop := tagsMadeUptoRow.holds Try.pinned (OpenSpec.upto tagsMadeSpec)

/-- 'minecontrollaw23.TagsTakes', WHERE WHAT IT READS IS OF BULK AT MOST 1048576: true; the input reads as it did. -/
def tagsTakesUptoRow : OpenClaim := { program := "ytbajpjfhkieglaa", sum := "cf87355bdb98bb82ccfdb7875eefdcdd783a79b8290f8359d126bbbd96a076e7", func := "minecontrol/minecontrollaw23.TagsTakes", spec := "tagsTakes", unfollowed := true, recurses := true, apart := false, narrowed := true }
def TagsTakesUptoSaid : Prop := tagsTakesUptoRow.holds Try.pinned (OpenSpec.upto tagsTakesSpec)

/-- 'minecontrollaw23.TagsLost', WHERE WHAT IT READS IS OF BULK AT MOST 1048576: true; the input reads as it did. -/
def tagsLostUptoRow : OpenClaim := { program := "ytbajpjfhkieglaa", sum := "cf87355bdb98bb82ccfdb7875eefdcdd783a79b8290f8359d126bbbd96a076e7", func := "minecontrol/minecontrollaw23.TagsLost", spec := "tagsLost", unfollowed := true, recurses := true, apart := false, narrowed := true }
def TagsLostUptoSaid : Prop := tagsLostUptoRow.holds Try.pinned (OpenSpec.upto tagsLostSpec)

/-- 'minecontrollaw23.TagsBytes', WHERE WHAT IT READS IS OF BULK AT MOST 1048576: true; the input reads as it did. -/
def tagsBytesUptoRow : OpenClaim := { program := "ytbajpjfhkieglaa", sum := "cf87355bdb98bb82ccfdb7875eefdcdd783a79b8290f8359d126bbbd96a076e7", func := "minecontrol/minecontrollaw23.TagsBytes", spec := "tagsBytes", unfollowed := true, recurses := true, apart := false, narrowed := true }
def TagsBytesUptoSaid : Prop := tagsBytesUptoRow.holds Try.pinned (OpenSpec.upto tagsBytesSpec)

end Rows
end Go.Proofs.Ytbajpjfhkieglaa
