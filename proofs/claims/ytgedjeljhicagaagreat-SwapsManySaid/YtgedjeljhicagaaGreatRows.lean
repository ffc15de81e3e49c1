/-
  No cell of these rows narrows 'for every input' (looked for: loops, veiled, ifaces, maps, wideKeys, modest, calm, conditions, laid).
  DERIVED. THE GIVEN ROWS OF THIS SEAT. 6 by the template 'for every input the law returns true; each argument reads behind the call as it read before'; 0 by the template 'total and deterministic' (their statements: YtgedjeljhicagaaGreatTotals.lean).
  GIVEN WITH THE SEED: the statements are not yours to turn. If you find one false, say at which input.
  Laid BY PROGRAM, IN A SANDBOX (cutbox-rows.mjs): the forced cells as the released guide's own fill.sh prints them over the translation b734133690761800… (all of the seat's roots in one cut). By AI agents, Wed Nov 11 2026. No macro, syntax, notation, axiom, sorry.
-/
import Derived.Test.YtgedjeljhicagaaGreatChecked
import GoSem.Claim
import GoSem.ClaimJoined
import GoSem.ClaimMapViews
import Derived.JoinedTies
import Derived.KernelRfl
namespace Go.Proofs.YtgedjeljhicagaaGreat
/- THE CELL 'sum', in the pinned program and in every row, IS THE sha256 OF THE DUMP (.gsa) THAT YtgedjeljhicagaaGreatProg.lean LOADS. Nothing in Lean hashes anything: it is a label: what it is worth is what the hold of that sum in a sandbox is worth. -/
noncomputable def Tryz.pinned : Pinned := { name := "ytgedjeljhicagaagreat", sum := "b73413369076180045e05e685e60a8b5c812fd091eb05c1c38992669a858535f", checked := Tryz.checked }
namespace Rows
def none {H : Type} : Left H := { results := [], args := [] }

/-- 'minecontrollaw26.SwapsStarts': WHATEVER THE INPUT: true; the input reads as it did. -/
def swapsStartsSpec : ChangeSpec := { name := "swapsStarts", fn := fun _ => fun
  | [d1, d2, d3] => { results := [.lit (.bool true)], args := [d1, d2, d3] }
  | _ => none }
def swapsStartsRow : OpenClaim := { program := "ytgedjeljhicagaagreat", sum := "b73413369076180045e05e685e60a8b5c812fd091eb05c1c38992669a858535f", func := "minecontrol/minecontrollaw26.SwapsStarts", spec := "swapsStarts", unfollowed := true, recurses := true, apart := false }
def SwapsStartsSaid : Prop := swapsStartsRow.holds Tryz.pinned (OpenSpec.ofChange swapsStartsSpec)

/-- ITS FALSE NEIGHBOUR: 'it returns false'. Refute it at one input. -/
def swapsStartsWrong : ChangeSpec := { name := "swapsStarts", fn := fun _ => fun
  | [d1, d2, d3] => { results := [.lit (.bool false)], args := [d1, d2, d3] }
  | _ => none }
def SwapsStartsWrongFalsely : Prop := swapsStartsRow.holds Tryz.pinned (OpenSpec.ofChange swapsStartsWrong)

/-- 'minecontrollaw26.SwapsMany': WHATEVER THE INPUT: true; the input reads as it did. -/
def swapsManySpec : ChangeSpec := { name := "swapsMany", fn := fun _ => fun
  | [d] => { results := [.lit (.bool true)], args := [d] }
  | _ => none }
def swapsManyRow : OpenClaim := { program := "ytgedjeljhicagaagreat", sum := "b73413369076180045e05e685e60a8b5c812fd091eb05c1c38992669a858535f", func := "minecontrol/minecontrollaw26.SwapsMany", spec := "swapsMany", unfollowed := true, recurses := true, apart := false }
def SwapsManySaid : Prop := swapsManyRow.holds Tryz.pinned (OpenSpec.ofChange swapsManySpec)

/-- ITS FALSE NEIGHBOUR: 'it returns false'. Refute it at one input. -/
def swapsManyWrong : ChangeSpec := { name := "swapsMany", fn := fun _ => fun
  | [d] => { results := [.lit (.bool false)], args := [d] }
  | _ => none }
def SwapsManyWrongFalsely : Prop := swapsManyRow.holds Tryz.pinned (OpenSpec.ofChange swapsManyWrong)

/-- 'minecontrollaw26.SwapsTrue': WHATEVER THE INPUT: true; the input reads as it did. -/
def swapsTrueSpec : ChangeSpec := { name := "swapsTrue", fn := fun _ => fun
  | [d] => { results := [.lit (.bool true)], args := [d] }
  | _ => none }
def swapsTrueRow : OpenClaim := { program := "ytgedjeljhicagaagreat", sum := "b73413369076180045e05e685e60a8b5c812fd091eb05c1c38992669a858535f", func := "minecontrol/minecontrollaw26.SwapsTrue", spec := "swapsTrue", unfollowed := true, recurses := true, apart := false }
def SwapsTrueSaid : Prop := swapsTrueRow.holds Tryz.pinned (OpenSpec.ofChange swapsTrueSpec)

/-- ITS FALSE NEIGHBOUR: 'it returns false'. Refute it at one input. -/
def swapsTrueWrong : ChangeSpec := { name := "swapsTrue", fn := fun _ => fun
  | [d] => { results := [.lit (.bool false)], args := [d] }
  | _ => none }
def SwapsTrueWrongFalsely : Prop := swapsTrueRow.holds Tryz.pinned (OpenSpec.ofChange swapsTrueWrong)

/-- 'minecontrollaw26.SwapsAlone': WHATEVER THE INPUT: true; the input reads as it did. -/
def swapsAloneSpec : ChangeSpec := { name := "swapsAlone", fn := fun _ => fun
  | [d] => { results := [.lit (.bool true)], args := [d] }
  | _ => none }
def swapsAloneRow : OpenClaim := { program := "ytgedjeljhicagaagreat", sum := "b73413369076180045e05e685e60a8b5c812fd091eb05c1c38992669a858535f", func := "minecontrol/minecontrollaw26.SwapsAlone", spec := "swapsAlone", unfollowed := true, recurses := true, apart := false }
def SwapsAloneSaid : Prop := swapsAloneRow.holds Tryz.pinned (OpenSpec.ofChange swapsAloneSpec)

/-- ITS FALSE NEIGHBOUR: 'it returns false'. Refute it at one input. -/
def swapsAloneWrong : ChangeSpec := { name := "swapsAlone", fn := fun _ => fun
  | [d] => { results := [.lit (.bool false)], args := [d] }
  | _ => none }
def SwapsAloneWrongFalsely : Prop := swapsAloneRow.holds Tryz.pinned (OpenSpec.ofChange swapsAloneWrong)

/-- 'minecontrollaw26.SwapsRaw': WHATEVER THE INPUT: true; the input reads as it did. -/
def swapsRawSpec : ChangeSpec := { name := "swapsRaw", fn := fun _ => fun
  | [d1, d2, d3] => { results := [.lit (.bool true)], args := [d1, d2, d3] }
  | _ => none }
def swapsRawRow : OpenClaim := { program := "ytgedjeljhicagaagreat", sum := "b73413369076180045e05e685e60a8b5c812fd091eb05c1c38992669a858535f", func := "minecontrol/minecontrollaw26.SwapsRaw", spec := "swapsRaw", unfollowed := true, recurses := true, apart := false }
def SwapsRawSaid : Prop := swapsRawRow.holds Tryz.pinned (OpenSpec.ofChange swapsRawSpec)

/-- ITS FALSE NEIGHBOUR: 'it returns false'. Refute it at one input. -/
def swapsRawWrong : ChangeSpec := { name := "swapsRaw", fn := fun _ => fun
  | [d1, d2, d3] => { results := [.lit (.bool false)], args := [d1, d2, d3] }
  | _ => none }
def SwapsRawWrongFalsely : Prop := swapsRawRow.holds Tryz.pinned (OpenSpec.ofChange swapsRawWrong)

/-- 'minecontrollaw26.SwapsMade': WHATEVER THE INPUT: true; the input reads as it did. -/
def swapsMadeSpec : ChangeSpec := { name := "swapsMade", fn := fun _ => fun
  | [d1, d2] => { results := [.lit (.bool true)], args := [d1, d2] }
  | _ => none }
def swapsMadeRow : OpenClaim := { program := "ytgedjeljhicagaagreat", sum := "b73413369076180045e05e685e60a8b5c812fd091eb05c1c38992669a858535f", func := "minecontrol/minecontrollaw26.SwapsMade", spec := "swapsMade", unfollowed := true, recurses := true, apart := false }
def SwapsMadeSaid : Prop := swapsMadeRow.holds Tryz.pinned (OpenSpec.ofChange swapsMadeSpec)

/-- ITS FALSE NEIGHBOUR: 'it returns false'. Refute it at one input. -/
def swapsMadeWrong : ChangeSpec := { name := "swapsMade", fn := fun _ => fun
  | [d1, d2] => { results := [.lit (.bool false)], args := [d1, d2] }
  | _ => none }
def SwapsMadeWrongFalsely : Prop := swapsMadeRow.holds Tryz.pinned (OpenSpec.ofChange swapsMadeWrong)

/- THE SECOND FORM. 'bulk': how many values and letters a reading holds, each counted each time it is reached (what is shared counts as often as it is met; a slice's spare places count too). A statement '..UptoSaid' is the law's where the arguments, and the package variables that the reading takes, are together of bulk at most 1048576: NARROWER than '..Said'. Prove '..Said' where nothing that the law and all that it calls make is longer than what came in: it says more and counts as full. Else prove '..UptoSaid'. A law counts once. -/
mutual
def uptoBulk {H : Type} : DataW H → Nat
  | .lit (.string bytes) => bytes.length + 1
  | .lit _ => 1
  | .nil => 1
  | .ptr d => uptoBulk d + 1
  | .slice elems spare => uptoBulkAll elems + uptoBulkAll spare + 1
  | .agg parts => uptoBulkAll parts + 1
  | .iface _ d => uptoBulk d + 1
  | .map entries => uptoBulkEntries entries + 1
  | .held _ => 1
def uptoBulkAll {H : Type} : List (DataW H) → Nat
  | [] => 0
  | d :: r => uptoBulk d + uptoBulkAll r
def uptoBulkEntries {H : Type} : List (Lit × DataW H) → Nat
  | [] => 0
  | x :: r => uptoBulkEntry x + uptoBulkEntries r
def uptoBulkEntry {H : Type} : Lit × DataW H → Nat
  | (.string bytes, d) => bytes.length + uptoBulk d + 1
  | (_, d) => uptoBulk d + 1
 end
def uptoSmall : (H : Type) → List (DataW H) → Bool := fun _ ds => decide (uptoBulkAll ds ≤ 1048576)
def OpenSpec.upto (s : _root_.Go.ChangeSpec) : _root_.Go.OpenSpec := { _root_.Go.OpenSpec.ofChange s with cond := some uptoSmall }

/-- 'minecontrollaw26.SwapsStarts', WHERE WHAT IT READS IS OF BULK AT MOST 1048576: true; the input reads as it did. -/
def swapsStartsUptoRow : OpenClaim := { program := "ytgedjeljhicagaagreat", sum := "b73413369076180045e05e685e60a8b5c812fd091eb05c1c38992669a858535f", func := "minecontrol/minecontrollaw26.SwapsStarts", spec := "swapsStarts", unfollowed := true, recurses := true, apart := false, narrowed := true }
def SwapsStartsUptoSaid : Prop := swapsStartsUptoRow.holds Tryz.pinned (OpenSpec.upto swapsStartsSpec)

/-- 'minecontrollaw26.SwapsMany', WHERE WHAT IT READS IS OF BULK AT MOST 1048576: true; the input reads as it did. -/
def swapsManyUptoRow : OpenClaim := { program := "ytgedjeljhicagaagreat", sum := "b73413369076180045e05e685e60a8b5c812fd091eb05c1c38992669a858535f", func := "minecontrol/minecontrollaw26.SwapsMany", spec := "swapsMany", unfollowed := true, recurses := true, apart := false, narrowed := true }
def SwapsManyUptoSaid : Prop := swapsManyUptoRow.holds Tryz.pinned (OpenSpec.upto swapsManySpec)

/-- 'minecontrollaw26.SwapsTrue', WHERE WHAT IT READS IS OF BULK AT MOST 1048576: true; the input reads as it did. -/
def swapsTrueUptoRow : OpenClaim := { program := "ytgedjeljhicagaagreat", sum := "b73413369076180045e05e685e60a8b5c812fd091eb05c1c38992669a858535f", func := "minecontrol/minecontrollaw26.SwapsTrue", spec := "swapsTrue", unfollowed := true, recurses := true, apart := false, narrowed := true }
def SwapsTrueUptoSaid : Prop := swapsTrueUptoRow.holds Tryz.pinned (OpenSpec.upto swapsTrueSpec)

/-- 'minecontrollaw26.SwapsAlone', WHERE WHAT IT READS IS OF BULK AT MOST 1048576: true; the input reads as it did. -/
def swapsAloneUptoRow : OpenClaim := { program := "ytgedjeljhicagaagreat", sum := "b73413369076180045e05e685e60a8b5c812fd091eb05c1c38992669a858535f", func := "minecontrol/minecontrollaw26.SwapsAlone", spec := "swapsAlone", unfollowed := true, recurses := true, apart := false, narrowed := true }
def SwapsAloneUptoSaid : Prop := swapsAloneUptoRow.holds Tryz.pinned (OpenSpec.upto swapsAloneSpec)

/-- 'minecontrollaw26.SwapsRaw', WHERE WHAT IT READS IS OF BULK AT MOST 1048576: true; the input reads as it did. -/
def swapsRawUptoRow : OpenClaim := { program := "ytgedjeljhicagaagreat", sum := "b73413369076180045e05e685e60a8b5c812fd091eb05c1c38992669a858535f", func := "minecontrol/minecontrollaw26.SwapsRaw", spec := "swapsRaw", unfollowed := true, recurses := true, apart := false, narrowed := true }
def SwapsRawUptoSaid : Prop := swapsRawUptoRow.holds Tryz.pinned (OpenSpec.upto swapsRawSpec)

/-- 'minecontrollaw26.SwapsMade', WHERE WHAT IT READS IS OF BULK AT MOST 1048576: true; the input reads as it did. -/
def swapsMadeUptoRow : OpenClaim := { program := "ytgedjeljhicagaagreat", sum := "b73413369076180045e05e685e60a8b5c812fd091eb05c1c38992669a858535f", func := "minecontrol/minecontrollaw26.SwapsMade", spec := "swapsMade", unfollowed := true, recurses := true, apart := false, narrowed := true }
def SwapsMadeUptoSaid : Prop := swapsMadeUptoRow.holds Tryz.pinned (OpenSpec.upto swapsMadeSpec)

end Rows
end Go.Proofs.YtgedjeljhicagaaGreat
