/-
  No cell of these rows narrows 'for every input' (looked for: loops, veiled, ifaces, maps, wideKeys, modest, calm, conditions, laid).
  DERIVED. THE GIVEN ROWS OF THIS SEAT. 3 by the template 'for every input the law returns true; each argument reads behind the call as it read before'; 0 by the template 'total and deterministic' (their statements: YtddpkhnllojfpaaGreatTotals.lean).
  GIVEN WITH THE SEED: the statements are not yours to turn. If you find one false, say at which input.
  Laid BY PROGRAM, IN A SANDBOX (cutbox-rows.mjs): the forced cells as the released guide's own fill.sh prints them over the translation 0d7d3bf4a7f500d4… (all of the seat's roots in one cut). By AI agents, Wed Nov 11 2026. No macro, syntax, notation, axiom, sorry.
-/
import Derived.Test.YtddpkhnllojfpaaGreatChecked
import GoSem.Claim
import GoSem.ClaimJoined
import GoSem.ClaimMapViews
import Derived.JoinedTies
import Derived.KernelRfl
namespace Go.Proofs.YtddpkhnllojfpaaGreat
/- THE CELL 'sum', in the pinned program and in every row, IS THE sha256 OF THE DUMP (.gsa) THAT YtddpkhnllojfpaaGreatProg.lean LOADS. Nothing in Lean hashes anything: it is a label: what it is worth is what the hold of that sum in a sandbox is worth. -/
noncomputable def Tryz.pinned : Pinned := { name := "ytddpkhnllojfpaagreat", sum := "0d7d3bf4a7f500d4850b9a7480e19c7f9cc5d36eeac99873dac1165d3a764496", checked := Tryz.checked }
namespace Rows
def none {H : Type} : Left H := { results := [], args := [] }

/-- 'minecontrollaw40.FireRulesRaw': WHATEVER THE INPUT: true; the input reads as it did. -/
def fireRulesRawSpec : ChangeSpec := { name := "fireRulesRaw", fn := fun _ => fun
  | [d1, d2, d3] => { results := [.lit (.bool true)], args := [d1, d2, d3] }
  | _ => none }
def fireRulesRawRow : OpenClaim := { program := "ytddpkhnllojfpaagreat", sum := "0d7d3bf4a7f500d4850b9a7480e19c7f9cc5d36eeac99873dac1165d3a764496", func := "minecontrol/minecontrollaw40.FireRulesRaw", spec := "fireRulesRaw", unfollowed := true, recurses := true, apart := false }
def FireRulesRawSaid : Prop := fireRulesRawRow.holds Tryz.pinned (OpenSpec.ofChange fireRulesRawSpec)

/-- ITS FALSE NEIGHBOUR: 'it returns false'. Refute it at one input. -/
def fireRulesRawWrong : ChangeSpec := { name := "fireRulesRaw", fn := fun _ => fun
  | [d1, d2, d3] => { results := [.lit (.bool false)], args := [d1, d2, d3] }
  | _ => none }
def FireRulesRawWrongFalsely : Prop := fireRulesRawRow.holds Tryz.pinned (OpenSpec.ofChange fireRulesRawWrong)

/-- 'minecontrollaw40.FireRulesMade': WHATEVER THE INPUT: true; the input reads as it did. -/
def fireRulesMadeSpec : ChangeSpec := { name := "fireRulesMade", fn := fun _ => fun
  | [d] => { results := [.lit (.bool true)], args := [d] }
  | _ => none }
def fireRulesMadeRow : OpenClaim := { program := "ytddpkhnllojfpaagreat", sum := "0d7d3bf4a7f500d4850b9a7480e19c7f9cc5d36eeac99873dac1165d3a764496", func := "minecontrol/minecontrollaw40.FireRulesMade", spec := "fireRulesMade", unfollowed := true, recurses := true, apart := false }
def FireRulesMadeSaid : Prop := fireRulesMadeRow.holds Tryz.pinned (OpenSpec.ofChange fireRulesMadeSpec)

/-- ITS FALSE NEIGHBOUR: 'it returns false'. Refute it at one input. -/
def fireRulesMadeWrong : ChangeSpec := { name := "fireRulesMade", fn := fun _ => fun
  | [d] => { results := [.lit (.bool false)], args := [d] }
  | _ => none }
def FireRulesMadeWrongFalsely : Prop := fireRulesMadeRow.holds Tryz.pinned (OpenSpec.ofChange fireRulesMadeWrong)

/-- 'minecontrollaw40.FireRulesMore': WHATEVER THE INPUT: true; the input reads as it did. -/
def fireRulesMoreSpec : ChangeSpec := { name := "fireRulesMore", fn := fun _ => fun
  | [d] => { results := [.lit (.bool true)], args := [d] }
  | _ => none }
def fireRulesMoreRow : OpenClaim := { program := "ytddpkhnllojfpaagreat", sum := "0d7d3bf4a7f500d4850b9a7480e19c7f9cc5d36eeac99873dac1165d3a764496", func := "minecontrol/minecontrollaw40.FireRulesMore", spec := "fireRulesMore", unfollowed := true, recurses := true, apart := false }
def FireRulesMoreSaid : Prop := fireRulesMoreRow.holds Tryz.pinned (OpenSpec.ofChange fireRulesMoreSpec)

/-- ITS FALSE NEIGHBOUR: 'it returns false'. Refute it at one input. -/
def fireRulesMoreWrong : ChangeSpec := { name := "fireRulesMore", fn := fun _ => fun
  | [d] => { results := [.lit (.bool false)], args := [d] }
  | _ => none }
def FireRulesMoreWrongFalsely : Prop := fireRulesMoreRow.holds Tryz.pinned (OpenSpec.ofChange fireRulesMoreWrong)

/- THE SECOND FORM. 'bulk': how many values and letters a reading holds, each counted each time it is reached (what is shared counts as often as it is met; a slice's spare places count too). A statement '..UptoSaid' is the law's where the arguments, and the package variables that the reading takes, are together of bulk at most 1048576: NARROWER than '..Said'. Prove '..Said' where nothing that the law and all that it calls make is longer than what came in: it says more and counts as full. Else prove '..UptoSaid'. A law counts once. -/
mutual
def uptoBulk {H : Type} : DataW H → Nat
  | .lit (.string bytes) => bytes.length + 1
  | .lit _ => 1
  | .nil => 1
  | .ptr d => uptoBulk d + 1
  | .slice elems spare => uptoBulkAll elems + uptoBulkAll spare + 1
  | .agg parts => uptoBulkAll parts + 1
  | .iface _ d => uptoBulk d + 1
  | .map entries => uptoBulkEntries entries + 1
  | .held _ => 1
def uptoBulkAll {H : Type} : List (DataW H) → Nat
  | [] => 0
  | d :: r => uptoBulk d + uptoBulkAll r
def uptoBulkEntries {H : Type} : List (Lit × DataW H) → Nat
  | [] => 0
  | x :: r => uptoBulkEntry x + uptoBulkEntries r
def uptoBulkEntry {H : Type} : Lit × DataW H → Nat
  | (.string bytes, d) => bytes.length + uptoBulk d + 1
  | (_, d) => uptoBulk d + 1
 end
def uptoSmall : (H : Type) → List (DataW H) → Bool := fun _ ds => decide (uptoBulkAll ds ≤ 1048576)
def OpenSpec.upto (s : _root_.Go.ChangeSpec) : _root_.Go.OpenSpec := { _root_.Go.OpenSpec.ofChange s with cond := some uptoSmall }

/-- 'minecontrollaw40.FireRulesRaw', WHERE WHAT IT READS IS OF BULK AT MOST 1048576: true; the input reads as it did. -/
def fireRulesRawUptoRow : OpenClaim := { program := "ytddpkhnllojfpaagreat", sum := "0d7d3bf4a7f500d4850b9a7480e19c7f9cc5d36eeac99873dac1165d3a764496", func := "minecontrol/minecontrollaw40.FireRulesRaw", spec := "fireRulesRaw", unfollowed := true, recurses := true, apart := false, narrowed := true }
def FireRulesRawUptoSaid : Prop := fireRulesRawUptoRow.holds Tryz.pinned (OpenSpec.upto fireRulesRawSpec)

/-- 'minecontrollaw40.FireRulesMade', WHERE WHAT IT READS IS OF BULK AT MOST 1048576: true; the input reads as it did. -/
def fireRulesMadeUptoRow : OpenClaim := { program := "ytddpkhnllojfpaagreat", sum := "0d7d3bf4a7f500d4850b9a7480e19c7f9cc5d36eeac99873dac1165d3a764496", func := "minecontrol/minecontrollaw40.FireRulesMade", spec := "fireRulesMade", unfollowed := true, recurses := true, apart := false, narrowed := true }
def FireRulesMadeUptoSaid : Prop := fireRulesMadeUptoRow.holds Tryz.pinned (OpenSpec.upto fireRulesMadeSpec)

/-- 'minecontrollaw40.FireRulesMore', WHERE WHAT IT READS IS OF BULK AT MOST 1048576: true; the input reads as it did. -/
def fireRulesMoreUptoRow : OpenClaim := { program := "ytddpkhnllojfpaagreat", sum := "0d7d3bf4a7f500d4850b9a7480e19c7f9cc5d36eeac99873dac1165d3a764496", func := "minecontrol/minecontrollaw40.FireRulesMore", spec := "fireRulesMore", unfollowed := true, recurses := true, apart := false, narrowed := true }
def FireRulesMoreUptoSaid : Prop := fireRulesMoreUptoRow.holds Tryz.pinned (OpenSpec.upto fireRulesMoreSpec)

end Rows
end Go.Proofs.YtddpkhnllojfpaaGreat
