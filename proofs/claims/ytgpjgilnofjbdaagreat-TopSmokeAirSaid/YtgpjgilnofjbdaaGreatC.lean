/- Parts of the proof: see the text that holds the theorem. -/
import Derived.Test.YtgpjgilnofjbdaaGreatRows
import Derived.JoinedOf
set_option linter.all false
namespace Go.Proofs.YtgpjgilnofjbdaaGreat
open Go
theorem laidOut : laidOutB Tryz.prog = true := by kernel_rfl
theorem cellLaid : laidOutB Tryz.pinned.checked.prog = true := laidOut
theorem cellMapsRowed : (mapsRowed Tryz.pinned.checked.prog) = true := by kernel_rfl
theorem cellInPlace : ((Rows.topSmokeAirRow.inPlace == Program.inPlace Tryz.pinned.checked.prog 3)) = true := by kernel_rfl
theorem cellUnfollowed : ((Rows.topSmokeAirRow.unfollowed == Program.unfollowed Tryz.pinned.checked.prog 3)) = true := by kernel_rfl
theorem cellRecurses : ((Rows.topSmokeAirRow.recurses == Program.recurses Tryz.pinned.checked.prog 3)) = true := by kernel_rfl
theorem cellNamed : ((Rows.topSmokeAirRow.named == Program.varsNamed Tryz.pinned.checked.prog 3)) = true := by kernel_rfl
theorem cellPlainKeys : ((Rows.topSmokeAirRow.plainKeys == Program.plainKeys Tryz.pinned.checked.prog)) = true := by kernel_rfl
theorem cellHeard : (Program.stopsHeard Tryz.pinned.checked.prog) = true := by kernel_rfl
theorem cellEnter : (Program.mayEnter Tryz.pinned.checked.prog) = true := by kernel_rfl
theorem cellFunc : Program.funcNamed Tryz.pinned.checked.prog Rows.topSmokeAirRow.func = some 3 := by kernel_rfl
theorem andBoth {a b : Bool} (h : a = true) (g : b = true) : (a && b) = true := by rw [h, g]; rfl
set_option maxRecDepth 100000 in
theorem cells : joinedFacts Tryz.pinned.checked.prog 3 Tryz.f3 Rows.topSmokeAirSpec Rows.topSmokeAirRow = true := by
  unfold joinedFacts
  exact (andBoth (andBoth (andBoth (andBoth (andBoth (andBoth (andBoth (andBoth (andBoth (andBoth (andBoth (andBoth (andBoth (andBoth (andBoth (andBoth (andBoth (andBoth (andBoth (andBoth (andBoth (andBoth (andBoth (andBoth (andBoth (andBoth (andBoth (andBoth (andBoth (andBoth (andBoth (by kernel_rfl) cellLaid) cellMapsRowed) (by kernel_rfl)) (by kernel_rfl)) (by kernel_rfl)) (by kernel_rfl)) (by kernel_rfl)) (by kernel_rfl)) cellInPlace) cellUnfollowed) cellRecurses) cellNamed) (by kernel_rfl)) (by kernel_rfl)) (by kernel_rfl)) (by kernel_rfl)) (by kernel_rfl)) (by kernel_rfl)) (by kernel_rfl)) (by kernel_rfl)) (by kernel_rfl)) cellPlainKeys) (by kernel_rfl)) cellHeard) cellEnter) (by kernel_rfl)) (by kernel_rfl)) (by kernel_rfl)) (by kernel_rfl)) (by kernel_rfl)) (by kernel_rfl))
end Go.Proofs.YtgpjgilnofjbdaaGreat
