/- Parts of the proof: see the text that holds the theorem. -/
import Derived.Test.YtfeojjgfpaklnaaGreatRows
import Derived.JoinedOf
set_option linter.all false
namespace Go.Proofs.YtfeojjgfpaklnaaGreat
open Go
theorem laidOut : laidOutB Tryz.prog = true := by kernel_rfl
theorem cellLaid : laidOutB Tryz.pinned.checked.prog = true := laidOut
theorem cellMapsRowed : (mapsRowed Tryz.pinned.checked.prog) = true := by kernel_rfl
theorem cellInPlace : ((Rows.topReentryRow.inPlace == Program.inPlace Tryz.pinned.checked.prog 3)) = true := by kernel_rfl
theorem cellUnfollowed : ((Rows.topReentryRow.unfollowed == Program.unfollowed Tryz.pinned.checked.prog 3)) = true := by kernel_rfl
theorem cellRecurses : ((Rows.topReentryRow.recurses == Program.recurses Tryz.pinned.checked.prog 3)) = true := by kernel_rfl
theorem cellNamed : ((Rows.topReentryRow.named == Program.varsNamed Tryz.pinned.checked.prog 3)) = true := by kernel_rfl
theorem cellPlainKeys : ((Rows.topReentryRow.plainKeys == Program.plainKeys Tryz.pinned.checked.prog)) = true := by kernel_rfl
theorem cellHeard : (Program.stopsHeard Tryz.pinned.checked.prog) = true := by kernel_rfl
theorem cellEnter : (Program.mayEnter Tryz.pinned.checked.prog) = true := by kernel_rfl
theorem cellFunc : Program.funcNamed Tryz.pinned.checked.prog Rows.topReentryRow.func = some 3 := by kernel_rfl
theorem andBoth {a b : Bool} (h : a = true) (g : b = true) : (a && b) = true := by rw [h, g]; rfl
set_option maxRecDepth 100000 in
theorem cells : joinedFacts Tryz.pinned.checked.prog 3 Tryz.f3 Rows.topReentrySpec Rows.topReentryRow = true := by
  unfold joinedFacts
  exact (andBoth (andBoth (andBoth (andBoth (andBoth (andBoth (andBoth (andBoth (andBoth (andBoth (andBoth (andBoth (andBoth (andBoth (andBoth (andBoth (andBoth (andBoth (andBoth (andBoth (andBoth (andBoth (andBoth (andBoth (andBoth (andBoth (andBoth (andBoth (andBoth (andBoth (andBoth (by kernel_rfl) cellLaid) cellMapsRowed) (by kernel_rfl)) (by kernel_rfl)) (by kernel_rfl)) (by kernel_rfl)) (by kernel_rfl)) (by kernel_rfl)) cellInPlace) cellUnfollowed) cellRecurses) cellNamed) (by kernel_rfl)) (by kernel_rfl)) (by kernel_rfl)) (by kernel_rfl)) (by kernel_rfl)) (by kernel_rfl)) (by kernel_rfl)) (by kernel_rfl)) (by kernel_rfl)) cellPlainKeys) (by kernel_rfl)) cellHeard) cellEnter) (by kernel_rfl)) (by kernel_rfl)) (by kernel_rfl)) (by kernel_rfl)) (by kernel_rfl)) (by kernel_rfl))
end Go.Proofs.YtfeojjgfpaklnaaGreat
