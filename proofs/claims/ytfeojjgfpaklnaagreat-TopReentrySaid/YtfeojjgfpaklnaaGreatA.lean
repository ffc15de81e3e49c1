/- Parts of the proof: see the text that holds the theorem. -/
import Derived.Test.YtfeojjgfpaklnaaGreatS
set_option linter.all false
namespace Go.Proofs.YtfeojjgfpaklnaaGreat
open Go.Ev
theorem awake_ok : dn 0 N.fY [] [] = some (B true, []) := DA (n := 400) (by kernel_rfl)
end Go.Proofs.YtfeojjgfpaklnaaGreat
