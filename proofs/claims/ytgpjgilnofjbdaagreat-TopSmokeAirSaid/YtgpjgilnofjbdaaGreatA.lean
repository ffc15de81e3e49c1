/- Parts of the proof: see the text that holds the theorem. -/
import Derived.Test.YtgpjgilnofjbdaaGreatS
set_option linter.all false
namespace Go.Proofs.YtgpjgilnofjbdaaGreat
open Go.Ev
theorem awake_ok : bL 0 N.iE [] [] = some (B true, []) := KM (n := 400) (by kernel_rfl)
end Go.Proofs.YtgpjgilnofjbdaaGreat
