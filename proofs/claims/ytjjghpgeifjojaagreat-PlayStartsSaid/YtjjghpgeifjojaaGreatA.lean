/- Parts of the proof: see the text that holds the theorem. -/
import Derived.Test.YtjjghpgeifjojaaGreatS
set_option linter.all false
namespace Go.Proofs.YtjjghpgeifjojaaGreat
open Go.Ev
theorem awake_ok : aL 0 N.jb [] [] = some (B true, []) := Je (n := 400) (by kernel_rfl)
end Go.Proofs.YtjjghpgeifjojaaGreat
