/- Parts of the proof: see the text that holds the theorem. -/
import Derived.Test.YtjibfckckknjkaaGreatS
set_option linter.all false
namespace Go.Proofs.YtjibfckckknjkaaGreat
open Go.Ev
theorem awake_ok : aW 0 N.kQ [] [] = some (B true, []) := N8 (n := 400) (by kernel_rfl)
end Go.Proofs.YtjibfckckknjkaaGreat
