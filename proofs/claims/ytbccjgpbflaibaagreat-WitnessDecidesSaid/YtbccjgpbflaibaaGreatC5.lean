/- Closed facts of the row: each is what the kernel computes. -/
import Derived.Test.YtbccjgpbflaibaaGreatRows
import Derived.Lib.RowBridge
set_option linter.unusedVariables false
set_option maxHeartbeats 4000000
set_option maxRecDepth 100000
namespace Go.Proofs.YtbccjgpbflaibaaGreat
open Go Go.WideShapes Go.ChangeShapes
theorem c_rec : (Rows.witnessDecidesRow.recurses == Tryz.pinned.checked.prog.recurses 6) = true := by kernel_rfl
theorem c_named : (Rows.witnessDecidesRow.named == Tryz.pinned.checked.prog.varsNamed 6) = true := by kernel_rfl
theorem c_fn : Tryz.pinned.checked.prog.funcNamed Rows.witnessDecidesRow.func = some 6 := by kernel_rfl
end Go.Proofs.YtbccjgpbflaibaaGreat
