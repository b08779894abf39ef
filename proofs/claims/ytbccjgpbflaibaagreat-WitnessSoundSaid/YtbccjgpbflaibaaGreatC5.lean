/- Closed facts of the row: each is what the kernel computes. -/
import Derived.Test.YtbccjgpbflaibaaGreatRows
import Derived.Lib.RowBridge
set_option linter.unusedVariables false
set_option maxHeartbeats 4000000
set_option maxRecDepth 100000
namespace Go.Proofs.YtbccjgpbflaibaaGreat
open Go Go.WideShapes Go.ChangeShapes
theorem c_rec : (Rows.witnessSoundRow.recurses == Tryz.pinned.checked.prog.recurses 4) = true := by kernel_rfl
theorem c_named : (Rows.witnessSoundRow.named == Tryz.pinned.checked.prog.varsNamed 4) = true := by kernel_rfl
theorem c_fn : Tryz.pinned.checked.prog.funcNamed Rows.witnessSoundRow.func = some 4 := by kernel_rfl
end Go.Proofs.YtbccjgpbflaibaaGreat
