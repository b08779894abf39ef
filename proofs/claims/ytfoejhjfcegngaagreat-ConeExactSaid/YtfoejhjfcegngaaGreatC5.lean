/- Closed facts of the row: each is what the kernel computes. -/
import Derived.Test.YtfoejhjfcegngaaGreatRows
import Derived.Lib.RowBridge
set_option linter.unusedVariables false
set_option maxHeartbeats 4000000
set_option maxRecDepth 100000
namespace Go.Proofs.YtfoejhjfcegngaaGreat
open Go Go.WideShapes Go.ChangeShapes
theorem c_rec : (Rows.coneExactRow.recurses == Tryz.pinned.checked.prog.recurses 13) = true := by kernel_rfl
theorem c_named : (Rows.coneExactRow.named == Tryz.pinned.checked.prog.varsNamed 13) = true := by kernel_rfl
theorem c_fn : Tryz.pinned.checked.prog.funcNamed Rows.coneExactRow.func = some 13 := by kernel_rfl
end Go.Proofs.YtfoejhjfcegngaaGreat
