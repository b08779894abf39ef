/- Closed facts of the row: each is what the kernel computes. -/
import Derived.Test.YtfoejhjfcegngaaGreatRows
import Derived.Lib.RowBridge
set_option linter.unusedVariables false
set_option maxHeartbeats 4000000
set_option maxRecDepth 100000
namespace Go.Proofs.YtfoejhjfcegngaaGreat
open Go Go.WideShapes Go.ChangeShapes
theorem c_rec : (Rows.solverRunsRow.recurses == Tryz.pinned.checked.prog.recurses 5) = true := by kernel_rfl
theorem c_named : (Rows.solverRunsRow.named == Tryz.pinned.checked.prog.varsNamed 5) = true := by kernel_rfl
theorem c_fn : Tryz.pinned.checked.prog.funcNamed Rows.solverRunsRow.func = some 5 := by kernel_rfl
end Go.Proofs.YtfoejhjfcegngaaGreat
