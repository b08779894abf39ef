/- Closed facts of the row: each is what the kernel computes. -/
import Derived.Test.YtloefgfjlmglgaaGreatDoorRows
import Derived.Lib.RowBridge
set_option linter.unusedVariables false
set_option maxHeartbeats 4000000
set_option maxRecDepth 100000
namespace Go.Proofs.YtloefgfjlmglgaaGreatDoor
open Go Go.WideShapes Go.ChangeShapes
theorem c_rec : (Rows.layoutMeasuresRow.recurses == Tryz.pinned.checked.prog.recurses 3) = true := by kernel_rfl
theorem c_named : (Rows.layoutMeasuresRow.named == Tryz.pinned.checked.prog.varsNamed 3) = true := by kernel_rfl
theorem c_fn : Tryz.pinned.checked.prog.funcNamed Rows.layoutMeasuresRow.func = some 3 := by kernel_rfl
end Go.Proofs.YtloefgfjlmglgaaGreatDoor
