/- Closed facts of the row: each is what the kernel computes. -/
import Derived.Test.YtloefgfjlmglgaaDoorRows
import Derived.Lib.RowBridge
set_option linter.unusedVariables false
set_option maxHeartbeats 4000000
set_option maxRecDepth 100000
namespace Go.Proofs.YtloefgfjlmglgaaDoor
open Go Go.WideShapes Go.ChangeShapes
theorem c_rec : (Rows.layoutLevelsRow.recurses == Tryd.pinned.checked.prog.recurses 5) = true := by kernel_rfl
theorem c_named : (Rows.layoutLevelsRow.named == Tryd.pinned.checked.prog.varsNamed 5) = true := by kernel_rfl
theorem c_fn : Tryd.pinned.checked.prog.funcNamed Rows.layoutLevelsRow.func = some 5 := by kernel_rfl
end Go.Proofs.YtloefgfjlmglgaaDoor
