/- Closed facts of the row: each is what the kernel computes. -/
import Derived.Test.YtloefgfjlmglgaaDoorRows
import Derived.Lib.RowBridge
set_option linter.unusedVariables false
set_option maxHeartbeats 4000000
set_option maxRecDepth 100000
namespace Go.Proofs.YtloefgfjlmglgaaDoor
open Go Go.WideShapes Go.ChangeShapes
theorem c_rec : (Rows.layoutTurnsRow.recurses == Tryd.pinned.checked.prog.recurses 3) = true := by kernel_rfl
theorem c_named : (Rows.layoutTurnsRow.named == Tryd.pinned.checked.prog.varsNamed 3) = true := by kernel_rfl
theorem c_fn : Tryd.pinned.checked.prog.funcNamed Rows.layoutTurnsRow.func = some 3 := by kernel_rfl
end Go.Proofs.YtloefgfjlmglgaaDoor
