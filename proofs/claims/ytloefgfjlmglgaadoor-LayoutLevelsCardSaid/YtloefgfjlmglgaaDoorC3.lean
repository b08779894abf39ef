/- Closed facts of the row: each is what the kernel computes. -/
import Derived.Test.YtloefgfjlmglgaaDoorRows
import Derived.Lib.RowBridge
set_option linter.unusedVariables false
set_option maxHeartbeats 4000000
set_option maxRecDepth 100000
namespace Go.Proofs.YtloefgfjlmglgaaDoor
open Go Go.WideShapes Go.ChangeShapes
theorem c_make : (Tryd.pinned.checked.prog.make == some Rows.layoutLevelsRow.make) = true := by kernel_rfl
end Go.Proofs.YtloefgfjlmglgaaDoor
