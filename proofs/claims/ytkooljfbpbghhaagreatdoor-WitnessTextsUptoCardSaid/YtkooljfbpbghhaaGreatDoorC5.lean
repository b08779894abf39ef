/- K8 facts of the row: each is what the kernel computes. -/
import Derived.Test.YtkooljfbpbghhaaGreatDoorRows
import Derived.Lib.RowBridge
set_option linter.unusedVariables false
set_option maxHeartbeats 4000000
set_option maxRecDepth 100000
namespace Go.Proofs.YtkooljfbpbghhaaGreatDoor
open Go Go.WideShapes Go.ChangeShapes
theorem c_rec : (Rows.witnessTextsUptoRow.recurses == Tryz.pinned.checked.prog.recurses 3) = true := by kernel_rfl
theorem c_named : (Rows.witnessTextsUptoRow.named == Tryz.pinned.checked.prog.varsNamed 3) = true := by kernel_rfl
theorem c_fn : Tryz.pinned.checked.prog.funcNamed Rows.witnessTextsUptoRow.func = some 3 := by kernel_rfl
end Go.Proofs.YtkooljfbpbghhaaGreatDoor
