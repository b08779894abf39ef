/- Qjd facts of the row: each is what the kernel computes. -/
import Derived.Test.YtbccjgpbflaibaaGreatRows
import Derived.Lib.RowBridge
set_option linter.unusedVariables false
set_option maxHeartbeats 4000000
set_option maxRecDepth 100000
namespace Go.Proofs.YtbccjgpbflaibaaGreat
open Go Go.WideShapes Go.ChangeShapes
theorem c_rec : (Rows.witnessFindsRow.recurses == Tryz.pinned.checked.prog.recurses 5) = true := by kernel_rfl
theorem c_named : (Rows.witnessFindsRow.named == Tryz.pinned.checked.prog.varsNamed 5) = true := by kernel_rfl
theorem c_fn : Tryz.pinned.checked.prog.funcNamed Rows.witnessFindsRow.func = some 5 := by kernel_rfl
end Go.Proofs.YtbccjgpbflaibaaGreat
