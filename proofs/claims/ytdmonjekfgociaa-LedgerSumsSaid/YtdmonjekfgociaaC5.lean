/- Closed facts of the row: each is what the kernel computes. -/
import Derived.Test.YtdmonjekfgociaaRows
import Derived.Lib.RowBridge
set_option linter.unusedVariables false
set_option maxHeartbeats 4000000
set_option maxRecDepth 100000
namespace Go.Proofs.Ytdmonjekfgociaa
open Go Go.WideShapes Go.ChangeShapes
theorem c_rec : (Rows.ledgerSumsRow.recurses == Try.pinned.checked.prog.recurses 5) = true := by kernel_rfl
theorem c_named : (Rows.ledgerSumsRow.named == Try.pinned.checked.prog.varsNamed 5) = true := by kernel_rfl
theorem c_fn : Try.pinned.checked.prog.funcNamed Rows.ledgerSumsRow.func = some 5 := by kernel_rfl
end Go.Proofs.Ytdmonjekfgociaa
