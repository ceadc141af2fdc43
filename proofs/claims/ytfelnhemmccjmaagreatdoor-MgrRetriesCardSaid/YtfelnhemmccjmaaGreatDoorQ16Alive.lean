/- Part of a proof: a checked executor for the model, its proof of soundness, tables and kernel runs. No condition of its own. -/
import Derived.Test.YtfelnhemmccjmaaGreatDoorQTab
import Derived.KernelRfl
set_option autoImplicit false
set_option linter.unusedSimpArgs false
set_option linter.unusedVariables false
set_option maxRecDepth 100000
namespace Go.AX
open Go
theorem alive16_ok : yesQ (callQ cfgA 3000 36 [] ⟨.e, 3⟩) = true := by kernel_rfl
end Go.AX
