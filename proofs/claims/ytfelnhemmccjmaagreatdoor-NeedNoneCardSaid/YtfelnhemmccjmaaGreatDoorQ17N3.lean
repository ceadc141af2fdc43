/- Part of a proof: a checked executor for the model, its proof of soundness, tables and kernel runs. No condition of its own. -/
import Derived.Test.YtfelnhemmccjmaaGreatDoorQ17B
set_option autoImplicit false
set_option linter.unusedSimpArgs false
set_option linter.unusedVariables false
set_option maxRecDepth 100000
namespace Go.AX
open Go Go.Proofs
theorem need_28_true : yesQ (callQ cfgC17 3000 5 [.c (.sym 28), .c (.bool true)] ⟨.e, 3⟩) = true := by kernel_rfl
theorem need_28_false : yesQ (callQ cfgC17 3000 5 [.c (.sym 28), .c (.bool false)] ⟨.e, 3⟩) = true := by kernel_rfl
theorem need_29_true : yesQ (callQ cfgC17 3000 5 [.c (.sym 29), .c (.bool true)] ⟨.e, 3⟩) = true := by kernel_rfl
theorem need_29_false : yesQ (callQ cfgC17 3000 5 [.c (.sym 29), .c (.bool false)] ⟨.e, 3⟩) = true := by kernel_rfl
theorem need_30_true : yesQ (callQ cfgC17 3000 5 [.c (.sym 30), .c (.bool true)] ⟨.e, 3⟩) = true := by kernel_rfl
theorem need_30_false : yesQ (callQ cfgC17 3000 5 [.c (.sym 30), .c (.bool false)] ⟨.e, 3⟩) = true := by kernel_rfl
theorem need_31_true : yesQ (callQ cfgC17 3000 5 [.c (.sym 31), .c (.bool true)] ⟨.e, 3⟩) = true := by kernel_rfl
theorem need_31_false : yesQ (callQ cfgC17 3000 5 [.c (.sym 31), .c (.bool false)] ⟨.e, 3⟩) = true := by kernel_rfl
end Go.AX
