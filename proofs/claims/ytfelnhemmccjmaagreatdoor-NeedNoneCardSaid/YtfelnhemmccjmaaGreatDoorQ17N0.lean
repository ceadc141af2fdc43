/- Part of a proof: a checked executor for the model, its proof of soundness, tables and kernel runs. No condition of its own. -/
import Derived.Test.YtfelnhemmccjmaaGreatDoorQ17B
set_option autoImplicit false
set_option linter.unusedSimpArgs false
set_option linter.unusedVariables false
set_option maxRecDepth 100000
namespace Go.AX
open Go Go.Proofs
theorem need_16_true : yesQ (callQ cfgC17 3000 5 [.c (.sym 16), .c (.bool true)] ⟨.e, 3⟩) = true := by kernel_rfl
theorem need_16_false : yesQ (callQ cfgC17 3000 5 [.c (.sym 16), .c (.bool false)] ⟨.e, 3⟩) = true := by kernel_rfl
theorem need_17_true : yesQ (callQ cfgC17 3000 5 [.c (.sym 17), .c (.bool true)] ⟨.e, 3⟩) = true := by kernel_rfl
theorem need_17_false : yesQ (callQ cfgC17 3000 5 [.c (.sym 17), .c (.bool false)] ⟨.e, 3⟩) = true := by kernel_rfl
theorem need_18_true : yesQ (callQ cfgC17 3000 5 [.c (.sym 18), .c (.bool true)] ⟨.e, 3⟩) = true := by kernel_rfl
theorem need_18_false : yesQ (callQ cfgC17 3000 5 [.c (.sym 18), .c (.bool false)] ⟨.e, 3⟩) = true := by kernel_rfl
theorem need_19_true : yesQ (callQ cfgC17 3000 5 [.c (.sym 19), .c (.bool true)] ⟨.e, 3⟩) = true := by kernel_rfl
theorem need_19_false : yesQ (callQ cfgC17 3000 5 [.c (.sym 19), .c (.bool false)] ⟨.e, 3⟩) = true := by kernel_rfl
end Go.AX
