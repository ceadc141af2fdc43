/- Part of a proof: a checked executor for the model, its proof of soundness, tables and kernel runs. No condition of its own. -/
import Derived.Test.YtfelnhemmccjmaaGreatDoorQ17B
set_option autoImplicit false
set_option linter.unusedSimpArgs false
set_option linter.unusedVariables false
set_option maxRecDepth 100000
namespace Go.AX
open Go Go.Proofs
theorem need_24_true : yesQ (callQ cfgC17 3000 5 [.c (.sym 24), .c (.bool true)] ⟨.e, 3⟩) = true := by kernel_rfl
theorem need_24_false : yesQ (callQ cfgC17 3000 5 [.c (.sym 24), .c (.bool false)] ⟨.e, 3⟩) = true := by kernel_rfl
theorem need_25_true : yesQ (callQ cfgC17 3000 5 [.c (.sym 25), .c (.bool true)] ⟨.e, 3⟩) = true := by kernel_rfl
theorem need_25_false : yesQ (callQ cfgC17 3000 5 [.c (.sym 25), .c (.bool false)] ⟨.e, 3⟩) = true := by kernel_rfl
theorem need_26_true : yesQ (callQ cfgC17 3000 5 [.c (.sym 26), .c (.bool true)] ⟨.e, 3⟩) = true := by kernel_rfl
theorem need_26_false : yesQ (callQ cfgC17 3000 5 [.c (.sym 26), .c (.bool false)] ⟨.e, 3⟩) = true := by kernel_rfl
theorem need_27_true : yesQ (callQ cfgC17 3000 5 [.c (.sym 27), .c (.bool true)] ⟨.e, 3⟩) = true := by kernel_rfl
theorem need_27_false : yesQ (callQ cfgC17 3000 5 [.c (.sym 27), .c (.bool false)] ⟨.e, 3⟩) = true := by kernel_rfl
end Go.AX
