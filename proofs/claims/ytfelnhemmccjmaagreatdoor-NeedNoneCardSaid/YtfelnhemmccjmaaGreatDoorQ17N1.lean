/- Part of a proof: a checked executor for the model, its proof of soundness, tables and kernel runs. No condition of its own. -/
import Derived.Test.YtfelnhemmccjmaaGreatDoorQ17B
set_option autoImplicit false
set_option linter.unusedSimpArgs false
set_option linter.unusedVariables false
set_option maxRecDepth 100000
namespace Go.AX
open Go Go.Proofs
theorem need_20_true : yesQ (callQ cfgC17 3000 5 [.c (.sym 20), .c (.bool true)] ⟨.e, 3⟩) = true := by kernel_rfl
theorem need_20_false : yesQ (callQ cfgC17 3000 5 [.c (.sym 20), .c (.bool false)] ⟨.e, 3⟩) = true := by kernel_rfl
theorem need_21_true : yesQ (callQ cfgC17 3000 5 [.c (.sym 21), .c (.bool true)] ⟨.e, 3⟩) = true := by kernel_rfl
theorem need_21_false : yesQ (callQ cfgC17 3000 5 [.c (.sym 21), .c (.bool false)] ⟨.e, 3⟩) = true := by kernel_rfl
theorem need_22_true : yesQ (callQ cfgC17 3000 5 [.c (.sym 22), .c (.bool true)] ⟨.e, 3⟩) = true := by kernel_rfl
theorem need_22_false : yesQ (callQ cfgC17 3000 5 [.c (.sym 22), .c (.bool false)] ⟨.e, 3⟩) = true := by kernel_rfl
theorem need_23_true : yesQ (callQ cfgC17 3000 5 [.c (.sym 23), .c (.bool true)] ⟨.e, 3⟩) = true := by kernel_rfl
theorem need_23_false : yesQ (callQ cfgC17 3000 5 [.c (.sym 23), .c (.bool false)] ⟨.e, 3⟩) = true := by kernel_rfl
end Go.AX
