/- Part of a proof: a checked executor for the model, its proof of soundness, tables and kernel runs. No condition of its own. -/
import Derived.Test.YtfelnhemmccjmaaGreatDoorQ16B
set_option autoImplicit false
set_option linter.unusedSimpArgs false
set_option linter.unusedVariables false
set_option maxRecDepth 100000
namespace Go.AX
open Go Go.Proofs
theorem retr_6_4 : yesQ (callQ cfgC16 3000 8 [.c (.sym 6), .c (.sym 4)] ⟨.e, 3⟩) = true := by kernel_rfl
theorem retr_6_5 : yesQ (callQ cfgC16 3000 8 [.c (.sym 6), .c (.sym 5)] ⟨.e, 3⟩) = true := by kernel_rfl
theorem retr_6_6 : yesQ (callQ cfgC16 3000 8 [.c (.sym 6), .c (.sym 6)] ⟨.e, 3⟩) = true := by kernel_rfl
theorem retr_6_7 : yesQ (callQ cfgC16 3000 8 [.c (.sym 6), .c (.sym 7)] ⟨.e, 3⟩) = true := by kernel_rfl
theorem retr_7_4 : yesQ (callQ cfgC16 3000 8 [.c (.sym 7), .c (.sym 4)] ⟨.e, 3⟩) = true := by kernel_rfl
theorem retr_7_5 : yesQ (callQ cfgC16 3000 8 [.c (.sym 7), .c (.sym 5)] ⟨.e, 3⟩) = true := by kernel_rfl
theorem retr_7_6 : yesQ (callQ cfgC16 3000 8 [.c (.sym 7), .c (.sym 6)] ⟨.e, 3⟩) = true := by kernel_rfl
theorem retr_7_7 : yesQ (callQ cfgC16 3000 8 [.c (.sym 7), .c (.sym 7)] ⟨.e, 3⟩) = true := by kernel_rfl
end Go.AX
