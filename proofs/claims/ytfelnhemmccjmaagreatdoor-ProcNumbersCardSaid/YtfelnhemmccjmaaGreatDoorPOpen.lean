/- Part of a proof: a checked executor for the model, its proof of soundness, tables and kernel runs. No condition of its own. -/
import Derived.Test.YtfelnhemmccjmaaGreatDoorPTab
import Derived.KernelRfl
set_option autoImplicit false
set_option linter.unusedSimpArgs false
set_option linter.unusedVariables false
set_option maxRecDepth 100000
namespace Go.AX
open Go
def open08V : V := (.a (.c (.ptr 1022 0)))
def open08N : Nat := 1153
def open08K : List (Nat × Go.AX.Obj) := []
theorem open08_ok : closedOk 4 (callQ cfgA 3000 11 [] (St.zero 4)) open08V open08N open08K = true := by kernel_rfl
theorem alive08_ok : yesQ (callQ cfgA 3000 10 [] (St.zero 3)) = true := by kernel_rfl
end Go.AX
