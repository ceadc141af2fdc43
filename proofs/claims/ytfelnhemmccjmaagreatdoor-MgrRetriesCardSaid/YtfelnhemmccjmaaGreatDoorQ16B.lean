/- Part of a proof: a checked executor for the model, its proof of soundness, tables and kernel runs. No condition of its own. -/
import Derived.Test.YtfelnhemmccjmaaGreatDoorQTab
import Derived.Test.YtfelnhemmccjmaaGreatDoorQ16Open
import Derived.Test.YtfelnhemmccjmaaGreatDoorQ16Alive
set_option autoImplicit false
set_option linter.unusedSimpArgs false
set_option linter.unusedVariables false
set_option maxRecDepth 100000
namespace Go.AX
open Go Go.Proofs
theorem s39 : SummSound Tryz.prog 39 (closedS 28 open16N open16V open16K) := closed_of cfgA_ok (by rw [glob3]; decide) open16_ok
theorem s36 : SummSound Tryz.prog 36 (plainS true) := plain_of cfgA_ok (by rw [glob3]; exact alive16_ok)
def summC16 : T (List A → St → Option (V × St)) := (.n (.n (.n (.n (.n (.n (.n (.n .e (some treeLoose2) .e) none .e) none .e) none .e) none (.n (.n .e (some (closedS 28 open16N open16V open16K)) .e) none .e)) none (.n (.n (.n (.n .e (some (sortedI2 [109, 193])) .e) none .e) none .e) none .e)) none (.n (.n (.n (.n .e none (.n .e (some (sortedL2 [139, 140, 194])) .e)) none (.n .e none (.n .e (some treeUsed2) .e))) none .e) none .e)) none (.n (.n .e none (.n (.n (.n .e (some (plainS true)) .e) none .e) none .e)) none (.n (.n (.n (.n .e none (.n .e none (.n .e (some countS) .e))) none .e) none (.n (.n (.n .e (some treeClone2) .e) none .e) none .e)) none (.n .e none (.n (.n .e none (.n .e none (.n .e (some indexB) .e))) none .e)))))
def cfgC16 : Cfg := { code := fun f => codeT.get (.ofNat f), meth := methA, summ := fun f => summC16.get (.ofNat f) }
theorem summC16_ok : AllT summC16 fun p sm => SummSound Tryz.prog p.toNat sm := ⟨⟨⟨⟨⟨⟨⟨⟨trivial, some_all s127, trivial⟩, none_all, trivial⟩, none_all, trivial⟩, none_all, trivial⟩, none_all, ⟨⟨trivial, some_all s39, trivial⟩, none_all, trivial⟩⟩, none_all, ⟨⟨⟨⟨trivial, some_all s67, trivial⟩, none_all, trivial⟩, none_all, trivial⟩, none_all, trivial⟩⟩, none_all, ⟨⟨⟨⟨trivial, none_all, ⟨trivial, some_all s97, trivial⟩⟩, none_all, ⟨trivial, none_all, ⟨trivial, some_all s113, trivial⟩⟩⟩, none_all, trivial⟩, none_all, trivial⟩⟩, none_all, ⟨⟨trivial, none_all, ⟨⟨⟨trivial, some_all s36, trivial⟩, none_all, trivial⟩, none_all, trivial⟩⟩, none_all, ⟨⟨⟨⟨trivial, none_all, ⟨trivial, none_all, ⟨trivial, some_all s226, trivial⟩⟩⟩, none_all, trivial⟩, none_all, ⟨⟨⟨trivial, some_all s74, trivial⟩, none_all, trivial⟩, none_all, trivial⟩⟩, none_all, ⟨trivial, none_all, ⟨⟨trivial, none_all, ⟨trivial, none_all, ⟨trivial, some_all s238, trivial⟩⟩⟩, none_all, trivial⟩⟩⟩⟩⟩
theorem cfgC16_ok : CfgOk Tryz.prog cfgC16 := ⟨mixedT, code_of codeT_ok, methL_ok meths_ok rfl, summ_of summC16_ok⟩
end Go.AX
