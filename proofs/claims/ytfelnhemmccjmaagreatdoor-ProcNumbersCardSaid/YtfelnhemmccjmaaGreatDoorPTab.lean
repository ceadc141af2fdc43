/- Part of a proof: a checked executor for the model, its proof of soundness, tables and kernel runs. No condition of its own. -/
import Derived.Test.YtfelnhemmccjmaaGreatDoorPCode
import Derived.Test.YtfelnhemmccjmaaGreatDoorBxD
import Derived.Test.YtfelnhemmccjmaaGreatDoorBxC
import Derived.Test.YtfelnhemmccjmaaGreatDoorProg
import Derived.KernelRfl
import Derived.Ground.SlmcProg
import Derived.Ground.GgzProg
import Derived.Ground.SlgmProg
import Derived.Shelf.SlMaps.Clone
import Derived.Shelf.SlIterI.Nil
import Derived.Shelf.SlIter.Nil
import Derived.Shelf.SortM.Plain
import Derived.Shelf.SortM.SortNone
set_option autoImplicit false
set_option linter.unusedSimpArgs false
set_option linter.unusedVariables false
set_option maxRecDepth 100000
namespace Go.AX
open Go Go.Proofs
theorem e3 : cFunc Tryz.prog Tryz.f3 = some c3 := by kernel_rfl
theorem e10 : cFunc Tryz.prog Tryz.f10 = some c10 := by kernel_rfl
theorem e11 : cFunc Tryz.prog Tryz.f11 = some c11 := by kernel_rfl
theorem e12 : cFunc Tryz.prog Tryz.f12 = some c12 := by kernel_rfl
theorem e13 : cFunc Tryz.prog Tryz.f13 = some c13 := by kernel_rfl
theorem e14 : cFunc Tryz.prog Tryz.f14 = some c14 := by kernel_rfl
theorem e15 : cFunc Tryz.prog Tryz.f15 = some c15 := by kernel_rfl
theorem e16 : cFunc Tryz.prog Tryz.f16 = some c16 := by kernel_rfl
theorem e23 : cFunc Tryz.prog Tryz.f23 = some c23 := by kernel_rfl
theorem e24 : cFunc Tryz.prog Tryz.f24 = some c24 := by kernel_rfl
theorem e26 : cFunc Tryz.prog Tryz.f26 = some c26 := by kernel_rfl
theorem e62 : cFunc Tryz.prog Tryz.f62 = some c62 := by kernel_rfl
theorem e63 : cFunc Tryz.prog Tryz.f63 = some c63 := by kernel_rfl
theorem e64 : cFunc Tryz.prog Tryz.f64 = some c64 := by kernel_rfl
theorem e65 : cFunc Tryz.prog Tryz.f65 = some c65 := by kernel_rfl
theorem e66 : cFunc Tryz.prog Tryz.f66 = some c66 := by kernel_rfl
theorem e68 : cFunc Tryz.prog Tryz.f68 = some c68 := by kernel_rfl
theorem e69 : cFunc Tryz.prog Tryz.f69 = some c69 := by kernel_rfl
theorem e70 : cFunc Tryz.prog Tryz.f70 = some c70 := by kernel_rfl
theorem e71 : cFunc Tryz.prog Tryz.f71 = some c71 := by kernel_rfl
theorem e75 : cFunc Tryz.prog Tryz.f75 = some c75 := by kernel_rfl
theorem e76 : cFunc Tryz.prog Tryz.f76 = some c76 := by kernel_rfl
theorem e77 : cFunc Tryz.prog Tryz.f77 = some c77 := by kernel_rfl
theorem e79 : cFunc Tryz.prog Tryz.f79 = some c79 := by kernel_rfl
theorem e101 : cFunc Tryz.prog Tryz.f101 = some c101 := by kernel_rfl
theorem e102 : cFunc Tryz.prog Tryz.f102 = some c102 := by kernel_rfl
theorem e103 : cFunc Tryz.prog Tryz.f103 = some c103 := by kernel_rfl
theorem e104 : cFunc Tryz.prog Tryz.f104 = some c104 := by kernel_rfl
theorem e110 : cFunc Tryz.prog Tryz.f110 = some c110 := by kernel_rfl
theorem e112 : cFunc Tryz.prog Tryz.f112 = some c112 := by kernel_rfl
theorem e114 : cFunc Tryz.prog Tryz.f114 = some c114 := by kernel_rfl
theorem e115 : cFunc Tryz.prog Tryz.f115 = some c115 := by kernel_rfl
theorem e116 : cFunc Tryz.prog Tryz.f116 = some c116 := by kernel_rfl
theorem e117 : cFunc Tryz.prog Tryz.f117 = some c117 := by kernel_rfl
theorem e118 : cFunc Tryz.prog Tryz.f118 = some c118 := by kernel_rfl
theorem e119 : cFunc Tryz.prog Tryz.f119 = some c119 := by kernel_rfl
theorem e120 : cFunc Tryz.prog Tryz.f120 = some c120 := by kernel_rfl
theorem e121 : cFunc Tryz.prog Tryz.f121 = some c121 := by kernel_rfl
theorem e122 : cFunc Tryz.prog Tryz.f122 = some c122 := by kernel_rfl
theorem e124 : cFunc Tryz.prog Tryz.f124 = some c124 := by kernel_rfl
theorem e125 : cFunc Tryz.prog Tryz.f125 = some c125 := by kernel_rfl
theorem e126 : cFunc Tryz.prog Tryz.f126 = some c126 := by kernel_rfl
theorem e141 : cFunc Tryz.prog Tryz.f141 = some c141 := by kernel_rfl
theorem e142 : cFunc Tryz.prog Tryz.f142 = some c142 := by kernel_rfl
theorem e143 : cFunc Tryz.prog Tryz.f143 = some c143 := by kernel_rfl
theorem e144 : cFunc Tryz.prog Tryz.f144 = some c144 := by kernel_rfl
theorem e159 : cFunc Tryz.prog Tryz.f159 = some c159 := by kernel_rfl
theorem e161 : cFunc Tryz.prog Tryz.f161 = some c161 := by kernel_rfl
theorem e162 : cFunc Tryz.prog Tryz.f162 = some c162 := by kernel_rfl
theorem e163 : cFunc Tryz.prog Tryz.f163 = some c163 := by kernel_rfl
theorem e165 : cFunc Tryz.prog Tryz.f165 = some c165 := by kernel_rfl
theorem e166 : cFunc Tryz.prog Tryz.f166 = some c166 := by kernel_rfl
theorem e167 : cFunc Tryz.prog Tryz.f167 = some c167 := by kernel_rfl
theorem e168 : cFunc Tryz.prog Tryz.f168 = some c168 := by kernel_rfl
theorem e171 : cFunc Tryz.prog Tryz.f171 = some c171 := by kernel_rfl
theorem e188 : cFunc Tryz.prog Tryz.f188 = some c188 := by kernel_rfl
theorem e189 : cFunc Tryz.prog Tryz.f189 = some c189 := by kernel_rfl
theorem e190 : cFunc Tryz.prog Tryz.f190 = some c190 := by kernel_rfl
theorem e191 : cFunc Tryz.prog Tryz.f191 = some c191 := by kernel_rfl
theorem e210 : cFunc Tryz.prog Tryz.f210 = some c210 := by kernel_rfl
theorem e211 : cFunc Tryz.prog Tryz.f211 = some c211 := by kernel_rfl
theorem e212 : cFunc Tryz.prog Tryz.f212 = some c212 := by kernel_rfl
theorem e213 : cFunc Tryz.prog Tryz.f213 = some c213 := by kernel_rfl
theorem e220 : cFunc Tryz.prog Tryz.f220 = some c220 := by kernel_rfl
theorem e221 : cFunc Tryz.prog Tryz.f221 = some c221 := by kernel_rfl
theorem e222 : cFunc Tryz.prog Tryz.f222 = some c222 := by kernel_rfl
theorem e227 : cFunc Tryz.prog Tryz.f227 = some c227 := by kernel_rfl
theorem e232 : cFunc Tryz.prog Tryz.f232 = some c232 := by kernel_rfl
theorem e257 : cFunc Tryz.prog Tryz.f257 = some c257 := by kernel_rfl
theorem e258 : cFunc Tryz.prog Tryz.f258 = some c258 := by kernel_rfl
end Go.AX

set_option maxRecDepth 100000
namespace Go.AX
open Go
def codeT : T IFunc := (.n (.n (.n (.n (.n (.n (.n .e (some c63) (.n .e (some c191) .e)) none (.n (.n .e (some c159) .e) none .e)) (some c15) (.n (.n (.n .e (some c143) .e) (some c79) .e) none .e)) none (.n (.n (.n .e (some c71) .e) none (.n (.n .e (some c167) .e) (some c103) .e)) (some c23) (.n .e none (.n .e (some c119) .e)))) (some c3) (.n (.n (.n .e none (.n (.n .e (some c163) .e) none (.n .e (some c227) .e))) none (.n (.n .e none (.n .e (some c211) .e)) none (.n .e (some c115) .e))) (some c11) (.n (.n (.n .e (some c75) .e) none (.n (.n .e (some c171) .e) none .e)) none .e))) none (.n (.n (.n (.n (.n (.n (.n .e (some c257) .e) none .e) (some c65) .e) none (.n (.n .e (some c161) .e) none .e)) none .e) none (.n .e none (.n .e none (.n .e (some c121) .e)))) none (.n (.n (.n (.n .e (some c69) .e) none (.n (.n .e (some c165) .e) (some c101) .e)) none (.n (.n .e none (.n .e (some c213) .e)) none (.n .e (some c117) .e))) (some c13) (.n (.n (.n (.n .e (some c141) .e) (some c77) .e) none .e) none (.n (.n .e none (.n .e (some c221) .e)) none (.n (.n .e (some c189) .e) (some c125) .e)))))) none (.n (.n (.n (.n (.n (.n .e (some c64) .e) none .e) (some c16) (.n (.n (.n .e (some c144) .e) none .e) none (.n .e (some c112) .e))) none (.n (.n .e none (.n (.n .e (some c168) .e) (some c104) (.n .e (some c232) .e))) (some c24) (.n .e none (.n .e (some c120) .e)))) none (.n (.n (.n (.n .e (some c68) .e) none .e) none (.n (.n .e none (.n .e (some c212) .e)) none (.n .e (some c116) .e))) (some c12) (.n (.n (.n .e (some c76) .e) none .e) none (.n (.n .e none (.n .e (some c220) .e)) none (.n (.n .e (some c188) .e) (some c124) .e))))) none (.n (.n (.n (.n (.n (.n (.n .e (some c258) .e) none .e) (some c66) .e) none (.n (.n .e (some c162) .e) none .e)) none (.n (.n .e none (.n .e (some c210) .e)) none (.n .e (some c114) .e))) (some c10) (.n .e (some c26) (.n .e none (.n .e (some c122) .e)))) none (.n (.n (.n (.n .e (some c70) .e) none (.n (.n .e (some c166) .e) (some c102) .e)) none (.n .e none (.n .e (some c118) .e))) (some c14) (.n (.n (.n (.n .e (some c142) .e) none .e) none (.n .e (some c110) .e)) none (.n (.n .e none (.n .e (some c222) .e)) (some c62) (.n (.n .e (some c190) .e) (some c126) .e)))))))
def summT : T (List A → St → Option (V × St)) := (.n (.n (.n (.n (.n (.n (.n (.n .e (some treeLoose2) .e) none .e) none .e) none .e) none .e) none (.n (.n (.n (.n .e (some (sortedI2 [109, 193])) .e) none .e) none .e) none .e)) none (.n (.n (.n .e none (.n .e none (.n .e (some treeUsed2) .e))) none .e) none .e)) none (.n .e none (.n (.n (.n (.n .e none (.n .e none (.n .e (some countS) .e))) none .e) none (.n (.n (.n .e (some treeClone2) .e) none .e) none .e)) none (.n .e none (.n (.n .e none (.n .e none (.n .e (some indexB) .e))) none .e)))))
def methsA : List (Nat × String × Nat) := [(24, "Let", 258), (24, "Hold", 257)]
def methA : Nat → String → Option Nat := methL methsA
def cfgA : Cfg := { code := fun f => codeT.get (.ofNat f), meth := methA, summ := fun f => summT.get (.ofNat f) }
end Go.AX

set_option maxRecDepth 100000
namespace Go.AX
open Go Go.Proofs
theorem ok3 : FOk Tryz.prog 3 c3 := ⟨Tryz.f3, Tryz.func3, e3, by kernel_rfl⟩
theorem ok10 : FOk Tryz.prog 10 c10 := ⟨Tryz.f10, Tryz.func10, e10, by kernel_rfl⟩
theorem ok11 : FOk Tryz.prog 11 c11 := ⟨Tryz.f11, Tryz.func11, e11, by kernel_rfl⟩
theorem ok12 : FOk Tryz.prog 12 c12 := ⟨Tryz.f12, Tryz.func12, e12, by kernel_rfl⟩
theorem ok13 : FOk Tryz.prog 13 c13 := ⟨Tryz.f13, Tryz.func13, e13, by kernel_rfl⟩
theorem ok14 : FOk Tryz.prog 14 c14 := ⟨Tryz.f14, Tryz.func14, e14, by kernel_rfl⟩
theorem ok15 : FOk Tryz.prog 15 c15 := ⟨Tryz.f15, Tryz.func15, e15, by kernel_rfl⟩
theorem ok16 : FOk Tryz.prog 16 c16 := ⟨Tryz.f16, Tryz.func16, e16, by kernel_rfl⟩
theorem ok23 : FOk Tryz.prog 23 c23 := ⟨Tryz.f23, Tryz.func23, e23, by kernel_rfl⟩
theorem ok24 : FOk Tryz.prog 24 c24 := ⟨Tryz.f24, Tryz.func24, e24, by kernel_rfl⟩
theorem ok26 : FOk Tryz.prog 26 c26 := ⟨Tryz.f26, Tryz.func26, e26, by kernel_rfl⟩
theorem ok62 : FOk Tryz.prog 62 c62 := ⟨Tryz.f62, Tryz.func62, e62, by kernel_rfl⟩
theorem ok63 : FOk Tryz.prog 63 c63 := ⟨Tryz.f63, Tryz.func63, e63, by kernel_rfl⟩
theorem ok64 : FOk Tryz.prog 64 c64 := ⟨Tryz.f64, Tryz.func64, e64, by kernel_rfl⟩
theorem ok65 : FOk Tryz.prog 65 c65 := ⟨Tryz.f65, Tryz.func65, e65, by kernel_rfl⟩
theorem ok66 : FOk Tryz.prog 66 c66 := ⟨Tryz.f66, Tryz.func66, e66, by kernel_rfl⟩
theorem ok68 : FOk Tryz.prog 68 c68 := ⟨Tryz.f68, Tryz.func68, e68, by kernel_rfl⟩
theorem ok69 : FOk Tryz.prog 69 c69 := ⟨Tryz.f69, Tryz.func69, e69, by kernel_rfl⟩
theorem ok70 : FOk Tryz.prog 70 c70 := ⟨Tryz.f70, Tryz.func70, e70, by kernel_rfl⟩
theorem ok71 : FOk Tryz.prog 71 c71 := ⟨Tryz.f71, Tryz.func71, e71, by kernel_rfl⟩
theorem ok75 : FOk Tryz.prog 75 c75 := ⟨Tryz.f75, Tryz.func75, e75, by kernel_rfl⟩
theorem ok76 : FOk Tryz.prog 76 c76 := ⟨Tryz.f76, Tryz.func76, e76, by kernel_rfl⟩
theorem ok77 : FOk Tryz.prog 77 c77 := ⟨Tryz.f77, Tryz.func77, e77, by kernel_rfl⟩
theorem ok79 : FOk Tryz.prog 79 c79 := ⟨Tryz.f79, Tryz.func79, e79, by kernel_rfl⟩
theorem ok101 : FOk Tryz.prog 101 c101 := ⟨Tryz.f101, Tryz.func101, e101, by kernel_rfl⟩
theorem ok102 : FOk Tryz.prog 102 c102 := ⟨Tryz.f102, Tryz.func102, e102, by kernel_rfl⟩
theorem ok103 : FOk Tryz.prog 103 c103 := ⟨Tryz.f103, Tryz.func103, e103, by kernel_rfl⟩
theorem ok104 : FOk Tryz.prog 104 c104 := ⟨Tryz.f104, Tryz.func104, e104, by kernel_rfl⟩
theorem ok110 : FOk Tryz.prog 110 c110 := ⟨Tryz.f110, Tryz.func110, e110, by kernel_rfl⟩
theorem ok112 : FOk Tryz.prog 112 c112 := ⟨Tryz.f112, Tryz.func112, e112, by kernel_rfl⟩
theorem ok114 : FOk Tryz.prog 114 c114 := ⟨Tryz.f114, Tryz.func114, e114, by kernel_rfl⟩
theorem ok115 : FOk Tryz.prog 115 c115 := ⟨Tryz.f115, Tryz.func115, e115, by kernel_rfl⟩
theorem ok116 : FOk Tryz.prog 116 c116 := ⟨Tryz.f116, Tryz.func116, e116, by kernel_rfl⟩
theorem ok117 : FOk Tryz.prog 117 c117 := ⟨Tryz.f117, Tryz.func117, e117, by kernel_rfl⟩
theorem ok118 : FOk Tryz.prog 118 c118 := ⟨Tryz.f118, Tryz.func118, e118, by kernel_rfl⟩
theorem ok119 : FOk Tryz.prog 119 c119 := ⟨Tryz.f119, Tryz.func119, e119, by kernel_rfl⟩
theorem ok120 : FOk Tryz.prog 120 c120 := ⟨Tryz.f120, Tryz.func120, e120, by kernel_rfl⟩
theorem ok121 : FOk Tryz.prog 121 c121 := ⟨Tryz.f121, Tryz.func121, e121, by kernel_rfl⟩
theorem ok122 : FOk Tryz.prog 122 c122 := ⟨Tryz.f122, Tryz.func122, e122, by kernel_rfl⟩
theorem ok124 : FOk Tryz.prog 124 c124 := ⟨Tryz.f124, Tryz.func124, e124, by kernel_rfl⟩
theorem ok125 : FOk Tryz.prog 125 c125 := ⟨Tryz.f125, Tryz.func125, e125, by kernel_rfl⟩
theorem ok126 : FOk Tryz.prog 126 c126 := ⟨Tryz.f126, Tryz.func126, e126, by kernel_rfl⟩
theorem ok141 : FOk Tryz.prog 141 c141 := ⟨Tryz.f141, Tryz.func141, e141, by kernel_rfl⟩
theorem ok142 : FOk Tryz.prog 142 c142 := ⟨Tryz.f142, Tryz.func142, e142, by kernel_rfl⟩
theorem ok143 : FOk Tryz.prog 143 c143 := ⟨Tryz.f143, Tryz.func143, e143, by kernel_rfl⟩
theorem ok144 : FOk Tryz.prog 144 c144 := ⟨Tryz.f144, Tryz.func144, e144, by kernel_rfl⟩
theorem ok159 : FOk Tryz.prog 159 c159 := ⟨Tryz.f159, Tryz.func159, e159, by kernel_rfl⟩
theorem ok161 : FOk Tryz.prog 161 c161 := ⟨Tryz.f161, Tryz.func161, e161, by kernel_rfl⟩
theorem ok162 : FOk Tryz.prog 162 c162 := ⟨Tryz.f162, Tryz.func162, e162, by kernel_rfl⟩
theorem ok163 : FOk Tryz.prog 163 c163 := ⟨Tryz.f163, Tryz.func163, e163, by kernel_rfl⟩
theorem ok165 : FOk Tryz.prog 165 c165 := ⟨Tryz.f165, Tryz.func165, e165, by kernel_rfl⟩
theorem ok166 : FOk Tryz.prog 166 c166 := ⟨Tryz.f166, Tryz.func166, e166, by kernel_rfl⟩
theorem ok167 : FOk Tryz.prog 167 c167 := ⟨Tryz.f167, Tryz.func167, e167, by kernel_rfl⟩
theorem ok168 : FOk Tryz.prog 168 c168 := ⟨Tryz.f168, Tryz.func168, e168, by kernel_rfl⟩
theorem ok171 : FOk Tryz.prog 171 c171 := ⟨Tryz.f171, Tryz.func171, e171, by kernel_rfl⟩
theorem ok188 : FOk Tryz.prog 188 c188 := ⟨Tryz.f188, Tryz.func188, e188, by kernel_rfl⟩
theorem ok189 : FOk Tryz.prog 189 c189 := ⟨Tryz.f189, Tryz.func189, e189, by kernel_rfl⟩
theorem ok190 : FOk Tryz.prog 190 c190 := ⟨Tryz.f190, Tryz.func190, e190, by kernel_rfl⟩
theorem ok191 : FOk Tryz.prog 191 c191 := ⟨Tryz.f191, Tryz.func191, e191, by kernel_rfl⟩
theorem ok210 : FOk Tryz.prog 210 c210 := ⟨Tryz.f210, Tryz.func210, e210, by kernel_rfl⟩
theorem ok211 : FOk Tryz.prog 211 c211 := ⟨Tryz.f211, Tryz.func211, e211, by kernel_rfl⟩
theorem ok212 : FOk Tryz.prog 212 c212 := ⟨Tryz.f212, Tryz.func212, e212, by kernel_rfl⟩
theorem ok213 : FOk Tryz.prog 213 c213 := ⟨Tryz.f213, Tryz.func213, e213, by kernel_rfl⟩
theorem ok220 : FOk Tryz.prog 220 c220 := ⟨Tryz.f220, Tryz.func220, e220, by kernel_rfl⟩
theorem ok221 : FOk Tryz.prog 221 c221 := ⟨Tryz.f221, Tryz.func221, e221, by kernel_rfl⟩
theorem ok222 : FOk Tryz.prog 222 c222 := ⟨Tryz.f222, Tryz.func222, e222, by kernel_rfl⟩
theorem ok227 : FOk Tryz.prog 227 c227 := ⟨Tryz.f227, Tryz.func227, e227, by kernel_rfl⟩
theorem ok232 : FOk Tryz.prog 232 c232 := ⟨Tryz.f232, Tryz.func232, e232, by kernel_rfl⟩
theorem ok257 : FOk Tryz.prog 257 c257 := ⟨Tryz.f257, Tryz.func257, e257, by kernel_rfl⟩
theorem ok258 : FOk Tryz.prog 258 c258 := ⟨Tryz.f258, Tryz.func258, e258, by kernel_rfl⟩
theorem codeT_ok : AllT codeT fun p fn => FOk Tryz.prog p.toNat fn := ⟨⟨⟨⟨⟨⟨⟨trivial, some_all ok63, ⟨trivial, some_all ok191, trivial⟩⟩, none_all, ⟨⟨trivial, some_all ok159, trivial⟩, none_all, trivial⟩⟩, some_all ok15, ⟨⟨⟨trivial, some_all ok143, trivial⟩, some_all ok79, trivial⟩, none_all, trivial⟩⟩, none_all, ⟨⟨⟨trivial, some_all ok71, trivial⟩, none_all, ⟨⟨trivial, some_all ok167, trivial⟩, some_all ok103, trivial⟩⟩, some_all ok23, ⟨trivial, none_all, ⟨trivial, some_all ok119, trivial⟩⟩⟩⟩, some_all ok3, ⟨⟨⟨trivial, none_all, ⟨⟨trivial, some_all ok163, trivial⟩, none_all, ⟨trivial, some_all ok227, trivial⟩⟩⟩, none_all, ⟨⟨trivial, none_all, ⟨trivial, some_all ok211, trivial⟩⟩, none_all, ⟨trivial, some_all ok115, trivial⟩⟩⟩, some_all ok11, ⟨⟨⟨trivial, some_all ok75, trivial⟩, none_all, ⟨⟨trivial, some_all ok171, trivial⟩, none_all, trivial⟩⟩, none_all, trivial⟩⟩⟩, none_all, ⟨⟨⟨⟨⟨⟨⟨trivial, some_all ok257, trivial⟩, none_all, trivial⟩, some_all ok65, trivial⟩, none_all, ⟨⟨trivial, some_all ok161, trivial⟩, none_all, trivial⟩⟩, none_all, trivial⟩, none_all, ⟨trivial, none_all, ⟨trivial, none_all, ⟨trivial, some_all ok121, trivial⟩⟩⟩⟩, none_all, ⟨⟨⟨⟨trivial, some_all ok69, trivial⟩, none_all, ⟨⟨trivial, some_all ok165, trivial⟩, some_all ok101, trivial⟩⟩, none_all, ⟨⟨trivial, none_all, ⟨trivial, some_all ok213, trivial⟩⟩, none_all, ⟨trivial, some_all ok117, trivial⟩⟩⟩, some_all ok13, ⟨⟨⟨⟨trivial, some_all ok141, trivial⟩, some_all ok77, trivial⟩, none_all, trivial⟩, none_all, ⟨⟨trivial, none_all, ⟨trivial, some_all ok221, trivial⟩⟩, none_all, ⟨⟨trivial, some_all ok189, trivial⟩, some_all ok125, trivial⟩⟩⟩⟩⟩⟩, none_all, ⟨⟨⟨⟨⟨⟨trivial, some_all ok64, trivial⟩, none_all, trivial⟩, some_all ok16, ⟨⟨⟨trivial, some_all ok144, trivial⟩, none_all, trivial⟩, none_all, ⟨trivial, some_all ok112, trivial⟩⟩⟩, none_all, ⟨⟨trivial, none_all, ⟨⟨trivial, some_all ok168, trivial⟩, some_all ok104, ⟨trivial, some_all ok232, trivial⟩⟩⟩, some_all ok24, ⟨trivial, none_all, ⟨trivial, some_all ok120, trivial⟩⟩⟩⟩, none_all, ⟨⟨⟨⟨trivial, some_all ok68, trivial⟩, none_all, trivial⟩, none_all, ⟨⟨trivial, none_all, ⟨trivial, some_all ok212, trivial⟩⟩, none_all, ⟨trivial, some_all ok116, trivial⟩⟩⟩, some_all ok12, ⟨⟨⟨trivial, some_all ok76, trivial⟩, none_all, trivial⟩, none_all, ⟨⟨trivial, none_all, ⟨trivial, some_all ok220, trivial⟩⟩, none_all, ⟨⟨trivial, some_all ok188, trivial⟩, some_all ok124, trivial⟩⟩⟩⟩⟩, none_all, ⟨⟨⟨⟨⟨⟨⟨trivial, some_all ok258, trivial⟩, none_all, trivial⟩, some_all ok66, trivial⟩, none_all, ⟨⟨trivial, some_all ok162, trivial⟩, none_all, trivial⟩⟩, none_all, ⟨⟨trivial, none_all, ⟨trivial, some_all ok210, trivial⟩⟩, none_all, ⟨trivial, some_all ok114, trivial⟩⟩⟩, some_all ok10, ⟨trivial, some_all ok26, ⟨trivial, none_all, ⟨trivial, some_all ok122, trivial⟩⟩⟩⟩, none_all, ⟨⟨⟨⟨trivial, some_all ok70, trivial⟩, none_all, ⟨⟨trivial, some_all ok166, trivial⟩, some_all ok102, trivial⟩⟩, none_all, ⟨trivial, none_all, ⟨trivial, some_all ok118, trivial⟩⟩⟩, some_all ok14, ⟨⟨⟨⟨trivial, some_all ok142, trivial⟩, none_all, trivial⟩, none_all, ⟨trivial, some_all ok110, trivial⟩⟩, none_all, ⟨⟨trivial, none_all, ⟨trivial, some_all ok222, trivial⟩⟩, some_all ok62, ⟨⟨trivial, some_all ok190, trivial⟩, some_all ok126, trivial⟩⟩⟩⟩⟩⟩⟩
end Go.AX

namespace Go.Proofs
open Go.Shelf
def Tryz.clone111_ren : Go.Shelf.Ren := ⟨fun | 5 => 111 | 7 => 160 | n => n, fun | 23 => 66 | 25 => 9 | 3 => 3 | 4 => 4 | 20 => 20 | n => n, fun | n => n⟩
theorem Tryz.clone111 : Go.Proofs.SlLaysW.n5 Tryz.prog Tryz.clone111_ren := {
  mixed := by kernel_rfl
  f5 := ⟨Tryz.f111.name, by decide, Tryz.func111.trans (congrArg some (by kernel_rfl))⟩
  f7 := Tryz.func160.trans (congrArg some (by kernel_rfl))
  t4 := Tryz.underlying4
  a4 := Tryz.isAgg4
  z4 := Tryz.sizeOf4
  v4 := Tryz.zeroValue4
  t20 := Tryz.underlying20
  a20 := Tryz.isAgg20
  z20 := Tryz.sizeOf20
  v20 := Tryz.zeroValue20
  t23 := Tryz.underlying66
  a23 := Tryz.isAgg66
  z23 := Tryz.sizeOf66
  v23 := Tryz.zeroValue66 }
def Tryz.sorted67_ren : Go.Shelf.Ren := ⟨fun | 6 => 67 | 8 => 107 | 9 => 108 | 11 => 156 | 13 => 158 | 12 => 157 | 23 => 186 | 24 => 187 | 14 => 177 | 15 => 178 | 16 => 179 | 17 => 180 | 18 => 181 | 19 => 182 | 20 => 183 | 21 => 184 | 22 => 185 | 25 => 204 | 26 => 205 | 27 => 206 | 28 => 207 | 29 => 208 | 30 => 209 | 31 => 218 | n => n, fun | 26 => 3 | 28 => 135 | 24 => 34 | 0 => 0 | 3 => 3 | 37 => 244 | 48 => 253 | 50 => 190 | 4 => 4 | 40 => 269 | 39 => 268 | 45 => 138 | 5 => 5 | 9 => 9 | 51 => 286 | 55 => 290 | 57 => 297 | 58 => 43 | 33 => 194 | n => n, fun | n => n⟩
theorem Tryz.sorted67 : Go.Proofs.SlLaysZI.n6 Tryz.prog Tryz.sorted67_ren := {
  mixed := by kernel_rfl
  f6 := ⟨Tryz.f67.name, by decide, Tryz.func67.trans (congrArg some (by kernel_rfl))⟩
  f8 := ⟨Tryz.f107.name, by decide, Tryz.func107.trans (congrArg some (by kernel_rfl))⟩
  f11 := ⟨Tryz.f156.name, by decide, Tryz.func156.trans (congrArg some (by kernel_rfl))⟩
  t0 := Tryz.underlying0
  a0 := Tryz.isAgg0
  z0 := Tryz.sizeOf0
  v0 := Tryz.zeroValue0
  t24 := Tryz.underlying34
  a24 := Tryz.isAgg34
  z24 := Tryz.sizeOf34
  v24 := Tryz.zeroValue34
  t26 := Tryz.underlying3
  a26 := Tryz.isAgg3
  z26 := Tryz.sizeOf3
  v26 := Tryz.zeroValue3
  t28 := Tryz.underlying135
  a28 := Tryz.isAgg135
  z28 := Tryz.sizeOf135
  v28 := Tryz.zeroValue135
  i26 := by kernel_rfl }
def Tryz.keys109_ren : Go.Shelf.Ren := ⟨fun | 10 => 109 | n => n, fun | 33 => 194 | 23 => 128 | 0 => 0 | 4 => 4 | 26 => 3 | 3 => 131 | n => n, fun | n => n⟩
theorem Tryz.keys109 : Go.Proofs.SlLaysZI.n10 Tryz.prog Tryz.keys109_ren := {
  mixed := by kernel_rfl
  f10 := ⟨Tryz.f109.name, by decide, Tryz.func109.trans (congrArg some (by kernel_rfl))⟩
  t0 := Tryz.underlying0
  a0 := Tryz.isAgg0
  z0 := Tryz.sizeOf0
  v0 := Tryz.zeroValue0
  t4 := Tryz.underlying4
  a4 := Tryz.isAgg4
  z4 := Tryz.sizeOf4
  v4 := Tryz.zeroValue4
  t23 := Tryz.underlying128
  a23 := Tryz.isAgg128
  z23 := Tryz.sizeOf128
  v23 := Tryz.zeroValue128
  t26 := Tryz.underlying3
  a26 := Tryz.isAgg3
  z26 := Tryz.sizeOf3
  v26 := Tryz.zeroValue3
  t33 := Tryz.underlying194
  a33 := Tryz.isAgg194
  z33 := Tryz.sizeOf194
  v33 := Tryz.zeroValue194 }
def Tryz.keys193_ren : Go.Shelf.Ren := ⟨fun | 10 => 193 | n => n, fun | 33 => 194 | 23 => 199 | 0 => 0 | 4 => 4 | 26 => 3 | 3 => 198 | n => n, fun | n => n⟩
theorem Tryz.keys193 : Go.Proofs.SlLaysZI.n10 Tryz.prog Tryz.keys193_ren := {
  mixed := by kernel_rfl
  f10 := ⟨Tryz.f193.name, by decide, Tryz.func193.trans (congrArg some (by kernel_rfl))⟩
  t0 := Tryz.underlying0
  a0 := Tryz.isAgg0
  z0 := Tryz.sizeOf0
  v0 := Tryz.zeroValue0
  t4 := Tryz.underlying4
  a4 := Tryz.isAgg4
  z4 := Tryz.sizeOf4
  v4 := Tryz.zeroValue4
  t23 := Tryz.underlying199
  a23 := Tryz.isAgg199
  z23 := Tryz.sizeOf199
  v23 := Tryz.zeroValue199
  t26 := Tryz.underlying3
  a26 := Tryz.isAgg3
  z26 := Tryz.sizeOf3
  v26 := Tryz.zeroValue3
  t33 := Tryz.underlying194
  a33 := Tryz.isAgg194
  z33 := Tryz.sizeOf194
  v33 := Tryz.zeroValue194 }
def Tryz.sort108_ren : Go.Shelf.Ren := ⟨fun | 5 => 108 | 8 => 158 | 7 => 157 | 19 => 186 | 20 => 187 | 10 => 177 | 11 => 178 | 12 => 179 | 13 => 180 | 14 => 181 | 15 => 182 | 16 => 183 | 17 => 184 | 18 => 185 | 30 => 204 | 31 => 205 | 32 => 206 | 33 => 207 | 34 => 208 | 35 => 209 | 40 => 218 | n => n, fun | 23 => 34 | 25 => 3 | 3 => 3 | 32 => 244 | 22 => 34 | 0 => 0 | 44 => 253 | 46 => 190 | 4 => 4 | 36 => 269 | 35 => 268 | 41 => 138 | 5 => 5 | 9 => 9 | 53 => 286 | 57 => 290 | 63 => 297 | 64 => 43 | n => n, fun | n => n⟩
theorem Tryz.sort108 : Go.Proofs.SlLaysM.n5 Tryz.prog Tryz.sort108_ren := {
  mixed := by kernel_rfl
  f5 := ⟨Tryz.f108.name, by decide, Tryz.func108.trans (congrArg some (by kernel_rfl))⟩
  f7 := ⟨Tryz.f157.name, by decide, Tryz.func157.trans (congrArg some (by kernel_rfl))⟩
  f8 := Tryz.func158.trans (congrArg some (by kernel_rfl))
  f10 := ⟨Tryz.f177.name, by decide, Tryz.func177.trans (congrArg some (by kernel_rfl))⟩
  f11 := ⟨Tryz.f178.name, by decide, Tryz.func178.trans (congrArg some (by kernel_rfl))⟩
  f12 := ⟨Tryz.f179.name, by decide, Tryz.func179.trans (congrArg some (by kernel_rfl))⟩
  f13 := ⟨Tryz.f180.name, by decide, Tryz.func180.trans (congrArg some (by kernel_rfl))⟩
  f14 := ⟨Tryz.f181.name, by decide, Tryz.func181.trans (congrArg some (by kernel_rfl))⟩
  f15 := ⟨Tryz.f182.name, by decide, Tryz.func182.trans (congrArg some (by kernel_rfl))⟩
  f16 := ⟨Tryz.f183.name, by decide, Tryz.func183.trans (congrArg some (by kernel_rfl))⟩
  f17 := ⟨Tryz.f184.name, by decide, Tryz.func184.trans (congrArg some (by kernel_rfl))⟩
  f18 := ⟨Tryz.f185.name, by decide, Tryz.func185.trans (congrArg some (by kernel_rfl))⟩
  f19 := Tryz.func186.trans (congrArg some (by kernel_rfl))
  f20 := Tryz.func187.trans (congrArg some (by kernel_rfl))
  f30 := ⟨Tryz.f204.name, by decide, Tryz.func204.trans (congrArg some (by kernel_rfl))⟩
  f31 := Tryz.func205.trans (congrArg some (by kernel_rfl))
  f32 := Tryz.func206.trans (congrArg some (by kernel_rfl))
  f33 := ⟨Tryz.f207.name, by decide, Tryz.func207.trans (congrArg some (by kernel_rfl))⟩
  f34 := ⟨Tryz.f208.name, by decide, Tryz.func208.trans (congrArg some (by kernel_rfl))⟩
  f35 := ⟨Tryz.f209.name, by decide, Tryz.func209.trans (congrArg some (by kernel_rfl))⟩
  f40 := ⟨Tryz.f218.name, by decide, Tryz.func218.trans (congrArg some (by kernel_rfl))⟩
  t0 := Tryz.underlying0
  a0 := Tryz.isAgg0
  z0 := Tryz.sizeOf0
  v0 := Tryz.zeroValue0
  t3 := Tryz.underlying3
  a3 := Tryz.isAgg3
  z3 := Tryz.sizeOf3
  v3 := Tryz.zeroValue3
  t4 := Tryz.underlying4
  a4 := Tryz.isAgg4
  z4 := Tryz.sizeOf4
  v4 := Tryz.zeroValue4
  t5 := Tryz.underlying5
  a5 := Tryz.isAgg5
  z5 := Tryz.sizeOf5
  v5 := Tryz.zeroValue5
  t9 := Tryz.underlying9
  a9 := Tryz.isAgg9
  z9 := Tryz.sizeOf9
  v9 := Tryz.zeroValue9
  t22 := Tryz.underlying34
  a22 := Tryz.isAgg34
  z22 := Tryz.sizeOf34
  v22 := Tryz.zeroValue34
  t23 := Tryz.underlying34
  a23 := Tryz.isAgg34
  z23 := Tryz.sizeOf34
  v23 := Tryz.zeroValue34
  t25 := Tryz.underlying3
  a25 := Tryz.isAgg3
  z25 := Tryz.sizeOf3
  v25 := Tryz.zeroValue3
  t32 := Tryz.underlying244
  a32 := Tryz.isAgg244
  z32 := Tryz.sizeOf244
  v32 := Tryz.zeroValue244
  t35 := Tryz.underlying268
  a35 := Tryz.isAgg268
  z35 := Tryz.sizeOf268
  v35 := Tryz.zeroValue268
  t36 := Tryz.underlying269
  a36 := Tryz.isAgg269
  z36 := Tryz.sizeOf269
  v36 := Tryz.zeroValue269
  t41 := Tryz.underlying138
  a41 := Tryz.isAgg138
  z41 := Tryz.sizeOf138
  v41 := Tryz.zeroValue138
  t44 := Tryz.underlying253
  a44 := Tryz.isAgg253
  z44 := Tryz.sizeOf253
  v44 := Tryz.zeroValue253
  t46 := Tryz.underlying190
  a46 := Tryz.isAgg190
  z46 := Tryz.sizeOf190
  v46 := Tryz.zeroValue190
  t53 := Tryz.underlying286
  a53 := Tryz.isAgg286
  z53 := Tryz.sizeOf286
  v53 := Tryz.zeroValue286
  t57 := Tryz.underlying290
  a57 := Tryz.isAgg290
  z57 := Tryz.sizeOf290
  v57 := Tryz.zeroValue290
  t63 := Tryz.underlying297
  a63 := Tryz.isAgg297
  z63 := Tryz.sizeOf297
  v63 := Tryz.zeroValue297
  t64 := Tryz.underlying43
  a64 := Tryz.isAgg43
  z64 := Tryz.sizeOf43
  v64 := Tryz.zeroValue43 }
def Tryz.sorted97_ren : Go.Shelf.Ren := ⟨fun | 6 => 97 | 8 => 137 | 9 => 138 | 11 => 173 | 13 => 158 | 12 => 174 | 23 => 186 | 24 => 187 | 14 => 195 | 15 => 196 | 16 => 197 | 17 => 198 | 18 => 199 | 19 => 200 | 20 => 201 | 21 => 202 | 22 => 203 | 25 => 214 | 26 => 205 | 27 => 206 | 28 => 215 | 29 => 216 | 30 => 217 | 31 => 223 | n => n, fun | 26 => 9 | 28 => 176 | 24 => 28 | 0 => 0 | 3 => 3 | 37 => 244 | 48 => 253 | 50 => 190 | 4 => 4 | 40 => 269 | 39 => 268 | 45 => 138 | 5 => 5 | 9 => 9 | 51 => 286 | 55 => 290 | 57 => 297 | 58 => 43 | 33 => 140 | n => n, fun | n => n⟩
theorem Tryz.sorted97 : Go.Proofs.SlLaysZ.n6 Tryz.prog Tryz.sorted97_ren := {
  mixed := by kernel_rfl
  f6 := ⟨Tryz.f97.name, by decide, Tryz.func97.trans (congrArg some (by kernel_rfl))⟩
  f8 := ⟨Tryz.f137.name, by decide, Tryz.func137.trans (congrArg some (by kernel_rfl))⟩
  f11 := ⟨Tryz.f173.name, by decide, Tryz.func173.trans (congrArg some (by kernel_rfl))⟩
  t0 := Tryz.underlying0
  a0 := Tryz.isAgg0
  z0 := Tryz.sizeOf0
  v0 := Tryz.zeroValue0
  t24 := Tryz.underlying28
  a24 := Tryz.isAgg28
  z24 := Tryz.sizeOf28
  v24 := Tryz.zeroValue28
  t26 := Tryz.underlying9
  a26 := Tryz.isAgg9
  z26 := Tryz.sizeOf9
  v26 := Tryz.zeroValue9
  t28 := Tryz.underlying176
  a28 := Tryz.isAgg176
  z28 := Tryz.sizeOf176
  v28 := Tryz.zeroValue176
  i26 := by kernel_rfl }
def Tryz.keys139_ren : Go.Shelf.Ren := ⟨fun | 10 => 139 | n => n, fun | 33 => 140 | 23 => 160 | 0 => 0 | 4 => 4 | 26 => 9 | 3 => 85 | n => n, fun | n => n⟩
theorem Tryz.keys139 : Go.Proofs.SlLaysZ.n10 Tryz.prog Tryz.keys139_ren := {
  mixed := by kernel_rfl
  f10 := ⟨Tryz.f139.name, by decide, Tryz.func139.trans (congrArg some (by kernel_rfl))⟩
  t0 := Tryz.underlying0
  a0 := Tryz.isAgg0
  z0 := Tryz.sizeOf0
  v0 := Tryz.zeroValue0
  t4 := Tryz.underlying4
  a4 := Tryz.isAgg4
  z4 := Tryz.sizeOf4
  v4 := Tryz.zeroValue4
  t23 := Tryz.underlying160
  a23 := Tryz.isAgg160
  z23 := Tryz.sizeOf160
  v23 := Tryz.zeroValue160
  t26 := Tryz.underlying9
  a26 := Tryz.isAgg9
  z26 := Tryz.sizeOf9
  v26 := Tryz.zeroValue9
  t33 := Tryz.underlying140
  a33 := Tryz.isAgg140
  z33 := Tryz.sizeOf140
  v33 := Tryz.zeroValue140 }
def Tryz.keys140_ren : Go.Shelf.Ren := ⟨fun | 10 => 140 | n => n, fun | 33 => 140 | 23 => 103 | 0 => 0 | 4 => 4 | 26 => 9 | 3 => 152 | n => n, fun | n => n⟩
theorem Tryz.keys140 : Go.Proofs.SlLaysZ.n10 Tryz.prog Tryz.keys140_ren := {
  mixed := by kernel_rfl
  f10 := ⟨Tryz.f140.name, by decide, Tryz.func140.trans (congrArg some (by kernel_rfl))⟩
  t0 := Tryz.underlying0
  a0 := Tryz.isAgg0
  z0 := Tryz.sizeOf0
  v0 := Tryz.zeroValue0
  t4 := Tryz.underlying4
  a4 := Tryz.isAgg4
  z4 := Tryz.sizeOf4
  v4 := Tryz.zeroValue4
  t23 := Tryz.underlying103
  a23 := Tryz.isAgg103
  z23 := Tryz.sizeOf103
  v23 := Tryz.zeroValue103
  t26 := Tryz.underlying9
  a26 := Tryz.isAgg9
  z26 := Tryz.sizeOf9
  v26 := Tryz.zeroValue9
  t33 := Tryz.underlying140
  a33 := Tryz.isAgg140
  z33 := Tryz.sizeOf140
  v33 := Tryz.zeroValue140 }
def Tryz.keys194_ren : Go.Shelf.Ren := ⟨fun | 10 => 194 | n => n, fun | 33 => 140 | 23 => 66 | 0 => 0 | 4 => 4 | 26 => 9 | 3 => 3 | n => n, fun | n => n⟩
theorem Tryz.keys194 : Go.Proofs.SlLaysZ.n10 Tryz.prog Tryz.keys194_ren := {
  mixed := by kernel_rfl
  f10 := ⟨Tryz.f194.name, by decide, Tryz.func194.trans (congrArg some (by kernel_rfl))⟩
  t0 := Tryz.underlying0
  a0 := Tryz.isAgg0
  z0 := Tryz.sizeOf0
  v0 := Tryz.zeroValue0
  t4 := Tryz.underlying4
  a4 := Tryz.isAgg4
  z4 := Tryz.sizeOf4
  v4 := Tryz.zeroValue4
  t23 := Tryz.underlying66
  a23 := Tryz.isAgg66
  z23 := Tryz.sizeOf66
  v23 := Tryz.zeroValue66
  t26 := Tryz.underlying9
  a26 := Tryz.isAgg9
  z26 := Tryz.sizeOf9
  v26 := Tryz.zeroValue9
  t33 := Tryz.underlying140
  a33 := Tryz.isAgg140
  z33 := Tryz.sizeOf140
  v33 := Tryz.zeroValue140 }
def Tryz.sort138_ren : Go.Shelf.Ren := ⟨fun | 6 => 138 | 8 => 158 | 9 => 174 | 19 => 186 | 20 => 187 | 21 => 195 | 22 => 196 | 23 => 197 | 24 => 198 | 25 => 199 | 26 => 200 | 27 => 201 | 28 => 202 | 29 => 203 | 36 => 214 | 31 => 205 | 32 => 206 | 37 => 215 | 38 => 216 | 39 => 217 | 41 => 223 | n => n, fun | 27 => 28 | 29 => 9 | 3 => 3 | 32 => 244 | 26 => 28 | 0 => 0 | 44 => 253 | 46 => 190 | 4 => 4 | 36 => 269 | 35 => 268 | 41 => 138 | 5 => 5 | 9 => 9 | 53 => 286 | 57 => 290 | 63 => 297 | 64 => 43 | n => n, fun | n => n⟩
theorem Tryz.sort138 : Go.Proofs.SlLaysM.n6 Tryz.prog Tryz.sort138_ren := {
  mixed := by kernel_rfl
  f6 := ⟨Tryz.f138.name, by decide, Tryz.func138.trans (congrArg some (by kernel_rfl))⟩
  f8 := Tryz.func158.trans (congrArg some (by kernel_rfl))
  f9 := ⟨Tryz.f174.name, by decide, Tryz.func174.trans (congrArg some (by kernel_rfl))⟩
  f19 := Tryz.func186.trans (congrArg some (by kernel_rfl))
  f20 := Tryz.func187.trans (congrArg some (by kernel_rfl))
  f21 := ⟨Tryz.f195.name, by decide, Tryz.func195.trans (congrArg some (by kernel_rfl))⟩
  f22 := ⟨Tryz.f196.name, by decide, Tryz.func196.trans (congrArg some (by kernel_rfl))⟩
  f23 := ⟨Tryz.f197.name, by decide, Tryz.func197.trans (congrArg some (by kernel_rfl))⟩
  f24 := ⟨Tryz.f198.name, by decide, Tryz.func198.trans (congrArg some (by kernel_rfl))⟩
  f25 := ⟨Tryz.f199.name, by decide, Tryz.func199.trans (congrArg some (by kernel_rfl))⟩
  f26 := ⟨Tryz.f200.name, by decide, Tryz.func200.trans (congrArg some (by kernel_rfl))⟩
  f27 := ⟨Tryz.f201.name, by decide, Tryz.func201.trans (congrArg some (by kernel_rfl))⟩
  f28 := ⟨Tryz.f202.name, by decide, Tryz.func202.trans (congrArg some (by kernel_rfl))⟩
  f29 := ⟨Tryz.f203.name, by decide, Tryz.func203.trans (congrArg some (by kernel_rfl))⟩
  f31 := Tryz.func205.trans (congrArg some (by kernel_rfl))
  f32 := Tryz.func206.trans (congrArg some (by kernel_rfl))
  f36 := ⟨Tryz.f214.name, by decide, Tryz.func214.trans (congrArg some (by kernel_rfl))⟩
  f37 := ⟨Tryz.f215.name, by decide, Tryz.func215.trans (congrArg some (by kernel_rfl))⟩
  f38 := ⟨Tryz.f216.name, by decide, Tryz.func216.trans (congrArg some (by kernel_rfl))⟩
  f39 := ⟨Tryz.f217.name, by decide, Tryz.func217.trans (congrArg some (by kernel_rfl))⟩
  f41 := ⟨Tryz.f223.name, by decide, Tryz.func223.trans (congrArg some (by kernel_rfl))⟩
  t0 := Tryz.underlying0
  a0 := Tryz.isAgg0
  z0 := Tryz.sizeOf0
  v0 := Tryz.zeroValue0
  t3 := Tryz.underlying3
  a3 := Tryz.isAgg3
  z3 := Tryz.sizeOf3
  v3 := Tryz.zeroValue3
  t4 := Tryz.underlying4
  a4 := Tryz.isAgg4
  z4 := Tryz.sizeOf4
  v4 := Tryz.zeroValue4
  t5 := Tryz.underlying5
  a5 := Tryz.isAgg5
  z5 := Tryz.sizeOf5
  v5 := Tryz.zeroValue5
  t9 := Tryz.underlying9
  a9 := Tryz.isAgg9
  z9 := Tryz.sizeOf9
  v9 := Tryz.zeroValue9
  t26 := Tryz.underlying28
  a26 := Tryz.isAgg28
  z26 := Tryz.sizeOf28
  v26 := Tryz.zeroValue28
  t27 := Tryz.underlying28
  a27 := Tryz.isAgg28
  z27 := Tryz.sizeOf28
  v27 := Tryz.zeroValue28
  t29 := Tryz.underlying9
  a29 := Tryz.isAgg9
  z29 := Tryz.sizeOf9
  v29 := Tryz.zeroValue9
  t32 := Tryz.underlying244
  a32 := Tryz.isAgg244
  z32 := Tryz.sizeOf244
  v32 := Tryz.zeroValue244
  t35 := Tryz.underlying268
  a35 := Tryz.isAgg268
  z35 := Tryz.sizeOf268
  v35 := Tryz.zeroValue268
  t36 := Tryz.underlying269
  a36 := Tryz.isAgg269
  z36 := Tryz.sizeOf269
  v36 := Tryz.zeroValue269
  t41 := Tryz.underlying138
  a41 := Tryz.isAgg138
  z41 := Tryz.sizeOf138
  v41 := Tryz.zeroValue138
  t44 := Tryz.underlying253
  a44 := Tryz.isAgg253
  z44 := Tryz.sizeOf253
  v44 := Tryz.zeroValue253
  t46 := Tryz.underlying190
  a46 := Tryz.isAgg190
  z46 := Tryz.sizeOf190
  v46 := Tryz.zeroValue190
  t53 := Tryz.underlying286
  a53 := Tryz.isAgg286
  z53 := Tryz.sizeOf286
  v53 := Tryz.zeroValue286
  t57 := Tryz.underlying290
  a57 := Tryz.isAgg290
  z57 := Tryz.sizeOf290
  v57 := Tryz.zeroValue290
  t63 := Tryz.underlying297
  a63 := Tryz.isAgg297
  z63 := Tryz.sizeOf297
  v63 := Tryz.zeroValue297
  t64 := Tryz.underlying43
  a64 := Tryz.isAgg43
  z64 := Tryz.sizeOf43
  v64 := Tryz.zeroValue43 }
end Go.Proofs

set_option maxRecDepth 100000
namespace Go.AX
open Go Go.Proofs Go.Shelf Go.Sort Go.RowKit Go.Maps
theorem mixedT : Tryz.prog.follows .mixedOrders = true := by kernel_rfl
theorem sorts67 (m : Nat) : AnyZI.SortsIn Tryz.prog Tryz.sorted67_ren Fence.wide m :=
  ⟨fun blk off cap ss W hH hblk hsz => callsIn_wide.2 (AnyM.slices_Sort_int Tryz.sort108 blk off cap ss W hH hblk hsz),
   fun p cap W => callsIn_wide.2 (AnyM.slices_Sort_int_none Tryz.sort108 p cap W)⟩
theorem sorts97 (m : Nat) : AnyZ.SortsIn Tryz.prog Tryz.sorted97_ren Fence.wide m :=
  ⟨fun blk off cap ss W hH hblk hsz => callsIn_wide.2 (AnyM.slices_Sort_string Tryz.sort138 blk off cap ss W hH hblk hsz),
   fun p cap W => callsIn_wide.2 (AnyM.slices_Sort_string_none Tryz.sort138 p cap W)⟩
theorem si109 : SortedI Tryz.prog 67 109 := by
  have e9 : ∀ args w, (callFunc 108 args).run Tryz.prog w = .ok (.enter 108 args) w := enters_of Tryz.func108 (by kernel_rfl) rfl
  have e10 : ∀ args w, (callFunc 109 args).run Tryz.prog w = .ok (.enter 109 args) w := enters_of Tryz.func109 (by kernel_rfl) rfl
  have r6 : Tryz.sorted67_ren.f 6 = 67 := by kernel_rfl
  have r9 : Tryz.sorted67_ren.f 9 = 108 := by kernel_rfl
  have r10 : Tryz.keys109_ren.f 10 = 109 := by kernel_rfl
  have h := sortedI_of Tryz.sorted67 Tryz.keys109 (sorts67 _) (by rw [r9]; exact e9) (by rw [r10]; exact e10)
  rw [r6, r10] at h
  exact h
theorem si193 : SortedI Tryz.prog 67 193 := by
  have e9 : ∀ args w, (callFunc 108 args).run Tryz.prog w = .ok (.enter 108 args) w := enters_of Tryz.func108 (by kernel_rfl) rfl
  have e10 : ∀ args w, (callFunc 193 args).run Tryz.prog w = .ok (.enter 193 args) w := enters_of Tryz.func193 (by kernel_rfl) rfl
  have r6 : Tryz.sorted67_ren.f 6 = 67 := by kernel_rfl
  have r9 : Tryz.sorted67_ren.f 9 = 108 := by kernel_rfl
  have r10 : Tryz.keys193_ren.f 10 = 193 := by kernel_rfl
  have h := sortedI_of Tryz.sorted67 Tryz.keys193 (sorts67 _) (by rw [r9]; exact e9) (by rw [r10]; exact e10)
  rw [r6, r10] at h
  exact h
theorem sl139 : SortedL Tryz.prog 97 139 := by
  have e9 : ∀ args w, (callFunc 138 args).run Tryz.prog w = .ok (.enter 138 args) w := enters_of Tryz.func138 (by kernel_rfl) rfl
  have e10 : ∀ args w, (callFunc 139 args).run Tryz.prog w = .ok (.enter 139 args) w := enters_of Tryz.func139 (by kernel_rfl) rfl
  have r6 : Tryz.sorted97_ren.f 6 = 97 := by kernel_rfl
  have r9 : Tryz.sorted97_ren.f 9 = 138 := by kernel_rfl
  have r10 : Tryz.keys139_ren.f 10 = 139 := by kernel_rfl
  have h := sortedL_of Tryz.sorted97 Tryz.keys139 (sorts97 _) (by rw [r9]; exact e9) (by rw [r10]; exact e10)
  rw [r6, r10] at h
  exact h
theorem sl140 : SortedL Tryz.prog 97 140 := by
  have e9 : ∀ args w, (callFunc 138 args).run Tryz.prog w = .ok (.enter 138 args) w := enters_of Tryz.func138 (by kernel_rfl) rfl
  have e10 : ∀ args w, (callFunc 140 args).run Tryz.prog w = .ok (.enter 140 args) w := enters_of Tryz.func140 (by kernel_rfl) rfl
  have r6 : Tryz.sorted97_ren.f 6 = 97 := by kernel_rfl
  have r9 : Tryz.sorted97_ren.f 9 = 138 := by kernel_rfl
  have r10 : Tryz.keys140_ren.f 10 = 140 := by kernel_rfl
  have h := sortedL_of Tryz.sorted97 Tryz.keys140 (sorts97 _) (by rw [r9]; exact e9) (by rw [r10]; exact e10)
  rw [r6, r10] at h
  exact h
theorem sl194 : SortedL Tryz.prog 97 194 := by
  have e9 : ∀ args w, (callFunc 138 args).run Tryz.prog w = .ok (.enter 138 args) w := enters_of Tryz.func138 (by kernel_rfl) rfl
  have e10 : ∀ args w, (callFunc 194 args).run Tryz.prog w = .ok (.enter 194 args) w := enters_of Tryz.func194 (by kernel_rfl) rfl
  have r6 : Tryz.sorted97_ren.f 6 = 97 := by kernel_rfl
  have r9 : Tryz.sorted97_ren.f 9 = 138 := by kernel_rfl
  have r10 : Tryz.keys194_ren.f 10 = 194 := by kernel_rfl
  have h := sortedL_of Tryz.sorted97 Tryz.keys194 (sorts97 _) (by rw [r9]; exact e9) (by rw [r10]; exact e10)
  rw [r6, r10] at h
  exact h
theorem s111 : SummSound Tryz.prog 111 mapClone := mapClone_sound Tryz.func111 (by kernel_rfl) rfl (AnyW.maps_Clone Tryz.clone111) (AnyW.maps_Clone_nil Tryz.clone111)
theorem s108 : SummSound Tryz.prog 108 sortSI := sortSI_sound Tryz.func108 (by kernel_rfl) rfl (fun blk off cap zs w => AnyM.slices_Sort_int Tryz.sort108 blk off cap zs w) (AnyM.slices_Sort_int_none Tryz.sort108)
theorem s67 : SummSound Tryz.prog 67 (sortedI2 [109, 193]) := sortedI2_sound Tryz.func67 (by kernel_rfl) rfl (by
  intro g hg
  simp only [List.mem_cons, List.not_mem_nil, or_false] at hg
  rcases hg with rfl | rfl
  · exact si109
  · exact si193)
theorem s97 : SummSound Tryz.prog 97 (sortedL2 [139, 140, 194]) := sortedL2_sound Tryz.func97 (by kernel_rfl) rfl (by
  intro g hg
  simp only [List.mem_cons, List.not_mem_nil, or_false] at hg
  rcases hg with rfl | rfl | rfl
  · exact sl139
  · exact sl140
  · exact sl194)
theorem s74 : SummSound Tryz.prog 74 treeClone2 := clone_sound mixedT Tryz.func74 (by kernel_rfl) (fc := 111) (by kernel_rfl) s111
theorem s113 : SummSound Tryz.prog 113 treeUsed2 := used_sound mixedT Tryz.func113 (by kernel_rfl) (by kernel_rfl)
theorem s127 : SummSound Tryz.prog 127 treeLoose2 := loose_sound mixedT Tryz.func127 (by kernel_rfl) (fc := 108) (by kernel_rfl) s108
theorem s226 : SummSound Tryz.prog 226 countS := countS_sound Tryz.func226 (by kernel_rfl) (by kernel_rfl) (by kernel_rfl) (by kernel_rfl)
theorem s238 : SummSound Tryz.prog 238 indexB := indexB_sound Tryz.func238 (by kernel_rfl) (by kernel_rfl) (by kernel_rfl) (by kernel_rfl)
end Go.AX

set_option maxRecDepth 100000
namespace Go.AX
open Go Go.Proofs
theorem glob3 : Tryz.prog.globals.size = 3 := by kernel_rfl
theorem meths_ok : methsA.all (fun e => methIs Tryz.prog e.1 e.2.1 e.2.2) = true := by kernel_rfl
theorem summT_ok : AllT summT fun p sm => SummSound Tryz.prog p.toNat sm := ⟨⟨⟨⟨⟨⟨⟨⟨trivial, some_all s127, trivial⟩, none_all, trivial⟩, none_all, trivial⟩, none_all, trivial⟩, none_all, trivial⟩, none_all, ⟨⟨⟨⟨trivial, some_all s67, trivial⟩, none_all, trivial⟩, none_all, trivial⟩, none_all, trivial⟩⟩, none_all, ⟨⟨⟨trivial, none_all, ⟨trivial, none_all, ⟨trivial, some_all s113, trivial⟩⟩⟩, none_all, trivial⟩, none_all, trivial⟩⟩, none_all, ⟨trivial, none_all, ⟨⟨⟨⟨trivial, none_all, ⟨trivial, none_all, ⟨trivial, some_all s226, trivial⟩⟩⟩, none_all, trivial⟩, none_all, ⟨⟨⟨trivial, some_all s74, trivial⟩, none_all, trivial⟩, none_all, trivial⟩⟩, none_all, ⟨trivial, none_all, ⟨⟨trivial, none_all, ⟨trivial, none_all, ⟨trivial, some_all s238, trivial⟩⟩⟩, none_all, trivial⟩⟩⟩⟩⟩
theorem cfgA_ok : CfgOk Tryz.prog cfgA := ⟨mixedT, code_of codeT_ok, methL_ok meths_ok rfl, summ_of summT_ok⟩
end Go.AX
