/- Part of a proof: a checked executor for the model, its proof of soundness, tables and kernel runs. No condition of its own. -/
import Derived.Test.YtfelnhemmccjmaaGreatDoorQTab
import Derived.KernelRfl
set_option autoImplicit false
set_option linter.unusedSimpArgs false
set_option linter.unusedVariables false
set_option maxRecDepth 100000
namespace Go.AX
open Go
def open17V : V := (.tup [(.c (.ptr 1621 0)), (.c (.ptr 1644 0))])
def open17N : Nat := 1852
def open17K : List (Nat × Go.AX.Obj) := [(3, (.cells 51200 (.int .u8 0) (.n 64 [(.int .u8 1), (.int .u8 1), (.int .u8 0), (.int .u8 0), (.int .u8 0), (.int .u8 200), (.int .u8 185), (.int .u8 254), (.int .u8 67), (.int .u8 0), (.int .u8 0), (.int .u8 0), (.int .u8 0), (.int .u8 0), (.int .u8 0), (.int .u8 0), (.int .u8 0), (.int .u8 0), (.int .u8 0), (.int .u8 0), (.int .u8 0), (.int .u8 0), (.int .u8 0), (.int .u8 0), (.int .u8 0), (.int .u8 0), (.int .u8 0), (.int .u8 0), (.int .u8 0), (.int .u8 0), (.int .u8 0), (.int .u8 0), (.int .u8 0), (.int .u8 0), (.int .u8 0), (.int .u8 0), (.int .u8 0), (.int .u8 0), (.int .u8 0), (.int .u8 0), (.int .u8 0), (.int .u8 0), (.int .u8 0), (.int .u8 0), (.int .u8 0), (.int .u8 0), (.int .u8 0), (.int .u8 0), (.int .u8 0), (.int .u8 0), (.int .u8 0), (.int .u8 0), (.int .u8 0), (.int .u8 0), (.int .u8 0), (.int .u8 0), (.int .u8 0), (.int .u8 0), (.int .u8 0), (.int .u8 0), (.int .u8 0), (.int .u8 0), (.int .u8 0), (.int .u8 0)] (.n 25536 [(.int .u8 2), (.int .u8 91), (.int .u8 0), (.int .u8 0), (.int .u8 0), (.int .u8 0), (.int .u8 0), (.int .u8 0), (.int .u8 0), (.int .u8 1), (.int .u8 0), (.int .u8 0), (.int .u8 0), (.int .u8 80), (.int .u8 171), (.int .u8 3), (.int .u8 5), (.int .u8 2), (.int .u8 2), (.int .u8 0), (.int .u8 0), (.int .u8 0), (.int .u8 2), (.int .u8 0), (.int .u8 0), (.int .u8 0), (.int .u8 47), (.int .u8 97), (.int .u8 0), (.int .u8 0), (.int .u8 0), (.int .u8 0), (.int .u8 0), (.int .u8 0), (.int .u8 0), (.int .u8 0), (.int .u8 2), (.int .u8 0), (.int .u8 0), (.int .u8 0), (.int .u8 2), (.int .u8 0), (.int .u8 0), (.int .u8 0), (.int .u8 47), (.int .u8 98), (.int .u8 0), (.int .u8 0), (.int .u8 0), (.int .u8 0), (.int .u8 0), (.int .u8 0), (.int .u8 0), (.int .u8 0), (.int .u8 2), (.int .u8 0), (.int .u8 0), (.int .u8 0), (.int .u8 2), (.int .u8 0), (.int .u8 0), (.int .u8 0), (.int .u8 47), (.int .u8 99), (.int .u8 3), (.int .u8 0), (.int .u8 0), (.int .u8 0), (.int .u8 0), (.int .u8 0), (.int .u8 0), (.int .u8 0), (.int .u8 0), (.int .u8 2), (.int .u8 0), (.int .u8 0), (.int .u8 0), (.int .u8 2), (.int .u8 0), (.int .u8 0), (.int .u8 0), (.int .u8 47), (.int .u8 100), (.int .u8 0), (.int .u8 0), (.int .u8 0), (.int .u8 0), (.int .u8 0), (.int .u8 0), (.int .u8 0), (.int .u8 0), (.int .u8 2), (.int .u8 0), (.int .u8 0), (.int .u8 0), (.int .u8 2), (.int .u8 0), (.int .u8 0), (.int .u8 0), (.int .u8 47), (.int .u8 101), (.int .u8 0), (.int .u8 0), (.int .u8 0), (.int .u8 0), (.int .u8 0), (.int .u8 0), (.int .u8 0), (.int .u8 0), (.int .u8 0), (.int .u8 0), (.int .u8 0), (.int .u8 0), (.int .u8 0), (.int .u8 0), (.int .u8 0), (.int .u8 0), (.int .u8 0), (.int .u8 0), (.int .u8 0), (.int .u8 0), (.int .u8 0), (.int .u8 0), (.int .u8 0), (.int .u8 0), (.int .u8 0), (.int .u8 0), (.int .u8 0)] .e)) false)),
 (4, (.cells 6 .nilp (.n 0 [(.slice 3 0 800 800 64 true), .nils, (.bool false), (.int .i64 (-1)), (.int .u64 0), (.int .i64 6)] .e) false)),
 (5, (.cells 7 .nilp (.n 0 [(.ptr 4 0), (.int .i64 1), (.int .i64 1), (.int .i64 1), (.int .i64 2), (.slice 1849 0 1 1 1 false), (.bool false)] .e) false)),
 (1620, (.map [])),
 (1621, (.cells 5 .nilp (.n 0 [(.ptr 1713 0), (.ptr 5 0), (.int .i64 3000), (.map 1620), (.bool false)] .e) false)),
 (1634, (.map [])),
 (1635, (.cells 3 .nilp (.n 0 [(.iface 24 (.ptr 1621 0)), (.map 1634), (.int .i64 1)] .e) false)),
 (1643, (.map [])),
 (1644, (.cells 4 .nilp (.n 0 [(.ptr 1635 0), (.ptr 1652 0), (.map 1643), .nils] .e) false)),
 (1650, (.map [((.str [117]), (.agg [(.str [117]), (.slice 1659 0 1 1 1 false), .nils, .nils, .nils, .nils, .nils, (.int .i64 0)])), ((.str [118]), (.agg [(.str [118]), (.slice 1666 0 2 2 1 false), .nils, .nils, .nils, .nils, .nils, (.int .i64 0)])), ((.str [119]), (.agg [(.str [119]), (.slice 1673 0 3 3 1 false), .nils, .nils, .nils, .nils, .nils, (.int .i64 0)])), ((.str [120]), (.agg [(.str [120]), (.slice 1680 0 1 1 1 false), .nils, .nils, .nils, .nils, .nils, (.int .i64 0)]))])),
 (1651, (.map [])),
 (1652, (.cells 3 .nilp (.n 0 [(.map 1650), (.map 1651), (.slice 1711 0 4 4 1 false)] .e) false)),
 (1659, (.cells 1 .nilp (.n 0 [(.str [47, 97])] .e) false)),
 (1666, (.cells 2 .nilp (.n 0 [(.str [47, 98]), (.str [47, 99])] .e) false)),
 (1673, (.cells 3 .nilp (.n 0 [(.str [47, 97]), (.str [47, 99]), (.str [47, 100])] .e) false)),
 (1680, (.cells 1 .nilp (.n 0 [(.str [47, 100])] .e) false)),
 (1711, (.cells 4 .nilp (.n 0 [(.str [117]), (.str [118]), (.str [119]), (.str [120])] .e) true)),
 (1713, (.cells 3 .nilp (.n 0 [(.map 1717), (.int .i64 7), (.int .i64 3000)] .e) false)),
 (1717, (.map [((.int .i64 1), (.c (.ptr 1721 0))), ((.int .i64 2), (.c (.ptr 1726 0))), ((.int .i64 3), (.c (.ptr 1731 0))), ((.int .i64 4), (.c (.ptr 1736 0))), ((.int .i64 5), (.c (.ptr 1741 0))), ((.int .i64 6), (.c (.ptr 1746 0)))])),
 (1720, (.map [((.str [97]), (.c (.int .i64 2))), ((.str [98]), (.c (.int .i64 3))), ((.str [99]), (.c (.int .i64 4))), ((.str [100]), (.c (.int .i64 5))), ((.str [101]), (.c (.int .i64 6)))])),
 (1721, (.cells 4 .nilp (.n 0 [(.bool true), (.int .i64 1), .nils, (.map 1720)] .e) false)),
 (1726, (.cells 4 .nilp (.n 0 [(.bool false), (.int .i64 1), .nils, .nilm] .e) false)),
 (1731, (.cells 4 .nilp (.n 0 [(.bool false), (.int .i64 1), .nils, .nilm] .e) false)),
 (1736, (.cells 4 .nilp (.n 0 [(.bool false), (.int .i64 1), .nils, .nilm] .e) false)),
 (1741, (.cells 4 .nilp (.n 0 [(.bool false), (.int .i64 1), .nils, .nilm] .e) false)),
 (1746, (.cells 4 .nilp (.n 0 [(.bool false), (.int .i64 1), .nils, .nilm] .e) false)),
 (1847, (.cells 91 .nilp (.n 0 [(.int .u8 2), (.int .u8 2), (.int .u8 0), (.int .u8 0), (.int .u8 0), (.int .u8 2), (.int .u8 0), (.int .u8 0), (.int .u8 0), (.int .u8 47), (.int .u8 97), (.int .u8 0), (.int .u8 0), (.int .u8 0), (.int .u8 0), (.int .u8 0), (.int .u8 0), (.int .u8 0), (.int .u8 0), (.int .u8 2), (.int .u8 0), (.int .u8 0), (.int .u8 0), (.int .u8 2), (.int .u8 0), (.int .u8 0), (.int .u8 0), (.int .u8 47), (.int .u8 98), (.int .u8 0), (.int .u8 0), (.int .u8 0), (.int .u8 0), (.int .u8 0), (.int .u8 0), (.int .u8 0), (.int .u8 0), (.int .u8 2), (.int .u8 0), (.int .u8 0), (.int .u8 0), (.int .u8 2), (.int .u8 0), (.int .u8 0), (.int .u8 0), (.int .u8 47), (.int .u8 99), (.int .u8 0), (.int .u8 0), (.int .u8 0), (.int .u8 0), (.int .u8 0), (.int .u8 0), (.int .u8 0), (.int .u8 0), (.int .u8 2), (.int .u8 0), (.int .u8 0), (.int .u8 0), (.int .u8 2), (.int .u8 0), (.int .u8 0), (.int .u8 0), (.int .u8 47), (.int .u8 100), (.int .u8 0), (.int .u8 0), (.int .u8 0), (.int .u8 0), (.int .u8 0), (.int .u8 0), (.int .u8 0), (.int .u8 0), (.int .u8 2), (.int .u8 0), (.int .u8 0), (.int .u8 0), (.int .u8 2), (.int .u8 0), (.int .u8 0), (.int .u8 0), (.int .u8 47), (.int .u8 101), (.int .u8 0), (.int .u8 0), (.int .u8 0), (.int .u8 0), (.int .u8 0), (.int .u8 0), (.int .u8 0), (.int .u8 0)] .e) false)),
 (1849, (.cells 1 .nilp (.n 0 [(.slice 1847 0 91 91 1 false)] .e) false))]
theorem open17_ok : closedOk 3 (callQ cfgA 3000 29 [] ⟨.e, 3⟩) open17V open17N open17K = true := by kernel_rfl
end Go.AX
