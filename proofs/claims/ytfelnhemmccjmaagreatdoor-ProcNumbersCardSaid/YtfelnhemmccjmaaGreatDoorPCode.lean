/- Part of a proof: a checked executor for the model, its proof of soundness, tables and kernel runs. No condition of its own. -/
import Derived.Test.YtfelnhemmccjmaaGreatDoorBxC
import Derived.KernelRfl
set_option autoImplicit false
set_option linter.unusedSimpArgs false
set_option linter.unusedVariables false
set_option maxRecDepth 100000
namespace Go.AX
def p0 : Pos := .h
def p1 : Pos := (.o .h)
def p2 : Pos := (.i .h)
def p3 : Pos := (.o (.o .h))
def p4 : Pos := (.i (.o .h))
def p5 : Pos := (.o (.i .h))
def p6 : Pos := (.i (.i .h))
def p7 : Pos := (.o (.o (.o .h)))
def p8 : Pos := (.i (.o (.o .h)))
def p9 : Pos := (.o (.i (.o .h)))
def p10 : Pos := (.i (.i (.o .h)))
def p11 : Pos := (.o (.o (.i .h)))
def p12 : Pos := (.i (.o (.i .h)))
def p13 : Pos := (.o (.i (.i .h)))
def p14 : Pos := (.i (.i (.i .h)))
def p15 : Pos := (.o (.o (.o (.o .h))))
def p16 : Pos := (.i (.o (.o (.o .h))))
def p17 : Pos := (.o (.i (.o (.o .h))))
def p18 : Pos := (.i (.i (.o (.o .h))))
def p19 : Pos := (.o (.o (.i (.o .h))))
def p20 : Pos := (.i (.o (.i (.o .h))))
def p21 : Pos := (.o (.i (.i (.o .h))))
def p22 : Pos := (.i (.i (.i (.o .h))))
def p23 : Pos := (.o (.o (.o (.i .h))))
def p24 : Pos := (.i (.o (.o (.i .h))))
def p25 : Pos := (.o (.i (.o (.i .h))))
def p26 : Pos := (.i (.i (.o (.i .h))))
def p27 : Pos := (.o (.o (.i (.i .h))))
def p28 : Pos := (.i (.o (.i (.i .h))))
def p29 : Pos := (.o (.i (.i (.i .h))))
def p30 : Pos := (.i (.i (.i (.i .h))))
def p31 : Pos := (.o (.o (.o (.o (.o .h)))))
def p32 : Pos := (.i (.o (.o (.o (.o .h)))))
def p33 : Pos := (.o (.i (.o (.o (.o .h)))))
def p34 : Pos := (.i (.i (.o (.o (.o .h)))))
def p35 : Pos := (.o (.o (.i (.o (.o .h)))))
def p36 : Pos := (.i (.o (.i (.o (.o .h)))))
def p37 : Pos := (.o (.i (.i (.o (.o .h)))))
def p38 : Pos := (.i (.i (.i (.o (.o .h)))))
def p39 : Pos := (.o (.o (.o (.i (.o .h)))))
def p40 : Pos := (.i (.o (.o (.i (.o .h)))))
def p41 : Pos := (.o (.i (.o (.i (.o .h)))))
def p42 : Pos := (.i (.i (.o (.i (.o .h)))))
def p43 : Pos := (.o (.o (.i (.i (.o .h)))))
def p44 : Pos := (.i (.o (.i (.i (.o .h)))))
def p45 : Pos := (.o (.i (.i (.i (.o .h)))))
def p46 : Pos := (.i (.i (.i (.i (.o .h)))))
def p47 : Pos := (.o (.o (.o (.o (.i .h)))))
def p48 : Pos := (.i (.o (.o (.o (.i .h)))))
def p49 : Pos := (.o (.i (.o (.o (.i .h)))))
def p50 : Pos := (.i (.i (.o (.o (.i .h)))))
def p51 : Pos := (.o (.o (.i (.o (.i .h)))))
def p52 : Pos := (.i (.o (.i (.o (.i .h)))))
def p53 : Pos := (.o (.i (.i (.o (.i .h)))))
def p54 : Pos := (.i (.i (.i (.o (.i .h)))))
def p55 : Pos := (.o (.o (.o (.i (.i .h)))))
def p56 : Pos := (.i (.o (.o (.i (.i .h)))))
def p57 : Pos := (.o (.i (.o (.i (.i .h)))))
def p58 : Pos := (.i (.i (.o (.i (.i .h)))))
def p59 : Pos := (.o (.o (.i (.i (.i .h)))))
def p60 : Pos := (.i (.o (.i (.i (.i .h)))))
def p61 : Pos := (.o (.i (.i (.i (.i .h)))))
def p62 : Pos := (.i (.i (.i (.i (.i .h)))))
def p63 : Pos := (.o (.o (.o (.o (.o (.o .h))))))
def p64 : Pos := (.i (.o (.o (.o (.o (.o .h))))))
def p65 : Pos := (.o (.i (.o (.o (.o (.o .h))))))
def p66 : Pos := (.i (.i (.o (.o (.o (.o .h))))))
def p67 : Pos := (.o (.o (.i (.o (.o (.o .h))))))
def p68 : Pos := (.i (.o (.i (.o (.o (.o .h))))))
def p69 : Pos := (.o (.i (.i (.o (.o (.o .h))))))
def p70 : Pos := (.i (.i (.i (.o (.o (.o .h))))))
def p71 : Pos := (.o (.o (.o (.i (.o (.o .h))))))
def p72 : Pos := (.i (.o (.o (.i (.o (.o .h))))))
def p73 : Pos := (.o (.i (.o (.i (.o (.o .h))))))
def p74 : Pos := (.i (.i (.o (.i (.o (.o .h))))))
def p75 : Pos := (.o (.o (.i (.i (.o (.o .h))))))
def p76 : Pos := (.i (.o (.i (.i (.o (.o .h))))))
def p77 : Pos := (.o (.i (.i (.i (.o (.o .h))))))
def p78 : Pos := (.i (.i (.i (.i (.o (.o .h))))))
def p79 : Pos := (.o (.o (.o (.o (.i (.o .h))))))
def p80 : Pos := (.i (.o (.o (.o (.i (.o .h))))))
def p81 : Pos := (.o (.i (.o (.o (.i (.o .h))))))
def p82 : Pos := (.i (.i (.o (.o (.i (.o .h))))))
def p83 : Pos := (.o (.o (.i (.o (.i (.o .h))))))
def p84 : Pos := (.i (.o (.i (.o (.i (.o .h))))))
def p85 : Pos := (.o (.i (.i (.o (.i (.o .h))))))
def p86 : Pos := (.i (.i (.i (.o (.i (.o .h))))))
def p87 : Pos := (.o (.o (.o (.i (.i (.o .h))))))
def p88 : Pos := (.i (.o (.o (.i (.i (.o .h))))))
def p89 : Pos := (.o (.i (.o (.i (.i (.o .h))))))
def p90 : Pos := (.i (.i (.o (.i (.i (.o .h))))))
def p91 : Pos := (.o (.o (.i (.i (.i (.o .h))))))
def p92 : Pos := (.i (.o (.i (.i (.i (.o .h))))))
def p93 : Pos := (.o (.i (.i (.i (.i (.o .h))))))
def p94 : Pos := (.i (.i (.i (.i (.i (.o .h))))))
def p95 : Pos := (.o (.o (.o (.o (.o (.i .h))))))
def p96 : Pos := (.i (.o (.o (.o (.o (.i .h))))))
def p97 : Pos := (.o (.i (.o (.o (.o (.i .h))))))
def p98 : Pos := (.i (.i (.o (.o (.o (.i .h))))))
def p99 : Pos := (.o (.o (.i (.o (.o (.i .h))))))
def p100 : Pos := (.i (.o (.i (.o (.o (.i .h))))))
def p101 : Pos := (.o (.i (.i (.o (.o (.i .h))))))
def p102 : Pos := (.i (.i (.i (.o (.o (.i .h))))))
def p103 : Pos := (.o (.o (.o (.i (.o (.i .h))))))
def p104 : Pos := (.i (.o (.o (.i (.o (.i .h))))))
def p105 : Pos := (.o (.i (.o (.i (.o (.i .h))))))
def p106 : Pos := (.i (.i (.o (.i (.o (.i .h))))))
def p107 : Pos := (.o (.o (.i (.i (.o (.i .h))))))
def p108 : Pos := (.i (.o (.i (.i (.o (.i .h))))))
def p109 : Pos := (.o (.i (.i (.i (.o (.i .h))))))
def p110 : Pos := (.i (.i (.i (.i (.o (.i .h))))))
def p111 : Pos := (.o (.o (.o (.o (.i (.i .h))))))
def p112 : Pos := (.i (.o (.o (.o (.i (.i .h))))))
def p113 : Pos := (.o (.i (.o (.o (.i (.i .h))))))
def p114 : Pos := (.i (.i (.o (.o (.i (.i .h))))))
def p115 : Pos := (.o (.o (.i (.o (.i (.i .h))))))
def p116 : Pos := (.i (.o (.i (.o (.i (.i .h))))))
def p117 : Pos := (.o (.i (.i (.o (.i (.i .h))))))
def p118 : Pos := (.i (.i (.i (.o (.i (.i .h))))))
def p119 : Pos := (.o (.o (.o (.i (.i (.i .h))))))
def p120 : Pos := (.i (.o (.o (.i (.i (.i .h))))))
def p121 : Pos := (.o (.i (.o (.i (.i (.i .h))))))
def p122 : Pos := (.i (.i (.o (.i (.i (.i .h))))))
def p123 : Pos := (.o (.o (.i (.i (.i (.i .h))))))
def p124 : Pos := (.i (.o (.i (.i (.i (.i .h))))))
def p125 : Pos := (.o (.i (.i (.i (.i (.i .h))))))
def p126 : Pos := (.i (.i (.i (.i (.i (.i .h))))))
def p127 : Pos := (.o (.o (.o (.o (.o (.o (.o .h)))))))
def p128 : Pos := (.i (.o (.o (.o (.o (.o (.o .h)))))))
def p129 : Pos := (.o (.i (.o (.o (.o (.o (.o .h)))))))
def p130 : Pos := (.i (.i (.o (.o (.o (.o (.o .h)))))))
def p131 : Pos := (.o (.o (.i (.o (.o (.o (.o .h)))))))
def p132 : Pos := (.i (.o (.i (.o (.o (.o (.o .h)))))))
def p133 : Pos := (.o (.i (.i (.o (.o (.o (.o .h)))))))
def p134 : Pos := (.i (.i (.i (.o (.o (.o (.o .h)))))))
def p135 : Pos := (.o (.o (.o (.i (.o (.o (.o .h)))))))
def p136 : Pos := (.i (.o (.o (.i (.o (.o (.o .h)))))))
def p137 : Pos := (.o (.i (.o (.i (.o (.o (.o .h)))))))
def p138 : Pos := (.i (.i (.o (.i (.o (.o (.o .h)))))))
def p139 : Pos := (.o (.o (.i (.i (.o (.o (.o .h)))))))
def p140 : Pos := (.i (.o (.i (.i (.o (.o (.o .h)))))))
def p141 : Pos := (.o (.i (.i (.i (.o (.o (.o .h)))))))
def p142 : Pos := (.i (.i (.i (.i (.o (.o (.o .h)))))))
def p143 : Pos := (.o (.o (.o (.o (.i (.o (.o .h)))))))
def p144 : Pos := (.i (.o (.o (.o (.i (.o (.o .h)))))))
def p145 : Pos := (.o (.i (.o (.o (.i (.o (.o .h)))))))
def p146 : Pos := (.i (.i (.o (.o (.i (.o (.o .h)))))))
def p147 : Pos := (.o (.o (.i (.o (.i (.o (.o .h)))))))
def p148 : Pos := (.i (.o (.i (.o (.i (.o (.o .h)))))))
def p149 : Pos := (.o (.i (.i (.o (.i (.o (.o .h)))))))
def p150 : Pos := (.i (.i (.i (.o (.i (.o (.o .h)))))))
def p151 : Pos := (.o (.o (.o (.i (.i (.o (.o .h)))))))
def p152 : Pos := (.i (.o (.o (.i (.i (.o (.o .h)))))))
def p153 : Pos := (.o (.i (.o (.i (.i (.o (.o .h)))))))
def p154 : Pos := (.i (.i (.o (.i (.i (.o (.o .h)))))))
def p155 : Pos := (.o (.o (.i (.i (.i (.o (.o .h)))))))
def p156 : Pos := (.i (.o (.i (.i (.i (.o (.o .h)))))))
end Go.AX

set_option maxRecDepth 100000
namespace Go.AX
open Go
/-- farrier/farrierlaw08.ProcNumbers -/
def c3 : IFunc := ⟨[p0],
 (.seq (.reg [⟨(some p2), none, (.mov (.k (.c (.bool false))))⟩])
 (.seq (.seq (.reg [⟨(some p11), none, (.call 10 [])⟩, ⟨(some p12), none, (.not (.t p11))⟩])
 (.cond (.t p12) (.seq (.reg [⟨(some p2), none, (.mov (.k (.c (.bool false))))⟩])
 .ret) .skip))
 (.seq (.seq (.reg [⟨(some p13), none, (.mov (.t p0))⟩, ⟨(some p14), none, (.len .slice (.t p13))⟩, ⟨(some p15), none, (.bin .gtr .num (.t p14) (.k (.c (.int .i64 100))))⟩])
 (.cond (.t p15) (.seq (.reg [⟨(some p2), none, (.mov (.k (.c (.bool true))))⟩])
 .ret) .skip))
 (.seq (.reg [⟨(some p16), none, (.call 11 [])⟩, ⟨(some p3), none, (.mov (.t p16))⟩])
 (.seq (.reg [⟨(some p17), none, (.mov (.t p3))⟩, ⟨(some p18), none, (.mkif 24 (.t p17))⟩, ⟨(some p19), none, (.call 12 [(.t p18)])⟩, ⟨(some p4), none, (.mov (.t p19))⟩])
 (.seq (.reg [⟨(some p5), none, (.mov (.k (.c (.int .i64 0))))⟩])
 (.seq (.seq (.reg [⟨(some p20), none, (.mov (.t p0))⟩, ⟨(some p21), none, (.len .slice (.t p20))⟩, ⟨(some p22), none, (.mov (.k (.c (.int .i64 0))))⟩])
 (.block 0 (.loop (.seq (.reg [⟨(some p23), none, (.bin .lss .num (.t p22) (.t p21))⟩])
 (.seq (.cond (.t p23) .skip (.exit 0))
 (.seq (.block 1 (.seq (.reg [⟨(some p24), none, (.iaddrV 4 (.t p20) (.t p22))⟩, ⟨(some p25), none, (.loadN 4 (.t p24))⟩, ⟨(some p7), none, (.alloc [(.int .i64 0), (.int .i64 0), (.int .i64 0), .nils])⟩, ⟨none, none, (.store 4 (.t p7) (.t p25))⟩])
 (.seq (.reg [⟨(some p26), none, (.faddr 0 (.t p7))⟩, ⟨(some p27), none, (.load1 (.t p26))⟩, ⟨(some p28), none, (.bin .and .num (.t p27) (.k (.c (.int .i64 3))))⟩])
 (.block 2 (.seq (.reg [⟨(some p56), none, (.bin .eql .num (.t p28) (.k (.c (.int .i64 0))))⟩, ⟨(some p55), none, (.mov (.t p56))⟩])
 (.cond (.t p55) (.reg [⟨(some p57), none, (.mov (.t p4))⟩, ⟨(some p58), none, (.faddr 1 (.t p7))⟩, ⟨(some p59), none, (.load1 (.t p58))⟩, ⟨(some p60), none, (.call 13 [(.t p57), (.t p59)])⟩]) (.seq (.reg [⟨(some p62), none, (.bin .eql .num (.t p28) (.k (.c (.int .i64 1))))⟩, ⟨(some p61), none, (.mov (.t p62))⟩])
 (.cond (.t p61) (.reg [⟨(some p63), none, (.mov (.t p4))⟩, ⟨(some p64), none, (.mov (.t p3))⟩, ⟨(some p65), none, (.mkif 24 (.t p64))⟩, ⟨(some p66), none, (.call 14 [(.t p63), (.t p65)])⟩]) (.seq (.reg [⟨(some p29), none, (.mov (.t p4))⟩, ⟨(some p30), none, (.call 15 [(.t p29)])⟩, ⟨(some p31), none, (.len .slice (.t p30))⟩, ⟨(some p8), none, (.mov (.t p31))⟩])
 (.seq (.reg [⟨(some p33), none, (.mov (.t p4))⟩, ⟨(some p34), none, (.call 16 [(.t p33), (.k (.c (.str [117]))), (.k (.c .nils))])⟩, ⟨(some p32), none, (.mov (.t p34))⟩, ⟨(some p35), none, (.ext (.t p32) 0)⟩, ⟨(some p36), none, (.ext (.t p32) 1)⟩, ⟨(some p9), none, (.mov (.t p35))⟩, ⟨(some p10), none, (.mov (.t p36))⟩])
 (.seq (.seq (.reg [⟨(some p37), none, (.mov (.t p10))⟩, ⟨(some p38), none, (.bin .eql .num (.t p37) (.k (.c (.int .i64 0))))⟩, ⟨(some p39), none, (.mov (.t p8))⟩, ⟨(some p40), none, (.bin .lss .num (.t p39) (.k (.c (.int .i64 32))))⟩, ⟨(some p41), none, (.bin .neq .bool (.t p38) (.t p40))⟩, ⟨(some p42), none, (.mov (.t p41))⟩, ⟨(some p43), (some (p42, false)), (.mov (.t p10))⟩, ⟨(some p44), (some (p42, false)), (.bin .eql .num (.t p43) (.k (.c (.int .i64 0))))⟩, ⟨(some p45), (some (p42, false)), (.mov (.t p44))⟩, ⟨(some p46), (some (p45, true)), (.mov (.t p9))⟩, ⟨(some p47), (some (p45, true)), (.mov (.t p5))⟩, ⟨(some p48), (some (p45, true)), (.bin .add .num (.t p47) (.k (.c (.int .i64 1))))⟩, ⟨(some p49), (some (p45, true)), (.bin .neq .num (.t p46) (.t p48))⟩, ⟨(some p50), (some (p42, false)), (.pick (.t p45) (.t p49) (.k (.c (.bool false))))⟩, ⟨(some p51), none, (.pick (.t p42) (.k (.c (.bool true))) (.t p50))⟩])
 (.cond (.t p51) (.seq (.reg [⟨(some p2), none, (.mov (.k (.c (.bool false))))⟩])
 .ret) .skip))
 (.seq (.reg [⟨(some p52), none, (.mov (.t p10))⟩, ⟨(some p53), none, (.bin .eql .num (.t p52) (.k (.c (.int .i64 0))))⟩])
 (.cond (.t p53) (.reg [⟨(some p54), none, (.mov (.t p9))⟩, ⟨(some p5), none, (.mov (.t p54))⟩]) .skip)))))))))))))
 (.reg [⟨(some p67), none, (.bin .add .num (.t p22) (.k (.c (.int .i64 1))))⟩, ⟨(some p22), none, (.mov (.t p67))⟩])))))))
 (.seq (.reg [⟨(some p2), none, (.mov (.k (.c (.bool true))))⟩])
 .ret)))))))),
 [.t p2]⟩
/-- farrier/farrierlaw08.alive -/
def c10 : IFunc := ⟨[],
 (.seq (.reg [⟨(some p0), none, (.mov (.k (.c (.bool false))))⟩])
 (.seq (.reg [⟨(some p13), none, (.call 11 [])⟩, ⟨(some p1), none, (.mov (.t p13))⟩])
 (.seq (.seq (.reg [⟨(some p14), none, (.mov (.t p1))⟩, ⟨(some p15), none, (.bin .eql .ptr (.t p14) (.k (.c .nilp)))⟩])
 (.cond (.t p15) (.seq (.reg [⟨(some p0), none, (.mov (.k (.c (.bool false))))⟩])
 .ret) .skip))
 (.seq (.reg [⟨(some p16), none, (.mov (.t p1))⟩, ⟨(some p17), none, (.mkif 24 (.t p16))⟩, ⟨(some p18), none, (.call 12 [(.t p17)])⟩, ⟨(some p2), none, (.mov (.t p18))⟩])
 (.seq (.seq (.reg [⟨(some p19), none, (.mov (.t p2))⟩, ⟨(some p20), none, (.bin .eql .ptr (.t p19) (.k (.c .nilp)))⟩])
 (.cond (.t p20) (.seq (.reg [⟨(some p0), none, (.mov (.k (.c (.bool false))))⟩])
 .ret) .skip))
 (.seq (.reg [⟨(some p22), none, (.mov (.t p2))⟩, ⟨(some p23), none, (.bslice 2 1 [(.str []), (.str [])] [(0, 1, (.k (.c (.str [47, 97])))), (1, 1, (.k (.c (.str [47, 100, 47, 99]))))])⟩, ⟨(some p24), none, (.call 16 [(.t p22), (.k (.c (.str [117]))), (.t p23)])⟩, ⟨(some p21), none, (.mov (.t p24))⟩, ⟨(some p25), none, (.ext (.t p21) 0)⟩, ⟨(some p26), none, (.ext (.t p21) 1)⟩, ⟨(some p3), none, (.mov (.t p25))⟩, ⟨(some p4), none, (.mov (.t p26))⟩])
 (.seq (.reg [⟨(some p28), none, (.mov (.t p2))⟩, ⟨(some p29), none, (.bslice 2 1 [(.str []), (.str [])] [(0, 1, (.k (.c (.str [47, 97])))), (1, 1, (.k (.c (.str [47, 120]))))])⟩, ⟨(some p30), none, (.call 16 [(.t p28), (.k (.c (.str [117]))), (.t p29)])⟩, ⟨(some p27), none, (.mov (.t p30))⟩, ⟨(some p31), none, (.ext (.t p27) 0)⟩, ⟨(some p32), none, (.ext (.t p27) 1)⟩, ⟨(some p5), none, (.mov (.t p31))⟩, ⟨(some p6), none, (.mov (.t p32))⟩])
 (.seq (.reg [⟨(some p33), none, (.mov (.t p1))⟩, ⟨(some p34), none, (.call 62 [(.t p33), (.k (.c (.int .i64 2)))])⟩, ⟨(some p7), none, (.mov (.t p34))⟩])
 (.seq (.reg [⟨(some p35), none, (.mov (.t p2))⟩, ⟨(some p36), none, (.mov (.t p3))⟩, ⟨(some p37), none, (.call 23 [(.t p35), (.t p36)])⟩, ⟨(some p8), none, (.mov (.t p37))⟩])
 (.seq (.reg [⟨(some p39), none, (.mov (.t p2))⟩, ⟨(some p40), none, (.mov (.t p3))⟩, ⟨(some p41), none, (.call 63 [(.t p39), (.t p40)])⟩, ⟨(some p38), none, (.mov (.t p41))⟩, ⟨(some p42), none, (.ext (.t p38) 0)⟩, ⟨(some p43), none, (.ext (.t p38) 1)⟩, ⟨(some p9), none, (.alloc [(.int .i64 0), (.str []), .nils, (.bool false)])⟩, ⟨none, none, (.store 4 (.t p9) (.t p42))⟩, ⟨(some p10), none, (.mov (.t p43))⟩])
 (.seq (.reg [⟨(some p45), none, (.mov (.t p2))⟩, ⟨(some p46), none, (.mov (.t p3))⟩, ⟨(some p47), none, (.call 24 [(.t p45), (.t p46)])⟩, ⟨(some p44), none, (.mov (.t p47))⟩, ⟨(some p48), none, (.ext (.t p44) 0)⟩, ⟨(some p49), none, (.ext (.t p44) 1)⟩, ⟨(some p11), none, (.mov (.t p48))⟩, ⟨(some p12), none, (.mov (.t p49))⟩])
 (.seq (.reg [⟨(some p50), none, (.mov (.t p3))⟩, ⟨(some p51), none, (.bin .eql .num (.t p50) (.k (.c (.int .i64 1))))⟩, ⟨(some p52), none, (.mov (.t p51))⟩, ⟨(some p53), (some (p52, true)), (.mov (.t p4))⟩, ⟨(some p54), (some (p52, true)), (.bin .eql .num (.t p53) (.k (.c (.int .i64 0))))⟩, ⟨(some p55), none, (.pick (.t p52) (.t p54) (.k (.c (.bool false))))⟩, ⟨(some p56), none, (.mov (.t p55))⟩, ⟨(some p57), (some (p56, true)), (.mov (.t p6))⟩, ⟨(some p58), (some (p56, true)), (.bin .eql .num (.t p57) (.k (.c (.int .i64 8))))⟩, ⟨(some p59), none, (.pick (.t p56) (.t p58) (.k (.c (.bool false))))⟩, ⟨(some p60), none, (.mov (.t p59))⟩, ⟨(some p61), (some (p60, true)), (.mov (.t p7))⟩, ⟨(some p62), (some (p60, true)), (.bin .eql .num (.t p61) (.k (.c (.int .i64 1))))⟩, ⟨(some p63), none, (.pick (.t p60) (.t p62) (.k (.c (.bool false))))⟩, ⟨(some p64), none, (.mov (.t p63))⟩, ⟨(some p65), (some (p64, true)), (.mov (.t p8))⟩, ⟨(some p66), (some (p64, true)), (.bin .eql .num (.t p65) (.k (.c (.int .i64 0))))⟩, ⟨(some p67), none, (.pick (.t p64) (.t p66) (.k (.c (.bool false))))⟩, ⟨(some p68), none, (.mov (.t p67))⟩, ⟨(some p69), (some (p68, true)), (.mov (.t p10))⟩, ⟨(some p70), none, (.pick (.t p68) (.t p69) (.k (.c (.bool false))))⟩, ⟨(some p71), none, (.mov (.t p70))⟩, ⟨(some p72), (some (p71, true)), (.faddr 3 (.t p9))⟩, ⟨(some p73), (some (p71, true)), (.load1 (.t p72))⟩, ⟨(some p74), none, (.pick (.t p71) (.t p73) (.k (.c (.bool false))))⟩, ⟨(some p75), none, (.mov (.t p74))⟩, ⟨(some p76), (some (p75, true)), (.faddr 1 (.t p9))⟩, ⟨(some p77), (some (p75, true)), (.load1 (.t p76))⟩, ⟨(some p78), (some (p75, true)), (.bin .eql .num (.t p77) (.k (.c (.str [117]))))⟩, ⟨(some p79), none, (.pick (.t p75) (.t p78) (.k (.c (.bool false))))⟩, ⟨(some p80), none, (.mov (.t p79))⟩, ⟨(some p81), (some (p80, true)), (.faddr 2 (.t p9))⟩, ⟨(some p82), (some (p80, true)), (.load1 (.t p81))⟩, ⟨(some p83), (some (p80, true)), (.len .slice (.t p82))⟩, ⟨(some p84), (some (p80, true)), (.bin .eql .num (.t p83) (.k (.c (.int .i64 2))))⟩, ⟨(some p85), none, (.pick (.t p80) (.t p84) (.k (.c (.bool false))))⟩, ⟨(some p86), none, (.mov (.t p85))⟩, ⟨(some p87), (some (p86, true)), (.faddr 2 (.t p9))⟩, ⟨(some p88), (some (p86, true)), (.load1 (.t p87))⟩, ⟨(some p89), (some (p86, true)), (.iaddrV 1 (.t p88) (.k (.c (.int .i64 0))))⟩, ⟨(some p90), (some (p86, true)), (.load1 (.t p89))⟩, ⟨(some p91), (some (p86, true)), (.bin .eql .num (.t p90) (.k (.c (.int .i64 2))))⟩, ⟨(some p92), none, (.pick (.t p86) (.t p91) (.k (.c (.bool false))))⟩, ⟨(some p93), none, (.mov (.t p92))⟩, ⟨(some p94), (some (p93, true)), (.mov (.t p11))⟩, ⟨(some p95), none, (.pick (.t p93) (.t p94) (.k (.c (.bool false))))⟩, ⟨(some p96), none, (.mov (.t p95))⟩, ⟨(some p97), (some (p96, true)), (.mov (.t p12))⟩, ⟨(some p98), (some (p96, true)), (.bin .eql .num (.t p97) (.k (.c (.int .i64 0))))⟩, ⟨(some p99), none, (.pick (.t p96) (.t p98) (.k (.c (.bool false))))⟩, ⟨(some p100), none, (.mov (.t p99))⟩, ⟨(some p101), (some (p100, true)), (.mov (.t p2))⟩, ⟨(some p102), (some (p100, true)), (.call 15 [(.t p101)])⟩, ⟨(some p103), (some (p100, true)), (.len .slice (.t p102))⟩, ⟨(some p104), (some (p100, true)), (.bin .eql .num (.t p103) (.k (.c (.int .i64 0))))⟩, ⟨(some p105), none, (.pick (.t p100) (.t p104) (.k (.c (.bool false))))⟩, ⟨(some p106), none, (.mov (.t p105))⟩, ⟨(some p107), (some (p106, true)), (.mov (.t p1))⟩, ⟨(some p108), (some (p106, true)), (.call 62 [(.t p107), (.k (.c (.int .i64 2)))])⟩, ⟨(some p109), (some (p106, true)), (.bin .eql .num (.t p108) (.k (.c (.int .i64 0))))⟩, ⟨(some p110), none, (.pick (.t p106) (.t p109) (.k (.c (.bool false))))⟩, ⟨(some p0), none, (.mov (.t p110))⟩])
 .ret)))))))))))),
 [.t p0]⟩
/-- farrier/farrierlaw08.open -/
def c11 : IFunc := ⟨[],
 (.seq (.reg [⟨(some p0), none, (.mov (.k (.c .nilp)))⟩])
 (.seq (.reg [⟨(some p5), none, (.call 65 [(.k (.c (.int .i64 500)))])⟩, ⟨(some p6), none, (.call 64 [(.t p5), (.k (.c (.int .i64 2000)))])⟩, ⟨(some p4), none, (.mov (.t p6))⟩, ⟨(some p7), none, (.ext (.t p4) 0)⟩, ⟨(some p8), none, (.ext (.t p4) 1)⟩, ⟨(some p1), none, (.mov (.t p7))⟩, ⟨(some p2), none, (.mov (.t p8))⟩])
 (.seq (.seq (.reg [⟨(some p9), none, (.mov (.t p2))⟩, ⟨(some p10), none, (.bin .neq .num (.t p9) (.k (.c (.int .i64 0))))⟩, ⟨(some p11), none, (.mov (.t p10))⟩, ⟨(some p12), (some (p11, false)), (.mov (.t p1))⟩, ⟨(some p13), (some (p11, false)), (.bin .eql .ptr (.t p12) (.k (.c .nilp)))⟩, ⟨(some p14), none, (.pick (.t p11) (.k (.c (.bool true))) (.t p13))⟩, ⟨(some p15), none, (.mov (.t p14))⟩, ⟨(some p16), (some (p15, false)), (.mov (.t p1))⟩, ⟨(some p17), (some (p15, false)), (.nchk (.t p16))⟩, ⟨(some p18), (some (p15, false)), (.faddr 0 (.t p17))⟩, ⟨(some p19), (some (p15, false)), (.load1 (.t p18))⟩, ⟨(some p20), (some (p15, false)), (.bin .eql .ptr (.t p19) (.k (.c .nilp)))⟩, ⟨(some p21), none, (.pick (.t p15) (.k (.c (.bool true))) (.t p20))⟩])
 (.cond (.t p21) (.seq (.reg [⟨(some p0), none, (.mov (.k (.c .nilp)))⟩])
 .ret) .skip))
 (.seq (.reg [⟨(some p22), none, (.mov (.t p1))⟩, ⟨(some p23), none, (.bslice 1 1 [(.int .u8 0)] [(0, 1, (.k (.c (.int .u8 97))))])⟩, ⟨(some p24), none, (.cvMark (.t p23))⟩, ⟨(some p25), none, (.build [(.int .i64 0), (.str []), (.str []), .nils] [(0, 1, (.k (.c (.int .i64 2)))), (1, 1, (.k (.c (.str [47, 97])))), (3, 1, (.t p24))])⟩, ⟨(some p26), none, (.build [(.int .i64 0), (.str []), (.str []), .nils] [(0, 1, (.k (.c (.int .i64 2)))), (1, 1, (.k (.c (.str [47, 98]))))])⟩, ⟨(some p27), none, (.build [(.int .i64 0), (.str []), (.str []), .nils] [(0, 1, (.k (.c (.int .i64 0)))), (1, 1, (.k (.c (.str [47, 100]))))])⟩, ⟨(some p28), none, (.build [(.int .i64 0), (.str []), (.str []), .nils] [(0, 1, (.k (.c (.int .i64 2)))), (1, 1, (.k (.c (.str [47, 100, 47, 99]))))])⟩, ⟨(some p29), none, (.bslice 4 4 [(.int .i64 0), (.str []), (.str []), .nils, (.int .i64 0), (.str []), (.str []), .nils, (.int .i64 0), (.str []), (.str []), .nils, (.int .i64 0), (.str []), (.str []), .nils] [(0, 4, (.t p25)), (4, 4, (.t p26)), (8, 4, (.t p27)), (12, 4, (.t p28))])⟩, ⟨(some p30), none, (.call 26 [(.t p22), (.t p29)])⟩, ⟨(some p3), none, (.mov (.t p30))⟩])
 (.seq (.seq (.reg [⟨(some p31), none, (.mov (.t p3))⟩, ⟨(some p32), none, (.bin .neq .num (.t p31) (.k (.c (.int .i64 0))))⟩])
 (.cond (.t p32) (.seq (.reg [⟨(some p0), none, (.mov (.k (.c .nilp)))⟩])
 .ret) .skip))
 (.seq (.reg [⟨(some p33), none, (.mov (.t p1))⟩, ⟨(some p0), none, (.mov (.t p33))⟩])
 .ret)))))),
 [.t p0]⟩
/-- farrier/proc.New -/
def c12 : IFunc := ⟨[p0],
 (.seq (.reg [⟨(some p2), none, (.mov (.k (.c .nilp)))⟩])
 (.seq (.reg [⟨(some p3), none, (.mov (.t p0))⟩, ⟨(some p4), none, .mkmap⟩, ⟨(some p5), none, (.build [.nili, .nilm, (.int .i64 0)] [(0, 1, (.t p3)), (1, 1, (.t p4)), (2, 1, (.k (.c (.int .i64 1))))])⟩, ⟨(some p6), none, (.box (.t p5))⟩, ⟨(some p2), none, (.mov (.t p6))⟩])
 .ret)),
 [.t p2]⟩
/-- (*farrier/proc.Table).Exit -/
def c13 : IFunc := ⟨[p0, p1],
 (.seq (.reg [⟨(some p4), none, (.mov (.k (.c (.int .i64 0))))⟩])
 (.seq (.reg [⟨(some p6), none, (.mov (.t p0))⟩, ⟨(some p7), none, (.nchk (.t p6))⟩, ⟨(some p8), none, (.faddr 1 (.t p7))⟩, ⟨(some p9), none, (.load1 (.t p8))⟩, ⟨(some p10), none, (.mov (.t p1))⟩, ⟨(some p11), none, (.look true (.c .nilp) false (.t p9) (.t p10))⟩, ⟨(some p5), none, (.mov (.t p11))⟩])
 (.seq (.seq (.reg [⟨(some p12), none, (.mov (.t p5))⟩, ⟨(some p13), none, (.bin .eql .ptr (.t p12) (.k (.c .nilp)))⟩])
 (.cond (.t p13) (.seq (.reg [⟨(some p4), none, (.mov (.k (.c (.int .i64 8))))⟩])
 .ret) .skip))
 (.seq (.reg [⟨(some p14), none, (.mov (.t p0))⟩, ⟨(some p15), none, (.mov (.t p5))⟩, ⟨(some p16), none, (.call 66 [(.t p14), (.t p15)])⟩])
 (.seq (.reg [⟨(some p17), none, (.mov (.t p0))⟩, ⟨(some p18), none, (.nchk (.t p17))⟩, ⟨(some p19), none, (.faddr 1 (.t p18))⟩, ⟨(some p20), none, (.load1 (.t p19))⟩, ⟨(some p21), none, (.mov (.t p1))⟩, ⟨none, none, (.delete true (.t p20) (.t p21))⟩])
 (.seq (.reg [⟨(some p4), none, (.mov (.k (.c (.int .i64 0))))⟩])
 .ret)))))),
 [.t p4]⟩
/-- (*farrier/proc.Table).Reset -/
def c14 : IFunc := ⟨[p0, p1],
 (.reg [⟨(some p4), none, (.mov (.t p0))⟩, ⟨(some p5), none, (.mov (.t p0))⟩, ⟨(some p6), none, (.mov (.t p1))⟩, ⟨(some p7), none, .mkmap⟩, ⟨(some p8), none, (.nchk (.t p4))⟩, ⟨(some p9), none, (.faddr 0 (.t p8))⟩, ⟨none, none, (.store 1 (.t p9) (.t p6))⟩, ⟨(some p10), none, (.nchk (.t p5))⟩, ⟨(some p11), none, (.faddr 1 (.t p10))⟩, ⟨none, none, (.store 1 (.t p11) (.t p7))⟩]),
 []⟩
/-- (*farrier/proc.Table).List -/
def c15 : IFunc := ⟨[p0],
 (.seq (.reg [⟨(some p2), none, (.mov (.k (.c .nils)))⟩])
 (.seq (.reg [⟨(some p3), none, (.mov (.t p0))⟩, ⟨(some p4), none, (.nchk (.t p3))⟩, ⟨(some p5), none, (.faddr 1 (.t p4))⟩, ⟨(some p6), none, (.load1 (.t p5))⟩, ⟨(some p7), none, (.call 68 [(.t p6)])⟩, ⟨(some p8), none, (.call 67 [(.t p7)])⟩, ⟨(some p2), none, (.mov (.t p8))⟩])
 .ret)),
 [.t p2]⟩
/-- (*farrier/proc.Table).Spawn -/
def c16 : IFunc := ⟨[p0, p1, p2],
 (.seq (.reg [⟨(some p6), none, (.mov (.k (.c (.int .i64 0))))⟩, ⟨(some p7), none, (.mov (.k (.c (.int .i64 0))))⟩])
 (.seq (.block 0 (.seq (.reg [⟨(some p13), none, (.mov (.t p2))⟩, ⟨(some p14), none, (.len .slice (.t p13))⟩, ⟨(some p15), none, (.bin .gtr .num (.t p14) (.k (.c (.int .i64 8))))⟩, ⟨(some p12), none, (.mov (.t p15))⟩])
 (.cond (.t p12) (.seq (.reg [⟨(some p6), none, (.mov (.k (.c (.int .i64 0))))⟩, ⟨(some p7), none, (.mov (.k (.c (.int .i64 22))))⟩])
 .ret) (.seq (.reg [⟨(some p17), none, (.mov (.t p0))⟩, ⟨(some p18), none, (.nchk (.t p17))⟩, ⟨(some p19), none, (.faddr 1 (.t p18))⟩, ⟨(some p20), none, (.load1 (.t p19))⟩, ⟨(some p21), none, (.len .map (.t p20))⟩, ⟨(some p22), none, (.bin .geq .num (.t p21) (.k (.c (.int .i64 32))))⟩, ⟨(some p16), none, (.mov (.t p22))⟩])
 (.cond (.t p16) (.seq (.reg [⟨(some p6), none, (.mov (.k (.c (.int .i64 0))))⟩, ⟨(some p7), none, (.mov (.k (.c (.int .i64 7))))⟩])
 .ret) .skip)))))
 (.seq (.reg [⟨(some p23), none, (.mov (.t p0))⟩, ⟨(some p24), none, (.nchk (.t p23))⟩, ⟨(some p25), none, (.faddr 2 (.t p24))⟩, ⟨(some p26), none, (.load1 (.t p25))⟩, ⟨(some p27), none, (.mov (.t p1))⟩, ⟨(some p28), none, (.build [(.int .i64 0), (.str []), .nils, (.bool false)] [(0, 1, (.t p26)), (1, 1, (.t p27))])⟩, ⟨(some p29), none, (.box (.t p28))⟩, ⟨(some p8), none, (.mov (.t p29))⟩])
 (.seq (.seq (.reg [⟨(some p30), none, (.mov (.t p2))⟩, ⟨(some p31), none, (.len .slice (.t p30))⟩, ⟨(some p32), none, (.mov (.k (.c (.int .i64 0))))⟩])
 (.block 1 (.loop (.seq (.reg [⟨(some p33), none, (.bin .lss .num (.t p32) (.t p31))⟩])
 (.seq (.cond (.t p33) .skip (.exit 1))
 (.seq (.block 2 (.seq (.reg [⟨(some p34), none, (.iaddrV 1 (.t p30) (.t p32))⟩, ⟨(some p35), none, (.load1 (.t p34))⟩, ⟨(some p10), none, (.mov (.t p35))⟩])
 (.seq (.reg [⟨(some p36), none, (.mov (.t p0))⟩, ⟨(some p37), none, (.mov (.t p8))⟩, ⟨(some p38), none, (.mov (.t p10))⟩, ⟨(some p39), none, (.call 69 [(.t p36), (.t p37), (.t p38)])⟩, ⟨(some p11), none, (.mov (.t p39))⟩])
 (.seq (.reg [⟨(some p40), none, (.mov (.t p11))⟩, ⟨(some p41), none, (.bin .neq .num (.t p40) (.k (.c (.int .i64 0))))⟩])
 (.cond (.t p41) (.seq (.reg [⟨(some p42), none, (.mov (.t p0))⟩, ⟨(some p43), none, (.mov (.t p8))⟩, ⟨(some p44), none, (.call 66 [(.t p42), (.t p43)])⟩])
 (.seq (.reg [⟨(some p45), none, (.mov (.t p11))⟩, ⟨(some p6), none, (.mov (.k (.c (.int .i64 0))))⟩, ⟨(some p7), none, (.mov (.t p45))⟩])
 .ret)) .skip)))))
 (.reg [⟨(some p46), none, (.bin .add .num (.t p32) (.k (.c (.int .i64 1))))⟩, ⟨(some p32), none, (.mov (.t p46))⟩])))))))
 (.seq (.dreg [⟨(some p47), none, (.mov (.t p0))⟩, ⟨(some p48), none, (.nchk (.t p47))⟩, ⟨(some p49), none, (.faddr 1 (.t p48))⟩, ⟨(some p50), none, (.load1 (.t p49))⟩, ⟨(some p51), none, (.mov (.t p8))⟩, ⟨(some p52), none, (.nchk (.t p51))⟩, ⟨(some p53), none, (.faddr 0 (.t p52))⟩, ⟨(some p54), none, (.load1 (.t p53))⟩, ⟨(some p55), none, (.mov (.t p8))⟩, ⟨none, none, (.mupd true (.t p50) (.t p54) (.t p55))⟩] [[], [], [], [], [], [], [], [], [], []])
 (.seq (.reg [⟨(some p56), none, (.mov (.t p0))⟩, ⟨(some p57), none, (.nchk (.t p56))⟩, ⟨(some p58), none, (.faddr 2 (.t p57))⟩, ⟨(some p59), none, (.load1 (.t p58))⟩, ⟨(some p60), none, (.bin .add .num (.t p59) (.k (.c (.int .i64 1))))⟩, ⟨(some p61), none, (.nchk (.t p56))⟩, ⟨(some p62), none, (.faddr 2 (.t p61))⟩, ⟨none, none, (.store 1 (.t p62) (.t p60))⟩])
 (.seq (.reg [⟨(some p63), none, (.mov (.t p8))⟩, ⟨(some p64), none, (.nchk (.t p63))⟩, ⟨(some p65), none, (.faddr 0 (.t p64))⟩, ⟨(some p66), none, (.load1 (.t p65))⟩, ⟨(some p6), none, (.mov (.t p66))⟩, ⟨(some p7), none, (.mov (.k (.c (.int .i64 0))))⟩])
 .ret))))))),
 [.t p6, .t p7]⟩
/-- (*farrier/proc.Table).Kill -/
def c23 : IFunc := ⟨[p0, p1],
 (.seq (.reg [⟨(some p4), none, (.mov (.k (.c (.int .i64 0))))⟩])
 (.seq (.reg [⟨(some p6), none, (.mov (.t p0))⟩, ⟨(some p7), none, (.nchk (.t p6))⟩, ⟨(some p8), none, (.faddr 1 (.t p7))⟩, ⟨(some p9), none, (.load1 (.t p8))⟩, ⟨(some p10), none, (.mov (.t p1))⟩, ⟨(some p11), none, (.look true (.c .nilp) false (.t p9) (.t p10))⟩, ⟨(some p5), none, (.mov (.t p11))⟩])
 (.seq (.seq (.reg [⟨(some p12), none, (.mov (.t p5))⟩, ⟨(some p13), none, (.bin .eql .ptr (.t p12) (.k (.c .nilp)))⟩])
 (.cond (.t p13) (.seq (.reg [⟨(some p4), none, (.mov (.k (.c (.int .i64 8))))⟩])
 .ret) .skip))
 (.seq (.reg [⟨(some p14), none, (.mov (.t p5))⟩, ⟨(some p15), none, (.nchk (.t p14))⟩, ⟨(some p16), none, (.faddr 3 (.t p15))⟩, ⟨none, none, (.store 1 (.t p16) (.k (.c (.bool true))))⟩])
 (.seq (.reg [⟨(some p4), none, (.mov (.k (.c (.int .i64 0))))⟩])
 .ret))))),
 [.t p4]⟩
/-- (*farrier/proc.Table).Pick -/
def c24 : IFunc := ⟨[p0, p1],
 (.seq (.reg [⟨(some p4), none, (.mov (.k (.c (.bool false))))⟩, ⟨(some p5), none, (.mov (.k (.c (.int .i64 0))))⟩])
 (.seq (.reg [⟨(some p7), none, (.mov (.t p0))⟩, ⟨(some p8), none, (.nchk (.t p7))⟩, ⟨(some p9), none, (.faddr 1 (.t p8))⟩, ⟨(some p10), none, (.load1 (.t p9))⟩, ⟨(some p11), none, (.mov (.t p1))⟩, ⟨(some p12), none, (.look true (.c .nilp) false (.t p10) (.t p11))⟩, ⟨(some p6), none, (.mov (.t p12))⟩])
 (.seq (.seq (.reg [⟨(some p13), none, (.mov (.t p6))⟩, ⟨(some p14), none, (.bin .eql .ptr (.t p13) (.k (.c .nilp)))⟩])
 (.cond (.t p14) (.seq (.reg [⟨(some p4), none, (.mov (.k (.c (.bool false))))⟩, ⟨(some p5), none, (.mov (.k (.c (.int .i64 8))))⟩])
 .ret) .skip))
 (.seq (.seq (.reg [⟨(some p15), none, (.mov (.t p6))⟩, ⟨(some p16), none, (.nchk (.t p15))⟩, ⟨(some p17), none, (.faddr 3 (.t p16))⟩, ⟨(some p18), none, (.load1 (.t p17))⟩, ⟨(some p19), none, (.not (.t p18))⟩])
 (.cond (.t p19) (.seq (.reg [⟨(some p4), none, (.mov (.k (.c (.bool false))))⟩, ⟨(some p5), none, (.mov (.k (.c (.int .i64 0))))⟩])
 .ret) .skip))
 (.seq (.reg [⟨(some p20), none, (.mov (.t p0))⟩, ⟨(some p21), none, (.mov (.t p1))⟩, ⟨(some p22), none, (.call 13 [(.t p20), (.t p21)])⟩, ⟨(some p4), none, (.mov (.k (.c (.bool true))))⟩, ⟨(some p5), none, (.mov (.t p22))⟩])
 .ret))))),
 [.t p4, .t p5]⟩
/-- (*farrier/vol.Vol).Do -/
def c26 : IFunc := ⟨[p0, p1],
 (.seq (.reg [⟨(some p4), none, (.mov (.k (.c (.int .i64 0))))⟩])
 (.seq (.seq (.reg [⟨(some p8), none, (.mov (.t p0))⟩, ⟨(some p9), none, (.nchk (.t p8))⟩, ⟨(some p10), none, (.faddr 4 (.t p9))⟩, ⟨(some p11), none, (.load1 (.t p10))⟩])
 (.cond (.t p11) (.seq (.reg [⟨(some p4), none, (.mov (.k (.c (.int .i64 3))))⟩])
 .ret) .skip))
 (.seq (.reg [⟨(some p12), none, (.mov (.t p0))⟩, ⟨(some p13), none, (.nchk (.t p12))⟩, ⟨(some p14), none, (.faddr 0 (.t p13))⟩, ⟨(some p15), none, (.load1 (.t p14))⟩, ⟨(some p16), none, (.call 74 [(.t p15)])⟩, ⟨(some p5), none, (.mov (.t p16))⟩])
 (.seq (.seq (.reg [⟨(some p17), none, (.mov (.t p5))⟩, ⟨(some p18), none, (.mov (.t p1))⟩, ⟨(some p19), none, (.call 75 [(.t p17), (.t p18)])⟩, ⟨(some p6), none, (.mov (.t p19))⟩])
 (.seq (.reg [⟨(some p20), none, (.mov (.t p6))⟩, ⟨(some p21), none, (.bin .neq .num (.t p20) (.k (.c (.int .i64 0))))⟩])
 (.cond (.t p21) (.seq (.reg [⟨(some p22), none, (.mov (.t p6))⟩, ⟨(some p4), none, (.mov (.t p22))⟩])
 .ret) .skip)))
 (.seq (.dreg [⟨(some p23), none, (.mov (.t p0))⟩, ⟨(some p24), none, (.nchk (.t p23))⟩, ⟨(some p25), none, (.faddr 1 (.t p24))⟩, ⟨(some p26), none, (.load1 (.t p25))⟩, ⟨(some p28), none, (.mov (.t p1))⟩, ⟨(some p29), none, (.call 77 [(.t p28)])⟩, ⟨(some p27), none, (.bslice 1 1 [(.int .u8 0)] [(0, 1, (.k (.c (.int .u8 2))))])⟩, ⟨(some p30), none, (.appendV 1 1 (.t p27) (.t p29))⟩, ⟨(some p31), none, (.call 76 [(.t p26), (.t p30)])⟩, ⟨(some p7), none, (.mov (.t p31))⟩] [[], [], [], [], [], [3], [], [3], [], []])
 (.seq (.seq (.reg [⟨(some p32), none, (.mov (.t p7))⟩, ⟨(some p33), none, (.bin .eql .num (.t p32) (.k (.c (.int .i64 7))))⟩, ⟨(some p34), none, (.mov (.t p33))⟩, ⟨(some p35), (some (p34, false)), (.mov (.t p7))⟩, ⟨(some p36), (some (p34, false)), (.bin .eql .num (.t p35) (.k (.c (.int .i64 6))))⟩, ⟨(some p37), none, (.pick (.t p34) (.k (.c (.bool true))) (.t p36))⟩])
 (.cond (.t p37) (.reg [⟨(some p38), none, (.mov (.t p0))⟩, ⟨(some p39), none, (.mov (.t p5))⟩, ⟨(some p40), none, (.call 78 [(.t p38), (.t p39)])⟩, ⟨(some p7), none, (.mov (.t p40))⟩]) .skip))
 (.seq (.seq (.reg [⟨(some p41), none, (.mov (.t p7))⟩, ⟨(some p42), none, (.bin .neq .num (.t p41) (.k (.c (.int .i64 0))))⟩])
 (.cond (.t p42) (.seq (.reg [⟨(some p43), none, (.mov (.t p0))⟩, ⟨(some p44), none, (.mov (.t p0))⟩, ⟨(some p45), none, (.nchk (.t p44))⟩, ⟨(some p46), none, (.faddr 4 (.t p45))⟩, ⟨(some p47), none, (.load1 (.t p46))⟩, ⟨(some p48), none, (.mov (.t p47))⟩, ⟨(some p49), (some (p48, false)), (.mov (.t p7))⟩, ⟨(some p50), (some (p48, false)), (.bin .eql .num (.t p49) (.k (.c (.int .i64 3))))⟩, ⟨(some p51), none, (.pick (.t p48) (.k (.c (.bool true))) (.t p50))⟩, ⟨(some p52), none, (.nchk (.t p43))⟩, ⟨(some p53), none, (.faddr 4 (.t p52))⟩, ⟨none, none, (.store 1 (.t p53) (.t p51))⟩])
 (.seq (.reg [⟨(some p54), none, (.mov (.t p7))⟩, ⟨(some p4), none, (.mov (.t p54))⟩])
 .ret)) .skip))
 (.seq (.reg [⟨(some p55), none, (.mov (.t p0))⟩, ⟨(some p56), none, (.mov (.t p5))⟩, ⟨(some p57), none, (.nchk (.t p55))⟩, ⟨(some p58), none, (.faddr 0 (.t p57))⟩, ⟨none, none, (.store 1 (.t p58) (.t p56))⟩])
 (.seq (.reg [⟨(some p59), none, (.mov (.t p0))⟩, ⟨(some p60), none, (.call 79 [(.t p59)])⟩])
 (.seq (.reg [⟨(some p4), none, (.mov (.k (.c (.int .i64 0))))⟩])
 .ret)))))))))),
 [.t p4]⟩
/-- (*farrier/vol.Vol).Held -/
def c62 : IFunc := ⟨[p0, p1],
 (.seq (.reg [⟨(some p4), none, (.mov (.k (.c (.int .i64 0))))⟩])
 (.seq (.reg [⟨(some p5), none, (.mov (.t p0))⟩, ⟨(some p6), none, (.nchk (.t p5))⟩, ⟨(some p7), none, (.faddr 3 (.t p6))⟩, ⟨(some p8), none, (.load1 (.t p7))⟩, ⟨(some p9), none, (.mov (.t p1))⟩, ⟨(some p10), none, (.look true (.c (.int .i64 0)) false (.t p8) (.t p9))⟩, ⟨(some p4), none, (.mov (.t p10))⟩])
 .ret)),
 [.t p4]⟩
/-- (*farrier/proc.Table).Get -/
def c63 : IFunc := ⟨[p0, p1],
 (.seq (.reg [⟨(some p4), none, (.alloc [(.int .i64 0), (.str []), .nils, (.bool false)])⟩, ⟨(some p5), none, (.mov (.k (.c (.bool false))))⟩])
 (.seq (.reg [⟨(some p8), none, (.mov (.t p0))⟩, ⟨(some p9), none, (.nchk (.t p8))⟩, ⟨(some p10), none, (.faddr 1 (.t p9))⟩, ⟨(some p11), none, (.load1 (.t p10))⟩, ⟨(some p12), none, (.mov (.t p1))⟩, ⟨(some p13), none, (.look true (.c .nilp) false (.t p11) (.t p12))⟩, ⟨(some p6), none, (.mov (.t p13))⟩])
 (.seq (.seq (.reg [⟨(some p14), none, (.mov (.t p6))⟩, ⟨(some p15), none, (.bin .eql .ptr (.t p14) (.k (.c .nilp)))⟩])
 (.cond (.t p15) (.seq (.reg [⟨(some p16), none, (.build [(.int .i64 0), (.str []), .nils, (.bool false)] [])⟩, ⟨none, none, (.store 4 (.t p4) (.t p16))⟩, ⟨(some p5), none, (.mov (.k (.c (.bool false))))⟩])
 .ret) .skip))
 (.seq (.reg [⟨(some p17), none, (.mov (.t p6))⟩, ⟨(some p18), none, (.nchk (.t p17))⟩, ⟨(some p19), none, (.loadN 4 (.t p18))⟩, ⟨(some p7), none, (.alloc [(.int .i64 0), (.str []), .nils, (.bool false)])⟩, ⟨none, none, (.store 4 (.t p7) (.t p19))⟩])
 (.seq (.reg [⟨(some p20), none, (.mov (.t p6))⟩, ⟨(some p21), none, (.nchk (.t p20))⟩, ⟨(some p22), none, (.faddr 2 (.t p21))⟩, ⟨(some p23), none, (.load1 (.t p22))⟩, ⟨(some p24), none, (.call 101 [(.t p23)])⟩, ⟨(some p25), none, (.faddr 2 (.t p7))⟩, ⟨none, none, (.store 1 (.t p25) (.t p24))⟩])
 (.seq (.reg [⟨(some p26), none, (.loadN 4 (.t p7))⟩, ⟨none, none, (.store 4 (.t p4) (.t p26))⟩, ⟨(some p5), none, (.mov (.k (.c (.bool true))))⟩])
 .ret)))))),
 [.cellN p4 4, .t p5]⟩
/-- farrier/vol.Open -/
def c64 : IFunc := ⟨[p0, p1],
 (.seq (.reg [⟨(some p4), none, (.mov (.k (.c .nilp)))⟩, ⟨(some p5), none, (.mov (.k (.c (.int .i64 0))))⟩])
 (.seq (.reg [⟨(some p18), none, (.mov (.t p0))⟩, ⟨(some p19), none, (.call 102 [(.t p18)])⟩, ⟨(some p17), none, (.mov (.t p19))⟩, ⟨(some p20), none, (.ext (.t p17) 0)⟩, ⟨(some p21), none, (.ext (.t p17) 1)⟩, ⟨(some p6), none, (.mov (.t p20))⟩, ⟨(some p7), none, (.mov (.t p21))⟩])
 (.seq (.seq (.reg [⟨(some p22), none, (.mov (.t p7))⟩, ⟨(some p23), none, (.bin .neq .num (.t p22) (.k (.c (.int .i64 0))))⟩])
 (.cond (.t p23) (.seq (.reg [⟨(some p24), none, (.mov (.t p7))⟩, ⟨(some p4), none, (.mov (.k (.c .nilp)))⟩, ⟨(some p5), none, (.mov (.t p24))⟩])
 .ret) .skip))
 (.seq (.reg [⟨(some p25), none, (.mov (.t p1))⟩, ⟨(some p26), none, (.call 103 [(.t p25)])⟩, ⟨(some p27), none, (.mov (.t p6))⟩, ⟨(some p28), none, (.mov (.t p1))⟩, ⟨(some p29), none, .mkmap⟩, ⟨(some p30), none, (.build [.nilp, .nilp, (.int .i64 0), .nilm, (.bool false)] [(0, 1, (.t p26)), (1, 1, (.t p27)), (2, 1, (.t p28)), (3, 1, (.t p29))])⟩, ⟨(some p31), none, (.box (.t p30))⟩, ⟨(some p8), none, (.mov (.t p31))⟩])
 (.seq (.reg [⟨(some p32), none, (.mov (.t p6))⟩, ⟨(some p33), none, (.call 104 [(.t p32)])⟩, ⟨(some p9), none, (.mov (.t p33))⟩])
 (.seq (.reg [⟨(some p10), none, (.mov (.k (.c (.int .i64 0))))⟩])
 (.seq (.block 0 (.loop (.seq (.seq (.reg [⟨(some p34), none, (.mov (.t p10))⟩, ⟨(some p35), none, (.mov (.t p9))⟩, ⟨(some p36), none, (.len .slice (.t p35))⟩, ⟨(some p37), none, (.bin .lss .num (.t p34) (.t p36))⟩, ⟨(some p38), none, (.mov (.t p37))⟩, ⟨(some p39), (some (p38, true)), (.mov (.t p9))⟩, ⟨(some p40), (some (p38, true)), (.mov (.t p10))⟩, ⟨(some p41), (some (p38, true)), (.iaddrV 1 (.t p39) (.t p40))⟩, ⟨(some p42), (some (p38, true)), (.load1 (.t p41))⟩, ⟨(some p43), (some (p38, true)), (.len .slice (.t p42))⟩, ⟨(some p44), (some (p38, true)), (.bin .gtr .num (.t p43) (.k (.c (.int .i64 0))))⟩, ⟨(some p45), none, (.pick (.t p38) (.t p44) (.k (.c (.bool false))))⟩, ⟨(some p46), none, (.mov (.t p45))⟩, ⟨(some p47), (some (p46, true)), (.mov (.t p9))⟩, ⟨(some p48), (some (p46, true)), (.mov (.t p10))⟩, ⟨(some p49), (some (p46, true)), (.iaddrV 1 (.t p47) (.t p48))⟩, ⟨(some p50), (some (p46, true)), (.load1 (.t p49))⟩, ⟨(some p51), (some (p46, true)), (.iaddrV 1 (.t p50) (.k (.c (.int .i64 0))))⟩, ⟨(some p52), (some (p46, true)), (.load1 (.t p51))⟩, ⟨(some p53), (some (p46, true)), (.bin .eql .num (.t p52) (.k (.c (.int .u8 1))))⟩, ⟨(some p54), none, (.pick (.t p46) (.t p53) (.k (.c (.bool false))))⟩])
 (.cond (.t p54) .skip (.exit 0)))
 (.block 1 (.reg [⟨(some p55), none, (.mov (.t p10))⟩, ⟨(some p56), none, (.bin .add .num (.t p55) (.k (.c (.int .i64 1))))⟩, ⟨(some p10), none, (.mov (.t p56))⟩])))))
 (.seq (.seq (.reg [⟨(some p57), none, (.mov (.t p10))⟩, ⟨(some p58), none, (.bin .gtr .num (.t p57) (.k (.c (.int .i64 0))))⟩])
 (.cond (.t p58) (.seq (.seq (.reg [⟨(some p59), none, (.mov (.t p10))⟩, ⟨(some p60), none, (.mov (.k (.c (.int .i64 0))))⟩])
 (.block 2 (.loop (.seq (.reg [⟨(some p61), none, (.bin .lss .num (.t p60) (.t p59))⟩])
 (.seq (.cond (.t p61) .skip (.exit 2))
 (.seq (.block 3 (.seq (.reg [⟨(some p62), none, (.mov (.t p60))⟩, ⟨(some p11), none, (.mov (.t p62))⟩])
 (.reg [⟨(some p63), none, (.mov (.t p9))⟩, ⟨(some p64), none, (.mov (.t p11))⟩, ⟨(some p65), none, (.mov (.t p9))⟩, ⟨(some p66), none, (.mov (.t p11))⟩, ⟨(some p67), none, (.iaddrV 1 (.t p65) (.t p66))⟩, ⟨(some p68), none, (.load1 (.t p67))⟩, ⟨(some p69), none, (.slcV 1 (.t p68) (some (.k (.c (.int .i64 1)))) none none)⟩, ⟨(some p70), none, (.iaddrV 1 (.t p63) (.t p64))⟩, ⟨none, none, (.store 1 (.t p70) (.t p69))⟩])))
 (.reg [⟨(some p71), none, (.bin .add .num (.t p60) (.k (.c (.int .i64 1))))⟩, ⟨(some p60), none, (.mov (.t p71))⟩])))))))
 (.seq (.reg [⟨(some p73), none, (.mov (.t p1))⟩, ⟨(some p74), none, (.mov (.t p9))⟩, ⟨(some p75), none, (.mov (.t p10))⟩, ⟨(some p76), none, (.slcV 1 (.t p74) none (some (.t p75)) none)⟩, ⟨(some p77), none, (.call 105 [(.t p73), (.t p76)])⟩, ⟨(some p72), none, (.mov (.t p77))⟩, ⟨(some p78), none, (.ext (.t p72) 0)⟩, ⟨(some p79), none, (.ext (.t p72) 1)⟩, ⟨(some p12), none, (.mov (.t p78))⟩, ⟨(some p13), none, (.mov (.t p79))⟩])
 (.seq (.seq (.reg [⟨(some p80), none, (.mov (.t p13))⟩, ⟨(some p81), none, (.not (.t p80))⟩])
 (.cond (.t p81) (.seq (.reg [⟨(some p4), none, (.mov (.k (.c .nilp)))⟩, ⟨(some p5), none, (.mov (.k (.c (.int .i64 21))))⟩])
 .ret) .skip))
 (.reg [⟨(some p82), none, (.mov (.t p8))⟩, ⟨(some p83), none, (.mov (.t p12))⟩, ⟨(some p84), none, (.nchk (.t p82))⟩, ⟨(some p85), none, (.faddr 0 (.t p84))⟩, ⟨none, none, (.store 1 (.t p85) (.t p83))⟩])))) .skip))
 (.seq (.seq (.reg [⟨(some p86), none, (.mov (.t p9))⟩, ⟨(some p87), none, (.mov (.t p10))⟩, ⟨(some p88), none, (.slcV 1 (.t p86) (some (.t p87)) none none)⟩, ⟨(some p89), none, (.len .slice (.t p88))⟩, ⟨(some p90), none, (.mov (.k (.c (.int .i64 0))))⟩])
 (.block 4 (.loop (.seq (.reg [⟨(some p91), none, (.bin .lss .num (.t p90) (.t p89))⟩])
 (.seq (.cond (.t p91) .skip (.exit 4))
 (.seq (.block 5 (.seq (.reg [⟨(some p92), none, (.iaddrV 1 (.t p88) (.t p90))⟩, ⟨(some p93), none, (.load1 (.t p92))⟩, ⟨(some p15), none, (.mov (.t p93))⟩])
 (.seq (.reg [⟨(some p94), none, (.mov (.t p8))⟩, ⟨(some p95), none, (.mov (.t p15))⟩, ⟨(some p96), none, (.call 106 [(.t p94), (.t p95)])⟩, ⟨(some p16), none, (.mov (.t p96))⟩])
 (.seq (.reg [⟨(some p97), none, (.mov (.t p16))⟩, ⟨(some p98), none, (.bin .neq .num (.t p97) (.k (.c (.int .i64 0))))⟩])
 (.cond (.t p98) (.seq (.reg [⟨(some p99), none, (.mov (.t p16))⟩, ⟨(some p4), none, (.mov (.k (.c .nilp)))⟩, ⟨(some p5), none, (.mov (.t p99))⟩])
 .ret) .skip)))))
 (.reg [⟨(some p100), none, (.bin .add .num (.t p90) (.k (.c (.int .i64 1))))⟩, ⟨(some p90), none, (.mov (.t p100))⟩])))))))
 (.seq (.reg [⟨(some p101), none, (.mov (.t p8))⟩, ⟨(some p4), none, (.mov (.t p101))⟩, ⟨(some p5), none, (.mov (.k (.c (.int .i64 0))))⟩])
 .ret)))))))))),
 [.t p4, .t p5]⟩
/-- farrier/disk.New -/
def c65 : IFunc := ⟨[p0],
 (.seq (.reg [⟨(some p2), none, (.mov (.k (.c .nilp)))⟩])
 (.seq (.reg [⟨(some p3), none, (.mov (.t p0))⟩, ⟨(some p4), none, (.min [(.t p3), (.k (.c (.int .i64 4096)))])⟩, ⟨(some p5), none, (.max [(.k (.c (.int .i64 1))), (.t p4)])⟩, ⟨(some p6), none, (.mkslice 64 [(.int .u8 0), (.int .u8 0), (.int .u8 0), (.int .u8 0), (.int .u8 0), (.int .u8 0), (.int .u8 0), (.int .u8 0), (.int .u8 0), (.int .u8 0), (.int .u8 0), (.int .u8 0), (.int .u8 0), (.int .u8 0), (.int .u8 0), (.int .u8 0), (.int .u8 0), (.int .u8 0), (.int .u8 0), (.int .u8 0), (.int .u8 0), (.int .u8 0), (.int .u8 0), (.int .u8 0), (.int .u8 0), (.int .u8 0), (.int .u8 0), (.int .u8 0), (.int .u8 0), (.int .u8 0), (.int .u8 0), (.int .u8 0), (.int .u8 0), (.int .u8 0), (.int .u8 0), (.int .u8 0), (.int .u8 0), (.int .u8 0), (.int .u8 0), (.int .u8 0), (.int .u8 0), (.int .u8 0), (.int .u8 0), (.int .u8 0), (.int .u8 0), (.int .u8 0), (.int .u8 0), (.int .u8 0), (.int .u8 0), (.int .u8 0), (.int .u8 0), (.int .u8 0), (.int .u8 0), (.int .u8 0), (.int .u8 0), (.int .u8 0), (.int .u8 0), (.int .u8 0), (.int .u8 0), (.int .u8 0), (.int .u8 0), (.int .u8 0), (.int .u8 0), (.int .u8 0)] (.t p5) (.t p5))⟩, ⟨(some p7), none, (.build [.nils, .nils, (.bool false), (.int .i64 0), (.int .u64 0), (.int .i64 0)] [(0, 1, (.t p6)), (3, 1, (.k (.c (.int .i64 (-1)))))])⟩, ⟨(some p8), none, (.box (.t p7))⟩, ⟨(some p2), none, (.mov (.t p8))⟩])
 .ret)),
 [.t p2]⟩
/-- (*farrier/proc.Table).free -/
def c66 : IFunc := ⟨[p0, p1],
 (.seq (.seq (.reg [⟨(some p6), none, (.mov (.t p1))⟩, ⟨(some p7), none, (.nchk (.t p6))⟩, ⟨(some p8), none, (.faddr 2 (.t p7))⟩, ⟨(some p9), none, (.load1 (.t p8))⟩, ⟨(some p10), none, (.len .slice (.t p9))⟩, ⟨(some p11), none, (.mov (.k (.c (.int .i64 0))))⟩])
 (.block 0 (.loop (.seq (.reg [⟨(some p12), none, (.bin .lss .num (.t p11) (.t p10))⟩])
 (.seq (.cond (.t p12) .skip (.exit 0))
 (.seq (.block 1 (.seq (.reg [⟨(some p13), none, (.iaddrV 1 (.t p9) (.t p11))⟩, ⟨(some p14), none, (.load1 (.t p13))⟩, ⟨(some p5), none, (.mov (.t p14))⟩])
 (.reg [⟨(some p15), none, (.mov (.t p0))⟩, ⟨(some p16), none, (.nchk (.t p15))⟩, ⟨(some p17), none, (.faddr 0 (.t p16))⟩, ⟨(some p18), none, (.load1 (.t p17))⟩, ⟨(some p19), none, (.mov (.t p5))⟩, ⟨(some p20), none, (.invoke (.t p18) "Let" [(.t p19)])⟩])))
 (.reg [⟨(some p21), none, (.bin .add .num (.t p11) (.k (.c (.int .i64 1))))⟩, ⟨(some p11), none, (.mov (.t p21))⟩])))))))
 (.reg [⟨(some p22), none, (.mov (.t p1))⟩, ⟨(some p23), none, (.nchk (.t p22))⟩, ⟨(some p24), none, (.faddr 2 (.t p23))⟩, ⟨none, none, (.store 1 (.t p24) (.k (.c .nils)))⟩])),
 []⟩
/-- maps.Keys[map[int]*farrier/proc.Proc,int,*farrier/proc.Proc] -/
def c68 : IFunc := ⟨[p0],
 (.seq (.reg [⟨(some p1), none, (.box (.t p0))⟩, ⟨(some p2), none, (.mov (.k (.c .nilf)))⟩])
 (.seq (.reg [⟨(some p3), none, (.mkfn 109 [(.t p1)])⟩, ⟨(some p2), none, (.mov (.t p3))⟩])
 .ret)),
 [.t p2]⟩
/-- (*farrier/proc.Table).hold -/
def c69 : IFunc := ⟨[p0, p1, p2],
 (.seq (.reg [⟨(some p6), none, (.mov (.k (.c (.int .i64 0))))⟩])
 (.seq (.reg [⟨(some p10), none, (.mov (.t p0))⟩, ⟨(some p11), none, (.nchk (.t p10))⟩, ⟨(some p12), none, (.faddr 0 (.t p11))⟩, ⟨(some p13), none, (.load1 (.t p12))⟩, ⟨(some p14), none, (.mov (.t p2))⟩, ⟨(some p15), none, (.invoke (.t p13) "Hold" [(.t p14)])⟩, ⟨(some p9), none, (.mov (.t p15))⟩, ⟨(some p16), none, (.ext (.t p9) 0)⟩, ⟨(some p17), none, (.ext (.t p9) 1)⟩, ⟨(some p7), none, (.mov (.t p16))⟩, ⟨(some p8), none, (.mov (.t p17))⟩])
 (.seq (.seq (.reg [⟨(some p18), none, (.mov (.t p8))⟩, ⟨(some p19), none, (.bin .eql .num (.t p18) (.k (.c (.int .i64 0))))⟩])
 (.cond (.t p19) (.reg [⟨(some p20), none, (.mov (.t p1))⟩, ⟨(some p21), none, (.mov (.t p1))⟩, ⟨(some p22), none, (.nchk (.t p21))⟩, ⟨(some p23), none, (.faddr 2 (.t p22))⟩, ⟨(some p24), none, (.load1 (.t p23))⟩, ⟨(some p25), none, (.mov (.t p7))⟩, ⟨(some p26), none, (.bslice 1 1 [(.int .i64 0)] [(0, 1, (.t p25))])⟩, ⟨(some p27), none, (.appendV 1 8 (.t p24) (.t p26))⟩, ⟨(some p28), none, (.nchk (.t p20))⟩, ⟨(some p29), none, (.faddr 2 (.t p28))⟩, ⟨none, none, (.store 1 (.t p29) (.t p27))⟩]) .skip))
 (.seq (.reg [⟨(some p30), none, (.mov (.t p8))⟩, ⟨(some p6), none, (.mov (.t p30))⟩])
 .ret)))),
 [.t p6]⟩
/-- (*farrier/tree.Tree).Find -/
def c70 : IFunc := ⟨[p0, p1],
 (.seq (.reg [⟨(some p4), none, (.mov (.k (.c (.int .i64 0))))⟩, ⟨(some p5), none, (.mov (.k (.c (.bool false))))⟩])
 (.seq (.reg [⟨(some p7), none, (.mov (.t p0))⟩, ⟨(some p8), none, (.mov (.t p1))⟩, ⟨(some p9), none, (.call 110 [(.t p7), (.t p8)])⟩, ⟨(some p6), none, (.mov (.t p9))⟩])
 (.seq (.reg [⟨(some p10), none, (.mov (.t p6))⟩, ⟨(some p11), none, (.mov (.t p6))⟩, ⟨(some p12), none, (.bin .neq .num (.t p11) (.k (.c (.int .i64 0))))⟩, ⟨(some p4), none, (.mov (.t p10))⟩, ⟨(some p5), none, (.mov (.t p12))⟩])
 .ret))),
 [.t p4, .t p5]⟩
/-- (*farrier/tree.Tree).Dir -/
def c71 : IFunc := ⟨[p0, p1],
 (.seq (.reg [⟨(some p4), none, (.mov (.k (.c (.bool false))))⟩])
 (.seq (.reg [⟨(some p6), none, (.mov (.t p0))⟩, ⟨(some p7), none, (.mov (.t p1))⟩, ⟨(some p8), none, (.call 110 [(.t p6), (.t p7)])⟩, ⟨(some p5), none, (.mov (.t p8))⟩])
 (.seq (.reg [⟨(some p9), none, (.mov (.t p5))⟩, ⟨(some p10), none, (.bin .neq .num (.t p9) (.k (.c (.int .i64 0))))⟩, ⟨(some p11), none, (.mov (.t p10))⟩, ⟨(some p12), (some (p11, true)), (.mov (.t p0))⟩, ⟨(some p13), (some (p11, true)), (.nchk (.t p12))⟩, ⟨(some p14), (some (p11, true)), (.faddr 0 (.t p13))⟩, ⟨(some p15), (some (p11, true)), (.load1 (.t p14))⟩, ⟨(some p16), (some (p11, true)), (.mov (.t p5))⟩, ⟨(some p17), (some (p11, true)), (.look true (.c .nilp) false (.t p15) (.t p16))⟩, ⟨(some p18), (some (p11, true)), (.nchk (.t p17))⟩, ⟨(some p19), (some (p11, true)), (.faddr 0 (.t p18))⟩, ⟨(some p20), (some (p11, true)), (.load1 (.t p19))⟩, ⟨(some p21), none, (.pick (.t p11) (.t p20) (.k (.c (.bool false))))⟩, ⟨(some p4), none, (.mov (.t p21))⟩])
 .ret))),
 [.t p4]⟩
/-- (*farrier/tree.Tree).Do -/
def c75 : IFunc := ⟨[p0, p1],
 (.seq (.reg [⟨(some p4), none, (.mov (.k (.c (.int .i64 0))))⟩])
 (.seq (.reg [⟨(some p9), none, (.mov (.t p0))⟩, ⟨(some p10), none, (.call 74 [(.t p9)])⟩, ⟨(some p5), none, (.mov (.t p10))⟩])
 (.seq (.seq (.reg [⟨(some p11), none, (.mov (.t p1))⟩, ⟨(some p12), none, (.len .slice (.t p11))⟩, ⟨(some p13), none, (.mov (.k (.c (.int .i64 0))))⟩])
 (.block 0 (.loop (.seq (.reg [⟨(some p14), none, (.bin .lss .num (.t p13) (.t p12))⟩])
 (.seq (.cond (.t p14) .skip (.exit 0))
 (.seq (.block 1 (.seq (.reg [⟨(some p15), none, (.iaddrV 4 (.t p11) (.t p13))⟩, ⟨(some p16), none, (.loadN 4 (.t p15))⟩, ⟨(some p7), none, (.alloc [(.int .i64 0), (.str []), (.str []), .nils])⟩, ⟨none, none, (.store 4 (.t p7) (.t p16))⟩])
 (.seq (.reg [⟨(some p17), none, (.mov (.t p5))⟩, ⟨(some p18), none, (.loadN 4 (.t p7))⟩, ⟨(some p19), none, (.call 112 [(.t p17), (.t p18)])⟩, ⟨(some p8), none, (.mov (.t p19))⟩])
 (.seq (.reg [⟨(some p20), none, (.mov (.t p8))⟩, ⟨(some p21), none, (.bin .neq .num (.t p20) (.k (.c (.int .i64 0))))⟩])
 (.cond (.t p21) (.seq (.reg [⟨(some p22), none, (.mov (.t p8))⟩, ⟨(some p4), none, (.mov (.t p22))⟩])
 .ret) .skip)))))
 (.reg [⟨(some p23), none, (.bin .add .num (.t p13) (.k (.c (.int .i64 1))))⟩, ⟨(some p13), none, (.mov (.t p23))⟩])))))))
 (.seq (.seq (.reg [⟨(some p24), none, (.mov (.t p5))⟩, ⟨(some p25), none, (.nchk (.t p24))⟩, ⟨(some p26), none, (.faddr 0 (.t p25))⟩, ⟨(some p27), none, (.load1 (.t p26))⟩, ⟨(some p28), none, (.len .map (.t p27))⟩, ⟨(some p29), none, (.bin .gtr .num (.t p28) (.k (.c (.int .i64 128))))⟩])
 (.cond (.t p29) (.seq (.reg [⟨(some p4), none, (.mov (.k (.c (.int .i64 7))))⟩])
 .ret) .skip))
 (.seq (.seq (.dreg [⟨(some p30), none, (.mov (.t p5))⟩, ⟨(some p32), none, (.mov (.t p5))⟩, ⟨(some p33), none, (.nchk (.t p32))⟩, ⟨(some p34), none, (.faddr 2 (.t p33))⟩, ⟨(some p35), none, (.load1 (.t p34))⟩, ⟨(some p31), none, (.call 113 [(.t p30)])⟩, ⟨(some p36), none, (.bin .gtr .num (.t p31) (.t p35))⟩] [[], [], [], [], [], [4], []])
 (.cond (.t p36) (.seq (.reg [⟨(some p4), none, (.mov (.k (.c (.int .i64 13))))⟩])
 .ret) .skip))
 (.seq (.reg [⟨(some p37), none, (.mov (.t p0))⟩, ⟨(some p38), none, (.mov (.t p5))⟩, ⟨(some p39), none, (.nchk (.t p38))⟩, ⟨(some p40), none, (.loadN 3 (.t p39))⟩, ⟨(some p41), none, (.nchk (.t p37))⟩, ⟨none, none, (.store 3 (.t p41) (.t p40))⟩])
 (.seq (.reg [⟨(some p4), none, (.mov (.k (.c (.int .i64 0))))⟩])
 .ret))))))),
 [.t p4]⟩
/-- (*farrier/log.Log).Append -/
def c76 : IFunc := ⟨[p0, p1],
 (.seq (.reg [⟨(some p4), none, (.mov (.k (.c (.int .i64 0))))⟩])
 (.seq (.seq (.reg [⟨(some p7), none, (.mov (.t p1))⟩, ⟨(some p8), none, (.len .slice (.t p7))⟩, ⟨(some p9), none, (.call 114 [(.t p8)])⟩, ⟨(some p5), none, (.mov (.t p9))⟩])
 (.block 0 (.seq (.reg [⟨(some p11), none, (.mov (.t p0))⟩, ⟨(some p12), none, (.nchk (.t p11))⟩, ⟨(some p13), none, (.faddr 6 (.t p12))⟩, ⟨(some p14), none, (.load1 (.t p13))⟩, ⟨(some p10), none, (.mov (.t p14))⟩])
 (.cond (.t p10) (.seq (.reg [⟨(some p4), none, (.mov (.k (.c (.int .i64 3))))⟩])
 .ret) (.seq (.reg [⟨(some p16), none, (.mov (.t p1))⟩, ⟨(some p17), none, (.len .slice (.t p16))⟩, ⟨(some p18), none, (.bin .gtr .num (.t p17) (.k (.c (.int .i64 4096))))⟩, ⟨(some p15), none, (.mov (.t p18))⟩])
 (.cond (.t p15) (.seq (.reg [⟨(some p4), none, (.mov (.k (.c (.int .i64 6))))⟩])
 .ret) (.seq (.dreg [⟨(some p20), none, (.mov (.t p0))⟩, ⟨(some p21), none, (.nchk (.t p20))⟩, ⟨(some p22), none, (.faddr 4 (.t p21))⟩, ⟨(some p23), none, (.load1 (.t p22))⟩, ⟨(some p24), none, (.mov (.t p5))⟩, ⟨(some p25), none, (.bin .add .num (.t p23) (.t p24))⟩, ⟨(some p26), none, (.mov (.t p0))⟩, ⟨(some p27), none, (.nchk (.t p26))⟩, ⟨(some p28), none, (.faddr 0 (.t p27))⟩, ⟨(some p29), none, (.load1 (.t p28))⟩, ⟨(some p30), none, (.call 115 [(.t p29)])⟩, ⟨(some p31), none, (.bin .gtr .num (.t p25) (.t p30))⟩, ⟨(some p19), none, (.mov (.t p31))⟩] [[], [], [], [], [], [], [], [], [], [], [3, 5], [], []])
 (.cond (.t p19) (.seq (.reg [⟨(some p4), none, (.mov (.k (.c (.int .i64 7))))⟩])
 .ret) .skip))))))))
 (.seq (.dreg [⟨(some p32), none, (.mov (.t p0))⟩, ⟨(some p33), none, (.mov (.t p0))⟩, ⟨(some p34), none, (.nchk (.t p33))⟩, ⟨(some p35), none, (.faddr 4 (.t p34))⟩, ⟨(some p36), none, (.load1 (.t p35))⟩, ⟨(some p37), none, (.mov (.t p0))⟩, ⟨(some p38), none, (.nchk (.t p37))⟩, ⟨(some p39), none, (.faddr 5 (.t p38))⟩, ⟨(some p40), none, (.load1 (.t p39))⟩, ⟨(some p41), none, (.len .slice (.t p40))⟩, ⟨(some p42), none, (.mov (.t p1))⟩, ⟨(some p43), none, (.call 116 [(.t p32), (.t p36), (.t p41), (.t p42)])⟩, ⟨(some p6), none, (.mov (.t p43))⟩] [[], [], [], [], [], [], [], [], [], [], [], [], []])
 (.seq (.seq (.reg [⟨(some p44), none, (.mov (.t p6))⟩, ⟨(some p45), none, (.bin .eql .num (.t p44) (.k (.c (.int .i64 0))))⟩])
 (.cond (.t p45) (.reg [⟨(some p46), none, (.mov (.t p0))⟩, ⟨(some p47), none, (.nchk (.t p46))⟩, ⟨(some p48), none, (.faddr 0 (.t p47))⟩, ⟨(some p49), none, (.load1 (.t p48))⟩, ⟨(some p50), none, (.call 117 [(.t p49)])⟩, ⟨(some p6), none, (.mov (.t p50))⟩]) .skip))
 (.seq (.seq (.reg [⟨(some p51), none, (.mov (.t p6))⟩, ⟨(some p52), none, (.bin .neq .num (.t p51) (.k (.c (.int .i64 0))))⟩])
 (.cond (.t p52) (.seq (.reg [⟨(some p53), none, (.mov (.t p0))⟩, ⟨(some p54), none, (.mov (.t p6))⟩, ⟨(some p55), none, (.call 118 [(.t p53), (.t p54)])⟩, ⟨(some p4), none, (.mov (.t p55))⟩])
 .ret) .skip))
 (.seq (.dreg [⟨(some p56), none, (.mov (.t p0))⟩, ⟨(some p57), none, (.nchk (.t p56))⟩, ⟨(some p58), none, (.faddr 4 (.t p57))⟩, ⟨(some p59), none, (.load1 (.t p58))⟩, ⟨(some p60), none, (.mov (.t p1))⟩, ⟨(some p61), none, (.len .slice (.t p60))⟩, ⟨(some p62), none, (.call 114 [(.t p61)])⟩, ⟨(some p63), none, (.bin .add .num (.t p59) (.t p62))⟩, ⟨(some p64), none, (.nchk (.t p56))⟩, ⟨(some p65), none, (.faddr 4 (.t p64))⟩, ⟨none, none, (.store 1 (.t p65) (.t p63))⟩] [[], [], [], [], [], [], [3], [], [], [], []])
 (.seq (.dreg [⟨(some p66), none, (.mov (.t p0))⟩, ⟨(some p67), none, (.mov (.t p0))⟩, ⟨(some p68), none, (.nchk (.t p67))⟩, ⟨(some p69), none, (.faddr 5 (.t p68))⟩, ⟨(some p70), none, (.load1 (.t p69))⟩, ⟨(some p71), none, (.mov (.t p1))⟩, ⟨(some p72), none, (.appendV 1 1 (.k (.c .nils)) (.t p71))⟩, ⟨(some p73), none, (.bslice 1 1 [.nils] [(0, 1, (.t p72))])⟩, ⟨(some p74), none, (.appendV 1 24 (.t p70) (.t p73))⟩, ⟨(some p75), none, (.nchk (.t p66))⟩, ⟨(some p76), none, (.faddr 5 (.t p75))⟩, ⟨none, none, (.store 1 (.t p76) (.t p74))⟩] [[], [], [], [], [], [], [4], [], [], [], [], []])
 (.seq (.reg [⟨(some p4), none, (.mov (.k (.c (.int .i64 0))))⟩])
 .ret)))))))),
 [.t p4]⟩
/-- farrier/tree.Pack -/
def c77 : IFunc := ⟨[p0],
 (.seq (.reg [⟨(some p2), none, (.mov (.k (.c .nils)))⟩])
 (.seq (.reg [⟨(some p3), none, (.mov (.k (.c .nils)))⟩])
 (.seq (.seq (.reg [⟨(some p6), none, (.mov (.t p0))⟩, ⟨(some p7), none, (.len .slice (.t p6))⟩, ⟨(some p8), none, (.mov (.k (.c (.int .i64 0))))⟩])
 (.block 0 (.loop (.seq (.reg [⟨(some p9), none, (.bin .lss .num (.t p8) (.t p7))⟩])
 (.seq (.cond (.t p9) .skip (.exit 0))
 (.seq (.block 1 (.seq (.reg [⟨(some p10), none, (.iaddrV 4 (.t p6) (.t p8))⟩, ⟨(some p11), none, (.loadN 4 (.t p10))⟩, ⟨(some p5), none, (.alloc [(.int .i64 0), (.str []), (.str []), .nils])⟩, ⟨none, none, (.store 4 (.t p5) (.t p11))⟩])
 (.dreg [⟨(some p12), none, (.mov (.t p3))⟩, ⟨(some p13), none, (.faddr 0 (.t p5))⟩, ⟨(some p14), none, (.load1 (.t p13))⟩, ⟨(some p16), none, (.faddr 1 (.t p5))⟩, ⟨(some p17), none, (.load1 (.t p16))⟩, ⟨(some p19), none, (.faddr 2 (.t p5))⟩, ⟨(some p20), none, (.load1 (.t p19))⟩, ⟨(some p22), none, (.faddr 3 (.t p5))⟩, ⟨(some p23), none, (.load1 (.t p22))⟩, ⟨(some p15), none, (.call 119 [(.t p14)])⟩, ⟨(some p18), none, (.call 120 [(.t p17)])⟩, ⟨(some p21), none, (.call 120 [(.t p20)])⟩, ⟨(some p24), none, (.call 121 [(.t p23)])⟩, ⟨(some p25), none, (.bslice 4 1 [.nils, .nils, .nils, .nils] [(0, 1, (.t p15)), (1, 1, (.t p18)), (2, 1, (.t p21)), (3, 1, (.t p24))])⟩, ⟨(some p26), none, (.appendV 1 24 (.t p12) (.t p25))⟩, ⟨(some p3), none, (.mov (.t p26))⟩] [[], [], [], [], [], [], [], [], [], [4, 6, 8], [6, 8], [8], [], [], [], []])))
 (.reg [⟨(some p27), none, (.bin .add .num (.t p8) (.k (.c (.int .i64 1))))⟩, ⟨(some p8), none, (.mov (.t p27))⟩])))))))
 (.seq (.reg [⟨(some p28), none, (.mov (.t p3))⟩, ⟨(some p29), none, (.call 122 [(.t p28)])⟩, ⟨(some p2), none, (.mov (.t p29))⟩])
 .ret)))),
 [.t p2]⟩
/-- (*farrier/vol.Vol).sweep -/
def c79 : IFunc := ⟨[p0],
 (.seq (.reg [⟨(some p1), none, (.box (.t p0))⟩])
 (.dreg [⟨(some p2), none, (.load1 (.t p1))⟩, ⟨(some p3), none, (.nchk (.t p2))⟩, ⟨(some p4), none, (.faddr 0 (.t p3))⟩, ⟨(some p5), none, (.load1 (.t p4))⟩, ⟨(some p6), none, (.load1 (.t p1))⟩, ⟨(some p7), none, (.nchk (.t p6))⟩, ⟨(some p8), none, (.faddr 0 (.t p7))⟩, ⟨(some p9), none, (.load1 (.t p8))⟩, ⟨(some p11), none, (.mkfn 128 [(.t p1)])⟩, ⟨(some p10), none, (.call 127 [(.t p9)])⟩, ⟨(some p12), none, (.call 126 [(.t p10), (.t p11)])⟩, ⟨(some p13), none, (.call 125 [(.t p5), (.t p12)])⟩] [[], [], [], [], [], [], [], [], [], [0, 3], [0, 3], []])),
 []⟩
/-- slices.Clone[[]int,int] -/
def c101 : IFunc := ⟨[p0],
 (.seq (.reg [⟨(some p2), none, (.mov (.k (.c .nils)))⟩])
 (.seq (.seq (.reg [⟨(some p3), none, (.mov (.t p0))⟩, ⟨(some p4), none, (.bin .eql .slice (.t p3) (.k (.c .nils)))⟩])
 (.cond (.t p4) (.seq (.reg [⟨(some p2), none, (.mov (.k (.c .nils)))⟩])
 .ret) .skip))
 (.seq (.reg [⟨(some p5), none, (.bslice 0 1 [] [])⟩, ⟨(some p6), none, (.mov (.t p0))⟩, ⟨(some p7), none, (.appendV 1 8 (.t p5) (.t p6))⟩, ⟨(some p2), none, (.mov (.t p7))⟩])
 .ret))),
 [.t p2]⟩
/-- farrier/log.Open -/
def c102 : IFunc := ⟨[p0],
 (.seq (.reg [⟨(some p2), none, (.mov (.k (.c .nilp)))⟩, ⟨(some p3), none, (.mov (.k (.c (.int .i64 0))))⟩])
 (.seq (.seq (.reg [⟨(some p15), none, (.mov (.t p0))⟩, ⟨(some p16), none, (.call 141 [(.t p15)])⟩, ⟨(some p17), none, (.bin .lss .num (.t p16) (.k (.c (.int .i64 6))))⟩])
 (.cond (.t p17) (.seq (.reg [⟨(some p2), none, (.mov (.k (.c .nilp)))⟩, ⟨(some p3), none, (.mov (.k (.c (.int .i64 1))))⟩])
 .ret) .skip))
 (.seq (.reg [⟨(some p18), none, (.mov (.t p0))⟩, ⟨(some p19), none, (.build [.nilp, (.int .i64 0), (.int .i64 0), (.int .i64 0), (.int .i64 0), .nils, (.bool false)] [(0, 1, (.t p18))])⟩, ⟨(some p20), none, (.box (.t p19))⟩, ⟨(some p4), none, (.mov (.t p20))⟩])
 (.seq (.seq (.reg [⟨(some p21), none, (.mov (.k (.c (.int .i64 0))))⟩])
 (.block 0 (.loop (.seq (.reg [⟨(some p22), none, (.bin .lss .num (.t p21) (.k (.c (.int .i64 2))))⟩])
 (.seq (.cond (.t p22) .skip (.exit 0))
 (.seq (.block 1 (.seq (.reg [⟨(some p23), none, (.mov (.t p21))⟩, ⟨(some p5), none, (.mov (.t p23))⟩])
 (.seq (.reg [⟨(some p25), none, (.mov (.t p0))⟩, ⟨(some p26), none, (.mov (.t p5))⟩, ⟨(some p27), none, (.call 142 [(.t p25), (.t p26)])⟩, ⟨(some p24), none, (.mov (.t p27))⟩, ⟨(some p28), none, (.ext (.t p24) 0)⟩, ⟨(some p29), none, (.ext (.t p24) 1)⟩, ⟨(some p6), none, (.alloc [(.int .u8 0), (.int .u8 0), (.int .u8 0), (.int .u8 0), (.int .u8 0), (.int .u8 0), (.int .u8 0), (.int .u8 0), (.int .u8 0), (.int .u8 0), (.int .u8 0), (.int .u8 0), (.int .u8 0), (.int .u8 0), (.int .u8 0), (.int .u8 0), (.int .u8 0), (.int .u8 0), (.int .u8 0), (.int .u8 0), (.int .u8 0), (.int .u8 0), (.int .u8 0), (.int .u8 0), (.int .u8 0), (.int .u8 0), (.int .u8 0), (.int .u8 0), (.int .u8 0), (.int .u8 0), (.int .u8 0), (.int .u8 0), (.int .u8 0), (.int .u8 0), (.int .u8 0), (.int .u8 0), (.int .u8 0), (.int .u8 0), (.int .u8 0), (.int .u8 0), (.int .u8 0), (.int .u8 0), (.int .u8 0), (.int .u8 0), (.int .u8 0), (.int .u8 0), (.int .u8 0), (.int .u8 0), (.int .u8 0), (.int .u8 0), (.int .u8 0), (.int .u8 0), (.int .u8 0), (.int .u8 0), (.int .u8 0), (.int .u8 0), (.int .u8 0), (.int .u8 0), (.int .u8 0), (.int .u8 0), (.int .u8 0), (.int .u8 0), (.int .u8 0), (.int .u8 0)])⟩, ⟨none, none, (.store 64 (.t p6) (.t p28))⟩, ⟨(some p7), none, (.mov (.t p29))⟩])
 (.seq (.seq (.reg [⟨(some p30), none, (.mov (.t p7))⟩, ⟨(some p31), none, (.bin .neq .num (.t p30) (.k (.c (.int .i64 0))))⟩])
 (.cond (.t p31) (.seq (.reg [⟨(some p32), none, (.mov (.t p7))⟩, ⟨(some p2), none, (.mov (.k (.c .nilp)))⟩, ⟨(some p3), none, (.mov (.t p32))⟩])
 .ret) .skip))
 (.seq (.reg [⟨(some p34), none, (.mov (.t p4))⟩, ⟨(some p35), none, (.loadN 64 (.t p6))⟩, ⟨(some p36), none, (.call 143 [(.t p34), (.t p35)])⟩, ⟨(some p33), none, (.mov (.t p36))⟩, ⟨(some p37), none, (.ext (.t p33) 0)⟩, ⟨(some p38), none, (.ext (.t p33) 1)⟩, ⟨(some p8), none, (.mov (.t p37))⟩, ⟨(some p9), none, (.mov (.t p38))⟩])
 (.seq (.reg [⟨(some p39), none, (.mov (.t p9))⟩, ⟨(some p40), none, (.mov (.t p39))⟩, ⟨(some p41), (some (p40, true)), (.mov (.t p8))⟩, ⟨(some p42), (some (p40, true)), (.mov (.t p4))⟩, ⟨(some p43), (some (p40, true)), (.nchk (.t p42))⟩, ⟨(some p44), (some (p40, true)), (.faddr 1 (.t p43))⟩, ⟨(some p45), (some (p40, true)), (.load1 (.t p44))⟩, ⟨(some p46), (some (p40, true)), (.bin .gtr .num (.t p41) (.t p45))⟩, ⟨(some p47), none, (.pick (.t p40) (.t p46) (.k (.c (.bool false))))⟩])
 (.cond (.t p47) (.reg [⟨(some p48), none, (.mov (.t p4))⟩, ⟨(some p49), none, (.mov (.t p4))⟩, ⟨(some p50), none, (.mov (.t p8))⟩, ⟨(some p51), none, (.mov (.t p5))⟩, ⟨(some p52), none, (.nchk (.t p48))⟩, ⟨(some p53), none, (.faddr 1 (.t p52))⟩, ⟨none, none, (.store 1 (.t p53) (.t p50))⟩, ⟨(some p54), none, (.nchk (.t p49))⟩, ⟨(some p55), none, (.faddr 3 (.t p54))⟩, ⟨none, none, (.store 1 (.t p55) (.t p51))⟩]) .skip)))))))
 (.reg [⟨(some p56), none, (.bin .add .num (.t p21) (.k (.c (.int .i64 1))))⟩, ⟨(some p21), none, (.mov (.t p56))⟩])))))))
 (.seq (.seq (.reg [⟨(some p57), none, (.mov (.t p4))⟩, ⟨(some p58), none, (.call 144 [(.t p57)])⟩, ⟨(some p10), none, (.mov (.t p58))⟩])
 (.seq (.reg [⟨(some p59), none, (.mov (.t p10))⟩, ⟨(some p60), none, (.bin .neq .num (.t p59) (.k (.c (.int .i64 0))))⟩])
 (.cond (.t p60) (.seq (.reg [⟨(some p61), none, (.mov (.t p10))⟩, ⟨(some p2), none, (.mov (.k (.c .nilp)))⟩, ⟨(some p3), none, (.mov (.t p61))⟩])
 .ret) .skip)))
 (.seq (.seq (.reg [⟨(some p62), none, (.mov (.t p4))⟩, ⟨(some p63), none, (.nchk (.t p62))⟩, ⟨(some p64), none, (.faddr 1 (.t p63))⟩, ⟨(some p65), none, (.load1 (.t p64))⟩, ⟨(some p66), none, (.bin .eql .num (.t p65) (.k (.c (.int .i64 0))))⟩])
 (.cond (.t p66) (.seq (.seq (.reg [⟨(some p67), none, (.mov (.t p4))⟩, ⟨(some p68), none, (.call 124 [(.t p67), (.k (.c .nils))])⟩, ⟨(some p11), none, (.mov (.t p68))⟩])
 (.seq (.reg [⟨(some p69), none, (.mov (.t p11))⟩, ⟨(some p70), none, (.bin .neq .num (.t p69) (.k (.c (.int .i64 0))))⟩])
 (.cond (.t p70) (.seq (.reg [⟨(some p71), none, (.mov (.t p11))⟩, ⟨(some p2), none, (.mov (.k (.c .nilp)))⟩, ⟨(some p3), none, (.mov (.t p71))⟩])
 .ret) .skip)))
 (.seq (.reg [⟨(some p72), none, (.mov (.t p4))⟩, ⟨(some p2), none, (.mov (.t p72))⟩, ⟨(some p3), none, (.mov (.k (.c (.int .i64 0))))⟩])
 .ret)) .skip))
 (.block 2 (.loop (.block 3 (.seq (.reg [⟨(some p74), none, (.mov (.t p4))⟩, ⟨(some p75), none, (.call 145 [(.t p74)])⟩, ⟨(some p73), none, (.mov (.t p75))⟩, ⟨(some p76), none, (.ext (.t p73) 0)⟩, ⟨(some p77), none, (.ext (.t p73) 1)⟩, ⟨(some p78), none, (.ext (.t p73) 2)⟩, ⟨(some p12), none, (.mov (.t p76))⟩, ⟨(some p13), none, (.mov (.t p77))⟩, ⟨(some p14), none, (.mov (.t p78))⟩])
 (.seq (.seq (.reg [⟨(some p79), none, (.mov (.t p14))⟩, ⟨(some p80), none, (.bin .neq .num (.t p79) (.k (.c (.int .i64 0))))⟩])
 (.cond (.t p80) (.seq (.reg [⟨(some p81), none, (.mov (.t p14))⟩, ⟨(some p2), none, (.mov (.k (.c .nilp)))⟩, ⟨(some p3), none, (.mov (.t p81))⟩])
 .ret) .skip))
 (.seq (.seq (.reg [⟨(some p82), none, (.mov (.t p13))⟩, ⟨(some p83), none, (.bin .eql .num (.t p82) (.k (.c (.int .i64 0))))⟩])
 (.cond (.t p83) (.seq (.reg [⟨(some p84), none, (.mov (.t p4))⟩, ⟨(some p2), none, (.mov (.t p84))⟩, ⟨(some p3), none, (.mov (.k (.c (.int .i64 0))))⟩])
 .ret) .skip))
 (.dreg [⟨(some p85), none, (.mov (.t p4))⟩, ⟨(some p86), none, (.mov (.t p4))⟩, ⟨(some p87), none, (.mov (.t p4))⟩, ⟨(some p88), none, (.nchk (.t p87))⟩, ⟨(some p89), none, (.faddr 5 (.t p88))⟩, ⟨(some p90), none, (.load1 (.t p89))⟩, ⟨(some p91), none, (.mov (.t p12))⟩, ⟨(some p94), none, (.mov (.t p4))⟩, ⟨(some p95), none, (.nchk (.t p94))⟩, ⟨(some p96), none, (.faddr 4 (.t p95))⟩, ⟨(some p97), none, (.load1 (.t p96))⟩, ⟨(some p98), none, (.mov (.t p13))⟩, ⟨(some p99), none, (.bin .add .num (.t p97) (.t p98))⟩, ⟨(some p92), none, (.bslice 1 1 [.nils] [(0, 1, (.t p91))])⟩, ⟨(some p93), none, (.appendV 1 24 (.t p90) (.t p92))⟩, ⟨(some p100), none, (.nchk (.t p85))⟩, ⟨(some p101), none, (.faddr 5 (.t p100))⟩, ⟨none, none, (.store 1 (.t p101) (.t p93))⟩, ⟨(some p102), none, (.nchk (.t p86))⟩, ⟨(some p103), none, (.faddr 4 (.t p102))⟩, ⟨none, none, (.store 1 (.t p103) (.t p99))⟩] [[], [], [], [], [], [], [], [], [], [], [], [], [], [], [10, 12], [], [], [12], [], [], []]))))))))))))),
 [.t p2, .t p3]⟩
/-- farrier/tree.New -/
def c103 : IFunc := ⟨[p0],
 (.seq (.reg [⟨(some p2), none, (.mov (.k (.c .nilp)))⟩])
 (.seq (.reg [⟨(some p3), none, .mkmap⟩, ⟨(some p4), none, .mkmap⟩, ⟨(some p5), none, (.build [(.bool false), (.int .i64 0), .nils, .nilm] [(0, 1, (.k (.c (.bool true)))), (1, 1, (.k (.c (.int .i64 1)))), (3, 1, (.t p4))])⟩, ⟨(some p6), none, (.box (.t p5))⟩, ⟨none, none, (.mupd true (.t p3) (.k (.c (.int .i64 1))) (.t p6))⟩, ⟨(some p7), none, (.mov (.t p3))⟩, ⟨(some p8), none, (.mov (.t p0))⟩, ⟨(some p9), none, (.max [(.k (.c (.int .i64 0))), (.t p8)])⟩, ⟨(some p10), none, (.build [.nilm, (.int .i64 0), (.int .i64 0)] [(0, 1, (.t p7)), (1, 1, (.k (.c (.int .i64 2)))), (2, 1, (.t p9))])⟩, ⟨(some p11), none, (.box (.t p10))⟩, ⟨(some p2), none, (.mov (.t p11))⟩])
 .ret)),
 [.t p2]⟩
/-- (*farrier/log.Log).List -/
def c104 : IFunc := ⟨[p0],
 (.seq (.reg [⟨(some p2), none, (.mov (.k (.c .nils)))⟩])
 (.seq (.reg [⟨(some p3), none, (.mov (.k (.c .nils)))⟩])
 (.seq (.seq (.reg [⟨(some p6), none, (.mov (.t p0))⟩, ⟨(some p7), none, (.nchk (.t p6))⟩, ⟨(some p8), none, (.faddr 5 (.t p7))⟩, ⟨(some p9), none, (.load1 (.t p8))⟩, ⟨(some p10), none, (.len .slice (.t p9))⟩, ⟨(some p11), none, (.mov (.k (.c (.int .i64 0))))⟩])
 (.block 0 (.loop (.seq (.reg [⟨(some p12), none, (.bin .lss .num (.t p11) (.t p10))⟩])
 (.seq (.cond (.t p12) .skip (.exit 0))
 (.seq (.block 1 (.seq (.reg [⟨(some p13), none, (.iaddrV 1 (.t p9) (.t p11))⟩, ⟨(some p14), none, (.load1 (.t p13))⟩, ⟨(some p5), none, (.mov (.t p14))⟩])
 (.reg [⟨(some p15), none, (.mov (.t p3))⟩, ⟨(some p16), none, (.mov (.t p5))⟩, ⟨(some p17), none, (.appendV 1 1 (.k (.c .nils)) (.t p16))⟩, ⟨(some p18), none, (.bslice 1 1 [.nils] [(0, 1, (.t p17))])⟩, ⟨(some p19), none, (.appendV 1 24 (.t p15) (.t p18))⟩, ⟨(some p3), none, (.mov (.t p19))⟩])))
 (.reg [⟨(some p20), none, (.bin .add .num (.t p11) (.k (.c (.int .i64 1))))⟩, ⟨(some p11), none, (.mov (.t p20))⟩])))))))
 (.seq (.reg [⟨(some p21), none, (.mov (.t p3))⟩, ⟨(some p2), none, (.mov (.t p21))⟩])
 .ret)))),
 [.t p2]⟩
/-- (*farrier/tree.Tree).find -/
def c110 : IFunc := ⟨[p0, p1],
 (.seq (.reg [⟨(some p4), none, (.mov (.k (.c (.int .i64 0))))⟩])
 (.seq (.reg [⟨(some p11), none, (.mov (.t p1))⟩, ⟨(some p12), none, (.call 159 [(.t p11)])⟩, ⟨(some p10), none, (.mov (.t p12))⟩, ⟨(some p13), none, (.ext (.t p10) 0)⟩, ⟨(some p14), none, (.ext (.t p10) 1)⟩, ⟨(some p5), none, (.mov (.t p13))⟩, ⟨(some p6), none, (.mov (.t p14))⟩])
 (.seq (.seq (.reg [⟨(some p15), none, (.mov (.t p6))⟩, ⟨(some p16), none, (.not (.t p15))⟩])
 (.cond (.t p16) (.seq (.reg [⟨(some p4), none, (.mov (.k (.c (.int .i64 0))))⟩])
 .ret) .skip))
 (.seq (.reg [⟨(some p7), none, (.mov (.k (.c (.int .i64 1))))⟩])
 (.seq (.seq (.reg [⟨(some p17), none, (.mov (.t p5))⟩, ⟨(some p18), none, (.len .slice (.t p17))⟩, ⟨(some p19), none, (.mov (.k (.c (.int .i64 0))))⟩])
 (.block 0 (.loop (.seq (.reg [⟨(some p20), none, (.bin .lss .num (.t p19) (.t p18))⟩])
 (.seq (.cond (.t p20) .skip (.exit 0))
 (.seq (.block 1 (.seq (.reg [⟨(some p21), none, (.iaddrV 1 (.t p17) (.t p19))⟩, ⟨(some p22), none, (.load1 (.t p21))⟩, ⟨(some p9), none, (.mov (.t p22))⟩])
 (.seq (.reg [⟨(some p23), none, (.mov (.t p0))⟩, ⟨(some p24), none, (.nchk (.t p23))⟩, ⟨(some p25), none, (.faddr 0 (.t p24))⟩, ⟨(some p26), none, (.load1 (.t p25))⟩, ⟨(some p27), none, (.mov (.t p7))⟩, ⟨(some p28), none, (.look true (.c .nilp) false (.t p26) (.t p27))⟩, ⟨(some p29), none, (.nchk (.t p28))⟩, ⟨(some p30), none, (.faddr 3 (.t p29))⟩, ⟨(some p31), none, (.load1 (.t p30))⟩, ⟨(some p32), none, (.mov (.t p9))⟩, ⟨(some p33), none, (.look false (.c (.int .i64 0)) false (.t p31) (.t p32))⟩, ⟨(some p7), none, (.mov (.t p33))⟩])
 (.seq (.reg [⟨(some p34), none, (.mov (.t p7))⟩, ⟨(some p35), none, (.bin .eql .num (.t p34) (.k (.c (.int .i64 0))))⟩])
 (.cond (.t p35) (.seq (.reg [⟨(some p4), none, (.mov (.k (.c (.int .i64 0))))⟩])
 .ret) .skip)))))
 (.reg [⟨(some p36), none, (.bin .add .num (.t p19) (.k (.c (.int .i64 1))))⟩, ⟨(some p19), none, (.mov (.t p36))⟩])))))))
 (.seq (.reg [⟨(some p37), none, (.mov (.t p7))⟩, ⟨(some p4), none, (.mov (.t p37))⟩])
 .ret)))))),
 [.t p4]⟩
/-- (*farrier/tree.Tree).step -/
def c112 : IFunc := ⟨[p0, p1],
 (.seq (.reg [⟨(some p3), none, (.box (.t p1))⟩, ⟨(some p4), none, (.mov (.k (.c (.int .i64 0))))⟩])
 (.seq (.seq (.reg [⟨(some p10), none, (.faddr 0 (.t p3))⟩, ⟨(some p11), none, (.load1 (.t p10))⟩, ⟨(some p12), none, (.bin .lss .num (.t p11) (.k (.c (.int .i64 0))))⟩, ⟨(some p13), none, (.mov (.t p12))⟩, ⟨(some p14), (some (p13, false)), (.faddr 0 (.t p3))⟩, ⟨(some p15), (some (p13, false)), (.load1 (.t p14))⟩, ⟨(some p16), (some (p13, false)), (.bin .gtr .num (.t p15) (.k (.c (.int .i64 6))))⟩, ⟨(some p17), none, (.pick (.t p13) (.k (.c (.bool true))) (.t p16))⟩])
 (.cond (.t p17) (.seq (.reg [⟨(some p4), none, (.mov (.k (.c (.int .i64 1))))⟩])
 .ret) .skip))
 (.seq (.reg [⟨(some p19), none, (.mov (.t p0))⟩, ⟨(some p20), none, (.faddr 1 (.t p3))⟩, ⟨(some p21), none, (.load1 (.t p20))⟩, ⟨(some p22), none, (.call 161 [(.t p19), (.t p21)])⟩, ⟨(some p18), none, (.mov (.t p22))⟩, ⟨(some p23), none, (.ext (.t p18) 0)⟩, ⟨(some p24), none, (.ext (.t p18) 1)⟩, ⟨(some p25), none, (.ext (.t p18) 2)⟩, ⟨(some p5), none, (.mov (.t p23))⟩, ⟨(some p6), none, (.mov (.t p24))⟩, ⟨(some p7), none, (.mov (.t p25))⟩])
 (.seq (.seq (.reg [⟨(some p26), none, (.mov (.t p7))⟩, ⟨(some p27), none, (.bin .neq .num (.t p26) (.k (.c (.int .i64 0))))⟩])
 (.cond (.t p27) (.seq (.reg [⟨(some p28), none, (.mov (.t p7))⟩, ⟨(some p4), none, (.mov (.t p28))⟩])
 .ret) .skip))
 (.seq (.seq (.reg [⟨(some p29), none, (.faddr 3 (.t p3))⟩, ⟨(some p30), none, (.load1 (.t p29))⟩, ⟨(some p31), none, (.len .slice (.t p30))⟩, ⟨(some p32), none, (.bin .gtr .num (.t p31) (.k (.c (.int .i64 3500))))⟩])
 (.cond (.t p32) (.seq (.reg [⟨(some p4), none, (.mov (.k (.c (.int .i64 6))))⟩])
 .ret) .skip))
 (.seq (.reg [⟨(some p33), none, (.mov (.t p5))⟩, ⟨(some p34), none, (.nchk (.t p33))⟩, ⟨(some p35), none, (.faddr 3 (.t p34))⟩, ⟨(some p36), none, (.load1 (.t p35))⟩, ⟨(some p37), none, (.mov (.t p6))⟩, ⟨(some p38), none, (.look false (.c (.int .i64 0)) false (.t p36) (.t p37))⟩, ⟨(some p8), none, (.mov (.t p38))⟩])
 (.seq (.seq (.reg [⟨(some p39), none, (.faddr 0 (.t p3))⟩, ⟨(some p40), none, (.load1 (.t p39))⟩])
 (.block 0 (.seq (.seq (.reg [⟨(some p42), none, (.bin .eql .num (.t p40) (.k (.c (.int .i64 0))))⟩, ⟨(some p41), none, (.mov (.t p42))⟩])
 (.cond (.t p41) .skip (.reg [⟨(some p43), none, (.bin .eql .num (.t p40) (.k (.c (.int .i64 2))))⟩, ⟨(some p41), none, (.mov (.t p43))⟩])))
 (.cond (.t p41) (.seq (.seq (.reg [⟨(some p44), none, (.mov (.t p8))⟩, ⟨(some p45), none, (.bin .neq .num (.t p44) (.k (.c (.int .i64 0))))⟩])
 (.cond (.t p45) (.seq (.reg [⟨(some p4), none, (.mov (.k (.c (.int .i64 9))))⟩])
 .ret) .skip))
 (.seq (.seq (.reg [⟨(some p46), none, (.faddr 0 (.t p3))⟩, ⟨(some p47), none, (.load1 (.t p46))⟩, ⟨(some p48), none, (.bin .eql .num (.t p47) (.k (.c (.int .i64 0))))⟩])
 (.cond (.t p48) (.reg [⟨(some p49), none, (.mov (.t p0))⟩, ⟨(some p50), none, (.mov (.t p5))⟩, ⟨(some p51), none, (.mov (.t p6))⟩, ⟨(some p52), none, .mkmap⟩, ⟨(some p53), none, (.build [(.bool false), (.int .i64 0), .nils, .nilm] [(0, 1, (.k (.c (.bool true)))), (1, 1, (.k (.c (.int .i64 1)))), (3, 1, (.t p52))])⟩, ⟨(some p54), none, (.box (.t p53))⟩, ⟨(some p55), none, (.call 162 [(.t p49), (.t p50), (.t p51), (.t p54)])⟩]) (.reg [⟨(some p56), none, (.mov (.t p0))⟩, ⟨(some p57), none, (.mov (.t p5))⟩, ⟨(some p58), none, (.mov (.t p6))⟩, ⟨(some p59), none, (.faddr 3 (.t p3))⟩, ⟨(some p60), none, (.load1 (.t p59))⟩, ⟨(some p61), none, (.call 163 [(.t p60)])⟩, ⟨(some p62), none, (.build [(.bool false), (.int .i64 0), .nils, .nilm] [(1, 1, (.k (.c (.int .i64 1)))), (2, 1, (.t p61))])⟩, ⟨(some p63), none, (.box (.t p62))⟩, ⟨(some p64), none, (.call 162 [(.t p56), (.t p57), (.t p58), (.t p63)])⟩])))
 (.seq (.reg [⟨(some p4), none, (.mov (.k (.c (.int .i64 0))))⟩])
 .ret))) .skip))))
 (.seq (.seq (.reg [⟨(some p65), none, (.mov (.t p8))⟩, ⟨(some p66), none, (.bin .eql .num (.t p65) (.k (.c (.int .i64 0))))⟩])
 (.cond (.t p66) (.seq (.reg [⟨(some p4), none, (.mov (.k (.c (.int .i64 8))))⟩])
 .ret) .skip))
 (.seq (.seq (.reg [⟨(some p67), none, (.mov (.t p0))⟩, ⟨(some p68), none, (.nchk (.t p67))⟩, ⟨(some p69), none, (.faddr 0 (.t p68))⟩, ⟨(some p70), none, (.load1 (.t p69))⟩, ⟨(some p71), none, (.mov (.t p8))⟩, ⟨(some p72), none, (.look true (.c .nilp) false (.t p70) (.t p71))⟩, ⟨(some p9), none, (.mov (.t p72))⟩])
 (.seq (.reg [⟨(some p73), none, (.faddr 0 (.t p3))⟩, ⟨(some p74), none, (.load1 (.t p73))⟩])
 (.block 1 (.seq (.reg [⟨(some p86), none, (.bin .eql .num (.t p74) (.k (.c (.int .i64 1))))⟩, ⟨(some p85), none, (.mov (.t p86))⟩])
 (.cond (.t p85) (.seq (.seq (.reg [⟨(some p87), none, (.mov (.t p9))⟩, ⟨(some p88), none, (.nchk (.t p87))⟩, ⟨(some p89), none, (.faddr 0 (.t p88))⟩, ⟨(some p90), none, (.load1 (.t p89))⟩, ⟨(some p91), none, (.not (.t p90))⟩])
 (.cond (.t p91) (.seq (.reg [⟨(some p4), none, (.mov (.k (.c (.int .i64 11))))⟩])
 .ret) .skip))
 (.seq (.seq (.reg [⟨(some p92), none, (.mov (.t p9))⟩, ⟨(some p93), none, (.nchk (.t p92))⟩, ⟨(some p94), none, (.faddr 3 (.t p93))⟩, ⟨(some p95), none, (.load1 (.t p94))⟩, ⟨(some p96), none, (.len .map (.t p95))⟩, ⟨(some p97), none, (.bin .gtr .num (.t p96) (.k (.c (.int .i64 0))))⟩])
 (.cond (.t p97) (.seq (.reg [⟨(some p4), none, (.mov (.k (.c (.int .i64 12))))⟩])
 .ret) .skip))
 (.seq (.reg [⟨(some p98), none, (.mov (.t p5))⟩, ⟨(some p99), none, (.nchk (.t p98))⟩, ⟨(some p100), none, (.faddr 3 (.t p99))⟩, ⟨(some p101), none, (.load1 (.t p100))⟩, ⟨(some p102), none, (.mov (.t p6))⟩, ⟨none, none, (.delete false (.t p101) (.t p102))⟩])
 (.reg [⟨(some p103), none, (.mov (.t p0))⟩, ⟨(some p104), none, (.nchk (.t p103))⟩, ⟨(some p105), none, (.faddr 0 (.t p104))⟩, ⟨(some p106), none, (.load1 (.t p105))⟩, ⟨(some p107), none, (.mov (.t p8))⟩, ⟨none, none, (.delete true (.t p106) (.t p107))⟩])))) (.seq (.seq (.reg [⟨(some p75), none, (.mov (.t p9))⟩, ⟨(some p76), none, (.nchk (.t p75))⟩, ⟨(some p77), none, (.faddr 0 (.t p76))⟩, ⟨(some p78), none, (.load1 (.t p77))⟩])
 (.cond (.t p78) (.seq (.reg [⟨(some p4), none, (.mov (.k (.c (.int .i64 10))))⟩])
 .ret) .skip))
 (.seq (.reg [⟨(some p79), none, (.mov (.t p0))⟩, ⟨(some p80), none, (.loadN 4 (.t p3))⟩, ⟨(some p81), none, (.mov (.t p5))⟩, ⟨(some p82), none, (.mov (.t p6))⟩, ⟨(some p83), none, (.mov (.t p8))⟩, ⟨(some p84), none, (.call 164 [(.t p79), (.t p80), (.t p81), (.t p82), (.t p83)])⟩, ⟨(some p4), none, (.mov (.t p84))⟩])
 .ret)))))))
 (.seq (.reg [⟨(some p4), none, (.mov (.k (.c (.int .i64 0))))⟩])
 .ret)))))))))),
 [.t p4]⟩
/-- farrier/log.sectors -/
def c114 : IFunc := ⟨[p0],
 (.seq (.reg [⟨(some p2), none, (.mov (.k (.c (.int .i64 0))))⟩])
 (.seq (.reg [⟨(some p3), none, (.mov (.t p0))⟩, ⟨(some p4), none, (.bin .add .num (.k (.c (.int .i64 16))) (.t p3))⟩, ⟨(some p5), none, (.bin .add .num (.t p4) (.k (.c (.int .i64 63))))⟩, ⟨(some p6), none, (.bin .sub .num (.t p5) (.k (.c (.int .i64 1))))⟩, ⟨(some p7), none, (.bin .quo .num (.t p6) (.k (.c (.int .i64 63))))⟩, ⟨(some p2), none, (.mov (.t p7))⟩])
 .ret)),
 [.t p2]⟩
/-- farrier/log.half -/
def c115 : IFunc := ⟨[p0],
 (.seq (.reg [⟨(some p2), none, (.mov (.k (.c (.int .i64 0))))⟩])
 (.seq (.reg [⟨(some p3), none, (.mov (.t p0))⟩, ⟨(some p4), none, (.call 141 [(.t p3)])⟩, ⟨(some p5), none, (.bin .sub .num (.t p4) (.k (.c (.int .i64 2))))⟩, ⟨(some p6), none, (.bin .quo .num (.t p5) (.k (.c (.int .i64 2))))⟩, ⟨(some p2), none, (.mov (.t p6))⟩])
 .ret)),
 [.t p2]⟩
/-- (*farrier/log.Log).put -/
def c116 : IFunc := ⟨[p0, p1, p2, p3],
 (.seq (.reg [⟨(some p8), none, (.mov (.k (.c (.int .i64 0))))⟩])
 (.seq (.dreg [⟨(some p14), none, (.mov (.t p2))⟩, ⟨(some p16), none, (.mov (.t p0))⟩, ⟨(some p17), none, (.nchk (.t p16))⟩, ⟨(some p18), none, (.faddr 1 (.t p17))⟩, ⟨(some p19), none, (.load1 (.t p18))⟩, ⟨(some p23), none, (.mov (.t p3))⟩, ⟨(some p15), none, (.call 119 [(.t p14)])⟩, ⟨(some p20), none, (.call 119 [(.t p19)])⟩, ⟨(some p21), none, (.bslice 2 1 [.nils, .nils] [(0, 1, (.t p15)), (1, 1, (.t p20))])⟩, ⟨(some p22), none, (.call 122 [(.t p21)])⟩, ⟨(some p24), none, (.bslice 2 1 [.nils, .nils] [(0, 1, (.t p22)), (1, 1, (.t p23))])⟩, ⟨(some p25), none, (.call 165 [(.t p24)])⟩, ⟨(some p9), none, (.mov (.t p25))⟩] [[], [], [], [], [], [], [4], [], [], [], [], [], []])
 (.seq (.dreg [⟨(some p26), none, (.mov (.t p3))⟩, ⟨(some p27), none, (.len .slice (.t p26))⟩, ⟨(some p29), none, (.mov (.t p2))⟩, ⟨(some p31), none, (.mov (.t p0))⟩, ⟨(some p32), none, (.nchk (.t p31))⟩, ⟨(some p33), none, (.faddr 1 (.t p32))⟩, ⟨(some p34), none, (.load1 (.t p33))⟩, ⟨(some p36), none, (.mov (.t p9))⟩, ⟨(some p37), none, (.cvInt .i64 (.t p36))⟩, ⟨(some p39), none, (.mov (.t p3))⟩, ⟨(some p28), none, (.call 119 [(.t p27)])⟩, ⟨(some p30), none, (.call 119 [(.t p29)])⟩, ⟨(some p35), none, (.call 119 [(.t p34)])⟩, ⟨(some p38), none, (.call 119 [(.t p37)])⟩, ⟨(some p40), none, (.bslice 5 1 [.nils, .nils, .nils, .nils, .nils] [(0, 1, (.t p28)), (1, 1, (.t p30)), (2, 1, (.t p35)), (3, 1, (.t p38)), (4, 1, (.t p39))])⟩, ⟨(some p41), none, (.call 122 [(.t p40)])⟩, ⟨(some p10), none, (.mov (.t p41))⟩] [[], [], [], [], [], [], [], [], [], [], [6], [6], [], [], [], [], []])
 (.seq (.seq (.reg [⟨(some p42), none, (.mov (.t p3))⟩, ⟨(some p43), none, (.len .slice (.t p42))⟩, ⟨(some p44), none, (.call 114 [(.t p43)])⟩, ⟨(some p45), none, (.mov (.k (.c (.int .i64 0))))⟩])
 (.block 0 (.loop (.seq (.reg [⟨(some p46), none, (.bin .lss .num (.t p45) (.t p44))⟩])
 (.seq (.cond (.t p46) .skip (.exit 0))
 (.seq (.block 1 (.seq (.reg [⟨(some p47), none, (.mov (.t p45))⟩, ⟨(some p11), none, (.mov (.t p47))⟩])
 (.seq (.reg [⟨(some p12), none, (.alloc [(.int .u8 0), (.int .u8 0), (.int .u8 0), (.int .u8 0), (.int .u8 0), (.int .u8 0), (.int .u8 0), (.int .u8 0), (.int .u8 0), (.int .u8 0), (.int .u8 0), (.int .u8 0), (.int .u8 0), (.int .u8 0), (.int .u8 0), (.int .u8 0), (.int .u8 0), (.int .u8 0), (.int .u8 0), (.int .u8 0), (.int .u8 0), (.int .u8 0), (.int .u8 0), (.int .u8 0), (.int .u8 0), (.int .u8 0), (.int .u8 0), (.int .u8 0), (.int .u8 0), (.int .u8 0), (.int .u8 0), (.int .u8 0), (.int .u8 0), (.int .u8 0), (.int .u8 0), (.int .u8 0), (.int .u8 0), (.int .u8 0), (.int .u8 0), (.int .u8 0), (.int .u8 0), (.int .u8 0), (.int .u8 0), (.int .u8 0), (.int .u8 0), (.int .u8 0), (.int .u8 0), (.int .u8 0), (.int .u8 0), (.int .u8 0), (.int .u8 0), (.int .u8 0), (.int .u8 0), (.int .u8 0), (.int .u8 0), (.int .u8 0), (.int .u8 0), (.int .u8 0), (.int .u8 0), (.int .u8 0), (.int .u8 0), (.int .u8 0), (.int .u8 0), (.int .u8 0)])⟩])
 (.seq (.reg [⟨(some p48), none, (.iaddrA 64 1 (.t p12) (.k (.c (.int .i64 0))))⟩, ⟨none, none, (.store 1 (.t p48) (.k (.c (.int .u8 3))))⟩])
 (.seq (.seq (.reg [⟨(some p49), none, (.mov (.t p11))⟩, ⟨(some p50), none, (.bin .eql .num (.t p49) (.k (.c (.int .i64 0))))⟩])
 (.cond (.t p50) (.reg [⟨(some p51), none, (.iaddrA 64 1 (.t p12) (.k (.c (.int .i64 0))))⟩, ⟨none, none, (.store 1 (.t p51) (.k (.c (.int .u8 2))))⟩]) .skip))
 (.seq (.reg [⟨(some p52), none, (.mov (.t p10))⟩, ⟨(some p53), none, (.slcA 64 1 (.t p12) (some (.k (.c (.int .i64 1)))) none)⟩, ⟨(some p54), none, (.mov (.t p10))⟩, ⟨(some p55), none, (.copyV 1 (.t p53) (.t p54))⟩, ⟨(some p56), none, (.slcV 1 (.t p52) (some (.t p55)) none none)⟩, ⟨(some p10), none, (.mov (.t p56))⟩])
 (.seq (.dreg [⟨(some p57), none, (.mov (.t p0))⟩, ⟨(some p58), none, (.nchk (.t p57))⟩, ⟨(some p59), none, (.faddr 0 (.t p58))⟩, ⟨(some p60), none, (.load1 (.t p59))⟩, ⟨(some p61), none, (.mov (.t p0))⟩, ⟨(some p62), none, (.nchk (.t p61))⟩, ⟨(some p63), none, (.faddr 3 (.t p62))⟩, ⟨(some p64), none, (.load1 (.t p63))⟩, ⟨(some p65), none, (.mov (.t p0))⟩, ⟨(some p66), none, (.nchk (.t p65))⟩, ⟨(some p67), none, (.faddr 0 (.t p66))⟩, ⟨(some p68), none, (.load1 (.t p67))⟩, ⟨(some p72), none, (.mov (.t p1))⟩, ⟨(some p74), none, (.mov (.t p11))⟩, ⟨(some p76), none, (.loadN 64 (.t p12))⟩, ⟨(some p69), none, (.call 115 [(.t p68)])⟩, ⟨(some p70), none, (.bin .mul .num (.t p64) (.t p69))⟩, ⟨(some p71), none, (.bin .add .num (.k (.c (.int .i64 2))) (.t p70))⟩, ⟨(some p73), none, (.bin .add .num (.t p71) (.t p72))⟩, ⟨(some p75), none, (.bin .add .num (.t p73) (.t p74))⟩, ⟨(some p77), none, (.call 166 [(.t p60), (.t p75), (.t p76)])⟩, ⟨(some p13), none, (.mov (.t p77))⟩] [[], [], [], [], [], [], [], [], [], [], [], [], [], [], [], [3, 7, 14], [], [], [], [], [], []])
 (.seq (.reg [⟨(some p78), none, (.mov (.t p13))⟩, ⟨(some p79), none, (.bin .neq .num (.t p78) (.k (.c (.int .i64 0))))⟩])
 (.cond (.t p79) (.seq (.reg [⟨(some p80), none, (.mov (.t p13))⟩, ⟨(some p8), none, (.mov (.t p80))⟩])
 .ret) .skip)))))))))
 (.reg [⟨(some p81), none, (.bin .add .num (.t p45) (.k (.c (.int .i64 1))))⟩, ⟨(some p45), none, (.mov (.t p81))⟩])))))))
 (.seq (.reg [⟨(some p8), none, (.mov (.k (.c (.int .i64 0))))⟩])
 .ret))))),
 [.t p8]⟩
/-- (*farrier/disk.Disk).Flush -/
def c117 : IFunc := ⟨[p0],
 (.seq (.reg [⟨(some p2), none, (.mov (.k (.c (.int .i64 0))))⟩])
 (.seq (.seq (.reg [⟨(some p5), none, (.mov (.t p0))⟩, ⟨(some p6), none, (.nchk (.t p5))⟩, ⟨(some p7), none, (.faddr 2 (.t p6))⟩, ⟨(some p8), none, (.load1 (.t p7))⟩])
 (.cond (.t p8) (.seq (.reg [⟨(some p2), none, (.mov (.k (.c (.int .i64 3))))⟩])
 .ret) .skip))
 (.seq (.seq (.reg [⟨(some p9), none, (.mov (.t p0))⟩, ⟨(some p10), none, (.call 167 [(.t p9)])⟩, ⟨(some p11), none, (.not (.t p10))⟩])
 (.cond (.t p11) (.seq (.reg [⟨(some p2), none, (.mov (.k (.c (.int .i64 3))))⟩])
 .ret) .skip))
 (.seq (.seq (.reg [⟨(some p12), none, (.mov (.t p0))⟩, ⟨(some p13), none, (.nchk (.t p12))⟩, ⟨(some p14), none, (.faddr 1 (.t p13))⟩, ⟨(some p15), none, (.load1 (.t p14))⟩, ⟨(some p16), none, (.len .slice (.t p15))⟩, ⟨(some p17), none, (.mov (.k (.c (.int .i64 0))))⟩])
 (.block 0 (.loop (.seq (.reg [⟨(some p18), none, (.bin .lss .num (.t p17) (.t p16))⟩])
 (.seq (.cond (.t p18) .skip (.exit 0))
 (.seq (.block 1 (.seq (.reg [⟨(some p19), none, (.iaddrV 65 (.t p15) (.t p17))⟩, ⟨(some p20), none, (.loadN 65 (.t p19))⟩, ⟨(some p4), none, (.alloc [(.int .i64 0), (.int .u8 0), (.int .u8 0), (.int .u8 0), (.int .u8 0), (.int .u8 0), (.int .u8 0), (.int .u8 0), (.int .u8 0), (.int .u8 0), (.int .u8 0), (.int .u8 0), (.int .u8 0), (.int .u8 0), (.int .u8 0), (.int .u8 0), (.int .u8 0), (.int .u8 0), (.int .u8 0), (.int .u8 0), (.int .u8 0), (.int .u8 0), (.int .u8 0), (.int .u8 0), (.int .u8 0), (.int .u8 0), (.int .u8 0), (.int .u8 0), (.int .u8 0), (.int .u8 0), (.int .u8 0), (.int .u8 0), (.int .u8 0), (.int .u8 0), (.int .u8 0), (.int .u8 0), (.int .u8 0), (.int .u8 0), (.int .u8 0), (.int .u8 0), (.int .u8 0), (.int .u8 0), (.int .u8 0), (.int .u8 0), (.int .u8 0), (.int .u8 0), (.int .u8 0), (.int .u8 0), (.int .u8 0), (.int .u8 0), (.int .u8 0), (.int .u8 0), (.int .u8 0), (.int .u8 0), (.int .u8 0), (.int .u8 0), (.int .u8 0), (.int .u8 0), (.int .u8 0), (.int .u8 0), (.int .u8 0), (.int .u8 0), (.int .u8 0), (.int .u8 0), (.int .u8 0)])⟩, ⟨none, none, (.store 65 (.t p4) (.t p20))⟩])
 (.dreg [⟨(some p21), none, (.mov (.t p0))⟩, ⟨(some p22), none, (.nchk (.t p21))⟩, ⟨(some p23), none, (.faddr 0 (.t p22))⟩, ⟨(some p24), none, (.load1 (.t p23))⟩, ⟨(some p25), none, (.faddr 0 (.t p4))⟩, ⟨(some p26), none, (.load1 (.t p25))⟩, ⟨(some p27), none, (.faddr 1 (.t p4))⟩, ⟨(some p28), none, (.loadN 64 (.t p27))⟩, ⟨(some p29), none, (.iaddrV 64 (.t p24) (.t p26))⟩, ⟨none, none, (.store 64 (.t p29) (.t p28))⟩] [[], [], [], [], [], [], [], [], [], []])))
 (.reg [⟨(some p30), none, (.bin .add .num (.t p17) (.k (.c (.int .i64 1))))⟩, ⟨(some p17), none, (.mov (.t p30))⟩])))))))
 (.seq (.reg [⟨(some p31), none, (.mov (.t p0))⟩, ⟨(some p32), none, (.nchk (.t p31))⟩, ⟨(some p33), none, (.faddr 1 (.t p32))⟩, ⟨none, none, (.store 1 (.t p33) (.k (.c .nils)))⟩])
 (.seq (.reg [⟨(some p2), none, (.mov (.k (.c (.int .i64 0))))⟩])
 .ret)))))),
 [.t p2]⟩
/-- (*farrier/log.Log).die -/
def c118 : IFunc := ⟨[p0, p1],
 (.seq (.reg [⟨(some p4), none, (.mov (.k (.c (.int .i64 0))))⟩])
 (.seq (.reg [⟨(some p5), none, (.mov (.t p0))⟩, ⟨(some p6), none, (.mov (.t p0))⟩, ⟨(some p7), none, (.nchk (.t p6))⟩, ⟨(some p8), none, (.faddr 6 (.t p7))⟩, ⟨(some p9), none, (.load1 (.t p8))⟩, ⟨(some p10), none, (.mov (.t p9))⟩, ⟨(some p11), (some (p10, false)), (.mov (.t p1))⟩, ⟨(some p12), (some (p10, false)), (.bin .neq .num (.t p11) (.k (.c (.int .i64 0))))⟩, ⟨(some p13), none, (.pick (.t p10) (.k (.c (.bool true))) (.t p12))⟩, ⟨(some p14), none, (.nchk (.t p5))⟩, ⟨(some p15), none, (.faddr 6 (.t p14))⟩, ⟨none, none, (.store 1 (.t p15) (.t p13))⟩])
 (.seq (.reg [⟨(some p16), none, (.mov (.t p1))⟩, ⟨(some p4), none, (.mov (.t p16))⟩])
 .ret))),
 [.t p4]⟩
/-- farrier/rec.Num -/
def c119 : IFunc := ⟨[p0],
 (.seq (.reg [⟨(some p2), none, (.mov (.k (.c .nils)))⟩])
 (.seq (.reg [⟨(some p3), none, (.mov (.t p0))⟩, ⟨(some p4), none, (.cvInt .u32 (.t p3))⟩, ⟨(some p5), none, (.call 168 [(.t p4)])⟩, ⟨(some p2), none, (.mov (.t p5))⟩])
 .ret)),
 [.t p2]⟩
/-- farrier/rec.Text -/
def c120 : IFunc := ⟨[p0],
 (.seq (.reg [⟨(some p2), none, (.mov (.k (.c .nils)))⟩])
 (.seq (.reg [⟨(some p3), none, (.mov (.t p0))⟩, ⟨(some p4), none, (.cvBytes (.t p3))⟩, ⟨(some p5), none, (.call 121 [(.t p4)])⟩, ⟨(some p2), none, (.mov (.t p5))⟩])
 .ret)),
 [.t p2]⟩
/-- farrier/rec.Raw -/
def c121 : IFunc := ⟨[p0],
 (.seq (.reg [⟨(some p2), none, (.mov (.k (.c .nils)))⟩])
 (.seq (.reg [⟨(some p3), none, (.mov (.t p0))⟩, ⟨(some p4), none, (.len .slice (.t p3))⟩, ⟨(some p5), none, (.cvInt .u32 (.t p4))⟩, ⟨(some p6), none, (.call 168 [(.t p5)])⟩, ⟨(some p7), none, (.mov (.t p0))⟩, ⟨(some p8), none, (.appendV 1 1 (.t p6) (.t p7))⟩, ⟨(some p2), none, (.mov (.t p8))⟩])
 .ret)),
 [.t p2]⟩
/-- farrier/rec.Pack -/
def c122 : IFunc := ⟨[p0],
 (.seq (.reg [⟨(some p2), none, (.mov (.k (.c .nils)))⟩])
 (.seq (.reg [⟨(some p3), none, (.mov (.k (.c .nils)))⟩])
 (.seq (.seq (.reg [⟨(some p6), none, (.mov (.t p0))⟩, ⟨(some p7), none, (.len .slice (.t p6))⟩, ⟨(some p8), none, (.mov (.k (.c (.int .i64 0))))⟩])
 (.block 0 (.loop (.seq (.reg [⟨(some p9), none, (.bin .lss .num (.t p8) (.t p7))⟩])
 (.seq (.cond (.t p9) .skip (.exit 0))
 (.seq (.block 1 (.seq (.reg [⟨(some p10), none, (.iaddrV 1 (.t p6) (.t p8))⟩, ⟨(some p11), none, (.load1 (.t p10))⟩, ⟨(some p5), none, (.mov (.t p11))⟩])
 (.reg [⟨(some p12), none, (.mov (.t p3))⟩, ⟨(some p13), none, (.mov (.t p5))⟩, ⟨(some p14), none, (.appendV 1 1 (.t p12) (.t p13))⟩, ⟨(some p3), none, (.mov (.t p14))⟩])))
 (.reg [⟨(some p15), none, (.bin .add .num (.t p8) (.k (.c (.int .i64 1))))⟩, ⟨(some p8), none, (.mov (.t p15))⟩])))))))
 (.seq (.reg [⟨(some p16), none, (.mov (.t p3))⟩, ⟨(some p2), none, (.mov (.t p16))⟩])
 .ret)))),
 [.t p2]⟩
/-- (*farrier/log.Log).Rewrite -/
def c124 : IFunc := ⟨[p0, p1],
 (.seq (.reg [⟨(some p4), none, (.mov (.k (.c (.int .i64 0))))⟩])
 (.seq (.seq (.reg [⟨(some p14), none, (.mov (.t p0))⟩, ⟨(some p15), none, (.nchk (.t p14))⟩, ⟨(some p16), none, (.faddr 6 (.t p15))⟩, ⟨(some p17), none, (.load1 (.t p16))⟩])
 (.cond (.t p17) (.seq (.reg [⟨(some p4), none, (.mov (.k (.c (.int .i64 3))))⟩])
 .ret) .skip))
 (.seq (.reg [⟨(some p5), none, (.mov (.k (.c (.int .i64 0))))⟩])
 (.seq (.seq (.reg [⟨(some p18), none, (.mov (.t p1))⟩, ⟨(some p19), none, (.len .slice (.t p18))⟩, ⟨(some p20), none, (.mov (.k (.c (.int .i64 0))))⟩])
 (.block 0 (.loop (.seq (.reg [⟨(some p21), none, (.bin .lss .num (.t p20) (.t p19))⟩])
 (.seq (.cond (.t p21) .skip (.exit 0))
 (.seq (.block 1 (.seq (.reg [⟨(some p22), none, (.iaddrV 1 (.t p18) (.t p20))⟩, ⟨(some p23), none, (.load1 (.t p22))⟩, ⟨(some p7), none, (.mov (.t p23))⟩])
 (.seq (.seq (.reg [⟨(some p24), none, (.mov (.t p7))⟩, ⟨(some p25), none, (.len .slice (.t p24))⟩, ⟨(some p26), none, (.bin .gtr .num (.t p25) (.k (.c (.int .i64 4096))))⟩])
 (.cond (.t p26) (.seq (.reg [⟨(some p4), none, (.mov (.k (.c (.int .i64 6))))⟩])
 .ret) .skip))
 (.reg [⟨(some p27), none, (.mov (.t p5))⟩, ⟨(some p28), none, (.mov (.t p7))⟩, ⟨(some p29), none, (.len .slice (.t p28))⟩, ⟨(some p30), none, (.call 114 [(.t p29)])⟩, ⟨(some p31), none, (.bin .add .num (.t p27) (.t p30))⟩, ⟨(some p5), none, (.mov (.t p31))⟩]))))
 (.reg [⟨(some p32), none, (.bin .add .num (.t p20) (.k (.c (.int .i64 1))))⟩, ⟨(some p20), none, (.mov (.t p32))⟩])))))))
 (.seq (.seq (.reg [⟨(some p33), none, (.mov (.t p5))⟩, ⟨(some p34), none, (.mov (.t p0))⟩, ⟨(some p35), none, (.nchk (.t p34))⟩, ⟨(some p36), none, (.faddr 0 (.t p35))⟩, ⟨(some p37), none, (.load1 (.t p36))⟩, ⟨(some p38), none, (.call 115 [(.t p37)])⟩, ⟨(some p39), none, (.bin .gtr .num (.t p33) (.t p38))⟩])
 (.cond (.t p39) (.seq (.reg [⟨(some p4), none, (.mov (.k (.c (.int .i64 7))))⟩])
 .ret) .skip))
 (.seq (.reg [⟨(some p40), none, (.mov (.t p0))⟩, ⟨(some p41), none, (.nchk (.t p40))⟩, ⟨(some p42), none, (.faddr 2 (.t p41))⟩, ⟨(some p43), none, (.load1 (.t p42))⟩, ⟨(some p44), none, (.bin .add .num (.t p43) (.k (.c (.int .i64 1))))⟩, ⟨(some p45), none, (.nchk (.t p40))⟩, ⟨(some p46), none, (.faddr 2 (.t p45))⟩, ⟨none, none, (.store 1 (.t p46) (.t p44))⟩])
 (.seq (.reg [⟨(some p47), none, (.mov (.t p0))⟩, ⟨(some p48), none, (.mov (.t p0))⟩, ⟨(some p49), none, (.nchk (.t p48))⟩, ⟨(some p50), none, (.faddr 2 (.t p49))⟩, ⟨(some p51), none, (.load1 (.t p50))⟩, ⟨(some p52), none, (.nchk (.t p47))⟩, ⟨(some p53), none, (.faddr 1 (.t p52))⟩, ⟨none, none, (.store 1 (.t p53) (.t p51))⟩])
 (.seq (.reg [⟨(some p54), none, (.mov (.t p0))⟩, ⟨(some p55), none, (.mov (.t p0))⟩, ⟨(some p56), none, (.mov (.t p0))⟩, ⟨(some p57), none, (.nchk (.t p56))⟩, ⟨(some p58), none, (.faddr 3 (.t p57))⟩, ⟨(some p59), none, (.load1 (.t p58))⟩, ⟨(some p60), none, (.bin .sub .num (.k (.c (.int .i64 1))) (.t p59))⟩, ⟨(some p61), none, (.nchk (.t p54))⟩, ⟨(some p62), none, (.faddr 3 (.t p61))⟩, ⟨none, none, (.store 1 (.t p62) (.t p60))⟩, ⟨(some p63), none, (.nchk (.t p55))⟩, ⟨(some p64), none, (.faddr 4 (.t p63))⟩, ⟨none, none, (.store 1 (.t p64) (.k (.c (.int .i64 0))))⟩])
 (.seq (.reg [⟨(some p65), none, (.mov (.t p0))⟩, ⟨(some p66), none, (.nchk (.t p65))⟩, ⟨(some p67), none, (.faddr 5 (.t p66))⟩, ⟨none, none, (.store 1 (.t p67) (.k (.c .nils)))⟩])
 (.seq (.seq (.reg [⟨(some p68), none, (.mov (.t p1))⟩, ⟨(some p69), none, (.len .slice (.t p68))⟩, ⟨(some p70), none, (.mov (.k (.c (.int .i64 0))))⟩])
 (.block 2 (.loop (.seq (.reg [⟨(some p71), none, (.bin .lss .num (.t p70) (.t p69))⟩])
 (.seq (.cond (.t p71) .skip (.exit 2))
 (.seq (.block 3 (.seq (.reg [⟨(some p72), none, (.mov (.t p70))⟩, ⟨(some p73), none, (.iaddrV 1 (.t p68) (.t p70))⟩, ⟨(some p74), none, (.load1 (.t p73))⟩, ⟨(some p8), none, (.mov (.t p72))⟩, ⟨(some p9), none, (.mov (.t p74))⟩])
 (.seq (.seq (.reg [⟨(some p75), none, (.mov (.t p0))⟩, ⟨(some p76), none, (.mov (.t p0))⟩, ⟨(some p77), none, (.nchk (.t p76))⟩, ⟨(some p78), none, (.faddr 4 (.t p77))⟩, ⟨(some p79), none, (.load1 (.t p78))⟩, ⟨(some p80), none, (.mov (.t p8))⟩, ⟨(some p81), none, (.mov (.t p9))⟩, ⟨(some p82), none, (.call 116 [(.t p75), (.t p79), (.t p80), (.t p81)])⟩, ⟨(some p10), none, (.mov (.t p82))⟩])
 (.seq (.reg [⟨(some p83), none, (.mov (.t p10))⟩, ⟨(some p84), none, (.bin .neq .num (.t p83) (.k (.c (.int .i64 0))))⟩])
 (.cond (.t p84) (.seq (.reg [⟨(some p85), none, (.mov (.t p0))⟩, ⟨(some p86), none, (.mov (.t p10))⟩, ⟨(some p87), none, (.call 118 [(.t p85), (.t p86)])⟩, ⟨(some p4), none, (.mov (.t p87))⟩])
 .ret) .skip)))
 (.seq (.dreg [⟨(some p88), none, (.mov (.t p0))⟩, ⟨(some p89), none, (.nchk (.t p88))⟩, ⟨(some p90), none, (.faddr 4 (.t p89))⟩, ⟨(some p91), none, (.load1 (.t p90))⟩, ⟨(some p92), none, (.mov (.t p9))⟩, ⟨(some p93), none, (.len .slice (.t p92))⟩, ⟨(some p94), none, (.call 114 [(.t p93)])⟩, ⟨(some p95), none, (.bin .add .num (.t p91) (.t p94))⟩, ⟨(some p96), none, (.nchk (.t p88))⟩, ⟨(some p97), none, (.faddr 4 (.t p96))⟩, ⟨none, none, (.store 1 (.t p97) (.t p95))⟩] [[], [], [], [], [], [], [3], [], [], [], []])
 (.dreg [⟨(some p98), none, (.mov (.t p0))⟩, ⟨(some p99), none, (.mov (.t p0))⟩, ⟨(some p100), none, (.nchk (.t p99))⟩, ⟨(some p101), none, (.faddr 5 (.t p100))⟩, ⟨(some p102), none, (.load1 (.t p101))⟩, ⟨(some p103), none, (.mov (.t p9))⟩, ⟨(some p104), none, (.appendV 1 1 (.k (.c .nils)) (.t p103))⟩, ⟨(some p105), none, (.bslice 1 1 [.nils] [(0, 1, (.t p104))])⟩, ⟨(some p106), none, (.appendV 1 24 (.t p102) (.t p105))⟩, ⟨(some p107), none, (.nchk (.t p98))⟩, ⟨(some p108), none, (.faddr 5 (.t p107))⟩, ⟨none, none, (.store 1 (.t p108) (.t p106))⟩] [[], [], [], [], [], [], [4], [], [], [], [], []])))))
 (.reg [⟨(some p109), none, (.bin .add .num (.t p70) (.k (.c (.int .i64 1))))⟩, ⟨(some p70), none, (.mov (.t p109))⟩])))))))
 (.seq (.seq (.reg [⟨(some p110), none, (.mov (.t p0))⟩, ⟨(some p111), none, (.nchk (.t p110))⟩, ⟨(some p112), none, (.faddr 0 (.t p111))⟩, ⟨(some p113), none, (.load1 (.t p112))⟩, ⟨(some p114), none, (.call 117 [(.t p113)])⟩, ⟨(some p11), none, (.mov (.t p114))⟩])
 (.seq (.reg [⟨(some p115), none, (.mov (.t p11))⟩, ⟨(some p116), none, (.bin .neq .num (.t p115) (.k (.c (.int .i64 0))))⟩])
 (.cond (.t p116) (.seq (.reg [⟨(some p117), none, (.mov (.t p0))⟩, ⟨(some p118), none, (.mov (.t p11))⟩, ⟨(some p119), none, (.call 118 [(.t p117), (.t p118)])⟩, ⟨(some p4), none, (.mov (.t p119))⟩])
 .ret) .skip)))
 (.seq (.reg [⟨(some p12), none, (.alloc [(.int .u8 0), (.int .u8 0), (.int .u8 0), (.int .u8 0), (.int .u8 0), (.int .u8 0), (.int .u8 0), (.int .u8 0), (.int .u8 0), (.int .u8 0), (.int .u8 0), (.int .u8 0), (.int .u8 0), (.int .u8 0), (.int .u8 0), (.int .u8 0), (.int .u8 0), (.int .u8 0), (.int .u8 0), (.int .u8 0), (.int .u8 0), (.int .u8 0), (.int .u8 0), (.int .u8 0), (.int .u8 0), (.int .u8 0), (.int .u8 0), (.int .u8 0), (.int .u8 0), (.int .u8 0), (.int .u8 0), (.int .u8 0), (.int .u8 0), (.int .u8 0), (.int .u8 0), (.int .u8 0), (.int .u8 0), (.int .u8 0), (.int .u8 0), (.int .u8 0), (.int .u8 0), (.int .u8 0), (.int .u8 0), (.int .u8 0), (.int .u8 0), (.int .u8 0), (.int .u8 0), (.int .u8 0), (.int .u8 0), (.int .u8 0), (.int .u8 0), (.int .u8 0), (.int .u8 0), (.int .u8 0), (.int .u8 0), (.int .u8 0), (.int .u8 0), (.int .u8 0), (.int .u8 0), (.int .u8 0), (.int .u8 0), (.int .u8 0), (.int .u8 0), (.int .u8 0)])⟩])
 (.seq (.reg [⟨(some p120), none, (.iaddrA 64 1 (.t p12) (.k (.c (.int .i64 0))))⟩, ⟨none, none, (.store 1 (.t p120) (.k (.c (.int .u8 1))))⟩])
 (.seq (.dreg [⟨(some p121), none, (.slcA 64 1 (.t p12) (some (.k (.c (.int .i64 1)))) none)⟩, ⟨(some p122), none, (.mov (.t p0))⟩, ⟨(some p123), none, (.nchk (.t p122))⟩, ⟨(some p124), none, (.faddr 1 (.t p123))⟩, ⟨(some p125), none, (.load1 (.t p124))⟩, ⟨(some p126), none, (.call 119 [(.t p125)])⟩, ⟨(some p127), none, (.copyV 1 (.t p121) (.t p126))⟩] [[], [], [], [], [], [], []])
 (.seq (.dreg [⟨(some p128), none, (.slcA 64 1 (.t p12) (some (.k (.c (.int .i64 5)))) none)⟩, ⟨(some p129), none, (.slcA 64 1 (.t p12) none (some (.k (.c (.int .i64 5)))))⟩, ⟨(some p130), none, (.bslice 1 1 [.nils] [(0, 1, (.t p129))])⟩, ⟨(some p131), none, (.call 165 [(.t p130)])⟩, ⟨(some p132), none, (.cvInt .i64 (.t p131))⟩, ⟨(some p133), none, (.call 119 [(.t p132)])⟩, ⟨(some p134), none, (.copyV 1 (.t p128) (.t p133))⟩] [[], [], [], [], [], [], []])
 (.seq (.seq (.dreg [⟨(some p135), none, (.mov (.t p0))⟩, ⟨(some p136), none, (.nchk (.t p135))⟩, ⟨(some p137), none, (.faddr 0 (.t p136))⟩, ⟨(some p138), none, (.load1 (.t p137))⟩, ⟨(some p139), none, (.mov (.t p0))⟩, ⟨(some p140), none, (.nchk (.t p139))⟩, ⟨(some p141), none, (.faddr 3 (.t p140))⟩, ⟨(some p142), none, (.load1 (.t p141))⟩, ⟨(some p143), none, (.loadN 64 (.t p12))⟩, ⟨(some p144), none, (.call 166 [(.t p138), (.t p142), (.t p143)])⟩, ⟨(some p13), none, (.mov (.t p144))⟩] [[], [], [], [], [], [], [], [], [], [], []])
 (.seq (.reg [⟨(some p145), none, (.mov (.t p13))⟩, ⟨(some p146), none, (.bin .neq .num (.t p145) (.k (.c (.int .i64 0))))⟩])
 (.cond (.t p146) (.seq (.reg [⟨(some p147), none, (.mov (.t p0))⟩, ⟨(some p148), none, (.mov (.t p13))⟩, ⟨(some p149), none, (.call 118 [(.t p147), (.t p148)])⟩, ⟨(some p4), none, (.mov (.t p149))⟩])
 .ret) .skip)))
 (.seq (.reg [⟨(some p150), none, (.mov (.t p0))⟩, ⟨(some p151), none, (.mov (.t p0))⟩, ⟨(some p152), none, (.nchk (.t p151))⟩, ⟨(some p153), none, (.faddr 0 (.t p152))⟩, ⟨(some p154), none, (.load1 (.t p153))⟩, ⟨(some p155), none, (.call 117 [(.t p154)])⟩, ⟨(some p156), none, (.call 118 [(.t p150), (.t p155)])⟩, ⟨(some p4), none, (.mov (.t p156))⟩])
 .ret))))))))))))))))),
 [.t p4]⟩
/-- (*farrier/tree.Tree).Reap -/
def c125 : IFunc := ⟨[p0, p1],
 (.seq (.reg [⟨(some p7), none, (.mov (.t p1))⟩, ⟨(some p8), none, (.len .slice (.t p7))⟩, ⟨(some p9), none, (.mov (.k (.c (.int .i64 0))))⟩])
 (.block 0 (.loop (.seq (.reg [⟨(some p10), none, (.bin .lss .num (.t p9) (.t p8))⟩])
 (.seq (.cond (.t p10) .skip (.exit 0))
 (.seq (.block 1 (.seq (.reg [⟨(some p11), none, (.iaddrV 1 (.t p7) (.t p9))⟩, ⟨(some p12), none, (.load1 (.t p11))⟩, ⟨(some p5), none, (.mov (.t p12))⟩])
 (.seq (.reg [⟨(some p13), none, (.mov (.t p0))⟩, ⟨(some p14), none, (.nchk (.t p13))⟩, ⟨(some p15), none, (.faddr 0 (.t p14))⟩, ⟨(some p16), none, (.load1 (.t p15))⟩, ⟨(some p17), none, (.mov (.t p5))⟩, ⟨(some p18), none, (.look true (.c .nilp) false (.t p16) (.t p17))⟩, ⟨(some p6), none, (.mov (.t p18))⟩])
 (.seq (.reg [⟨(some p19), none, (.mov (.t p6))⟩, ⟨(some p20), none, (.bin .neq .ptr (.t p19) (.k (.c .nilp)))⟩, ⟨(some p21), none, (.mov (.t p20))⟩, ⟨(some p22), (some (p21, true)), (.mov (.t p6))⟩, ⟨(some p23), (some (p21, true)), (.nchk (.t p22))⟩, ⟨(some p24), (some (p21, true)), (.faddr 1 (.t p23))⟩, ⟨(some p25), (some (p21, true)), (.load1 (.t p24))⟩, ⟨(some p26), (some (p21, true)), (.bin .eql .num (.t p25) (.k (.c (.int .i64 0))))⟩, ⟨(some p27), none, (.pick (.t p21) (.t p26) (.k (.c (.bool false))))⟩])
 (.cond (.t p27) (.reg [⟨(some p28), none, (.mov (.t p0))⟩, ⟨(some p29), none, (.nchk (.t p28))⟩, ⟨(some p30), none, (.faddr 0 (.t p29))⟩, ⟨(some p31), none, (.load1 (.t p30))⟩, ⟨(some p32), none, (.mov (.t p5))⟩, ⟨none, none, (.delete true (.t p31) (.t p32))⟩]) .skip)))))
 (.reg [⟨(some p33), none, (.bin .add .num (.t p9) (.k (.c (.int .i64 1))))⟩, ⟨(some p9), none, (.mov (.t p33))⟩]))))))),
 []⟩
/-- slices.DeleteFunc[[]int,int] -/
def c126 : IFunc := ⟨[p0, p1],
 (.seq (.reg [⟨(some p4), none, (.mov (.k (.c .nils)))⟩])
 (.seq (.reg [⟨(some p8), none, (.mov (.t p0))⟩, ⟨(some p9), none, (.mov (.t p1))⟩, ⟨(some p10), none, (.call 171 [(.t p8), (.t p9)])⟩, ⟨(some p5), none, (.mov (.t p10))⟩])
 (.seq (.seq (.reg [⟨(some p11), none, (.mov (.t p5))⟩, ⟨(some p12), none, (.bin .eql .num (.t p11) (.k (.c (.int .i64 (-1)))))⟩])
 (.cond (.t p12) (.seq (.reg [⟨(some p13), none, (.mov (.t p0))⟩, ⟨(some p4), none, (.mov (.t p13))⟩])
 .ret) .skip))
 (.seq (.seq (.reg [⟨(some p14), none, (.mov (.t p5))⟩, ⟨(some p15), none, (.bin .add .num (.t p14) (.k (.c (.int .i64 1))))⟩, ⟨(some p6), none, (.mov (.t p15))⟩])
 (.block 0 (.loop (.seq (.seq (.reg [⟨(some p16), none, (.mov (.t p6))⟩, ⟨(some p17), none, (.mov (.t p0))⟩, ⟨(some p18), none, (.len .slice (.t p17))⟩, ⟨(some p19), none, (.bin .lss .num (.t p16) (.t p18))⟩])
 (.cond (.t p19) .skip (.exit 0)))
 (.seq (.block 1 (.seq (.reg [⟨(some p22), none, (.mov (.t p0))⟩, ⟨(some p23), none, (.mov (.t p6))⟩, ⟨(some p24), none, (.iaddrV 1 (.t p22) (.t p23))⟩, ⟨(some p25), none, (.load1 (.t p24))⟩, ⟨(some p7), none, (.mov (.t p25))⟩])
 (.seq (.reg [⟨(some p26), none, (.mov (.t p1))⟩, ⟨(some p27), none, (.mov (.t p7))⟩, ⟨(some p28), none, (.callv (.t p26) [(.t p27)])⟩, ⟨(some p29), none, (.not (.t p28))⟩])
 (.cond (.t p29) (.seq (.reg [⟨(some p30), none, (.mov (.t p0))⟩, ⟨(some p31), none, (.mov (.t p5))⟩, ⟨(some p32), none, (.mov (.t p7))⟩, ⟨(some p33), none, (.iaddrV 1 (.t p30) (.t p31))⟩, ⟨none, none, (.store 1 (.t p33) (.t p32))⟩])
 (.reg [⟨(some p34), none, (.mov (.t p5))⟩, ⟨(some p35), none, (.bin .add .num (.t p34) (.k (.c (.int .i64 1))))⟩, ⟨(some p5), none, (.mov (.t p35))⟩])) .skip))))
 (.reg [⟨(some p20), none, (.mov (.t p6))⟩, ⟨(some p21), none, (.bin .add .num (.t p20) (.k (.c (.int .i64 1))))⟩, ⟨(some p6), none, (.mov (.t p21))⟩]))))))
 (.seq (.reg [⟨(some p36), none, (.mov (.t p0))⟩, ⟨(some p37), none, (.mov (.t p5))⟩, ⟨(some p38), none, (.slcV 1 (.t p36) (some (.t p37)) none none)⟩, ⟨none, none, (.clearV [(.int .i64 0)] (.t p38))⟩])
 (.seq (.reg [⟨(some p39), none, (.mov (.t p0))⟩, ⟨(some p40), none, (.mov (.t p5))⟩, ⟨(some p41), none, (.slcV 1 (.t p39) none (some (.t p40)) none)⟩, ⟨(some p4), none, (.mov (.t p41))⟩])
 .ret)))))),
 [.t p4]⟩
/-- (*farrier/disk.Disk).Len -/
def c141 : IFunc := ⟨[p0],
 (.seq (.reg [⟨(some p2), none, (.mov (.k (.c (.int .i64 0))))⟩])
 (.seq (.reg [⟨(some p3), none, (.mov (.t p0))⟩, ⟨(some p4), none, (.nchk (.t p3))⟩, ⟨(some p5), none, (.faddr 0 (.t p4))⟩, ⟨(some p6), none, (.load1 (.t p5))⟩, ⟨(some p7), none, (.len .slice (.t p6))⟩, ⟨(some p2), none, (.mov (.t p7))⟩])
 .ret)),
 [.t p2]⟩
/-- (*farrier/disk.Disk).Read -/
def c142 : IFunc := ⟨[p0, p1],
 (.seq (.reg [⟨(some p4), none, (.alloc [(.int .u8 0), (.int .u8 0), (.int .u8 0), (.int .u8 0), (.int .u8 0), (.int .u8 0), (.int .u8 0), (.int .u8 0), (.int .u8 0), (.int .u8 0), (.int .u8 0), (.int .u8 0), (.int .u8 0), (.int .u8 0), (.int .u8 0), (.int .u8 0), (.int .u8 0), (.int .u8 0), (.int .u8 0), (.int .u8 0), (.int .u8 0), (.int .u8 0), (.int .u8 0), (.int .u8 0), (.int .u8 0), (.int .u8 0), (.int .u8 0), (.int .u8 0), (.int .u8 0), (.int .u8 0), (.int .u8 0), (.int .u8 0), (.int .u8 0), (.int .u8 0), (.int .u8 0), (.int .u8 0), (.int .u8 0), (.int .u8 0), (.int .u8 0), (.int .u8 0), (.int .u8 0), (.int .u8 0), (.int .u8 0), (.int .u8 0), (.int .u8 0), (.int .u8 0), (.int .u8 0), (.int .u8 0), (.int .u8 0), (.int .u8 0), (.int .u8 0), (.int .u8 0), (.int .u8 0), (.int .u8 0), (.int .u8 0), (.int .u8 0), (.int .u8 0), (.int .u8 0), (.int .u8 0), (.int .u8 0), (.int .u8 0), (.int .u8 0), (.int .u8 0), (.int .u8 0)])⟩, ⟨(some p5), none, (.mov (.k (.c (.int .i64 0))))⟩])
 (.seq (.block 0 (.seq (.reg [⟨(some p8), none, (.mov (.t p0))⟩, ⟨(some p9), none, (.nchk (.t p8))⟩, ⟨(some p10), none, (.faddr 2 (.t p9))⟩, ⟨(some p11), none, (.load1 (.t p10))⟩, ⟨(some p7), none, (.mov (.t p11))⟩])
 (.cond (.t p7) (.seq (.reg [⟨(some p12), none, (.build [(.int .u8 0), (.int .u8 0), (.int .u8 0), (.int .u8 0), (.int .u8 0), (.int .u8 0), (.int .u8 0), (.int .u8 0), (.int .u8 0), (.int .u8 0), (.int .u8 0), (.int .u8 0), (.int .u8 0), (.int .u8 0), (.int .u8 0), (.int .u8 0), (.int .u8 0), (.int .u8 0), (.int .u8 0), (.int .u8 0), (.int .u8 0), (.int .u8 0), (.int .u8 0), (.int .u8 0), (.int .u8 0), (.int .u8 0), (.int .u8 0), (.int .u8 0), (.int .u8 0), (.int .u8 0), (.int .u8 0), (.int .u8 0), (.int .u8 0), (.int .u8 0), (.int .u8 0), (.int .u8 0), (.int .u8 0), (.int .u8 0), (.int .u8 0), (.int .u8 0), (.int .u8 0), (.int .u8 0), (.int .u8 0), (.int .u8 0), (.int .u8 0), (.int .u8 0), (.int .u8 0), (.int .u8 0), (.int .u8 0), (.int .u8 0), (.int .u8 0), (.int .u8 0), (.int .u8 0), (.int .u8 0), (.int .u8 0), (.int .u8 0), (.int .u8 0), (.int .u8 0), (.int .u8 0), (.int .u8 0), (.int .u8 0), (.int .u8 0), (.int .u8 0), (.int .u8 0)] [])⟩, ⟨none, none, (.store 64 (.t p4) (.t p12))⟩, ⟨(some p5), none, (.mov (.k (.c (.int .i64 3))))⟩])
 .ret) (.seq (.reg [⟨(some p14), none, (.mov (.t p1))⟩, ⟨(some p15), none, (.bin .lss .num (.t p14) (.k (.c (.int .i64 0))))⟩, ⟨(some p16), none, (.mov (.t p15))⟩, ⟨(some p17), (some (p16, false)), (.mov (.t p1))⟩, ⟨(some p18), (some (p16, false)), (.mov (.t p0))⟩, ⟨(some p19), (some (p16, false)), (.nchk (.t p18))⟩, ⟨(some p20), (some (p16, false)), (.faddr 0 (.t p19))⟩, ⟨(some p21), (some (p16, false)), (.load1 (.t p20))⟩, ⟨(some p22), (some (p16, false)), (.len .slice (.t p21))⟩, ⟨(some p23), (some (p16, false)), (.bin .geq .num (.t p17) (.t p22))⟩, ⟨(some p24), none, (.pick (.t p16) (.k (.c (.bool true))) (.t p23))⟩, ⟨(some p13), none, (.mov (.t p24))⟩])
 (.cond (.t p13) (.seq (.reg [⟨(some p25), none, (.build [(.int .u8 0), (.int .u8 0), (.int .u8 0), (.int .u8 0), (.int .u8 0), (.int .u8 0), (.int .u8 0), (.int .u8 0), (.int .u8 0), (.int .u8 0), (.int .u8 0), (.int .u8 0), (.int .u8 0), (.int .u8 0), (.int .u8 0), (.int .u8 0), (.int .u8 0), (.int .u8 0), (.int .u8 0), (.int .u8 0), (.int .u8 0), (.int .u8 0), (.int .u8 0), (.int .u8 0), (.int .u8 0), (.int .u8 0), (.int .u8 0), (.int .u8 0), (.int .u8 0), (.int .u8 0), (.int .u8 0), (.int .u8 0), (.int .u8 0), (.int .u8 0), (.int .u8 0), (.int .u8 0), (.int .u8 0), (.int .u8 0), (.int .u8 0), (.int .u8 0), (.int .u8 0), (.int .u8 0), (.int .u8 0), (.int .u8 0), (.int .u8 0), (.int .u8 0), (.int .u8 0), (.int .u8 0), (.int .u8 0), (.int .u8 0), (.int .u8 0), (.int .u8 0), (.int .u8 0), (.int .u8 0), (.int .u8 0), (.int .u8 0), (.int .u8 0), (.int .u8 0), (.int .u8 0), (.int .u8 0), (.int .u8 0), (.int .u8 0), (.int .u8 0), (.int .u8 0)] [])⟩, ⟨none, none, (.store 64 (.t p4) (.t p25))⟩, ⟨(some p5), none, (.mov (.k (.c (.int .i64 2))))⟩])
 .ret) .skip)))))
 (.seq (.seq (.reg [⟨(some p26), none, (.mov (.t p0))⟩, ⟨(some p27), none, (.nchk (.t p26))⟩, ⟨(some p28), none, (.faddr 1 (.t p27))⟩, ⟨(some p29), none, (.load1 (.t p28))⟩, ⟨(some p30), none, (.len .slice (.t p29))⟩, ⟨(some p31), none, (.bin .sub .num (.t p30) (.k (.c (.int .i64 1))))⟩, ⟨(some p6), none, (.mov (.t p31))⟩])
 (.block 1 (.loop (.seq (.seq (.reg [⟨(some p32), none, (.mov (.t p6))⟩, ⟨(some p33), none, (.bin .geq .num (.t p32) (.k (.c (.int .i64 0))))⟩])
 (.cond (.t p33) .skip (.exit 1)))
 (.seq (.block 2 (.seq (.reg [⟨(some p36), none, (.mov (.t p0))⟩, ⟨(some p37), none, (.nchk (.t p36))⟩, ⟨(some p38), none, (.faddr 1 (.t p37))⟩, ⟨(some p39), none, (.load1 (.t p38))⟩, ⟨(some p40), none, (.mov (.t p6))⟩, ⟨(some p41), none, (.iaddrV 65 (.t p39) (.t p40))⟩, ⟨(some p42), none, (.faddr 0 (.t p41))⟩, ⟨(some p43), none, (.load1 (.t p42))⟩, ⟨(some p44), none, (.mov (.t p1))⟩, ⟨(some p45), none, (.bin .eql .num (.t p43) (.t p44))⟩])
 (.cond (.t p45) (.seq (.reg [⟨(some p46), none, (.mov (.t p0))⟩, ⟨(some p47), none, (.nchk (.t p46))⟩, ⟨(some p48), none, (.faddr 1 (.t p47))⟩, ⟨(some p49), none, (.load1 (.t p48))⟩, ⟨(some p50), none, (.mov (.t p6))⟩, ⟨(some p51), none, (.iaddrV 65 (.t p49) (.t p50))⟩, ⟨(some p52), none, (.faddr 1 (.t p51))⟩, ⟨(some p53), none, (.loadN 64 (.t p52))⟩, ⟨none, none, (.store 64 (.t p4) (.t p53))⟩, ⟨(some p5), none, (.mov (.k (.c (.int .i64 0))))⟩])
 .ret) .skip)))
 (.reg [⟨(some p34), none, (.mov (.t p6))⟩, ⟨(some p35), none, (.bin .sub .num (.t p34) (.k (.c (.int .i64 1))))⟩, ⟨(some p6), none, (.mov (.t p35))⟩]))))))
 (.seq (.reg [⟨(some p54), none, (.mov (.t p0))⟩, ⟨(some p55), none, (.nchk (.t p54))⟩, ⟨(some p56), none, (.faddr 0 (.t p55))⟩, ⟨(some p57), none, (.load1 (.t p56))⟩, ⟨(some p58), none, (.mov (.t p1))⟩, ⟨(some p59), none, (.iaddrV 64 (.t p57) (.t p58))⟩, ⟨(some p60), none, (.loadN 64 (.t p59))⟩, ⟨none, none, (.store 64 (.t p4) (.t p60))⟩, ⟨(some p5), none, (.mov (.k (.c (.int .i64 0))))⟩])
 .ret)))),
 [.cellN p4 64, .t p5]⟩
/-- (*farrier/log.Log).good -/
def c143 : IFunc := ⟨[p0, p1],
 (.seq (.reg [⟨(some p3), none, (.box (.t p1))⟩, ⟨(some p4), none, (.mov (.k (.c (.int .i64 0))))⟩, ⟨(some p5), none, (.mov (.k (.c (.bool false))))⟩])
 (.seq (.seq (.reg [⟨(some p9), none, (.loadN 64 (.t p3))⟩, ⟨(some p10), none, (.build [(.int .u8 0), (.int .u8 0), (.int .u8 0), (.int .u8 0), (.int .u8 0), (.int .u8 0), (.int .u8 0), (.int .u8 0), (.int .u8 0), (.int .u8 0), (.int .u8 0), (.int .u8 0), (.int .u8 0), (.int .u8 0), (.int .u8 0), (.int .u8 0), (.int .u8 0), (.int .u8 0), (.int .u8 0), (.int .u8 0), (.int .u8 0), (.int .u8 0), (.int .u8 0), (.int .u8 0), (.int .u8 0), (.int .u8 0), (.int .u8 0), (.int .u8 0), (.int .u8 0), (.int .u8 0), (.int .u8 0), (.int .u8 0), (.int .u8 0), (.int .u8 0), (.int .u8 0), (.int .u8 0), (.int .u8 0), (.int .u8 0), (.int .u8 0), (.int .u8 0), (.int .u8 0), (.int .u8 0), (.int .u8 0), (.int .u8 0), (.int .u8 0), (.int .u8 0), (.int .u8 0), (.int .u8 0), (.int .u8 0), (.int .u8 0), (.int .u8 0), (.int .u8 0), (.int .u8 0), (.int .u8 0), (.int .u8 0), (.int .u8 0), (.int .u8 0), (.int .u8 0), (.int .u8 0), (.int .u8 0), (.int .u8 0), (.int .u8 0), (.int .u8 0), (.int .u8 0)] [])⟩, ⟨(some p11), none, (.bin .eql (.flat [.int, .int, .int, .int, .int, .int, .int, .int, .int, .int, .int, .int, .int, .int, .int, .int, .int, .int, .int, .int, .int, .int, .int, .int, .int, .int, .int, .int, .int, .int, .int, .int, .int, .int, .int, .int, .int, .int, .int, .int, .int, .int, .int, .int, .int, .int, .int, .int, .int, .int, .int, .int, .int, .int, .int, .int, .int, .int, .int, .int, .int, .int, .int, .int]) (.t p9) (.t p10))⟩])
 (.cond (.t p11) (.seq (.reg [⟨(some p4), none, (.mov (.k (.c (.int .i64 0))))⟩, ⟨(some p5), none, (.mov (.k (.c (.bool false))))⟩])
 .ret) .skip))
 (.seq (.reg [⟨(some p12), none, (.slcA 64 1 (.t p3) (some (.k (.c (.int .i64 1)))) (some (.k (.c (.int .i64 9)))))⟩, ⟨(some p13), none, (.call 146 [(.t p12)])⟩, ⟨(some p6), none, (.mov (.t p13))⟩])
 (.seq (.reg [⟨(some p14), none, (.mov (.t p6))⟩, ⟨(some p15), none, (.call 147 [(.t p14), (.k (.c (.int .i64 2147483648)))])⟩, ⟨(some p7), none, (.mov (.t p15))⟩])
 (.seq (.reg [⟨(some p16), none, (.mov (.t p6))⟩, ⟨(some p17), none, (.call 147 [(.t p16), (.k (.c (.int .i64 4294967295)))])⟩, ⟨(some p8), none, (.mov (.t p17))⟩])
 (.seq (.reg [⟨(some p18), none, (.mov (.t p7))⟩, ⟨(some p19), none, (.iaddrA 64 1 (.t p3) (.k (.c (.int .i64 0))))⟩, ⟨(some p20), none, (.load1 (.t p19))⟩, ⟨(some p21), none, (.bin .eql .num (.t p20) (.k (.c (.int .u8 1))))⟩, ⟨(some p22), none, (.mov (.t p21))⟩, ⟨(some p23), (some (p22, true)), (.mov (.t p8))⟩, ⟨(some p24), (some (p22, true)), (.cvInt .u32 (.t p23))⟩, ⟨(some p25), (some (p22, true)), (.slcA 64 1 (.t p3) none (some (.k (.c (.int .i64 5)))))⟩, ⟨(some p26), (some (p22, true)), (.bslice 1 1 [.nils] [(0, 1, (.t p25))])⟩, ⟨(some p27), (some (p22, true)), (.call 165 [(.t p26)])⟩, ⟨(some p28), (some (p22, true)), (.bin .eql .num (.t p24) (.t p27))⟩, ⟨(some p29), none, (.pick (.t p22) (.t p28) (.k (.c (.bool false))))⟩, ⟨(some p4), none, (.mov (.t p18))⟩, ⟨(some p5), none, (.mov (.t p29))⟩])
 .ret)))))),
 [.t p4, .t p5]⟩
/-- (*farrier/log.Log).look -/
def c144 : IFunc := ⟨[p0],
 (.seq (.reg [⟨(some p2), none, (.mov (.k (.c (.int .i64 0))))⟩])
 (.seq (.reg [⟨(some p7), none, (.mov (.t p0))⟩, ⟨(some p8), none, (.mov (.t p0))⟩, ⟨(some p9), none, (.nchk (.t p8))⟩, ⟨(some p10), none, (.faddr 1 (.t p9))⟩, ⟨(some p11), none, (.load1 (.t p10))⟩, ⟨(some p12), none, (.nchk (.t p7))⟩, ⟨(some p13), none, (.faddr 2 (.t p12))⟩, ⟨none, none, (.store 1 (.t p13) (.t p11))⟩])
 (.seq (.seq (.reg [⟨(some p3), none, (.mov (.k (.c (.int .i64 2))))⟩])
 (.block 0 (.loop (.seq (.seq (.reg [⟨(some p14), none, (.mov (.t p3))⟩, ⟨(some p15), none, (.mov (.t p0))⟩, ⟨(some p16), none, (.nchk (.t p15))⟩, ⟨(some p17), none, (.faddr 0 (.t p16))⟩, ⟨(some p18), none, (.load1 (.t p17))⟩, ⟨(some p19), none, (.call 141 [(.t p18)])⟩, ⟨(some p20), none, (.bin .lss .num (.t p14) (.t p19))⟩])
 (.cond (.t p20) .skip (.exit 0)))
 (.seq (.block 1 (.seq (.reg [⟨(some p24), none, (.mov (.t p0))⟩, ⟨(some p25), none, (.nchk (.t p24))⟩, ⟨(some p26), none, (.faddr 0 (.t p25))⟩, ⟨(some p27), none, (.load1 (.t p26))⟩, ⟨(some p28), none, (.mov (.t p3))⟩, ⟨(some p29), none, (.call 142 [(.t p27), (.t p28)])⟩, ⟨(some p23), none, (.mov (.t p29))⟩, ⟨(some p30), none, (.ext (.t p23) 0)⟩, ⟨(some p31), none, (.ext (.t p23) 1)⟩, ⟨(some p4), none, (.alloc [(.int .u8 0), (.int .u8 0), (.int .u8 0), (.int .u8 0), (.int .u8 0), (.int .u8 0), (.int .u8 0), (.int .u8 0), (.int .u8 0), (.int .u8 0), (.int .u8 0), (.int .u8 0), (.int .u8 0), (.int .u8 0), (.int .u8 0), (.int .u8 0), (.int .u8 0), (.int .u8 0), (.int .u8 0), (.int .u8 0), (.int .u8 0), (.int .u8 0), (.int .u8 0), (.int .u8 0), (.int .u8 0), (.int .u8 0), (.int .u8 0), (.int .u8 0), (.int .u8 0), (.int .u8 0), (.int .u8 0), (.int .u8 0), (.int .u8 0), (.int .u8 0), (.int .u8 0), (.int .u8 0), (.int .u8 0), (.int .u8 0), (.int .u8 0), (.int .u8 0), (.int .u8 0), (.int .u8 0), (.int .u8 0), (.int .u8 0), (.int .u8 0), (.int .u8 0), (.int .u8 0), (.int .u8 0), (.int .u8 0), (.int .u8 0), (.int .u8 0), (.int .u8 0), (.int .u8 0), (.int .u8 0), (.int .u8 0), (.int .u8 0), (.int .u8 0), (.int .u8 0), (.int .u8 0), (.int .u8 0), (.int .u8 0), (.int .u8 0), (.int .u8 0), (.int .u8 0)])⟩, ⟨none, none, (.store 64 (.t p4) (.t p30))⟩, ⟨(some p5), none, (.mov (.t p31))⟩])
 (.seq (.seq (.reg [⟨(some p32), none, (.mov (.t p5))⟩, ⟨(some p33), none, (.bin .neq .num (.t p32) (.k (.c (.int .i64 0))))⟩])
 (.cond (.t p33) (.seq (.reg [⟨(some p34), none, (.mov (.t p5))⟩, ⟨(some p2), none, (.mov (.t p34))⟩])
 .ret) .skip))
 (.seq (.reg [⟨(some p35), none, (.iaddrA 64 1 (.t p4) (.k (.c (.int .i64 0))))⟩, ⟨(some p36), none, (.load1 (.t p35))⟩, ⟨(some p37), none, (.bin .eql .num (.t p36) (.k (.c (.int .u8 2))))⟩])
 (.cond (.t p37) (.seq (.reg [⟨(some p38), none, (.slcA 64 1 (.t p4) (some (.k (.c (.int .i64 9)))) (some (.k (.c (.int .i64 13)))))⟩, ⟨(some p39), none, (.call 146 [(.t p38)])⟩, ⟨(some p6), none, (.mov (.t p39))⟩])
 (.dreg [⟨(some p40), none, (.mov (.t p0))⟩, ⟨(some p41), none, (.mov (.t p0))⟩, ⟨(some p42), none, (.nchk (.t p41))⟩, ⟨(some p43), none, (.faddr 2 (.t p42))⟩, ⟨(some p44), none, (.load1 (.t p43))⟩, ⟨(some p45), none, (.mov (.t p6))⟩, ⟨(some p46), none, (.call 147 [(.t p45), (.k (.c (.int .i64 2147483648)))])⟩, ⟨(some p47), none, (.max [(.t p44), (.t p46)])⟩, ⟨(some p48), none, (.nchk (.t p40))⟩, ⟨(some p49), none, (.faddr 2 (.t p48))⟩, ⟨none, none, (.store 1 (.t p49) (.t p47))⟩] [[], [], [], [], [], [], [4], [], [], [], []])) .skip)))))
 (.reg [⟨(some p21), none, (.mov (.t p3))⟩, ⟨(some p22), none, (.bin .add .num (.t p21) (.k (.c (.int .i64 1))))⟩, ⟨(some p3), none, (.mov (.t p22))⟩]))))))
 (.seq (.reg [⟨(some p2), none, (.mov (.k (.c (.int .i64 0))))⟩])
 .ret)))),
 [.t p2]⟩
/-- farrier/path.Split -/
def c159 : IFunc := ⟨[p0],
 (.seq (.reg [⟨(some p2), none, (.mov (.k (.c .nils)))⟩, ⟨(some p3), none, (.mov (.k (.c (.bool false))))⟩])
 (.seq (.seq (.reg [⟨(some p7), none, (.mov (.t p0))⟩, ⟨(some p8), none, (.bin .eql .num (.t p7) (.k (.c (.str [47]))))⟩])
 (.cond (.t p8) (.seq (.reg [⟨(some p2), none, (.mov (.k (.c .nils)))⟩, ⟨(some p3), none, (.mov (.k (.c (.bool true))))⟩])
 .ret) .skip))
 (.seq (.seq (.reg [⟨(some p9), none, (.mov (.t p0))⟩, ⟨(some p10), none, (.len .str (.t p9))⟩, ⟨(some p11), none, (.bin .gtr .num (.t p10) (.k (.c (.int .i64 40))))⟩, ⟨(some p12), none, (.mov (.t p11))⟩, ⟨(some p13), (some (p12, false)), (.mov (.t p0))⟩, ⟨(some p14), (some (p12, false)), (.call 188 [(.t p13), (.k (.c (.str [47])))])⟩, ⟨(some p15), (some (p12, false)), (.not (.t p14))⟩, ⟨(some p16), none, (.pick (.t p12) (.k (.c (.bool true))) (.t p15))⟩])
 (.cond (.t p16) (.seq (.reg [⟨(some p2), none, (.mov (.k (.c .nils)))⟩, ⟨(some p3), none, (.mov (.k (.c (.bool false))))⟩])
 .ret) .skip))
 (.seq (.reg [⟨(some p17), none, (.mov (.t p0))⟩, ⟨(some p18), none, (.slcS (.t p17) (some (.k (.c (.int .i64 1)))) none)⟩, ⟨(some p19), none, (.call 189 [(.t p18), (.k (.c (.str [47])))])⟩, ⟨(some p4), none, (.mov (.t p19))⟩])
 (.seq (.seq (.reg [⟨(some p20), none, (.mov (.t p4))⟩, ⟨(some p21), none, (.len .slice (.t p20))⟩, ⟨(some p22), none, (.bin .gtr .num (.t p21) (.k (.c (.int .i64 5))))⟩])
 (.cond (.t p22) (.seq (.reg [⟨(some p2), none, (.mov (.k (.c .nils)))⟩, ⟨(some p3), none, (.mov (.k (.c (.bool false))))⟩])
 .ret) .skip))
 (.seq (.seq (.reg [⟨(some p23), none, (.mov (.t p4))⟩, ⟨(some p24), none, (.len .slice (.t p23))⟩, ⟨(some p25), none, (.mov (.k (.c (.int .i64 0))))⟩])
 (.block 0 (.loop (.seq (.reg [⟨(some p26), none, (.bin .lss .num (.t p25) (.t p24))⟩])
 (.seq (.cond (.t p26) .skip (.exit 0))
 (.seq (.block 1 (.seq (.reg [⟨(some p27), none, (.iaddrV 1 (.t p23) (.t p25))⟩, ⟨(some p28), none, (.load1 (.t p27))⟩, ⟨(some p6), none, (.mov (.t p28))⟩])
 (.seq (.reg [⟨(some p29), none, (.mov (.t p6))⟩, ⟨(some p30), none, (.call 190 [(.t p29)])⟩, ⟨(some p31), none, (.not (.t p30))⟩])
 (.cond (.t p31) (.seq (.reg [⟨(some p2), none, (.mov (.k (.c .nils)))⟩, ⟨(some p3), none, (.mov (.k (.c (.bool false))))⟩])
 .ret) .skip))))
 (.reg [⟨(some p32), none, (.bin .add .num (.t p25) (.k (.c (.int .i64 1))))⟩, ⟨(some p25), none, (.mov (.t p32))⟩])))))))
 (.seq (.reg [⟨(some p33), none, (.mov (.t p4))⟩, ⟨(some p2), none, (.mov (.t p33))⟩, ⟨(some p3), none, (.mov (.k (.c (.bool true))))⟩])
 .ret))))))),
 [.t p2, .t p3]⟩
/-- (*farrier/tree.Tree).place -/
def c161 : IFunc := ⟨[p0, p1],
 (.seq (.reg [⟨(some p4), none, (.mov (.k (.c .nilp)))⟩, ⟨(some p5), none, (.mov (.k (.c (.str []))))⟩, ⟨(some p6), none, (.mov (.k (.c (.int .i64 0))))⟩])
 (.seq (.reg [⟨(some p12), none, (.mov (.t p1))⟩, ⟨(some p13), none, (.call 191 [(.t p12)])⟩, ⟨(some p11), none, (.mov (.t p13))⟩, ⟨(some p14), none, (.ext (.t p11) 0)⟩, ⟨(some p15), none, (.ext (.t p11) 1)⟩, ⟨(some p16), none, (.ext (.t p11) 2)⟩, ⟨(some p7), none, (.mov (.t p14))⟩, ⟨(some p8), none, (.mov (.t p15))⟩, ⟨(some p9), none, (.mov (.t p16))⟩])
 (.seq (.seq (.reg [⟨(some p17), none, (.mov (.t p9))⟩, ⟨(some p18), none, (.not (.t p17))⟩])
 (.cond (.t p18) (.seq (.reg [⟨(some p4), none, (.mov (.k (.c .nilp)))⟩, ⟨(some p5), none, (.mov (.k (.c (.str []))))⟩, ⟨(some p6), none, (.mov (.k (.c (.int .i64 14))))⟩])
 .ret) .skip))
 (.seq (.reg [⟨(some p19), none, (.mov (.t p0))⟩, ⟨(some p20), none, (.mov (.t p7))⟩, ⟨(some p21), none, (.call 110 [(.t p19), (.t p20)])⟩, ⟨(some p10), none, (.mov (.t p21))⟩])
 (.seq (.block 0 (.seq (.reg [⟨(some p23), none, (.mov (.t p10))⟩, ⟨(some p24), none, (.bin .eql .num (.t p23) (.k (.c (.int .i64 0))))⟩, ⟨(some p22), none, (.mov (.t p24))⟩])
 (.cond (.t p22) (.seq (.reg [⟨(some p4), none, (.mov (.k (.c .nilp)))⟩, ⟨(some p5), none, (.mov (.k (.c (.str []))))⟩, ⟨(some p6), none, (.mov (.k (.c (.int .i64 8))))⟩])
 .ret) (.seq (.reg [⟨(some p26), none, (.mov (.t p0))⟩, ⟨(some p27), none, (.nchk (.t p26))⟩, ⟨(some p28), none, (.faddr 0 (.t p27))⟩, ⟨(some p29), none, (.load1 (.t p28))⟩, ⟨(some p30), none, (.mov (.t p10))⟩, ⟨(some p31), none, (.look true (.c .nilp) false (.t p29) (.t p30))⟩, ⟨(some p32), none, (.nchk (.t p31))⟩, ⟨(some p33), none, (.faddr 0 (.t p32))⟩, ⟨(some p34), none, (.load1 (.t p33))⟩, ⟨(some p35), none, (.not (.t p34))⟩, ⟨(some p25), none, (.mov (.t p35))⟩])
 (.cond (.t p25) (.seq (.reg [⟨(some p4), none, (.mov (.k (.c .nilp)))⟩, ⟨(some p5), none, (.mov (.k (.c (.str []))))⟩, ⟨(some p6), none, (.mov (.k (.c (.int .i64 11))))⟩])
 .ret) .skip)))))
 (.seq (.reg [⟨(some p36), none, (.mov (.t p0))⟩, ⟨(some p37), none, (.nchk (.t p36))⟩, ⟨(some p38), none, (.faddr 0 (.t p37))⟩, ⟨(some p39), none, (.load1 (.t p38))⟩, ⟨(some p40), none, (.mov (.t p10))⟩, ⟨(some p41), none, (.look true (.c .nilp) false (.t p39) (.t p40))⟩, ⟨(some p42), none, (.mov (.t p8))⟩, ⟨(some p4), none, (.mov (.t p41))⟩, ⟨(some p5), none, (.mov (.t p42))⟩, ⟨(some p6), none, (.mov (.k (.c (.int .i64 0))))⟩])
 .ret)))))),
 [.t p4, .t p5, .t p6]⟩
/-- (*farrier/tree.Tree).make -/
def c162 : IFunc := ⟨[p0, p1, p2, p3],
 (.seq (.dreg [⟨(some p8), none, (.mov (.t p0))⟩, ⟨(some p9), none, (.nchk (.t p8))⟩, ⟨(some p10), none, (.faddr 0 (.t p9))⟩, ⟨(some p11), none, (.load1 (.t p10))⟩, ⟨(some p12), none, (.mov (.t p0))⟩, ⟨(some p13), none, (.nchk (.t p12))⟩, ⟨(some p14), none, (.faddr 1 (.t p13))⟩, ⟨(some p15), none, (.load1 (.t p14))⟩, ⟨(some p16), none, (.mov (.t p3))⟩, ⟨none, none, (.mupd true (.t p11) (.t p15) (.t p16))⟩] [[], [], [], [], [], [], [], [], [], []])
 (.seq (.dreg [⟨(some p17), none, (.mov (.t p1))⟩, ⟨(some p18), none, (.nchk (.t p17))⟩, ⟨(some p19), none, (.faddr 3 (.t p18))⟩, ⟨(some p20), none, (.load1 (.t p19))⟩, ⟨(some p21), none, (.mov (.t p2))⟩, ⟨(some p22), none, (.mov (.t p0))⟩, ⟨(some p23), none, (.nchk (.t p22))⟩, ⟨(some p24), none, (.faddr 1 (.t p23))⟩, ⟨(some p25), none, (.load1 (.t p24))⟩, ⟨none, none, (.mupd false (.t p20) (.t p21) (.t p25))⟩] [[], [], [], [], [], [], [], [], [], []])
 (.reg [⟨(some p26), none, (.mov (.t p0))⟩, ⟨(some p27), none, (.nchk (.t p26))⟩, ⟨(some p28), none, (.faddr 1 (.t p27))⟩, ⟨(some p29), none, (.load1 (.t p28))⟩, ⟨(some p30), none, (.bin .add .num (.t p29) (.k (.c (.int .i64 1))))⟩, ⟨(some p31), none, (.nchk (.t p26))⟩, ⟨(some p32), none, (.faddr 1 (.t p31))⟩, ⟨none, none, (.store 1 (.t p32) (.t p30))⟩]))),
 []⟩
/-- slices.Clone[[]byte,byte] -/
def c163 : IFunc := ⟨[p0],
 (.seq (.reg [⟨(some p2), none, (.mov (.k (.c .nils)))⟩])
 (.seq (.seq (.reg [⟨(some p3), none, (.mov (.t p0))⟩, ⟨(some p4), none, (.bin .eql .slice (.t p3) (.k (.c .nils)))⟩])
 (.cond (.t p4) (.seq (.reg [⟨(some p2), none, (.mov (.k (.c .nils)))⟩])
 .ret) .skip))
 (.seq (.reg [⟨(some p5), none, (.bslice 0 1 [] [])⟩, ⟨(some p6), none, (.mov (.t p0))⟩, ⟨(some p7), none, (.appendV 1 1 (.t p5) (.t p6))⟩, ⟨(some p2), none, (.mov (.t p7))⟩])
 .ret))),
 [.t p2]⟩
/-- farrier/crc.Of -/
def c165 : IFunc := ⟨[p0],
 (.seq (.reg [⟨(some p2), none, (.mov (.k (.c (.int .u32 0))))⟩])
 (.seq (.reg [⟨(some p3), none, (.mov (.k (.c (.int .u32 4294967295))))⟩])
 (.seq (.seq (.reg [⟨(some p8), none, (.mov (.t p0))⟩, ⟨(some p9), none, (.len .slice (.t p8))⟩, ⟨(some p10), none, (.mov (.k (.c (.int .i64 0))))⟩])
 (.block 0 (.loop (.seq (.reg [⟨(some p11), none, (.bin .lss .num (.t p10) (.t p9))⟩])
 (.seq (.cond (.t p11) .skip (.exit 0))
 (.seq (.block 1 (.seq (.reg [⟨(some p12), none, (.iaddrV 1 (.t p8) (.t p10))⟩, ⟨(some p13), none, (.load1 (.t p12))⟩, ⟨(some p5), none, (.mov (.t p13))⟩])
 (.seq (.reg [⟨(some p14), none, (.mov (.t p5))⟩, ⟨(some p15), none, (.len .slice (.t p14))⟩, ⟨(some p16), none, (.mov (.k (.c (.int .i64 0))))⟩])
 (.block 2 (.loop (.seq (.reg [⟨(some p17), none, (.bin .lss .num (.t p16) (.t p15))⟩])
 (.seq (.cond (.t p17) .skip (.exit 2))
 (.seq (.block 3 (.seq (.reg [⟨(some p18), none, (.iaddrV 1 (.t p14) (.t p16))⟩, ⟨(some p19), none, (.load1 (.t p18))⟩, ⟨(some p7), none, (.mov (.t p19))⟩])
 (.seq (.reg [⟨(some p20), none, (.mov (.t p3))⟩, ⟨(some p21), none, (.mov (.t p7))⟩, ⟨(some p22), none, (.cvInt .u32 (.t p21))⟩, ⟨(some p23), none, (.bin .xor .num (.t p20) (.t p22))⟩, ⟨(some p3), none, (.mov (.t p23))⟩])
 (.seq (.reg [⟨(some p24), none, (.mov (.k (.c (.int .i64 0))))⟩])
 (.block 4 (.loop (.seq (.reg [⟨(some p25), none, (.bin .lss .num (.t p24) (.k (.c (.int .i64 8))))⟩])
 (.seq (.cond (.t p25) .skip (.exit 4))
 (.seq (.block 5 (.seq (.reg [⟨(some p26), none, (.mov (.t p3))⟩, ⟨(some p27), none, (.bin .and .num (.t p26) (.k (.c (.int .u32 1))))⟩, ⟨(some p28), none, (.bin .eql .num (.t p27) (.k (.c (.int .u32 1))))⟩])
 (.cond (.t p28) (.reg [⟨(some p29), none, (.mov (.t p3))⟩, ⟨(some p30), none, (.bin .shr .num (.t p29) (.k (.c (.int .u64 1))))⟩, ⟨(some p31), none, (.bin .xor .num (.t p30) (.k (.c (.int .u32 3988292384))))⟩, ⟨(some p3), none, (.mov (.t p31))⟩]) (.reg [⟨(some p32), none, (.mov (.t p3))⟩, ⟨(some p33), none, (.bin .shr .num (.t p32) (.k (.c (.int .u64 1))))⟩, ⟨(some p3), none, (.mov (.t p33))⟩]))))
 (.reg [⟨(some p34), none, (.bin .add .num (.t p24) (.k (.c (.int .i64 1))))⟩, ⟨(some p24), none, (.mov (.t p34))⟩]))))))))))
 (.reg [⟨(some p35), none, (.bin .add .num (.t p16) (.k (.c (.int .i64 1))))⟩, ⟨(some p16), none, (.mov (.t p35))⟩])))))))))
 (.reg [⟨(some p36), none, (.bin .add .num (.t p10) (.k (.c (.int .i64 1))))⟩, ⟨(some p10), none, (.mov (.t p36))⟩])))))))
 (.seq (.reg [⟨(some p37), none, (.mov (.t p3))⟩, ⟨(some p38), none, (.compl (.t p37))⟩, ⟨(some p2), none, (.mov (.t p38))⟩])
 .ret)))),
 [.t p2]⟩
/-- (*farrier/disk.Disk).Write -/
def c166 : IFunc := ⟨[p0, p1, p2],
 (.seq (.reg [⟨(some p5), none, (.box (.t p2))⟩, ⟨(some p6), none, (.mov (.k (.c (.int .i64 0))))⟩])
 (.seq (.block 0 (.seq (.reg [⟨(some p8), none, (.mov (.t p0))⟩, ⟨(some p9), none, (.nchk (.t p8))⟩, ⟨(some p10), none, (.faddr 2 (.t p9))⟩, ⟨(some p11), none, (.load1 (.t p10))⟩, ⟨(some p7), none, (.mov (.t p11))⟩])
 (.cond (.t p7) (.seq (.reg [⟨(some p6), none, (.mov (.k (.c (.int .i64 3))))⟩])
 .ret) (.seq (.reg [⟨(some p13), none, (.mov (.t p1))⟩, ⟨(some p14), none, (.bin .lss .num (.t p13) (.k (.c (.int .i64 0))))⟩, ⟨(some p15), none, (.mov (.t p14))⟩, ⟨(some p16), (some (p15, false)), (.mov (.t p1))⟩, ⟨(some p17), (some (p15, false)), (.mov (.t p0))⟩, ⟨(some p18), (some (p15, false)), (.nchk (.t p17))⟩, ⟨(some p19), (some (p15, false)), (.faddr 0 (.t p18))⟩, ⟨(some p20), (some (p15, false)), (.load1 (.t p19))⟩, ⟨(some p21), (some (p15, false)), (.len .slice (.t p20))⟩, ⟨(some p22), (some (p15, false)), (.bin .geq .num (.t p16) (.t p21))⟩, ⟨(some p23), none, (.pick (.t p15) (.k (.c (.bool true))) (.t p22))⟩, ⟨(some p12), none, (.mov (.t p23))⟩])
 (.cond (.t p12) (.seq (.reg [⟨(some p6), none, (.mov (.k (.c (.int .i64 2))))⟩])
 .ret) .skip)))))
 (.seq (.dreg [⟨(some p24), none, (.mov (.t p0))⟩, ⟨(some p25), none, (.mov (.t p0))⟩, ⟨(some p26), none, (.nchk (.t p25))⟩, ⟨(some p27), none, (.faddr 1 (.t p26))⟩, ⟨(some p28), none, (.load1 (.t p27))⟩, ⟨(some p29), none, (.mov (.t p1))⟩, ⟨(some p30), none, (.loadN 64 (.t p5))⟩, ⟨(some p31), none, (.build [(.int .i64 0), (.int .u8 0), (.int .u8 0), (.int .u8 0), (.int .u8 0), (.int .u8 0), (.int .u8 0), (.int .u8 0), (.int .u8 0), (.int .u8 0), (.int .u8 0), (.int .u8 0), (.int .u8 0), (.int .u8 0), (.int .u8 0), (.int .u8 0), (.int .u8 0), (.int .u8 0), (.int .u8 0), (.int .u8 0), (.int .u8 0), (.int .u8 0), (.int .u8 0), (.int .u8 0), (.int .u8 0), (.int .u8 0), (.int .u8 0), (.int .u8 0), (.int .u8 0), (.int .u8 0), (.int .u8 0), (.int .u8 0), (.int .u8 0), (.int .u8 0), (.int .u8 0), (.int .u8 0), (.int .u8 0), (.int .u8 0), (.int .u8 0), (.int .u8 0), (.int .u8 0), (.int .u8 0), (.int .u8 0), (.int .u8 0), (.int .u8 0), (.int .u8 0), (.int .u8 0), (.int .u8 0), (.int .u8 0), (.int .u8 0), (.int .u8 0), (.int .u8 0), (.int .u8 0), (.int .u8 0), (.int .u8 0), (.int .u8 0), (.int .u8 0), (.int .u8 0), (.int .u8 0), (.int .u8 0), (.int .u8 0), (.int .u8 0), (.int .u8 0), (.int .u8 0), (.int .u8 0)] [(0, 1, (.t p29)), (1, 64, (.t p30))])⟩, ⟨(some p32), none, (.bslice 1 65 [(.int .i64 0), (.int .u8 0), (.int .u8 0), (.int .u8 0), (.int .u8 0), (.int .u8 0), (.int .u8 0), (.int .u8 0), (.int .u8 0), (.int .u8 0), (.int .u8 0), (.int .u8 0), (.int .u8 0), (.int .u8 0), (.int .u8 0), (.int .u8 0), (.int .u8 0), (.int .u8 0), (.int .u8 0), (.int .u8 0), (.int .u8 0), (.int .u8 0), (.int .u8 0), (.int .u8 0), (.int .u8 0), (.int .u8 0), (.int .u8 0), (.int .u8 0), (.int .u8 0), (.int .u8 0), (.int .u8 0), (.int .u8 0), (.int .u8 0), (.int .u8 0), (.int .u8 0), (.int .u8 0), (.int .u8 0), (.int .u8 0), (.int .u8 0), (.int .u8 0), (.int .u8 0), (.int .u8 0), (.int .u8 0), (.int .u8 0), (.int .u8 0), (.int .u8 0), (.int .u8 0), (.int .u8 0), (.int .u8 0), (.int .u8 0), (.int .u8 0), (.int .u8 0), (.int .u8 0), (.int .u8 0), (.int .u8 0), (.int .u8 0), (.int .u8 0), (.int .u8 0), (.int .u8 0), (.int .u8 0), (.int .u8 0), (.int .u8 0), (.int .u8 0), (.int .u8 0), (.int .u8 0)] [(0, 65, (.t p31))])⟩, ⟨(some p33), none, (.appendV 65 72 (.t p28) (.t p32))⟩, ⟨(some p34), none, (.nchk (.t p24))⟩, ⟨(some p35), none, (.faddr 1 (.t p34))⟩, ⟨none, none, (.store 1 (.t p35) (.t p33))⟩] [[], [], [], [], [], [], [], [], [], [], [], [], []])
 (.seq (.seq (.reg [⟨(some p36), none, (.mov (.t p0))⟩, ⟨(some p37), none, (.call 167 [(.t p36)])⟩, ⟨(some p38), none, (.not (.t p37))⟩])
 (.cond (.t p38) (.seq (.reg [⟨(some p6), none, (.mov (.k (.c (.int .i64 3))))⟩])
 .ret) .skip))
 (.seq (.reg [⟨(some p6), none, (.mov (.k (.c (.int .i64 0))))⟩])
 .ret))))),
 [.t p6]⟩
/-- (*farrier/disk.Disk).step -/
def c167 : IFunc := ⟨[p0],
 (.seq (.reg [⟨(some p2), none, (.mov (.k (.c (.bool false))))⟩])
 (.seq (.reg [⟨(some p3), none, (.mov (.t p0))⟩, ⟨(some p4), none, (.nchk (.t p3))⟩, ⟨(some p5), none, (.faddr 5 (.t p4))⟩, ⟨(some p6), none, (.load1 (.t p5))⟩, ⟨(some p7), none, (.bin .add .num (.t p6) (.k (.c (.int .i64 1))))⟩, ⟨(some p8), none, (.nchk (.t p3))⟩, ⟨(some p9), none, (.faddr 5 (.t p8))⟩, ⟨none, none, (.store 1 (.t p9) (.t p7))⟩])
 (.seq (.seq (.reg [⟨(some p10), none, (.mov (.t p0))⟩, ⟨(some p11), none, (.nchk (.t p10))⟩, ⟨(some p12), none, (.faddr 3 (.t p11))⟩, ⟨(some p13), none, (.load1 (.t p12))⟩, ⟨(some p14), none, (.bin .gtr .num (.t p13) (.k (.c (.int .i64 0))))⟩])
 (.cond (.t p14) (.seq (.reg [⟨(some p15), none, (.mov (.t p0))⟩, ⟨(some p16), none, (.nchk (.t p15))⟩, ⟨(some p17), none, (.faddr 3 (.t p16))⟩, ⟨(some p18), none, (.load1 (.t p17))⟩, ⟨(some p19), none, (.bin .sub .num (.t p18) (.k (.c (.int .i64 1))))⟩, ⟨(some p20), none, (.nchk (.t p15))⟩, ⟨(some p21), none, (.faddr 3 (.t p20))⟩, ⟨none, none, (.store 1 (.t p21) (.t p19))⟩])
 (.seq (.reg [⟨(some p22), none, (.mov (.t p0))⟩, ⟨(some p23), none, (.nchk (.t p22))⟩, ⟨(some p24), none, (.faddr 3 (.t p23))⟩, ⟨(some p25), none, (.load1 (.t p24))⟩, ⟨(some p26), none, (.bin .eql .num (.t p25) (.k (.c (.int .i64 0))))⟩])
 (.cond (.t p26) (.seq (.reg [⟨(some p27), none, (.mov (.t p0))⟩, ⟨(some p28), none, (.mov (.t p0))⟩, ⟨(some p29), none, (.nchk (.t p28))⟩, ⟨(some p30), none, (.faddr 4 (.t p29))⟩, ⟨(some p31), none, (.load1 (.t p30))⟩, ⟨(some p32), none, (.call 192 [(.t p27), (.t p31)])⟩])
 (.seq (.reg [⟨(some p2), none, (.mov (.k (.c (.bool false))))⟩])
 .ret)) .skip))) .skip))
 (.seq (.reg [⟨(some p2), none, (.mov (.k (.c (.bool true))))⟩])
 .ret)))),
 [.t p2]⟩
/-- farrier/rec.number -/
def c168 : IFunc := ⟨[p0],
 (.seq (.reg [⟨(some p2), none, (.mov (.k (.c .nils)))⟩])
 (.seq (.reg [⟨(some p3), none, (.mov (.t p0))⟩, ⟨(some p4), none, (.cvInt .u8 (.t p3))⟩, ⟨(some p5), none, (.mov (.t p0))⟩, ⟨(some p6), none, (.bin .shr .num (.t p5) (.k (.c (.int .u64 8))))⟩, ⟨(some p7), none, (.cvInt .u8 (.t p6))⟩, ⟨(some p8), none, (.mov (.t p0))⟩, ⟨(some p9), none, (.bin .shr .num (.t p8) (.k (.c (.int .u64 16))))⟩, ⟨(some p10), none, (.cvInt .u8 (.t p9))⟩, ⟨(some p11), none, (.mov (.t p0))⟩, ⟨(some p12), none, (.bin .shr .num (.t p11) (.k (.c (.int .u64 24))))⟩, ⟨(some p13), none, (.cvInt .u8 (.t p12))⟩, ⟨(some p14), none, (.bslice 4 1 [(.int .u8 0), (.int .u8 0), (.int .u8 0), (.int .u8 0)] [(0, 1, (.t p4)), (1, 1, (.t p7)), (2, 1, (.t p10)), (3, 1, (.t p13))])⟩, ⟨(some p2), none, (.mov (.t p14))⟩])
 .ret)),
 [.t p2]⟩
/-- slices.IndexFunc[[]int,int] -/
def c171 : IFunc := ⟨[p0, p1],
 (.seq (.reg [⟨(some p4), none, (.mov (.k (.c (.int .i64 0))))⟩])
 (.seq (.seq (.reg [⟨(some p6), none, (.mov (.t p0))⟩, ⟨(some p7), none, (.len .slice (.t p6))⟩, ⟨(some p8), none, (.mov (.k (.c (.int .i64 0))))⟩])
 (.block 0 (.loop (.seq (.reg [⟨(some p9), none, (.bin .lss .num (.t p8) (.t p7))⟩])
 (.seq (.cond (.t p9) .skip (.exit 0))
 (.seq (.block 1 (.seq (.reg [⟨(some p10), none, (.mov (.t p8))⟩, ⟨(some p5), none, (.mov (.t p10))⟩])
 (.seq (.reg [⟨(some p11), none, (.mov (.t p1))⟩, ⟨(some p12), none, (.mov (.t p0))⟩, ⟨(some p13), none, (.mov (.t p5))⟩, ⟨(some p14), none, (.iaddrV 1 (.t p12) (.t p13))⟩, ⟨(some p15), none, (.load1 (.t p14))⟩, ⟨(some p16), none, (.callv (.t p11) [(.t p15)])⟩])
 (.cond (.t p16) (.seq (.reg [⟨(some p17), none, (.mov (.t p5))⟩, ⟨(some p4), none, (.mov (.t p17))⟩])
 .ret) .skip))))
 (.reg [⟨(some p18), none, (.bin .add .num (.t p8) (.k (.c (.int .i64 1))))⟩, ⟨(some p8), none, (.mov (.t p18))⟩])))))))
 (.seq (.reg [⟨(some p4), none, (.mov (.k (.c (.int .i64 (-1)))))⟩])
 .ret))),
 [.t p4]⟩
/-- strings.HasPrefix -/
def c188 : IFunc := ⟨[p0, p1],
 (.seq (.reg [⟨(some p4), none, (.mov (.k (.c (.bool false))))⟩])
 (.seq (.reg [⟨(some p5), none, (.mov (.t p0))⟩, ⟨(some p6), none, (.mov (.t p1))⟩, ⟨(some p7), none, (.call 210 [(.t p5), (.t p6)])⟩, ⟨(some p4), none, (.mov (.t p7))⟩])
 .ret)),
 [.t p4]⟩
/-- strings.Split -/
def c189 : IFunc := ⟨[p0, p1],
 (.seq (.reg [⟨(some p4), none, (.mov (.k (.c .nils)))⟩])
 (.seq (.reg [⟨(some p5), none, (.mov (.t p0))⟩, ⟨(some p6), none, (.mov (.t p1))⟩, ⟨(some p7), none, (.call 211 [(.t p5), (.t p6), (.k (.c (.int .i64 0))), (.k (.c (.int .i64 (-1))))])⟩, ⟨(some p4), none, (.mov (.t p7))⟩])
 .ret)),
 [.t p4]⟩
/-- farrier/path.Name -/
def c190 : IFunc := ⟨[p0],
 (.seq (.reg [⟨(some p2), none, (.mov (.k (.c (.bool false))))⟩])
 (.seq (.seq (.reg [⟨(some p5), none, (.mov (.t p0))⟩, ⟨(some p6), none, (.bin .eql .num (.t p5) (.k (.c (.str []))))⟩, ⟨(some p7), none, (.mov (.t p6))⟩, ⟨(some p8), (some (p7, false)), (.mov (.t p0))⟩, ⟨(some p9), (some (p7, false)), (.len .str (.t p8))⟩, ⟨(some p10), (some (p7, false)), (.bin .gtr .num (.t p9) (.k (.c (.int .i64 12))))⟩, ⟨(some p11), none, (.pick (.t p7) (.k (.c (.bool true))) (.t p10))⟩, ⟨(some p12), none, (.mov (.t p11))⟩, ⟨(some p13), (some (p12, false)), (.mov (.t p0))⟩, ⟨(some p14), (some (p12, false)), (.bin .eql .num (.t p13) (.k (.c (.str [46]))))⟩, ⟨(some p15), none, (.pick (.t p12) (.k (.c (.bool true))) (.t p14))⟩, ⟨(some p16), none, (.mov (.t p15))⟩, ⟨(some p17), (some (p16, false)), (.mov (.t p0))⟩, ⟨(some p18), (some (p16, false)), (.bin .eql .num (.t p17) (.k (.c (.str [46, 46]))))⟩, ⟨(some p19), none, (.pick (.t p16) (.k (.c (.bool true))) (.t p18))⟩])
 (.cond (.t p19) (.seq (.reg [⟨(some p2), none, (.mov (.k (.c (.bool false))))⟩])
 .ret) .skip))
 (.seq (.seq (.reg [⟨(some p20), none, (.mov (.t p0))⟩, ⟨(some p21), none, (.rngS (.t p20))⟩])
 (.block 0 (.loop (.seq (.reg [⟨(some p22), none, (.nextS (.t p21))⟩, ⟨(some p23), none, (.ext (.t p22) 0)⟩])
 (.seq (.cond (.t p23) .skip (.exit 0))
 (.block 1 (.seq (.reg [⟨(some p24), none, (.ext (.t p22) 2)⟩, ⟨(some p4), none, (.mov (.t p24))⟩])
 (.seq (.reg [⟨(some p25), none, (.mov (.t p4))⟩, ⟨(some p26), none, (.call 212 [(.t p25)])⟩, ⟨(some p27), none, (.not (.t p26))⟩])
 (.cond (.t p27) (.seq (.reg [⟨(some p2), none, (.mov (.k (.c (.bool false))))⟩])
 .ret) .skip)))))))))
 (.seq (.reg [⟨(some p2), none, (.mov (.k (.c (.bool true))))⟩])
 .ret)))),
 [.t p2]⟩
/-- farrier/path.Parent -/
def c191 : IFunc := ⟨[p0],
 (.seq (.reg [⟨(some p2), none, (.mov (.k (.c (.str []))))⟩, ⟨(some p3), none, (.mov (.k (.c (.str []))))⟩, ⟨(some p4), none, (.mov (.k (.c (.bool false))))⟩])
 (.seq (.reg [⟨(some p9), none, (.mov (.t p0))⟩, ⟨(some p10), none, (.call 159 [(.t p9)])⟩, ⟨(some p8), none, (.mov (.t p10))⟩, ⟨(some p11), none, (.ext (.t p8) 0)⟩, ⟨(some p12), none, (.ext (.t p8) 1)⟩, ⟨(some p5), none, (.mov (.t p11))⟩, ⟨(some p6), none, (.mov (.t p12))⟩])
 (.seq (.seq (.reg [⟨(some p13), none, (.mov (.t p6))⟩, ⟨(some p14), none, (.not (.t p13))⟩, ⟨(some p15), none, (.mov (.t p14))⟩, ⟨(some p16), (some (p15, false)), (.mov (.t p5))⟩, ⟨(some p17), (some (p15, false)), (.len .slice (.t p16))⟩, ⟨(some p18), (some (p15, false)), (.bin .eql .num (.t p17) (.k (.c (.int .i64 0))))⟩, ⟨(some p19), none, (.pick (.t p15) (.k (.c (.bool true))) (.t p18))⟩])
 (.cond (.t p19) (.seq (.reg [⟨(some p2), none, (.mov (.k (.c (.str []))))⟩, ⟨(some p3), none, (.mov (.k (.c (.str []))))⟩, ⟨(some p4), none, (.mov (.k (.c (.bool false))))⟩])
 .ret) .skip))
 (.seq (.reg [⟨(some p20), none, (.mov (.t p5))⟩, ⟨(some p21), none, (.len .slice (.t p20))⟩, ⟨(some p22), none, (.bin .sub .num (.t p21) (.k (.c (.int .i64 1))))⟩, ⟨(some p7), none, (.mov (.t p22))⟩])
 (.seq (.dreg [⟨(some p23), none, (.mov (.t p5))⟩, ⟨(some p24), none, (.mov (.t p7))⟩, ⟨(some p25), none, (.slcV 1 (.t p23) none (some (.t p24)) none)⟩, ⟨(some p27), none, (.mov (.t p5))⟩, ⟨(some p28), none, (.mov (.t p7))⟩, ⟨(some p29), none, (.iaddrV 1 (.t p27) (.t p28))⟩, ⟨(some p30), none, (.load1 (.t p29))⟩, ⟨(some p26), none, (.call 213 [(.t p25)])⟩, ⟨(some p2), none, (.mov (.t p26))⟩, ⟨(some p3), none, (.mov (.t p30))⟩, ⟨(some p4), none, (.mov (.k (.c (.bool true))))⟩] [[], [], [], [], [], [], [], [6], [], [], []])
 .ret))))),
 [.t p2, .t p3, .t p4]⟩
/-- internal/stringslite.HasPrefix -/
def c210 : IFunc := ⟨[p0, p1],
 (.seq (.reg [⟨(some p4), none, (.mov (.k (.c (.bool false))))⟩])
 (.seq (.reg [⟨(some p5), none, (.mov (.t p0))⟩, ⟨(some p6), none, (.len .str (.t p5))⟩, ⟨(some p7), none, (.mov (.t p1))⟩, ⟨(some p8), none, (.len .str (.t p7))⟩, ⟨(some p9), none, (.bin .geq .num (.t p6) (.t p8))⟩, ⟨(some p10), none, (.mov (.t p9))⟩, ⟨(some p11), (some (p10, true)), (.mov (.t p0))⟩, ⟨(some p12), (some (p10, true)), (.mov (.t p1))⟩, ⟨(some p13), (some (p10, true)), (.len .str (.t p12))⟩, ⟨(some p14), (some (p10, true)), (.slcS (.t p11) none (some (.t p13)))⟩, ⟨(some p15), (some (p10, true)), (.mov (.t p1))⟩, ⟨(some p16), (some (p10, true)), (.bin .eql .num (.t p14) (.t p15))⟩, ⟨(some p17), none, (.pick (.t p10) (.t p16) (.k (.c (.bool false))))⟩, ⟨(some p4), none, (.mov (.t p17))⟩])
 .ret)),
 [.t p4]⟩
/-- strings.genSplit -/
def c211 : IFunc := ⟨[p0, p1, p2, p3],
 (.seq (.reg [⟨(some p8), none, (.mov (.k (.c .nils)))⟩])
 (.seq (.seq (.reg [⟨(some p12), none, (.mov (.t p3))⟩, ⟨(some p13), none, (.bin .eql .num (.t p12) (.k (.c (.int .i64 0))))⟩])
 (.cond (.t p13) (.seq (.reg [⟨(some p8), none, (.mov (.k (.c .nils)))⟩])
 .ret) .skip))
 (.seq (.seq (.reg [⟨(some p14), none, (.mov (.t p1))⟩, ⟨(some p15), none, (.bin .eql .num (.t p14) (.k (.c (.str []))))⟩])
 (.cond (.t p15) (.seq (.reg [⟨(some p16), none, (.mov (.t p0))⟩, ⟨(some p17), none, (.mov (.t p3))⟩, ⟨(some p18), none, (.call 219 [(.t p16), (.t p17)])⟩, ⟨(some p8), none, (.mov (.t p18))⟩])
 .ret) .skip))
 (.seq (.seq (.reg [⟨(some p19), none, (.mov (.t p3))⟩, ⟨(some p20), none, (.bin .lss .num (.t p19) (.k (.c (.int .i64 0))))⟩])
 (.cond (.t p20) (.reg [⟨(some p21), none, (.mov (.t p0))⟩, ⟨(some p22), none, (.mov (.t p1))⟩, ⟨(some p23), none, (.call 220 [(.t p21), (.t p22)])⟩, ⟨(some p24), none, (.bin .add .num (.t p23) (.k (.c (.int .i64 1))))⟩, ⟨(some p3), none, (.mov (.t p24))⟩]) .skip))
 (.seq (.reg [⟨(some p25), none, (.mov (.t p3))⟩, ⟨(some p26), none, (.mov (.t p0))⟩, ⟨(some p27), none, (.len .str (.t p26))⟩, ⟨(some p28), none, (.bin .add .num (.t p27) (.k (.c (.int .i64 1))))⟩, ⟨(some p29), none, (.min [(.t p25), (.t p28)])⟩, ⟨(some p3), none, (.mov (.t p29))⟩])
 (.seq (.reg [⟨(some p30), none, (.mov (.t p3))⟩, ⟨(some p31), none, (.mkslice 16 [(.str [])] (.t p30) (.t p30))⟩, ⟨(some p9), none, (.mov (.t p31))⟩])
 (.seq (.reg [⟨(some p32), none, (.mov (.t p3))⟩, ⟨(some p33), none, (.bin .sub .num (.t p32) (.k (.c (.int .i64 1))))⟩, ⟨(some p3), none, (.mov (.t p33))⟩])
 (.seq (.reg [⟨(some p10), none, (.mov (.k (.c (.int .i64 0))))⟩])
 (.seq (.block 0 (.loop (.seq (.seq (.reg [⟨(some p34), none, (.mov (.t p10))⟩, ⟨(some p35), none, (.mov (.t p3))⟩, ⟨(some p36), none, (.bin .lss .num (.t p34) (.t p35))⟩])
 (.cond (.t p36) .skip (.exit 0)))
 (.block 1 (.seq (.reg [⟨(some p37), none, (.mov (.t p0))⟩, ⟨(some p38), none, (.mov (.t p1))⟩, ⟨(some p39), none, (.call 221 [(.t p37), (.t p38)])⟩, ⟨(some p11), none, (.mov (.t p39))⟩])
 (.seq (.seq (.reg [⟨(some p40), none, (.mov (.t p11))⟩, ⟨(some p41), none, (.bin .lss .num (.t p40) (.k (.c (.int .i64 0))))⟩])
 (.cond (.t p41) (.exit 0) .skip))
 (.seq (.reg [⟨(some p42), none, (.mov (.t p9))⟩, ⟨(some p43), none, (.mov (.t p10))⟩, ⟨(some p44), none, (.mov (.t p0))⟩, ⟨(some p45), none, (.mov (.t p11))⟩, ⟨(some p46), none, (.mov (.t p2))⟩, ⟨(some p47), none, (.bin .add .num (.t p45) (.t p46))⟩, ⟨(some p48), none, (.slcS (.t p44) none (some (.t p47)))⟩, ⟨(some p49), none, (.iaddrV 1 (.t p42) (.t p43))⟩, ⟨none, none, (.store 1 (.t p49) (.t p48))⟩])
 (.seq (.reg [⟨(some p50), none, (.mov (.t p0))⟩, ⟨(some p51), none, (.mov (.t p11))⟩, ⟨(some p52), none, (.mov (.t p1))⟩, ⟨(some p53), none, (.len .str (.t p52))⟩, ⟨(some p54), none, (.bin .add .num (.t p51) (.t p53))⟩, ⟨(some p55), none, (.slcS (.t p50) (some (.t p54)) none)⟩, ⟨(some p0), none, (.mov (.t p55))⟩])
 (.reg [⟨(some p56), none, (.mov (.t p10))⟩, ⟨(some p57), none, (.bin .add .num (.t p56) (.k (.c (.int .i64 1))))⟩, ⟨(some p10), none, (.mov (.t p57))⟩])))))))))
 (.seq (.reg [⟨(some p58), none, (.mov (.t p9))⟩, ⟨(some p59), none, (.mov (.t p10))⟩, ⟨(some p60), none, (.mov (.t p0))⟩, ⟨(some p61), none, (.iaddrV 1 (.t p58) (.t p59))⟩, ⟨none, none, (.store 1 (.t p61) (.t p60))⟩])
 (.seq (.reg [⟨(some p62), none, (.mov (.t p9))⟩, ⟨(some p63), none, (.mov (.t p10))⟩, ⟨(some p64), none, (.bin .add .num (.t p63) (.k (.c (.int .i64 1))))⟩, ⟨(some p65), none, (.slcV 1 (.t p62) none (some (.t p64)) none)⟩, ⟨(some p8), none, (.mov (.t p65))⟩])
 .ret))))))))))),
 [.t p8]⟩
/-- farrier/path.sign -/
def c212 : IFunc := ⟨[p0],
 (.seq (.reg [⟨(some p2), none, (.mov (.k (.c (.bool false))))⟩])
 (.seq (.reg [⟨(some p3), none, (.mov (.t p0))⟩, ⟨(some p4), none, (.bin .geq .num (.t p3) (.k (.c (.int .i32 97))))⟩, ⟨(some p5), none, (.mov (.t p4))⟩, ⟨(some p6), (some (p5, true)), (.mov (.t p0))⟩, ⟨(some p7), (some (p5, true)), (.bin .leq .num (.t p6) (.k (.c (.int .i32 122))))⟩, ⟨(some p8), none, (.pick (.t p5) (.t p7) (.k (.c (.bool false))))⟩, ⟨(some p9), none, (.mov (.t p8))⟩, ⟨(some p10), (some (p9, false)), (.mov (.t p0))⟩, ⟨(some p11), (some (p9, false)), (.bin .geq .num (.t p10) (.k (.c (.int .i32 48))))⟩, ⟨(some p12), (some (p9, false)), (.mov (.t p11))⟩, ⟨(some p13), (some (p12, true)), (.mov (.t p0))⟩, ⟨(some p14), (some (p12, true)), (.bin .leq .num (.t p13) (.k (.c (.int .i32 57))))⟩, ⟨(some p15), (some (p9, false)), (.pick (.t p12) (.t p14) (.k (.c (.bool false))))⟩, ⟨(some p16), none, (.pick (.t p9) (.k (.c (.bool true))) (.t p15))⟩, ⟨(some p17), none, (.mov (.t p16))⟩, ⟨(some p18), (some (p17, false)), (.mov (.t p0))⟩, ⟨(some p19), (some (p17, false)), (.bin .eql .num (.t p18) (.k (.c (.int .i32 45))))⟩, ⟨(some p20), none, (.pick (.t p17) (.k (.c (.bool true))) (.t p19))⟩, ⟨(some p21), none, (.mov (.t p20))⟩, ⟨(some p22), (some (p21, false)), (.mov (.t p0))⟩, ⟨(some p23), (some (p21, false)), (.bin .eql .num (.t p22) (.k (.c (.int .i32 46))))⟩, ⟨(some p24), none, (.pick (.t p21) (.k (.c (.bool true))) (.t p23))⟩, ⟨(some p25), none, (.mov (.t p24))⟩, ⟨(some p26), (some (p25, false)), (.mov (.t p0))⟩, ⟨(some p27), (some (p25, false)), (.bin .eql .num (.t p26) (.k (.c (.int .i32 95))))⟩, ⟨(some p28), none, (.pick (.t p25) (.k (.c (.bool true))) (.t p27))⟩, ⟨(some p2), none, (.mov (.t p28))⟩])
 .ret)),
 [.t p2]⟩
/-- farrier/path.Join -/
def c213 : IFunc := ⟨[p0],
 (.seq (.reg [⟨(some p2), none, (.mov (.k (.c (.str []))))⟩])
 (.seq (.reg [⟨(some p3), none, (.mov (.t p0))⟩, ⟨(some p4), none, (.call 222 [(.t p3), (.k (.c (.str [47])))])⟩, ⟨(some p5), none, (.bin .add .num (.k (.c (.str [47]))) (.t p4))⟩, ⟨(some p2), none, (.mov (.t p5))⟩])
 .ret)),
 [.t p2]⟩
/-- strings.Count -/
def c220 : IFunc := ⟨[p0, p1],
 (.seq (.reg [⟨(some p4), none, (.mov (.k (.c (.int .i64 0))))⟩])
 (.seq (.seq (.reg [⟨(some p7), none, (.mov (.t p1))⟩, ⟨(some p8), none, (.len .str (.t p7))⟩, ⟨(some p9), none, (.bin .eql .num (.t p8) (.k (.c (.int .i64 0))))⟩])
 (.cond (.t p9) (.seq (.reg [⟨(some p10), none, (.mov (.t p0))⟩, ⟨(some p11), none, (.call 224 [(.t p10)])⟩, ⟨(some p12), none, (.bin .add .num (.t p11) (.k (.c (.int .i64 1))))⟩, ⟨(some p4), none, (.mov (.t p12))⟩])
 .ret) .skip))
 (.seq (.seq (.reg [⟨(some p13), none, (.mov (.t p1))⟩, ⟨(some p14), none, (.len .str (.t p13))⟩, ⟨(some p15), none, (.bin .eql .num (.t p14) (.k (.c (.int .i64 1))))⟩])
 (.cond (.t p15) (.seq (.reg [⟨(some p16), none, (.mov (.t p0))⟩, ⟨(some p17), none, (.mov (.t p1))⟩, ⟨(some p18), none, (.idxS (.t p17) (.k (.c (.int .i64 0))))⟩, ⟨(some p19), none, (.call 226 [(.t p16), (.t p18)])⟩, ⟨(some p4), none, (.mov (.t p19))⟩])
 .ret) .skip))
 (.seq (.reg [⟨(some p5), none, (.mov (.k (.c (.int .i64 0))))⟩])
 (.block 0 (.loop (.block 1 (.seq (.reg [⟨(some p20), none, (.mov (.t p0))⟩, ⟨(some p21), none, (.mov (.t p1))⟩, ⟨(some p22), none, (.call 221 [(.t p20), (.t p21)])⟩, ⟨(some p6), none, (.mov (.t p22))⟩])
 (.seq (.seq (.reg [⟨(some p23), none, (.mov (.t p6))⟩, ⟨(some p24), none, (.bin .eql .num (.t p23) (.k (.c (.int .i64 (-1)))))⟩])
 (.cond (.t p24) (.seq (.reg [⟨(some p25), none, (.mov (.t p5))⟩, ⟨(some p4), none, (.mov (.t p25))⟩])
 .ret) .skip))
 (.seq (.reg [⟨(some p26), none, (.mov (.t p5))⟩, ⟨(some p27), none, (.bin .add .num (.t p26) (.k (.c (.int .i64 1))))⟩, ⟨(some p5), none, (.mov (.t p27))⟩])
 (.reg [⟨(some p28), none, (.mov (.t p0))⟩, ⟨(some p29), none, (.mov (.t p6))⟩, ⟨(some p30), none, (.mov (.t p1))⟩, ⟨(some p31), none, (.len .str (.t p30))⟩, ⟨(some p32), none, (.bin .add .num (.t p29) (.t p31))⟩, ⟨(some p33), none, (.slcS (.t p28) (some (.t p32)) none)⟩, ⟨(some p0), none, (.mov (.t p33))⟩]))))))))))),
 [.t p4]⟩
/-- strings.Index -/
def c221 : IFunc := ⟨[p0, p1],
 (.seq (.reg [⟨(some p4), none, (.mov (.k (.c (.int .i64 0))))⟩])
 (.seq (.reg [⟨(some p5), none, (.mov (.t p0))⟩, ⟨(some p6), none, (.mov (.t p1))⟩, ⟨(some p7), none, (.call 227 [(.t p5), (.t p6)])⟩, ⟨(some p4), none, (.mov (.t p7))⟩])
 .ret)),
 [.t p4]⟩
/-- strings.Join -/
def c222 : IFunc := ⟨[p0, p1],
 (.seq (.reg [⟨(some p4), none, (.mov (.k (.c (.str []))))⟩])
 (.seq (.seq (.reg [⟨(some p11), none, (.mov (.t p0))⟩, ⟨(some p12), none, (.len .slice (.t p11))⟩])
 (.block 0 (.seq (.reg [⟨(some p14), none, (.bin .eql .num (.t p12) (.k (.c (.int .i64 0))))⟩, ⟨(some p13), none, (.mov (.t p14))⟩])
 (.cond (.t p13) (.seq (.reg [⟨(some p4), none, (.mov (.k (.c (.str []))))⟩])
 .ret) (.seq (.reg [⟨(some p16), none, (.bin .eql .num (.t p12) (.k (.c (.int .i64 1))))⟩, ⟨(some p15), none, (.mov (.t p16))⟩])
 (.cond (.t p15) (.seq (.reg [⟨(some p17), none, (.mov (.t p0))⟩, ⟨(some p18), none, (.iaddrV 1 (.t p17) (.k (.c (.int .i64 0))))⟩, ⟨(some p19), none, (.load1 (.t p18))⟩, ⟨(some p4), none, (.mov (.t p19))⟩])
 .ret) .skip))))))
 (.seq (.reg [⟨(some p5), none, (.mov (.k (.c (.int .i64 0))))⟩])
 (.seq (.seq (.reg [⟨(some p20), none, (.mov (.t p1))⟩, ⟨(some p21), none, (.len .str (.t p20))⟩, ⟨(some p22), none, (.bin .gtr .num (.t p21) (.k (.c (.int .i64 0))))⟩])
 (.cond (.t p22) (.seq (.seq (.reg [⟨(some p23), none, (.mov (.t p1))⟩, ⟨(some p24), none, (.len .str (.t p23))⟩, ⟨(some p25), none, (.mov (.t p0))⟩, ⟨(some p26), none, (.len .slice (.t p25))⟩, ⟨(some p27), none, (.bin .sub .num (.t p26) (.k (.c (.int .i64 1))))⟩, ⟨(some p28), none, (.bin .quo .num (.k (.c (.int .i64 9223372036854775807))) (.t p27))⟩, ⟨(some p29), none, (.bin .geq .num (.t p24) (.t p28))⟩])
 (.cond (.t p29) (.reg [⟨(some p30), none, (.mkif 9 (.k (.c (.str [115, 116, 114, 105, 110, 103, 115, 58, 32, 74, 111, 105, 110, 32, 111, 117, 116, 112, 117, 116, 32, 108, 101, 110, 103, 116, 104, 32, 111, 118, 101, 114, 102, 108, 111, 119]))))⟩, ⟨none, none, .bad⟩]) .skip))
 (.reg [⟨(some p31), none, (.mov (.t p5))⟩, ⟨(some p32), none, (.mov (.t p1))⟩, ⟨(some p33), none, (.len .str (.t p32))⟩, ⟨(some p34), none, (.mov (.t p0))⟩, ⟨(some p35), none, (.len .slice (.t p34))⟩, ⟨(some p36), none, (.bin .sub .num (.t p35) (.k (.c (.int .i64 1))))⟩, ⟨(some p37), none, (.bin .mul .num (.t p33) (.t p36))⟩, ⟨(some p38), none, (.bin .add .num (.t p31) (.t p37))⟩, ⟨(some p5), none, (.mov (.t p38))⟩])) .skip))
 (.seq (.seq (.reg [⟨(some p39), none, (.mov (.t p0))⟩, ⟨(some p40), none, (.len .slice (.t p39))⟩, ⟨(some p41), none, (.mov (.k (.c (.int .i64 0))))⟩])
 (.block 1 (.loop (.seq (.reg [⟨(some p42), none, (.bin .lss .num (.t p41) (.t p40))⟩])
 (.seq (.cond (.t p42) .skip (.exit 1))
 (.seq (.block 2 (.seq (.reg [⟨(some p43), none, (.iaddrV 1 (.t p39) (.t p41))⟩, ⟨(some p44), none, (.load1 (.t p43))⟩, ⟨(some p7), none, (.mov (.t p44))⟩])
 (.seq (.seq (.reg [⟨(some p45), none, (.mov (.t p7))⟩, ⟨(some p46), none, (.len .str (.t p45))⟩, ⟨(some p47), none, (.mov (.t p5))⟩, ⟨(some p48), none, (.bin .sub .num (.k (.c (.int .i64 9223372036854775807))) (.t p47))⟩, ⟨(some p49), none, (.bin .gtr .num (.t p46) (.t p48))⟩])
 (.cond (.t p49) (.reg [⟨(some p50), none, (.mkif 9 (.k (.c (.str [115, 116, 114, 105, 110, 103, 115, 58, 32, 74, 111, 105, 110, 32, 111, 117, 116, 112, 117, 116, 32, 108, 101, 110, 103, 116, 104, 32, 111, 118, 101, 114, 102, 108, 111, 119]))))⟩, ⟨none, none, .bad⟩]) .skip))
 (.reg [⟨(some p51), none, (.mov (.t p5))⟩, ⟨(some p52), none, (.mov (.t p7))⟩, ⟨(some p53), none, (.len .str (.t p52))⟩, ⟨(some p54), none, (.bin .add .num (.t p51) (.t p53))⟩, ⟨(some p5), none, (.mov (.t p54))⟩]))))
 (.reg [⟨(some p55), none, (.bin .add .num (.t p41) (.k (.c (.int .i64 1))))⟩, ⟨(some p41), none, (.mov (.t p55))⟩])))))))
 (.seq (.reg [⟨(some p8), none, (.alloc [.nilp, .nils])⟩])
 (.seq (.reg [⟨(some p56), none, (.mov (.t p5))⟩, ⟨(some p57), none, (.call 228 [(.t p8), (.t p56)])⟩])
 (.seq (.reg [⟨(some p58), none, (.mov (.t p0))⟩, ⟨(some p59), none, (.iaddrV 1 (.t p58) (.k (.c (.int .i64 0))))⟩, ⟨(some p60), none, (.load1 (.t p59))⟩, ⟨(some p61), none, (.call 229 [(.t p8), (.t p60)])⟩])
 (.seq (.seq (.reg [⟨(some p62), none, (.mov (.t p0))⟩, ⟨(some p63), none, (.slcV 1 (.t p62) (some (.k (.c (.int .i64 1)))) none none)⟩, ⟨(some p64), none, (.len .slice (.t p63))⟩, ⟨(some p65), none, (.mov (.k (.c (.int .i64 0))))⟩])
 (.block 3 (.loop (.seq (.reg [⟨(some p66), none, (.bin .lss .num (.t p65) (.t p64))⟩])
 (.seq (.cond (.t p66) .skip (.exit 3))
 (.seq (.block 4 (.seq (.reg [⟨(some p67), none, (.iaddrV 1 (.t p63) (.t p65))⟩, ⟨(some p68), none, (.load1 (.t p67))⟩, ⟨(some p10), none, (.mov (.t p68))⟩])
 (.seq (.reg [⟨(some p69), none, (.mov (.t p1))⟩, ⟨(some p70), none, (.call 229 [(.t p8), (.t p69)])⟩])
 (.reg [⟨(some p71), none, (.mov (.t p10))⟩, ⟨(some p72), none, (.call 229 [(.t p8), (.t p71)])⟩]))))
 (.reg [⟨(some p73), none, (.bin .add .num (.t p65) (.k (.c (.int .i64 1))))⟩, ⟨(some p65), none, (.mov (.t p73))⟩])))))))
 (.seq (.reg [⟨(some p74), none, (.call 230 [(.t p8)])⟩, ⟨(some p4), none, (.mov (.t p74))⟩])
 .ret)))))))))),
 [.t p4]⟩
/-- internal/stringslite.Index -/
def c227 : IFunc := ⟨[p0, p1],
 (.seq (.reg [⟨(some p4), none, (.mov (.k (.c (.int .i64 0))))⟩])
 (.seq (.reg [⟨(some p14), none, (.mov (.t p1))⟩, ⟨(some p15), none, (.len .str (.t p14))⟩, ⟨(some p5), none, (.mov (.t p15))⟩])
 (.seq (.block 0 (.seq (.reg [⟨(some p17), none, (.mov (.t p5))⟩, ⟨(some p18), none, (.bin .eql .num (.t p17) (.k (.c (.int .i64 0))))⟩, ⟨(some p19), none, (.mov (.t p18))⟩, ⟨(some p20), (some (p19, false)), (.mov (.t p1))⟩, ⟨(some p21), (some (p19, false)), (.mov (.t p0))⟩, ⟨(some p22), (some (p19, false)), (.bin .eql .num (.t p20) (.t p21))⟩, ⟨(some p23), none, (.pick (.t p19) (.k (.c (.bool true))) (.t p22))⟩, ⟨(some p16), none, (.mov (.t p23))⟩])
 (.cond (.t p16) (.seq (.reg [⟨(some p4), none, (.mov (.k (.c (.int .i64 0))))⟩])
 .ret) (.seq (.reg [⟨(some p25), none, (.mov (.t p5))⟩, ⟨(some p26), none, (.bin .eql .num (.t p25) (.k (.c (.int .i64 1))))⟩, ⟨(some p24), none, (.mov (.t p26))⟩])
 (.cond (.t p24) (.seq (.reg [⟨(some p27), none, (.mov (.t p0))⟩, ⟨(some p28), none, (.mov (.t p1))⟩, ⟨(some p29), none, (.idxS (.t p28) (.k (.c (.int .i64 0))))⟩, ⟨(some p30), none, (.call 232 [(.t p27), (.t p29)])⟩, ⟨(some p4), none, (.mov (.t p30))⟩])
 .ret) (.seq (.reg [⟨(some p32), none, (.mov (.t p5))⟩, ⟨(some p33), none, (.mov (.t p0))⟩, ⟨(some p34), none, (.len .str (.t p33))⟩, ⟨(some p35), none, (.bin .geq .num (.t p32) (.t p34))⟩, ⟨(some p31), none, (.mov (.t p35))⟩])
 (.cond (.t p31) (.seq (.reg [⟨(some p4), none, (.mov (.k (.c (.int .i64 (-1)))))⟩])
 .ret) (.seq (.reg [⟨(some p37), none, (.mov (.t p5))⟩, ⟨(some p38), none, (.load1 (.k (.c (.ptr 0 0))))⟩, ⟨(some p39), none, (.bin .leq .num (.t p37) (.t p38))⟩, ⟨(some p40), none, (.mov (.t p39))⟩, ⟨(some p41), (some (p40, true)), (.mov (.t p0))⟩, ⟨(some p42), (some (p40, true)), (.len .str (.t p41))⟩, ⟨(some p43), (some (p40, true)), (.bin .leq .num (.t p42) (.k (.c (.int .i64 64))))⟩, ⟨(some p44), none, (.pick (.t p40) (.t p43) (.k (.c (.bool false))))⟩, ⟨(some p36), none, (.mov (.t p44))⟩])
 (.cond (.t p36) (.seq (.reg [⟨(some p45), none, (.mov (.t p0))⟩, ⟨(some p46), none, (.mov (.t p1))⟩, ⟨(some p47), none, (.call 233 [(.t p45), (.t p46)])⟩, ⟨(some p4), none, (.mov (.t p47))⟩])
 .ret) .skip)))))))))
 (.seq (.reg [⟨(some p48), none, (.mov (.t p1))⟩, ⟨(some p49), none, (.idxS (.t p48) (.k (.c (.int .i64 0))))⟩, ⟨(some p6), none, (.mov (.t p49))⟩])
 (.seq (.reg [⟨(some p50), none, (.mov (.t p1))⟩, ⟨(some p51), none, (.idxS (.t p50) (.k (.c (.int .i64 1))))⟩, ⟨(some p7), none, (.mov (.t p51))⟩])
 (.seq (.reg [⟨(some p8), none, (.mov (.k (.c (.int .i64 0))))⟩])
 (.seq (.reg [⟨(some p52), none, (.mov (.t p0))⟩, ⟨(some p53), none, (.len .str (.t p52))⟩, ⟨(some p54), none, (.mov (.t p5))⟩, ⟨(some p55), none, (.bin .sub .num (.t p53) (.t p54))⟩, ⟨(some p56), none, (.bin .add .num (.t p55) (.k (.c (.int .i64 1))))⟩, ⟨(some p9), none, (.mov (.t p56))⟩])
 (.seq (.reg [⟨(some p10), none, (.mov (.k (.c (.int .i64 0))))⟩])
 (.seq (.block 1 (.loop (.seq (.seq (.reg [⟨(some p57), none, (.mov (.t p8))⟩, ⟨(some p58), none, (.mov (.t p9))⟩, ⟨(some p59), none, (.bin .lss .num (.t p57) (.t p58))⟩])
 (.cond (.t p59) .skip (.exit 1)))
 (.block 2 (.seq (.seq (.reg [⟨(some p60), none, (.mov (.t p0))⟩, ⟨(some p61), none, (.mov (.t p8))⟩, ⟨(some p62), none, (.idxS (.t p60) (.t p61))⟩, ⟨(some p63), none, (.mov (.t p6))⟩, ⟨(some p64), none, (.bin .neq .num (.t p62) (.t p63))⟩])
 (.cond (.t p64) (.seq (.reg [⟨(some p65), none, (.mov (.t p0))⟩, ⟨(some p66), none, (.mov (.t p8))⟩, ⟨(some p67), none, (.bin .add .num (.t p66) (.k (.c (.int .i64 1))))⟩, ⟨(some p68), none, (.mov (.t p9))⟩, ⟨(some p69), none, (.slcS (.t p65) (some (.t p67)) (some (.t p68)))⟩, ⟨(some p70), none, (.mov (.t p6))⟩, ⟨(some p71), none, (.call 232 [(.t p69), (.t p70)])⟩, ⟨(some p11), none, (.mov (.t p71))⟩])
 (.seq (.seq (.reg [⟨(some p72), none, (.mov (.t p11))⟩, ⟨(some p73), none, (.bin .lss .num (.t p72) (.k (.c (.int .i64 0))))⟩])
 (.cond (.t p73) (.seq (.reg [⟨(some p4), none, (.mov (.k (.c (.int .i64 (-1)))))⟩])
 .ret) .skip))
 (.reg [⟨(some p74), none, (.mov (.t p8))⟩, ⟨(some p75), none, (.mov (.t p11))⟩, ⟨(some p76), none, (.bin .add .num (.t p75) (.k (.c (.int .i64 1))))⟩, ⟨(some p77), none, (.bin .add .num (.t p74) (.t p76))⟩, ⟨(some p8), none, (.mov (.t p77))⟩]))) .skip))
 (.seq (.seq (.reg [⟨(some p78), none, (.mov (.t p0))⟩, ⟨(some p79), none, (.mov (.t p8))⟩, ⟨(some p80), none, (.bin .add .num (.t p79) (.k (.c (.int .i64 1))))⟩, ⟨(some p81), none, (.idxS (.t p78) (.t p80))⟩, ⟨(some p82), none, (.mov (.t p7))⟩, ⟨(some p83), none, (.bin .eql .num (.t p81) (.t p82))⟩, ⟨(some p84), none, (.mov (.t p83))⟩, ⟨(some p85), (some (p84, true)), (.mov (.t p0))⟩, ⟨(some p86), (some (p84, true)), (.mov (.t p8))⟩, ⟨(some p87), (some (p84, true)), (.mov (.t p8))⟩, ⟨(some p88), (some (p84, true)), (.mov (.t p5))⟩, ⟨(some p89), (some (p84, true)), (.bin .add .num (.t p87) (.t p88))⟩, ⟨(some p90), (some (p84, true)), (.slcS (.t p85) (some (.t p86)) (some (.t p89)))⟩, ⟨(some p91), (some (p84, true)), (.mov (.t p1))⟩, ⟨(some p92), (some (p84, true)), (.bin .eql .num (.t p90) (.t p91))⟩, ⟨(some p93), none, (.pick (.t p84) (.t p92) (.k (.c (.bool false))))⟩])
 (.cond (.t p93) (.seq (.reg [⟨(some p94), none, (.mov (.t p8))⟩, ⟨(some p4), none, (.mov (.t p94))⟩])
 .ret) .skip))
 (.seq (.reg [⟨(some p95), none, (.mov (.t p8))⟩, ⟨(some p96), none, (.bin .add .num (.t p95) (.k (.c (.int .i64 1))))⟩, ⟨(some p8), none, (.mov (.t p96))⟩])
 (.seq (.reg [⟨(some p97), none, (.mov (.t p10))⟩, ⟨(some p98), none, (.bin .add .num (.t p97) (.k (.c (.int .i64 1))))⟩, ⟨(some p10), none, (.mov (.t p98))⟩])
 (.seq (.reg [⟨(some p99), none, (.mov (.t p5))⟩, ⟨(some p100), none, (.load1 (.k (.c (.ptr 0 0))))⟩, ⟨(some p101), none, (.bin .leq .num (.t p99) (.t p100))⟩, ⟨(some p102), none, (.mov (.t p101))⟩, ⟨(some p103), (some (p102, true)), (.mov (.t p10))⟩, ⟨(some p104), (some (p102, true)), (.mov (.t p8))⟩, ⟨(some p105), (some (p102, true)), (.call 234 [(.t p104)])⟩, ⟨(some p106), (some (p102, true)), (.bin .gtr .num (.t p103) (.t p105))⟩, ⟨(some p107), none, (.pick (.t p102) (.t p106) (.k (.c (.bool false))))⟩])
 (.cond (.t p107) (.seq (.reg [⟨(some p108), none, (.mov (.t p0))⟩, ⟨(some p109), none, (.mov (.t p8))⟩, ⟨(some p110), none, (.slcS (.t p108) (some (.t p109)) none)⟩, ⟨(some p111), none, (.mov (.t p1))⟩, ⟨(some p112), none, (.call 233 [(.t p110), (.t p111)])⟩, ⟨(some p12), none, (.mov (.t p112))⟩])
 (.seq (.seq (.reg [⟨(some p113), none, (.mov (.t p12))⟩, ⟨(some p114), none, (.bin .geq .num (.t p113) (.k (.c (.int .i64 0))))⟩])
 (.cond (.t p114) (.seq (.reg [⟨(some p115), none, (.mov (.t p12))⟩, ⟨(some p116), none, (.mov (.t p8))⟩, ⟨(some p117), none, (.bin .add .num (.t p115) (.t p116))⟩, ⟨(some p4), none, (.mov (.t p117))⟩])
 .ret) .skip))
 (.seq (.reg [⟨(some p4), none, (.mov (.k (.c (.int .i64 (-1)))))⟩])
 .ret))) (.seq (.reg [⟨(some p118), none, (.mov (.t p5))⟩, ⟨(some p119), none, (.load1 (.k (.c (.ptr 0 0))))⟩, ⟨(some p120), none, (.bin .gtr .num (.t p118) (.t p119))⟩, ⟨(some p121), none, (.mov (.t p120))⟩, ⟨(some p122), (some (p121, true)), (.mov (.t p10))⟩, ⟨(some p123), (some (p121, true)), (.mov (.t p8))⟩, ⟨(some p124), (some (p121, true)), (.bin .shr .num (.t p123) (.k (.c (.int .u64 4))))⟩, ⟨(some p125), (some (p121, true)), (.bin .add .num (.k (.c (.int .i64 4))) (.t p124))⟩, ⟨(some p126), (some (p121, true)), (.bin .geq .num (.t p122) (.t p125))⟩, ⟨(some p127), none, (.pick (.t p121) (.t p126) (.k (.c (.bool false))))⟩, ⟨(some p128), none, (.mov (.t p127))⟩, ⟨(some p129), (some (p128, true)), (.mov (.t p8))⟩, ⟨(some p130), (some (p128, true)), (.mov (.t p9))⟩, ⟨(some p131), (some (p128, true)), (.bin .lss .num (.t p129) (.t p130))⟩, ⟨(some p132), none, (.pick (.t p128) (.t p131) (.k (.c (.bool false))))⟩])
 (.cond (.t p132) (.seq (.reg [⟨(some p133), none, (.mov (.t p0))⟩, ⟨(some p134), none, (.mov (.t p8))⟩, ⟨(some p135), none, (.slcS (.t p133) (some (.t p134)) none)⟩, ⟨(some p136), none, (.mov (.t p1))⟩, ⟨(some p137), none, (.call 235 [(.t p135), (.t p136)])⟩, ⟨(some p13), none, (.mov (.t p137))⟩])
 (.seq (.seq (.reg [⟨(some p138), none, (.mov (.t p13))⟩, ⟨(some p139), none, (.bin .lss .num (.t p138) (.k (.c (.int .i64 0))))⟩])
 (.cond (.t p139) (.seq (.reg [⟨(some p4), none, (.mov (.k (.c (.int .i64 (-1)))))⟩])
 .ret) .skip))
 (.seq (.reg [⟨(some p140), none, (.mov (.t p8))⟩, ⟨(some p141), none, (.mov (.t p13))⟩, ⟨(some p142), none, (.bin .add .num (.t p140) (.t p141))⟩, ⟨(some p4), none, (.mov (.t p142))⟩])
 .ret))) .skip))))))))))))
 (.seq (.reg [⟨(some p4), none, (.mov (.k (.c (.int .i64 (-1)))))⟩])
 .ret)))))))))),
 [.t p4]⟩
/-- internal/stringslite.IndexByte -/
def c232 : IFunc := ⟨[p0, p1],
 (.seq (.reg [⟨(some p4), none, (.mov (.k (.c (.int .i64 0))))⟩])
 (.seq (.reg [⟨(some p5), none, (.mov (.t p0))⟩, ⟨(some p6), none, (.mov (.t p1))⟩, ⟨(some p7), none, (.call 238 [(.t p5), (.t p6)])⟩, ⟨(some p4), none, (.mov (.t p7))⟩])
 .ret)),
 [.t p4]⟩
/-- (*farrier/vol.Vol).Hold -/
def c257 : IFunc := ⟨[p0, p1],
 (.seq (.reg [⟨(some p4), none, (.mov (.k (.c (.int .i64 0))))⟩, ⟨(some p5), none, (.mov (.k (.c (.int .i64 0))))⟩])
 (.seq (.reg [⟨(some p9), none, (.mov (.t p0))⟩, ⟨(some p10), none, (.nchk (.t p9))⟩, ⟨(some p11), none, (.faddr 0 (.t p10))⟩, ⟨(some p12), none, (.load1 (.t p11))⟩, ⟨(some p13), none, (.mov (.t p1))⟩, ⟨(some p14), none, (.call 70 [(.t p12), (.t p13)])⟩, ⟨(some p8), none, (.mov (.t p14))⟩, ⟨(some p15), none, (.ext (.t p8) 0)⟩, ⟨(some p16), none, (.ext (.t p8) 1)⟩, ⟨(some p6), none, (.mov (.t p15))⟩, ⟨(some p7), none, (.mov (.t p16))⟩])
 (.seq (.block 0 (.seq (.reg [⟨(some p18), none, (.mov (.t p7))⟩, ⟨(some p19), none, (.not (.t p18))⟩, ⟨(some p17), none, (.mov (.t p19))⟩])
 (.cond (.t p17) (.seq (.reg [⟨(some p4), none, (.mov (.k (.c (.int .i64 0))))⟩, ⟨(some p5), none, (.mov (.k (.c (.int .i64 8))))⟩])
 .ret) (.seq (.reg [⟨(some p21), none, (.mov (.t p0))⟩, ⟨(some p22), none, (.nchk (.t p21))⟩, ⟨(some p23), none, (.faddr 0 (.t p22))⟩, ⟨(some p24), none, (.load1 (.t p23))⟩, ⟨(some p25), none, (.mov (.t p1))⟩, ⟨(some p26), none, (.call 71 [(.t p24), (.t p25)])⟩, ⟨(some p20), none, (.mov (.t p26))⟩])
 (.cond (.t p20) (.seq (.reg [⟨(some p4), none, (.mov (.k (.c (.int .i64 0))))⟩, ⟨(some p5), none, (.mov (.k (.c (.int .i64 10))))⟩])
 .ret) .skip)))))
 (.seq (.reg [⟨(some p27), none, (.mov (.t p0))⟩, ⟨(some p28), none, (.nchk (.t p27))⟩, ⟨(some p29), none, (.faddr 3 (.t p28))⟩, ⟨(some p30), none, (.load1 (.t p29))⟩, ⟨(some p31), none, (.mov (.t p6))⟩, ⟨(some p32), none, (.look true (.c (.int .i64 0)) false (.t p30) (.t p31))⟩, ⟨(some p33), none, (.bin .add .num (.t p32) (.k (.c (.int .i64 1))))⟩, ⟨none, none, (.mupd true (.t p30) (.t p31) (.t p33))⟩])
 (.seq (.reg [⟨(some p34), none, (.mov (.t p6))⟩, ⟨(some p4), none, (.mov (.t p34))⟩, ⟨(some p5), none, (.mov (.k (.c (.int .i64 0))))⟩])
 .ret))))),
 [.t p4, .t p5]⟩
/-- (*farrier/vol.Vol).Let -/
def c258 : IFunc := ⟨[p0, p1],
 (.seq (.reg [⟨(some p4), none, (.mov (.k (.c (.int .i64 0))))⟩])
 (.seq (.seq (.reg [⟨(some p5), none, (.mov (.t p0))⟩, ⟨(some p6), none, (.nchk (.t p5))⟩, ⟨(some p7), none, (.faddr 3 (.t p6))⟩, ⟨(some p8), none, (.load1 (.t p7))⟩, ⟨(some p9), none, (.mov (.t p1))⟩, ⟨(some p10), none, (.look true (.c (.int .i64 0)) false (.t p8) (.t p9))⟩, ⟨(some p11), none, (.bin .eql .num (.t p10) (.k (.c (.int .i64 0))))⟩])
 (.cond (.t p11) (.seq (.reg [⟨(some p4), none, (.mov (.k (.c (.int .i64 8))))⟩])
 .ret) .skip))
 (.seq (.reg [⟨(some p12), none, (.mov (.t p0))⟩, ⟨(some p13), none, (.nchk (.t p12))⟩, ⟨(some p14), none, (.faddr 3 (.t p13))⟩, ⟨(some p15), none, (.load1 (.t p14))⟩, ⟨(some p16), none, (.mov (.t p1))⟩, ⟨(some p17), none, (.look true (.c (.int .i64 0)) false (.t p15) (.t p16))⟩, ⟨(some p18), none, (.bin .sub .num (.t p17) (.k (.c (.int .i64 1))))⟩, ⟨none, none, (.mupd true (.t p15) (.t p16) (.t p18))⟩])
 (.seq (.seq (.reg [⟨(some p19), none, (.mov (.t p0))⟩, ⟨(some p20), none, (.nchk (.t p19))⟩, ⟨(some p21), none, (.faddr 3 (.t p20))⟩, ⟨(some p22), none, (.load1 (.t p21))⟩, ⟨(some p23), none, (.mov (.t p1))⟩, ⟨(some p24), none, (.look true (.c (.int .i64 0)) false (.t p22) (.t p23))⟩, ⟨(some p25), none, (.bin .eql .num (.t p24) (.k (.c (.int .i64 0))))⟩])
 (.cond (.t p25) (.reg [⟨(some p26), none, (.mov (.t p0))⟩, ⟨(some p27), none, (.nchk (.t p26))⟩, ⟨(some p28), none, (.faddr 3 (.t p27))⟩, ⟨(some p29), none, (.load1 (.t p28))⟩, ⟨(some p30), none, (.mov (.t p1))⟩, ⟨none, none, (.delete true (.t p29) (.t p30))⟩]) .skip))
 (.seq (.reg [⟨(some p31), none, (.mov (.t p0))⟩, ⟨(some p32), none, (.call 79 [(.t p31)])⟩])
 (.seq (.reg [⟨(some p4), none, (.mov (.k (.c (.int .i64 0))))⟩])
 .ret)))))),
 [.t p4]⟩
end Go.AX

set_option maxRecDepth 100000
namespace Go.AX
open Go
def n3 : IFunc := ⟨[(.ofNat 0)],
 (.seq (.reg [⟨(some (.ofNat 2)), none, (.mov (.k (.c (.bool false))))⟩])
 (.seq (.seq (.reg [⟨(some (.ofNat 11)), none, (.call 10 [])⟩, ⟨(some (.ofNat 12)), none, (.not (.t (.ofNat 11)))⟩])
 (.cond (.t (.ofNat 12)) (.seq (.reg [⟨(some (.ofNat 2)), none, (.mov (.k (.c (.bool false))))⟩])
 .ret) .skip))
 (.seq (.seq (.reg [⟨(some (.ofNat 13)), none, (.mov (.t (.ofNat 0)))⟩, ⟨(some (.ofNat 14)), none, (.len .slice (.t (.ofNat 13)))⟩, ⟨(some (.ofNat 15)), none, (.bin .gtr .num (.t (.ofNat 14)) (.k (.c (.int .i64 100))))⟩])
 (.cond (.t (.ofNat 15)) (.seq (.reg [⟨(some (.ofNat 2)), none, (.mov (.k (.c (.bool true))))⟩])
 .ret) .skip))
 (.seq (.reg [⟨(some (.ofNat 16)), none, (.call 11 [])⟩, ⟨(some (.ofNat 3)), none, (.mov (.t (.ofNat 16)))⟩])
 (.seq (.reg [⟨(some (.ofNat 17)), none, (.mov (.t (.ofNat 3)))⟩, ⟨(some (.ofNat 18)), none, (.mkif 24 (.t (.ofNat 17)))⟩, ⟨(some (.ofNat 19)), none, (.call 12 [(.t (.ofNat 18))])⟩, ⟨(some (.ofNat 4)), none, (.mov (.t (.ofNat 19)))⟩])
 (.seq (.reg [⟨(some (.ofNat 5)), none, (.mov (.k (.c (.int .i64 0))))⟩])
 (.seq (.seq (.reg [⟨(some (.ofNat 20)), none, (.mov (.t (.ofNat 0)))⟩, ⟨(some (.ofNat 21)), none, (.len .slice (.t (.ofNat 20)))⟩, ⟨(some (.ofNat 22)), none, (.mov (.k (.c (.int .i64 0))))⟩])
 (.block 0 (.loop (.seq (.reg [⟨(some (.ofNat 23)), none, (.bin .lss .num (.t (.ofNat 22)) (.t (.ofNat 21)))⟩])
 (.seq (.cond (.t (.ofNat 23)) .skip (.exit 0))
 (.seq (.block 1 (.seq (.reg [⟨(some (.ofNat 24)), none, (.iaddrV 4 (.t (.ofNat 20)) (.t (.ofNat 22)))⟩, ⟨(some (.ofNat 25)), none, (.loadN 4 (.t (.ofNat 24)))⟩, ⟨(some (.ofNat 7)), none, (.alloc [(.int .i64 0), (.int .i64 0), (.int .i64 0), .nils])⟩, ⟨none, none, (.store 4 (.t (.ofNat 7)) (.t (.ofNat 25)))⟩])
 (.seq (.reg [⟨(some (.ofNat 26)), none, (.faddr 0 (.t (.ofNat 7)))⟩, ⟨(some (.ofNat 27)), none, (.load1 (.t (.ofNat 26)))⟩, ⟨(some (.ofNat 28)), none, (.bin .and .num (.t (.ofNat 27)) (.k (.c (.int .i64 3))))⟩])
 (.block 2 (.seq (.reg [⟨(some (.ofNat 56)), none, (.bin .eql .num (.t (.ofNat 28)) (.k (.c (.int .i64 0))))⟩, ⟨(some (.ofNat 55)), none, (.mov (.t (.ofNat 56)))⟩])
 (.cond (.t (.ofNat 55)) (.reg [⟨(some (.ofNat 57)), none, (.mov (.t (.ofNat 4)))⟩, ⟨(some (.ofNat 58)), none, (.faddr 1 (.t (.ofNat 7)))⟩, ⟨(some (.ofNat 59)), none, (.load1 (.t (.ofNat 58)))⟩, ⟨(some (.ofNat 60)), none, (.call 13 [(.t (.ofNat 57)), (.t (.ofNat 59))])⟩]) (.seq (.reg [⟨(some (.ofNat 62)), none, (.bin .eql .num (.t (.ofNat 28)) (.k (.c (.int .i64 1))))⟩, ⟨(some (.ofNat 61)), none, (.mov (.t (.ofNat 62)))⟩])
 (.cond (.t (.ofNat 61)) (.reg [⟨(some (.ofNat 63)), none, (.mov (.t (.ofNat 4)))⟩, ⟨(some (.ofNat 64)), none, (.mov (.t (.ofNat 3)))⟩, ⟨(some (.ofNat 65)), none, (.mkif 24 (.t (.ofNat 64)))⟩, ⟨(some (.ofNat 66)), none, (.call 14 [(.t (.ofNat 63)), (.t (.ofNat 65))])⟩]) (.seq (.reg [⟨(some (.ofNat 29)), none, (.mov (.t (.ofNat 4)))⟩, ⟨(some (.ofNat 30)), none, (.call 15 [(.t (.ofNat 29))])⟩, ⟨(some (.ofNat 31)), none, (.len .slice (.t (.ofNat 30)))⟩, ⟨(some (.ofNat 8)), none, (.mov (.t (.ofNat 31)))⟩])
 (.seq (.reg [⟨(some (.ofNat 33)), none, (.mov (.t (.ofNat 4)))⟩, ⟨(some (.ofNat 34)), none, (.call 16 [(.t (.ofNat 33)), (.k (.c (.str [117]))), (.k (.c .nils))])⟩, ⟨(some (.ofNat 32)), none, (.mov (.t (.ofNat 34)))⟩, ⟨(some (.ofNat 35)), none, (.ext (.t (.ofNat 32)) 0)⟩, ⟨(some (.ofNat 36)), none, (.ext (.t (.ofNat 32)) 1)⟩, ⟨(some (.ofNat 9)), none, (.mov (.t (.ofNat 35)))⟩, ⟨(some (.ofNat 10)), none, (.mov (.t (.ofNat 36)))⟩])
 (.seq (.seq (.reg [⟨(some (.ofNat 37)), none, (.mov (.t (.ofNat 10)))⟩, ⟨(some (.ofNat 38)), none, (.bin .eql .num (.t (.ofNat 37)) (.k (.c (.int .i64 0))))⟩, ⟨(some (.ofNat 39)), none, (.mov (.t (.ofNat 8)))⟩, ⟨(some (.ofNat 40)), none, (.bin .lss .num (.t (.ofNat 39)) (.k (.c (.int .i64 32))))⟩, ⟨(some (.ofNat 41)), none, (.bin .neq .bool (.t (.ofNat 38)) (.t (.ofNat 40)))⟩, ⟨(some (.ofNat 42)), none, (.mov (.t (.ofNat 41)))⟩, ⟨(some (.ofNat 43)), (some ((.ofNat 42), false)), (.mov (.t (.ofNat 10)))⟩, ⟨(some (.ofNat 44)), (some ((.ofNat 42), false)), (.bin .eql .num (.t (.ofNat 43)) (.k (.c (.int .i64 0))))⟩, ⟨(some (.ofNat 45)), (some ((.ofNat 42), false)), (.mov (.t (.ofNat 44)))⟩, ⟨(some (.ofNat 46)), (some ((.ofNat 45), true)), (.mov (.t (.ofNat 9)))⟩, ⟨(some (.ofNat 47)), (some ((.ofNat 45), true)), (.mov (.t (.ofNat 5)))⟩, ⟨(some (.ofNat 48)), (some ((.ofNat 45), true)), (.bin .add .num (.t (.ofNat 47)) (.k (.c (.int .i64 1))))⟩, ⟨(some (.ofNat 49)), (some ((.ofNat 45), true)), (.bin .neq .num (.t (.ofNat 46)) (.t (.ofNat 48)))⟩, ⟨(some (.ofNat 50)), (some ((.ofNat 42), false)), (.pick (.t (.ofNat 45)) (.t (.ofNat 49)) (.k (.c (.bool false))))⟩, ⟨(some (.ofNat 51)), none, (.pick (.t (.ofNat 42)) (.k (.c (.bool true))) (.t (.ofNat 50)))⟩])
 (.cond (.t (.ofNat 51)) (.seq (.reg [⟨(some (.ofNat 2)), none, (.mov (.k (.c (.bool false))))⟩])
 .ret) .skip))
 (.seq (.reg [⟨(some (.ofNat 52)), none, (.mov (.t (.ofNat 10)))⟩, ⟨(some (.ofNat 53)), none, (.bin .eql .num (.t (.ofNat 52)) (.k (.c (.int .i64 0))))⟩])
 (.cond (.t (.ofNat 53)) (.reg [⟨(some (.ofNat 54)), none, (.mov (.t (.ofNat 9)))⟩, ⟨(some (.ofNat 5)), none, (.mov (.t (.ofNat 54)))⟩]) .skip)))))))))))))
 (.reg [⟨(some (.ofNat 67)), none, (.bin .add .num (.t (.ofNat 22)) (.k (.c (.int .i64 1))))⟩, ⟨(some (.ofNat 22)), none, (.mov (.t (.ofNat 67)))⟩])))))))
 (.seq (.reg [⟨(some (.ofNat 2)), none, (.mov (.k (.c (.bool true))))⟩])
 .ret)))))))),
 [.t (.ofNat 2)]⟩
theorem c3_n : c3 = n3 := by kernel_rfl
def n12 : IFunc := ⟨[(.ofNat 0)],
 (.seq (.reg [⟨(some (.ofNat 2)), none, (.mov (.k (.c .nilp)))⟩])
 (.seq (.reg [⟨(some (.ofNat 3)), none, (.mov (.t (.ofNat 0)))⟩, ⟨(some (.ofNat 4)), none, .mkmap⟩, ⟨(some (.ofNat 5)), none, (.build [.nili, .nilm, (.int .i64 0)] [(0, 1, (.t (.ofNat 3))), (1, 1, (.t (.ofNat 4))), (2, 1, (.k (.c (.int .i64 1))))])⟩, ⟨(some (.ofNat 6)), none, (.box (.t (.ofNat 5)))⟩, ⟨(some (.ofNat 2)), none, (.mov (.t (.ofNat 6)))⟩])
 .ret)),
 [.t (.ofNat 2)]⟩
theorem c12_n : c12 = n12 := by kernel_rfl
def n13 : IFunc := ⟨[(.ofNat 0), (.ofNat 1)],
 (.seq (.reg [⟨(some (.ofNat 4)), none, (.mov (.k (.c (.int .i64 0))))⟩])
 (.seq (.reg [⟨(some (.ofNat 6)), none, (.mov (.t (.ofNat 0)))⟩, ⟨(some (.ofNat 7)), none, (.nchk (.t (.ofNat 6)))⟩, ⟨(some (.ofNat 8)), none, (.faddr 1 (.t (.ofNat 7)))⟩, ⟨(some (.ofNat 9)), none, (.load1 (.t (.ofNat 8)))⟩, ⟨(some (.ofNat 10)), none, (.mov (.t (.ofNat 1)))⟩, ⟨(some (.ofNat 11)), none, (.look true (.c .nilp) false (.t (.ofNat 9)) (.t (.ofNat 10)))⟩, ⟨(some (.ofNat 5)), none, (.mov (.t (.ofNat 11)))⟩])
 (.seq (.seq (.reg [⟨(some (.ofNat 12)), none, (.mov (.t (.ofNat 5)))⟩, ⟨(some (.ofNat 13)), none, (.bin .eql .ptr (.t (.ofNat 12)) (.k (.c .nilp)))⟩])
 (.cond (.t (.ofNat 13)) (.seq (.reg [⟨(some (.ofNat 4)), none, (.mov (.k (.c (.int .i64 8))))⟩])
 .ret) .skip))
 (.seq (.reg [⟨(some (.ofNat 14)), none, (.mov (.t (.ofNat 0)))⟩, ⟨(some (.ofNat 15)), none, (.mov (.t (.ofNat 5)))⟩, ⟨(some (.ofNat 16)), none, (.call 66 [(.t (.ofNat 14)), (.t (.ofNat 15))])⟩])
 (.seq (.reg [⟨(some (.ofNat 17)), none, (.mov (.t (.ofNat 0)))⟩, ⟨(some (.ofNat 18)), none, (.nchk (.t (.ofNat 17)))⟩, ⟨(some (.ofNat 19)), none, (.faddr 1 (.t (.ofNat 18)))⟩, ⟨(some (.ofNat 20)), none, (.load1 (.t (.ofNat 19)))⟩, ⟨(some (.ofNat 21)), none, (.mov (.t (.ofNat 1)))⟩, ⟨none, none, (.delete true (.t (.ofNat 20)) (.t (.ofNat 21)))⟩])
 (.seq (.reg [⟨(some (.ofNat 4)), none, (.mov (.k (.c (.int .i64 0))))⟩])
 .ret)))))),
 [.t (.ofNat 4)]⟩
theorem c13_n : c13 = n13 := by kernel_rfl
def n14 : IFunc := ⟨[(.ofNat 0), (.ofNat 1)],
 (.reg [⟨(some (.ofNat 4)), none, (.mov (.t (.ofNat 0)))⟩, ⟨(some (.ofNat 5)), none, (.mov (.t (.ofNat 0)))⟩, ⟨(some (.ofNat 6)), none, (.mov (.t (.ofNat 1)))⟩, ⟨(some (.ofNat 7)), none, .mkmap⟩, ⟨(some (.ofNat 8)), none, (.nchk (.t (.ofNat 4)))⟩, ⟨(some (.ofNat 9)), none, (.faddr 0 (.t (.ofNat 8)))⟩, ⟨none, none, (.store 1 (.t (.ofNat 9)) (.t (.ofNat 6)))⟩, ⟨(some (.ofNat 10)), none, (.nchk (.t (.ofNat 5)))⟩, ⟨(some (.ofNat 11)), none, (.faddr 1 (.t (.ofNat 10)))⟩, ⟨none, none, (.store 1 (.t (.ofNat 11)) (.t (.ofNat 7)))⟩]),
 []⟩
theorem c14_n : c14 = n14 := by kernel_rfl
def n15 : IFunc := ⟨[(.ofNat 0)],
 (.seq (.reg [⟨(some (.ofNat 2)), none, (.mov (.k (.c .nils)))⟩])
 (.seq (.reg [⟨(some (.ofNat 3)), none, (.mov (.t (.ofNat 0)))⟩, ⟨(some (.ofNat 4)), none, (.nchk (.t (.ofNat 3)))⟩, ⟨(some (.ofNat 5)), none, (.faddr 1 (.t (.ofNat 4)))⟩, ⟨(some (.ofNat 6)), none, (.load1 (.t (.ofNat 5)))⟩, ⟨(some (.ofNat 7)), none, (.call 68 [(.t (.ofNat 6))])⟩, ⟨(some (.ofNat 8)), none, (.call 67 [(.t (.ofNat 7))])⟩, ⟨(some (.ofNat 2)), none, (.mov (.t (.ofNat 8)))⟩])
 .ret)),
 [.t (.ofNat 2)]⟩
theorem c15_n : c15 = n15 := by kernel_rfl
def n16 : IFunc := ⟨[(.ofNat 0), (.ofNat 1), (.ofNat 2)],
 (.seq (.reg [⟨(some (.ofNat 6)), none, (.mov (.k (.c (.int .i64 0))))⟩, ⟨(some (.ofNat 7)), none, (.mov (.k (.c (.int .i64 0))))⟩])
 (.seq (.block 0 (.seq (.reg [⟨(some (.ofNat 13)), none, (.mov (.t (.ofNat 2)))⟩, ⟨(some (.ofNat 14)), none, (.len .slice (.t (.ofNat 13)))⟩, ⟨(some (.ofNat 15)), none, (.bin .gtr .num (.t (.ofNat 14)) (.k (.c (.int .i64 8))))⟩, ⟨(some (.ofNat 12)), none, (.mov (.t (.ofNat 15)))⟩])
 (.cond (.t (.ofNat 12)) (.seq (.reg [⟨(some (.ofNat 6)), none, (.mov (.k (.c (.int .i64 0))))⟩, ⟨(some (.ofNat 7)), none, (.mov (.k (.c (.int .i64 22))))⟩])
 .ret) (.seq (.reg [⟨(some (.ofNat 17)), none, (.mov (.t (.ofNat 0)))⟩, ⟨(some (.ofNat 18)), none, (.nchk (.t (.ofNat 17)))⟩, ⟨(some (.ofNat 19)), none, (.faddr 1 (.t (.ofNat 18)))⟩, ⟨(some (.ofNat 20)), none, (.load1 (.t (.ofNat 19)))⟩, ⟨(some (.ofNat 21)), none, (.len .map (.t (.ofNat 20)))⟩, ⟨(some (.ofNat 22)), none, (.bin .geq .num (.t (.ofNat 21)) (.k (.c (.int .i64 32))))⟩, ⟨(some (.ofNat 16)), none, (.mov (.t (.ofNat 22)))⟩])
 (.cond (.t (.ofNat 16)) (.seq (.reg [⟨(some (.ofNat 6)), none, (.mov (.k (.c (.int .i64 0))))⟩, ⟨(some (.ofNat 7)), none, (.mov (.k (.c (.int .i64 7))))⟩])
 .ret) .skip)))))
 (.seq (.reg [⟨(some (.ofNat 23)), none, (.mov (.t (.ofNat 0)))⟩, ⟨(some (.ofNat 24)), none, (.nchk (.t (.ofNat 23)))⟩, ⟨(some (.ofNat 25)), none, (.faddr 2 (.t (.ofNat 24)))⟩, ⟨(some (.ofNat 26)), none, (.load1 (.t (.ofNat 25)))⟩, ⟨(some (.ofNat 27)), none, (.mov (.t (.ofNat 1)))⟩, ⟨(some (.ofNat 28)), none, (.build [(.int .i64 0), (.str []), .nils, (.bool false)] [(0, 1, (.t (.ofNat 26))), (1, 1, (.t (.ofNat 27)))])⟩, ⟨(some (.ofNat 29)), none, (.box (.t (.ofNat 28)))⟩, ⟨(some (.ofNat 8)), none, (.mov (.t (.ofNat 29)))⟩])
 (.seq (.seq (.reg [⟨(some (.ofNat 30)), none, (.mov (.t (.ofNat 2)))⟩, ⟨(some (.ofNat 31)), none, (.len .slice (.t (.ofNat 30)))⟩, ⟨(some (.ofNat 32)), none, (.mov (.k (.c (.int .i64 0))))⟩])
 (.block 1 (.loop (.seq (.reg [⟨(some (.ofNat 33)), none, (.bin .lss .num (.t (.ofNat 32)) (.t (.ofNat 31)))⟩])
 (.seq (.cond (.t (.ofNat 33)) .skip (.exit 1))
 (.seq (.block 2 (.seq (.reg [⟨(some (.ofNat 34)), none, (.iaddrV 1 (.t (.ofNat 30)) (.t (.ofNat 32)))⟩, ⟨(some (.ofNat 35)), none, (.load1 (.t (.ofNat 34)))⟩, ⟨(some (.ofNat 10)), none, (.mov (.t (.ofNat 35)))⟩])
 (.seq (.reg [⟨(some (.ofNat 36)), none, (.mov (.t (.ofNat 0)))⟩, ⟨(some (.ofNat 37)), none, (.mov (.t (.ofNat 8)))⟩, ⟨(some (.ofNat 38)), none, (.mov (.t (.ofNat 10)))⟩, ⟨(some (.ofNat 39)), none, (.call 69 [(.t (.ofNat 36)), (.t (.ofNat 37)), (.t (.ofNat 38))])⟩, ⟨(some (.ofNat 11)), none, (.mov (.t (.ofNat 39)))⟩])
 (.seq (.reg [⟨(some (.ofNat 40)), none, (.mov (.t (.ofNat 11)))⟩, ⟨(some (.ofNat 41)), none, (.bin .neq .num (.t (.ofNat 40)) (.k (.c (.int .i64 0))))⟩])
 (.cond (.t (.ofNat 41)) (.seq (.reg [⟨(some (.ofNat 42)), none, (.mov (.t (.ofNat 0)))⟩, ⟨(some (.ofNat 43)), none, (.mov (.t (.ofNat 8)))⟩, ⟨(some (.ofNat 44)), none, (.call 66 [(.t (.ofNat 42)), (.t (.ofNat 43))])⟩])
 (.seq (.reg [⟨(some (.ofNat 45)), none, (.mov (.t (.ofNat 11)))⟩, ⟨(some (.ofNat 6)), none, (.mov (.k (.c (.int .i64 0))))⟩, ⟨(some (.ofNat 7)), none, (.mov (.t (.ofNat 45)))⟩])
 .ret)) .skip)))))
 (.reg [⟨(some (.ofNat 46)), none, (.bin .add .num (.t (.ofNat 32)) (.k (.c (.int .i64 1))))⟩, ⟨(some (.ofNat 32)), none, (.mov (.t (.ofNat 46)))⟩])))))))
 (.seq (.dreg [⟨(some (.ofNat 47)), none, (.mov (.t (.ofNat 0)))⟩, ⟨(some (.ofNat 48)), none, (.nchk (.t (.ofNat 47)))⟩, ⟨(some (.ofNat 49)), none, (.faddr 1 (.t (.ofNat 48)))⟩, ⟨(some (.ofNat 50)), none, (.load1 (.t (.ofNat 49)))⟩, ⟨(some (.ofNat 51)), none, (.mov (.t (.ofNat 8)))⟩, ⟨(some (.ofNat 52)), none, (.nchk (.t (.ofNat 51)))⟩, ⟨(some (.ofNat 53)), none, (.faddr 0 (.t (.ofNat 52)))⟩, ⟨(some (.ofNat 54)), none, (.load1 (.t (.ofNat 53)))⟩, ⟨(some (.ofNat 55)), none, (.mov (.t (.ofNat 8)))⟩, ⟨none, none, (.mupd true (.t (.ofNat 50)) (.t (.ofNat 54)) (.t (.ofNat 55)))⟩] [[], [], [], [], [], [], [], [], [], []])
 (.seq (.reg [⟨(some (.ofNat 56)), none, (.mov (.t (.ofNat 0)))⟩, ⟨(some (.ofNat 57)), none, (.nchk (.t (.ofNat 56)))⟩, ⟨(some (.ofNat 58)), none, (.faddr 2 (.t (.ofNat 57)))⟩, ⟨(some (.ofNat 59)), none, (.load1 (.t (.ofNat 58)))⟩, ⟨(some (.ofNat 60)), none, (.bin .add .num (.t (.ofNat 59)) (.k (.c (.int .i64 1))))⟩, ⟨(some (.ofNat 61)), none, (.nchk (.t (.ofNat 56)))⟩, ⟨(some (.ofNat 62)), none, (.faddr 2 (.t (.ofNat 61)))⟩, ⟨none, none, (.store 1 (.t (.ofNat 62)) (.t (.ofNat 60)))⟩])
 (.seq (.reg [⟨(some (.ofNat 63)), none, (.mov (.t (.ofNat 8)))⟩, ⟨(some (.ofNat 64)), none, (.nchk (.t (.ofNat 63)))⟩, ⟨(some (.ofNat 65)), none, (.faddr 0 (.t (.ofNat 64)))⟩, ⟨(some (.ofNat 66)), none, (.load1 (.t (.ofNat 65)))⟩, ⟨(some (.ofNat 6)), none, (.mov (.t (.ofNat 66)))⟩, ⟨(some (.ofNat 7)), none, (.mov (.k (.c (.int .i64 0))))⟩])
 .ret))))))),
 [.t (.ofNat 6), .t (.ofNat 7)]⟩
theorem c16_n : c16 = n16 := by kernel_rfl
def n66 : IFunc := ⟨[(.ofNat 0), (.ofNat 1)],
 (.seq (.seq (.reg [⟨(some (.ofNat 6)), none, (.mov (.t (.ofNat 1)))⟩, ⟨(some (.ofNat 7)), none, (.nchk (.t (.ofNat 6)))⟩, ⟨(some (.ofNat 8)), none, (.faddr 2 (.t (.ofNat 7)))⟩, ⟨(some (.ofNat 9)), none, (.load1 (.t (.ofNat 8)))⟩, ⟨(some (.ofNat 10)), none, (.len .slice (.t (.ofNat 9)))⟩, ⟨(some (.ofNat 11)), none, (.mov (.k (.c (.int .i64 0))))⟩])
 (.block 0 (.loop (.seq (.reg [⟨(some (.ofNat 12)), none, (.bin .lss .num (.t (.ofNat 11)) (.t (.ofNat 10)))⟩])
 (.seq (.cond (.t (.ofNat 12)) .skip (.exit 0))
 (.seq (.block 1 (.seq (.reg [⟨(some (.ofNat 13)), none, (.iaddrV 1 (.t (.ofNat 9)) (.t (.ofNat 11)))⟩, ⟨(some (.ofNat 14)), none, (.load1 (.t (.ofNat 13)))⟩, ⟨(some (.ofNat 5)), none, (.mov (.t (.ofNat 14)))⟩])
 (.reg [⟨(some (.ofNat 15)), none, (.mov (.t (.ofNat 0)))⟩, ⟨(some (.ofNat 16)), none, (.nchk (.t (.ofNat 15)))⟩, ⟨(some (.ofNat 17)), none, (.faddr 0 (.t (.ofNat 16)))⟩, ⟨(some (.ofNat 18)), none, (.load1 (.t (.ofNat 17)))⟩, ⟨(some (.ofNat 19)), none, (.mov (.t (.ofNat 5)))⟩, ⟨(some (.ofNat 20)), none, (.invoke (.t (.ofNat 18)) "Let" [(.t (.ofNat 19))])⟩])))
 (.reg [⟨(some (.ofNat 21)), none, (.bin .add .num (.t (.ofNat 11)) (.k (.c (.int .i64 1))))⟩, ⟨(some (.ofNat 11)), none, (.mov (.t (.ofNat 21)))⟩])))))))
 (.reg [⟨(some (.ofNat 22)), none, (.mov (.t (.ofNat 1)))⟩, ⟨(some (.ofNat 23)), none, (.nchk (.t (.ofNat 22)))⟩, ⟨(some (.ofNat 24)), none, (.faddr 2 (.t (.ofNat 23)))⟩, ⟨none, none, (.store 1 (.t (.ofNat 24)) (.k (.c .nils)))⟩])),
 []⟩
theorem c66_n : c66 = n66 := by kernel_rfl
def n68 : IFunc := ⟨[(.ofNat 0)],
 (.seq (.reg [⟨(some (.ofNat 1)), none, (.box (.t (.ofNat 0)))⟩, ⟨(some (.ofNat 2)), none, (.mov (.k (.c .nilf)))⟩])
 (.seq (.reg [⟨(some (.ofNat 3)), none, (.mkfn 109 [(.t (.ofNat 1))])⟩, ⟨(some (.ofNat 2)), none, (.mov (.t (.ofNat 3)))⟩])
 .ret)),
 [.t (.ofNat 2)]⟩
theorem c68_n : c68 = n68 := by kernel_rfl
end Go.AX
