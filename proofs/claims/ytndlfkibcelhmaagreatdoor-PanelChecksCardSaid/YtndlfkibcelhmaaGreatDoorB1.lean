/- The code of the functions that the law reaches, as the evaluator takes it. -/
import Derived.Test.YtndlfkibcelhmaaGreatDoorA0
import Derived.Test.YtndlfkibcelhmaaGreatDoorB0
set_option linter.all false
section
set_option maxRecDepth 100000
namespace Go.Proofs.YtndlfkibcelhmaaGreatDoor.Ai
open Go
/- (*codend/panel.reader).read -/
def F126 : AFunc := ⟨59, [.tmp 4],
 .seq (.region [⟨some 4, .mv (.c (.int .i64 0)), none⟩])
 (.seq (.region [⟨some 10, .mv (.t 1), none⟩,
 ⟨some 11, .call 186 [(.t 10), (.c (.str [10]))], none⟩,
 ⟨some 9, .mv (.t 11), none⟩,
 ⟨some 12, .extract 0 (.t 9), none⟩,
 ⟨some 13, .extract 1 (.t 9), none⟩,
 ⟨some 5, .mv (.t 12), none⟩,
 ⟨some 6, .mv (.t 13), none⟩])
 (.seq (.region [⟨some 14, .mv (.t 5), none⟩,
 ⟨some 15, .call 187 [(.t 14), (.c (.str [32]))], none⟩,
 ⟨some 7, .mv (.t 15), none⟩])
 (.seq (.region [⟨some 16, .mkMap, none⟩,
 ⟨some 17, .buildSl 1 2 [.str [], .str []] [(0, 1, (.c (.str []))), (1, 1, (.c (.str [101, 110, 100])))], none⟩,
 ⟨none, .mapUpd ⟨false, [.s]⟩ (.t 16) (.c (.str [112, 97, 110, 101, 108])) (.t 17), none⟩,
 ⟨some 18, .buildSl 1 2 [.str [], .str []] [(0, 1, (.c (.str [112, 97, 110, 101, 108]))), (1, 1, (.c (.str [108, 101, 102, 116])))], none⟩,
 ⟨none, .mapUpd ⟨false, [.s]⟩ (.t 16) (.c (.str [108, 101, 102, 116])) (.t 18), none⟩,
 ⟨some 19, .buildSl 1 3 [.str [], .str [], .str []] [(0, 1, (.c (.str [112, 97, 110, 101, 108]))), (1, 1, (.c (.str [108, 101, 102, 116]))), (2, 1, (.c (.str [114, 105, 103, 104, 116])))], none⟩,
 ⟨none, .mapUpd ⟨false, [.s]⟩ (.t 16) (.c (.str [114, 105, 103, 104, 116])) (.t 19), none⟩,
 ⟨some 20, .buildSl 1 3 [.str [], .str [], .str []] [(0, 1, (.c (.str [112, 97, 110, 101, 108]))), (1, 1, (.c (.str [108, 101, 102, 116]))), (2, 1, (.c (.str [114, 105, 103, 104, 116])))], none⟩,
 ⟨none, .mapUpd ⟨false, [.s]⟩ (.t 16) (.c (.str [101, 110, 100])) (.t 20), none⟩,
 ⟨some 21, .mv (.t 16), none⟩,
 ⟨some 8, .mv (.t 21), none⟩])
 (.seq (.seq (.regionD [⟨⟨some 22, .mv (.t 6), none⟩, false, []⟩,
 ⟨⟨some 23, .un .not (.t 22), none⟩, false, []⟩,
 ⟨⟨some 24, .mv (.t 23), none⟩, false, []⟩,
 ⟨⟨some 25, .mv (.t 8), some (24, false)⟩, false, []⟩,
 ⟨⟨some 26, .mv (.t 7), some (24, false)⟩, false, []⟩,
 ⟨⟨some 27, .indexAddr (.sl 1) (.t 26) (.c (.int .i64 0)), some (24, false)⟩, false, []⟩,
 ⟨⟨some 28, .load 1 false (.t 27), some (24, false)⟩, false, []⟩,
 ⟨⟨some 29, .lookup ⟨false, [.s]⟩ (.nilsl) false (.t 25) (.t 28), some (24, false)⟩, false, []⟩,
 ⟨⟨some 30, .mv (.t 0), some (24, false)⟩, false, []⟩,
 ⟨⟨some 31, .nilChk (.t 30), some (24, false)⟩, false, []⟩,
 ⟨⟨some 32, .fieldAddr 5 (.t 31), some (24, false)⟩, false, []⟩,
 ⟨⟨some 33, .load 1 false (.t 32), some (24, false)⟩, false, []⟩,
 ⟨⟨some 34, .call 188 [(.t 29), (.t 33)], some (24, false)⟩, false, []⟩,
 ⟨⟨some 35, .un .not (.t 34), some (24, false)⟩, false, []⟩,
 ⟨⟨some 36, .pick (.t 24) (.c (.bool true)) (.t 35), none⟩, false, []⟩])
 (.cond (.t 36)
 (.seq (.region [⟨some 4, .mv (.c (.int .i64 25)), none⟩])
 (.ret))
 (.skip)))
 (.seq (.region [⟨some 37, .mv (.t 0), none⟩,
 ⟨some 38, .mv (.t 7), none⟩,
 ⟨some 39, .indexAddr (.sl 1) (.t 38) (.c (.int .i64 0)), none⟩,
 ⟨some 40, .load 1 false (.t 39), none⟩,
 ⟨some 41, .nilChk (.t 37), none⟩,
 ⟨some 42, .fieldAddr 5 (.t 41), none⟩,
 ⟨none, .store 1 (.t 42) (.t 40), none⟩])
 (.seq (.seq (.region [⟨some 43, .mv (.t 7), none⟩,
 ⟨some 44, .indexAddr (.sl 1) (.t 43) (.c (.int .i64 0)), none⟩,
 ⟨some 45, .load 1 false (.t 44), none⟩])
 (.block 0 (.seq (.region [⟨some 47, .bin .eql .strs (.t 45) (.c (.str [112, 97, 110, 101, 108])), none⟩,
 ⟨some 46, .mv (.t 47), none⟩])
 (.cond (.t 46)
 (.seq (.region [⟨some 48, .mv (.t 0), none⟩,
 ⟨some 49, .mv (.t 7), none⟩,
 ⟨some 50, .call 189 [(.t 48), (.t 49)], none⟩,
 ⟨some 4, .mv (.t 50), none⟩])
 (.ret))
 (.seq (.region [⟨some 52, .bin .eql .strs (.t 45) (.c (.str [101, 110, 100])), none⟩,
 ⟨some 51, .mv (.t 52), none⟩])
 (.cond (.t 51)
 (.seq (.region [⟨some 53, .mv (.t 0), none⟩,
 ⟨some 54, .mv (.t 7), none⟩,
 ⟨some 55, .call 190 [(.t 53), (.t 54)], none⟩,
 ⟨some 4, .mv (.t 55), none⟩])
 (.ret))
 (.skip)))))))
 (.seq (.region [⟨some 56, .mv (.t 0), none⟩,
 ⟨some 57, .mv (.t 7), none⟩,
 ⟨some 58, .call 191 [(.t 56), (.t 57)], none⟩,
 ⟨some 4, .mv (.t 58), none⟩])
 (.ret))))))))⟩

/- strings.Lines -/
def F127 : AFunc := ⟨4, [.tmp 2],
 .seq (.region [⟨some 1, .box (.t 0), none⟩,
 ⟨some 2, .mv (.c (.nilfunc)), none⟩])
 (.seq (.region [⟨some 3, .mkFunc 192 [] [(.t 1)], none⟩,
 ⟨some 2, .mv (.t 3), none⟩])
 (.ret))⟩

/- codend/panel.when -/
def F133 : AFunc := ⟨7, [.tmp 4],
 .seq (.region [⟨some 4, .mv (.c (.int .i64 0)), none⟩])
 (.seq (.seq (.region [⟨some 5, .mv (.t 0), none⟩])
 (.cond (.t 5)
 (.seq (.region [⟨some 6, .mv (.t 1), none⟩,
 ⟨some 4, .mv (.t 6), none⟩])
 (.ret))
 (.skip)))
 (.seq (.region [⟨some 4, .mv (.c (.int .i64 0)), none⟩])
 (.ret)))⟩

/- codend/netting.IsName -/
def F134 : AFunc := ⟨52, [.tmp 2],
 .seq (.region [⟨some 2, .mv (.c (.bool false)), none⟩])
 (.seq (.seq (.region [⟨some 6, .mv (.t 0), none⟩,
 ⟨some 7, .len .str (.t 6), none⟩,
 ⟨some 8, .bin .eql .num (.t 7) (.c (.int .i64 0)), none⟩,
 ⟨some 9, .mv (.t 8), none⟩,
 ⟨some 10, .mv (.t 0), some (9, false)⟩,
 ⟨some 11, .len .str (.t 10), some (9, false)⟩,
 ⟨some 12, .bin .gtr .num (.t 11) (.c (.int .i64 24)), some (9, false)⟩,
 ⟨some 13, .pick (.t 9) (.c (.bool true)) (.t 12), none⟩])
 (.cond (.t 13)
 (.seq (.region [⟨some 2, .mv (.c (.bool false)), none⟩])
 (.ret))
 (.skip)))
 (.seq (.seq (.region [⟨some 14, .mv (.t 0), none⟩,
 ⟨some 15, .range (.t 14), none⟩])
 (.block 0 (.loop (.seq (.region [⟨some 16, .next (.t 15), none⟩,
 ⟨some 17, .extract 0 (.t 16), none⟩])
 (.seq (.cond (.t 17)
 (.skip)
 (.exit 0))
 (.block 1 (.seq (.region [⟨some 18, .extract 1 (.t 16), none⟩,
 ⟨some 19, .extract 2 (.t 16), none⟩,
 ⟨some 3, .mv (.t 18), none⟩,
 ⟨some 4, .mv (.t 19), none⟩])
 (.seq (.region [⟨some 20, .mv (.t 4), none⟩,
 ⟨some 21, .bin .geq .num (.t 20) (.c (.int .i32 65)), none⟩,
 ⟨some 22, .mv (.t 21), none⟩,
 ⟨some 23, .mv (.t 4), some (22, true)⟩,
 ⟨some 24, .bin .leq .num (.t 23) (.c (.int .i32 90)), some (22, true)⟩,
 ⟨some 25, .pick (.t 22) (.t 24) (.c (.bool false)), none⟩,
 ⟨some 26, .mv (.t 25), none⟩,
 ⟨some 27, .mv (.t 4), some (26, false)⟩,
 ⟨some 28, .bin .geq .num (.t 27) (.c (.int .i32 97)), some (26, false)⟩,
 ⟨some 29, .mv (.t 28), some (26, false)⟩,
 ⟨some 30, .mv (.t 4), some (29, true)⟩,
 ⟨some 31, .bin .leq .num (.t 30) (.c (.int .i32 122)), some (29, true)⟩,
 ⟨some 32, .pick (.t 29) (.t 31) (.c (.bool false)), some (26, false)⟩,
 ⟨some 33, .pick (.t 26) (.c (.bool true)) (.t 32), none⟩,
 ⟨some 5, .mv (.t 33), none⟩])
 (.seq (.region [⟨some 34, .mv (.t 5), none⟩,
 ⟨some 35, .un .not (.t 34), none⟩,
 ⟨some 36, .mv (.t 35), none⟩,
 ⟨some 37, .mv (.t 3), some (36, true)⟩,
 ⟨some 38, .bin .eql .num (.t 37) (.c (.int .i64 0)), some (36, true)⟩,
 ⟨some 39, .mv (.t 38), some (36, true)⟩,
 ⟨some 40, .mv (.t 4), some (39, false)⟩,
 ⟨some 41, .bin .neq .num (.t 40) (.c (.int .i32 95)), some (39, false)⟩,
 ⟨some 42, .mv (.t 41), some (39, false)⟩,
 ⟨some 43, .mv (.t 4), some (42, true)⟩,
 ⟨some 44, .bin .lss .num (.t 43) (.c (.int .i32 48)), some (42, true)⟩,
 ⟨some 45, .mv (.t 44), some (42, true)⟩,
 ⟨some 46, .mv (.t 4), some (45, false)⟩,
 ⟨some 47, .bin .gtr .num (.t 46) (.c (.int .i32 57)), some (45, false)⟩,
 ⟨some 48, .pick (.t 45) (.c (.bool true)) (.t 47), some (42, true)⟩,
 ⟨some 49, .pick (.t 42) (.t 48) (.c (.bool false)), some (39, false)⟩,
 ⟨some 50, .pick (.t 39) (.c (.bool true)) (.t 49), some (36, true)⟩,
 ⟨some 51, .pick (.t 36) (.t 50) (.c (.bool false)), none⟩])
 (.cond (.t 51)
 (.seq (.region [⟨some 2, .mv (.c (.bool false)), none⟩])
 (.ret))
 (.skip)))))))))))
 (.seq (.region [⟨some 2, .mv (.c (.bool true)), none⟩])
 (.ret))))⟩

/- codend/panel.checkSide -/
def F135 : AFunc := ⟨33, [.tmp 2],
 .seq (.region [⟨some 2, .mv (.c (.int .i64 0)), none⟩])
 (.seq (.seq (.region [⟨some 7, .mv (.t 0), none⟩,
 ⟨some 8, .len .sl (.t 7), none⟩,
 ⟨some 9, .bin .gtr .num (.t 8) (.c (.int .i64 64)), none⟩])
 (.cond (.t 9)
 (.seq (.region [⟨some 2, .mv (.c (.int .i64 5)), none⟩])
 (.ret))
 (.skip)))
 (.seq (.region [⟨some 3, .mv (.c (.int .i64 0)), none⟩])
 (.seq (.seq (.region [⟨some 10, .mv (.t 0), none⟩,
 ⟨some 11, .len .sl (.t 10), none⟩,
 ⟨some 12, .mv (.c (.int .i64 0)), none⟩])
 (.block 0 (.loop (.seq (.region [⟨some 13, .bin .lss .num (.t 12) (.t 11), none⟩])
 (.seq (.cond (.t 13)
 (.skip)
 (.exit 0))
 (.seq (.block 1 (.seq (.region [⟨some 14, .indexAddr (.sl 3) (.t 10) (.t 12), none⟩,
 ⟨some 15, .load 3 true (.t 14), none⟩,
 ⟨some 5, .alloc [.str [], .int .i64 0, .bool false], none⟩,
 ⟨none, .store 3 (.t 5) (.t 15), none⟩])
 (.seq (.seq (.region [⟨some 16, .load 3 true (.t 5), none⟩,
 ⟨some 17, .call 56 [(.t 16)], none⟩,
 ⟨some 6, .mv (.t 17), none⟩])
 (.seq (.region [⟨some 18, .mv (.t 6), none⟩,
 ⟨some 19, .bin .neq .num (.t 18) (.c (.int .i64 0)), none⟩])
 (.cond (.t 19)
 (.seq (.region [⟨some 20, .mv (.t 6), none⟩,
 ⟨some 2, .mv (.t 20), none⟩])
 (.ret))
 (.skip))))
 (.region [⟨some 21, .mv (.t 3), none⟩,
 ⟨some 22, .fieldAddr 0 (.t 5), none⟩,
 ⟨some 23, .load 1 false (.t 22), none⟩,
 ⟨some 24, .len .str (.t 23), none⟩,
 ⟨some 25, .fieldAddr 1 (.t 5), none⟩,
 ⟨some 26, .load 1 false (.t 25), none⟩,
 ⟨some 27, .bin .mul .num (.t 24) (.t 26), none⟩,
 ⟨some 28, .bin .add .num (.t 21) (.t 27), none⟩,
 ⟨some 3, .mv (.t 28), none⟩]))))
 (.region [⟨some 29, .bin .add .num (.t 12) (.c (.int .i64 1)), none⟩,
 ⟨some 12, .mv (.t 29), none⟩])))))))
 (.seq (.region [⟨some 30, .mv (.t 3), none⟩,
 ⟨some 31, .bin .gtr .num (.t 30) (.c (.int .i64 512)), none⟩,
 ⟨some 32, .call 133 [(.t 31), (.c (.int .i64 5))], none⟩,
 ⟨some 2, .mv (.t 32), none⟩])
 (.ret)))))⟩

/- codend/panel.top -/
def F136 : AFunc := ⟨9, [.cell 2 2 true],
 .seq (.region [⟨some 2, .alloc [.int .i64 0, .int .i64 0], none⟩])
 (.seq (.region [⟨some 3, .mv (.t 0), none⟩,
 ⟨some 4, .mv (.t 0), none⟩,
 ⟨some 5, .len .sl (.t 4), none⟩,
 ⟨some 6, .bin .sub .num (.t 5) (.c (.int .i64 1)), none⟩,
 ⟨some 7, .indexAddr (.sl 2) (.t 3) (.t 6), none⟩,
 ⟨some 8, .load 2 true (.t 7), none⟩,
 ⟨none, .store 2 (.t 2) (.t 8), none⟩])
 (.ret))⟩

/- slices.ContainsFunc[[]codend/api.Knot,codend/api.Knot] -/
def F137 : AFunc := ⟨9, [.tmp 4],
 .seq (.region [⟨some 4, .mv (.c (.bool false)), none⟩])
 (.seq (.region [⟨some 5, .mv (.t 0), none⟩,
 ⟨some 6, .mv (.t 1), none⟩,
 ⟨some 7, .call 177 [(.t 5), (.t 6)], none⟩,
 ⟨some 8, .bin .geq .num (.t 7) (.c (.int .i64 0)), none⟩,
 ⟨some 4, .mv (.t 8), none⟩])
 (.ret))⟩

/- codend/panel.far -/
def F138 : AFunc := ⟨11, [.tmp 2],
 .seq (.region [⟨some 1, .box (.t 0), none⟩,
 ⟨some 2, .mv (.c (.bool false)), none⟩])
 (.seq (.region [⟨some 3, .fieldAddr 0 (.t 1), none⟩,
 ⟨some 4, .load 1 false (.t 3), none⟩,
 ⟨some 5, .bin .lss .num (.t 4) (.c (.int .i64 (-4096))), none⟩,
 ⟨some 6, .mv (.t 5), none⟩,
 ⟨some 7, .fieldAddr 0 (.t 1), some (6, false)⟩,
 ⟨some 8, .load 1 false (.t 7), some (6, false)⟩,
 ⟨some 9, .bin .gtr .num (.t 8) (.c (.int .i64 4096)), some (6, false)⟩,
 ⟨some 10, .pick (.t 6) (.c (.bool true)) (.t 9), none⟩,
 ⟨some 2, .mv (.t 10), none⟩])
 (.ret))⟩

/- codend/panel.reach -/
def F139 : AFunc := ⟨53, [.tmp 2],
 .seq (.region [⟨some 2, .mv (.c (.nilsl)), none⟩])
 (.seq (.region [⟨some 8, .mv (.t 0), none⟩,
 ⟨some 9, .call 136 [(.t 8)], none⟩,
 ⟨some 10, .field 1 1 false (.t 9), none⟩,
 ⟨some 11, .bin .add .num (.t 10) (.c (.int .i64 1)), none⟩,
 ⟨some 12, .mkSl 2 16 [.int .i64 0, .int .i64 0] (.t 11) (.t 11), none⟩,
 ⟨some 3, .alloc [.nilsl], none⟩,
 ⟨none, .store 1 (.t 3) (.t 12), none⟩])
 (.seq (.region [⟨some 13, .mkFunc 194 [] [(.t 3)], none⟩,
 ⟨some 4, .mv (.t 13), none⟩])
 (.seq (.region [⟨some 14, .mv (.t 4), none⟩,
 ⟨some 15, .mv (.t 0), none⟩,
 ⟨some 16, .indexAddr (.sl 2) (.t 15) (.c (.int .i64 0)), none⟩,
 ⟨some 17, .fieldAddr 0 (.t 16), none⟩,
 ⟨some 18, .load 1 false (.t 17), none⟩,
 ⟨some 19, .dyn (.t 14) [(.c (.int .i64 0)), (.t 18), (.c (.bool true))], none⟩])
 (.seq (.seq (.region [⟨some 20, .mv (.t 0), none⟩,
 ⟨some 21, .slice (.sl 2) (.t 20) (some (.c (.int .i64 1))) none none, none⟩,
 ⟨some 22, .len .sl (.t 21), none⟩,
 ⟨some 23, .mv (.c (.int .i64 0)), none⟩])
 (.block 0 (.loop (.seq (.region [⟨some 24, .bin .lss .num (.t 23) (.t 22), none⟩])
 (.seq (.cond (.t 24)
 (.skip)
 (.exit 0))
 (.seq (.block 1 (.seq (.region [⟨some 25, .mv (.t 23), none⟩,
 ⟨some 26, .indexAddr (.sl 2) (.t 21) (.t 23), none⟩,
 ⟨some 27, .load 2 true (.t 26), none⟩,
 ⟨some 6, .alloc [.int .i64 0, .int .i64 0], none⟩,
 ⟨some 5, .mv (.t 25), none⟩,
 ⟨none, .store 2 (.t 6) (.t 27), none⟩])
 (.seq (.seq (.region [⟨some 28, .mv (.t 0), none⟩,
 ⟨some 29, .mv (.t 5), none⟩,
 ⟨some 30, .indexAddr (.sl 2) (.t 28) (.t 29), none⟩,
 ⟨some 31, .fieldAddr 1 (.t 30), none⟩,
 ⟨some 32, .load 1 false (.t 31), none⟩,
 ⟨some 33, .bin .add .num (.t 32) (.c (.int .i64 1)), none⟩,
 ⟨some 7, .mv (.t 33), none⟩])
 (.block 2 (.loop (.seq (.seq (.region [⟨some 34, .mv (.t 7), none⟩,
 ⟨some 35, .fieldAddr 1 (.t 6), none⟩,
 ⟨some 36, .load 1 false (.t 35), none⟩,
 ⟨some 37, .bin .leq .num (.t 34) (.t 36), none⟩])
 (.cond (.t 37)
 (.skip)
 (.exit 2)))
 (.seq (.block 3 (.region [⟨some 40, .mv (.t 4), none⟩,
 ⟨some 41, .mv (.t 7), none⟩,
 ⟨some 42, .fieldAddr 0 (.t 6), none⟩,
 ⟨some 43, .load 1 false (.t 42), none⟩,
 ⟨some 44, .dyn (.t 40) [(.t 41), (.t 43), (.c (.bool true))], none⟩]))
 (.region [⟨some 38, .mv (.t 7), none⟩,
 ⟨some 39, .bin .add .num (.t 38) (.c (.int .i64 1)), none⟩,
 ⟨some 7, .mv (.t 39), none⟩]))))))
 (.region [⟨some 45, .mv (.t 4), none⟩,
 ⟨some 46, .fieldAddr 1 (.t 6), none⟩,
 ⟨some 47, .load 1 false (.t 46), none⟩,
 ⟨some 48, .fieldAddr 0 (.t 6), none⟩,
 ⟨some 49, .load 1 false (.t 48), none⟩,
 ⟨some 50, .dyn (.t 45) [(.t 47), (.t 49), (.c (.bool false))], none⟩]))))
 (.region [⟨some 51, .bin .add .num (.t 23) (.c (.int .i64 1)), none⟩,
 ⟨some 23, .mv (.t 51), none⟩])))))))
 (.seq (.region [⟨some 52, .load 1 false (.t 3), none⟩,
 ⟨some 2, .mv (.t 52), none⟩])
 (.ret))))))⟩

/- codend/codendref03.walk -/
def F140 : AFunc := ⟨57, [.tmp 6],
 .seq (.region [⟨some 3, .box (.t 0), none⟩,
 ⟨some 6, .mv (.c (.nilsl)), none⟩])
 (.seq (.region [⟨some 10, .load 2 true (.t 3), none⟩,
 ⟨some 11, .buildSl 2 1 [.int .i64 0, .int .i64 0] [(0, 2, (.t 10))], none⟩,
 ⟨some 7, .mv (.t 11), none⟩])
 (.seq (.seq (.region [⟨some 8, .mv (.c (.int .i64 0)), none⟩])
 (.block 0 (.loop (.seq (.seq (.region [⟨some 12, .mv (.t 8), none⟩,
 ⟨some 13, .mv (.t 1), none⟩,
 ⟨some 14, .len .sl (.t 13), none⟩,
 ⟨some 15, .bin .lss .num (.t 12) (.t 14), none⟩])
 (.cond (.t 15)
 (.skip)
 (.exit 0)))
 (.seq (.block 1 (.seq (.region [⟨some 9, .mv (.c (.int .i64 1)), none⟩])
 (.seq (.seq (.region [⟨some 18, .mv (.t 1), none⟩,
 ⟨some 19, .mv (.t 8), none⟩,
 ⟨some 20, .indexAddr (.sl 2) (.t 18) (.t 19), none⟩,
 ⟨some 21, .fieldAddr 1 (.t 20), none⟩,
 ⟨some 22, .load 1 false (.t 21), none⟩,
 ⟨some 23, .mv (.t 2), none⟩,
 ⟨some 24, .bin .neq (.eq ⟨false, [.b]⟩) (.t 22) (.t 23), none⟩])
 (.cond (.t 24)
 (.region [⟨some 9, .mv (.c (.int .i64 (-1))), none⟩])
 (.skip)))
 (.seq (.seq (.region [⟨some 25, .mv (.t 1), none⟩,
 ⟨some 26, .mv (.t 8), none⟩,
 ⟨some 27, .indexAddr (.sl 2) (.t 25) (.t 26), none⟩,
 ⟨some 28, .fieldAddr 0 (.t 27), none⟩,
 ⟨some 29, .load 1 false (.t 28), none⟩])
 (.block 2 (.seq (.region [⟨some 37, .bin .eql .num (.t 29) (.c (.int .u8 78)), none⟩,
 ⟨some 36, .mv (.t 37), none⟩])
 (.cond (.t 36)
 (.region [⟨some 38, .fieldAddr 1 (.t 3), none⟩,
 ⟨some 39, .load 1 false (.t 38), none⟩,
 ⟨some 40, .bin .add .num (.t 39) (.c (.int .i64 2)), none⟩,
 ⟨some 41, .fieldAddr 1 (.t 3), none⟩,
 ⟨none, .store 1 (.t 41) (.t 40), none⟩])
 (.seq (.region [⟨some 43, .bin .eql .num (.t 29) (.c (.int .u8 66)), none⟩,
 ⟨some 42, .mv (.t 43), none⟩])
 (.cond (.t 42)
 (.region [⟨some 44, .fieldAddr 0 (.t 3), none⟩,
 ⟨some 45, .load 1 false (.t 44), none⟩,
 ⟨some 46, .mv (.t 9), none⟩,
 ⟨some 47, .bin .add .num (.t 45) (.t 46), none⟩,
 ⟨some 48, .fieldAddr 1 (.t 3), none⟩,
 ⟨some 49, .load 1 false (.t 48), none⟩,
 ⟨some 50, .bin .add .num (.t 49) (.c (.int .i64 1)), none⟩,
 ⟨some 51, .build [.int .i64 0, .int .i64 0] [(0, 1, (.t 47)), (1, 1, (.t 50))], none⟩,
 ⟨none, .store 2 (.t 3) (.t 51), none⟩])
 (.region [⟨some 30, .fieldAddr 0 (.t 3), none⟩,
 ⟨some 31, .load 1 false (.t 30), none⟩,
 ⟨some 32, .mv (.t 9), none⟩,
 ⟨some 33, .bin .mul .num (.c (.int .i64 2)) (.t 32), none⟩,
 ⟨some 34, .bin .add .num (.t 31) (.t 33), none⟩,
 ⟨some 35, .fieldAddr 0 (.t 3), none⟩,
 ⟨none, .store 1 (.t 35) (.t 34), none⟩])))))))
 (.region [⟨some 52, .mv (.t 7), none⟩,
 ⟨some 53, .load 2 true (.t 3), none⟩,
 ⟨some 54, .buildSl 2 1 [.int .i64 0, .int .i64 0] [(0, 2, (.t 53))], none⟩,
 ⟨some 55, .append 2 16 none (.t 52) (.t 54), none⟩,
 ⟨some 7, .mv (.t 55), none⟩])))))
 (.region [⟨some 16, .mv (.t 8), none⟩,
 ⟨some 17, .bin .add .num (.t 16) (.c (.int .i64 1)), none⟩,
 ⟨some 8, .mv (.t 17), none⟩]))))))
 (.seq (.region [⟨some 56, .mv (.t 7), none⟩,
 ⟨some 6, .mv (.t 56), none⟩])
 (.ret))))⟩

/- codend/netting.put -/
def F145 : AFunc := ⟨27, [.tmp 6, .tmp 7],
 .seq (.region [⟨some 6, .mv (.c (.nilsl)), none⟩,
 ⟨some 7, .mv (.c (.int .i64 0)), none⟩])
 (.seq (.seq (.region [⟨some 10, .mv (.t 0), none⟩,
 ⟨some 11, .call 151 [(.t 10)], none⟩,
 ⟨some 12, .mv (.t 1), none⟩,
 ⟨some 13, .call 151 [(.t 12)], none⟩,
 ⟨some 14, .buildSl 1 2 [.int .i64 0, .int .i64 0] [(0, 1, (.t 11)), (1, 1, (.t 13))], none⟩,
 ⟨some 15, .call 150 [(.t 14)], none⟩,
 ⟨some 8, .mv (.t 15), none⟩])
 (.seq (.region [⟨some 16, .mv (.t 8), none⟩,
 ⟨some 17, .bin .neq .num (.t 16) (.c (.int .i64 0)), none⟩])
 (.cond (.t 17)
 (.seq (.region [⟨some 18, .mv (.t 8), none⟩,
 ⟨some 6, .mv (.c (.nilsl)), none⟩,
 ⟨some 7, .mv (.t 18), none⟩])
 (.ret))
 (.skip))))
 (.seq (.region [⟨some 19, .mv (.t 0), none⟩,
 ⟨some 20, .mv (.t 1), none⟩,
 ⟨some 21, .mv (.t 2), none⟩,
 ⟨some 22, .call 197 [(.t 19), (.t 20), (.f 198), (.t 21)], none⟩,
 ⟨some 9, .mv (.t 22), none⟩])
 (.seq (.seq (.region [⟨some 23, .mv (.t 9), none⟩,
 ⟨some 24, .len .sl (.t 23), none⟩,
 ⟨some 25, .bin .gtr .num (.t 24) (.c (.int .i64 4096)), none⟩])
 (.cond (.t 25)
 (.seq (.region [⟨some 6, .mv (.c (.nilsl)), none⟩,
 ⟨some 7, .mv (.c (.int .i64 5)), none⟩])
 (.ret))
 (.skip)))
 (.seq (.region [⟨some 26, .mv (.t 9), none⟩,
 ⟨some 6, .mv (.t 26), none⟩,
 ⟨some 7, .mv (.c (.int .i64 0)), none⟩])
 (.ret)))))⟩

/- codend/panel.opposite -/
def F148 : AFunc := ⟨31, [.tmp 2],
 .seq (.region [⟨some 2, .mv (.c (.nilsl)), none⟩])
 (.seq (.region [⟨some 6, .mv (.t 0), none⟩,
 ⟨some 7, .call 199 [(.t 6)], none⟩,
 ⟨some 3, .mv (.t 7), none⟩])
 (.seq (.seq (.region [⟨some 8, .mv (.t 3), none⟩,
 ⟨some 9, .len .sl (.t 8), none⟩,
 ⟨some 10, .mv (.c (.int .i64 0)), none⟩])
 (.block 0 (.loop (.seq (.region [⟨some 11, .bin .lss .num (.t 10) (.t 9), none⟩])
 (.seq (.cond (.t 11)
 (.skip)
 (.exit 0))
 (.seq (.block 1 (.seq (.region [⟨some 12, .mv (.t 10), none⟩,
 ⟨some 13, .indexAddr (.sl 3) (.t 8) (.t 10), none⟩,
 ⟨some 14, .load 3 true (.t 13), none⟩,
 ⟨some 5, .alloc [.str [], .int .i64 0, .bool false], none⟩,
 ⟨some 4, .mv (.t 12), none⟩,
 ⟨none, .store 3 (.t 5) (.t 14), none⟩])
 (.regionD [⟨⟨some 15, .mv (.t 3), none⟩, false, []⟩,
 ⟨⟨some 16, .mv (.t 4), none⟩, false, []⟩,
 ⟨⟨some 17, .fieldAddr 0 (.t 5), none⟩, false, []⟩,
 ⟨⟨some 18, .load 1 false (.t 17), none⟩, false, []⟩,
 ⟨⟨some 19, .conv .strBytes (.t 18), none⟩, false, []⟩,
 ⟨⟨some 20, .call 200 [(.t 19)], none⟩, true, []⟩,
 ⟨⟨some 21, .conv .bytesStr (.t 20), none⟩, false, []⟩,
 ⟨⟨some 22, .fieldAddr 1 (.t 5), none⟩, false, []⟩,
 ⟨⟨some 23, .load 1 false (.t 22), none⟩, false, []⟩,
 ⟨⟨some 24, .fieldAddr 2 (.t 5), none⟩, false, []⟩,
 ⟨⟨some 25, .load 1 false (.t 24), none⟩, false, []⟩,
 ⟨⟨some 26, .un .not (.t 25), none⟩, false, []⟩,
 ⟨⟨some 27, .build [.str [], .int .i64 0, .bool false] [(0, 1, (.t 21)), (1, 1, (.t 23)), (2, 1, (.t 26))], none⟩, false, []⟩,
 ⟨⟨some 28, .indexAddr (.sl 3) (.t 15) (.t 16), none⟩, false, []⟩,
 ⟨⟨none, .store 3 (.t 28) (.t 27), none⟩, false, []⟩])))
 (.region [⟨some 29, .bin .add .num (.t 10) (.c (.int .i64 1)), none⟩,
 ⟨some 10, .mv (.t 29), none⟩])))))))
 (.seq (.region [⟨some 30, .mv (.t 3), none⟩,
 ⟨some 2, .mv (.t 30), none⟩])
 (.ret))))⟩

/- codend/netting.first -/
def F150 : AFunc := ⟨15, [.tmp 2],
 .seq (.region [⟨some 2, .mv (.c (.int .i64 0)), none⟩])
 (.seq (.seq (.region [⟨some 5, .mv (.t 0), none⟩,
 ⟨some 6, .len .sl (.t 5), none⟩,
 ⟨some 7, .mv (.c (.int .i64 0)), none⟩])
 (.block 0 (.loop (.seq (.region [⟨some 8, .bin .lss .num (.t 7) (.t 6), none⟩])
 (.seq (.cond (.t 8)
 (.skip)
 (.exit 0))
 (.seq (.block 1 (.seq (.region [⟨some 9, .indexAddr (.sl 1) (.t 5) (.t 7), none⟩,
 ⟨some 10, .load 1 false (.t 9), none⟩,
 ⟨some 4, .mv (.t 10), none⟩])
 (.seq (.region [⟨some 11, .mv (.t 4), none⟩,
 ⟨some 12, .bin .neq .num (.t 11) (.c (.int .i64 0)), none⟩])
 (.cond (.t 12)
 (.seq (.region [⟨some 13, .mv (.t 4), none⟩,
 ⟨some 2, .mv (.t 13), none⟩])
 (.ret))
 (.skip)))))
 (.region [⟨some 14, .bin .add .num (.t 7) (.c (.int .i64 1)), none⟩,
 ⟨some 7, .mv (.t 14), none⟩])))))))
 (.seq (.region [⟨some 2, .mv (.c (.int .i64 0)), none⟩])
 (.ret)))⟩

/- codend/netting.CheckNet -/
def F151 : AFunc := ⟨38, [.tmp 2],
 .seq (.region [⟨some 2, .mv (.c (.int .i64 0)), none⟩])
 (.seq (.seq (.region [⟨some 6, .mv (.t 0), none⟩,
 ⟨some 7, .len .sl (.t 6), none⟩,
 ⟨some 8, .bin .gtr .num (.t 7) (.c (.int .i64 4096)), none⟩])
 (.cond (.t 8)
 (.seq (.region [⟨some 2, .mv (.c (.int .i64 5)), none⟩])
 (.ret))
 (.skip)))
 (.seq (.seq (.region [⟨some 9, .mv (.t 0), none⟩,
 ⟨some 10, .len .sl (.t 9), none⟩,
 ⟨some 11, .mv (.c (.int .i64 0)), none⟩])
 (.block 0 (.loop (.seq (.region [⟨some 12, .bin .lss .num (.t 11) (.t 10), none⟩])
 (.seq (.cond (.t 12)
 (.skip)
 (.exit 0))
 (.seq (.block 1 (.seq (.region [⟨some 13, .mv (.t 11), none⟩,
 ⟨some 14, .indexAddr (.sl 3) (.t 9) (.t 11), none⟩,
 ⟨some 15, .load 3 true (.t 14), none⟩,
 ⟨some 4, .alloc [.int .i64 0, .int .i64 0, .int .i64 0], none⟩,
 ⟨some 3, .mv (.t 13), none⟩,
 ⟨none, .store 3 (.t 4) (.t 15), none⟩])
 (.seq (.regionD [⟨⟨some 16, .load 3 true (.t 4), none⟩, false, []⟩,
 ⟨⟨some 17, .call 201 [(.t 16)], none⟩, false, []⟩,
 ⟨⟨some 18, .mv (.t 3), none⟩, false, []⟩,
 ⟨⟨some 19, .bin .gtr .num (.t 18) (.c (.int .i64 0)), none⟩, false, []⟩,
 ⟨⟨some 20, .mv (.t 19), none⟩, false, []⟩,
 ⟨⟨some 21, .mv (.t 0), some (20, true)⟩, false, []⟩,
 ⟨⟨some 22, .mv (.t 3), some (20, true)⟩, false, []⟩,
 ⟨⟨some 23, .bin .sub .num (.t 22) (.c (.int .i64 1)), some (20, true)⟩, false, []⟩,
 ⟨⟨some 24, .max (.c (.int .i64 0)) (.t 23), some (20, true)⟩, false, []⟩,
 ⟨⟨some 25, .indexAddr (.sl 3) (.t 21) (.t 24), some (20, true)⟩, false, []⟩,
 ⟨⟨some 26, .load 3 true (.t 25), some (20, true)⟩, false, []⟩,
 ⟨⟨some 27, .load 3 true (.t 4), some (20, true)⟩, false, []⟩,
 ⟨⟨some 28, .call 198 [(.t 26), (.t 27)], some (20, true)⟩, false, []⟩,
 ⟨⟨some 29, .bin .geq .num (.t 28) (.c (.int .i64 0)), some (20, true)⟩, false, []⟩,
 ⟨⟨some 30, .pick (.t 20) (.t 29) (.c (.bool false)), none⟩, false, []⟩,
 ⟨⟨some 31, .call 168 [(.t 30), (.c (.int .i64 11))], none⟩, false, []⟩,
 ⟨⟨some 32, .buildSl 1 2 [.int .i64 0, .int .i64 0] [(0, 1, (.t 17)), (1, 1, (.t 31))], none⟩, false, []⟩,
 ⟨⟨some 33, .call 150 [(.t 32)], none⟩, false, []⟩,
 ⟨⟨some 5, .mv (.t 33), none⟩, false, []⟩])
 (.seq (.region [⟨some 34, .mv (.t 5), none⟩,
 ⟨some 35, .bin .neq .num (.t 34) (.c (.int .i64 0)), none⟩])
 (.cond (.t 35)
 (.seq (.region [⟨some 36, .mv (.t 5), none⟩,
 ⟨some 2, .mv (.t 36), none⟩])
 (.ret))
 (.skip))))))
 (.region [⟨some 37, .bin .add .num (.t 11) (.c (.int .i64 1)), none⟩,
 ⟨some 11, .mv (.t 37), none⟩])))))))
 (.seq (.region [⟨some 2, .mv (.c (.int .i64 0)), none⟩])
 (.ret))))⟩

/- codend/netting.CheckKnot -/
def F152 : AFunc := ⟨15, [.tmp 2],
 .seq (.region [⟨some 1, .box (.t 0), none⟩,
 ⟨some 2, .mv (.c (.int .i64 0)), none⟩])
 (.seq (.regionD [⟨⟨some 3, .load 2 true (.t 1), none⟩, false, []⟩,
 ⟨⟨some 4, .call 169 [(.t 3)], none⟩, true, []⟩,
 ⟨⟨some 5, .fieldAddr 0 (.t 1), none⟩, false, []⟩,
 ⟨⟨some 6, .load 1 false (.t 5), none⟩, false, []⟩,
 ⟨⟨some 7, .fieldAddr 1 (.t 1), none⟩, false, []⟩,
 ⟨⟨some 8, .load 1 false (.t 7), none⟩, false, []⟩,
 ⟨⟨some 9, .bin .xor .num (.t 6) (.t 8), none⟩, false, []⟩,
 ⟨⟨some 10, .bin .and .num (.t 9) (.c (.int .i64 1)), none⟩, false, []⟩,
 ⟨⟨some 11, .bin .neq .num (.t 10) (.c (.int .i64 0)), none⟩, false, []⟩,
 ⟨⟨some 12, .call 168 [(.t 11), (.c (.int .i64 14))], none⟩, false, []⟩,
 ⟨⟨some 13, .buildSl 1 2 [.int .i64 0, .int .i64 0] [(0, 1, (.t 4)), (1, 1, (.t 12))], none⟩, false, []⟩,
 ⟨⟨some 14, .call 150 [(.t 13)], none⟩, false, []⟩,
 ⟨⟨some 2, .mv (.t 14), none⟩, false, []⟩])
 (.ret))⟩

/- (codend/panel.Strip).bars -/
def F162 : AFunc := ⟨53, [.tmp 4],
 .seq (.region [⟨some 2, .box (.t 0), none⟩,
 ⟨some 4, .mv (.c (.nilsl)), none⟩])
 (.seq (.region [⟨some 5, .mv (.c (.nilsl)), none⟩])
 (.seq (.seq (.region [⟨some 9, .fieldAddr 0 (.t 2), none⟩,
 ⟨some 10, .indexAddr (.arr 2 1) (.t 9) (.c (.int .i64 0)), none⟩,
 ⟨some 11, .load 1 false (.t 10), none⟩,
 ⟨some 6, .mv (.t 11), none⟩])
 (.block 0 (.loop (.seq (.seq (.region [⟨some 12, .mv (.t 6), none⟩,
 ⟨some 13, .fieldAddr 0 (.t 2), none⟩,
 ⟨some 14, .indexAddr (.arr 2 1) (.t 13) (.c (.int .i64 1)), none⟩,
 ⟨some 15, .load 1 false (.t 14), none⟩,
 ⟨some 16, .bin .leq .num (.t 12) (.t 15), none⟩])
 (.cond (.t 16)
 (.skip)
 (.exit 0)))
 (.seq (.block 1 (.seq (.seq (.region [⟨some 19, .mv (.t 6), none⟩,
 ⟨some 20, .mv (.t 1), none⟩,
 ⟨some 21, .bin .add .num (.t 19) (.t 20), none⟩,
 ⟨some 22, .bin .rem .num (.t 21) (.c (.int .i64 2)), none⟩,
 ⟨some 23, .bin .neq .num (.t 22) (.c (.int .i64 0)), none⟩])
 (.cond (.t 23)
 (.exit 1)
 (.skip)))
 (.seq (.region [⟨some 24, .build [.int .i64 0, .int .i64 0] [(0, 1, (.c (.int .i64 (-1)))), (1, 1, (.c (.int .i64 1)))], none⟩,
 ⟨some 25, .mv (.c (.int .i64 0)), none⟩])
 (.block 2 (.loop (.seq (.region [⟨some 26, .bin .lss .num (.t 25) (.c (.int .i64 2)), none⟩])
 (.seq (.cond (.t 26)
 (.skip)
 (.exit 2))
 (.seq (.block 3 (.seq (.region [⟨some 27, .index (.arr 2 1 false) (.t 24) (.t 25), none⟩,
 ⟨some 8, .mv (.t 27), none⟩])
 (.seq (.region [⟨some 28, .fieldAddr 2 (.t 2), none⟩,
 ⟨some 29, .indexAddr (.arr 2 1) (.t 28) (.c (.int .i64 0)), none⟩,
 ⟨some 30, .load 1 false (.t 29), none⟩,
 ⟨some 31, .mv (.t 6), none⟩,
 ⟨some 32, .mv (.t 8), none⟩,
 ⟨some 33, .bin .add .num (.t 31) (.t 32), none⟩,
 ⟨some 34, .bin .leq .num (.t 30) (.t 33), none⟩,
 ⟨some 35, .mv (.t 34), none⟩,
 ⟨some 36, .mv (.t 6), some (35, true)⟩,
 ⟨some 37, .mv (.t 8), some (35, true)⟩,
 ⟨some 38, .bin .add .num (.t 36) (.t 37), some (35, true)⟩,
 ⟨some 39, .fieldAddr 2 (.t 2), some (35, true)⟩,
 ⟨some 40, .indexAddr (.arr 2 1) (.t 39) (.c (.int .i64 1)), some (35, true)⟩,
 ⟨some 41, .load 1 false (.t 40), some (35, true)⟩,
 ⟨some 42, .bin .leq .num (.t 38) (.t 41), some (35, true)⟩,
 ⟨some 43, .pick (.t 35) (.t 42) (.c (.bool false)), none⟩])
 (.cond (.t 43)
 (.region [⟨some 44, .mv (.t 5), none⟩,
 ⟨some 45, .mv (.t 6), none⟩,
 ⟨some 46, .mv (.t 1), none⟩,
 ⟨some 47, .mv (.t 8), none⟩,
 ⟨some 48, .build [.int .i64 0, .int .i64 0, .int .i64 0] [(0, 1, (.t 45)), (1, 1, (.t 46)), (2, 1, (.t 47))], none⟩,
 ⟨some 49, .buildSl 3 1 [.int .i64 0, .int .i64 0, .int .i64 0] [(0, 3, (.t 48))], none⟩,
 ⟨some 50, .append 3 24 none (.t 44) (.t 49), none⟩,
 ⟨some 5, .mv (.t 50), none⟩])
 (.skip)))))
 (.region [⟨some 51, .bin .add .num (.t 25) (.c (.int .i64 1)), none⟩,
 ⟨some 25, .mv (.t 51), none⟩])))))))))
 (.region [⟨some 17, .mv (.t 6), none⟩,
 ⟨some 18, .bin .add .num (.t 17) (.c (.int .i64 1)), none⟩,
 ⟨some 6, .mv (.t 18), none⟩]))))))
 (.seq (.region [⟨some 52, .mv (.t 5), none⟩,
 ⟨some 4, .mv (.t 52), none⟩])
 (.ret))))⟩

/- codend/codendref03.reach -/
def F163 : AFunc := ⟨61, [.cell 4 2 true],
 .seq (.region [⟨some 4, .alloc [.int .i64 0, .int .i64 0], none⟩])
 (.seq (.region [⟨some 5, .mv (.c (.int .i64 999999999)), none⟩,
 ⟨some 6, .mv (.c (.int .i64 (-999999999))), none⟩])
 (.seq (.seq (.region [⟨some 7, .mv (.c (.int .i64 0)), none⟩])
 (.block 0 (.loop (.seq (.seq (.region [⟨some 8, .mv (.t 7), none⟩,
 ⟨some 9, .mv (.t 0), none⟩,
 ⟨some 10, .len .sl (.t 9), none⟩,
 ⟨some 11, .bin .lss .num (.t 8) (.t 10), none⟩])
 (.cond (.t 11)
 (.skip)
 (.exit 0)))
 (.seq (.block 1 (.seq (.region [⟨some 14, .mv (.t 0), none⟩,
 ⟨some 15, .mv (.t 7), none⟩,
 ⟨some 16, .indexAddr (.sl 2) (.t 14) (.t 15), none⟩,
 ⟨some 17, .fieldAddr 1 (.t 16), none⟩,
 ⟨some 18, .load 1 false (.t 17), none⟩,
 ⟨some 19, .mv (.t 1), none⟩,
 ⟨some 20, .bin .eql .num (.t 18) (.t 19), none⟩,
 ⟨some 21, .mv (.t 20), none⟩,
 ⟨some 22, .mv (.t 7), some (21, false)⟩,
 ⟨some 23, .bin .gtr .num (.t 22) (.c (.int .i64 0)), some (21, false)⟩,
 ⟨some 24, .mv (.t 23), some (21, false)⟩,
 ⟨some 25, .mv (.t 0), some (24, true)⟩,
 ⟨some 26, .mv (.t 7), some (24, true)⟩,
 ⟨some 27, .bin .sub .num (.t 26) (.c (.int .i64 1)), some (24, true)⟩,
 ⟨some 28, .indexAddr (.sl 2) (.t 25) (.t 27), some (24, true)⟩,
 ⟨some 29, .fieldAddr 1 (.t 28), some (24, true)⟩,
 ⟨some 30, .load 1 false (.t 29), some (24, true)⟩,
 ⟨some 31, .mv (.t 1), some (24, true)⟩,
 ⟨some 32, .bin .lss .num (.t 30) (.t 31), some (24, true)⟩,
 ⟨some 33, .pick (.t 24) (.t 32) (.c (.bool false)), some (21, false)⟩,
 ⟨some 34, .mv (.t 33), some (21, false)⟩,
 ⟨some 35, .mv (.t 0), some (34, true)⟩,
 ⟨some 36, .mv (.t 7), some (34, true)⟩,
 ⟨some 37, .indexAddr (.sl 2) (.t 35) (.t 36), some (34, true)⟩,
 ⟨some 38, .fieldAddr 1 (.t 37), some (34, true)⟩,
 ⟨some 39, .load 1 false (.t 38), some (34, true)⟩,
 ⟨some 40, .mv (.t 1), some (34, true)⟩,
 ⟨some 41, .bin .gtr .num (.t 39) (.t 40), some (34, true)⟩,
 ⟨some 42, .pick (.t 34) (.t 41) (.c (.bool false)), some (21, false)⟩,
 ⟨some 43, .pick (.t 21) (.c (.bool true)) (.t 42), none⟩])
 (.cond (.t 43)
 (.regionD [⟨⟨some 44, .mv (.t 5), none⟩, false, []⟩,
 ⟨⟨some 45, .mv (.t 0), none⟩, false, []⟩,
 ⟨⟨some 46, .mv (.t 7), none⟩, false, []⟩,
 ⟨⟨some 47, .indexAddr (.sl 2) (.t 45) (.t 46), none⟩, false, []⟩,
 ⟨⟨some 48, .fieldAddr 0 (.t 47), none⟩, false, []⟩,
 ⟨⟨some 49, .load 1 false (.t 48), none⟩, false, []⟩,
 ⟨⟨some 50, .min (.t 44) (.t 49), none⟩, false, []⟩,
 ⟨⟨some 51, .mv (.t 6), none⟩, false, []⟩,
 ⟨⟨some 52, .mv (.t 0), none⟩, false, []⟩,
 ⟨⟨some 53, .mv (.t 7), none⟩, false, []⟩,
 ⟨⟨some 54, .indexAddr (.sl 2) (.t 52) (.t 53), none⟩, false, []⟩,
 ⟨⟨some 55, .fieldAddr 0 (.t 54), none⟩, false, []⟩,
 ⟨⟨some 56, .load 1 false (.t 55), none⟩, false, []⟩,
 ⟨⟨some 57, .max (.t 51) (.t 56), none⟩, false, []⟩,
 ⟨⟨some 5, .mv (.t 50), none⟩, false, []⟩,
 ⟨⟨some 6, .mv (.t 57), none⟩, false, []⟩])
 (.skip))))
 (.region [⟨some 12, .mv (.t 7), none⟩,
 ⟨some 13, .bin .add .num (.t 12) (.c (.int .i64 1)), none⟩,
 ⟨some 7, .mv (.t 13), none⟩]))))))
 (.seq (.region [⟨some 58, .mv (.t 5), none⟩,
 ⟨some 59, .mv (.t 6), none⟩,
 ⟨some 60, .build [.int .i64 0, .int .i64 0] [(0, 1, (.t 58)), (1, 1, (.t 59))], none⟩,
 ⟨none, .store 2 (.t 4) (.t 60), none⟩])
 (.ret))))⟩

/- slices.Concat[[]codend/api.Knot,codend/api.Knot] -/
def F166 : AFunc := ⟨36, [.tmp 2],
 .seq (.region [⟨some 2, .mv (.c (.nilsl)), none⟩])
 (.seq (.region [⟨some 3, .mv (.c (.int .i64 0)), none⟩])
 (.seq (.seq (.region [⟨some 9, .mv (.t 0), none⟩,
 ⟨some 10, .len .sl (.t 9), none⟩,
 ⟨some 11, .mv (.c (.int .i64 0)), none⟩])
 (.block 0 (.loop (.seq (.region [⟨some 12, .bin .lss .num (.t 11) (.t 10), none⟩])
 (.seq (.cond (.t 12)
 (.skip)
 (.exit 0))
 (.seq (.block 1 (.seq (.region [⟨some 13, .indexAddr (.sl 1) (.t 9) (.t 11), none⟩,
 ⟨some 14, .load 1 false (.t 13), none⟩,
 ⟨some 5, .mv (.t 14), none⟩])
 (.seq (.region [⟨some 15, .mv (.t 3), none⟩,
 ⟨some 16, .mv (.t 5), none⟩,
 ⟨some 17, .len .sl (.t 16), none⟩,
 ⟨some 18, .bin .add .num (.t 15) (.t 17), none⟩,
 ⟨some 3, .mv (.t 18), none⟩])
 (.seq (.region [⟨some 19, .mv (.t 3), none⟩,
 ⟨some 20, .bin .lss .num (.t 19) (.c (.int .i64 0)), none⟩])
 (.cond (.t 20)
 (.region [⟨some 21, .mkIface 9 (.c (.str [108, 101, 110, 32, 111, 117, 116, 32, 111, 102, 32, 114, 97, 110, 103, 101])), none⟩,
 ⟨none, .stuck, none⟩])
 (.skip))))))
 (.region [⟨some 22, .bin .add .num (.t 11) (.c (.int .i64 1)), none⟩,
 ⟨some 11, .mv (.t 22), none⟩])))))))
 (.seq (.region [⟨some 23, .mv (.t 3), none⟩,
 ⟨some 24, .call 213 [(.c (.nilsl)), (.t 23)], none⟩,
 ⟨some 6, .mv (.t 24), none⟩])
 (.seq (.seq (.region [⟨some 25, .mv (.t 0), none⟩,
 ⟨some 26, .len .sl (.t 25), none⟩,
 ⟨some 27, .mv (.c (.int .i64 0)), none⟩])
 (.block 2 (.loop (.seq (.region [⟨some 28, .bin .lss .num (.t 27) (.t 26), none⟩])
 (.seq (.cond (.t 28)
 (.skip)
 (.exit 2))
 (.seq (.block 3 (.seq (.region [⟨some 29, .indexAddr (.sl 1) (.t 25) (.t 27), none⟩,
 ⟨some 30, .load 1 false (.t 29), none⟩,
 ⟨some 8, .mv (.t 30), none⟩])
 (.region [⟨some 31, .mv (.t 6), none⟩,
 ⟨some 32, .mv (.t 8), none⟩,
 ⟨some 33, .append 2 16 none (.t 31) (.t 32), none⟩,
 ⟨some 6, .mv (.t 33), none⟩])))
 (.region [⟨some 34, .bin .add .num (.t 27) (.c (.int .i64 1)), none⟩,
 ⟨some 27, .mv (.t 34), none⟩])))))))
 (.seq (.region [⟨some 35, .mv (.t 6), none⟩,
 ⟨some 2, .mv (.t 35), none⟩])
 (.ret))))))⟩

/- codend/netting.within -/
def F167 : AFunc := ⟨16, [.tmp 6],
 .seq (.region [⟨some 6, .mv (.c (.int .i64 0)), none⟩])
 (.seq (.region [⟨some 7, .mv (.t 0), none⟩,
 ⟨some 8, .mv (.t 1), none⟩,
 ⟨some 9, .bin .lss .num (.t 7) (.t 8), none⟩,
 ⟨some 10, .mv (.t 9), none⟩,
 ⟨some 11, .mv (.t 0), some (10, false)⟩,
 ⟨some 12, .mv (.t 2), some (10, false)⟩,
 ⟨some 13, .bin .gtr .num (.t 11) (.t 12), some (10, false)⟩,
 ⟨some 14, .pick (.t 10) (.c (.bool true)) (.t 13), none⟩,
 ⟨some 15, .call 168 [(.t 14), (.c (.int .i64 3))], none⟩,
 ⟨some 6, .mv (.t 15), none⟩])
 (.ret))⟩

/- codend/netting.when -/
def F168 : AFunc := ⟨7, [.tmp 4],
 .seq (.region [⟨some 4, .mv (.c (.int .i64 0)), none⟩])
 (.seq (.seq (.region [⟨some 5, .mv (.t 0), none⟩])
 (.cond (.t 5)
 (.seq (.region [⟨some 6, .mv (.t 1), none⟩,
 ⟨some 4, .mv (.t 6), none⟩])
 (.ret))
 (.skip)))
 (.seq (.region [⟨some 4, .mv (.c (.int .i64 0)), none⟩])
 (.ret)))⟩

/- codend/netting.reach -/
def F169 : AFunc := ⟨11, [.tmp 2],
 .seq (.region [⟨some 1, .box (.t 0), none⟩,
 ⟨some 2, .mv (.c (.int .i64 0)), none⟩])
 (.seq (.regionD [⟨⟨some 3, .fieldAddr 0 (.t 1), none⟩, false, []⟩,
 ⟨⟨some 4, .load 1 false (.t 3), none⟩, false, []⟩,
 ⟨⟨some 5, .call 167 [(.t 4), (.c (.int .i64 (-100000))), (.c (.int .i64 100000))], none⟩, true, []⟩,
 ⟨⟨some 6, .fieldAddr 1 (.t 1), none⟩, false, []⟩,
 ⟨⟨some 7, .load 1 false (.t 6), none⟩, false, []⟩,
 ⟨⟨some 8, .call 167 [(.t 7), (.c (.int .i64 (-100000))), (.c (.int .i64 100000))], none⟩, false, []⟩,
 ⟨⟨some 9, .buildSl 1 2 [.int .i64 0, .int .i64 0] [(0, 1, (.t 5)), (1, 1, (.t 8))], none⟩, false, []⟩,
 ⟨⟨some 10, .call 150 [(.t 9)], none⟩, false, []⟩,
 ⟨⟨some 2, .mv (.t 10), none⟩, false, []⟩])
 (.ret))⟩

/- slices.Collect[codend/api.Bar] -/
def F170 : AFunc := ⟨5, [.tmp 2],
 .seq (.region [⟨some 2, .mv (.c (.nilsl)), none⟩])
 (.seq (.region [⟨some 3, .mv (.t 0), none⟩,
 ⟨some 4, .call 214 [(.c (.nilsl)), (.t 3)], none⟩,
 ⟨some 2, .mv (.t 4), none⟩])
 (.ret))⟩

/- codend/netting.sheet -/
def F171 : AFunc := ⟨8, [.tmp 6],
 .seq (.region [⟨some 3, .box (.t 0), none⟩,
 ⟨some 4, .box (.t 1), none⟩,
 ⟨some 5, .box (.t 2), none⟩,
 ⟨some 6, .mv (.c (.nilfunc)), none⟩])
 (.seq (.region [⟨some 7, .mkFunc 215 [] [(.t 5), (.t 3), (.t 4)], none⟩,
 ⟨some 6, .mv (.t 7), none⟩])
 (.ret))⟩

/- codend/netting.Minus$1 -/
def F172 : AFunc := ⟨10, [.tmp 4],
 .seq (.region [⟨some 4, .mv (.c (.bool false)), none⟩])
 (.seq (.region [⟨some 5, .mv (.t 0), none⟩,
 ⟨some 6, .mv (.t 5), none⟩,
 ⟨some 7, .mv (.t 1), some (6, true)⟩,
 ⟨some 8, .un .not (.t 7), some (6, true)⟩,
 ⟨some 9, .pick (.t 6) (.t 8) (.c (.bool false)), none⟩,
 ⟨some 4, .mv (.t 9), none⟩])
 (.ret))⟩

/- (codend/panel.Panel).strips$1 -/
def F175 : AFunc := ⟨47, [],
 .seq (.region [⟨some 8, .mv (.t 0), none⟩,
 ⟨some 9, .slice (.sl 2) (.t 8) (some (.c (.int .i64 1))) none none, none⟩,
 ⟨some 10, .len .sl (.t 9), none⟩,
 ⟨some 11, .mv (.c (.int .i64 0)), none⟩])
 (.block 0 (.loop (.seq (.region [⟨some 12, .bin .lss .num (.t 11) (.t 10), none⟩])
 (.seq (.cond (.t 12)
 (.skip)
 (.exit 0))
 (.seq (.block 1 (.seq (.region [⟨some 13, .mv (.t 11), none⟩,
 ⟨some 14, .indexAddr (.sl 2) (.t 9) (.t 11), none⟩,
 ⟨some 15, .load 2 true (.t 14), none⟩,
 ⟨some 6, .alloc [.int .i64 0, .int .i64 0], none⟩,
 ⟨some 5, .mv (.t 13), none⟩,
 ⟨none, .store 2 (.t 6) (.t 15), none⟩])
 (.seq (.region [⟨some 16, .mv (.t 0), none⟩,
 ⟨some 17, .mv (.t 5), none⟩,
 ⟨some 18, .indexAddr (.sl 2) (.t 16) (.t 17), none⟩,
 ⟨some 19, .fieldAddr 1 (.t 18), none⟩,
 ⟨some 20, .load 1 false (.t 19), none⟩,
 ⟨some 7, .mv (.t 20), none⟩])
 (.block 2 (.loop (.seq (.seq (.region [⟨some 21, .mv (.t 7), none⟩,
 ⟨some 22, .fieldAddr 1 (.t 6), none⟩,
 ⟨some 23, .load 1 false (.t 22), none⟩,
 ⟨some 24, .bin .lss .num (.t 21) (.t 23), none⟩])
 (.cond (.t 24)
 (.skip)
 (.exit 2)))
 (.seq (.block 3 (.regionD [⟨⟨some 27, .load 1 false (.t 2), none⟩, false, []⟩,
 ⟨⟨some 28, .mv (.t 7), none⟩, false, []⟩,
 ⟨⟨some 29, .mv (.t 1), none⟩, false, []⟩,
 ⟨⟨some 30, .load 1 false (.t 2), none⟩, false, []⟩,
 ⟨⟨some 31, .mv (.t 7), none⟩, false, []⟩,
 ⟨⟨some 32, .mv (.t 1), none⟩, false, []⟩,
 ⟨⟨some 33, .mv (.t 0), none⟩, false, []⟩,
 ⟨⟨some 34, .mv (.t 5), none⟩, false, []⟩,
 ⟨⟨some 35, .indexAddr (.sl 2) (.t 33) (.t 34), none⟩, false, []⟩,
 ⟨⟨some 36, .fieldAddr 0 (.t 35), none⟩, false, []⟩,
 ⟨⟨some 37, .load 1 false (.t 36), none⟩, false, []⟩,
 ⟨⟨some 38, .fieldAddr 0 (.t 6), none⟩, false, []⟩,
 ⟨⟨some 39, .load 1 false (.t 38), none⟩, false, []⟩,
 ⟨⟨some 40, .indexAddr (.sl 4) (.t 27) (.t 28), none⟩, false, []⟩,
 ⟨⟨some 41, .fieldAddr 0 (.t 40), none⟩, false, []⟩,
 ⟨⟨some 42, .indexAddr (.arr 2 1) (.t 41) (.t 29), none⟩, false, []⟩,
 ⟨⟨none, .store 1 (.t 42) (.t 37), none⟩, false, [(.t 2), (.t 38)]⟩,
 ⟨⟨some 43, .indexAddr (.sl 4) (.t 30) (.t 31), none⟩, false, []⟩,
 ⟨⟨some 44, .fieldAddr 2 (.t 43), none⟩, false, []⟩,
 ⟨⟨some 45, .indexAddr (.arr 2 1) (.t 44) (.t 32), none⟩, false, []⟩,
 ⟨⟨none, .store 1 (.t 45) (.t 39), none⟩, false, []⟩]))
 (.region [⟨some 25, .mv (.t 7), none⟩,
 ⟨some 26, .bin .add .num (.t 25) (.c (.int .i64 1)), none⟩,
 ⟨some 7, .mv (.t 26), none⟩]))))))))
 (.region [⟨some 46, .bin .add .num (.t 11) (.c (.int .i64 1)), none⟩,
 ⟨some 11, .mv (.t 46), none⟩]))))))⟩

/- codend/panel.after -/
def F176 : AFunc := ⟨36, [.cell 6 2 true],
 .seq (.region [⟨some 3, .box (.t 0), none⟩,
 ⟨some 6, .alloc [.int .i64 0, .int .i64 0], none⟩])
 (.seq (.region [⟨some 7, .mv (.c (.int .i64 (-1))), none⟩])
 (.seq (.seq (.region [⟨some 8, .mv (.t 2), none⟩])
 (.cond (.t 8)
 (.region [⟨some 7, .mv (.c (.int .i64 1)), none⟩])
 (.skip)))
 (.seq (.seq (.region [⟨some 9, .mv (.t 1), none⟩])
 (.block 0 (.seq (.region [⟨some 11, .bin .eql .num (.t 9) (.c (.int .u8 78)), none⟩,
 ⟨some 10, .mv (.t 11), none⟩])
 (.cond (.t 10)
 (.seq (.region [⟨some 12, .fieldAddr 0 (.t 3), none⟩,
 ⟨some 13, .load 1 false (.t 12), none⟩,
 ⟨some 14, .fieldAddr 1 (.t 3), none⟩,
 ⟨some 15, .load 1 false (.t 14), none⟩,
 ⟨some 16, .bin .add .num (.t 15) (.c (.int .i64 2)), none⟩,
 ⟨some 17, .build [.int .i64 0, .int .i64 0] [(0, 1, (.t 13)), (1, 1, (.t 16))], none⟩,
 ⟨none, .store 2 (.t 6) (.t 17), none⟩])
 (.ret))
 (.seq (.region [⟨some 19, .bin .eql .num (.t 9) (.c (.int .u8 66)), none⟩,
 ⟨some 18, .mv (.t 19), none⟩])
 (.cond (.t 18)
 (.seq (.region [⟨some 20, .fieldAddr 0 (.t 3), none⟩,
 ⟨some 21, .load 1 false (.t 20), none⟩,
 ⟨some 22, .mv (.t 7), none⟩,
 ⟨some 23, .bin .add .num (.t 21) (.t 22), none⟩,
 ⟨some 24, .fieldAddr 1 (.t 3), none⟩,
 ⟨some 25, .load 1 false (.t 24), none⟩,
 ⟨some 26, .bin .add .num (.t 25) (.c (.int .i64 1)), none⟩,
 ⟨some 27, .build [.int .i64 0, .int .i64 0] [(0, 1, (.t 23)), (1, 1, (.t 26))], none⟩,
 ⟨none, .store 2 (.t 6) (.t 27), none⟩])
 (.ret))
 (.skip)))))))
 (.seq (.region [⟨some 28, .fieldAddr 0 (.t 3), none⟩,
 ⟨some 29, .load 1 false (.t 28), none⟩,
 ⟨some 30, .mv (.t 7), none⟩,
 ⟨some 31, .bin .mul .num (.c (.int .i64 2)) (.t 30), none⟩,
 ⟨some 32, .bin .add .num (.t 29) (.t 31), none⟩,
 ⟨some 33, .fieldAddr 1 (.t 3), none⟩,
 ⟨some 34, .load 1 false (.t 33), none⟩,
 ⟨some 35, .build [.int .i64 0, .int .i64 0] [(0, 1, (.t 32)), (1, 1, (.t 34))], none⟩,
 ⟨none, .store 2 (.t 6) (.t 35), none⟩])
 (.ret)))))⟩

/- slices.IndexFunc[[]codend/api.Knot,codend/api.Knot] -/
def F177 : AFunc := ⟨19, [.tmp 4],
 .seq (.region [⟨some 4, .mv (.c (.int .i64 0)), none⟩])
 (.seq (.seq (.region [⟨some 6, .mv (.t 0), none⟩,
 ⟨some 7, .len .sl (.t 6), none⟩,
 ⟨some 8, .mv (.c (.int .i64 0)), none⟩])
 (.block 0 (.loop (.seq (.region [⟨some 9, .bin .lss .num (.t 8) (.t 7), none⟩])
 (.seq (.cond (.t 9)
 (.skip)
 (.exit 0))
 (.seq (.block 1 (.seq (.region [⟨some 10, .mv (.t 8), none⟩,
 ⟨some 5, .mv (.t 10), none⟩])
 (.seq (.region [⟨some 11, .mv (.t 1), none⟩,
 ⟨some 12, .mv (.t 0), none⟩,
 ⟨some 13, .mv (.t 5), none⟩,
 ⟨some 14, .indexAddr (.sl 2) (.t 12) (.t 13), none⟩,
 ⟨some 15, .load 2 true (.t 14), none⟩,
 ⟨some 16, .dyn (.t 11) [(.t 15)], none⟩])
 (.cond (.t 16)
 (.seq (.region [⟨some 17, .mv (.t 5), none⟩,
 ⟨some 4, .mv (.t 17), none⟩])
 (.ret))
 (.skip)))))
 (.region [⟨some 18, .bin .add .num (.t 8) (.c (.int .i64 1)), none⟩,
 ⟨some 8, .mv (.t 18), none⟩])))))))
 (.seq (.region [⟨some 4, .mv (.c (.int .i64 (-1))), none⟩])
 (.ret)))⟩

/- codend/panel.split$1 -/
def F178 : AFunc := ⟨8, [.tmp 3],
 .seq (.region [⟨some 2, .box (.t 0), none⟩,
 ⟨some 3, .mv (.c (.bool false)), none⟩])
 (.seq (.region [⟨some 4, .fieldAddr 1 (.t 2), none⟩,
 ⟨some 5, .load 1 false (.t 4), none⟩,
 ⟨some 6, .load 1 false (.t 1), none⟩,
 ⟨some 7, .bin .eql .num (.t 5) (.t 6), none⟩,
 ⟨some 3, .mv (.t 7), none⟩])
 (.ret))⟩

/- slices.AppendSeq[[]codend/panel.letter,codend/panel.letter] -/
def F179 : AFunc := ⟨13, [.tmp 4],
 .seq (.region [⟨some 2, .box (.t 0), none⟩,
 ⟨some 4, .mv (.c (.nilsl)), none⟩])
 (.seq (.seq (.region [⟨some 6, .mv (.t 1), none⟩])
 (.block 0 (.rangeFunc (.t 6) [7] (.region [⟨some 5, .alloc [.int .u8 0, .bool false], none⟩,
 ⟨none, .store 2 (.t 5) (.t 7), none⟩])
 (.block 1 (.region [⟨some 8, .load 1 false (.t 2), none⟩,
 ⟨some 9, .load 2 true (.t 5), none⟩,
 ⟨some 10, .buildSl 2 1 [.int .u8 0, .bool false] [(0, 2, (.t 9))], none⟩,
 ⟨some 11, .append 2 2 none (.t 8) (.t 10), none⟩,
 ⟨none, .store 1 (.t 2) (.t 11), none⟩])))))
 (.seq (.region [⟨some 12, .load 1 false (.t 2), none⟩,
 ⟨some 4, .mv (.t 12), none⟩])
 (.ret)))⟩

/- codend/panel.letters$1 -/
def F180 : AFunc := ⟨35, [],
 .seq (.region [⟨some 6, .load 1 false (.t 1), none⟩,
 ⟨some 7, .len .sl (.t 6), none⟩,
 ⟨some 8, .mv (.c (.int .i64 0)), none⟩])
 (.block 0 (.loop (.seq (.region [⟨some 9, .bin .lss .num (.t 8) (.t 7), none⟩])
 (.seq (.cond (.t 9)
 (.skip)
 (.exit 0))
 (.seq (.block 1 (.seq (.region [⟨some 10, .indexAddr (.sl 3) (.t 6) (.t 8), none⟩,
 ⟨some 11, .load 3 true (.t 10), none⟩,
 ⟨some 4, .alloc [.str [], .int .i64 0, .bool false], none⟩,
 ⟨none, .store 3 (.t 4) (.t 11), none⟩])
 (.seq (.region [⟨some 12, .fieldAddr 1 (.t 4), none⟩,
 ⟨some 13, .load 1 false (.t 12), none⟩,
 ⟨some 14, .mv (.c (.int .i64 0)), none⟩])
 (.block 2 (.loop (.seq (.region [⟨some 15, .bin .lss .num (.t 14) (.t 13), none⟩])
 (.seq (.cond (.t 15)
 (.skip)
 (.exit 2))
 (.seq (.block 3 (.seq (.region [⟨some 16, .fieldAddr 0 (.t 4), none⟩,
 ⟨some 17, .load 1 false (.t 16), none⟩,
 ⟨some 18, .len .str (.t 17), none⟩,
 ⟨some 19, .mv (.c (.int .i64 0)), none⟩])
 (.block 4 (.loop (.seq (.region [⟨some 20, .bin .lss .num (.t 19) (.t 18), none⟩])
 (.seq (.cond (.t 20)
 (.skip)
 (.exit 4))
 (.seq (.block 5 (.seq (.region [⟨some 21, .mv (.t 19), none⟩,
 ⟨some 5, .mv (.t 21), none⟩])
 (.seq (.regionD [⟨⟨some 22, .mv (.t 0), none⟩, false, []⟩,
 ⟨⟨some 23, .fieldAddr 0 (.t 4), none⟩, false, []⟩,
 ⟨⟨some 24, .load 1 false (.t 23), none⟩, false, []⟩,
 ⟨⟨some 25, .mv (.t 5), none⟩, false, []⟩,
 ⟨⟨some 26, .index .str (.t 24) (.t 25), none⟩, false, []⟩,
 ⟨⟨some 27, .fieldAddr 2 (.t 4), none⟩, false, []⟩,
 ⟨⟨some 28, .load 1 false (.t 27), none⟩, false, []⟩,
 ⟨⟨some 29, .build [.int .u8 0, .bool false] [(0, 1, (.t 26)), (1, 1, (.t 28))], none⟩, false, []⟩,
 ⟨⟨some 30, .dyn (.t 22) [(.t 29)], none⟩, false, []⟩,
 ⟨⟨some 31, .un .not (.t 30), none⟩, false, []⟩])
 (.cond (.t 31)
 (.ret)
 (.skip)))))
 (.region [⟨some 32, .bin .add .num (.t 19) (.c (.int .i64 1)), none⟩,
 ⟨some 19, .mv (.t 32), none⟩]))))))))
 (.region [⟨some 33, .bin .add .num (.t 14) (.c (.int .i64 1)), none⟩,
 ⟨some 14, .mv (.t 33), none⟩])))))))))
 (.region [⟨some 34, .bin .add .num (.t 8) (.c (.int .i64 1)), none⟩,
 ⟨some 8, .mv (.t 34), none⟩]))))))⟩

/- codend/panel.plain$1 -/
def F181 : AFunc := ⟨12, [],
 .seq (.seq (.region [⟨some 3, .load 1 false (.t 0), none⟩,
 ⟨some 4, .bin .neq .strs (.t 3) (.c (.str [])), none⟩])
 (.cond (.t 4)
 (.region [⟨some 5, .load 1 false (.t 1), none⟩,
 ⟨some 6, .load 1 false (.t 0), none⟩,
 ⟨some 7, .load 1 false (.t 2), none⟩,
 ⟨some 8, .bin .gtr .num (.t 7) (.c (.int .i64 0)), none⟩,
 ⟨some 9, .build [.str [], .int .i64 0, .bool false] [(0, 1, (.t 6)), (1, 1, (.c (.int .i64 1))), (2, 1, (.t 8))], none⟩,
 ⟨some 10, .buildSl 3 1 [.str [], .int .i64 0, .bool false] [(0, 3, (.t 9))], none⟩,
 ⟨some 11, .append 3 32 none (.t 5) (.t 10), none⟩,
 ⟨none, .store 1 (.t 1) (.t 11), none⟩])
 (.skip)))
 (.region [⟨none, .store 1 (.t 0) (.c (.str [])), none⟩,
 ⟨none, .store 1 (.t 2) (.c (.int .i64 0)), none⟩])⟩

/- codend/panel.again -/
def F182 : AFunc := ⟨8, [.tmp 4],
 .seq (.region [⟨some 3, .box (.t 1), none⟩,
 ⟨some 4, .mv (.c (.bool false)), none⟩])
 (.seq (.region [⟨some 5, .mv (.t 0), none⟩,
 ⟨some 6, .mkFunc 217 [] [(.t 3)], none⟩,
 ⟨some 7, .call 216 [(.t 5), (.t 6)], none⟩,
 ⟨some 4, .mv (.t 7), none⟩])
 (.ret))⟩

/- internal/strconv.Itoa -/
def F184 : AFunc := ⟨5, [.tmp 2],
 .seq (.region [⟨some 2, .mv (.c (.str [])), none⟩])
 (.seq (.region [⟨some 3, .mv (.t 0), none⟩,
 ⟨some 4, .call 219 [(.t 3), (.c (.int .i64 10))], none⟩,
 ⟨some 2, .mv (.t 4), none⟩])
 (.ret))⟩

/- strings.Join -/
def F185 : AFunc := ⟨75, [.tmp 4],
 .seq (.region [⟨some 4, .mv (.c (.str [])), none⟩])
 (.seq (.seq (.region [⟨some 11, .mv (.t 0), none⟩,
 ⟨some 12, .len .sl (.t 11), none⟩])
 (.block 0 (.seq (.region [⟨some 14, .bin .eql .num (.t 12) (.c (.int .i64 0)), none⟩,
 ⟨some 13, .mv (.t 14), none⟩])
 (.cond (.t 13)
 (.seq (.region [⟨some 4, .mv (.c (.str [])), none⟩])
 (.ret))
 (.seq (.region [⟨some 16, .bin .eql .num (.t 12) (.c (.int .i64 1)), none⟩,
 ⟨some 15, .mv (.t 16), none⟩])
 (.cond (.t 15)
 (.seq (.region [⟨some 17, .mv (.t 0), none⟩,
 ⟨some 18, .indexAddr (.sl 1) (.t 17) (.c (.int .i64 0)), none⟩,
 ⟨some 19, .load 1 false (.t 18), none⟩,
 ⟨some 4, .mv (.t 19), none⟩])
 (.ret))
 (.skip)))))))
 (.seq (.region [⟨some 5, .mv (.c (.int .i64 0)), none⟩])
 (.seq (.seq (.region [⟨some 20, .mv (.t 1), none⟩,
 ⟨some 21, .len .str (.t 20), none⟩,
 ⟨some 22, .bin .gtr .num (.t 21) (.c (.int .i64 0)), none⟩])
 (.cond (.t 22)
 (.seq (.seq (.region [⟨some 23, .mv (.t 1), none⟩,
 ⟨some 24, .len .str (.t 23), none⟩,
 ⟨some 25, .mv (.t 0), none⟩,
 ⟨some 26, .len .sl (.t 25), none⟩,
 ⟨some 27, .bin .sub .num (.t 26) (.c (.int .i64 1)), none⟩,
 ⟨some 28, .bin .quo .num (.c (.int .i64 9223372036854775807)) (.t 27), none⟩,
 ⟨some 29, .bin .geq .num (.t 24) (.t 28), none⟩])
 (.cond (.t 29)
 (.region [⟨some 30, .mkIface 9 (.c (.str [115, 116, 114, 105, 110, 103, 115, 58, 32, 74, 111, 105, 110, 32, 111, 117, 116, 112, 117, 116, 32, 108, 101, 110, 103, 116, 104, 32, 111, 118, 101, 114, 102, 108, 111, 119])), none⟩,
 ⟨none, .stuck, none⟩])
 (.skip)))
 (.region [⟨some 31, .mv (.t 5), none⟩,
 ⟨some 32, .mv (.t 1), none⟩,
 ⟨some 33, .len .str (.t 32), none⟩,
 ⟨some 34, .mv (.t 0), none⟩,
 ⟨some 35, .len .sl (.t 34), none⟩,
 ⟨some 36, .bin .sub .num (.t 35) (.c (.int .i64 1)), none⟩,
 ⟨some 37, .bin .mul .num (.t 33) (.t 36), none⟩,
 ⟨some 38, .bin .add .num (.t 31) (.t 37), none⟩,
 ⟨some 5, .mv (.t 38), none⟩]))
 (.skip)))
 (.seq (.seq (.region [⟨some 39, .mv (.t 0), none⟩,
 ⟨some 40, .len .sl (.t 39), none⟩,
 ⟨some 41, .mv (.c (.int .i64 0)), none⟩])
 (.block 1 (.loop (.seq (.region [⟨some 42, .bin .lss .num (.t 41) (.t 40), none⟩])
 (.seq (.cond (.t 42)
 (.skip)
 (.exit 1))
 (.seq (.block 2 (.seq (.region [⟨some 43, .indexAddr (.sl 1) (.t 39) (.t 41), none⟩,
 ⟨some 44, .load 1 false (.t 43), none⟩,
 ⟨some 7, .mv (.t 44), none⟩])
 (.seq (.seq (.region [⟨some 45, .mv (.t 7), none⟩,
 ⟨some 46, .len .str (.t 45), none⟩,
 ⟨some 47, .mv (.t 5), none⟩,
 ⟨some 48, .bin .sub .num (.c (.int .i64 9223372036854775807)) (.t 47), none⟩,
 ⟨some 49, .bin .gtr .num (.t 46) (.t 48), none⟩])
 (.cond (.t 49)
 (.region [⟨some 50, .mkIface 9 (.c (.str [115, 116, 114, 105, 110, 103, 115, 58, 32, 74, 111, 105, 110, 32, 111, 117, 116, 112, 117, 116, 32, 108, 101, 110, 103, 116, 104, 32, 111, 118, 101, 114, 102, 108, 111, 119])), none⟩,
 ⟨none, .stuck, none⟩])
 (.skip)))
 (.region [⟨some 51, .mv (.t 5), none⟩,
 ⟨some 52, .mv (.t 7), none⟩,
 ⟨some 53, .len .str (.t 52), none⟩,
 ⟨some 54, .bin .add .num (.t 51) (.t 53), none⟩,
 ⟨some 5, .mv (.t 54), none⟩]))))
 (.region [⟨some 55, .bin .add .num (.t 41) (.c (.int .i64 1)), none⟩,
 ⟨some 41, .mv (.t 55), none⟩])))))))
 (.seq (.region [⟨some 8, .allocT 180 [.nilptr, .nilsl], none⟩])
 (.seq (.region [⟨some 56, .mv (.t 5), none⟩,
 ⟨some 57, .call 220 [(.t 8), (.t 56)], none⟩])
 (.seq (.region [⟨some 58, .mv (.t 0), none⟩,
 ⟨some 59, .indexAddr (.sl 1) (.t 58) (.c (.int .i64 0)), none⟩,
 ⟨some 60, .load 1 false (.t 59), none⟩,
 ⟨some 61, .call 121 [(.t 8), (.t 60)], none⟩])
 (.seq (.seq (.region [⟨some 62, .mv (.t 0), none⟩,
 ⟨some 63, .slice (.sl 1) (.t 62) (some (.c (.int .i64 1))) none none, none⟩,
 ⟨some 64, .len .sl (.t 63), none⟩,
 ⟨some 65, .mv (.c (.int .i64 0)), none⟩])
 (.block 3 (.loop (.seq (.region [⟨some 66, .bin .lss .num (.t 65) (.t 64), none⟩])
 (.seq (.cond (.t 66)
 (.skip)
 (.exit 3))
 (.seq (.block 4 (.seq (.region [⟨some 67, .indexAddr (.sl 1) (.t 63) (.t 65), none⟩,
 ⟨some 68, .load 1 false (.t 67), none⟩,
 ⟨some 10, .mv (.t 68), none⟩])
 (.seq (.region [⟨some 69, .mv (.t 1), none⟩,
 ⟨some 70, .call 121 [(.t 8), (.t 69)], none⟩])
 (.region [⟨some 71, .mv (.t 10), none⟩,
 ⟨some 72, .call 121 [(.t 8), (.t 71)], none⟩]))))
 (.region [⟨some 73, .bin .add .num (.t 65) (.c (.int .i64 1)), none⟩,
 ⟨some 65, .mv (.t 73), none⟩])))))))
 (.seq (.region [⟨some 74, .call 125 [(.t 8)], none⟩,
 ⟨some 4, .mv (.t 74), none⟩])
 (.ret))))))))))⟩

/- strings.CutSuffix -/
def F186 : AFunc := ⟨11, [.tmp 4, .tmp 5],
 .seq (.region [⟨some 4, .mv (.c (.str [])), none⟩,
 ⟨some 5, .mv (.c (.bool false)), none⟩])
 (.seq (.region [⟨some 6, .mv (.t 0), none⟩,
 ⟨some 7, .mv (.t 1), none⟩,
 ⟨some 8, .call 221 [(.t 6), (.t 7)], none⟩,
 ⟨some 9, .extract 0 (.t 8), none⟩,
 ⟨some 10, .extract 1 (.t 8), none⟩,
 ⟨some 4, .mv (.t 9), none⟩,
 ⟨some 5, .mv (.t 10), none⟩])
 (.ret))⟩

/- strings.Split -/
def F187 : AFunc := ⟨8, [.tmp 4],
 .seq (.region [⟨some 4, .mv (.c (.nilsl)), none⟩])
 (.seq (.region [⟨some 5, .mv (.t 0), none⟩,
 ⟨some 6, .mv (.t 1), none⟩,
 ⟨some 7, .call 222 [(.t 5), (.t 6), (.c (.int .i64 0)), (.c (.int .i64 (-1)))], none⟩,
 ⟨some 4, .mv (.t 7), none⟩])
 (.ret))⟩

/- slices.Contains[[]string,string] -/
def F188 : AFunc := ⟨9, [.tmp 4],
 .seq (.region [⟨some 4, .mv (.c (.bool false)), none⟩])
 (.seq (.region [⟨some 5, .mv (.t 0), none⟩,
 ⟨some 6, .mv (.t 1), none⟩,
 ⟨some 7, .call 223 [(.t 5), (.t 6)], none⟩,
 ⟨some 8, .bin .geq .num (.t 7) (.c (.int .i64 0)), none⟩,
 ⟨some 4, .mv (.t 8), none⟩])
 (.ret))⟩

/- (*codend/panel.reader).begin -/
def F189 : AFunc := ⟨43, [.tmp 4],
 .seq (.region [⟨some 4, .mv (.c (.int .i64 0)), none⟩])
 (.seq (.seq (.region [⟨some 7, .mv (.t 1), none⟩,
 ⟨some 8, .len .sl (.t 7), none⟩,
 ⟨some 9, .bin .neq .num (.t 8) (.c (.int .i64 3)), none⟩,
 ⟨some 10, .mv (.t 9), none⟩,
 ⟨some 11, .mv (.t 1), some (10, false)⟩,
 ⟨some 12, .indexAddr (.sl 1) (.t 11) (.c (.int .i64 1)), some (10, false)⟩,
 ⟨some 13, .load 1 false (.t 12), some (10, false)⟩,
 ⟨some 14, .bin .eql .strs (.t 13) (.c (.str [])), some (10, false)⟩,
 ⟨some 15, .pick (.t 10) (.c (.bool true)) (.t 14), none⟩])
 (.cond (.t 15)
 (.seq (.region [⟨some 4, .mv (.c (.int .i64 25)), none⟩])
 (.ret))
 (.skip)))
 (.seq (.region [⟨some 17, .mv (.t 1), none⟩,
 ⟨some 18, .indexAddr (.sl 1) (.t 17) (.c (.int .i64 2)), none⟩,
 ⟨some 19, .load 1 false (.t 18), none⟩,
 ⟨some 20, .call 224 [(.t 19)], none⟩,
 ⟨some 16, .mv (.t 20), none⟩,
 ⟨some 21, .extract 0 (.t 16), none⟩,
 ⟨some 22, .extract 1 (.t 16), none⟩,
 ⟨some 5, .mv (.t 21), none⟩,
 ⟨some 6, .mv (.t 22), none⟩])
 (.seq (.region [⟨some 23, .mv (.t 0), none⟩,
 ⟨some 24, .mv (.t 1), none⟩,
 ⟨some 25, .indexAddr (.sl 1) (.t 24) (.c (.int .i64 1)), none⟩,
 ⟨some 26, .load 1 false (.t 25), none⟩,
 ⟨some 27, .mv (.t 5), none⟩,
 ⟨some 28, .build [.str [], .int .i64 0, .nilsl, .nilsl] [(0, 1, (.t 26)), (1, 1, (.t 27))], none⟩,
 ⟨some 29, .nilChk (.t 23), none⟩,
 ⟨some 30, .fieldAddr 1 (.t 29), none⟩,
 ⟨none, .store 4 (.t 30) (.t 28), none⟩])
 (.seq (.regionD [⟨⟨some 31, .mv (.t 6), none⟩, false, []⟩,
 ⟨⟨some 32, .un .not (.t 31), none⟩, false, []⟩,
 ⟨⟨some 33, .call 133 [(.t 32), (.c (.int .i64 25))], none⟩, true, []⟩,
 ⟨⟨some 34, .mv (.t 0), none⟩, false, []⟩,
 ⟨⟨some 35, .nilChk (.t 34), none⟩, false, []⟩,
 ⟨⟨some 36, .fieldAddr 0 (.t 35), none⟩, false, []⟩,
 ⟨⟨some 37, .load 1 false (.t 36), none⟩, false, []⟩,
 ⟨⟨some 38, .len .sl (.t 37), none⟩, false, []⟩,
 ⟨⟨some 39, .bin .eql .num (.t 38) (.c (.int .i64 16)), none⟩, false, []⟩,
 ⟨⟨some 40, .call 133 [(.t 39), (.c (.int .i64 5))], none⟩, false, []⟩,
 ⟨⟨some 41, .buildSl 1 2 [.int .i64 0, .int .i64 0] [(0, 1, (.t 33)), (1, 1, (.t 40))], none⟩, false, []⟩,
 ⟨⟨some 42, .call 105 [(.t 41)], none⟩, false, []⟩,
 ⟨⟨some 4, .mv (.t 42), none⟩, false, []⟩])
 (.ret)))))⟩

/- (*codend/panel.reader).finish -/
def F190 : AFunc := ⟨42, [.tmp 4],
 .seq (.region [⟨some 4, .mv (.c (.int .i64 0)), none⟩])
 (.seq (.seq (.region [⟨some 6, .mv (.t 1), none⟩,
 ⟨some 7, .len .sl (.t 6), none⟩,
 ⟨some 8, .bin .neq .num (.t 7) (.c (.int .i64 1)), none⟩])
 (.cond (.t 8)
 (.seq (.region [⟨some 4, .mv (.c (.int .i64 25)), none⟩])
 (.ret))
 (.skip)))
 (.seq (.seq (.regionD [⟨⟨some 9, .mv (.t 0), none⟩, false, []⟩,
 ⟨⟨some 10, .nilChk (.t 9), none⟩, false, []⟩,
 ⟨⟨some 11, .fieldAddr 1 (.t 10), none⟩, false, []⟩,
 ⟨⟨some 12, .load 4 true (.t 11), none⟩, false, []⟩,
 ⟨⟨some 13, .call 58 [(.t 12)], none⟩, true, []⟩,
 ⟨⟨some 14, .mv (.t 0), none⟩, false, []⟩,
 ⟨⟨some 15, .nilChk (.t 14), none⟩, false, []⟩,
 ⟨⟨some 16, .fieldAddr 0 (.t 15), none⟩, false, []⟩,
 ⟨⟨some 17, .load 1 false (.t 16), none⟩, false, []⟩,
 ⟨⟨some 18, .mv (.t 0), none⟩, false, []⟩,
 ⟨⟨some 19, .nilChk (.t 18), none⟩, false, []⟩,
 ⟨⟨some 20, .fieldAddr 1 (.t 19), none⟩, false, []⟩,
 ⟨⟨some 21, .load 4 true (.t 20), none⟩, false, []⟩,
 ⟨⟨some 22, .call 182 [(.t 17), (.t 21)], none⟩, false, []⟩,
 ⟨⟨some 23, .call 133 [(.t 22), (.c (.int .i64 9))], none⟩, false, []⟩,
 ⟨⟨some 24, .buildSl 1 2 [.int .i64 0, .int .i64 0] [(0, 1, (.t 13)), (1, 1, (.t 23))], none⟩, false, []⟩,
 ⟨⟨some 25, .call 105 [(.t 24)], none⟩, false, []⟩,
 ⟨⟨some 5, .mv (.t 25), none⟩, false, []⟩])
 (.seq (.region [⟨some 26, .mv (.t 5), none⟩,
 ⟨some 27, .bin .neq .num (.t 26) (.c (.int .i64 0)), none⟩])
 (.cond (.t 27)
 (.seq (.region [⟨some 28, .mv (.t 5), none⟩,
 ⟨some 4, .mv (.t 28), none⟩])
 (.ret))
 (.skip))))
 (.seq (.regionD [⟨⟨some 29, .mv (.t 0), none⟩, false, []⟩,
 ⟨⟨some 30, .mv (.t 0), none⟩, false, []⟩,
 ⟨⟨some 31, .nilChk (.t 30), none⟩, false, []⟩,
 ⟨⟨some 32, .fieldAddr 0 (.t 31), none⟩, false, []⟩,
 ⟨⟨some 33, .load 1 false (.t 32), none⟩, false, []⟩,
 ⟨⟨some 34, .mv (.t 0), none⟩, false, []⟩,
 ⟨⟨some 35, .nilChk (.t 34), none⟩, false, []⟩,
 ⟨⟨some 36, .fieldAddr 1 (.t 35), none⟩, false, []⟩,
 ⟨⟨some 37, .load 4 true (.t 36), none⟩, false, []⟩,
 ⟨⟨some 38, .buildSl 4 1 [.str [], .int .i64 0, .nilsl, .nilsl] [(0, 4, (.t 37))], none⟩, false, []⟩,
 ⟨⟨some 39, .append 4 72 none (.t 33) (.t 38), none⟩, false, []⟩,
 ⟨⟨some 40, .nilChk (.t 29), none⟩, false, []⟩,
 ⟨⟨some 41, .fieldAddr 0 (.t 40), none⟩, false, []⟩,
 ⟨⟨none, .store 1 (.t 41) (.t 39), none⟩, false, []⟩])
 (.seq (.region [⟨some 4, .mv (.c (.int .i64 0)), none⟩])
 (.ret)))))⟩

/- (*codend/panel.reader).edge -/
def F191 : AFunc := ⟨77, [.tmp 4],
 .seq (.region [⟨some 4, .mv (.c (.int .i64 0)), none⟩])
 (.seq (.seq (.region [⟨some 8, .mv (.t 1), none⟩,
 ⟨some 9, .len .sl (.t 8), none⟩,
 ⟨some 10, .bin .neq .num (.t 9) (.c (.int .i64 4)), none⟩,
 ⟨some 11, .mv (.t 10), none⟩,
 ⟨some 12, .mv (.t 1), some (11, false)⟩,
 ⟨some 13, .indexAddr (.sl 1) (.t 12) (.c (.int .i64 1)), some (11, false)⟩,
 ⟨some 14, .load 1 false (.t 13), some (11, false)⟩,
 ⟨some 15, .bin .eql .strs (.t 14) (.c (.str [])), some (11, false)⟩,
 ⟨some 16, .pick (.t 11) (.c (.bool true)) (.t 15), none⟩,
 ⟨some 17, .mv (.t 16), none⟩,
 ⟨some 18, .mv (.t 1), some (17, false)⟩,
 ⟨some 19, .indexAddr (.sl 1) (.t 18) (.c (.int .i64 3)), some (17, false)⟩,
 ⟨some 20, .load 1 false (.t 19), some (17, false)⟩,
 ⟨some 21, .bin .neq .strs (.t 20) (.c (.str [111, 117, 116])), some (17, false)⟩,
 ⟨some 22, .mv (.t 21), some (17, false)⟩,
 ⟨some 23, .mv (.t 1), some (22, true)⟩,
 ⟨some 24, .indexAddr (.sl 1) (.t 23) (.c (.int .i64 3)), some (22, true)⟩,
 ⟨some 25, .load 1 false (.t 24), some (22, true)⟩,
 ⟨some 26, .bin .neq .strs (.t 25) (.c (.str [105, 110])), some (22, true)⟩,
 ⟨some 27, .pick (.t 22) (.t 26) (.c (.bool false)), some (17, false)⟩,
 ⟨some 28, .pick (.t 17) (.c (.bool true)) (.t 27), none⟩])
 (.cond (.t 28)
 (.seq (.region [⟨some 4, .mv (.c (.int .i64 25)), none⟩])
 (.ret))
 (.skip)))
 (.seq (.region [⟨some 30, .mv (.t 1), none⟩,
 ⟨some 31, .indexAddr (.sl 1) (.t 30) (.c (.int .i64 2)), none⟩,
 ⟨some 32, .load 1 false (.t 31), none⟩,
 ⟨some 33, .call 224 [(.t 32)], none⟩,
 ⟨some 29, .mv (.t 33), none⟩,
 ⟨some 34, .extract 0 (.t 29), none⟩,
 ⟨some 35, .extract 1 (.t 29), none⟩,
 ⟨some 5, .mv (.t 34), none⟩,
 ⟨some 6, .mv (.t 35), none⟩])
 (.seq (.seq (.region [⟨some 36, .mv (.t 6), none⟩,
 ⟨some 37, .un .not (.t 36), none⟩])
 (.cond (.t 37)
 (.seq (.region [⟨some 4, .mv (.c (.int .i64 25)), none⟩])
 (.ret))
 (.skip)))
 (.seq (.regionD [⟨⟨some 38, .mv (.t 1), none⟩, false, []⟩,
 ⟨⟨some 39, .indexAddr (.sl 1) (.t 38) (.c (.int .i64 1)), none⟩, false, []⟩,
 ⟨⟨some 40, .load 1 false (.t 39), none⟩, false, []⟩,
 ⟨⟨some 41, .mv (.t 5), none⟩, false, []⟩,
 ⟨⟨some 42, .mv (.t 1), none⟩, false, []⟩,
 ⟨⟨some 43, .indexAddr (.sl 1) (.t 42) (.c (.int .i64 3)), none⟩, false, []⟩,
 ⟨⟨some 44, .load 1 false (.t 43), none⟩, false, []⟩,
 ⟨⟨some 45, .bin .eql .strs (.t 44) (.c (.str [111, 117, 116])), none⟩, false, []⟩,
 ⟨⟨some 46, .build [.str [], .int .i64 0, .bool false] [(0, 1, (.t 40)), (1, 1, (.t 41)), (2, 1, (.t 45))], none⟩, false, []⟩,
 ⟨⟨some 7, .alloc [.str [], .int .i64 0, .bool false], none⟩, false, []⟩,
 ⟨⟨none, .store 3 (.t 7) (.t 46), none⟩, false, []⟩])
 (.seq (.seq (.region [⟨some 47, .mv (.t 1), none⟩,
 ⟨some 48, .indexAddr (.sl 1) (.t 47) (.c (.int .i64 0)), none⟩,
 ⟨some 49, .load 1 false (.t 48), none⟩,
 ⟨some 50, .bin .eql .strs (.t 49) (.c (.str [108, 101, 102, 116])), none⟩])
 (.cond (.t 50)
 (.regionD [⟨⟨some 51, .mv (.t 0), none⟩, false, []⟩,
 ⟨⟨some 52, .mv (.t 0), none⟩, false, []⟩,
 ⟨⟨some 53, .nilChk (.t 52), none⟩, false, []⟩,
 ⟨⟨some 54, .fieldAddr 1 (.t 53), none⟩, false, []⟩,
 ⟨⟨some 55, .fieldAddr 2 (.t 54), none⟩, false, []⟩,
 ⟨⟨some 56, .load 1 false (.t 55), none⟩, false, []⟩,
 ⟨⟨some 57, .load 3 true (.t 7), none⟩, false, []⟩,
 ⟨⟨some 58, .buildSl 3 1 [.str [], .int .i64 0, .bool false] [(0, 3, (.t 57))], none⟩, false, []⟩,
 ⟨⟨some 59, .append 3 32 none (.t 56) (.t 58), none⟩, false, []⟩,
 ⟨⟨some 60, .nilChk (.t 51), none⟩, false, []⟩,
 ⟨⟨some 61, .fieldAddr 1 (.t 60), none⟩, false, []⟩,
 ⟨⟨some 62, .fieldAddr 2 (.t 61), none⟩, false, []⟩,
 ⟨⟨none, .store 1 (.t 62) (.t 59), none⟩, false, []⟩])
 (.regionD [⟨⟨some 63, .mv (.t 0), none⟩, false, []⟩,
 ⟨⟨some 64, .mv (.t 0), none⟩, false, []⟩,
 ⟨⟨some 65, .nilChk (.t 64), none⟩, false, []⟩,
 ⟨⟨some 66, .fieldAddr 1 (.t 65), none⟩, false, []⟩,
 ⟨⟨some 67, .fieldAddr 3 (.t 66), none⟩, false, []⟩,
 ⟨⟨some 68, .load 1 false (.t 67), none⟩, false, []⟩,
 ⟨⟨some 69, .load 3 true (.t 7), none⟩, false, []⟩,
 ⟨⟨some 70, .buildSl 3 1 [.str [], .int .i64 0, .bool false] [(0, 3, (.t 69))], none⟩, false, []⟩,
 ⟨⟨some 71, .append 3 32 none (.t 68) (.t 70), none⟩, false, []⟩,
 ⟨⟨some 72, .nilChk (.t 63), none⟩, false, []⟩,
 ⟨⟨some 73, .fieldAddr 1 (.t 72), none⟩, false, []⟩,
 ⟨⟨some 74, .fieldAddr 3 (.t 73), none⟩, false, []⟩,
 ⟨⟨none, .store 1 (.t 74) (.t 71), none⟩, false, []⟩])))
 (.seq (.region [⟨some 75, .load 3 true (.t 7), none⟩,
 ⟨some 76, .call 56 [(.t 75)], none⟩,
 ⟨some 4, .mv (.t 76), none⟩])
 (.ret)))))))⟩

/- strings.Lines$1 -/
def F192 : AFunc := ⟨25, [],
 .block 0 (.loop (.seq (.seq (.region [⟨some 5, .load 1 false (.t 1), none⟩,
 ⟨some 6, .len .str (.t 5), none⟩,
 ⟨some 7, .bin .gtr .num (.t 6) (.c (.int .i64 0)), none⟩])
 (.cond (.t 7)
 (.skip)
 (.exit 0)))
 (.block 1 (.seq (.region [⟨some 3, .mv (.c (.str [])), none⟩])
 (.seq (.seq (.region [⟨some 8, .load 1 false (.t 1), none⟩,
 ⟨some 9, .call 193 [(.t 8), (.c (.int .u8 10))], none⟩,
 ⟨some 4, .mv (.t 9), none⟩])
 (.seq (.region [⟨some 10, .mv (.t 4), none⟩,
 ⟨some 11, .bin .geq .num (.t 10) (.c (.int .i64 0)), none⟩])
 (.cond (.t 11)
 (.regionD [⟨⟨some 12, .load 1 false (.t 1), none⟩, false, []⟩,
 ⟨⟨some 13, .mv (.t 4), none⟩, false, []⟩,
 ⟨⟨some 14, .bin .add .num (.t 13) (.c (.int .i64 1)), none⟩, false, []⟩,
 ⟨⟨some 15, .slice .str (.t 12) none (some (.t 14)) none, none⟩, false, []⟩,
 ⟨⟨some 16, .load 1 false (.t 1), none⟩, false, []⟩,
 ⟨⟨some 17, .mv (.t 4), none⟩, false, []⟩,
 ⟨⟨some 18, .bin .add .num (.t 17) (.c (.int .i64 1)), none⟩, false, []⟩,
 ⟨⟨some 19, .slice .str (.t 16) (some (.t 18)) none none, none⟩, false, []⟩,
 ⟨⟨some 3, .mv (.t 15), none⟩, false, []⟩,
 ⟨⟨none, .store 1 (.t 1) (.t 19), none⟩, false, []⟩])
 (.region [⟨some 20, .load 1 false (.t 1), none⟩,
 ⟨some 3, .mv (.t 20), none⟩,
 ⟨none, .store 1 (.t 1) (.c (.str [])), none⟩]))))
 (.seq (.region [⟨some 21, .mv (.t 0), none⟩,
 ⟨some 22, .mv (.t 3), none⟩,
 ⟨some 23, .dyn (.t 21) [(.t 22)], none⟩,
 ⟨some 24, .un .not (.t 23), none⟩])
 (.cond (.t 24)
 (.ret)
 (.skip))))))))⟩

/- strings.IndexByte -/
def F193 : AFunc := ⟨8, [.tmp 4],
 .seq (.region [⟨some 4, .mv (.c (.int .i64 0)), none⟩])
 (.seq (.region [⟨some 5, .mv (.t 0), none⟩,
 ⟨some 6, .mv (.t 1), none⟩,
 ⟨some 7, .call 225 [(.t 5), (.t 6)], none⟩,
 ⟨some 4, .mv (.t 7), none⟩])
 (.ret))⟩

/- codend/panel.reach$1 -/
def F194 : AFunc := ⟨32, [],
 .seq (.seq (.region [⟨some 7, .mv (.t 2), none⟩])
 (.cond (.t 7)
 (.region [⟨some 8, .load 1 false (.t 3), none⟩,
 ⟨some 9, .mv (.t 0), none⟩,
 ⟨some 10, .mv (.t 1), none⟩,
 ⟨some 11, .mv (.t 1), none⟩,
 ⟨some 12, .build [.int .i64 0, .int .i64 0] [(0, 1, (.t 10)), (1, 1, (.t 11))], none⟩,
 ⟨some 13, .indexAddr (.sl 2) (.t 8) (.t 9), none⟩,
 ⟨none, .store 2 (.t 13) (.t 12), none⟩])
 (.skip)))
 (.regionD [⟨⟨some 14, .load 1 false (.t 3), none⟩, false, []⟩,
 ⟨⟨some 15, .mv (.t 0), none⟩, false, []⟩,
 ⟨⟨some 16, .load 1 false (.t 3), none⟩, false, []⟩,
 ⟨⟨some 17, .mv (.t 0), none⟩, false, []⟩,
 ⟨⟨some 18, .indexAddr (.sl 2) (.t 16) (.t 17), none⟩, false, []⟩,
 ⟨⟨some 19, .indexAddr (.arr 2 1) (.t 18) (.c (.int .i64 0)), none⟩, false, []⟩,
 ⟨⟨some 20, .load 1 false (.t 19), none⟩, false, []⟩,
 ⟨⟨some 21, .mv (.t 1), none⟩, false, []⟩,
 ⟨⟨some 22, .min (.t 20) (.t 21), none⟩, false, []⟩,
 ⟨⟨some 23, .load 1 false (.t 3), none⟩, false, []⟩,
 ⟨⟨some 24, .mv (.t 0), none⟩, false, []⟩,
 ⟨⟨some 25, .indexAddr (.sl 2) (.t 23) (.t 24), none⟩, false, []⟩,
 ⟨⟨some 26, .indexAddr (.arr 2 1) (.t 25) (.c (.int .i64 1)), none⟩, false, []⟩,
 ⟨⟨some 27, .load 1 false (.t 26), none⟩, false, []⟩,
 ⟨⟨some 28, .mv (.t 1), none⟩, false, []⟩,
 ⟨⟨some 29, .max (.t 27) (.t 28), none⟩, false, []⟩,
 ⟨⟨some 30, .build [.int .i64 0, .int .i64 0] [(0, 1, (.t 22)), (1, 1, (.t 29))], none⟩, false, []⟩,
 ⟨⟨some 31, .indexAddr (.sl 2) (.t 14) (.t 15), none⟩, false, []⟩,
 ⟨⟨none, .store 2 (.t 31) (.t 30), none⟩, false, []⟩])⟩

/- codend/netting.merged[codend/api.Bar] -/
def F197 : AFunc := ⟨59, [.tmp 8],
 .seq (.region [⟨some 8, .mv (.c (.nilsl)), none⟩])
 (.seq (.region [⟨some 9, .mv (.c (.nilsl)), none⟩])
 (.seq (.block 0 (.loop (.seq (.seq (.region [⟨some 12, .mv (.t 0), none⟩,
 ⟨some 13, .len .sl (.t 12), none⟩,
 ⟨some 14, .mv (.t 1), none⟩,
 ⟨some 15, .len .sl (.t 14), none⟩,
 ⟨some 16, .bin .add .num (.t 13) (.t 15), none⟩,
 ⟨some 17, .bin .gtr .num (.t 16) (.c (.int .i64 0)), none⟩])
 (.cond (.t 17)
 (.skip)
 (.exit 0)))
 (.block 1 (.seq (.region [⟨some 10, .mv (.c (.int .i64 0)), none⟩])
 (.seq (.block 2 (.seq (.region [⟨some 27, .mv (.t 1), none⟩,
 ⟨some 28, .len .sl (.t 27), none⟩,
 ⟨some 29, .bin .eql .num (.t 28) (.c (.int .i64 0)), none⟩,
 ⟨some 26, .mv (.t 29), none⟩])
 (.cond (.t 26)
 (.region [⟨some 10, .mv (.c (.int .i64 (-1))), none⟩])
 (.seq (.region [⟨some 31, .mv (.t 0), none⟩,
 ⟨some 32, .len .sl (.t 31), none⟩,
 ⟨some 33, .bin .eql .num (.t 32) (.c (.int .i64 0)), none⟩,
 ⟨some 30, .mv (.t 33), none⟩])
 (.cond (.t 30)
 (.region [⟨some 10, .mv (.c (.int .i64 1)), none⟩])
 (.regionD [⟨⟨some 18, .mv (.t 2), none⟩, false, []⟩,
 ⟨⟨some 19, .mv (.t 0), none⟩, false, []⟩,
 ⟨⟨some 20, .indexAddr (.sl 3) (.t 19) (.c (.int .i64 0)), none⟩, false, []⟩,
 ⟨⟨some 21, .load 3 true (.t 20), none⟩, false, []⟩,
 ⟨⟨some 22, .mv (.t 1), none⟩, false, []⟩,
 ⟨⟨some 23, .indexAddr (.sl 3) (.t 22) (.c (.int .i64 0)), none⟩, false, []⟩,
 ⟨⟨some 24, .load 3 true (.t 23), none⟩, false, []⟩,
 ⟨⟨some 25, .dyn (.t 18) [(.t 21), (.t 24)], none⟩, false, []⟩,
 ⟨⟨some 10, .mv (.t 25), none⟩, false, []⟩]))))))
 (.seq (.region [⟨some 11, .alloc [.int .i64 0, .int .i64 0, .int .i64 0], none⟩])
 (.seq (.seq (.region [⟨some 34, .mv (.t 10), none⟩,
 ⟨some 35, .bin .leq .num (.t 34) (.c (.int .i64 0)), none⟩])
 (.cond (.t 35)
 (.regionD [⟨⟨some 36, .mv (.t 0), none⟩, false, []⟩,
 ⟨⟨some 37, .indexAddr (.sl 3) (.t 36) (.c (.int .i64 0)), none⟩, false, []⟩,
 ⟨⟨some 38, .load 3 true (.t 37), none⟩, false, []⟩,
 ⟨⟨some 39, .mv (.t 0), none⟩, false, []⟩,
 ⟨⟨some 40, .slice (.sl 3) (.t 39) (some (.c (.int .i64 1))) none none, none⟩, false, []⟩,
 ⟨⟨none, .store 3 (.t 11) (.t 38), none⟩, false, []⟩,
 ⟨⟨some 0, .mv (.t 40), none⟩, false, []⟩])
 (.skip)))
 (.seq (.seq (.region [⟨some 41, .mv (.t 10), none⟩,
 ⟨some 42, .bin .geq .num (.t 41) (.c (.int .i64 0)), none⟩])
 (.cond (.t 42)
 (.regionD [⟨⟨some 43, .mv (.t 1), none⟩, false, []⟩,
 ⟨⟨some 44, .indexAddr (.sl 3) (.t 43) (.c (.int .i64 0)), none⟩, false, []⟩,
 ⟨⟨some 45, .load 3 true (.t 44), none⟩, false, []⟩,
 ⟨⟨some 46, .mv (.t 1), none⟩, false, []⟩,
 ⟨⟨some 47, .slice (.sl 3) (.t 46) (some (.c (.int .i64 1))) none none, none⟩, false, []⟩,
 ⟨⟨none, .store 3 (.t 11) (.t 45), none⟩, false, []⟩,
 ⟨⟨some 1, .mv (.t 47), none⟩, false, []⟩])
 (.skip)))
 (.seq (.region [⟨some 48, .mv (.t 3), none⟩,
 ⟨some 49, .mv (.t 10), none⟩,
 ⟨some 50, .bin .leq .num (.t 49) (.c (.int .i64 0)), none⟩,
 ⟨some 51, .mv (.t 10), none⟩,
 ⟨some 52, .bin .geq .num (.t 51) (.c (.int .i64 0)), none⟩,
 ⟨some 53, .dyn (.t 48) [(.t 50), (.t 52)], none⟩])
 (.cond (.t 53)
 (.region [⟨some 54, .mv (.t 9), none⟩,
 ⟨some 55, .load 3 true (.t 11), none⟩,
 ⟨some 56, .buildSl 3 1 [.int .i64 0, .int .i64 0, .int .i64 0] [(0, 3, (.t 55))], none⟩,
 ⟨some 57, .append 3 24 none (.t 54) (.t 56), none⟩,
 ⟨some 9, .mv (.t 57), none⟩])
 (.skip))))))))))))
 (.seq (.region [⟨some 58, .mv (.t 9), none⟩,
 ⟨some 8, .mv (.t 58), none⟩])
 (.ret))))⟩

/- codend/netting.compare -/
def F198 : AFunc := ⟨22, [.tmp 4],
 .seq (.region [⟨some 2, .box (.t 0), none⟩,
 ⟨some 3, .box (.t 1), none⟩,
 ⟨some 4, .mv (.c (.int .i64 0)), none⟩])
 (.seq (.regionD [⟨⟨some 5, .fieldAddr 1 (.t 2), none⟩, false, []⟩,
 ⟨⟨some 6, .load 1 false (.t 5), none⟩, false, []⟩,
 ⟨⟨some 7, .fieldAddr 1 (.t 3), none⟩, false, []⟩,
 ⟨⟨some 8, .load 1 false (.t 7), none⟩, false, []⟩,
 ⟨⟨some 9, .call 207 [(.t 6), (.t 8)], none⟩, true, []⟩,
 ⟨⟨some 10, .fieldAddr 0 (.t 2), none⟩, false, []⟩,
 ⟨⟨some 11, .load 1 false (.t 10), none⟩, false, []⟩,
 ⟨⟨some 12, .fieldAddr 0 (.t 3), none⟩, false, []⟩,
 ⟨⟨some 13, .load 1 false (.t 12), none⟩, false, []⟩,
 ⟨⟨some 14, .call 207 [(.t 11), (.t 13)], none⟩, true, []⟩,
 ⟨⟨some 15, .fieldAddr 2 (.t 2), none⟩, false, []⟩,
 ⟨⟨some 16, .load 1 false (.t 15), none⟩, false, []⟩,
 ⟨⟨some 17, .fieldAddr 2 (.t 3), none⟩, false, []⟩,
 ⟨⟨some 18, .load 1 false (.t 17), none⟩, false, []⟩,
 ⟨⟨some 19, .call 207 [(.t 16), (.t 18)], none⟩, false, []⟩,
 ⟨⟨some 20, .buildSl 1 3 [.int .i64 0, .int .i64 0, .int .i64 0] [(0, 1, (.t 9)), (1, 1, (.t 14)), (2, 1, (.t 19))], none⟩, false, []⟩,
 ⟨⟨some 21, .call 206 [(.t 20)], none⟩, false, []⟩,
 ⟨⟨some 4, .mv (.t 21), none⟩, false, []⟩])
 (.ret))⟩

/- codend/panel.reversed[codend/panel.Edge] -/
def F199 : AFunc := ⟨9, [.tmp 2],
 .seq (.region [⟨some 2, .mv (.c (.nilsl)), none⟩])
 (.seq (.region [⟨some 4, .mv (.t 0), none⟩,
 ⟨some 5, .call 110 [(.t 4)], none⟩,
 ⟨some 3, .mv (.t 5), none⟩])
 (.seq (.region [⟨some 6, .mv (.t 3), none⟩,
 ⟨some 7, .call 226 [(.t 6)], none⟩])
 (.seq (.region [⟨some 8, .mv (.t 3), none⟩,
 ⟨some 2, .mv (.t 8), none⟩])
 (.ret))))⟩

/- codend/panel.reversed[byte] -/
def F200 : AFunc := ⟨9, [.tmp 2],
 .seq (.region [⟨some 2, .mv (.c (.nilsl)), none⟩])
 (.seq (.region [⟨some 4, .mv (.t 0), none⟩,
 ⟨some 5, .call 227 [(.t 4)], none⟩,
 ⟨some 3, .mv (.t 5), none⟩])
 (.seq (.region [⟨some 6, .mv (.t 3), none⟩,
 ⟨some 7, .call 228 [(.t 6)], none⟩])
 (.seq (.region [⟨some 8, .mv (.t 3), none⟩,
 ⟨some 2, .mv (.t 8), none⟩])
 (.ret))))⟩

/- codend/netting.CheckBar -/
def F201 : AFunc := ⟨28, [.tmp 2],
 .seq (.region [⟨some 1, .box (.t 0), none⟩,
 ⟨some 2, .mv (.c (.int .i64 0)), none⟩])
 (.seq (.seq (.regionD [⟨⟨some 4, .fieldAddr 0 (.t 1), none⟩, false, []⟩,
 ⟨⟨some 5, .load 1 false (.t 4), none⟩, false, []⟩,
 ⟨⟨some 6, .fieldAddr 1 (.t 1), none⟩, false, []⟩,
 ⟨⟨some 7, .load 1 false (.t 6), none⟩, false, []⟩,
 ⟨⟨some 8, .build [.int .i64 0, .int .i64 0] [(0, 1, (.t 5)), (1, 1, (.t 7))], none⟩, false, []⟩,
 ⟨⟨some 9, .call 152 [(.t 8)], none⟩, true, []⟩,
 ⟨⟨some 10, .fieldAddr 2 (.t 1), none⟩, false, []⟩,
 ⟨⟨some 11, .load 1 false (.t 10), none⟩, false, []⟩,
 ⟨⟨some 12, .bin .neq .num (.t 11) (.c (.int .i64 (-1))), none⟩, false, []⟩,
 ⟨⟨some 13, .mv (.t 12), none⟩, false, []⟩,
 ⟨⟨some 14, .fieldAddr 2 (.t 1), some (13, true)⟩, false, []⟩,
 ⟨⟨some 15, .load 1 false (.t 14), some (13, true)⟩, false, []⟩,
 ⟨⟨some 16, .bin .neq .num (.t 15) (.c (.int .i64 1)), some (13, true)⟩, false, []⟩,
 ⟨⟨some 17, .pick (.t 13) (.t 16) (.c (.bool false)), none⟩, false, []⟩,
 ⟨⟨some 18, .call 168 [(.t 17), (.c (.int .i64 13))], none⟩, false, []⟩,
 ⟨⟨some 19, .buildSl 1 2 [.int .i64 0, .int .i64 0] [(0, 1, (.t 9)), (1, 1, (.t 18))], none⟩, false, []⟩,
 ⟨⟨some 20, .call 150 [(.t 19)], none⟩, false, []⟩,
 ⟨⟨some 3, .mv (.t 20), none⟩, false, []⟩])
 (.seq (.region [⟨some 21, .mv (.t 3), none⟩,
 ⟨some 22, .bin .neq .num (.t 21) (.c (.int .i64 0)), none⟩])
 (.cond (.t 22)
 (.seq (.region [⟨some 23, .mv (.t 3), none⟩,
 ⟨some 2, .mv (.t 23), none⟩])
 (.ret))
 (.skip))))
 (.seq (.region [⟨some 24, .load 3 true (.t 1), none⟩,
 ⟨some 25, .call 202 [(.t 24)], none⟩,
 ⟨some 26, .index (.arr 2 2 true) (.t 25) (.c (.int .i64 1)), none⟩,
 ⟨some 27, .call 169 [(.t 26)], none⟩,
 ⟨some 2, .mv (.t 27), none⟩])
 (.ret)))⟩

/- codend/netting.ends -/
def F202 : AFunc := ⟨18, [.cell 2 4 true],
 .seq (.region [⟨some 1, .box (.t 0), none⟩,
 ⟨some 2, .alloc [.int .i64 0, .int .i64 0, .int .i64 0, .int .i64 0], none⟩])
 (.seq (.region [⟨some 3, .fieldAddr 0 (.t 1), none⟩,
 ⟨some 4, .load 1 false (.t 3), none⟩,
 ⟨some 5, .fieldAddr 1 (.t 1), none⟩,
 ⟨some 6, .load 1 false (.t 5), none⟩,
 ⟨some 7, .build [.int .i64 0, .int .i64 0] [(0, 1, (.t 4)), (1, 1, (.t 6))], none⟩,
 ⟨some 8, .fieldAddr 0 (.t 1), none⟩,
 ⟨some 9, .load 1 false (.t 8), none⟩,
 ⟨some 10, .fieldAddr 2 (.t 1), none⟩,
 ⟨some 11, .load 1 false (.t 10), none⟩,
 ⟨some 12, .bin .add .num (.t 9) (.t 11), none⟩,
 ⟨some 13, .fieldAddr 1 (.t 1), none⟩,
 ⟨some 14, .load 1 false (.t 13), none⟩,
 ⟨some 15, .bin .add .num (.t 14) (.c (.int .i64 1)), none⟩,
 ⟨some 16, .build [.int .i64 0, .int .i64 0] [(0, 1, (.t 12)), (1, 1, (.t 15))], none⟩,
 ⟨some 17, .build [.int .i64 0, .int .i64 0, .int .i64 0, .int .i64 0] [(0, 2, (.t 7)), (2, 2, (.t 16))], none⟩,
 ⟨none, .store 4 (.t 2) (.t 17), none⟩])
 (.ret))⟩

/- cmp.Or[int] -/
def F206 : AFunc := ⟨18, [.tmp 2],
 .seq (.region [⟨some 2, .mv (.c (.int .i64 0)), none⟩])
 (.seq (.region [⟨some 3, .mv (.c (.int .i64 0)), none⟩])
 (.seq (.seq (.region [⟨some 6, .mv (.t 0), none⟩,
 ⟨some 7, .len .sl (.t 6), none⟩,
 ⟨some 8, .mv (.c (.int .i64 0)), none⟩])
 (.block 0 (.loop (.seq (.region [⟨some 9, .bin .lss .num (.t 8) (.t 7), none⟩])
 (.seq (.cond (.t 9)
 (.skip)
 (.exit 0))
 (.seq (.block 1 (.seq (.region [⟨some 10, .indexAddr (.sl 1) (.t 6) (.t 8), none⟩,
 ⟨some 11, .load 1 false (.t 10), none⟩,
 ⟨some 5, .mv (.t 11), none⟩])
 (.seq (.region [⟨some 12, .mv (.t 5), none⟩,
 ⟨some 13, .mv (.t 3), none⟩,
 ⟨some 14, .bin .neq .num (.t 12) (.t 13), none⟩])
 (.cond (.t 14)
 (.seq (.region [⟨some 15, .mv (.t 5), none⟩,
 ⟨some 2, .mv (.t 15), none⟩])
 (.ret))
 (.skip)))))
 (.region [⟨some 16, .bin .add .num (.t 8) (.c (.int .i64 1)), none⟩,
 ⟨some 8, .mv (.t 16), none⟩])))))))
 (.seq (.region [⟨some 17, .mv (.t 3), none⟩,
 ⟨some 2, .mv (.t 17), none⟩])
 (.ret))))⟩

/- cmp.Compare[int] -/
def F207 : AFunc := ⟨20, [.tmp 4],
 .seq (.region [⟨some 4, .mv (.c (.int .i64 0)), none⟩])
 (.seq (.region [⟨some 7, .mv (.t 0), none⟩,
 ⟨some 8, .call 232 [(.t 7)], none⟩,
 ⟨some 5, .mv (.t 8), none⟩])
 (.seq (.region [⟨some 9, .mv (.t 1), none⟩,
 ⟨some 10, .call 232 [(.t 9)], none⟩,
 ⟨some 6, .mv (.t 10), none⟩])
 (.seq (.seq (.region [⟨some 11, .mv (.t 5), none⟩])
 (.cond (.t 11)
 (.seq (.seq (.region [⟨some 12, .mv (.t 6), none⟩])
 (.cond (.t 12)
 (.seq (.region [⟨some 4, .mv (.c (.int .i64 0)), none⟩])
 (.ret))
 (.skip)))
 (.seq (.region [⟨some 4, .mv (.c (.int .i64 (-1))), none⟩])
 (.ret)))
 (.skip)))
 (.seq (.seq (.region [⟨some 13, .mv (.t 6), none⟩])
 (.cond (.t 13)
 (.seq (.region [⟨some 4, .mv (.c (.int .i64 1)), none⟩])
 (.ret))
 (.skip)))
 (.seq (.seq (.region [⟨some 14, .mv (.t 0), none⟩,
 ⟨some 15, .mv (.t 1), none⟩,
 ⟨some 16, .bin .lss .num (.t 14) (.t 15), none⟩])
 (.cond (.t 16)
 (.seq (.region [⟨some 4, .mv (.c (.int .i64 (-1))), none⟩])
 (.ret))
 (.skip)))
 (.seq (.seq (.region [⟨some 17, .mv (.t 0), none⟩,
 ⟨some 18, .mv (.t 1), none⟩,
 ⟨some 19, .bin .gtr .num (.t 17) (.t 18), none⟩])
 (.cond (.t 19)
 (.seq (.region [⟨some 4, .mv (.c (.int .i64 1)), none⟩])
 (.ret))
 (.skip)))
 (.seq (.region [⟨some 4, .mv (.c (.int .i64 0)), none⟩])
 (.ret))))))))⟩

/- slices.Grow[[]codend/api.Knot,codend/api.Knot] -/
def F213 : AFunc := ⟨27, [.tmp 4],
 .seq (.region [⟨some 4, .mv (.c (.nilsl)), none⟩])
 (.seq (.seq (.region [⟨some 5, .mv (.t 1), none⟩,
 ⟨some 6, .bin .lss .num (.t 5) (.c (.int .i64 0)), none⟩])
 (.cond (.t 6)
 (.region [⟨some 7, .mkIface 9 (.c (.str [99, 97, 110, 110, 111, 116, 32, 98, 101, 32, 110, 101, 103, 97, 116, 105, 118, 101])), none⟩,
 ⟨none, .stuck, none⟩])
 (.skip)))
 (.seq (.seq (.region [⟨some 8, .mv (.t 1), none⟩,
 ⟨some 9, .mv (.t 0), none⟩,
 ⟨some 10, .cap (.t 9), none⟩,
 ⟨some 11, .mv (.t 0), none⟩,
 ⟨some 12, .len .sl (.t 11), none⟩,
 ⟨some 13, .bin .sub .num (.t 10) (.t 12), none⟩,
 ⟨some 14, .bin .sub .num (.t 8) (.t 13), none⟩,
 ⟨some 1, .mv (.t 14), none⟩])
 (.seq (.region [⟨some 15, .mv (.t 1), none⟩,
 ⟨some 16, .bin .gtr .num (.t 15) (.c (.int .i64 0)), none⟩])
 (.cond (.t 16)
 (.region [⟨some 17, .mv (.t 0), none⟩,
 ⟨some 18, .mv (.t 0), none⟩,
 ⟨some 19, .cap (.t 18), none⟩,
 ⟨some 20, .slice (.sl 2) (.t 17) none (some (.t 19)) none, none⟩,
 ⟨some 21, .mv (.t 1), none⟩,
 ⟨some 22, .append 2 16 (some [.int .i64 0, .int .i64 0]) (.t 20) (.t 21), none⟩,
 ⟨some 23, .mv (.t 0), none⟩,
 ⟨some 24, .len .sl (.t 23), none⟩,
 ⟨some 25, .slice (.sl 2) (.t 22) none (some (.t 24)) none, none⟩,
 ⟨some 0, .mv (.t 25), none⟩])
 (.skip))))
 (.seq (.region [⟨some 26, .mv (.t 0), none⟩,
 ⟨some 4, .mv (.t 26), none⟩])
 (.ret))))⟩

/- slices.AppendSeq[[]codend/api.Bar,codend/api.Bar] -/
def F214 : AFunc := ⟨13, [.tmp 4],
 .seq (.region [⟨some 2, .box (.t 0), none⟩,
 ⟨some 4, .mv (.c (.nilsl)), none⟩])
 (.seq (.seq (.region [⟨some 6, .mv (.t 1), none⟩])
 (.block 0 (.rangeFunc (.t 6) [7] (.region [⟨some 5, .alloc [.int .i64 0, .int .i64 0, .int .i64 0], none⟩,
 ⟨none, .store 3 (.t 5) (.t 7), none⟩])
 (.block 1 (.region [⟨some 8, .load 1 false (.t 2), none⟩,
 ⟨some 9, .load 3 true (.t 5), none⟩,
 ⟨some 10, .buildSl 3 1 [.int .i64 0, .int .i64 0, .int .i64 0] [(0, 3, (.t 9))], none⟩,
 ⟨some 11, .append 3 24 none (.t 8) (.t 10), none⟩,
 ⟨none, .store 1 (.t 2) (.t 11), none⟩])))))
 (.seq (.region [⟨some 12, .load 1 false (.t 2), none⟩,
 ⟨some 4, .mv (.t 12), none⟩])
 (.ret)))⟩

/- codend/netting.sheet$1 -/
def F215 : AFunc := ⟨64, [],
 .seq (.region [⟨some 10, .load 1 false (.t 1), none⟩,
 ⟨some 11, .mv (.c (.int .i64 0)), none⟩])
 (.block 0 (.loop (.seq (.region [⟨some 12, .bin .lss .num (.t 11) (.t 10), none⟩])
 (.seq (.cond (.t 12)
 (.skip)
 (.exit 0))
 (.seq (.block 1 (.seq (.region [⟨some 13, .mv (.t 11), none⟩,
 ⟨some 5, .mv (.t 13), none⟩])
 (.seq (.region [⟨some 14, .fieldAddr 0 (.t 2), none⟩,
 ⟨some 15, .load 1 false (.t 14), none⟩,
 ⟨some 16, .mv (.t 5), none⟩,
 ⟨some 17, .bin .rem .num (.t 16) (.c (.int .i64 2)), none⟩,
 ⟨some 18, .bin .add .num (.t 15) (.t 17), none⟩,
 ⟨some 6, .mv (.t 18), none⟩])
 (.block 2 (.loop (.seq (.seq (.region [⟨some 19, .mv (.t 6), none⟩,
 ⟨some 20, .fieldAddr 0 (.t 2), none⟩,
 ⟨some 21, .load 1 false (.t 20), none⟩,
 ⟨some 22, .load 1 false (.t 3), none⟩,
 ⟨some 23, .bin .mul .num (.c (.int .i64 2)) (.t 22), none⟩,
 ⟨some 24, .bin .add .num (.t 21) (.t 23), none⟩,
 ⟨some 25, .bin .leq .num (.t 19) (.t 24), none⟩])
 (.cond (.t 25)
 (.skip)
 (.exit 2)))
 (.seq (.block 3 (.seq (.region [⟨some 28, .build [.int .i64 0, .int .i64 0] [(0, 1, (.c (.int .i64 (-1)))), (1, 1, (.c (.int .i64 1)))], none⟩,
 ⟨some 29, .mv (.c (.int .i64 0)), none⟩])
 (.block 4 (.loop (.seq (.region [⟨some 30, .bin .lss .num (.t 29) (.c (.int .i64 2)), none⟩])
 (.seq (.cond (.t 30)
 (.skip)
 (.exit 4))
 (.seq (.block 5 (.seq (.region [⟨some 31, .index (.arr 2 1 false) (.t 28) (.t 29), none⟩,
 ⟨some 8, .mv (.t 31), none⟩])
 (.seq (.region [⟨some 32, .mv (.t 6), none⟩,
 ⟨some 33, .fieldAddr 1 (.t 2), none⟩,
 ⟨some 34, .load 1 false (.t 33), none⟩,
 ⟨some 35, .mv (.t 5), none⟩,
 ⟨some 36, .bin .add .num (.t 34) (.t 35), none⟩,
 ⟨some 37, .mv (.t 8), none⟩,
 ⟨some 38, .build [.int .i64 0, .int .i64 0, .int .i64 0] [(0, 1, (.t 32)), (1, 1, (.t 36)), (2, 1, (.t 37))], none⟩,
 ⟨some 9, .alloc [.int .i64 0, .int .i64 0, .int .i64 0], none⟩,
 ⟨none, .store 3 (.t 9) (.t 38), none⟩])
 (.seq (.region [⟨some 39, .mv (.t 6), none⟩,
 ⟨some 40, .mv (.t 8), none⟩,
 ⟨some 41, .bin .add .num (.t 39) (.t 40), none⟩,
 ⟨some 42, .fieldAddr 0 (.t 2), none⟩,
 ⟨some 43, .load 1 false (.t 42), none⟩,
 ⟨some 44, .bin .geq .num (.t 41) (.t 43), none⟩,
 ⟨some 45, .mv (.t 44), none⟩,
 ⟨some 46, .mv (.t 6), some (45, true)⟩,
 ⟨some 47, .mv (.t 8), some (45, true)⟩,
 ⟨some 48, .bin .add .num (.t 46) (.t 47), some (45, true)⟩,
 ⟨some 49, .fieldAddr 0 (.t 2), some (45, true)⟩,
 ⟨some 50, .load 1 false (.t 49), some (45, true)⟩,
 ⟨some 51, .load 1 false (.t 3), some (45, true)⟩,
 ⟨some 52, .bin .mul .num (.c (.int .i64 2)) (.t 51), some (45, true)⟩,
 ⟨some 53, .bin .add .num (.t 50) (.t 52), some (45, true)⟩,
 ⟨some 54, .bin .leq .num (.t 48) (.t 53), some (45, true)⟩,
 ⟨some 55, .pick (.t 45) (.t 54) (.c (.bool false)), none⟩,
 ⟨some 56, .mv (.t 55), none⟩,
 ⟨some 57, .mv (.t 0), some (56, true)⟩,
 ⟨some 58, .load 3 true (.t 9), some (56, true)⟩,
 ⟨some 59, .dyn (.t 57) [(.t 58)], some (56, true)⟩,
 ⟨some 60, .un .not (.t 59), some (56, true)⟩,
 ⟨some 61, .pick (.t 56) (.t 60) (.c (.bool false)), none⟩])
 (.cond (.t 61)
 (.ret)
 (.skip))))))
 (.region [⟨some 62, .bin .add .num (.t 29) (.c (.int .i64 1)), none⟩,
 ⟨some 29, .mv (.t 62), none⟩]))))))))
 (.region [⟨some 26, .mv (.t 6), none⟩,
 ⟨some 27, .bin .add .num (.t 26) (.c (.int .i64 2)), none⟩,
 ⟨some 6, .mv (.t 27), none⟩]))))))))
 (.region [⟨some 63, .bin .add .num (.t 11) (.c (.int .i64 1)), none⟩,
 ⟨some 11, .mv (.t 63), none⟩]))))))⟩

/- slices.ContainsFunc[[]codend/panel.Panel,codend/panel.Panel] -/
def F216 : AFunc := ⟨9, [.tmp 4],
 .seq (.region [⟨some 4, .mv (.c (.bool false)), none⟩])
 (.seq (.region [⟨some 5, .mv (.t 0), none⟩,
 ⟨some 6, .mv (.t 1), none⟩,
 ⟨some 7, .call 234 [(.t 5), (.t 6)], none⟩,
 ⟨some 8, .bin .geq .num (.t 7) (.c (.int .i64 0)), none⟩,
 ⟨some 4, .mv (.t 8), none⟩])
 (.ret))⟩

/- codend/panel.again$1 -/
def F217 : AFunc := ⟨9, [.tmp 3],
 .seq (.region [⟨some 2, .box (.t 0), none⟩,
 ⟨some 3, .mv (.c (.bool false)), none⟩])
 (.seq (.region [⟨some 4, .fieldAddr 0 (.t 2), none⟩,
 ⟨some 5, .load 1 false (.t 4), none⟩,
 ⟨some 6, .fieldAddr 0 (.t 1), none⟩,
 ⟨some 7, .load 1 false (.t 6), none⟩,
 ⟨some 8, .bin .eql .strs (.t 5) (.t 7), none⟩,
 ⟨some 3, .mv (.t 8), none⟩])
 (.ret))⟩

/- internal/strconv.FormatInt -/
def F219 : AFunc := ⟨54, [.tmp 4],
 .seq (.region [⟨some 4, .mv (.c (.str [])), none⟩])
 (.seq (.seq (.region [⟨some 10, .mv (.t 1), none⟩,
 ⟨some 11, .bin .eql .num (.t 10) (.c (.int .i64 10)), none⟩])
 (.cond (.t 11)
 (.seq (.seq (.region [⟨some 12, .mv (.t 0), none⟩,
 ⟨some 13, .bin .leq .num (.c (.int .i64 0)) (.t 12), none⟩,
 ⟨some 14, .mv (.t 13), none⟩,
 ⟨some 15, .mv (.t 0), some (14, true)⟩,
 ⟨some 16, .bin .lss .num (.t 15) (.c (.int .i64 100)), some (14, true)⟩,
 ⟨some 17, .pick (.t 14) (.t 16) (.c (.bool false)), none⟩])
 (.cond (.t 17)
 (.seq (.region [⟨some 18, .mv (.t 0), none⟩,
 ⟨some 19, .call 235 [(.t 18)], none⟩,
 ⟨some 4, .mv (.t 19), none⟩])
 (.ret))
 (.skip)))
 (.seq (.region [⟨some 5, .alloc [.int .u8 0, .int .u8 0, .int .u8 0, .int .u8 0, .int .u8 0, .int .u8 0, .int .u8 0, .int .u8 0, .int .u8 0, .int .u8 0, .int .u8 0, .int .u8 0, .int .u8 0, .int .u8 0, .int .u8 0, .int .u8 0, .int .u8 0, .int .u8 0, .int .u8 0, .int .u8 0, .int .u8 0, .int .u8 0, .int .u8 0, .int .u8 0], none⟩])
 (.seq (.region [⟨some 20, .mv (.t 0), none⟩,
 ⟨some 21, .conv (.int .u64) (.t 20), none⟩,
 ⟨some 6, .mv (.t 21), none⟩])
 (.seq (.seq (.region [⟨some 22, .mv (.t 0), none⟩,
 ⟨some 23, .bin .lss .num (.t 22) (.c (.int .i64 0)), none⟩])
 (.cond (.t 23)
 (.region [⟨some 24, .mv (.t 6), none⟩,
 ⟨some 25, .un .neg (.t 24), none⟩,
 ⟨some 6, .mv (.t 25), none⟩])
 (.skip)))
 (.seq (.region [⟨some 26, .mv (.t 6), none⟩,
 ⟨some 27, .call 236 [(.t 26)], none⟩,
 ⟨some 7, .mv (.t 27), none⟩])
 (.seq (.region [⟨some 28, .mv (.t 7), none⟩,
 ⟨some 29, .bin .add .num (.c (.int .i64 1)) (.t 28), none⟩,
 ⟨some 30, .slice (.arr 24 1) (.t 5) (some (.c (.int .i64 1))) (some (.t 29)) none, none⟩,
 ⟨some 31, .mv (.t 6), none⟩,
 ⟨some 32, .call 237 [(.t 30), (.t 31)], none⟩])
 (.seq (.seq (.region [⟨some 33, .mv (.t 0), none⟩,
 ⟨some 34, .bin .lss .num (.t 33) (.c (.int .i64 0)), none⟩])
 (.cond (.t 34)
 (.seq (.region [⟨some 35, .indexAddr (.arr 24 1) (.t 5) (.c (.int .i64 0)), none⟩,
 ⟨none, .store 1 (.t 35) (.c (.int .u8 45)), none⟩])
 (.seq (.region [⟨some 36, .mv (.t 7), none⟩,
 ⟨some 37, .bin .add .num (.c (.int .i64 1)) (.t 36), none⟩,
 ⟨some 38, .slice (.arr 24 1) (.t 5) none (some (.t 37)) none, none⟩,
 ⟨some 39, .conv .bytesStr (.t 38), none⟩,
 ⟨some 4, .mv (.t 39), none⟩])
 (.ret)))
 (.skip)))
 (.seq (.region [⟨some 40, .mv (.t 7), none⟩,
 ⟨some 41, .bin .add .num (.c (.int .i64 1)) (.t 40), none⟩,
 ⟨some 42, .slice (.arr 24 1) (.t 5) (some (.c (.int .i64 1))) (some (.t 41)) none, none⟩,
 ⟨some 43, .conv .bytesStr (.t 42), none⟩,
 ⟨some 4, .mv (.t 43), none⟩])
 (.ret)))))))))
 (.skip)))
 (.seq (.region [⟨some 45, .mv (.t 0), none⟩,
 ⟨some 46, .conv (.int .u64) (.t 45), none⟩,
 ⟨some 47, .mv (.t 1), none⟩,
 ⟨some 48, .mv (.t 0), none⟩,
 ⟨some 49, .bin .lss .num (.t 48) (.c (.int .i64 0)), none⟩,
 ⟨some 50, .call 238 [(.c (.nilsl)), (.t 46), (.t 47), (.t 49), (.c (.bool false))], none⟩,
 ⟨some 44, .mv (.t 50), none⟩,
 ⟨some 51, .extract 0 (.t 44), none⟩,
 ⟨some 52, .extract 1 (.t 44), none⟩,
 ⟨some 8, .mv (.t 51), none⟩,
 ⟨some 9, .mv (.t 52), none⟩])
 (.seq (.region [⟨some 53, .mv (.t 9), none⟩,
 ⟨some 4, .mv (.t 53), none⟩])
 (.ret))))⟩

/- internal/stringslite.CutSuffix -/
def F221 : AFunc := ⟨18, [.tmp 4, .tmp 5],
 .seq (.region [⟨some 4, .mv (.c (.str [])), none⟩,
 ⟨some 5, .mv (.c (.bool false)), none⟩])
 (.seq (.seq (.region [⟨some 6, .mv (.t 0), none⟩,
 ⟨some 7, .mv (.t 1), none⟩,
 ⟨some 8, .call 240 [(.t 6), (.t 7)], none⟩,
 ⟨some 9, .un .not (.t 8), none⟩])
 (.cond (.t 9)
 (.seq (.region [⟨some 10, .mv (.t 0), none⟩,
 ⟨some 4, .mv (.t 10), none⟩,
 ⟨some 5, .mv (.c (.bool false)), none⟩])
 (.ret))
 (.skip)))
 (.seq (.region [⟨some 11, .mv (.t 0), none⟩,
 ⟨some 12, .mv (.t 0), none⟩,
 ⟨some 13, .len .str (.t 12), none⟩,
 ⟨some 14, .mv (.t 1), none⟩,
 ⟨some 15, .len .str (.t 14), none⟩,
 ⟨some 16, .bin .sub .num (.t 13) (.t 15), none⟩,
 ⟨some 17, .slice .str (.t 11) none (some (.t 16)) none, none⟩,
 ⟨some 4, .mv (.t 17), none⟩,
 ⟨some 5, .mv (.c (.bool true)), none⟩])
 (.ret)))⟩

/- strings.genSplit -/
def F222 : AFunc := ⟨66, [.tmp 8],
 .seq (.region [⟨some 8, .mv (.c (.nilsl)), none⟩])
 (.seq (.seq (.region [⟨some 12, .mv (.t 3), none⟩,
 ⟨some 13, .bin .eql .num (.t 12) (.c (.int .i64 0)), none⟩])
 (.cond (.t 13)
 (.seq (.region [⟨some 8, .mv (.c (.nilsl)), none⟩])
 (.ret))
 (.skip)))
 (.seq (.seq (.region [⟨some 14, .mv (.t 1), none⟩,
 ⟨some 15, .bin .eql .strs (.t 14) (.c (.str [])), none⟩])
 (.cond (.t 15)
 (.seq (.region [⟨some 16, .mv (.t 0), none⟩,
 ⟨some 17, .mv (.t 3), none⟩,
 ⟨some 18, .call 241 [(.t 16), (.t 17)], none⟩,
 ⟨some 8, .mv (.t 18), none⟩])
 (.ret))
 (.skip)))
 (.seq (.seq (.region [⟨some 19, .mv (.t 3), none⟩,
 ⟨some 20, .bin .lss .num (.t 19) (.c (.int .i64 0)), none⟩])
 (.cond (.t 20)
 (.region [⟨some 21, .mv (.t 0), none⟩,
 ⟨some 22, .mv (.t 1), none⟩,
 ⟨some 23, .call 242 [(.t 21), (.t 22)], none⟩,
 ⟨some 24, .bin .add .num (.t 23) (.c (.int .i64 1)), none⟩,
 ⟨some 3, .mv (.t 24), none⟩])
 (.skip)))
 (.seq (.region [⟨some 25, .mv (.t 3), none⟩,
 ⟨some 26, .mv (.t 0), none⟩,
 ⟨some 27, .len .str (.t 26), none⟩,
 ⟨some 28, .bin .add .num (.t 27) (.c (.int .i64 1)), none⟩,
 ⟨some 29, .min (.t 25) (.t 28), none⟩,
 ⟨some 3, .mv (.t 29), none⟩])
 (.seq (.region [⟨some 30, .mv (.t 3), none⟩,
 ⟨some 31, .mkSl 1 16 [.str []] (.t 30) (.t 30), none⟩,
 ⟨some 9, .mv (.t 31), none⟩])
 (.seq (.region [⟨some 32, .mv (.t 3), none⟩,
 ⟨some 33, .bin .sub .num (.t 32) (.c (.int .i64 1)), none⟩,
 ⟨some 3, .mv (.t 33), none⟩])
 (.seq (.region [⟨some 10, .mv (.c (.int .i64 0)), none⟩])
 (.seq (.block 0 (.loop (.seq (.seq (.region [⟨some 34, .mv (.t 10), none⟩,
 ⟨some 35, .mv (.t 3), none⟩,
 ⟨some 36, .bin .lss .num (.t 34) (.t 35), none⟩])
 (.cond (.t 36)
 (.skip)
 (.exit 0)))
 (.block 1 (.seq (.region [⟨some 37, .mv (.t 0), none⟩,
 ⟨some 38, .mv (.t 1), none⟩,
 ⟨some 39, .call 243 [(.t 37), (.t 38)], none⟩,
 ⟨some 11, .mv (.t 39), none⟩])
 (.seq (.seq (.region [⟨some 40, .mv (.t 11), none⟩,
 ⟨some 41, .bin .lss .num (.t 40) (.c (.int .i64 0)), none⟩])
 (.cond (.t 41)
 (.exit 0)
 (.skip)))
 (.seq (.region [⟨some 42, .mv (.t 9), none⟩,
 ⟨some 43, .mv (.t 10), none⟩,
 ⟨some 44, .mv (.t 0), none⟩,
 ⟨some 45, .mv (.t 11), none⟩,
 ⟨some 46, .mv (.t 2), none⟩,
 ⟨some 47, .bin .add .num (.t 45) (.t 46), none⟩,
 ⟨some 48, .slice .str (.t 44) none (some (.t 47)) none, none⟩,
 ⟨some 49, .indexAddr (.sl 1) (.t 42) (.t 43), none⟩,
 ⟨none, .store 1 (.t 49) (.t 48), none⟩])
 (.seq (.region [⟨some 50, .mv (.t 0), none⟩,
 ⟨some 51, .mv (.t 11), none⟩,
 ⟨some 52, .mv (.t 1), none⟩,
 ⟨some 53, .len .str (.t 52), none⟩,
 ⟨some 54, .bin .add .num (.t 51) (.t 53), none⟩,
 ⟨some 55, .slice .str (.t 50) (some (.t 54)) none none, none⟩,
 ⟨some 0, .mv (.t 55), none⟩])
 (.region [⟨some 56, .mv (.t 10), none⟩,
 ⟨some 57, .bin .add .num (.t 56) (.c (.int .i64 1)), none⟩,
 ⟨some 10, .mv (.t 57), none⟩])))))))))
 (.seq (.region [⟨some 58, .mv (.t 9), none⟩,
 ⟨some 59, .mv (.t 10), none⟩,
 ⟨some 60, .mv (.t 0), none⟩,
 ⟨some 61, .indexAddr (.sl 1) (.t 58) (.t 59), none⟩,
 ⟨none, .store 1 (.t 61) (.t 60), none⟩])
 (.seq (.region [⟨some 62, .mv (.t 9), none⟩,
 ⟨some 63, .mv (.t 10), none⟩,
 ⟨some 64, .bin .add .num (.t 63) (.c (.int .i64 1)), none⟩,
 ⟨some 65, .slice (.sl 1) (.t 62) none (some (.t 64)) none, none⟩,
 ⟨some 8, .mv (.t 65), none⟩])
 (.ret)))))))))))⟩

/- slices.Index[[]string,string] -/
def F223 : AFunc := ⟨19, [.tmp 4],
 .seq (.region [⟨some 4, .mv (.c (.int .i64 0)), none⟩])
 (.seq (.seq (.region [⟨some 6, .mv (.t 0), none⟩,
 ⟨some 7, .len .sl (.t 6), none⟩,
 ⟨some 8, .mv (.c (.int .i64 0)), none⟩])
 (.block 0 (.loop (.seq (.region [⟨some 9, .bin .lss .num (.t 8) (.t 7), none⟩])
 (.seq (.cond (.t 9)
 (.skip)
 (.exit 0))
 (.seq (.block 1 (.seq (.region [⟨some 10, .mv (.t 8), none⟩,
 ⟨some 5, .mv (.t 10), none⟩])
 (.seq (.region [⟨some 11, .mv (.t 1), none⟩,
 ⟨some 12, .mv (.t 0), none⟩,
 ⟨some 13, .mv (.t 5), none⟩,
 ⟨some 14, .indexAddr (.sl 1) (.t 12) (.t 13), none⟩,
 ⟨some 15, .load 1 false (.t 14), none⟩,
 ⟨some 16, .bin .eql .strs (.t 11) (.t 15), none⟩])
 (.cond (.t 16)
 (.seq (.region [⟨some 17, .mv (.t 5), none⟩,
 ⟨some 4, .mv (.t 17), none⟩])
 (.ret))
 (.skip)))))
 (.region [⟨some 18, .bin .add .num (.t 8) (.c (.int .i64 1)), none⟩,
 ⟨some 8, .mv (.t 18), none⟩])))))))
 (.seq (.region [⟨some 4, .mv (.c (.int .i64 (-1))), none⟩])
 (.ret)))⟩

/- codend/panel.decimal -/
def F224 : AFunc := ⟨29, [.tmp 2, .tmp 3],
 .seq (.region [⟨some 2, .mv (.c (.int .i64 0)), none⟩,
 ⟨some 3, .mv (.c (.bool false)), none⟩])
 (.seq (.region [⟨some 7, .mv (.t 0), none⟩,
 ⟨some 8, .call 244 [(.t 7)], none⟩,
 ⟨some 6, .mv (.t 8), none⟩,
 ⟨some 9, .extract 0 (.t 6), none⟩,
 ⟨some 10, .extract 1 (.t 6), none⟩,
 ⟨some 4, .mv (.t 9), none⟩,
 ⟨some 5, .mv (.t 10), none⟩])
 (.seq (.region [⟨some 11, .mv (.t 4), none⟩,
 ⟨some 12, .mv (.t 5), none⟩,
 ⟨some 13, .bin .eql (.nilc .ifc) (.t 12) (.c (.niliface)), none⟩,
 ⟨some 14, .mv (.t 13), none⟩,
 ⟨some 15, .mv (.t 0), some (14, true)⟩,
 ⟨some 16, .len .str (.t 15), some (14, true)⟩,
 ⟨some 17, .bin .leq .num (.t 16) (.c (.int .i64 9)), some (14, true)⟩,
 ⟨some 18, .pick (.t 14) (.t 17) (.c (.bool false)), none⟩,
 ⟨some 19, .mv (.t 18), none⟩,
 ⟨some 20, .mv (.t 4), some (19, true)⟩,
 ⟨some 21, .bin .geq .num (.t 20) (.c (.int .i64 0)), some (19, true)⟩,
 ⟨some 22, .pick (.t 19) (.t 21) (.c (.bool false)), none⟩,
 ⟨some 23, .mv (.t 22), none⟩,
 ⟨some 24, .mv (.t 4), some (23, true)⟩,
 ⟨some 25, .call 122 [(.t 24)], some (23, true)⟩,
 ⟨some 26, .mv (.t 0), some (23, true)⟩,
 ⟨some 27, .bin .eql .strs (.t 25) (.t 26), some (23, true)⟩,
 ⟨some 28, .pick (.t 23) (.t 27) (.c (.bool false)), none⟩,
 ⟨some 2, .mv (.t 11), none⟩,
 ⟨some 3, .mv (.t 28), none⟩])
 (.ret)))⟩

/- internal/stringslite.IndexByte -/
def F225 : AFunc := ⟨8, [.tmp 4],
 .seq (.region [⟨some 4, .mv (.c (.int .i64 0)), none⟩])
 (.seq (.region [⟨some 5, .mv (.t 0), none⟩,
 ⟨some 6, .mv (.t 1), none⟩,
 ⟨some 7, .call 245 [(.t 5), (.t 6)], none⟩,
 ⟨some 4, .mv (.t 7), none⟩])
 (.ret))⟩

/- slices.Reverse[[]codend/panel.Edge,codend/panel.Edge] -/
def F226 : AFunc := ⟨28, [],
 .seq (.region [⟨some 4, .mv (.t 0), none⟩,
 ⟨some 5, .len .sl (.t 4), none⟩,
 ⟨some 6, .bin .sub .num (.t 5) (.c (.int .i64 1)), none⟩,
 ⟨some 2, .mv (.c (.int .i64 0)), none⟩,
 ⟨some 3, .mv (.t 6), none⟩])
 (.block 0 (.loop (.seq (.seq (.region [⟨some 7, .mv (.t 2), none⟩,
 ⟨some 8, .mv (.t 3), none⟩,
 ⟨some 9, .bin .lss .num (.t 7) (.t 8), none⟩])
 (.cond (.t 9)
 (.skip)
 (.exit 0)))
 (.seq (.block 1 (.regionD [⟨⟨some 14, .mv (.t 0), none⟩, false, []⟩,
 ⟨⟨some 15, .mv (.t 2), none⟩, false, []⟩,
 ⟨⟨some 16, .mv (.t 0), none⟩, false, []⟩,
 ⟨⟨some 17, .mv (.t 3), none⟩, false, []⟩,
 ⟨⟨some 18, .mv (.t 0), none⟩, false, []⟩,
 ⟨⟨some 19, .mv (.t 3), none⟩, false, []⟩,
 ⟨⟨some 20, .indexAddr (.sl 3) (.t 18) (.t 19), none⟩, false, []⟩,
 ⟨⟨some 21, .load 3 true (.t 20), none⟩, false, []⟩,
 ⟨⟨some 22, .mv (.t 0), none⟩, false, []⟩,
 ⟨⟨some 23, .mv (.t 2), none⟩, false, []⟩,
 ⟨⟨some 24, .indexAddr (.sl 3) (.t 22) (.t 23), none⟩, false, []⟩,
 ⟨⟨some 25, .load 3 true (.t 24), none⟩, false, []⟩,
 ⟨⟨some 26, .indexAddr (.sl 3) (.t 14) (.t 15), none⟩, false, []⟩,
 ⟨⟨none, .store 3 (.t 26) (.t 21), none⟩, false, []⟩,
 ⟨⟨some 27, .indexAddr (.sl 3) (.t 16) (.t 17), none⟩, false, []⟩,
 ⟨⟨none, .store 3 (.t 27) (.t 25), none⟩, false, []⟩]))
 (.region [⟨some 10, .mv (.t 2), none⟩,
 ⟨some 11, .bin .add .num (.t 10) (.c (.int .i64 1)), none⟩,
 ⟨some 12, .mv (.t 3), none⟩,
 ⟨some 13, .bin .sub .num (.t 12) (.c (.int .i64 1)), none⟩,
 ⟨some 2, .mv (.t 11), none⟩,
 ⟨some 3, .mv (.t 13), none⟩])))))⟩

/- slices.Clone[[]byte,byte] -/
def F227 : AFunc := ⟨8, [.tmp 2],
 .seq (.region [⟨some 2, .mv (.c (.nilsl)), none⟩])
 (.seq (.seq (.region [⟨some 3, .mv (.t 0), none⟩,
 ⟨some 4, .bin .eql (.nilc .sl) (.t 3) (.c (.nilsl)), none⟩])
 (.cond (.t 4)
 (.seq (.region [⟨some 2, .mv (.c (.nilsl)), none⟩])
 (.ret))
 (.skip)))
 (.seq (.region [⟨some 5, .buildSl 1 0 [] [], none⟩,
 ⟨some 6, .mv (.t 0), none⟩,
 ⟨some 7, .append 1 1 none (.t 5) (.t 6), none⟩,
 ⟨some 2, .mv (.t 7), none⟩])
 (.ret)))⟩

/- slices.Reverse[[]byte,byte] -/
def F228 : AFunc := ⟨28, [],
 .seq (.region [⟨some 4, .mv (.t 0), none⟩,
 ⟨some 5, .len .sl (.t 4), none⟩,
 ⟨some 6, .bin .sub .num (.t 5) (.c (.int .i64 1)), none⟩,
 ⟨some 2, .mv (.c (.int .i64 0)), none⟩,
 ⟨some 3, .mv (.t 6), none⟩])
 (.block 0 (.loop (.seq (.seq (.region [⟨some 7, .mv (.t 2), none⟩,
 ⟨some 8, .mv (.t 3), none⟩,
 ⟨some 9, .bin .lss .num (.t 7) (.t 8), none⟩])
 (.cond (.t 9)
 (.skip)
 (.exit 0)))
 (.seq (.block 1 (.regionD [⟨⟨some 14, .mv (.t 0), none⟩, false, []⟩,
 ⟨⟨some 15, .mv (.t 2), none⟩, false, []⟩,
 ⟨⟨some 16, .mv (.t 0), none⟩, false, []⟩,
 ⟨⟨some 17, .mv (.t 3), none⟩, false, []⟩,
 ⟨⟨some 18, .mv (.t 0), none⟩, false, []⟩,
 ⟨⟨some 19, .mv (.t 3), none⟩, false, []⟩,
 ⟨⟨some 20, .indexAddr (.sl 1) (.t 18) (.t 19), none⟩, false, []⟩,
 ⟨⟨some 21, .load 1 false (.t 20), none⟩, false, []⟩,
 ⟨⟨some 22, .mv (.t 0), none⟩, false, []⟩,
 ⟨⟨some 23, .mv (.t 2), none⟩, false, []⟩,
 ⟨⟨some 24, .indexAddr (.sl 1) (.t 22) (.t 23), none⟩, false, []⟩,
 ⟨⟨some 25, .load 1 false (.t 24), none⟩, false, []⟩,
 ⟨⟨some 26, .indexAddr (.sl 1) (.t 14) (.t 15), none⟩, false, []⟩,
 ⟨⟨none, .store 1 (.t 26) (.t 21), none⟩, false, []⟩,
 ⟨⟨some 27, .indexAddr (.sl 1) (.t 16) (.t 17), none⟩, false, []⟩,
 ⟨⟨none, .store 1 (.t 27) (.t 25), none⟩, false, []⟩]))
 (.region [⟨some 10, .mv (.t 2), none⟩,
 ⟨some 11, .bin .add .num (.t 10) (.c (.int .i64 1)), none⟩,
 ⟨some 12, .mv (.t 3), none⟩,
 ⟨some 13, .bin .sub .num (.t 12) (.c (.int .i64 1)), none⟩,
 ⟨some 2, .mv (.t 11), none⟩,
 ⟨some 3, .mv (.t 13), none⟩])))))⟩

/- cmp.isNaN[int] -/
def F232 : AFunc := ⟨6, [.tmp 2],
 .seq (.region [⟨some 2, .mv (.c (.bool false)), none⟩])
 (.seq (.region [⟨some 3, .mv (.t 0), none⟩,
 ⟨some 4, .mv (.t 0), none⟩,
 ⟨some 5, .bin .neq .num (.t 3) (.t 4), none⟩,
 ⟨some 2, .mv (.t 5), none⟩])
 (.ret))⟩

/- slices.IndexFunc[[]codend/panel.Panel,codend/panel.Panel] -/
def F234 : AFunc := ⟨19, [.tmp 4],
 .seq (.region [⟨some 4, .mv (.c (.int .i64 0)), none⟩])
 (.seq (.seq (.region [⟨some 6, .mv (.t 0), none⟩,
 ⟨some 7, .len .sl (.t 6), none⟩,
 ⟨some 8, .mv (.c (.int .i64 0)), none⟩])
 (.block 0 (.loop (.seq (.region [⟨some 9, .bin .lss .num (.t 8) (.t 7), none⟩])
 (.seq (.cond (.t 9)
 (.skip)
 (.exit 0))
 (.seq (.block 1 (.seq (.region [⟨some 10, .mv (.t 8), none⟩,
 ⟨some 5, .mv (.t 10), none⟩])
 (.seq (.region [⟨some 11, .mv (.t 1), none⟩,
 ⟨some 12, .mv (.t 0), none⟩,
 ⟨some 13, .mv (.t 5), none⟩,
 ⟨some 14, .indexAddr (.sl 4) (.t 12) (.t 13), none⟩,
 ⟨some 15, .load 4 true (.t 14), none⟩,
 ⟨some 16, .dyn (.t 11) [(.t 15)], none⟩])
 (.cond (.t 16)
 (.seq (.region [⟨some 17, .mv (.t 5), none⟩,
 ⟨some 4, .mv (.t 17), none⟩])
 (.ret))
 (.skip)))))
 (.region [⟨some 18, .bin .add .num (.t 8) (.c (.int .i64 1)), none⟩,
 ⟨some 8, .mv (.t 18), none⟩])))))))
 (.seq (.region [⟨some 4, .mv (.c (.int .i64 (-1))), none⟩])
 (.ret)))⟩

/- internal/strconv.small -/
def F235 : AFunc := ⟨15, [.tmp 2],
 .seq (.region [⟨some 2, .mv (.c (.str [])), none⟩])
 (.seq (.seq (.region [⟨some 3, .mv (.t 0), none⟩,
 ⟨some 4, .bin .lss .num (.t 3) (.c (.int .i64 10)), none⟩])
 (.cond (.t 4)
 (.seq (.region [⟨some 5, .mv (.t 0), none⟩,
 ⟨some 6, .mv (.t 0), none⟩,
 ⟨some 7, .bin .add .num (.t 6) (.c (.int .i64 1)), none⟩,
 ⟨some 8, .slice .str (.c (.str [48, 49, 50, 51, 52, 53, 54, 55, 56, 57, 97, 98, 99, 100, 101, 102, 103, 104, 105, 106, 107, 108, 109, 110, 111, 112, 113, 114, 115, 116, 117, 118, 119, 120, 121, 122])) (some (.t 5)) (some (.t 7)) none, none⟩,
 ⟨some 2, .mv (.t 8), none⟩])
 (.ret))
 (.skip)))
 (.seq (.region [⟨some 9, .mv (.t 0), none⟩,
 ⟨some 10, .bin .mul .num (.t 9) (.c (.int .i64 2)), none⟩,
 ⟨some 11, .mv (.t 0), none⟩,
 ⟨some 12, .bin .mul .num (.t 11) (.c (.int .i64 2)), none⟩,
 ⟨some 13, .bin .add .num (.t 12) (.c (.int .i64 2)), none⟩,
 ⟨some 14, .slice .str (.c (.str [48, 48, 48, 49, 48, 50, 48, 51, 48, 52, 48, 53, 48, 54, 48, 55, 48, 56, 48, 57, 49, 48, 49, 49, 49, 50, 49, 51, 49, 52, 49, 53, 49, 54, 49, 55, 49, 56, 49, 57, 50, 48, 50, 49, 50, 50, 50, 51, 50, 52, 50, 53, 50, 54, 50, 55, 50, 56, 50, 57, 51, 48, 51, 49, 51, 50, 51, 51, 51, 52, 51, 53, 51, 54, 51, 55, 51, 56, 51, 57, 52, 48, 52, 49, 52, 50, 52, 51, 52, 52, 52, 53, 52, 54, 52, 55, 52, 56, 52, 57, 53, 48, 53, 49, 53, 50, 53, 51, 53, 52, 53, 53, 53, 54, 53, 55, 53, 56, 53, 57, 54, 48, 54, 49, 54, 50, 54, 51, 54, 52, 54, 53, 54, 54, 54, 55, 54, 56, 54, 57, 55, 48, 55, 49, 55, 50, 55, 51, 55, 52, 55, 53, 55, 54, 55, 55, 55, 56, 55, 57, 56, 48, 56, 49, 56, 50, 56, 51, 56, 52, 56, 53, 56, 54, 56, 55, 56, 56, 56, 57, 57, 48, 57, 49, 57, 50, 57, 51, 57, 52, 57, 53, 57, 54, 57, 55, 57, 56, 57, 57])) (some (.t 10)) (some (.t 13)) none, none⟩,
 ⟨some 2, .mv (.t 14), none⟩])
 (.ret)))⟩

/- internal/strconv.numDigits -/
def F236 : AFunc := ⟨15, [.tmp 2],
 .seq (.region [⟨some 2, .mv (.c (.int .i64 0)), none⟩])
 (.seq (.region [⟨some 4, .mv (.t 0), none⟩,
 ⟨some 5, .call 255 [(.t 4)], none⟩,
 ⟨some 6, .call 264 [(.t 5)], none⟩,
 ⟨some 3, .mv (.t 6), none⟩])
 (.seq (.region [⟨some 7, .mv (.t 3), none⟩,
 ⟨some 8, .mv (.t 0), none⟩,
 ⟨some 9, .mv (.t 3), none⟩,
 ⟨some 10, .indexAddr (.arr 20 1) (.g 0) (.t 9), none⟩,
 ⟨some 11, .load 1 false (.t 10), none⟩,
 ⟨some 12, .bin .geq .num (.t 8) (.t 11), none⟩,
 ⟨some 13, .call 265 [(.t 12)], none⟩,
 ⟨some 14, .bin .add .num (.t 7) (.t 13), none⟩,
 ⟨some 2, .mv (.t 14), none⟩])
 (.ret)))⟩

/- internal/strconv.formatBase10 -/
def F237 : AFunc := ⟨167, [],
 .seq (.region [⟨some 17, .mv (.t 0), none⟩,
 ⟨some 18, .len .sl (.t 17), none⟩,
 ⟨some 4, .mv (.t 18), none⟩])
 (.seq (.block 0 (.loop (.seq (.seq (.region [⟨some 19, .mv (.t 4), none⟩,
 ⟨some 20, .bin .geq .num (.t 19) (.c (.int .i64 8)), none⟩])
 (.cond (.t 20)
 (.skip)
 (.exit 0)))
 (.block 1 (.seq (.region [⟨some 21, .mv (.t 1), none⟩,
 ⟨some 22, .bin .rem .num (.t 21) (.c (.int .u64 100000000)), none⟩,
 ⟨some 23, .conv (.int .u32) (.t 22), none⟩,
 ⟨some 5, .mv (.t 23), none⟩])
 (.seq (.region [⟨some 24, .mv (.t 1), none⟩,
 ⟨some 25, .bin .quo .num (.t 24) (.c (.int .u64 100000000)), none⟩,
 ⟨some 1, .mv (.t 25), none⟩])
 (.seq (.region [⟨some 26, .mv (.t 5), none⟩,
 ⟨some 27, .bin .quo .num (.t 26) (.c (.int .u32 10000)), none⟩,
 ⟨some 28, .mv (.t 5), none⟩,
 ⟨some 29, .bin .rem .num (.t 28) (.c (.int .u32 10000)), none⟩,
 ⟨some 6, .mv (.t 27), none⟩,
 ⟨some 7, .mv (.t 29), none⟩])
 (.seq (.region [⟨some 30, .mv (.t 7), none⟩,
 ⟨some 31, .bin .quo .num (.t 30) (.c (.int .u32 100)), none⟩,
 ⟨some 32, .bin .mul .num (.t 31) (.c (.int .u32 2)), none⟩,
 ⟨some 33, .mv (.t 7), none⟩,
 ⟨some 34, .bin .rem .num (.t 33) (.c (.int .u32 100)), none⟩,
 ⟨some 35, .bin .mul .num (.t 34) (.c (.int .u32 2)), none⟩,
 ⟨some 8, .mv (.t 32), none⟩,
 ⟨some 9, .mv (.t 35), none⟩])
 (.seq (.region [⟨some 36, .mv (.t 6), none⟩,
 ⟨some 37, .bin .quo .num (.t 36) (.c (.int .u32 100)), none⟩,
 ⟨some 38, .bin .mul .num (.t 37) (.c (.int .u32 2)), none⟩,
 ⟨some 39, .mv (.t 6), none⟩,
 ⟨some 40, .bin .rem .num (.t 39) (.c (.int .u32 100)), none⟩,
 ⟨some 41, .bin .mul .num (.t 40) (.c (.int .u32 2)), none⟩,
 ⟨some 10, .mv (.t 38), none⟩,
 ⟨some 11, .mv (.t 41), none⟩])
 (.seq (.regionD [⟨⟨some 42, .mv (.t 0), none⟩, false, []⟩,
 ⟨⟨some 43, .mv (.t 4), none⟩, false, []⟩,
 ⟨⟨some 44, .bin .sub .num (.t 43) (.c (.int .i64 1)), none⟩, false, []⟩,
 ⟨⟨some 45, .mv (.t 0), none⟩, false, []⟩,
 ⟨⟨some 46, .mv (.t 4), none⟩, false, []⟩,
 ⟨⟨some 47, .bin .sub .num (.t 46) (.c (.int .i64 2)), none⟩, false, []⟩,
 ⟨⟨some 48, .mv (.t 9), none⟩, false, []⟩,
 ⟨⟨some 49, .bin .add .num (.t 48) (.c (.int .u32 1)), none⟩, false, []⟩,
 ⟨⟨some 50, .index .str (.c (.str [48, 48, 48, 49, 48, 50, 48, 51, 48, 52, 48, 53, 48, 54, 48, 55, 48, 56, 48, 57, 49, 48, 49, 49, 49, 50, 49, 51, 49, 52, 49, 53, 49, 54, 49, 55, 49, 56, 49, 57, 50, 48, 50, 49, 50, 50, 50, 51, 50, 52, 50, 53, 50, 54, 50, 55, 50, 56, 50, 57, 51, 48, 51, 49, 51, 50, 51, 51, 51, 52, 51, 53, 51, 54, 51, 55, 51, 56, 51, 57, 52, 48, 52, 49, 52, 50, 52, 51, 52, 52, 52, 53, 52, 54, 52, 55, 52, 56, 52, 57, 53, 48, 53, 49, 53, 50, 53, 51, 53, 52, 53, 53, 53, 54, 53, 55, 53, 56, 53, 57, 54, 48, 54, 49, 54, 50, 54, 51, 54, 52, 54, 53, 54, 54, 54, 55, 54, 56, 54, 57, 55, 48, 55, 49, 55, 50, 55, 51, 55, 52, 55, 53, 55, 54, 55, 55, 55, 56, 55, 57, 56, 48, 56, 49, 56, 50, 56, 51, 56, 52, 56, 53, 56, 54, 56, 55, 56, 56, 56, 57, 57, 48, 57, 49, 57, 50, 57, 51, 57, 52, 57, 53, 57, 54, 57, 55, 57, 56, 57, 57])) (.t 49), none⟩, false, []⟩,
 ⟨⟨some 51, .mv (.t 9), none⟩, false, []⟩,
 ⟨⟨some 52, .index .str (.c (.str [48, 48, 48, 49, 48, 50, 48, 51, 48, 52, 48, 53, 48, 54, 48, 55, 48, 56, 48, 57, 49, 48, 49, 49, 49, 50, 49, 51, 49, 52, 49, 53, 49, 54, 49, 55, 49, 56, 49, 57, 50, 48, 50, 49, 50, 50, 50, 51, 50, 52, 50, 53, 50, 54, 50, 55, 50, 56, 50, 57, 51, 48, 51, 49, 51, 50, 51, 51, 51, 52, 51, 53, 51, 54, 51, 55, 51, 56, 51, 57, 52, 48, 52, 49, 52, 50, 52, 51, 52, 52, 52, 53, 52, 54, 52, 55, 52, 56, 52, 57, 53, 48, 53, 49, 53, 50, 53, 51, 53, 52, 53, 53, 53, 54, 53, 55, 53, 56, 53, 57, 54, 48, 54, 49, 54, 50, 54, 51, 54, 52, 54, 53, 54, 54, 54, 55, 54, 56, 54, 57, 55, 48, 55, 49, 55, 50, 55, 51, 55, 52, 55, 53, 55, 54, 55, 55, 55, 56, 55, 57, 56, 48, 56, 49, 56, 50, 56, 51, 56, 52, 56, 53, 56, 54, 56, 55, 56, 56, 56, 57, 57, 48, 57, 49, 57, 50, 57, 51, 57, 52, 57, 53, 57, 54, 57, 55, 57, 56, 57, 57])) (.t 51), none⟩, false, []⟩,
 ⟨⟨some 53, .indexAddr (.sl 1) (.t 42) (.t 44), none⟩, false, []⟩,
 ⟨⟨none, .store 1 (.t 53) (.t 50), none⟩, false, []⟩,
 ⟨⟨some 54, .indexAddr (.sl 1) (.t 45) (.t 47), none⟩, false, []⟩,
 ⟨⟨none, .store 1 (.t 54) (.t 52), none⟩, false, []⟩])
 (.seq (.regionD [⟨⟨some 55, .mv (.t 0), none⟩, false, []⟩,
 ⟨⟨some 56, .mv (.t 4), none⟩, false, []⟩,
 ⟨⟨some 57, .bin .sub .num (.t 56) (.c (.int .i64 3)), none⟩, false, []⟩,
 ⟨⟨some 58, .mv (.t 0), none⟩, false, []⟩,
 ⟨⟨some 59, .mv (.t 4), none⟩, false, []⟩,
 ⟨⟨some 60, .bin .sub .num (.t 59) (.c (.int .i64 4)), none⟩, false, []⟩,
 ⟨⟨some 61, .mv (.t 8), none⟩, false, []⟩,
 ⟨⟨some 62, .bin .add .num (.t 61) (.c (.int .u32 1)), none⟩, false, []⟩,
 ⟨⟨some 63, .index .str (.c (.str [48, 48, 48, 49, 48, 50, 48, 51, 48, 52, 48, 53, 48, 54, 48, 55, 48, 56, 48, 57, 49, 48, 49, 49, 49, 50, 49, 51, 49, 52, 49, 53, 49, 54, 49, 55, 49, 56, 49, 57, 50, 48, 50, 49, 50, 50, 50, 51, 50, 52, 50, 53, 50, 54, 50, 55, 50, 56, 50, 57, 51, 48, 51, 49, 51, 50, 51, 51, 51, 52, 51, 53, 51, 54, 51, 55, 51, 56, 51, 57, 52, 48, 52, 49, 52, 50, 52, 51, 52, 52, 52, 53, 52, 54, 52, 55, 52, 56, 52, 57, 53, 48, 53, 49, 53, 50, 53, 51, 53, 52, 53, 53, 53, 54, 53, 55, 53, 56, 53, 57, 54, 48, 54, 49, 54, 50, 54, 51, 54, 52, 54, 53, 54, 54, 54, 55, 54, 56, 54, 57, 55, 48, 55, 49, 55, 50, 55, 51, 55, 52, 55, 53, 55, 54, 55, 55, 55, 56, 55, 57, 56, 48, 56, 49, 56, 50, 56, 51, 56, 52, 56, 53, 56, 54, 56, 55, 56, 56, 56, 57, 57, 48, 57, 49, 57, 50, 57, 51, 57, 52, 57, 53, 57, 54, 57, 55, 57, 56, 57, 57])) (.t 62), none⟩, false, []⟩,
 ⟨⟨some 64, .mv (.t 8), none⟩, false, []⟩,
 ⟨⟨some 65, .index .str (.c (.str [48, 48, 48, 49, 48, 50, 48, 51, 48, 52, 48, 53, 48, 54, 48, 55, 48, 56, 48, 57, 49, 48, 49, 49, 49, 50, 49, 51, 49, 52, 49, 53, 49, 54, 49, 55, 49, 56, 49, 57, 50, 48, 50, 49, 50, 50, 50, 51, 50, 52, 50, 53, 50, 54, 50, 55, 50, 56, 50, 57, 51, 48, 51, 49, 51, 50, 51, 51, 51, 52, 51, 53, 51, 54, 51, 55, 51, 56, 51, 57, 52, 48, 52, 49, 52, 50, 52, 51, 52, 52, 52, 53, 52, 54, 52, 55, 52, 56, 52, 57, 53, 48, 53, 49, 53, 50, 53, 51, 53, 52, 53, 53, 53, 54, 53, 55, 53, 56, 53, 57, 54, 48, 54, 49, 54, 50, 54, 51, 54, 52, 54, 53, 54, 54, 54, 55, 54, 56, 54, 57, 55, 48, 55, 49, 55, 50, 55, 51, 55, 52, 55, 53, 55, 54, 55, 55, 55, 56, 55, 57, 56, 48, 56, 49, 56, 50, 56, 51, 56, 52, 56, 53, 56, 54, 56, 55, 56, 56, 56, 57, 57, 48, 57, 49, 57, 50, 57, 51, 57, 52, 57, 53, 57, 54, 57, 55, 57, 56, 57, 57])) (.t 64), none⟩, false, []⟩,
 ⟨⟨some 66, .indexAddr (.sl 1) (.t 55) (.t 57), none⟩, false, []⟩,
 ⟨⟨none, .store 1 (.t 66) (.t 63), none⟩, false, []⟩,
 ⟨⟨some 67, .indexAddr (.sl 1) (.t 58) (.t 60), none⟩, false, []⟩,
 ⟨⟨none, .store 1 (.t 67) (.t 65), none⟩, false, []⟩])
 (.seq (.regionD [⟨⟨some 68, .mv (.t 0), none⟩, false, []⟩,
 ⟨⟨some 69, .mv (.t 4), none⟩, false, []⟩,
 ⟨⟨some 70, .bin .sub .num (.t 69) (.c (.int .i64 5)), none⟩, false, []⟩,
 ⟨⟨some 71, .mv (.t 0), none⟩, false, []⟩,
 ⟨⟨some 72, .mv (.t 4), none⟩, false, []⟩,
 ⟨⟨some 73, .bin .sub .num (.t 72) (.c (.int .i64 6)), none⟩, false, []⟩,
 ⟨⟨some 74, .mv (.t 11), none⟩, false, []⟩,
 ⟨⟨some 75, .bin .add .num (.t 74) (.c (.int .u32 1)), none⟩, false, []⟩,
 ⟨⟨some 76, .index .str (.c (.str [48, 48, 48, 49, 48, 50, 48, 51, 48, 52, 48, 53, 48, 54, 48, 55, 48, 56, 48, 57, 49, 48, 49, 49, 49, 50, 49, 51, 49, 52, 49, 53, 49, 54, 49, 55, 49, 56, 49, 57, 50, 48, 50, 49, 50, 50, 50, 51, 50, 52, 50, 53, 50, 54, 50, 55, 50, 56, 50, 57, 51, 48, 51, 49, 51, 50, 51, 51, 51, 52, 51, 53, 51, 54, 51, 55, 51, 56, 51, 57, 52, 48, 52, 49, 52, 50, 52, 51, 52, 52, 52, 53, 52, 54, 52, 55, 52, 56, 52, 57, 53, 48, 53, 49, 53, 50, 53, 51, 53, 52, 53, 53, 53, 54, 53, 55, 53, 56, 53, 57, 54, 48, 54, 49, 54, 50, 54, 51, 54, 52, 54, 53, 54, 54, 54, 55, 54, 56, 54, 57, 55, 48, 55, 49, 55, 50, 55, 51, 55, 52, 55, 53, 55, 54, 55, 55, 55, 56, 55, 57, 56, 48, 56, 49, 56, 50, 56, 51, 56, 52, 56, 53, 56, 54, 56, 55, 56, 56, 56, 57, 57, 48, 57, 49, 57, 50, 57, 51, 57, 52, 57, 53, 57, 54, 57, 55, 57, 56, 57, 57])) (.t 75), none⟩, false, []⟩,
 ⟨⟨some 77, .mv (.t 11), none⟩, false, []⟩,
 ⟨⟨some 78, .index .str (.c (.str [48, 48, 48, 49, 48, 50, 48, 51, 48, 52, 48, 53, 48, 54, 48, 55, 48, 56, 48, 57, 49, 48, 49, 49, 49, 50, 49, 51, 49, 52, 49, 53, 49, 54, 49, 55, 49, 56, 49, 57, 50, 48, 50, 49, 50, 50, 50, 51, 50, 52, 50, 53, 50, 54, 50, 55, 50, 56, 50, 57, 51, 48, 51, 49, 51, 50, 51, 51, 51, 52, 51, 53, 51, 54, 51, 55, 51, 56, 51, 57, 52, 48, 52, 49, 52, 50, 52, 51, 52, 52, 52, 53, 52, 54, 52, 55, 52, 56, 52, 57, 53, 48, 53, 49, 53, 50, 53, 51, 53, 52, 53, 53, 53, 54, 53, 55, 53, 56, 53, 57, 54, 48, 54, 49, 54, 50, 54, 51, 54, 52, 54, 53, 54, 54, 54, 55, 54, 56, 54, 57, 55, 48, 55, 49, 55, 50, 55, 51, 55, 52, 55, 53, 55, 54, 55, 55, 55, 56, 55, 57, 56, 48, 56, 49, 56, 50, 56, 51, 56, 52, 56, 53, 56, 54, 56, 55, 56, 56, 56, 57, 57, 48, 57, 49, 57, 50, 57, 51, 57, 52, 57, 53, 57, 54, 57, 55, 57, 56, 57, 57])) (.t 77), none⟩, false, []⟩,
 ⟨⟨some 79, .indexAddr (.sl 1) (.t 68) (.t 70), none⟩, false, []⟩,
 ⟨⟨none, .store 1 (.t 79) (.t 76), none⟩, false, []⟩,
 ⟨⟨some 80, .indexAddr (.sl 1) (.t 71) (.t 73), none⟩, false, []⟩,
 ⟨⟨none, .store 1 (.t 80) (.t 78), none⟩, false, []⟩])
 (.seq (.regionD [⟨⟨some 81, .mv (.t 0), none⟩, false, []⟩,
 ⟨⟨some 82, .mv (.t 4), none⟩, false, []⟩,
 ⟨⟨some 83, .bin .sub .num (.t 82) (.c (.int .i64 7)), none⟩, false, []⟩,
 ⟨⟨some 84, .mv (.t 0), none⟩, false, []⟩,
 ⟨⟨some 85, .mv (.t 4), none⟩, false, []⟩,
 ⟨⟨some 86, .bin .sub .num (.t 85) (.c (.int .i64 8)), none⟩, false, []⟩,
 ⟨⟨some 87, .mv (.t 10), none⟩, false, []⟩,
 ⟨⟨some 88, .bin .add .num (.t 87) (.c (.int .u32 1)), none⟩, false, []⟩,
 ⟨⟨some 89, .index .str (.c (.str [48, 48, 48, 49, 48, 50, 48, 51, 48, 52, 48, 53, 48, 54, 48, 55, 48, 56, 48, 57, 49, 48, 49, 49, 49, 50, 49, 51, 49, 52, 49, 53, 49, 54, 49, 55, 49, 56, 49, 57, 50, 48, 50, 49, 50, 50, 50, 51, 50, 52, 50, 53, 50, 54, 50, 55, 50, 56, 50, 57, 51, 48, 51, 49, 51, 50, 51, 51, 51, 52, 51, 53, 51, 54, 51, 55, 51, 56, 51, 57, 52, 48, 52, 49, 52, 50, 52, 51, 52, 52, 52, 53, 52, 54, 52, 55, 52, 56, 52, 57, 53, 48, 53, 49, 53, 50, 53, 51, 53, 52, 53, 53, 53, 54, 53, 55, 53, 56, 53, 57, 54, 48, 54, 49, 54, 50, 54, 51, 54, 52, 54, 53, 54, 54, 54, 55, 54, 56, 54, 57, 55, 48, 55, 49, 55, 50, 55, 51, 55, 52, 55, 53, 55, 54, 55, 55, 55, 56, 55, 57, 56, 48, 56, 49, 56, 50, 56, 51, 56, 52, 56, 53, 56, 54, 56, 55, 56, 56, 56, 57, 57, 48, 57, 49, 57, 50, 57, 51, 57, 52, 57, 53, 57, 54, 57, 55, 57, 56, 57, 57])) (.t 88), none⟩, false, []⟩,
 ⟨⟨some 90, .mv (.t 10), none⟩, false, []⟩,
 ⟨⟨some 91, .index .str (.c (.str [48, 48, 48, 49, 48, 50, 48, 51, 48, 52, 48, 53, 48, 54, 48, 55, 48, 56, 48, 57, 49, 48, 49, 49, 49, 50, 49, 51, 49, 52, 49, 53, 49, 54, 49, 55, 49, 56, 49, 57, 50, 48, 50, 49, 50, 50, 50, 51, 50, 52, 50, 53, 50, 54, 50, 55, 50, 56, 50, 57, 51, 48, 51, 49, 51, 50, 51, 51, 51, 52, 51, 53, 51, 54, 51, 55, 51, 56, 51, 57, 52, 48, 52, 49, 52, 50, 52, 51, 52, 52, 52, 53, 52, 54, 52, 55, 52, 56, 52, 57, 53, 48, 53, 49, 53, 50, 53, 51, 53, 52, 53, 53, 53, 54, 53, 55, 53, 56, 53, 57, 54, 48, 54, 49, 54, 50, 54, 51, 54, 52, 54, 53, 54, 54, 54, 55, 54, 56, 54, 57, 55, 48, 55, 49, 55, 50, 55, 51, 55, 52, 55, 53, 55, 54, 55, 55, 55, 56, 55, 57, 56, 48, 56, 49, 56, 50, 56, 51, 56, 52, 56, 53, 56, 54, 56, 55, 56, 56, 56, 57, 57, 48, 57, 49, 57, 50, 57, 51, 57, 52, 57, 53, 57, 54, 57, 55, 57, 56, 57, 57])) (.t 90), none⟩, false, []⟩,
 ⟨⟨some 92, .indexAddr (.sl 1) (.t 81) (.t 83), none⟩, false, []⟩,
 ⟨⟨none, .store 1 (.t 92) (.t 89), none⟩, false, []⟩,
 ⟨⟨some 93, .indexAddr (.sl 1) (.t 84) (.t 86), none⟩, false, []⟩,
 ⟨⟨none, .store 1 (.t 93) (.t 91), none⟩, false, []⟩])
 (.region [⟨some 94, .mv (.t 4), none⟩,
 ⟨some 95, .bin .sub .num (.t 94) (.c (.int .i64 8)), none⟩,
 ⟨some 4, .mv (.t 95), none⟩]))))))))))))))
 (.seq (.region [⟨some 96, .mv (.t 1), none⟩,
 ⟨some 97, .conv (.int .u32) (.t 96), none⟩,
 ⟨some 12, .mv (.t 97), none⟩])
 (.seq (.seq (.region [⟨some 98, .mv (.t 4), none⟩,
 ⟨some 99, .bin .geq .num (.t 98) (.c (.int .i64 4)), none⟩])
 (.cond (.t 99)
 (.seq (.region [⟨some 100, .mv (.t 12), none⟩,
 ⟨some 101, .bin .rem .num (.t 100) (.c (.int .u32 10000)), none⟩,
 ⟨some 13, .mv (.t 101), none⟩])
 (.seq (.region [⟨some 102, .mv (.t 12), none⟩,
 ⟨some 103, .bin .quo .num (.t 102) (.c (.int .u32 10000)), none⟩,
 ⟨some 12, .mv (.t 103), none⟩])
 (.seq (.region [⟨some 104, .mv (.t 13), none⟩,
 ⟨some 105, .bin .quo .num (.t 104) (.c (.int .u32 100)), none⟩,
 ⟨some 106, .bin .mul .num (.t 105) (.c (.int .u32 2)), none⟩,
 ⟨some 107, .mv (.t 13), none⟩,
 ⟨some 108, .bin .rem .num (.t 107) (.c (.int .u32 100)), none⟩,
 ⟨some 109, .bin .mul .num (.t 108) (.c (.int .u32 2)), none⟩,
 ⟨some 14, .mv (.t 106), none⟩,
 ⟨some 15, .mv (.t 109), none⟩])
 (.seq (.regionD [⟨⟨some 110, .mv (.t 0), none⟩, false, []⟩,
 ⟨⟨some 111, .mv (.t 4), none⟩, false, []⟩,
 ⟨⟨some 112, .bin .sub .num (.t 111) (.c (.int .i64 1)), none⟩, false, []⟩,
 ⟨⟨some 113, .mv (.t 0), none⟩, false, []⟩,
 ⟨⟨some 114, .mv (.t 4), none⟩, false, []⟩,
 ⟨⟨some 115, .bin .sub .num (.t 114) (.c (.int .i64 2)), none⟩, false, []⟩,
 ⟨⟨some 116, .mv (.t 15), none⟩, false, []⟩,
 ⟨⟨some 117, .bin .add .num (.t 116) (.c (.int .u32 1)), none⟩, false, []⟩,
 ⟨⟨some 118, .index .str (.c (.str [48, 48, 48, 49, 48, 50, 48, 51, 48, 52, 48, 53, 48, 54, 48, 55, 48, 56, 48, 57, 49, 48, 49, 49, 49, 50, 49, 51, 49, 52, 49, 53, 49, 54, 49, 55, 49, 56, 49, 57, 50, 48, 50, 49, 50, 50, 50, 51, 50, 52, 50, 53, 50, 54, 50, 55, 50, 56, 50, 57, 51, 48, 51, 49, 51, 50, 51, 51, 51, 52, 51, 53, 51, 54, 51, 55, 51, 56, 51, 57, 52, 48, 52, 49, 52, 50, 52, 51, 52, 52, 52, 53, 52, 54, 52, 55, 52, 56, 52, 57, 53, 48, 53, 49, 53, 50, 53, 51, 53, 52, 53, 53, 53, 54, 53, 55, 53, 56, 53, 57, 54, 48, 54, 49, 54, 50, 54, 51, 54, 52, 54, 53, 54, 54, 54, 55, 54, 56, 54, 57, 55, 48, 55, 49, 55, 50, 55, 51, 55, 52, 55, 53, 55, 54, 55, 55, 55, 56, 55, 57, 56, 48, 56, 49, 56, 50, 56, 51, 56, 52, 56, 53, 56, 54, 56, 55, 56, 56, 56, 57, 57, 48, 57, 49, 57, 50, 57, 51, 57, 52, 57, 53, 57, 54, 57, 55, 57, 56, 57, 57])) (.t 117), none⟩, false, []⟩,
 ⟨⟨some 119, .mv (.t 15), none⟩, false, []⟩,
 ⟨⟨some 120, .index .str (.c (.str [48, 48, 48, 49, 48, 50, 48, 51, 48, 52, 48, 53, 48, 54, 48, 55, 48, 56, 48, 57, 49, 48, 49, 49, 49, 50, 49, 51, 49, 52, 49, 53, 49, 54, 49, 55, 49, 56, 49, 57, 50, 48, 50, 49, 50, 50, 50, 51, 50, 52, 50, 53, 50, 54, 50, 55, 50, 56, 50, 57, 51, 48, 51, 49, 51, 50, 51, 51, 51, 52, 51, 53, 51, 54, 51, 55, 51, 56, 51, 57, 52, 48, 52, 49, 52, 50, 52, 51, 52, 52, 52, 53, 52, 54, 52, 55, 52, 56, 52, 57, 53, 48, 53, 49, 53, 50, 53, 51, 53, 52, 53, 53, 53, 54, 53, 55, 53, 56, 53, 57, 54, 48, 54, 49, 54, 50, 54, 51, 54, 52, 54, 53, 54, 54, 54, 55, 54, 56, 54, 57, 55, 48, 55, 49, 55, 50, 55, 51, 55, 52, 55, 53, 55, 54, 55, 55, 55, 56, 55, 57, 56, 48, 56, 49, 56, 50, 56, 51, 56, 52, 56, 53, 56, 54, 56, 55, 56, 56, 56, 57, 57, 48, 57, 49, 57, 50, 57, 51, 57, 52, 57, 53, 57, 54, 57, 55, 57, 56, 57, 57])) (.t 119), none⟩, false, []⟩,
 ⟨⟨some 121, .indexAddr (.sl 1) (.t 110) (.t 112), none⟩, false, []⟩,
 ⟨⟨none, .store 1 (.t 121) (.t 118), none⟩, false, []⟩,
 ⟨⟨some 122, .indexAddr (.sl 1) (.t 113) (.t 115), none⟩, false, []⟩,
 ⟨⟨none, .store 1 (.t 122) (.t 120), none⟩, false, []⟩])
 (.seq (.regionD [⟨⟨some 123, .mv (.t 0), none⟩, false, []⟩,
 ⟨⟨some 124, .mv (.t 4), none⟩, false, []⟩,
 ⟨⟨some 125, .bin .sub .num (.t 124) (.c (.int .i64 3)), none⟩, false, []⟩,
 ⟨⟨some 126, .mv (.t 0), none⟩, false, []⟩,
 ⟨⟨some 127, .mv (.t 4), none⟩, false, []⟩,
 ⟨⟨some 128, .bin .sub .num (.t 127) (.c (.int .i64 4)), none⟩, false, []⟩,
 ⟨⟨some 129, .mv (.t 14), none⟩, false, []⟩,
 ⟨⟨some 130, .bin .add .num (.t 129) (.c (.int .u32 1)), none⟩, false, []⟩,
 ⟨⟨some 131, .index .str (.c (.str [48, 48, 48, 49, 48, 50, 48, 51, 48, 52, 48, 53, 48, 54, 48, 55, 48, 56, 48, 57, 49, 48, 49, 49, 49, 50, 49, 51, 49, 52, 49, 53, 49, 54, 49, 55, 49, 56, 49, 57, 50, 48, 50, 49, 50, 50, 50, 51, 50, 52, 50, 53, 50, 54, 50, 55, 50, 56, 50, 57, 51, 48, 51, 49, 51, 50, 51, 51, 51, 52, 51, 53, 51, 54, 51, 55, 51, 56, 51, 57, 52, 48, 52, 49, 52, 50, 52, 51, 52, 52, 52, 53, 52, 54, 52, 55, 52, 56, 52, 57, 53, 48, 53, 49, 53, 50, 53, 51, 53, 52, 53, 53, 53, 54, 53, 55, 53, 56, 53, 57, 54, 48, 54, 49, 54, 50, 54, 51, 54, 52, 54, 53, 54, 54, 54, 55, 54, 56, 54, 57, 55, 48, 55, 49, 55, 50, 55, 51, 55, 52, 55, 53, 55, 54, 55, 55, 55, 56, 55, 57, 56, 48, 56, 49, 56, 50, 56, 51, 56, 52, 56, 53, 56, 54, 56, 55, 56, 56, 56, 57, 57, 48, 57, 49, 57, 50, 57, 51, 57, 52, 57, 53, 57, 54, 57, 55, 57, 56, 57, 57])) (.t 130), none⟩, false, []⟩,
 ⟨⟨some 132, .mv (.t 14), none⟩, false, []⟩,
 ⟨⟨some 133, .index .str (.c (.str [48, 48, 48, 49, 48, 50, 48, 51, 48, 52, 48, 53, 48, 54, 48, 55, 48, 56, 48, 57, 49, 48, 49, 49, 49, 50, 49, 51, 49, 52, 49, 53, 49, 54, 49, 55, 49, 56, 49, 57, 50, 48, 50, 49, 50, 50, 50, 51, 50, 52, 50, 53, 50, 54, 50, 55, 50, 56, 50, 57, 51, 48, 51, 49, 51, 50, 51, 51, 51, 52, 51, 53, 51, 54, 51, 55, 51, 56, 51, 57, 52, 48, 52, 49, 52, 50, 52, 51, 52, 52, 52, 53, 52, 54, 52, 55, 52, 56, 52, 57, 53, 48, 53, 49, 53, 50, 53, 51, 53, 52, 53, 53, 53, 54, 53, 55, 53, 56, 53, 57, 54, 48, 54, 49, 54, 50, 54, 51, 54, 52, 54, 53, 54, 54, 54, 55, 54, 56, 54, 57, 55, 48, 55, 49, 55, 50, 55, 51, 55, 52, 55, 53, 55, 54, 55, 55, 55, 56, 55, 57, 56, 48, 56, 49, 56, 50, 56, 51, 56, 52, 56, 53, 56, 54, 56, 55, 56, 56, 56, 57, 57, 48, 57, 49, 57, 50, 57, 51, 57, 52, 57, 53, 57, 54, 57, 55, 57, 56, 57, 57])) (.t 132), none⟩, false, []⟩,
 ⟨⟨some 134, .indexAddr (.sl 1) (.t 123) (.t 125), none⟩, false, []⟩,
 ⟨⟨none, .store 1 (.t 134) (.t 131), none⟩, false, []⟩,
 ⟨⟨some 135, .indexAddr (.sl 1) (.t 126) (.t 128), none⟩, false, []⟩,
 ⟨⟨none, .store 1 (.t 135) (.t 133), none⟩, false, []⟩])
 (.region [⟨some 136, .mv (.t 4), none⟩,
 ⟨some 137, .bin .sub .num (.t 136) (.c (.int .i64 4)), none⟩,
 ⟨some 4, .mv (.t 137), none⟩]))))))
 (.skip)))
 (.seq (.seq (.region [⟨some 138, .mv (.t 4), none⟩,
 ⟨some 139, .bin .geq .num (.t 138) (.c (.int .i64 2)), none⟩])
 (.cond (.t 139)
 (.seq (.region [⟨some 140, .mv (.t 12), none⟩,
 ⟨some 141, .bin .rem .num (.t 140) (.c (.int .u32 100)), none⟩,
 ⟨some 142, .bin .mul .num (.t 141) (.c (.int .u32 2)), none⟩,
 ⟨some 16, .mv (.t 142), none⟩])
 (.seq (.region [⟨some 143, .mv (.t 12), none⟩,
 ⟨some 144, .bin .quo .num (.t 143) (.c (.int .u32 100)), none⟩,
 ⟨some 12, .mv (.t 144), none⟩])
 (.seq (.regionD [⟨⟨some 145, .mv (.t 0), none⟩, false, []⟩,
 ⟨⟨some 146, .mv (.t 4), none⟩, false, []⟩,
 ⟨⟨some 147, .bin .sub .num (.t 146) (.c (.int .i64 1)), none⟩, false, []⟩,
 ⟨⟨some 148, .mv (.t 0), none⟩, false, []⟩,
 ⟨⟨some 149, .mv (.t 4), none⟩, false, []⟩,
 ⟨⟨some 150, .bin .sub .num (.t 149) (.c (.int .i64 2)), none⟩, false, []⟩,
 ⟨⟨some 151, .mv (.t 16), none⟩, false, []⟩,
 ⟨⟨some 152, .bin .add .num (.t 151) (.c (.int .u32 1)), none⟩, false, []⟩,
 ⟨⟨some 153, .index .str (.c (.str [48, 48, 48, 49, 48, 50, 48, 51, 48, 52, 48, 53, 48, 54, 48, 55, 48, 56, 48, 57, 49, 48, 49, 49, 49, 50, 49, 51, 49, 52, 49, 53, 49, 54, 49, 55, 49, 56, 49, 57, 50, 48, 50, 49, 50, 50, 50, 51, 50, 52, 50, 53, 50, 54, 50, 55, 50, 56, 50, 57, 51, 48, 51, 49, 51, 50, 51, 51, 51, 52, 51, 53, 51, 54, 51, 55, 51, 56, 51, 57, 52, 48, 52, 49, 52, 50, 52, 51, 52, 52, 52, 53, 52, 54, 52, 55, 52, 56, 52, 57, 53, 48, 53, 49, 53, 50, 53, 51, 53, 52, 53, 53, 53, 54, 53, 55, 53, 56, 53, 57, 54, 48, 54, 49, 54, 50, 54, 51, 54, 52, 54, 53, 54, 54, 54, 55, 54, 56, 54, 57, 55, 48, 55, 49, 55, 50, 55, 51, 55, 52, 55, 53, 55, 54, 55, 55, 55, 56, 55, 57, 56, 48, 56, 49, 56, 50, 56, 51, 56, 52, 56, 53, 56, 54, 56, 55, 56, 56, 56, 57, 57, 48, 57, 49, 57, 50, 57, 51, 57, 52, 57, 53, 57, 54, 57, 55, 57, 56, 57, 57])) (.t 152), none⟩, false, []⟩,
 ⟨⟨some 154, .mv (.t 16), none⟩, false, []⟩,
 ⟨⟨some 155, .index .str (.c (.str [48, 48, 48, 49, 48, 50, 48, 51, 48, 52, 48, 53, 48, 54, 48, 55, 48, 56, 48, 57, 49, 48, 49, 49, 49, 50, 49, 51, 49, 52, 49, 53, 49, 54, 49, 55, 49, 56, 49, 57, 50, 48, 50, 49, 50, 50, 50, 51, 50, 52, 50, 53, 50, 54, 50, 55, 50, 56, 50, 57, 51, 48, 51, 49, 51, 50, 51, 51, 51, 52, 51, 53, 51, 54, 51, 55, 51, 56, 51, 57, 52, 48, 52, 49, 52, 50, 52, 51, 52, 52, 52, 53, 52, 54, 52, 55, 52, 56, 52, 57, 53, 48, 53, 49, 53, 50, 53, 51, 53, 52, 53, 53, 53, 54, 53, 55, 53, 56, 53, 57, 54, 48, 54, 49, 54, 50, 54, 51, 54, 52, 54, 53, 54, 54, 54, 55, 54, 56, 54, 57, 55, 48, 55, 49, 55, 50, 55, 51, 55, 52, 55, 53, 55, 54, 55, 55, 55, 56, 55, 57, 56, 48, 56, 49, 56, 50, 56, 51, 56, 52, 56, 53, 56, 54, 56, 55, 56, 56, 56, 57, 57, 48, 57, 49, 57, 50, 57, 51, 57, 52, 57, 53, 57, 54, 57, 55, 57, 56, 57, 57])) (.t 154), none⟩, false, []⟩,
 ⟨⟨some 156, .indexAddr (.sl 1) (.t 145) (.t 147), none⟩, false, []⟩,
 ⟨⟨none, .store 1 (.t 156) (.t 153), none⟩, false, []⟩,
 ⟨⟨some 157, .indexAddr (.sl 1) (.t 148) (.t 150), none⟩, false, []⟩,
 ⟨⟨none, .store 1 (.t 157) (.t 155), none⟩, false, []⟩])
 (.region [⟨some 158, .mv (.t 4), none⟩,
 ⟨some 159, .bin .sub .num (.t 158) (.c (.int .i64 2)), none⟩,
 ⟨some 4, .mv (.t 159), none⟩]))))
 (.skip)))
 (.seq (.region [⟨some 160, .mv (.t 4), none⟩,
 ⟨some 161, .bin .gtr .num (.t 160) (.c (.int .i64 0)), none⟩])
 (.cond (.t 161)
 (.region [⟨some 162, .mv (.t 0), none⟩,
 ⟨some 163, .mv (.t 12), none⟩,
 ⟨some 164, .bin .add .num (.c (.int .u32 48)) (.t 163), none⟩,
 ⟨some 165, .conv (.int .u8) (.t 164), none⟩,
 ⟨some 166, .indexAddr (.sl 1) (.t 162) (.c (.int .i64 0)), none⟩,
 ⟨none, .store 1 (.t 166) (.t 165), none⟩])
 (.skip)))))))⟩

/- internal/strconv.formatBits -/
def F238 : AFunc := ⟨102, [.tmp 10, .tmp 11],
 .seq (.region [⟨some 10, .mv (.c (.nilsl)), none⟩,
 ⟨some 11, .mv (.c (.str [])), none⟩])
 (.seq (.seq (.region [⟨some 19, .mv (.t 2), none⟩,
 ⟨some 20, .bin .lss .num (.t 19) (.c (.int .i64 2)), none⟩,
 ⟨some 21, .mv (.t 20), none⟩,
 ⟨some 22, .mv (.t 2), some (21, false)⟩,
 ⟨some 23, .bin .eql .num (.t 22) (.c (.int .i64 10)), some (21, false)⟩,
 ⟨some 24, .pick (.t 21) (.c (.bool true)) (.t 23), none⟩,
 ⟨some 25, .mv (.t 24), none⟩,
 ⟨some 26, .mv (.t 2), some (25, false)⟩,
 ⟨some 27, .bin .gtr .num (.t 26) (.c (.int .i64 36)), some (25, false)⟩,
 ⟨some 28, .pick (.t 25) (.c (.bool true)) (.t 27), none⟩])
 (.cond (.t 28)
 (.region [⟨some 29, .mkIface 9 (.c (.str [115, 116, 114, 99, 111, 110, 118, 58, 32, 105, 108, 108, 101, 103, 97, 108, 32, 65, 112, 112, 101, 110, 100, 73, 110, 116, 47, 70, 111, 114, 109, 97, 116, 73, 110, 116, 32, 98, 97, 115, 101])), none⟩,
 ⟨none, .stuck, none⟩])
 (.skip)))
 (.seq (.region [⟨some 12, .alloc [.int .u8 0, .int .u8 0, .int .u8 0, .int .u8 0, .int .u8 0, .int .u8 0, .int .u8 0, .int .u8 0, .int .u8 0, .int .u8 0, .int .u8 0, .int .u8 0, .int .u8 0, .int .u8 0, .int .u8 0, .int .u8 0, .int .u8 0, .int .u8 0, .int .u8 0, .int .u8 0, .int .u8 0, .int .u8 0, .int .u8 0, .int .u8 0, .int .u8 0, .int .u8 0, .int .u8 0, .int .u8 0, .int .u8 0, .int .u8 0, .int .u8 0, .int .u8 0, .int .u8 0, .int .u8 0, .int .u8 0, .int .u8 0, .int .u8 0, .int .u8 0, .int .u8 0, .int .u8 0, .int .u8 0, .int .u8 0, .int .u8 0, .int .u8 0, .int .u8 0, .int .u8 0, .int .u8 0, .int .u8 0, .int .u8 0, .int .u8 0, .int .u8 0, .int .u8 0, .int .u8 0, .int .u8 0, .int .u8 0, .int .u8 0, .int .u8 0, .int .u8 0, .int .u8 0, .int .u8 0, .int .u8 0, .int .u8 0, .int .u8 0, .int .u8 0, .int .u8 0], none⟩])
 (.seq (.region [⟨some 13, .mv (.c (.int .i64 65)), none⟩])
 (.seq (.seq (.region [⟨some 30, .mv (.t 3), none⟩])
 (.cond (.t 30)
 (.region [⟨some 31, .mv (.t 1), none⟩,
 ⟨some 32, .un .neg (.t 31), none⟩,
 ⟨some 1, .mv (.t 32), none⟩])
 (.skip)))
 (.seq (.seq (.region [⟨some 33, .mv (.t 2), none⟩,
 ⟨some 34, .call 266 [(.t 33)], none⟩])
 (.cond (.t 34)
 (.seq (.region [⟨some 35, .mv (.t 2), none⟩,
 ⟨some 36, .conv (.int .u64) (.t 35), none⟩,
 ⟨some 37, .call 267 [(.t 36)], none⟩,
 ⟨some 38, .conv (.int .u64) (.t 37), none⟩,
 ⟨some 14, .mv (.t 38), none⟩])
 (.seq (.region [⟨some 39, .mv (.t 2), none⟩,
 ⟨some 40, .conv (.int .u64) (.t 39), none⟩,
 ⟨some 15, .mv (.t 40), none⟩])
 (.seq (.region [⟨some 41, .mv (.t 2), none⟩,
 ⟨some 42, .conv (.int .u64) (.t 41), none⟩,
 ⟨some 43, .bin .sub .num (.t 42) (.c (.int .u64 1)), none⟩,
 ⟨some 16, .mv (.t 43), none⟩])
 (.seq (.block 0 (.loop (.seq (.seq (.region [⟨some 44, .mv (.t 1), none⟩,
 ⟨some 45, .mv (.t 15), none⟩,
 ⟨some 46, .bin .geq .num (.t 44) (.t 45), none⟩])
 (.cond (.t 46)
 (.skip)
 (.exit 0)))
 (.block 1 (.seq (.region [⟨some 47, .mv (.t 13), none⟩,
 ⟨some 48, .bin .sub .num (.t 47) (.c (.int .i64 1)), none⟩,
 ⟨some 13, .mv (.t 48), none⟩])
 (.seq (.region [⟨some 49, .mv (.t 13), none⟩,
 ⟨some 50, .mv (.t 1), none⟩,
 ⟨some 51, .mv (.t 16), none⟩,
 ⟨some 52, .bin .and .num (.t 50) (.t 51), none⟩,
 ⟨some 53, .index .str (.c (.str [48, 49, 50, 51, 52, 53, 54, 55, 56, 57, 97, 98, 99, 100, 101, 102, 103, 104, 105, 106, 107, 108, 109, 110, 111, 112, 113, 114, 115, 116, 117, 118, 119, 120, 121, 122])) (.t 52), none⟩,
 ⟨some 54, .indexAddr (.arr 65 1) (.t 12) (.t 49), none⟩,
 ⟨none, .store 1 (.t 54) (.t 53), none⟩])
 (.region [⟨some 55, .mv (.t 1), none⟩,
 ⟨some 56, .mv (.t 14), none⟩,
 ⟨some 57, .bin .shr .num (.t 55) (.t 56), none⟩,
 ⟨some 1, .mv (.t 57), none⟩])))))))
 (.seq (.region [⟨some 58, .mv (.t 13), none⟩,
 ⟨some 59, .bin .sub .num (.t 58) (.c (.int .i64 1)), none⟩,
 ⟨some 13, .mv (.t 59), none⟩])
 (.region [⟨some 60, .mv (.t 13), none⟩,
 ⟨some 61, .mv (.t 1), none⟩,
 ⟨some 62, .index .str (.c (.str [48, 49, 50, 51, 52, 53, 54, 55, 56, 57, 97, 98, 99, 100, 101, 102, 103, 104, 105, 106, 107, 108, 109, 110, 111, 112, 113, 114, 115, 116, 117, 118, 119, 120, 121, 122])) (.t 61), none⟩,
 ⟨some 63, .indexAddr (.arr 65 1) (.t 12) (.t 60), none⟩,
 ⟨none, .store 1 (.t 63) (.t 62), none⟩]))))))
 (.seq (.region [⟨some 64, .mv (.t 2), none⟩,
 ⟨some 65, .conv (.int .u64) (.t 64), none⟩,
 ⟨some 17, .mv (.t 65), none⟩])
 (.seq (.block 2 (.loop (.seq (.seq (.region [⟨some 66, .mv (.t 1), none⟩,
 ⟨some 67, .mv (.t 17), none⟩,
 ⟨some 68, .bin .geq .num (.t 66) (.t 67), none⟩])
 (.cond (.t 68)
 (.skip)
 (.exit 2)))
 (.block 3 (.seq (.region [⟨some 69, .mv (.t 13), none⟩,
 ⟨some 70, .bin .sub .num (.t 69) (.c (.int .i64 1)), none⟩,
 ⟨some 13, .mv (.t 70), none⟩])
 (.seq (.region [⟨some 71, .mv (.t 1), none⟩,
 ⟨some 72, .mv (.t 17), none⟩,
 ⟨some 73, .bin .quo .num (.t 71) (.t 72), none⟩,
 ⟨some 18, .mv (.t 73), none⟩])
 (.seq (.region [⟨some 74, .mv (.t 13), none⟩,
 ⟨some 75, .mv (.t 1), none⟩,
 ⟨some 76, .mv (.t 18), none⟩,
 ⟨some 77, .mv (.t 17), none⟩,
 ⟨some 78, .bin .mul .num (.t 76) (.t 77), none⟩,
 ⟨some 79, .bin .sub .num (.t 75) (.t 78), none⟩,
 ⟨some 80, .index .str (.c (.str [48, 49, 50, 51, 52, 53, 54, 55, 56, 57, 97, 98, 99, 100, 101, 102, 103, 104, 105, 106, 107, 108, 109, 110, 111, 112, 113, 114, 115, 116, 117, 118, 119, 120, 121, 122])) (.t 79), none⟩,
 ⟨some 81, .indexAddr (.arr 65 1) (.t 12) (.t 74), none⟩,
 ⟨none, .store 1 (.t 81) (.t 80), none⟩])
 (.region [⟨some 82, .mv (.t 18), none⟩,
 ⟨some 1, .mv (.t 82), none⟩]))))))))
 (.seq (.region [⟨some 83, .mv (.t 13), none⟩,
 ⟨some 84, .bin .sub .num (.t 83) (.c (.int .i64 1)), none⟩,
 ⟨some 13, .mv (.t 84), none⟩])
 (.region [⟨some 85, .mv (.t 13), none⟩,
 ⟨some 86, .mv (.t 1), none⟩,
 ⟨some 87, .index .str (.c (.str [48, 49, 50, 51, 52, 53, 54, 55, 56, 57, 97, 98, 99, 100, 101, 102, 103, 104, 105, 106, 107, 108, 109, 110, 111, 112, 113, 114, 115, 116, 117, 118, 119, 120, 121, 122])) (.t 86), none⟩,
 ⟨some 88, .indexAddr (.arr 65 1) (.t 12) (.t 85), none⟩,
 ⟨none, .store 1 (.t 88) (.t 87), none⟩]))))))
 (.seq (.seq (.region [⟨some 89, .mv (.t 3), none⟩])
 (.cond (.t 89)
 (.seq (.region [⟨some 90, .mv (.t 13), none⟩,
 ⟨some 91, .bin .sub .num (.t 90) (.c (.int .i64 1)), none⟩,
 ⟨some 13, .mv (.t 91), none⟩])
 (.region [⟨some 92, .mv (.t 13), none⟩,
 ⟨some 93, .indexAddr (.arr 65 1) (.t 12) (.t 92), none⟩,
 ⟨none, .store 1 (.t 93) (.c (.int .u8 45)), none⟩]))
 (.skip)))
 (.seq (.seq (.region [⟨some 94, .mv (.t 4), none⟩])
 (.cond (.t 94)
 (.seq (.region [⟨some 95, .mv (.t 0), none⟩,
 ⟨some 96, .mv (.t 13), none⟩,
 ⟨some 97, .slice (.arr 65 1) (.t 12) (some (.t 96)) none none, none⟩,
 ⟨some 98, .append 1 1 none (.t 95) (.t 97), none⟩,
 ⟨some 10, .mv (.t 98), none⟩])
 (.ret))
 (.skip)))
 (.seq (.region [⟨some 99, .mv (.t 13), none⟩,
 ⟨some 100, .slice (.arr 65 1) (.t 12) (some (.t 99)) none none, none⟩,
 ⟨some 101, .conv .bytesStr (.t 100), none⟩,
 ⟨some 11, .mv (.t 101), none⟩])
 (.ret)))))))))⟩

/- internal/stringslite.HasSuffix -/
def F240 : AFunc := ⟨21, [.tmp 4],
 .seq (.region [⟨some 4, .mv (.c (.bool false)), none⟩])
 (.seq (.region [⟨some 5, .mv (.t 0), none⟩,
 ⟨some 6, .len .str (.t 5), none⟩,
 ⟨some 7, .mv (.t 1), none⟩,
 ⟨some 8, .len .str (.t 7), none⟩,
 ⟨some 9, .bin .geq .num (.t 6) (.t 8), none⟩,
 ⟨some 10, .mv (.t 9), none⟩,
 ⟨some 11, .mv (.t 0), some (10, true)⟩,
 ⟨some 12, .mv (.t 0), some (10, true)⟩,
 ⟨some 13, .len .str (.t 12), some (10, true)⟩,
 ⟨some 14, .mv (.t 1), some (10, true)⟩,
 ⟨some 15, .len .str (.t 14), some (10, true)⟩,
 ⟨some 16, .bin .sub .num (.t 13) (.t 15), some (10, true)⟩,
 ⟨some 17, .slice .str (.t 11) (some (.t 16)) none none, some (10, true)⟩,
 ⟨some 18, .mv (.t 1), some (10, true)⟩,
 ⟨some 19, .bin .eql .strs (.t 17) (.t 18), some (10, true)⟩,
 ⟨some 20, .pick (.t 10) (.t 19) (.c (.bool false)), none⟩,
 ⟨some 4, .mv (.t 20), none⟩])
 (.ret))⟩


end Go.Proofs.YtndlfkibcelhmaaGreatDoor.Ai
end
section
set_option maxRecDepth 100000
namespace Go.Proofs.YtndlfkibcelhmaaGreatDoor.Ai
open Go
/- strings.explode -/
def F241 : AFunc := ⟨50, [.tmp 4],
 .seq (.region [⟨some 4, .mv (.c (.nilsl)), none⟩])
 (.seq (.region [⟨some 10, .mv (.t 0), none⟩,
 ⟨some 11, .call 269 [(.t 10)], none⟩,
 ⟨some 5, .mv (.t 11), none⟩])
 (.seq (.seq (.region [⟨some 12, .mv (.t 1), none⟩,
 ⟨some 13, .bin .lss .num (.t 12) (.c (.int .i64 0)), none⟩,
 ⟨some 14, .mv (.t 13), none⟩,
 ⟨some 15, .mv (.t 1), some (14, false)⟩,
 ⟨some 16, .mv (.t 5), some (14, false)⟩,
 ⟨some 17, .bin .gtr .num (.t 15) (.t 16), some (14, false)⟩,
 ⟨some 18, .pick (.t 14) (.c (.bool true)) (.t 17), none⟩])
 (.cond (.t 18)
 (.region [⟨some 19, .mv (.t 5), none⟩,
 ⟨some 1, .mv (.t 19), none⟩])
 (.skip)))
 (.seq (.region [⟨some 20, .mv (.t 1), none⟩,
 ⟨some 21, .mkSl 1 16 [.str []] (.t 20) (.t 20), none⟩,
 ⟨some 6, .mv (.t 21), none⟩])
 (.seq (.seq (.region [⟨some 7, .mv (.c (.int .i64 0)), none⟩])
 (.block 0 (.loop (.seq (.seq (.region [⟨some 22, .mv (.t 7), none⟩,
 ⟨some 23, .mv (.t 1), none⟩,
 ⟨some 24, .bin .sub .num (.t 23) (.c (.int .i64 1)), none⟩,
 ⟨some 25, .bin .lss .num (.t 22) (.t 24), none⟩])
 (.cond (.t 25)
 (.skip)
 (.exit 0)))
 (.seq (.block 1 (.seq (.region [⟨some 29, .mv (.t 0), none⟩,
 ⟨some 30, .call 270 [(.t 29)], none⟩,
 ⟨some 28, .mv (.t 30), none⟩,
 ⟨some 31, .extract 0 (.t 28), none⟩,
 ⟨some 32, .extract 1 (.t 28), none⟩,
 ⟨some 8, .mv (.t 31), none⟩,
 ⟨some 9, .mv (.t 32), none⟩])
 (.seq (.region [⟨some 33, .mv (.t 6), none⟩,
 ⟨some 34, .mv (.t 7), none⟩,
 ⟨some 35, .mv (.t 0), none⟩,
 ⟨some 36, .mv (.t 9), none⟩,
 ⟨some 37, .slice .str (.t 35) none (some (.t 36)) none, none⟩,
 ⟨some 38, .indexAddr (.sl 1) (.t 33) (.t 34), none⟩,
 ⟨none, .store 1 (.t 38) (.t 37), none⟩])
 (.region [⟨some 39, .mv (.t 0), none⟩,
 ⟨some 40, .mv (.t 9), none⟩,
 ⟨some 41, .slice .str (.t 39) (some (.t 40)) none none, none⟩,
 ⟨some 0, .mv (.t 41), none⟩]))))
 (.region [⟨some 26, .mv (.t 7), none⟩,
 ⟨some 27, .bin .add .num (.t 26) (.c (.int .i64 1)), none⟩,
 ⟨some 7, .mv (.t 27), none⟩]))))))
 (.seq (.seq (.region [⟨some 42, .mv (.t 1), none⟩,
 ⟨some 43, .bin .gtr .num (.t 42) (.c (.int .i64 0)), none⟩])
 (.cond (.t 43)
 (.region [⟨some 44, .mv (.t 6), none⟩,
 ⟨some 45, .mv (.t 1), none⟩,
 ⟨some 46, .bin .sub .num (.t 45) (.c (.int .i64 1)), none⟩,
 ⟨some 47, .mv (.t 0), none⟩,
 ⟨some 48, .indexAddr (.sl 1) (.t 44) (.t 46), none⟩,
 ⟨none, .store 1 (.t 48) (.t 47), none⟩])
 (.skip)))
 (.seq (.region [⟨some 49, .mv (.t 6), none⟩,
 ⟨some 4, .mv (.t 49), none⟩])
 (.ret)))))))⟩

/- strings.Count -/
def F242 : AFunc := ⟨34, [.tmp 4],
 .seq (.region [⟨some 4, .mv (.c (.int .i64 0)), none⟩])
 (.seq (.seq (.region [⟨some 7, .mv (.t 1), none⟩,
 ⟨some 8, .len .str (.t 7), none⟩,
 ⟨some 9, .bin .eql .num (.t 8) (.c (.int .i64 0)), none⟩])
 (.cond (.t 9)
 (.seq (.region [⟨some 10, .mv (.t 0), none⟩,
 ⟨some 11, .call 269 [(.t 10)], none⟩,
 ⟨some 12, .bin .add .num (.t 11) (.c (.int .i64 1)), none⟩,
 ⟨some 4, .mv (.t 12), none⟩])
 (.ret))
 (.skip)))
 (.seq (.seq (.region [⟨some 13, .mv (.t 1), none⟩,
 ⟨some 14, .len .str (.t 13), none⟩,
 ⟨some 15, .bin .eql .num (.t 14) (.c (.int .i64 1)), none⟩])
 (.cond (.t 15)
 (.seq (.region [⟨some 16, .mv (.t 0), none⟩,
 ⟨some 17, .mv (.t 1), none⟩,
 ⟨some 18, .index .str (.t 17) (.c (.int .i64 0)), none⟩,
 ⟨some 19, .call 271 [(.t 16), (.t 18)], none⟩,
 ⟨some 4, .mv (.t 19), none⟩])
 (.ret))
 (.skip)))
 (.seq (.region [⟨some 5, .mv (.c (.int .i64 0)), none⟩])
 (.block 0 (.loop (.block 1 (.seq (.region [⟨some 20, .mv (.t 0), none⟩,
 ⟨some 21, .mv (.t 1), none⟩,
 ⟨some 22, .call 243 [(.t 20), (.t 21)], none⟩,
 ⟨some 6, .mv (.t 22), none⟩])
 (.seq (.seq (.region [⟨some 23, .mv (.t 6), none⟩,
 ⟨some 24, .bin .eql .num (.t 23) (.c (.int .i64 (-1))), none⟩])
 (.cond (.t 24)
 (.seq (.region [⟨some 25, .mv (.t 5), none⟩,
 ⟨some 4, .mv (.t 25), none⟩])
 (.ret))
 (.skip)))
 (.seq (.region [⟨some 26, .mv (.t 5), none⟩,
 ⟨some 27, .bin .add .num (.t 26) (.c (.int .i64 1)), none⟩,
 ⟨some 5, .mv (.t 27), none⟩])
 (.region [⟨some 28, .mv (.t 0), none⟩,
 ⟨some 29, .mv (.t 6), none⟩,
 ⟨some 30, .mv (.t 1), none⟩,
 ⟨some 31, .len .str (.t 30), none⟩,
 ⟨some 32, .bin .add .num (.t 29) (.t 31), none⟩,
 ⟨some 33, .slice .str (.t 28) (some (.t 32)) none none, none⟩,
 ⟨some 0, .mv (.t 33), none⟩]))))))))))⟩

/- strings.Index -/
def F243 : AFunc := ⟨8, [.tmp 4],
 .seq (.region [⟨some 4, .mv (.c (.int .i64 0)), none⟩])
 (.seq (.region [⟨some 5, .mv (.t 0), none⟩,
 ⟨some 6, .mv (.t 1), none⟩,
 ⟨some 7, .call 272 [(.t 5), (.t 6)], none⟩,
 ⟨some 4, .mv (.t 7), none⟩])
 (.ret))⟩

/- strconv.Atoi -/
def F244 : AFunc := ⟨18, [.tmp 2, .tmp 3],
 .seq (.region [⟨some 2, .mv (.c (.int .i64 0)), none⟩,
 ⟨some 3, .mv (.c (.niliface)), none⟩])
 (.seq (.region [⟨some 7, .mv (.t 0), none⟩,
 ⟨some 8, .call 273 [(.t 7)], none⟩,
 ⟨some 6, .mv (.t 8), none⟩,
 ⟨some 9, .extract 0 (.t 6), none⟩,
 ⟨some 10, .extract 1 (.t 6), none⟩,
 ⟨some 4, .mv (.t 9), none⟩,
 ⟨some 5, .mv (.t 10), none⟩])
 (.seq (.seq (.region [⟨some 11, .mv (.t 5), none⟩,
 ⟨some 12, .bin .neq (.nilc .ifc) (.t 11) (.c (.niliface)), none⟩])
 (.cond (.t 12)
 (.seq (.region [⟨some 13, .mv (.t 4), none⟩,
 ⟨some 14, .mv (.t 0), none⟩,
 ⟨some 15, .mv (.t 5), none⟩,
 ⟨some 16, .call 274 [(.c (.str [65, 116, 111, 105])), (.t 14), (.c (.int .i64 0)), (.c (.int .i64 0)), (.t 15)], none⟩,
 ⟨some 2, .mv (.t 13), none⟩,
 ⟨some 3, .mv (.t 16), none⟩])
 (.ret))
 (.skip)))
 (.seq (.region [⟨some 17, .mv (.t 4), none⟩,
 ⟨some 2, .mv (.t 17), none⟩,
 ⟨some 3, .mv (.c (.niliface)), none⟩])
 (.ret))))⟩

/- math/bits.Len64 -/
def F255 : AFunc := ⟨25, [.tmp 2],
 .seq (.region [⟨some 2, .mv (.c (.int .i64 0)), none⟩])
 (.seq (.seq (.region [⟨some 3, .mv (.t 0), none⟩,
 ⟨some 4, .bin .geq .num (.t 3) (.c (.int .u64 4294967296)), none⟩])
 (.cond (.t 4)
 (.seq (.region [⟨some 5, .mv (.t 0), none⟩,
 ⟨some 6, .bin .shr .num (.t 5) (.c (.int .u64 32)), none⟩,
 ⟨some 0, .mv (.t 6), none⟩])
 (.region [⟨some 2, .mv (.c (.int .i64 32)), none⟩]))
 (.skip)))
 (.seq (.seq (.region [⟨some 7, .mv (.t 0), none⟩,
 ⟨some 8, .bin .geq .num (.t 7) (.c (.int .u64 65536)), none⟩])
 (.cond (.t 8)
 (.seq (.region [⟨some 9, .mv (.t 0), none⟩,
 ⟨some 10, .bin .shr .num (.t 9) (.c (.int .u64 16)), none⟩,
 ⟨some 0, .mv (.t 10), none⟩])
 (.region [⟨some 11, .mv (.t 2), none⟩,
 ⟨some 12, .bin .add .num (.t 11) (.c (.int .i64 16)), none⟩,
 ⟨some 2, .mv (.t 12), none⟩]))
 (.skip)))
 (.seq (.seq (.region [⟨some 13, .mv (.t 0), none⟩,
 ⟨some 14, .bin .geq .num (.t 13) (.c (.int .u64 256)), none⟩])
 (.cond (.t 14)
 (.seq (.region [⟨some 15, .mv (.t 0), none⟩,
 ⟨some 16, .bin .shr .num (.t 15) (.c (.int .u64 8)), none⟩,
 ⟨some 0, .mv (.t 16), none⟩])
 (.region [⟨some 17, .mv (.t 2), none⟩,
 ⟨some 18, .bin .add .num (.t 17) (.c (.int .i64 8)), none⟩,
 ⟨some 2, .mv (.t 18), none⟩]))
 (.skip)))
 (.seq (.region [⟨some 19, .mv (.t 2), none⟩,
 ⟨some 20, .mv (.t 0), none⟩,
 ⟨some 21, .conv (.int .u8) (.t 20), none⟩,
 ⟨some 22, .index .str (.c (.str [0, 1, 2, 2, 3, 3, 3, 3, 4, 4, 4, 4, 4, 4, 4, 4, 5, 5, 5, 5, 5, 5, 5, 5, 5, 5, 5, 5, 5, 5, 5, 5, 6, 6, 6, 6, 6, 6, 6, 6, 6, 6, 6, 6, 6, 6, 6, 6, 6, 6, 6, 6, 6, 6, 6, 6, 6, 6, 6, 6, 6, 6, 6, 6, 7, 7, 7, 7, 7, 7, 7, 7, 7, 7, 7, 7, 7, 7, 7, 7, 7, 7, 7, 7, 7, 7, 7, 7, 7, 7, 7, 7, 7, 7, 7, 7, 7, 7, 7, 7, 7, 7, 7, 7, 7, 7, 7, 7, 7, 7, 7, 7, 7, 7, 7, 7, 7, 7, 7, 7, 7, 7, 7, 7, 7, 7, 7, 7, 8, 8, 8, 8, 8, 8, 8, 8, 8, 8, 8, 8, 8, 8, 8, 8, 8, 8, 8, 8, 8, 8, 8, 8, 8, 8, 8, 8, 8, 8, 8, 8, 8, 8, 8, 8, 8, 8, 8, 8, 8, 8, 8, 8, 8, 8, 8, 8, 8, 8, 8, 8, 8, 8, 8, 8, 8, 8, 8, 8, 8, 8, 8, 8, 8, 8, 8, 8, 8, 8, 8, 8, 8, 8, 8, 8, 8, 8, 8, 8, 8, 8, 8, 8, 8, 8, 8, 8, 8, 8, 8, 8, 8, 8, 8, 8, 8, 8, 8, 8, 8, 8, 8, 8, 8, 8, 8, 8, 8, 8, 8, 8, 8, 8, 8, 8, 8, 8, 8, 8, 8, 8, 8, 8, 8, 8, 8, 8])) (.t 21), none⟩,
 ⟨some 23, .conv (.int .i64) (.t 22), none⟩,
 ⟨some 24, .bin .add .num (.t 19) (.t 23), none⟩,
 ⟨some 2, .mv (.t 24), none⟩])
 (.ret)))))⟩

/- internal/strconv.log10Pow2 -/
def F264 : AFunc := ⟨6, [.tmp 2],
 .seq (.region [⟨some 2, .mv (.c (.int .i64 0)), none⟩])
 (.seq (.region [⟨some 3, .mv (.t 0), none⟩,
 ⟨some 4, .bin .mul .num (.t 3) (.c (.int .i64 78913)), none⟩,
 ⟨some 5, .bin .shr .num (.t 4) (.c (.int .u64 18)), none⟩,
 ⟨some 2, .mv (.t 5), none⟩])
 (.ret))⟩

/- internal/strconv.bool2[int] -/
def F265 : AFunc := ⟨4, [.tmp 2],
 .seq (.region [⟨some 2, .mv (.c (.int .i64 0)), none⟩])
 (.seq (.seq (.region [⟨some 3, .mv (.t 0), none⟩])
 (.cond (.t 3)
 (.seq (.region [⟨some 2, .mv (.c (.int .i64 1)), none⟩])
 (.ret))
 (.skip)))
 (.seq (.region [⟨some 2, .mv (.c (.int .i64 0)), none⟩])
 (.ret)))⟩

/- internal/strconv.isPowerOfTwo -/
def F266 : AFunc := ⟨8, [.tmp 2],
 .seq (.region [⟨some 2, .mv (.c (.bool false)), none⟩])
 (.seq (.region [⟨some 3, .mv (.t 0), none⟩,
 ⟨some 4, .mv (.t 0), none⟩,
 ⟨some 5, .bin .sub .num (.t 4) (.c (.int .i64 1)), none⟩,
 ⟨some 6, .bin .and .num (.t 3) (.t 5), none⟩,
 ⟨some 7, .bin .eql .num (.t 6) (.c (.int .i64 0)), none⟩,
 ⟨some 2, .mv (.t 7), none⟩])
 (.ret))⟩

/- math/bits.TrailingZeros -/
def F267 : AFunc := ⟨8, [.tmp 2],
 .seq (.region [⟨some 2, .mv (.c (.int .i64 0)), none⟩])
 (.seq (.cond (.c (.bool false))
 (.seq (.region [⟨some 3, .mv (.t 0), none⟩,
 ⟨some 4, .conv (.int .u32) (.t 3), none⟩,
 ⟨some 5, .call 283 [(.t 4)], none⟩,
 ⟨some 2, .mv (.t 5), none⟩])
 (.ret))
 (.skip))
 (.seq (.region [⟨some 6, .mv (.t 0), none⟩,
 ⟨some 7, .call 284 [(.t 6)], none⟩,
 ⟨some 2, .mv (.t 7), none⟩])
 (.ret)))⟩

/- unicode/utf8.RuneCountInString -/
def F269 : AFunc := ⟨10, [.tmp 2],
 .seq (.region [⟨some 2, .mv (.c (.int .i64 0)), none⟩])
 (.seq (.seq (.region [⟨some 3, .mv (.t 0), none⟩,
 ⟨some 4, .range (.t 3), none⟩])
 (.block 0 (.loop (.seq (.region [⟨some 5, .next (.t 4), none⟩,
 ⟨some 6, .extract 0 (.t 5), none⟩])
 (.seq (.cond (.t 6)
 (.skip)
 (.exit 0))
 (.block 1 (.region [⟨some 7, .mv (.t 2), none⟩,
 ⟨some 8, .bin .add .num (.t 7) (.c (.int .i64 1)), none⟩,
 ⟨some 2, .mv (.t 8), none⟩])))))))
 (.seq (.region [⟨some 9, .mv (.t 2), none⟩,
 ⟨some 2, .mv (.t 9), none⟩])
 (.ret)))⟩

/- unicode/utf8.DecodeRuneInString -/
def F270 : AFunc := ⟨19, [.tmp 2, .tmp 3],
 .seq (.region [⟨some 2, .mv (.c (.int .i32 0)), none⟩,
 ⟨some 3, .mv (.c (.int .i64 0)), none⟩])
 (.seq (.seq (.region [⟨some 4, .mv (.t 0), none⟩,
 ⟨some 5, .bin .neq .strs (.t 4) (.c (.str [])), none⟩,
 ⟨some 6, .mv (.t 5), none⟩,
 ⟨some 7, .mv (.t 0), some (6, true)⟩,
 ⟨some 8, .index .str (.t 7) (.c (.int .i64 0)), some (6, true)⟩,
 ⟨some 9, .bin .lss .num (.t 8) (.c (.int .u8 128)), some (6, true)⟩,
 ⟨some 10, .pick (.t 6) (.t 9) (.c (.bool false)), none⟩])
 (.cond (.t 10)
 (.seq (.region [⟨some 11, .mv (.t 0), none⟩,
 ⟨some 12, .index .str (.t 11) (.c (.int .i64 0)), none⟩,
 ⟨some 13, .conv (.int .i32) (.t 12), none⟩,
 ⟨some 2, .mv (.t 13), none⟩,
 ⟨some 3, .mv (.c (.int .i64 1)), none⟩])
 (.ret))
 (.region [⟨some 15, .mv (.t 0), none⟩,
 ⟨some 16, .call 285 [(.t 15)], none⟩,
 ⟨some 14, .mv (.t 16), none⟩,
 ⟨some 17, .extract 0 (.t 14), none⟩,
 ⟨some 18, .extract 1 (.t 14), none⟩,
 ⟨some 2, .mv (.t 17), none⟩,
 ⟨some 3, .mv (.t 18), none⟩])))
 (.ret))⟩

/- internal/stringslite.Index -/
def F272 : AFunc := ⟨143, [.tmp 4],
 .seq (.region [⟨some 4, .mv (.c (.int .i64 0)), none⟩])
 (.seq (.region [⟨some 14, .mv (.t 1), none⟩,
 ⟨some 15, .len .str (.t 14), none⟩,
 ⟨some 5, .mv (.t 15), none⟩])
 (.seq (.block 0 (.seq (.region [⟨some 17, .mv (.t 5), none⟩,
 ⟨some 18, .bin .eql .num (.t 17) (.c (.int .i64 0)), none⟩,
 ⟨some 19, .mv (.t 18), none⟩,
 ⟨some 20, .mv (.t 1), some (19, false)⟩,
 ⟨some 21, .mv (.t 0), some (19, false)⟩,
 ⟨some 22, .bin .eql .strs (.t 20) (.t 21), some (19, false)⟩,
 ⟨some 23, .pick (.t 19) (.c (.bool true)) (.t 22), none⟩,
 ⟨some 16, .mv (.t 23), none⟩])
 (.cond (.t 16)
 (.seq (.region [⟨some 4, .mv (.c (.int .i64 0)), none⟩])
 (.ret))
 (.seq (.region [⟨some 25, .mv (.t 5), none⟩,
 ⟨some 26, .bin .eql .num (.t 25) (.c (.int .i64 1)), none⟩,
 ⟨some 24, .mv (.t 26), none⟩])
 (.cond (.t 24)
 (.seq (.region [⟨some 27, .mv (.t 0), none⟩,
 ⟨some 28, .mv (.t 1), none⟩,
 ⟨some 29, .index .str (.t 28) (.c (.int .i64 0)), none⟩,
 ⟨some 30, .call 225 [(.t 27), (.t 29)], none⟩,
 ⟨some 4, .mv (.t 30), none⟩])
 (.ret))
 (.seq (.region [⟨some 32, .mv (.t 5), none⟩,
 ⟨some 33, .mv (.t 0), none⟩,
 ⟨some 34, .len .str (.t 33), none⟩,
 ⟨some 35, .bin .geq .num (.t 32) (.t 34), none⟩,
 ⟨some 31, .mv (.t 35), none⟩])
 (.cond (.t 31)
 (.seq (.region [⟨some 4, .mv (.c (.int .i64 (-1))), none⟩])
 (.ret))
 (.seq (.region [⟨some 37, .mv (.t 5), none⟩,
 ⟨some 38, .load 1 false (.g 1), none⟩,
 ⟨some 39, .bin .leq .num (.t 37) (.t 38), none⟩,
 ⟨some 40, .mv (.t 39), none⟩,
 ⟨some 41, .mv (.t 0), some (40, true)⟩,
 ⟨some 42, .len .str (.t 41), some (40, true)⟩,
 ⟨some 43, .bin .leq .num (.t 42) (.c (.int .i64 64)), some (40, true)⟩,
 ⟨some 44, .pick (.t 40) (.t 43) (.c (.bool false)), none⟩,
 ⟨some 36, .mv (.t 44), none⟩])
 (.cond (.t 36)
 (.seq (.region [⟨some 45, .mv (.t 0), none⟩,
 ⟨some 46, .mv (.t 1), none⟩,
 ⟨some 47, .call 286 [(.t 45), (.t 46)], none⟩,
 ⟨some 4, .mv (.t 47), none⟩])
 (.ret))
 (.skip))))))))))
 (.seq (.region [⟨some 48, .mv (.t 1), none⟩,
 ⟨some 49, .index .str (.t 48) (.c (.int .i64 0)), none⟩,
 ⟨some 6, .mv (.t 49), none⟩])
 (.seq (.region [⟨some 50, .mv (.t 1), none⟩,
 ⟨some 51, .index .str (.t 50) (.c (.int .i64 1)), none⟩,
 ⟨some 7, .mv (.t 51), none⟩])
 (.seq (.region [⟨some 8, .mv (.c (.int .i64 0)), none⟩])
 (.seq (.region [⟨some 52, .mv (.t 0), none⟩,
 ⟨some 53, .len .str (.t 52), none⟩,
 ⟨some 54, .mv (.t 5), none⟩,
 ⟨some 55, .bin .sub .num (.t 53) (.t 54), none⟩,
 ⟨some 56, .bin .add .num (.t 55) (.c (.int .i64 1)), none⟩,
 ⟨some 9, .mv (.t 56), none⟩])
 (.seq (.region [⟨some 10, .mv (.c (.int .i64 0)), none⟩])
 (.seq (.block 1 (.loop (.seq (.seq (.region [⟨some 57, .mv (.t 8), none⟩,
 ⟨some 58, .mv (.t 9), none⟩,
 ⟨some 59, .bin .lss .num (.t 57) (.t 58), none⟩])
 (.cond (.t 59)
 (.skip)
 (.exit 1)))
 (.block 2 (.seq (.seq (.region [⟨some 60, .mv (.t 0), none⟩,
 ⟨some 61, .mv (.t 8), none⟩,
 ⟨some 62, .index .str (.t 60) (.t 61), none⟩,
 ⟨some 63, .mv (.t 6), none⟩,
 ⟨some 64, .bin .neq .num (.t 62) (.t 63), none⟩])
 (.cond (.t 64)
 (.seq (.region [⟨some 65, .mv (.t 0), none⟩,
 ⟨some 66, .mv (.t 8), none⟩,
 ⟨some 67, .bin .add .num (.t 66) (.c (.int .i64 1)), none⟩,
 ⟨some 68, .mv (.t 9), none⟩,
 ⟨some 69, .slice .str (.t 65) (some (.t 67)) (some (.t 68)) none, none⟩,
 ⟨some 70, .mv (.t 6), none⟩,
 ⟨some 71, .call 225 [(.t 69), (.t 70)], none⟩,
 ⟨some 11, .mv (.t 71), none⟩])
 (.seq (.seq (.region [⟨some 72, .mv (.t 11), none⟩,
 ⟨some 73, .bin .lss .num (.t 72) (.c (.int .i64 0)), none⟩])
 (.cond (.t 73)
 (.seq (.region [⟨some 4, .mv (.c (.int .i64 (-1))), none⟩])
 (.ret))
 (.skip)))
 (.region [⟨some 74, .mv (.t 8), none⟩,
 ⟨some 75, .mv (.t 11), none⟩,
 ⟨some 76, .bin .add .num (.t 75) (.c (.int .i64 1)), none⟩,
 ⟨some 77, .bin .add .num (.t 74) (.t 76), none⟩,
 ⟨some 8, .mv (.t 77), none⟩])))
 (.skip)))
 (.seq (.seq (.region [⟨some 78, .mv (.t 0), none⟩,
 ⟨some 79, .mv (.t 8), none⟩,
 ⟨some 80, .bin .add .num (.t 79) (.c (.int .i64 1)), none⟩,
 ⟨some 81, .index .str (.t 78) (.t 80), none⟩,
 ⟨some 82, .mv (.t 7), none⟩,
 ⟨some 83, .bin .eql .num (.t 81) (.t 82), none⟩,
 ⟨some 84, .mv (.t 83), none⟩,
 ⟨some 85, .mv (.t 0), some (84, true)⟩,
 ⟨some 86, .mv (.t 8), some (84, true)⟩,
 ⟨some 87, .mv (.t 8), some (84, true)⟩,
 ⟨some 88, .mv (.t 5), some (84, true)⟩,
 ⟨some 89, .bin .add .num (.t 87) (.t 88), some (84, true)⟩,
 ⟨some 90, .slice .str (.t 85) (some (.t 86)) (some (.t 89)) none, some (84, true)⟩,
 ⟨some 91, .mv (.t 1), some (84, true)⟩,
 ⟨some 92, .bin .eql .strs (.t 90) (.t 91), some (84, true)⟩,
 ⟨some 93, .pick (.t 84) (.t 92) (.c (.bool false)), none⟩])
 (.cond (.t 93)
 (.seq (.region [⟨some 94, .mv (.t 8), none⟩,
 ⟨some 4, .mv (.t 94), none⟩])
 (.ret))
 (.skip)))
 (.seq (.region [⟨some 95, .mv (.t 8), none⟩,
 ⟨some 96, .bin .add .num (.t 95) (.c (.int .i64 1)), none⟩,
 ⟨some 8, .mv (.t 96), none⟩])
 (.seq (.region [⟨some 97, .mv (.t 10), none⟩,
 ⟨some 98, .bin .add .num (.t 97) (.c (.int .i64 1)), none⟩,
 ⟨some 10, .mv (.t 98), none⟩])
 (.seq (.region [⟨some 99, .mv (.t 5), none⟩,
 ⟨some 100, .load 1 false (.g 1), none⟩,
 ⟨some 101, .bin .leq .num (.t 99) (.t 100), none⟩,
 ⟨some 102, .mv (.t 101), none⟩,
 ⟨some 103, .mv (.t 10), some (102, true)⟩,
 ⟨some 104, .mv (.t 8), some (102, true)⟩,
 ⟨some 105, .call 287 [(.t 104)], some (102, true)⟩,
 ⟨some 106, .bin .gtr .num (.t 103) (.t 105), some (102, true)⟩,
 ⟨some 107, .pick (.t 102) (.t 106) (.c (.bool false)), none⟩])
 (.cond (.t 107)
 (.seq (.region [⟨some 108, .mv (.t 0), none⟩,
 ⟨some 109, .mv (.t 8), none⟩,
 ⟨some 110, .slice .str (.t 108) (some (.t 109)) none none, none⟩,
 ⟨some 111, .mv (.t 1), none⟩,
 ⟨some 112, .call 286 [(.t 110), (.t 111)], none⟩,
 ⟨some 12, .mv (.t 112), none⟩])
 (.seq (.seq (.region [⟨some 113, .mv (.t 12), none⟩,
 ⟨some 114, .bin .geq .num (.t 113) (.c (.int .i64 0)), none⟩])
 (.cond (.t 114)
 (.seq (.region [⟨some 115, .mv (.t 12), none⟩,
 ⟨some 116, .mv (.t 8), none⟩,
 ⟨some 117, .bin .add .num (.t 115) (.t 116), none⟩,
 ⟨some 4, .mv (.t 117), none⟩])
 (.ret))
 (.skip)))
 (.seq (.region [⟨some 4, .mv (.c (.int .i64 (-1))), none⟩])
 (.ret))))
 (.seq (.region [⟨some 118, .mv (.t 5), none⟩,
 ⟨some 119, .load 1 false (.g 1), none⟩,
 ⟨some 120, .bin .gtr .num (.t 118) (.t 119), none⟩,
 ⟨some 121, .mv (.t 120), none⟩,
 ⟨some 122, .mv (.t 10), some (121, true)⟩,
 ⟨some 123, .mv (.t 8), some (121, true)⟩,
 ⟨some 124, .bin .shr .num (.t 123) (.c (.int .u64 4)), some (121, true)⟩,
 ⟨some 125, .bin .add .num (.c (.int .i64 4)) (.t 124), some (121, true)⟩,
 ⟨some 126, .bin .geq .num (.t 122) (.t 125), some (121, true)⟩,
 ⟨some 127, .pick (.t 121) (.t 126) (.c (.bool false)), none⟩,
 ⟨some 128, .mv (.t 127), none⟩,
 ⟨some 129, .mv (.t 8), some (128, true)⟩,
 ⟨some 130, .mv (.t 9), some (128, true)⟩,
 ⟨some 131, .bin .lss .num (.t 129) (.t 130), some (128, true)⟩,
 ⟨some 132, .pick (.t 128) (.t 131) (.c (.bool false)), none⟩])
 (.cond (.t 132)
 (.seq (.region [⟨some 133, .mv (.t 0), none⟩,
 ⟨some 134, .mv (.t 8), none⟩,
 ⟨some 135, .slice .str (.t 133) (some (.t 134)) none none, none⟩,
 ⟨some 136, .mv (.t 1), none⟩,
 ⟨some 137, .call 288 [(.t 135), (.t 136)], none⟩,
 ⟨some 13, .mv (.t 137), none⟩])
 (.seq (.seq (.region [⟨some 138, .mv (.t 13), none⟩,
 ⟨some 139, .bin .lss .num (.t 138) (.c (.int .i64 0)), none⟩])
 (.cond (.t 139)
 (.seq (.region [⟨some 4, .mv (.c (.int .i64 (-1))), none⟩])
 (.ret))
 (.skip)))
 (.seq (.region [⟨some 140, .mv (.t 8), none⟩,
 ⟨some 141, .mv (.t 13), none⟩,
 ⟨some 142, .bin .add .num (.t 140) (.t 141), none⟩,
 ⟨some 4, .mv (.t 142), none⟩])
 (.ret))))
 (.skip)))))))))))))
 (.seq (.region [⟨some 4, .mv (.c (.int .i64 (-1))), none⟩])
 (.ret))))))))))⟩

/- internal/strconv.Atoi -/
def F273 : AFunc := ⟨77, [.tmp 2, .tmp 3],
 .seq (.region [⟨some 2, .mv (.c (.int .i64 0)), none⟩,
 ⟨some 3, .mv (.c (.niliface)), none⟩])
 (.seq (.region [⟨some 11, .mv (.t 0), none⟩,
 ⟨some 12, .len .str (.t 11), none⟩,
 ⟨some 4, .mv (.t 12), none⟩])
 (.seq (.seq (.region [⟨some 13, .mv (.c (.bool false)), none⟩,
 ⟨some 14, .mv (.t 4), some (13, true)⟩,
 ⟨some 15, .bin .lss .num (.c (.int .i64 0)) (.t 14), some (13, true)⟩,
 ⟨some 16, .mv (.t 15), some (13, true)⟩,
 ⟨some 17, .mv (.t 4), some (16, true)⟩,
 ⟨some 18, .bin .lss .num (.t 17) (.c (.int .i64 10)), some (16, true)⟩,
 ⟨some 19, .pick (.t 16) (.t 18) (.c (.bool false)), some (13, true)⟩,
 ⟨some 20, .pick (.t 13) (.t 19) (.c (.bool false)), none⟩,
 ⟨some 21, .mv (.t 20), none⟩,
 ⟨some 22, .mv (.c (.bool true)), some (21, false)⟩,
 ⟨some 23, .mv (.t 4), some (22, true)⟩,
 ⟨some 24, .bin .lss .num (.c (.int .i64 0)) (.t 23), some (22, true)⟩,
 ⟨some 25, .mv (.t 24), some (22, true)⟩,
 ⟨some 26, .mv (.t 4), some (25, true)⟩,
 ⟨some 27, .bin .lss .num (.t 26) (.c (.int .i64 19)), some (25, true)⟩,
 ⟨some 28, .pick (.t 25) (.t 27) (.c (.bool false)), some (22, true)⟩,
 ⟨some 29, .pick (.t 22) (.t 28) (.c (.bool false)), some (21, false)⟩,
 ⟨some 30, .pick (.t 21) (.c (.bool true)) (.t 29), none⟩])
 (.cond (.t 30)
 (.seq (.region [⟨some 31, .mv (.t 0), none⟩,
 ⟨some 5, .mv (.t 31), none⟩])
 (.seq (.seq (.region [⟨some 32, .mv (.t 0), none⟩,
 ⟨some 33, .index .str (.t 32) (.c (.int .i64 0)), none⟩,
 ⟨some 34, .bin .eql .num (.t 33) (.c (.int .u8 45)), none⟩,
 ⟨some 35, .mv (.t 34), none⟩,
 ⟨some 36, .mv (.t 0), some (35, false)⟩,
 ⟨some 37, .index .str (.t 36) (.c (.int .i64 0)), some (35, false)⟩,
 ⟨some 38, .bin .eql .num (.t 37) (.c (.int .u8 43)), some (35, false)⟩,
 ⟨some 39, .pick (.t 35) (.c (.bool true)) (.t 38), none⟩])
 (.cond (.t 39)
 (.seq (.region [⟨some 40, .mv (.t 0), none⟩,
 ⟨some 41, .slice .str (.t 40) (some (.c (.int .i64 1))) none none, none⟩,
 ⟨some 0, .mv (.t 41), none⟩])
 (.seq (.region [⟨some 42, .mv (.t 0), none⟩,
 ⟨some 43, .len .str (.t 42), none⟩,
 ⟨some 44, .bin .lss .num (.t 43) (.c (.int .i64 1)), none⟩])
 (.cond (.t 44)
 (.seq (.region [⟨some 45, .mkIface 331 (.c (.int .i64 2)), none⟩,
 ⟨some 2, .mv (.c (.int .i64 0)), none⟩,
 ⟨some 3, .mv (.t 45), none⟩])
 (.ret))
 (.skip))))
 (.skip)))
 (.seq (.region [⟨some 6, .mv (.c (.int .i64 0)), none⟩])
 (.seq (.seq (.region [⟨some 46, .mv (.t 0), none⟩,
 ⟨some 47, .conv .strBytes (.t 46), none⟩,
 ⟨some 48, .len .sl (.t 47), none⟩,
 ⟨some 49, .mv (.c (.int .i64 0)), none⟩])
 (.block 0 (.loop (.seq (.region [⟨some 50, .bin .lss .num (.t 49) (.t 48), none⟩])
 (.seq (.cond (.t 50)
 (.skip)
 (.exit 0))
 (.seq (.block 1 (.seq (.region [⟨some 51, .indexAddr (.sl 1) (.t 47) (.t 49), none⟩,
 ⟨some 52, .load 1 false (.t 51), none⟩,
 ⟨some 8, .mv (.t 52), none⟩])
 (.seq (.region [⟨some 53, .mv (.t 8), none⟩,
 ⟨some 54, .bin .sub .num (.t 53) (.c (.int .u8 48)), none⟩,
 ⟨some 8, .mv (.t 54), none⟩])
 (.seq (.seq (.region [⟨some 55, .mv (.t 8), none⟩,
 ⟨some 56, .bin .gtr .num (.t 55) (.c (.int .u8 9)), none⟩])
 (.cond (.t 56)
 (.seq (.region [⟨some 57, .mkIface 331 (.c (.int .i64 2)), none⟩,
 ⟨some 2, .mv (.c (.int .i64 0)), none⟩,
 ⟨some 3, .mv (.t 57), none⟩])
 (.ret))
 (.skip)))
 (.region [⟨some 58, .mv (.t 6), none⟩,
 ⟨some 59, .bin .mul .num (.t 58) (.c (.int .i64 10)), none⟩,
 ⟨some 60, .mv (.t 8), none⟩,
 ⟨some 61, .conv (.int .i64) (.t 60), none⟩,
 ⟨some 62, .bin .add .num (.t 59) (.t 61), none⟩,
 ⟨some 6, .mv (.t 62), none⟩])))))
 (.region [⟨some 63, .bin .add .num (.t 49) (.c (.int .i64 1)), none⟩,
 ⟨some 49, .mv (.t 63), none⟩])))))))
 (.seq (.seq (.region [⟨some 64, .mv (.t 5), none⟩,
 ⟨some 65, .index .str (.t 64) (.c (.int .i64 0)), none⟩,
 ⟨some 66, .bin .eql .num (.t 65) (.c (.int .u8 45)), none⟩])
 (.cond (.t 66)
 (.region [⟨some 67, .mv (.t 6), none⟩,
 ⟨some 68, .un .neg (.t 67), none⟩,
 ⟨some 6, .mv (.t 68), none⟩])
 (.skip)))
 (.seq (.region [⟨some 69, .mv (.t 6), none⟩,
 ⟨some 2, .mv (.t 69), none⟩,
 ⟨some 3, .mv (.c (.niliface)), none⟩])
 (.ret)))))))
 (.skip)))
 (.seq (.region [⟨some 71, .mv (.t 0), none⟩,
 ⟨some 72, .call 289 [(.t 71), (.c (.int .i64 10)), (.c (.int .i64 0))], none⟩,
 ⟨some 70, .mv (.t 72), none⟩,
 ⟨some 73, .extract 0 (.t 70), none⟩,
 ⟨some 74, .extract 1 (.t 70), none⟩,
 ⟨some 9, .mv (.t 73), none⟩,
 ⟨some 10, .mv (.t 74), none⟩])
 (.seq (.region [⟨some 75, .mv (.t 9), none⟩,
 ⟨some 76, .mv (.t 10), none⟩,
 ⟨some 2, .mv (.t 75), none⟩,
 ⟨some 3, .mv (.t 76), none⟩])
 (.ret)))))⟩

/- strconv.toError -/
def F274 : AFunc := ⟨43, [.tmp 10],
 .seq (.region [⟨some 10, .mv (.c (.niliface)), none⟩])
 (.seq (.seq (.region [⟨some 11, .mv (.t 4), none⟩])
 (.block 0 (.seq (.region [⟨some 13, .mkIface 331 (.c (.int .i64 2)), none⟩,
 ⟨some 14, .stuck, none⟩,
 ⟨some 12, .mv (.t 14), none⟩])
 (.cond (.t 12)
 (.seq (.region [⟨some 15, .mv (.t 0), none⟩,
 ⟨some 16, .mv (.t 1), none⟩,
 ⟨some 17, .call 290 [(.t 15), (.t 16)], none⟩,
 ⟨some 18, .mkIface 334 (.t 17), none⟩,
 ⟨some 10, .mv (.t 18), none⟩])
 (.ret))
 (.seq (.region [⟨some 20, .mkIface 331 (.c (.int .i64 1)), none⟩,
 ⟨some 21, .stuck, none⟩,
 ⟨some 19, .mv (.t 21), none⟩])
 (.cond (.t 19)
 (.seq (.region [⟨some 22, .mv (.t 0), none⟩,
 ⟨some 23, .mv (.t 1), none⟩,
 ⟨some 24, .call 291 [(.t 22), (.t 23)], none⟩,
 ⟨some 25, .mkIface 334 (.t 24), none⟩,
 ⟨some 10, .mv (.t 25), none⟩])
 (.ret))
 (.seq (.region [⟨some 27, .mkIface 331 (.c (.int .i64 3)), none⟩,
 ⟨some 28, .stuck, none⟩,
 ⟨some 26, .mv (.t 28), none⟩])
 (.cond (.t 26)
 (.seq (.region [⟨some 29, .mv (.t 0), none⟩,
 ⟨some 30, .mv (.t 1), none⟩,
 ⟨some 31, .mv (.t 2), none⟩,
 ⟨some 32, .call 292 [(.t 29), (.t 30), (.t 31)], none⟩,
 ⟨some 33, .mkIface 334 (.t 32), none⟩,
 ⟨some 10, .mv (.t 33), none⟩])
 (.ret))
 (.seq (.region [⟨some 35, .mkIface 331 (.c (.int .i64 4)), none⟩,
 ⟨some 36, .stuck, none⟩,
 ⟨some 34, .mv (.t 36), none⟩])
 (.cond (.t 34)
 (.seq (.region [⟨some 37, .mv (.t 0), none⟩,
 ⟨some 38, .mv (.t 1), none⟩,
 ⟨some 39, .mv (.t 3), none⟩,
 ⟨some 40, .call 293 [(.t 37), (.t 38), (.t 39)], none⟩,
 ⟨some 41, .mkIface 334 (.t 40), none⟩,
 ⟨some 10, .mv (.t 41), none⟩])
 (.ret))
 (.skip)))))))))))
 (.seq (.region [⟨some 42, .mv (.t 4), none⟩,
 ⟨some 10, .mv (.t 42), none⟩])
 (.ret)))⟩

/- math/bits.TrailingZeros32 -/
def F283 : AFunc := ⟨14, [.tmp 2],
 .seq (.region [⟨some 2, .mv (.c (.int .i64 0)), none⟩])
 (.seq (.seq (.region [⟨some 3, .mv (.t 0), none⟩,
 ⟨some 4, .bin .eql .num (.t 3) (.c (.int .u32 0)), none⟩])
 (.cond (.t 4)
 (.seq (.region [⟨some 2, .mv (.c (.int .i64 32)), none⟩])
 (.ret))
 (.skip)))
 (.seq (.region [⟨some 5, .mv (.t 0), none⟩,
 ⟨some 6, .mv (.t 0), none⟩,
 ⟨some 7, .un .neg (.t 6), none⟩,
 ⟨some 8, .bin .and .num (.t 5) (.t 7), none⟩,
 ⟨some 9, .bin .mul .num (.t 8) (.c (.int .u32 125613361)), none⟩,
 ⟨some 10, .bin .shr .num (.t 9) (.c (.int .u64 27)), none⟩,
 ⟨some 11, .indexAddr (.arr 32 1) (.g 2) (.t 10), none⟩,
 ⟨some 12, .load 1 false (.t 11), none⟩,
 ⟨some 13, .conv (.int .i64) (.t 12), none⟩,
 ⟨some 2, .mv (.t 13), none⟩])
 (.ret)))⟩

/- math/bits.TrailingZeros64 -/
def F284 : AFunc := ⟨14, [.tmp 2],
 .seq (.region [⟨some 2, .mv (.c (.int .i64 0)), none⟩])
 (.seq (.seq (.region [⟨some 3, .mv (.t 0), none⟩,
 ⟨some 4, .bin .eql .num (.t 3) (.c (.int .u64 0)), none⟩])
 (.cond (.t 4)
 (.seq (.region [⟨some 2, .mv (.c (.int .i64 64)), none⟩])
 (.ret))
 (.skip)))
 (.seq (.region [⟨some 5, .mv (.t 0), none⟩,
 ⟨some 6, .mv (.t 0), none⟩,
 ⟨some 7, .un .neg (.t 6), none⟩,
 ⟨some 8, .bin .and .num (.t 5) (.t 7), none⟩,
 ⟨some 9, .bin .mul .num (.t 8) (.c (.int .u64 285870213051353865)), none⟩,
 ⟨some 10, .bin .shr .num (.t 9) (.c (.int .u64 58)), none⟩,
 ⟨some 11, .indexAddr (.arr 64 1) (.g 3) (.t 10), none⟩,
 ⟨some 12, .load 1 false (.t 11), none⟩,
 ⟨some 13, .conv (.int .i64) (.t 12), none⟩,
 ⟨some 2, .mv (.t 13), none⟩])
 (.ret)))⟩

/- unicode/utf8.decodeRuneInStringSlow -/
def F285 : AFunc := ⟨117, [.tmp 2, .tmp 3],
 .seq (.region [⟨some 2, .mv (.c (.int .i32 0)), none⟩,
 ⟨some 3, .mv (.c (.int .i64 0)), none⟩])
 (.seq (.region [⟨some 13, .mv (.t 0), none⟩,
 ⟨some 14, .len .str (.t 13), none⟩,
 ⟨some 4, .mv (.t 14), none⟩])
 (.seq (.seq (.region [⟨some 15, .mv (.t 4), none⟩,
 ⟨some 16, .bin .lss .num (.t 15) (.c (.int .i64 1)), none⟩])
 (.cond (.t 16)
 (.seq (.region [⟨some 2, .mv (.c (.int .i32 65533)), none⟩,
 ⟨some 3, .mv (.c (.int .i64 0)), none⟩])
 (.ret))
 (.skip)))
 (.seq (.region [⟨some 17, .mv (.t 0), none⟩,
 ⟨some 18, .index .str (.t 17) (.c (.int .i64 0)), none⟩,
 ⟨some 5, .mv (.t 18), none⟩])
 (.seq (.region [⟨some 19, .mv (.t 5), none⟩,
 ⟨some 20, .indexAddr (.arr 256 1) (.g 4) (.t 19), none⟩,
 ⟨some 21, .load 1 false (.t 20), none⟩,
 ⟨some 6, .mv (.t 21), none⟩])
 (.seq (.seq (.region [⟨some 22, .mv (.t 6), none⟩,
 ⟨some 23, .bin .geq .num (.t 22) (.c (.int .u8 240)), none⟩])
 (.cond (.t 23)
 (.seq (.region [⟨some 24, .mv (.t 6), none⟩,
 ⟨some 25, .conv (.int .i32) (.t 24), none⟩,
 ⟨some 26, .bin .shl .num (.t 25) (.c (.int .u64 31)), none⟩,
 ⟨some 27, .bin .shr .num (.t 26) (.c (.int .u64 31)), none⟩,
 ⟨some 7, .mv (.t 27), none⟩])
 (.seq (.region [⟨some 28, .mv (.t 0), none⟩,
 ⟨some 29, .index .str (.t 28) (.c (.int .i64 0)), none⟩,
 ⟨some 30, .conv (.int .i32) (.t 29), none⟩,
 ⟨some 31, .mv (.t 7), none⟩,
 ⟨some 32, .bin .andNot .num (.t 30) (.t 31), none⟩,
 ⟨some 33, .mv (.t 7), none⟩,
 ⟨some 34, .bin .and .num (.c (.int .i32 65533)) (.t 33), none⟩,
 ⟨some 35, .bin .or .num (.t 32) (.t 34), none⟩,
 ⟨some 2, .mv (.t 35), none⟩,
 ⟨some 3, .mv (.c (.int .i64 1)), none⟩])
 (.ret)))
 (.skip)))
 (.seq (.region [⟨some 36, .mv (.t 6), none⟩,
 ⟨some 37, .bin .and .num (.t 36) (.c (.int .u8 7)), none⟩,
 ⟨some 38, .conv (.int .i64) (.t 37), none⟩,
 ⟨some 8, .mv (.t 38), none⟩])
 (.seq (.region [⟨some 39, .mv (.t 6), none⟩,
 ⟨some 40, .bin .shr .num (.t 39) (.c (.int .u64 4)), none⟩,
 ⟨some 41, .indexAddr (.arr 16 2) (.g 5) (.t 40), none⟩,
 ⟨some 42, .load 2 true (.t 41), none⟩,
 ⟨some 9, .alloc [.int .u8 0, .int .u8 0], none⟩,
 ⟨none, .store 2 (.t 9) (.t 42), none⟩])
 (.seq (.seq (.region [⟨some 43, .mv (.t 4), none⟩,
 ⟨some 44, .mv (.t 8), none⟩,
 ⟨some 45, .bin .lss .num (.t 43) (.t 44), none⟩])
 (.cond (.t 45)
 (.seq (.region [⟨some 2, .mv (.c (.int .i32 65533)), none⟩,
 ⟨some 3, .mv (.c (.int .i64 1)), none⟩])
 (.ret))
 (.skip)))
 (.seq (.region [⟨some 46, .mv (.t 0), none⟩,
 ⟨some 47, .index .str (.t 46) (.c (.int .i64 1)), none⟩,
 ⟨some 10, .mv (.t 47), none⟩])
 (.seq (.seq (.region [⟨some 48, .mv (.t 10), none⟩,
 ⟨some 49, .fieldAddr 0 (.t 9), none⟩,
 ⟨some 50, .load 1 false (.t 49), none⟩,
 ⟨some 51, .bin .lss .num (.t 48) (.t 50), none⟩,
 ⟨some 52, .mv (.t 51), none⟩,
 ⟨some 53, .fieldAddr 1 (.t 9), some (52, false)⟩,
 ⟨some 54, .load 1 false (.t 53), some (52, false)⟩,
 ⟨some 55, .mv (.t 10), some (52, false)⟩,
 ⟨some 56, .bin .lss .num (.t 54) (.t 55), some (52, false)⟩,
 ⟨some 57, .pick (.t 52) (.c (.bool true)) (.t 56), none⟩])
 (.cond (.t 57)
 (.seq (.region [⟨some 2, .mv (.c (.int .i32 65533)), none⟩,
 ⟨some 3, .mv (.c (.int .i64 1)), none⟩])
 (.ret))
 (.skip)))
 (.seq (.seq (.region [⟨some 58, .mv (.t 8), none⟩,
 ⟨some 59, .bin .leq .num (.t 58) (.c (.int .i64 2)), none⟩])
 (.cond (.t 59)
 (.seq (.region [⟨some 60, .mv (.t 5), none⟩,
 ⟨some 61, .bin .and .num (.t 60) (.c (.int .u8 31)), none⟩,
 ⟨some 62, .conv (.int .i32) (.t 61), none⟩,
 ⟨some 63, .bin .shl .num (.t 62) (.c (.int .u64 6)), none⟩,
 ⟨some 64, .mv (.t 10), none⟩,
 ⟨some 65, .bin .and .num (.t 64) (.c (.int .u8 63)), none⟩,
 ⟨some 66, .conv (.int .i32) (.t 65), none⟩,
 ⟨some 67, .bin .or .num (.t 63) (.t 66), none⟩,
 ⟨some 2, .mv (.t 67), none⟩,
 ⟨some 3, .mv (.c (.int .i64 2)), none⟩])
 (.ret))
 (.skip)))
 (.seq (.region [⟨some 68, .mv (.t 0), none⟩,
 ⟨some 69, .index .str (.t 68) (.c (.int .i64 2)), none⟩,
 ⟨some 11, .mv (.t 69), none⟩])
 (.seq (.seq (.region [⟨some 70, .mv (.t 11), none⟩,
 ⟨some 71, .bin .lss .num (.t 70) (.c (.int .u8 128)), none⟩,
 ⟨some 72, .mv (.t 71), none⟩,
 ⟨some 73, .mv (.t 11), some (72, false)⟩,
 ⟨some 74, .bin .lss .num (.c (.int .u8 191)) (.t 73), some (72, false)⟩,
 ⟨some 75, .pick (.t 72) (.c (.bool true)) (.t 74), none⟩])
 (.cond (.t 75)
 (.seq (.region [⟨some 2, .mv (.c (.int .i32 65533)), none⟩,
 ⟨some 3, .mv (.c (.int .i64 1)), none⟩])
 (.ret))
 (.skip)))
 (.seq (.seq (.region [⟨some 76, .mv (.t 8), none⟩,
 ⟨some 77, .bin .leq .num (.t 76) (.c (.int .i64 3)), none⟩])
 (.cond (.t 77)
 (.seq (.region [⟨some 78, .mv (.t 5), none⟩,
 ⟨some 79, .bin .and .num (.t 78) (.c (.int .u8 15)), none⟩,
 ⟨some 80, .conv (.int .i32) (.t 79), none⟩,
 ⟨some 81, .bin .shl .num (.t 80) (.c (.int .u64 12)), none⟩,
 ⟨some 82, .mv (.t 10), none⟩,
 ⟨some 83, .bin .and .num (.t 82) (.c (.int .u8 63)), none⟩,
 ⟨some 84, .conv (.int .i32) (.t 83), none⟩,
 ⟨some 85, .bin .shl .num (.t 84) (.c (.int .u64 6)), none⟩,
 ⟨some 86, .bin .or .num (.t 81) (.t 85), none⟩,
 ⟨some 87, .mv (.t 11), none⟩,
 ⟨some 88, .bin .and .num (.t 87) (.c (.int .u8 63)), none⟩,
 ⟨some 89, .conv (.int .i32) (.t 88), none⟩,
 ⟨some 90, .bin .or .num (.t 86) (.t 89), none⟩,
 ⟨some 2, .mv (.t 90), none⟩,
 ⟨some 3, .mv (.c (.int .i64 3)), none⟩])
 (.ret))
 (.skip)))
 (.seq (.region [⟨some 91, .mv (.t 0), none⟩,
 ⟨some 92, .index .str (.t 91) (.c (.int .i64 3)), none⟩,
 ⟨some 12, .mv (.t 92), none⟩])
 (.seq (.seq (.region [⟨some 93, .mv (.t 12), none⟩,
 ⟨some 94, .bin .lss .num (.t 93) (.c (.int .u8 128)), none⟩,
 ⟨some 95, .mv (.t 94), none⟩,
 ⟨some 96, .mv (.t 12), some (95, false)⟩,
 ⟨some 97, .bin .lss .num (.c (.int .u8 191)) (.t 96), some (95, false)⟩,
 ⟨some 98, .pick (.t 95) (.c (.bool true)) (.t 97), none⟩])
 (.cond (.t 98)
 (.seq (.region [⟨some 2, .mv (.c (.int .i32 65533)), none⟩,
 ⟨some 3, .mv (.c (.int .i64 1)), none⟩])
 (.ret))
 (.skip)))
 (.seq (.region [⟨some 99, .mv (.t 5), none⟩,
 ⟨some 100, .bin .and .num (.t 99) (.c (.int .u8 7)), none⟩,
 ⟨some 101, .conv (.int .i32) (.t 100), none⟩,
 ⟨some 102, .bin .shl .num (.t 101) (.c (.int .u64 18)), none⟩,
 ⟨some 103, .mv (.t 10), none⟩,
 ⟨some 104, .bin .and .num (.t 103) (.c (.int .u8 63)), none⟩,
 ⟨some 105, .conv (.int .i32) (.t 104), none⟩,
 ⟨some 106, .bin .shl .num (.t 105) (.c (.int .u64 12)), none⟩,
 ⟨some 107, .bin .or .num (.t 102) (.t 106), none⟩,
 ⟨some 108, .mv (.t 11), none⟩,
 ⟨some 109, .bin .and .num (.t 108) (.c (.int .u8 63)), none⟩,
 ⟨some 110, .conv (.int .i32) (.t 109), none⟩,
 ⟨some 111, .bin .shl .num (.t 110) (.c (.int .u64 6)), none⟩,
 ⟨some 112, .bin .or .num (.t 107) (.t 111), none⟩,
 ⟨some 113, .mv (.t 12), none⟩,
 ⟨some 114, .bin .and .num (.t 113) (.c (.int .u8 63)), none⟩,
 ⟨some 115, .conv (.int .i32) (.t 114), none⟩,
 ⟨some 116, .bin .or .num (.t 112) (.t 115), none⟩,
 ⟨some 2, .mv (.t 116), none⟩,
 ⟨some 3, .mv (.c (.int .i64 4)), none⟩])
 (.ret))))))))))))))))))⟩

/- internal/bytealg.Cutover -/
def F287 : AFunc := ⟨6, [.tmp 2],
 .seq (.region [⟨some 2, .mv (.c (.int .i64 0)), none⟩])
 (.seq (.region [⟨some 3, .mv (.t 0), none⟩,
 ⟨some 4, .bin .add .num (.t 3) (.c (.int .i64 16)), none⟩,
 ⟨some 5, .bin .quo .num (.t 4) (.c (.int .i64 8)), none⟩,
 ⟨some 2, .mv (.t 5), none⟩])
 (.ret))⟩

/- internal/bytealg.IndexRabinKarp[string] -/
def F288 : AFunc := ⟨81, [.tmp 4],
 .seq (.region [⟨some 4, .mv (.c (.int .i64 0)), none⟩])
 (.seq (.region [⟨some 12, .mv (.t 1), none⟩,
 ⟨some 13, .call 296 [(.t 12)], none⟩,
 ⟨some 11, .mv (.t 13), none⟩,
 ⟨some 14, .extract 0 (.t 11), none⟩,
 ⟨some 15, .extract 1 (.t 11), none⟩,
 ⟨some 5, .mv (.t 14), none⟩,
 ⟨some 6, .mv (.t 15), none⟩])
 (.seq (.region [⟨some 16, .mv (.t 1), none⟩,
 ⟨some 17, .len .str (.t 16), none⟩,
 ⟨some 7, .mv (.t 17), none⟩])
 (.seq (.region [⟨some 8, .mv (.c (.int .u32 0)), none⟩])
 (.seq (.seq (.region [⟨some 9, .mv (.c (.int .i64 0)), none⟩])
 (.block 0 (.loop (.seq (.seq (.region [⟨some 18, .mv (.t 9), none⟩,
 ⟨some 19, .mv (.t 7), none⟩,
 ⟨some 20, .bin .lss .num (.t 18) (.t 19), none⟩])
 (.cond (.t 20)
 (.skip)
 (.exit 0)))
 (.seq (.block 1 (.region [⟨some 23, .mv (.t 8), none⟩,
 ⟨some 24, .bin .mul .num (.t 23) (.c (.int .u32 16777619)), none⟩,
 ⟨some 25, .mv (.t 0), none⟩,
 ⟨some 26, .mv (.t 9), none⟩,
 ⟨some 27, .index .str (.t 25) (.t 26), none⟩,
 ⟨some 28, .conv (.int .u32) (.t 27), none⟩,
 ⟨some 29, .bin .add .num (.t 24) (.t 28), none⟩,
 ⟨some 8, .mv (.t 29), none⟩]))
 (.region [⟨some 21, .mv (.t 9), none⟩,
 ⟨some 22, .bin .add .num (.t 21) (.c (.int .i64 1)), none⟩,
 ⟨some 9, .mv (.t 22), none⟩]))))))
 (.seq (.seq (.region [⟨some 30, .mv (.t 8), none⟩,
 ⟨some 31, .mv (.t 5), none⟩,
 ⟨some 32, .bin .eql .num (.t 30) (.t 31), none⟩,
 ⟨some 33, .mv (.t 32), none⟩,
 ⟨some 34, .mv (.t 0), some (33, true)⟩,
 ⟨some 35, .mv (.t 7), some (33, true)⟩,
 ⟨some 36, .slice .str (.t 34) none (some (.t 35)) none, some (33, true)⟩,
 ⟨some 37, .mv (.t 1), some (33, true)⟩,
 ⟨some 38, .bin .eql .strs (.t 36) (.t 37), some (33, true)⟩,
 ⟨some 39, .pick (.t 33) (.t 38) (.c (.bool false)), none⟩])
 (.cond (.t 39)
 (.seq (.region [⟨some 4, .mv (.c (.int .i64 0)), none⟩])
 (.ret))
 (.skip)))
 (.seq (.seq (.region [⟨some 40, .mv (.t 7), none⟩,
 ⟨some 10, .mv (.t 40), none⟩])
 (.block 2 (.loop (.seq (.seq (.region [⟨some 41, .mv (.t 10), none⟩,
 ⟨some 42, .mv (.t 0), none⟩,
 ⟨some 43, .len .str (.t 42), none⟩,
 ⟨some 44, .bin .lss .num (.t 41) (.t 43), none⟩])
 (.cond (.t 44)
 (.skip)
 (.exit 2)))
 (.block 3 (.seq (.region [⟨some 45, .mv (.t 8), none⟩,
 ⟨some 46, .bin .mul .num (.t 45) (.c (.int .u32 16777619)), none⟩,
 ⟨some 8, .mv (.t 46), none⟩])
 (.seq (.region [⟨some 47, .mv (.t 8), none⟩,
 ⟨some 48, .mv (.t 0), none⟩,
 ⟨some 49, .mv (.t 10), none⟩,
 ⟨some 50, .index .str (.t 48) (.t 49), none⟩,
 ⟨some 51, .conv (.int .u32) (.t 50), none⟩,
 ⟨some 52, .bin .add .num (.t 47) (.t 51), none⟩,
 ⟨some 8, .mv (.t 52), none⟩])
 (.seq (.region [⟨some 53, .mv (.t 8), none⟩,
 ⟨some 54, .mv (.t 6), none⟩,
 ⟨some 55, .mv (.t 0), none⟩,
 ⟨some 56, .mv (.t 10), none⟩,
 ⟨some 57, .mv (.t 7), none⟩,
 ⟨some 58, .bin .sub .num (.t 56) (.t 57), none⟩,
 ⟨some 59, .index .str (.t 55) (.t 58), none⟩,
 ⟨some 60, .conv (.int .u32) (.t 59), none⟩,
 ⟨some 61, .bin .mul .num (.t 54) (.t 60), none⟩,
 ⟨some 62, .bin .sub .num (.t 53) (.t 61), none⟩,
 ⟨some 8, .mv (.t 62), none⟩])
 (.seq (.region [⟨some 63, .mv (.t 10), none⟩,
 ⟨some 64, .bin .add .num (.t 63) (.c (.int .i64 1)), none⟩,
 ⟨some 10, .mv (.t 64), none⟩])
 (.seq (.region [⟨some 65, .mv (.t 8), none⟩,
 ⟨some 66, .mv (.t 5), none⟩,
 ⟨some 67, .bin .eql .num (.t 65) (.t 66), none⟩,
 ⟨some 68, .mv (.t 67), none⟩,
 ⟨some 69, .mv (.t 0), some (68, true)⟩,
 ⟨some 70, .mv (.t 10), some (68, true)⟩,
 ⟨some 71, .mv (.t 7), some (68, true)⟩,
 ⟨some 72, .bin .sub .num (.t 70) (.t 71), some (68, true)⟩,
 ⟨some 73, .mv (.t 10), some (68, true)⟩,
 ⟨some 74, .slice .str (.t 69) (some (.t 72)) (some (.t 73)) none, some (68, true)⟩,
 ⟨some 75, .mv (.t 1), some (68, true)⟩,
 ⟨some 76, .bin .eql .strs (.t 74) (.t 75), some (68, true)⟩,
 ⟨some 77, .pick (.t 68) (.t 76) (.c (.bool false)), none⟩])
 (.cond (.t 77)
 (.seq (.region [⟨some 78, .mv (.t 10), none⟩,
 ⟨some 79, .mv (.t 7), none⟩,
 ⟨some 80, .bin .sub .num (.t 78) (.t 79), none⟩,
 ⟨some 4, .mv (.t 80), none⟩])
 (.ret))
 (.skip))))))))))))
 (.seq (.region [⟨some 4, .mv (.c (.int .i64 (-1))), none⟩])
 (.ret))))))))⟩

/- internal/strconv.ParseInt -/
def F289 : AFunc := ⟨73, [.tmp 6, .tmp 7],
 .seq (.region [⟨some 6, .mv (.c (.int .i64 0)), none⟩,
 ⟨some 7, .mv (.c (.niliface)), none⟩])
 (.seq (.seq (.region [⟨some 12, .mv (.t 0), none⟩,
 ⟨some 13, .bin .eql .strs (.t 12) (.c (.str [])), none⟩])
 (.cond (.t 13)
 (.seq (.region [⟨some 14, .mkIface 331 (.c (.int .i64 2)), none⟩,
 ⟨some 6, .mv (.c (.int .i64 0)), none⟩,
 ⟨some 7, .mv (.t 14), none⟩])
 (.ret))
 (.skip)))
 (.seq (.region [⟨some 8, .mv (.c (.bool false)), none⟩])
 (.seq (.seq (.region [⟨some 15, .mv (.t 0), none⟩,
 ⟨some 16, .index .str (.t 15) (.c (.int .i64 0)), none⟩])
 (.block 0 (.seq (.region [⟨some 18, .bin .eql .num (.t 16) (.c (.int .u8 43)), none⟩,
 ⟨some 17, .mv (.t 18), none⟩])
 (.cond (.t 17)
 (.region [⟨some 19, .mv (.t 0), none⟩,
 ⟨some 20, .slice .str (.t 19) (some (.c (.int .i64 1))) none none, none⟩,
 ⟨some 0, .mv (.t 20), none⟩])
 (.seq (.region [⟨some 22, .bin .eql .num (.t 16) (.c (.int .u8 45)), none⟩,
 ⟨some 21, .mv (.t 22), none⟩])
 (.cond (.t 21)
 (.seq (.region [⟨some 23, .mv (.t 0), none⟩,
 ⟨some 24, .slice .str (.t 23) (some (.c (.int .i64 1))) none none, none⟩,
 ⟨some 0, .mv (.t 24), none⟩])
 (.region [⟨some 8, .mv (.c (.bool true)), none⟩]))
 (.skip)))))))
 (.seq (.region [⟨some 9, .mv (.c (.int .u64 0)), none⟩])
 (.seq (.region [⟨some 26, .mv (.t 0), none⟩,
 ⟨some 27, .mv (.t 1), none⟩,
 ⟨some 28, .mv (.t 2), none⟩,
 ⟨some 29, .call 297 [(.t 26), (.t 27), (.t 28)], none⟩,
 ⟨some 25, .mv (.t 29), none⟩,
 ⟨some 30, .extract 0 (.t 25), none⟩,
 ⟨some 31, .extract 1 (.t 25), none⟩,
 ⟨some 9, .mv (.t 30), none⟩,
 ⟨some 7, .mv (.t 31), none⟩])
 (.seq (.seq (.region [⟨some 32, .mv (.t 7), none⟩,
 ⟨some 33, .bin .neq (.nilc .ifc) (.t 32) (.c (.niliface)), none⟩,
 ⟨some 34, .mv (.t 33), none⟩,
 ⟨some 35, .mv (.t 7), some (34, true)⟩,
 ⟨some 36, .mkIface 331 (.c (.int .i64 1)), some (34, true)⟩,
 ⟨some 37, .stuck, some (34, true)⟩,
 ⟨some 38, .pick (.t 34) (.t 37) (.c (.bool false)), none⟩])
 (.cond (.t 38)
 (.seq (.region [⟨some 39, .mv (.t 7), none⟩,
 ⟨some 6, .mv (.c (.int .i64 0)), none⟩,
 ⟨some 7, .mv (.t 39), none⟩])
 (.ret))
 (.skip)))
 (.seq (.seq (.region [⟨some 40, .mv (.t 2), none⟩,
 ⟨some 41, .bin .eql .num (.t 40) (.c (.int .i64 0)), none⟩])
 (.cond (.t 41)
 (.region [⟨some 2, .mv (.c (.int .i64 64)), none⟩])
 (.skip)))
 (.seq (.region [⟨some 42, .mv (.t 2), none⟩,
 ⟨some 43, .bin .sub .num (.t 42) (.c (.int .i64 1)), none⟩,
 ⟨some 44, .conv (.int .u64) (.t 43), none⟩,
 ⟨some 45, .bin .shl .num (.c (.int .u64 1)) (.t 44), none⟩,
 ⟨some 10, .mv (.t 45), none⟩])
 (.seq (.seq (.region [⟨some 46, .mv (.t 8), none⟩,
 ⟨some 47, .un .not (.t 46), none⟩,
 ⟨some 48, .mv (.t 47), none⟩,
 ⟨some 49, .mv (.t 9), some (48, true)⟩,
 ⟨some 50, .mv (.t 10), some (48, true)⟩,
 ⟨some 51, .bin .geq .num (.t 49) (.t 50), some (48, true)⟩,
 ⟨some 52, .pick (.t 48) (.t 51) (.c (.bool false)), none⟩])
 (.cond (.t 52)
 (.seq (.region [⟨some 53, .mv (.t 10), none⟩,
 ⟨some 54, .bin .sub .num (.t 53) (.c (.int .u64 1)), none⟩,
 ⟨some 55, .conv (.int .i64) (.t 54), none⟩,
 ⟨some 56, .mkIface 331 (.c (.int .i64 1)), none⟩,
 ⟨some 6, .mv (.t 55), none⟩,
 ⟨some 7, .mv (.t 56), none⟩])
 (.ret))
 (.skip)))
 (.seq (.seq (.region [⟨some 57, .mv (.t 8), none⟩,
 ⟨some 58, .mv (.t 57), none⟩,
 ⟨some 59, .mv (.t 9), some (58, true)⟩,
 ⟨some 60, .mv (.t 10), some (58, true)⟩,
 ⟨some 61, .bin .gtr .num (.t 59) (.t 60), some (58, true)⟩,
 ⟨some 62, .pick (.t 58) (.t 61) (.c (.bool false)), none⟩])
 (.cond (.t 62)
 (.seq (.region [⟨some 63, .mv (.t 10), none⟩,
 ⟨some 64, .conv (.int .i64) (.t 63), none⟩,
 ⟨some 65, .un .neg (.t 64), none⟩,
 ⟨some 66, .mkIface 331 (.c (.int .i64 1)), none⟩,
 ⟨some 6, .mv (.t 65), none⟩,
 ⟨some 7, .mv (.t 66), none⟩])
 (.ret))
 (.skip)))
 (.seq (.region [⟨some 67, .mv (.t 9), none⟩,
 ⟨some 68, .conv (.int .i64) (.t 67), none⟩,
 ⟨some 11, .mv (.t 68), none⟩])
 (.seq (.seq (.region [⟨some 69, .mv (.t 8), none⟩])
 (.cond (.t 69)
 (.region [⟨some 70, .mv (.t 11), none⟩,
 ⟨some 71, .un .neg (.t 70), none⟩,
 ⟨some 11, .mv (.t 71), none⟩])
 (.skip)))
 (.seq (.region [⟨some 72, .mv (.t 11), none⟩,
 ⟨some 6, .mv (.t 72), none⟩,
 ⟨some 7, .mv (.c (.niliface)), none⟩])
 (.ret))))))))))))))⟩

/- strconv.syntaxError -/
def F290 : AFunc := ⟨11, [.tmp 4],
 .seq (.region [⟨some 4, .mv (.c (.nilptr)), none⟩])
 (.seq (.regionD [⟨⟨some 5, .mv (.t 0), none⟩, false, []⟩,
 ⟨⟨some 6, .mv (.t 1), none⟩, false, []⟩,
 ⟨⟨some 7, .call 298 [(.t 6)], none⟩, true, []⟩,
 ⟨⟨some 8, .load 1 false (.g 6), none⟩, false, []⟩,
 ⟨⟨some 9, .build [.str [], .str [], .niliface] [(0, 1, (.t 5)), (1, 1, (.t 7)), (2, 1, (.t 8))], none⟩, false, []⟩,
 ⟨⟨some 10, .box (.t 9), none⟩, false, []⟩,
 ⟨⟨some 4, .mv (.t 10), none⟩, false, []⟩])
 (.ret))⟩

/- strconv.rangeError -/
def F291 : AFunc := ⟨11, [.tmp 4],
 .seq (.region [⟨some 4, .mv (.c (.nilptr)), none⟩])
 (.seq (.regionD [⟨⟨some 5, .mv (.t 0), none⟩, false, []⟩,
 ⟨⟨some 6, .mv (.t 1), none⟩, false, []⟩,
 ⟨⟨some 7, .call 298 [(.t 6)], none⟩, true, []⟩,
 ⟨⟨some 8, .load 1 false (.g 7), none⟩, false, []⟩,
 ⟨⟨some 9, .build [.str [], .str [], .niliface] [(0, 1, (.t 5)), (1, 1, (.t 7)), (2, 1, (.t 8))], none⟩, false, []⟩,
 ⟨⟨some 10, .box (.t 9), none⟩, false, []⟩,
 ⟨⟨some 4, .mv (.t 10), none⟩, false, []⟩])
 (.ret))⟩

/- strconv.baseError -/
def F292 : AFunc := ⟨16, [.tmp 6],
 .seq (.region [⟨some 6, .mv (.c (.nilptr)), none⟩])
 (.seq (.region [⟨some 7, .mv (.t 0), none⟩,
 ⟨some 8, .mv (.t 1), none⟩,
 ⟨some 9, .call 298 [(.t 8)], none⟩,
 ⟨some 10, .mv (.t 2), none⟩,
 ⟨some 11, .call 122 [(.t 10)], none⟩,
 ⟨some 12, .bin .add .strs (.c (.str [105, 110, 118, 97, 108, 105, 100, 32, 98, 97, 115, 101, 32])) (.t 11), none⟩,
 ⟨some 13, .call 299 [(.t 12)], none⟩,
 ⟨some 14, .build [.str [], .str [], .niliface] [(0, 1, (.t 7)), (1, 1, (.t 9)), (2, 1, (.t 13))], none⟩,
 ⟨some 15, .box (.t 14), none⟩,
 ⟨some 6, .mv (.t 15), none⟩])
 (.ret))⟩

/- strconv.bitSizeError -/
def F293 : AFunc := ⟨16, [.tmp 6],
 .seq (.region [⟨some 6, .mv (.c (.nilptr)), none⟩])
 (.seq (.region [⟨some 7, .mv (.t 0), none⟩,
 ⟨some 8, .mv (.t 1), none⟩,
 ⟨some 9, .call 298 [(.t 8)], none⟩,
 ⟨some 10, .mv (.t 2), none⟩,
 ⟨some 11, .call 122 [(.t 10)], none⟩,
 ⟨some 12, .bin .add .strs (.c (.str [105, 110, 118, 97, 108, 105, 100, 32, 98, 105, 116, 32, 115, 105, 122, 101, 32])) (.t 11), none⟩,
 ⟨some 13, .call 299 [(.t 12)], none⟩,
 ⟨some 14, .build [.str [], .str [], .niliface] [(0, 1, (.t 7)), (1, 1, (.t 9)), (2, 1, (.t 13))], none⟩,
 ⟨some 15, .box (.t 14), none⟩,
 ⟨some 6, .mv (.t 15), none⟩])
 (.ret))⟩

/- internal/bytealg.hashStr[string] -/
def F296 : AFunc := ⟨39, [.tmp 2, .tmp 3],
 .seq (.region [⟨some 2, .mv (.c (.int .u32 0)), none⟩,
 ⟨some 3, .mv (.c (.int .u32 0)), none⟩])
 (.seq (.region [⟨some 4, .mv (.c (.int .u32 0)), none⟩])
 (.seq (.seq (.region [⟨some 5, .mv (.c (.int .i64 0)), none⟩])
 (.block 0 (.loop (.seq (.seq (.region [⟨some 9, .mv (.t 5), none⟩,
 ⟨some 10, .mv (.t 0), none⟩,
 ⟨some 11, .len .str (.t 10), none⟩,
 ⟨some 12, .bin .lss .num (.t 9) (.t 11), none⟩])
 (.cond (.t 12)
 (.skip)
 (.exit 0)))
 (.seq (.block 1 (.region [⟨some 15, .mv (.t 4), none⟩,
 ⟨some 16, .bin .mul .num (.t 15) (.c (.int .u32 16777619)), none⟩,
 ⟨some 17, .mv (.t 0), none⟩,
 ⟨some 18, .mv (.t 5), none⟩,
 ⟨some 19, .index .str (.t 17) (.t 18), none⟩,
 ⟨some 20, .conv (.int .u32) (.t 19), none⟩,
 ⟨some 21, .bin .add .num (.t 16) (.t 20), none⟩,
 ⟨some 4, .mv (.t 21), none⟩]))
 (.region [⟨some 13, .mv (.t 5), none⟩,
 ⟨some 14, .bin .add .num (.t 13) (.c (.int .i64 1)), none⟩,
 ⟨some 5, .mv (.t 14), none⟩]))))))
 (.seq (.region [⟨some 6, .mv (.c (.int .u32 1)), none⟩,
 ⟨some 7, .mv (.c (.int .u32 16777619)), none⟩])
 (.seq (.seq (.region [⟨some 22, .mv (.t 0), none⟩,
 ⟨some 23, .len .str (.t 22), none⟩,
 ⟨some 8, .mv (.t 23), none⟩])
 (.block 2 (.loop (.seq (.seq (.region [⟨some 24, .mv (.t 8), none⟩,
 ⟨some 25, .bin .gtr .num (.t 24) (.c (.int .i64 0)), none⟩])
 (.cond (.t 25)
 (.skip)
 (.exit 2)))
 (.seq (.block 3 (.seq (.seq (.region [⟨some 28, .mv (.t 8), none⟩,
 ⟨some 29, .bin .and .num (.t 28) (.c (.int .i64 1)), none⟩,
 ⟨some 30, .bin .neq .num (.t 29) (.c (.int .i64 0)), none⟩])
 (.cond (.t 30)
 (.region [⟨some 31, .mv (.t 6), none⟩,
 ⟨some 32, .mv (.t 7), none⟩,
 ⟨some 33, .bin .mul .num (.t 31) (.t 32), none⟩,
 ⟨some 6, .mv (.t 33), none⟩])
 (.skip)))
 (.region [⟨some 34, .mv (.t 7), none⟩,
 ⟨some 35, .mv (.t 7), none⟩,
 ⟨some 36, .bin .mul .num (.t 34) (.t 35), none⟩,
 ⟨some 7, .mv (.t 36), none⟩])))
 (.region [⟨some 26, .mv (.t 8), none⟩,
 ⟨some 27, .bin .shr .num (.t 26) (.c (.int .u64 1)), none⟩,
 ⟨some 8, .mv (.t 27), none⟩]))))))
 (.seq (.region [⟨some 37, .mv (.t 4), none⟩,
 ⟨some 38, .mv (.t 6), none⟩,
 ⟨some 2, .mv (.t 37), none⟩,
 ⟨some 3, .mv (.t 38), none⟩])
 (.ret))))))⟩

/- internal/strconv.ParseUint -/
def F297 : AFunc := ⟨172, [.tmp 6, .tmp 7],
 .seq (.region [⟨some 6, .mv (.c (.int .u64 0)), none⟩,
 ⟨some 7, .mv (.c (.niliface)), none⟩])
 (.seq (.seq (.region [⟨some 18, .mv (.t 0), none⟩,
 ⟨some 19, .bin .eql .strs (.t 18) (.c (.str [])), none⟩])
 (.cond (.t 19)
 (.seq (.region [⟨some 20, .mkIface 331 (.c (.int .i64 2)), none⟩,
 ⟨some 6, .mv (.c (.int .u64 0)), none⟩,
 ⟨some 7, .mv (.t 20), none⟩])
 (.ret))
 (.skip)))
 (.seq (.region [⟨some 21, .mv (.t 1), none⟩,
 ⟨some 22, .bin .eql .num (.t 21) (.c (.int .i64 0)), none⟩,
 ⟨some 8, .mv (.t 22), none⟩])
 (.seq (.region [⟨some 23, .mv (.t 0), none⟩,
 ⟨some 9, .mv (.t 23), none⟩])
 (.seq (.block 0 (.seq (.region [⟨some 26, .mv (.t 1), none⟩,
 ⟨some 27, .bin .leq .num (.c (.int .i64 2)) (.t 26), none⟩,
 ⟨some 28, .mv (.t 27), none⟩,
 ⟨some 29, .mv (.t 1), some (28, true)⟩,
 ⟨some 30, .bin .leq .num (.t 29) (.c (.int .i64 36)), some (28, true)⟩,
 ⟨some 31, .pick (.t 28) (.t 30) (.c (.bool false)), none⟩,
 ⟨some 25, .mv (.t 31), none⟩])
 (.cond (.t 25)
 (.skip)
 (.seq (.region [⟨some 33, .mv (.t 1), none⟩,
 ⟨some 34, .bin .eql .num (.t 33) (.c (.int .i64 0)), none⟩,
 ⟨some 32, .mv (.t 34), none⟩])
 (.cond (.t 32)
 (.seq (.region [⟨some 1, .mv (.c (.int .i64 10)), none⟩])
 (.seq (.region [⟨some 35, .mv (.t 0), none⟩,
 ⟨some 36, .index .str (.t 35) (.c (.int .i64 0)), none⟩,
 ⟨some 37, .bin .eql .num (.t 36) (.c (.int .u8 48)), none⟩])
 (.cond (.t 37)
 (.block 1 (.seq (.region [⟨some 41, .mv (.t 0), none⟩,
 ⟨some 42, .len .str (.t 41), none⟩,
 ⟨some 43, .bin .geq .num (.t 42) (.c (.int .i64 3)), none⟩,
 ⟨some 44, .mv (.t 43), none⟩,
 ⟨some 45, .mv (.t 0), some (44, true)⟩,
 ⟨some 46, .index .str (.t 45) (.c (.int .i64 1)), some (44, true)⟩,
 ⟨some 47, .call 300 [(.t 46)], some (44, true)⟩,
 ⟨some 48, .bin .eql .num (.t 47) (.c (.int .u8 98)), some (44, true)⟩,
 ⟨some 49, .pick (.t 44) (.t 48) (.c (.bool false)), none⟩,
 ⟨some 40, .mv (.t 49), none⟩])
 (.cond (.t 40)
 (.seq (.region [⟨some 1, .mv (.c (.int .i64 2)), none⟩])
 (.region [⟨some 50, .mv (.t 0), none⟩,
 ⟨some 51, .slice .str (.t 50) (some (.c (.int .i64 2))) none none, none⟩,
 ⟨some 0, .mv (.t 51), none⟩]))
 (.seq (.region [⟨some 53, .mv (.t 0), none⟩,
 ⟨some 54, .len .str (.t 53), none⟩,
 ⟨some 55, .bin .geq .num (.t 54) (.c (.int .i64 3)), none⟩,
 ⟨some 56, .mv (.t 55), none⟩,
 ⟨some 57, .mv (.t 0), some (56, true)⟩,
 ⟨some 58, .index .str (.t 57) (.c (.int .i64 1)), some (56, true)⟩,
 ⟨some 59, .call 300 [(.t 58)], some (56, true)⟩,
 ⟨some 60, .bin .eql .num (.t 59) (.c (.int .u8 111)), some (56, true)⟩,
 ⟨some 61, .pick (.t 56) (.t 60) (.c (.bool false)), none⟩,
 ⟨some 52, .mv (.t 61), none⟩])
 (.cond (.t 52)
 (.seq (.region [⟨some 1, .mv (.c (.int .i64 8)), none⟩])
 (.region [⟨some 62, .mv (.t 0), none⟩,
 ⟨some 63, .slice .str (.t 62) (some (.c (.int .i64 2))) none none, none⟩,
 ⟨some 0, .mv (.t 63), none⟩]))
 (.seq (.region [⟨some 65, .mv (.t 0), none⟩,
 ⟨some 66, .len .str (.t 65), none⟩,
 ⟨some 67, .bin .geq .num (.t 66) (.c (.int .i64 3)), none⟩,
 ⟨some 68, .mv (.t 67), none⟩,
 ⟨some 69, .mv (.t 0), some (68, true)⟩,
 ⟨some 70, .index .str (.t 69) (.c (.int .i64 1)), some (68, true)⟩,
 ⟨some 71, .call 300 [(.t 70)], some (68, true)⟩,
 ⟨some 72, .bin .eql .num (.t 71) (.c (.int .u8 120)), some (68, true)⟩,
 ⟨some 73, .pick (.t 68) (.t 72) (.c (.bool false)), none⟩,
 ⟨some 64, .mv (.t 73), none⟩])
 (.cond (.t 64)
 (.seq (.region [⟨some 1, .mv (.c (.int .i64 16)), none⟩])
 (.region [⟨some 74, .mv (.t 0), none⟩,
 ⟨some 75, .slice .str (.t 74) (some (.c (.int .i64 2))) none none, none⟩,
 ⟨some 0, .mv (.t 75), none⟩]))
 (.seq (.region [⟨some 1, .mv (.c (.int .i64 8)), none⟩])
 (.region [⟨some 38, .mv (.t 0), none⟩,
 ⟨some 39, .slice .str (.t 38) (some (.c (.int .i64 1))) none none, none⟩,
 ⟨some 0, .mv (.t 39), none⟩])))))))))
 (.skip))))
 (.seq (.region [⟨some 24, .mkIface 331 (.c (.int .i64 3)), none⟩,
 ⟨some 6, .mv (.c (.int .u64 0)), none⟩,
 ⟨some 7, .mv (.t 24), none⟩])
 (.ret)))))))
 (.seq (.seq (.region [⟨some 76, .mv (.t 2), none⟩,
 ⟨some 77, .bin .eql .num (.t 76) (.c (.int .i64 0)), none⟩])
 (.cond (.t 77)
 (.region [⟨some 2, .mv (.c (.int .i64 64)), none⟩])
 (.seq (.region [⟨some 78, .mv (.t 2), none⟩,
 ⟨some 79, .bin .lss .num (.t 78) (.c (.int .i64 0)), none⟩,
 ⟨some 80, .mv (.t 79), none⟩,
 ⟨some 81, .mv (.t 2), some (80, false)⟩,
 ⟨some 82, .bin .gtr .num (.t 81) (.c (.int .i64 64)), some (80, false)⟩,
 ⟨some 83, .pick (.t 80) (.c (.bool true)) (.t 82), none⟩])
 (.cond (.t 83)
 (.seq (.region [⟨some 84, .mkIface 331 (.c (.int .i64 4)), none⟩,
 ⟨some 6, .mv (.c (.int .u64 0)), none⟩,
 ⟨some 7, .mv (.t 84), none⟩])
 (.ret))
 (.skip)))))
 (.seq (.region [⟨some 10, .mv (.c (.int .u64 0)), none⟩])
 (.seq (.seq (.region [⟨some 85, .mv (.t 1), none⟩])
 (.block 2 (.seq (.region [⟨some 91, .bin .eql .num (.t 85) (.c (.int .i64 10)), none⟩,
 ⟨some 90, .mv (.t 91), none⟩])
 (.cond (.t 90)
 (.region [⟨some 10, .mv (.c (.int .u64 1844674407370955162)), none⟩])
 (.seq (.region [⟨some 93, .bin .eql .num (.t 85) (.c (.int .i64 16)), none⟩,
 ⟨some 92, .mv (.t 93), none⟩])
 (.cond (.t 92)
 (.region [⟨some 10, .mv (.c (.int .u64 1152921504606846976)), none⟩])
 (.region [⟨some 86, .mv (.t 1), none⟩,
 ⟨some 87, .conv (.int .u64) (.t 86), none⟩,
 ⟨some 88, .bin .quo .num (.c (.int .u64 18446744073709551615)) (.t 87), none⟩,
 ⟨some 89, .bin .add .num (.t 88) (.c (.int .u64 1)), none⟩,
 ⟨some 10, .mv (.t 89), none⟩])))))))
 (.seq (.region [⟨some 94, .mv (.t 2), none⟩,
 ⟨some 95, .conv (.int .u64) (.t 94), none⟩,
 ⟨some 96, .bin .shl .num (.c (.int .u64 1)) (.t 95), none⟩,
 ⟨some 97, .bin .sub .num (.t 96) (.c (.int .u64 1)), none⟩,
 ⟨some 11, .mv (.t 97), none⟩])
 (.seq (.region [⟨some 12, .mv (.c (.bool false)), none⟩])
 (.seq (.region [⟨some 13, .mv (.c (.int .u64 0)), none⟩])
 (.seq (.seq (.region [⟨some 98, .mv (.t 0), none⟩,
 ⟨some 99, .conv .strBytes (.t 98), none⟩,
 ⟨some 100, .len .sl (.t 99), none⟩,
 ⟨some 101, .mv (.c (.int .i64 0)), none⟩])
 (.block 3 (.loop (.seq (.region [⟨some 102, .bin .lss .num (.t 101) (.t 100), none⟩])
 (.seq (.cond (.t 102)
 (.skip)
 (.exit 3))
 (.seq (.block 4 (.seq (.region [⟨some 103, .indexAddr (.sl 1) (.t 99) (.t 101), none⟩,
 ⟨some 104, .load 1 false (.t 103), none⟩,
 ⟨some 15, .mv (.t 104), none⟩])
 (.seq (.region [⟨some 16, .mv (.c (.int .u8 0)), none⟩])
 (.seq (.block 5 (.seq (.region [⟨some 107, .mv (.t 15), none⟩,
 ⟨some 108, .bin .eql .num (.t 107) (.c (.int .u8 95)), none⟩,
 ⟨some 109, .mv (.t 108), none⟩,
 ⟨some 110, .mv (.t 8), some (109, true)⟩,
 ⟨some 111, .pick (.t 109) (.t 110) (.c (.bool false)), none⟩,
 ⟨some 106, .mv (.t 111), none⟩])
 (.cond (.t 106)
 (.seq (.region [⟨some 12, .mv (.c (.bool true)), none⟩])
 (.exit 4))
 (.seq (.region [⟨some 113, .mv (.t 15), none⟩,
 ⟨some 114, .bin .leq .num (.c (.int .u8 48)) (.t 113), none⟩,
 ⟨some 115, .mv (.t 114), none⟩,
 ⟨some 116, .mv (.t 15), some (115, true)⟩,
 ⟨some 117, .bin .leq .num (.t 116) (.c (.int .u8 57)), some (115, true)⟩,
 ⟨some 118, .pick (.t 115) (.t 117) (.c (.bool false)), none⟩,
 ⟨some 112, .mv (.t 118), none⟩])
 (.cond (.t 112)
 (.region [⟨some 119, .mv (.t 15), none⟩,
 ⟨some 120, .bin .sub .num (.t 119) (.c (.int .u8 48)), none⟩,
 ⟨some 16, .mv (.t 120), none⟩])
 (.seq (.region [⟨some 122, .mv (.t 15), none⟩,
 ⟨some 123, .call 300 [(.t 122)], none⟩,
 ⟨some 124, .bin .leq .num (.c (.int .u8 97)) (.t 123), none⟩,
 ⟨some 125, .mv (.t 124), none⟩,
 ⟨some 126, .mv (.t 15), some (125, true)⟩,
 ⟨some 127, .call 300 [(.t 126)], some (125, true)⟩,
 ⟨some 128, .bin .leq .num (.t 127) (.c (.int .u8 122)), some (125, true)⟩,
 ⟨some 129, .pick (.t 125) (.t 128) (.c (.bool false)), none⟩,
 ⟨some 121, .mv (.t 129), none⟩])
 (.cond (.t 121)
 (.region [⟨some 130, .mv (.t 15), none⟩,
 ⟨some 131, .call 300 [(.t 130)], none⟩,
 ⟨some 132, .bin .sub .num (.t 131) (.c (.int .u8 97)), none⟩,
 ⟨some 133, .bin .add .num (.t 132) (.c (.int .u8 10)), none⟩,
 ⟨some 16, .mv (.t 133), none⟩])
 (.seq (.region [⟨some 105, .mkIface 331 (.c (.int .i64 2)), none⟩,
 ⟨some 6, .mv (.c (.int .u64 0)), none⟩,
 ⟨some 7, .mv (.t 105), none⟩])
 (.ret)))))))))
 (.seq (.seq (.region [⟨some 134, .mv (.t 16), none⟩,
 ⟨some 135, .mv (.t 1), none⟩,
 ⟨some 136, .conv (.int .u8) (.t 135), none⟩,
 ⟨some 137, .bin .geq .num (.t 134) (.t 136), none⟩])
 (.cond (.t 137)
 (.seq (.region [⟨some 138, .mkIface 331 (.c (.int .i64 2)), none⟩,
 ⟨some 6, .mv (.c (.int .u64 0)), none⟩,
 ⟨some 7, .mv (.t 138), none⟩])
 (.ret))
 (.skip)))
 (.seq (.seq (.region [⟨some 139, .mv (.t 13), none⟩,
 ⟨some 140, .mv (.t 10), none⟩,
 ⟨some 141, .bin .geq .num (.t 139) (.t 140), none⟩])
 (.cond (.t 141)
 (.seq (.region [⟨some 142, .mv (.t 11), none⟩,
 ⟨some 143, .mkIface 331 (.c (.int .i64 1)), none⟩,
 ⟨some 6, .mv (.t 142), none⟩,
 ⟨some 7, .mv (.t 143), none⟩])
 (.ret))
 (.skip)))
 (.seq (.region [⟨some 144, .mv (.t 13), none⟩,
 ⟨some 145, .mv (.t 1), none⟩,
 ⟨some 146, .conv (.int .u64) (.t 145), none⟩,
 ⟨some 147, .bin .mul .num (.t 144) (.t 146), none⟩,
 ⟨some 13, .mv (.t 147), none⟩])
 (.seq (.region [⟨some 148, .mv (.t 13), none⟩,
 ⟨some 149, .mv (.t 16), none⟩,
 ⟨some 150, .conv (.int .u64) (.t 149), none⟩,
 ⟨some 151, .bin .add .num (.t 148) (.t 150), none⟩,
 ⟨some 17, .mv (.t 151), none⟩])
 (.seq (.seq (.region [⟨some 152, .mv (.t 17), none⟩,
 ⟨some 153, .mv (.t 13), none⟩,
 ⟨some 154, .bin .lss .num (.t 152) (.t 153), none⟩,
 ⟨some 155, .mv (.t 154), none⟩,
 ⟨some 156, .mv (.t 17), some (155, false)⟩,
 ⟨some 157, .mv (.t 11), some (155, false)⟩,
 ⟨some 158, .bin .gtr .num (.t 156) (.t 157), some (155, false)⟩,
 ⟨some 159, .pick (.t 155) (.c (.bool true)) (.t 158), none⟩])
 (.cond (.t 159)
 (.seq (.region [⟨some 160, .mv (.t 11), none⟩,
 ⟨some 161, .mkIface 331 (.c (.int .i64 1)), none⟩,
 ⟨some 6, .mv (.t 160), none⟩,
 ⟨some 7, .mv (.t 161), none⟩])
 (.ret))
 (.skip)))
 (.region [⟨some 162, .mv (.t 17), none⟩,
 ⟨some 13, .mv (.t 162), none⟩]))))))))))
 (.region [⟨some 163, .bin .add .num (.t 101) (.c (.int .i64 1)), none⟩,
 ⟨some 101, .mv (.t 163), none⟩])))))))
 (.seq (.seq (.region [⟨some 164, .mv (.t 12), none⟩,
 ⟨some 165, .mv (.t 164), none⟩,
 ⟨some 166, .mv (.t 9), some (165, true)⟩,
 ⟨some 167, .call 301 [(.t 166)], some (165, true)⟩,
 ⟨some 168, .un .not (.t 167), some (165, true)⟩,
 ⟨some 169, .pick (.t 165) (.t 168) (.c (.bool false)), none⟩])
 (.cond (.t 169)
 (.seq (.region [⟨some 170, .mkIface 331 (.c (.int .i64 2)), none⟩,
 ⟨some 6, .mv (.c (.int .u64 0)), none⟩,
 ⟨some 7, .mv (.t 170), none⟩])
 (.ret))
 (.skip)))
 (.seq (.region [⟨some 171, .mv (.t 13), none⟩,
 ⟨some 6, .mv (.t 171), none⟩,
 ⟨some 7, .mv (.c (.niliface)), none⟩])
 (.ret))))))))))))))⟩

/- internal/stringslite.Clone -/
def F298 : AFunc := ⟨18, [.tmp 2],
 .seq (.region [⟨some 2, .mv (.c (.str [])), none⟩])
 (.seq (.seq (.region [⟨some 4, .mv (.t 0), none⟩,
 ⟨some 5, .len .str (.t 4), none⟩,
 ⟨some 6, .bin .eql .num (.t 5) (.c (.int .i64 0)), none⟩])
 (.cond (.t 6)
 (.seq (.region [⟨some 2, .mv (.c (.str [])), none⟩])
 (.ret))
 (.skip)))
 (.seq (.region [⟨some 7, .mv (.t 0), none⟩,
 ⟨some 8, .len .str (.t 7), none⟩,
 ⟨some 9, .mkSl 1 1 [.int .u8 0] (.t 8) (.t 8), none⟩,
 ⟨some 3, .mv (.t 9), none⟩])
 (.seq (.region [⟨some 10, .mv (.t 3), none⟩,
 ⟨some 11, .mv (.t 0), none⟩,
 ⟨some 12, .copy 1 (.t 10) (.t 11), none⟩])
 (.seq (.region [⟨some 13, .mv (.t 3), none⟩,
 ⟨some 14, .indexAddr (.sl 1) (.t 13) (.c (.int .i64 0)), none⟩,
 ⟨some 15, .mv (.t 3), none⟩,
 ⟨some 16, .len .sl (.t 15), none⟩,
 ⟨some 17, .stuck, none⟩,
 ⟨some 2, .mv (.t 17), none⟩])
 (.ret)))))⟩

/- errors.New -/
def F299 : AFunc := ⟨7, [.tmp 2],
 .seq (.region [⟨some 2, .mv (.c (.niliface)), none⟩])
 (.seq (.region [⟨some 3, .mv (.t 0), none⟩,
 ⟨some 4, .build [.str []] [(0, 1, (.t 3))], none⟩,
 ⟨some 5, .box (.t 4), none⟩,
 ⟨some 6, .mkIface 355 (.t 5), none⟩,
 ⟨some 2, .mv (.t 6), none⟩])
 (.ret))⟩

/- internal/strconv.lower -/
def F300 : AFunc := ⟨5, [.tmp 2],
 .seq (.region [⟨some 2, .mv (.c (.int .u8 0)), none⟩])
 (.seq (.region [⟨some 3, .mv (.t 0), none⟩,
 ⟨some 4, .bin .or .num (.t 3) (.c (.int .u8 32)), none⟩,
 ⟨some 2, .mv (.t 4), none⟩])
 (.ret))⟩

/- internal/strconv.underscoreOK -/
def F301 : AFunc := ⟨94, [.tmp 2],
 .seq (.region [⟨some 2, .mv (.c (.bool false)), none⟩])
 (.seq (.region [⟨some 3, .mv (.c (.int .i32 94)), none⟩])
 (.seq (.region [⟨some 4, .mv (.c (.int .i64 0)), none⟩])
 (.seq (.seq (.region [⟨some 6, .mv (.t 0), none⟩,
 ⟨some 7, .len .str (.t 6), none⟩,
 ⟨some 8, .bin .geq .num (.t 7) (.c (.int .i64 1)), none⟩,
 ⟨some 9, .mv (.t 8), none⟩,
 ⟨some 10, .mv (.t 0), some (9, true)⟩,
 ⟨some 11, .index .str (.t 10) (.c (.int .i64 0)), some (9, true)⟩,
 ⟨some 12, .bin .eql .num (.t 11) (.c (.int .u8 45)), some (9, true)⟩,
 ⟨some 13, .mv (.t 12), some (9, true)⟩,
 ⟨some 14, .mv (.t 0), some (13, false)⟩,
 ⟨some 15, .index .str (.t 14) (.c (.int .i64 0)), some (13, false)⟩,
 ⟨some 16, .bin .eql .num (.t 15) (.c (.int .u8 43)), some (13, false)⟩,
 ⟨some 17, .pick (.t 13) (.c (.bool true)) (.t 16), some (9, true)⟩,
 ⟨some 18, .pick (.t 9) (.t 17) (.c (.bool false)), none⟩])
 (.cond (.t 18)
 (.region [⟨some 19, .mv (.t 0), none⟩,
 ⟨some 20, .slice .str (.t 19) (some (.c (.int .i64 1))) none none, none⟩,
 ⟨some 0, .mv (.t 20), none⟩])
 (.skip)))
 (.seq (.region [⟨some 5, .mv (.c (.bool false)), none⟩])
 (.seq (.seq (.region [⟨some 21, .mv (.t 0), none⟩,
 ⟨some 22, .len .str (.t 21), none⟩,
 ⟨some 23, .bin .geq .num (.t 22) (.c (.int .i64 2)), none⟩,
 ⟨some 24, .mv (.t 23), none⟩,
 ⟨some 25, .mv (.t 0), some (24, true)⟩,
 ⟨some 26, .index .str (.t 25) (.c (.int .i64 0)), some (24, true)⟩,
 ⟨some 27, .bin .eql .num (.t 26) (.c (.int .u8 48)), some (24, true)⟩,
 ⟨some 28, .pick (.t 24) (.t 27) (.c (.bool false)), none⟩,
 ⟨some 29, .mv (.t 28), none⟩,
 ⟨some 30, .mv (.t 0), some (29, true)⟩,
 ⟨some 31, .index .str (.t 30) (.c (.int .i64 1)), some (29, true)⟩,
 ⟨some 32, .call 300 [(.t 31)], some (29, true)⟩,
 ⟨some 33, .bin .eql .num (.t 32) (.c (.int .u8 98)), some (29, true)⟩,
 ⟨some 34, .mv (.t 33), some (29, true)⟩,
 ⟨some 35, .mv (.t 0), some (34, false)⟩,
 ⟨some 36, .index .str (.t 35) (.c (.int .i64 1)), some (34, false)⟩,
 ⟨some 37, .call 300 [(.t 36)], some (34, false)⟩,
 ⟨some 38, .bin .eql .num (.t 37) (.c (.int .u8 111)), some (34, false)⟩,
 ⟨some 39, .pick (.t 34) (.c (.bool true)) (.t 38), some (29, true)⟩,
 ⟨some 40, .mv (.t 39), some (29, true)⟩,
 ⟨some 41, .mv (.t 0), some (40, false)⟩,
 ⟨some 42, .index .str (.t 41) (.c (.int .i64 1)), some (40, false)⟩,
 ⟨some 43, .call 300 [(.t 42)], some (40, false)⟩,
 ⟨some 44, .bin .eql .num (.t 43) (.c (.int .u8 120)), some (40, false)⟩,
 ⟨some 45, .pick (.t 40) (.c (.bool true)) (.t 44), some (29, true)⟩,
 ⟨some 46, .pick (.t 29) (.t 45) (.c (.bool false)), none⟩])
 (.cond (.t 46)
 (.seq (.region [⟨some 4, .mv (.c (.int .i64 2)), none⟩])
 (.seq (.region [⟨some 3, .mv (.c (.int .i32 48)), none⟩])
 (.region [⟨some 47, .mv (.t 0), none⟩,
 ⟨some 48, .index .str (.t 47) (.c (.int .i64 1)), none⟩,
 ⟨some 49, .call 300 [(.t 48)], none⟩,
 ⟨some 50, .bin .eql .num (.t 49) (.c (.int .u8 120)), none⟩,
 ⟨some 5, .mv (.t 50), none⟩])))
 (.skip)))
 (.seq (.block 0 (.loop (.seq (.seq (.region [⟨some 51, .mv (.t 4), none⟩,
 ⟨some 52, .mv (.t 0), none⟩,
 ⟨some 53, .len .str (.t 52), none⟩,
 ⟨some 54, .bin .lss .num (.t 51) (.t 53), none⟩])
 (.cond (.t 54)
 (.skip)
 (.exit 0)))
 (.seq (.block 1 (.seq (.seq (.region [⟨some 57, .mv (.t 0), none⟩,
 ⟨some 58, .mv (.t 4), none⟩,
 ⟨some 59, .index .str (.t 57) (.t 58), none⟩,
 ⟨some 60, .bin .leq .num (.c (.int .u8 48)) (.t 59), none⟩,
 ⟨some 61, .mv (.t 60), none⟩,
 ⟨some 62, .mv (.t 0), some (61, true)⟩,
 ⟨some 63, .mv (.t 4), some (61, true)⟩,
 ⟨some 64, .index .str (.t 62) (.t 63), some (61, true)⟩,
 ⟨some 65, .bin .leq .num (.t 64) (.c (.int .u8 57)), some (61, true)⟩,
 ⟨some 66, .pick (.t 61) (.t 65) (.c (.bool false)), none⟩,
 ⟨some 67, .mv (.t 66), none⟩,
 ⟨some 68, .mv (.t 5), some (67, false)⟩,
 ⟨some 69, .mv (.t 68), some (67, false)⟩,
 ⟨some 70, .mv (.t 0), some (69, true)⟩,
 ⟨some 71, .mv (.t 4), some (69, true)⟩,
 ⟨some 72, .index .str (.t 70) (.t 71), some (69, true)⟩,
 ⟨some 73, .call 300 [(.t 72)], some (69, true)⟩,
 ⟨some 74, .bin .leq .num (.c (.int .u8 97)) (.t 73), some (69, true)⟩,
 ⟨some 75, .pick (.t 69) (.t 74) (.c (.bool false)), some (67, false)⟩,
 ⟨some 76, .mv (.t 75), some (67, false)⟩,
 ⟨some 77, .mv (.t 0), some (76, true)⟩,
 ⟨some 78, .mv (.t 4), some (76, true)⟩,
 ⟨some 79, .index .str (.t 77) (.t 78), some (76, true)⟩,
 ⟨some 80, .call 300 [(.t 79)], some (76, true)⟩,
 ⟨some 81, .bin .leq .num (.t 80) (.c (.int .u8 102)), some (76, true)⟩,
 ⟨some 82, .pick (.t 76) (.t 81) (.c (.bool false)), some (67, false)⟩,
 ⟨some 83, .pick (.t 67) (.c (.bool true)) (.t 82), none⟩])
 (.cond (.t 83)
 (.seq (.region [⟨some 3, .mv (.c (.int .i32 48)), none⟩])
 (.exit 1))
 (.skip)))
 (.seq (.seq (.region [⟨some 84, .mv (.t 0), none⟩,
 ⟨some 85, .mv (.t 4), none⟩,
 ⟨some 86, .index .str (.t 84) (.t 85), none⟩,
 ⟨some 87, .bin .eql .num (.t 86) (.c (.int .u8 95)), none⟩])
 (.cond (.t 87)
 (.seq (.seq (.region [⟨some 88, .mv (.t 3), none⟩,
 ⟨some 89, .bin .neq .num (.t 88) (.c (.int .i32 48)), none⟩])
 (.cond (.t 89)
 (.seq (.region [⟨some 2, .mv (.c (.bool false)), none⟩])
 (.ret))
 (.skip)))
 (.seq (.region [⟨some 3, .mv (.c (.int .i32 95)), none⟩])
 (.exit 1)))
 (.skip)))
 (.seq (.seq (.region [⟨some 90, .mv (.t 3), none⟩,
 ⟨some 91, .bin .eql .num (.t 90) (.c (.int .i32 95)), none⟩])
 (.cond (.t 91)
 (.seq (.region [⟨some 2, .mv (.c (.bool false)), none⟩])
 (.ret))
 (.skip)))
 (.region [⟨some 3, .mv (.c (.int .i32 33)), none⟩])))))
 (.region [⟨some 55, .mv (.t 4), none⟩,
 ⟨some 56, .bin .add .num (.t 55) (.c (.int .i64 1)), none⟩,
 ⟨some 4, .mv (.t 56), none⟩])))))
 (.seq (.region [⟨some 92, .mv (.t 3), none⟩,
 ⟨some 93, .bin .neq .num (.t 92) (.c (.int .i32 95)), none⟩,
 ⟨some 2, .mv (.t 93), none⟩])
 (.ret))))))))⟩

end Go.Proofs.YtndlfkibcelhmaaGreatDoor.Ai
end
section
set_option maxRecDepth 100000
namespace Go.Proofs.YtndlfkibcelhmaaGreatDoor.Ai
open Go
def fnsT : Tr AFunc :=
  (.node (.node (.node (.node (.node (.node (.node (.node (.node .leaf (some F255) .leaf) (some F127) .leaf) (some F63) (.node .leaf (some F191) .leaf)) (some F31) (.node (.node (.node .leaf (some F287) .leaf) none .leaf) (some F95) (.node .leaf (some F223) .leaf))) none (.node (.node .leaf none (.node .leaf (some F207) .leaf)) (some F47) (.node (.node .leaf (some F175) .leaf) (some F111) .leaf))) none (.node (.node (.node (.node .leaf (some F135) .leaf) none (.node .leaf (some F199) .leaf)) none (.node (.node .leaf (some F167) .leaf) none .leaf)) none (.node (.node (.node .leaf (some F151) .leaf) (some F87) (.node .leaf (some F215) .leaf)) (some F55) (.node .leaf (some F119) .leaf)))) none (.node (.node (.node .leaf none (.node (.node (.node .leaf (some F291) .leaf) (some F163) .leaf) (some F99) (.node .leaf (some F227) .leaf))) (some F19) (.node .leaf none (.node (.node .leaf (some F179) .leaf) (some F115) (.node .leaf (some F243) .leaf)))) none (.node (.node (.node (.node (.node .leaf (some F267) .leaf) (some F139) .leaf) none .leaf) none (.node (.node (.node .leaf (some F299) .leaf) (some F171) .leaf) (some F107) (.node .leaf (some F235) .leaf))) (some F27) (.node (.node (.node (.node .leaf (some F283) .leaf) none .leaf) (some F91) (.node .leaf (some F219) .leaf)) (some F59) (.node (.node .leaf (some F187) .leaf) (some F123) .leaf))))) none (.node (.node (.node (.node (.node .leaf none (.node .leaf (some F193) .leaf)) none (.node (.node (.node .leaf (some F289) .leaf) none .leaf) none (.node .leaf (some F225) .leaf))) (some F17) (.node (.node (.node (.node .leaf (some F273) .leaf) (some F145) .leaf) none .leaf) (some F49) (.node (.node .leaf (some F177) .leaf) (some F113) (.node .leaf (some F241) .leaf)))) none (.node (.node (.node (.node (.node .leaf (some F265) .leaf) (some F137) .leaf) (some F73) (.node .leaf (some F201) .leaf)) (some F41) (.node (.node (.node .leaf (some F297) .leaf) (some F169) .leaf) (some F105) .leaf)) (some F25) (.node (.node .leaf (some F89) (.node .leaf (some F217) .leaf)) (some F57) (.node (.node .leaf (some F185) .leaf) none .leaf)))) none (.node (.node (.node (.node (.node .leaf (some F133) .leaf) none (.node .leaf (some F197) .leaf)) (some F37) (.node (.node (.node .leaf (some F293) .leaf) none .leaf) (some F101) .leaf)) (some F21) (.node (.node .leaf none (.node .leaf (some F213) .leaf)) none (.node (.node .leaf (some F181) .leaf) none .leaf))) none (.node (.node (.node (.node (.node .leaf (some F269) .leaf) none .leaf) none .leaf) (some F45) (.node (.node (.node .leaf (some F301) .leaf) none .leaf) (some F109) (.node .leaf (some F237) .leaf))) none (.node (.node (.node (.node .leaf (some F285) .leaf) none .leaf) (some F93) (.node .leaf (some F221) .leaf)) (some F61) (.node (.node .leaf (some F189) .leaf) none .leaf)))))) none (.node (.node (.node (.node (.node (.node .leaf (some F64) (.node .leaf (some F192) .leaf)) none (.node (.node (.node .leaf (some F288) .leaf) none .leaf) (some F96) (.node .leaf (some F224) .leaf))) none (.node (.node (.node (.node .leaf (some F272) .leaf) none .leaf) none .leaf) none (.node (.node .leaf (some F176) .leaf) (some F112) (.node .leaf (some F240) .leaf)))) none (.node (.node (.node (.node (.node .leaf (some F264) .leaf) (some F136) .leaf) none (.node .leaf (some F200) .leaf)) none (.node (.node (.node .leaf (some F296) .leaf) (some F168) .leaf) (some F104) (.node .leaf (some F232) .leaf))) none (.node (.node (.node .leaf (some F152) .leaf) (some F88) (.node .leaf (some F216) .leaf)) (some F56) (.node (.node .leaf (some F184) .leaf) (some F120) .leaf)))) none (.node (.node (.node .leaf (some F36) (.node (.node (.node .leaf (some F292) .leaf) none .leaf) (some F100) (.node .leaf (some F228) .leaf))) (some F20) (.node (.node (.node .leaf (some F148) .leaf) none .leaf) none (.node (.node .leaf (some F180) .leaf) none (.node .leaf (some F244) .leaf)))) none (.node (.node (.node (.node .leaf (some F140) .leaf) (some F76) .leaf) (some F44) (.node (.node (.node .leaf (some F300) .leaf) (some F172) .leaf) (some F108) (.node .leaf (some F236) .leaf))) (some F28) (.node (.node (.node (.node .leaf (some F284) .leaf) none .leaf) (some F92) .leaf) none (.node (.node .leaf (some F188) .leaf) (some F124) .leaf))))) none (.node (.node (.node (.node (.node .leaf none (.node .leaf (some F194) .leaf)) none (.node (.node (.node .leaf (some F290) .leaf) (some F162) .leaf) none (.node .leaf (some F226) .leaf))) (some F18) (.node (.node (.node (.node .leaf (some F274) .leaf) none .leaf) none .leaf) none (.node (.node .leaf (some F178) .leaf) (some F114) (.node .leaf (some F242) .leaf)))) (some F10) (.node (.node (.node (.node (.node .leaf (some F266) .leaf) (some F138) .leaf) none (.node .leaf (some F202) .leaf)) (some F42) (.node (.node (.node .leaf (some F298) .leaf) (some F170) .leaf) (some F106) (.node .leaf (some F234) .leaf))) none (.node (.node .leaf (some F90) .leaf) (some F58) (.node (.node .leaf (some F186) .leaf) (some F122) .leaf)))) none (.node (.node (.node (.node (.node .leaf (some F134) .leaf) none (.node .leaf (some F198) .leaf)) (some F38) (.node (.node .leaf (some F166) .leaf) none .leaf)) (some F22) (.node (.node (.node .leaf (some F150) .leaf) (some F86) (.node .leaf (some F214) .leaf)) none (.node (.node .leaf (some F182) .leaf) (some F118) .leaf))) none (.node (.node (.node (.node (.node .leaf (some F270) .leaf) none .leaf) none (.node .leaf (some F206) .leaf)) none (.node .leaf (some F110) (.node .leaf (some F238) .leaf))) none (.node (.node .leaf (some F94) (.node .leaf (some F222) .leaf)) (some F62) (.node (.node .leaf (some F190) .leaf) (some F126) .leaf)))))))
noncomputable def primT0 (f : FuncId) : Option (Nat → List AVal → AH → Option (AVal × AH)) :=
  bif Nat.beq f 124 then some (pBLen 180) else bif Nat.beq f 245 then some pIndexByteString else bif Nat.beq f 271 then some pCountString else bif Nat.beq f 121 then some (pWriteString 180 5) else bif Nat.beq f 220 then some (pGrow 180 5) else bif Nat.beq f 125 then some (pBString 180 5) else none


noncomputable def T0 : Tab := ⟨fnsT, primT0⟩
noncomputable def primT (f : FuncId) : Option (Nat → List AVal → AH → Option (AVal × AH)) :=
  bif Nat.beq f 17 then some pTrue else primT0 f
noncomputable def T : Tab := ⟨fnsT, primT⟩

end Go.Proofs.YtndlfkibcelhmaaGreatDoor.Ai
end
