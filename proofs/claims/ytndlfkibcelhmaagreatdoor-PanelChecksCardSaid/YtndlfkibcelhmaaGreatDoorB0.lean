/- The code of the functions that the law reaches, as the evaluator takes it. -/
import Derived.Test.YtndlfkibcelhmaaGreatDoorA0
set_option linter.all false
section
set_option maxRecDepth 100000
namespace Go.Proofs.YtndlfkibcelhmaaGreatDoor.Ai
open Go
/- codend/codendlaw03.PanelChecks -/
def F10 : AFunc := ⟨57, [.tmp 4],
 .seq (.region [⟨some 2, .box (.t 0), none⟩,
 ⟨some 3, .box (.t 1), none⟩,
 ⟨some 4, .mv (.c (.bool false)), none⟩])
 (.seq (.seq (.region [⟨some 9, .call 17 [], none⟩,
 ⟨some 10, .un .not (.t 9), none⟩,
 ⟨some 11, .mv (.t 10), none⟩,
 ⟨some 12, .load 4 true (.t 2), some (11, false)⟩,
 ⟨some 13, .call 18 [(.t 12), (.c (.int .i64 40))], some (11, false)⟩,
 ⟨some 14, .un .not (.t 13), some (11, false)⟩,
 ⟨some 15, .pick (.t 11) (.c (.bool true)) (.t 14), none⟩,
 ⟨some 16, .mv (.t 15), none⟩,
 ⟨some 17, .fieldAddr 0 (.t 3), some (16, false)⟩,
 ⟨some 18, .load 1 false (.t 17), some (16, false)⟩,
 ⟨some 19, .len .str (.t 18), some (16, false)⟩,
 ⟨some 20, .bin .gtr .num (.t 19) (.c (.int .i64 70)), some (16, false)⟩,
 ⟨some 21, .pick (.t 16) (.c (.bool true)) (.t 20), none⟩])
 (.cond (.t 21)
 (.seq (.region [⟨some 22, .call 17 [], none⟩,
 ⟨some 4, .mv (.t 22), none⟩])
 (.ret))
 (.skip)))
 (.seq (.region [⟨some 24, .load 4 true (.t 2), none⟩,
 ⟨some 25, .call 20 [(.t 24)], none⟩,
 ⟨some 26, .call 55 [(.t 25)], none⟩,
 ⟨some 23, .mv (.t 26), none⟩,
 ⟨some 27, .extract 0 (.t 23), none⟩,
 ⟨some 28, .extract 1 (.t 23), none⟩,
 ⟨some 5, .mv (.t 27), none⟩,
 ⟨some 6, .mv (.t 28), none⟩])
 (.seq (.region [⟨some 29, .load 4 true (.t 2), none⟩,
 ⟨some 30, .call 22 [(.t 29)], none⟩,
 ⟨some 7, .mv (.t 30), none⟩,
 ⟨some 8, .mv (.c (.int .i64 0)), none⟩])
 (.seq (.seq (.region [⟨some 31, .mv (.t 7), none⟩,
 ⟨some 32, .bin .eql .num (.t 31) (.c (.int .i64 0)), none⟩])
 (.cond (.t 32)
 (.region [⟨some 33, .load 4 true (.t 2), none⟩,
 ⟨some 34, .call 42 [(.t 33)], none⟩,
 ⟨some 8, .mv (.t 34), none⟩])
 (.skip)))
 (.seq (.regionD [⟨⟨some 35, .load 3 true (.t 3), none⟩, false, []⟩,
 ⟨⟨some 36, .call 56 [(.t 35)], none⟩, true, []⟩,
 ⟨⟨some 37, .load 3 true (.t 3), none⟩, false, []⟩,
 ⟨⟨some 38, .call 57 [(.t 37)], none⟩, false, []⟩,
 ⟨⟨some 39, .bin .eql .num (.t 36) (.t 38), none⟩, false, []⟩,
 ⟨⟨some 40, .mv (.t 39), none⟩, false, []⟩,
 ⟨⟨some 41, .load 4 true (.t 2), some (40, true)⟩, false, []⟩,
 ⟨⟨some 42, .call 20 [(.t 41)], some (40, true)⟩, false, []⟩,
 ⟨⟨some 43, .call 58 [(.t 42)], some (40, true)⟩, false, []⟩,
 ⟨⟨some 44, .mv (.t 7), some (40, true)⟩, false, []⟩,
 ⟨⟨some 45, .bin .eql .num (.t 43) (.t 44), some (40, true)⟩, false, []⟩,
 ⟨⟨some 46, .pick (.t 40) (.t 45) (.c (.bool false)), none⟩, false, []⟩,
 ⟨⟨some 47, .mv (.t 46), none⟩, false, []⟩,
 ⟨⟨some 48, .mv (.t 5), some (47, true)⟩, false, []⟩,
 ⟨⟨some 49, .mv (.t 8), some (47, true)⟩, false, []⟩,
 ⟨⟨some 50, .bin .eql .num (.t 48) (.t 49), some (47, true)⟩, false, []⟩,
 ⟨⟨some 51, .pick (.t 47) (.t 50) (.c (.bool false)), none⟩, false, []⟩,
 ⟨⟨some 52, .mv (.t 51), none⟩, false, []⟩,
 ⟨⟨some 53, .mv (.t 6), some (52, true)⟩, false, []⟩,
 ⟨⟨some 54, .mv (.t 7), some (52, true)⟩, false, []⟩,
 ⟨⟨some 55, .bin .eql .num (.t 53) (.t 54), some (52, true)⟩, false, []⟩,
 ⟨⟨some 56, .pick (.t 52) (.t 55) (.c (.bool false)), none⟩, false, []⟩,
 ⟨⟨some 4, .mv (.t 56), none⟩, false, []⟩])
 (.ret))))))⟩

/- codend/codendlaw03.awake -/
def F17 : AFunc := ⟨245, [.tmp 0],
 .seq (.region [⟨some 0, .mv (.c (.bool false)), none⟩])
 (.seq (.region [⟨some 33, .call 86 [], none⟩,
 ⟨some 34, .call 59 [(.t 33), (.c (.bool true))], none⟩,
 ⟨some 32, .mv (.t 34), none⟩,
 ⟨some 35, .extract 0 (.t 32), none⟩,
 ⟨some 36, .extract 1 (.t 32), none⟩,
 ⟨some 1, .mv (.t 35), none⟩,
 ⟨some 2, .mv (.t 36), none⟩])
 (.seq (.region [⟨some 38, .call 86 [], none⟩,
 ⟨some 39, .call 61 [(.t 38)], none⟩,
 ⟨some 37, .mv (.t 39), none⟩,
 ⟨some 40, .extract 0 (.t 37), none⟩,
 ⟨some 41, .extract 1 (.t 37), none⟩,
 ⟨some 3, .mv (.t 40), none⟩,
 ⟨some 4, .mv (.t 41), none⟩])
 (.seq (.region [⟨some 43, .call 86 [], none⟩,
 ⟨some 44, .call 31 [(.t 43)], none⟩,
 ⟨some 42, .mv (.t 44), none⟩,
 ⟨some 45, .extract 0 (.t 42), none⟩,
 ⟨some 46, .extract 1 (.t 42), none⟩,
 ⟨some 5, .mv (.t 45), none⟩,
 ⟨some 6, .mv (.t 46), none⟩])
 (.seq (.region [⟨some 48, .call 86 [], none⟩,
 ⟨some 49, .call 19 [(.t 48)], none⟩,
 ⟨some 47, .mv (.t 49), none⟩,
 ⟨some 50, .extract 0 (.t 47), none⟩,
 ⟨some 51, .extract 1 (.t 47), none⟩,
 ⟨some 7, .mv (.t 50), none⟩,
 ⟨some 8, .mv (.t 51), none⟩])
 (.seq (.region [⟨some 53, .call 86 [], none⟩,
 ⟨some 54, .call 21 [(.t 53)], none⟩,
 ⟨some 52, .mv (.t 54), none⟩,
 ⟨some 55, .extract 0 (.t 52), none⟩,
 ⟨some 56, .extract 1 (.t 52), none⟩,
 ⟨some 9, .mv (.t 55), none⟩,
 ⟨some 10, .mv (.t 56), none⟩])
 (.seq (.region [⟨some 58, .call 86 [], none⟩,
 ⟨some 59, .call 27 [(.t 58)], none⟩,
 ⟨some 57, .mv (.t 59), none⟩,
 ⟨some 60, .extract 0 (.t 57), none⟩,
 ⟨some 61, .extract 1 (.t 57), none⟩,
 ⟨some 11, .alloc [.int .i64 0, .int .i64 0, .int .i64 0, .int .i64 0], none⟩,
 ⟨none, .store 4 (.t 11) (.t 60), none⟩,
 ⟨some 12, .mv (.t 61), none⟩])
 (.seq (.region [⟨some 63, .call 86 [], none⟩,
 ⟨some 64, .call 28 [(.t 63)], none⟩,
 ⟨some 62, .mv (.t 64), none⟩,
 ⟨some 65, .extract 0 (.t 62), none⟩,
 ⟨some 66, .extract 1 (.t 62), none⟩,
 ⟨some 13, .mv (.t 65), none⟩,
 ⟨some 14, .mv (.t 66), none⟩])
 (.seq (.region [⟨some 68, .call 86 [], none⟩,
 ⟨some 69, .buildSl 4 1 [.str [], .int .i64 0, .nilsl, .nilsl] [(0, 4, (.t 68))], none⟩,
 ⟨some 70, .call 47 [(.t 69)], none⟩,
 ⟨some 67, .mv (.t 70), none⟩,
 ⟨some 71, .extract 0 (.t 67), none⟩,
 ⟨some 72, .extract 1 (.t 67), none⟩,
 ⟨some 15, .mv (.t 71), none⟩,
 ⟨some 16, .mv (.t 72), none⟩])
 (.seq (.region [⟨some 74, .mv (.t 15), none⟩,
 ⟨some 75, .call 49 [(.t 74)], none⟩,
 ⟨some 73, .mv (.t 75), none⟩,
 ⟨some 76, .extract 0 (.t 73), none⟩,
 ⟨some 77, .extract 1 (.t 73), none⟩,
 ⟨some 78, .extract 2 (.t 73), none⟩,
 ⟨some 17, .mv (.t 76), none⟩,
 ⟨some 18, .mv (.t 77), none⟩,
 ⟨some 19, .mv (.t 78), none⟩])
 (.seq (.seq (.region [⟨some 79, .mv (.t 2), none⟩,
 ⟨some 80, .mv (.t 4), none⟩,
 ⟨some 81, .bin .add .num (.t 79) (.t 80), none⟩,
 ⟨some 82, .mv (.t 6), none⟩,
 ⟨some 83, .bin .add .num (.t 81) (.t 82), none⟩,
 ⟨some 84, .mv (.t 8), none⟩,
 ⟨some 85, .bin .add .num (.t 83) (.t 84), none⟩,
 ⟨some 86, .mv (.t 10), none⟩,
 ⟨some 87, .bin .add .num (.t 85) (.t 86), none⟩,
 ⟨some 88, .mv (.t 12), none⟩,
 ⟨some 89, .bin .add .num (.t 87) (.t 88), none⟩,
 ⟨some 90, .mv (.t 14), none⟩,
 ⟨some 91, .bin .add .num (.t 89) (.t 90), none⟩,
 ⟨some 92, .mv (.t 16), none⟩,
 ⟨some 93, .bin .add .num (.t 91) (.t 92), none⟩,
 ⟨some 94, .mv (.t 19), none⟩,
 ⟨some 95, .bin .add .num (.t 93) (.t 94), none⟩,
 ⟨some 96, .bin .neq .num (.t 95) (.c (.int .i64 0)), none⟩,
 ⟨some 97, .mv (.t 96), none⟩,
 ⟨some 98, .mv (.t 1), some (97, false)⟩,
 ⟨some 99, .build [.int .i64 0, .int .i64 0] [(0, 1, (.c (.int .i64 4))), (1, 1, (.c (.int .i64 0)))], some (97, false)⟩,
 ⟨some 100, .build [.int .i64 0, .int .i64 0] [(0, 1, (.c (.int .i64 5))), (1, 1, (.c (.int .i64 1)))], some (97, false)⟩,
 ⟨some 101, .build [.int .i64 0, .int .i64 0] [(0, 1, (.c (.int .i64 6))), (1, 1, (.c (.int .i64 2)))], some (97, false)⟩,
 ⟨some 102, .buildSl 2 3 [.int .i64 0, .int .i64 0, .int .i64 0, .int .i64 0, .int .i64 0, .int .i64 0] [(0, 2, (.t 99)), (2, 2, (.t 100)), (4, 2, (.t 101))], some (97, false)⟩,
 ⟨some 103, .call 63 [(.t 98), (.t 102)], some (97, false)⟩,
 ⟨some 104, .un .not (.t 103), some (97, false)⟩,
 ⟨some 105, .pick (.t 97) (.c (.bool true)) (.t 104), none⟩,
 ⟨some 106, .mv (.t 105), none⟩,
 ⟨some 107, .mv (.t 3), some (106, false)⟩,
 ⟨some 108, .len .sl (.t 107), some (106, false)⟩,
 ⟨some 109, .bin .neq .num (.t 108) (.c (.int .i64 2)), some (106, false)⟩,
 ⟨some 110, .pick (.t 106) (.c (.bool true)) (.t 109), none⟩,
 ⟨some 111, .mv (.t 110), none⟩,
 ⟨some 112, .mv (.t 3), some (111, false)⟩,
 ⟨some 113, .indexAddr (.sl 4) (.t 112) (.c (.int .i64 0)), some (111, false)⟩,
 ⟨some 114, .load 4 true (.t 113), some (111, false)⟩,
 ⟨some 115, .build [.int .i64 0, .int .i64 0] [(0, 1, (.c (.int .i64 0))), (1, 1, (.c (.int .i64 4)))], some (111, false)⟩,
 ⟨some 116, .build [.int .i64 0, .int .i64 0] [(0, 1, (.c (.int .i64 0))), (1, 1, (.c (.int .i64 5)))], some (111, false)⟩,
 ⟨some 117, .build [.int .i64 0, .int .i64 0, .int .i64 0, .int .i64 0] [(0, 2, (.t 115)), (2, 2, (.t 116))], some (111, false)⟩,
 ⟨some 118, .bin .neq (.eq ⟨true, [.i, .i, .i, .i]⟩) (.t 114) (.t 117), some (111, false)⟩,
 ⟨some 119, .pick (.t 111) (.c (.bool true)) (.t 118), none⟩,
 ⟨some 120, .mv (.t 119), none⟩,
 ⟨some 121, .mv (.t 5), some (120, false)⟩,
 ⟨some 122, .bin .neq .num (.t 121) (.c (.int .i64 20)), some (120, false)⟩,
 ⟨some 123, .pick (.t 120) (.c (.bool true)) (.t 122), none⟩,
 ⟨some 124, .mv (.t 123), none⟩,
 ⟨some 125, .mv (.t 7), some (124, false)⟩,
 ⟨some 126, .len .sl (.t 125), some (124, false)⟩,
 ⟨some 127, .bin .neq .num (.t 126) (.c (.int .i64 11)), some (124, false)⟩,
 ⟨some 128, .pick (.t 124) (.c (.bool true)) (.t 127), none⟩,
 ⟨some 129, .mv (.t 128), none⟩,
 ⟨some 130, .mv (.t 9), some (129, false)⟩,
 ⟨some 131, .build [.int .i64 0, .int .i64 0] [(0, 1, (.c (.int .i64 0))), (1, 1, (.c (.int .i64 4)))], some (129, false)⟩,
 ⟨some 132, .build [.int .i64 0, .int .i64 0] [(0, 1, (.c (.int .i64 1))), (1, 1, (.c (.int .i64 5)))], some (129, false)⟩,
 ⟨some 133, .build [.int .i64 0, .int .i64 0] [(0, 1, (.c (.int .i64 0))), (1, 1, (.c (.int .i64 6)))], some (129, false)⟩,
 ⟨some 134, .buildSl 2 3 [.int .i64 0, .int .i64 0, .int .i64 0, .int .i64 0, .int .i64 0, .int .i64 0] [(0, 2, (.t 131)), (2, 2, (.t 132)), (4, 2, (.t 133))], some (129, false)⟩,
 ⟨some 135, .call 25 [(.t 130), (.t 134)], some (129, false)⟩,
 ⟨some 136, .un .not (.t 135), some (129, false)⟩,
 ⟨some 137, .pick (.t 129) (.c (.bool true)) (.t 136), none⟩,
 ⟨some 138, .mv (.t 137), none⟩,
 ⟨some 139, .load 4 true (.t 11), some (138, false)⟩,
 ⟨some 140, .build [.int .i64 0, .int .i64 0, .int .i64 0, .int .i64 0] [(2, 1, (.c (.int .i64 3))), (3, 1, (.c (.int .i64 2)))], some (138, false)⟩,
 ⟨some 141, .bin .neq (.eq ⟨true, [.i, .i, .i, .i]⟩) (.t 139) (.t 140), some (138, false)⟩,
 ⟨some 142, .pick (.t 138) (.c (.bool true)) (.t 141), none⟩,
 ⟨some 143, .mv (.t 142), none⟩,
 ⟨some 144, .mv (.t 13), some (143, false)⟩,
 ⟨some 145, .build [.int .i64 0, .int .i64 0, .int .i64 0] [(0, 1, (.c (.int .i64 6))), (1, 1, (.c (.int .i64 0))), (2, 1, (.c (.int .i64 (-1))))], some (143, false)⟩,
 ⟨some 146, .buildSl 3 1 [.int .i64 0, .int .i64 0, .int .i64 0] [(0, 3, (.t 145))], some (143, false)⟩,
 ⟨some 147, .call 73 [(.t 144), (.t 146)], some (143, false)⟩,
 ⟨some 148, .un .not (.t 147), some (143, false)⟩,
 ⟨some 149, .pick (.t 143) (.c (.bool true)) (.t 148), none⟩,
 ⟨some 150, .mv (.t 149), none⟩,
 ⟨some 151, .mv (.t 15), some (150, false)⟩,
 ⟨some 152, .bin .neq .strs (.t 151) (.c (.str [112, 97, 110, 101, 108, 32, 119, 105, 110, 103, 32, 50, 10, 108, 101, 102, 116, 32, 78, 32, 49, 32, 105, 110, 10, 114, 105, 103, 104, 116, 32, 66, 66, 32, 49, 32, 111, 117, 116, 10, 101, 110, 100, 10])), some (150, false)⟩,
 ⟨some 153, .pick (.t 150) (.c (.bool true)) (.t 152), none⟩,
 ⟨some 154, .mv (.t 153), none⟩,
 ⟨some 155, .mv (.t 17), some (154, false)⟩,
 ⟨some 156, .len .sl (.t 155), some (154, false)⟩,
 ⟨some 157, .bin .neq .num (.t 156) (.c (.int .i64 1)), some (154, false)⟩,
 ⟨some 158, .pick (.t 154) (.c (.bool true)) (.t 157), none⟩,
 ⟨some 159, .mv (.t 158), none⟩,
 ⟨some 160, .mv (.t 17), some (159, false)⟩,
 ⟨some 161, .indexAddr (.sl 4) (.t 160) (.c (.int .i64 0)), some (159, false)⟩,
 ⟨some 162, .load 4 true (.t 161), some (159, false)⟩,
 ⟨some 163, .call 45 [(.t 162)], some (159, false)⟩,
 ⟨some 164, .call 86 [], some (159, false)⟩,
 ⟨some 165, .call 45 [(.t 164)], some (159, false)⟩,
 ⟨some 166, .call 44 [(.t 163), (.t 165)], some (159, false)⟩,
 ⟨some 167, .un .not (.t 166), some (159, false)⟩,
 ⟨some 168, .pick (.t 159) (.c (.bool true)) (.t 167), none⟩])
 (.cond (.t 168)
 (.seq (.region [⟨some 0, .mv (.c (.bool false)), none⟩])
 (.ret))
 (.skip)))
 (.seq (.region [⟨some 170, .call 86 [], none⟩,
 ⟨some 171, .call 76 [(.t 170)], none⟩,
 ⟨some 169, .mv (.t 171), none⟩,
 ⟨some 172, .extract 0 (.t 169), none⟩,
 ⟨some 173, .extract 1 (.t 169), none⟩,
 ⟨some 20, .alloc [.str [], .int .i64 0, .nilsl, .nilsl], none⟩,
 ⟨none, .store 4 (.t 20) (.t 172), none⟩,
 ⟨some 21, .mv (.t 173), none⟩])
 (.seq (.region [⟨some 175, .call 86 [], none⟩,
 ⟨some 176, .call 41 [(.t 175), (.c (.int .i64 1))], none⟩,
 ⟨some 174, .mv (.t 176), none⟩,
 ⟨some 177, .extract 0 (.t 174), none⟩,
 ⟨some 178, .extract 1 (.t 174), none⟩,
 ⟨some 22, .alloc [.str [], .int .i64 0, .nilsl, .nilsl, .str [], .int .i64 0, .nilsl, .nilsl], none⟩,
 ⟨none, .store 8 (.t 22) (.t 177), none⟩,
 ⟨some 23, .mv (.t 178), none⟩])
 (.seq (.region [⟨some 180, .call 86 [], none⟩,
 ⟨some 181, .call 86 [], none⟩,
 ⟨some 182, .call 36 [(.t 180), (.t 181)], none⟩,
 ⟨some 179, .mv (.t 182), none⟩,
 ⟨some 183, .extract 0 (.t 179), none⟩,
 ⟨some 184, .extract 1 (.t 179), none⟩,
 ⟨some 24, .alloc [.str [], .int .i64 0, .nilsl, .nilsl], none⟩,
 ⟨none, .store 4 (.t 24) (.t 183), none⟩,
 ⟨some 25, .mv (.t 184), none⟩])
 (.seq (.region [⟨some 186, .call 86 [], none⟩,
 ⟨some 187, .call 37 [(.t 186), (.c (.int .i64 1))], none⟩,
 ⟨some 185, .mv (.t 187), none⟩,
 ⟨some 188, .extract 0 (.t 185), none⟩,
 ⟨some 189, .extract 1 (.t 185), none⟩,
 ⟨some 26, .alloc [.str [], .int .i64 0, .nilsl, .nilsl], none⟩,
 ⟨none, .store 4 (.t 26) (.t 188), none⟩,
 ⟨some 27, .mv (.t 189), none⟩])
 (.seq (.region [⟨some 191, .load 4 true (.t 26), none⟩,
 ⟨some 192, .call 19 [(.t 191)], none⟩,
 ⟨some 190, .mv (.t 192), none⟩,
 ⟨some 193, .extract 0 (.t 190), none⟩,
 ⟨some 194, .extract 1 (.t 190), none⟩,
 ⟨some 28, .mv (.t 193), none⟩,
 ⟨some 29, .mv (.t 194), none⟩])
 (.seq (.region [⟨some 196, .call 86 [], none⟩,
 ⟨some 197, .call 62 [(.t 196)], none⟩,
 ⟨some 195, .mv (.t 197), none⟩,
 ⟨some 198, .extract 0 (.t 195), none⟩,
 ⟨some 199, .extract 1 (.t 195), none⟩,
 ⟨some 30, .alloc [.int .i64 0, .int .i64 0, .int .i64 0], none⟩,
 ⟨none, .store 3 (.t 30) (.t 198), none⟩,
 ⟨some 31, .mv (.t 199), none⟩])
 (.seq (.region [⟨some 200, .mv (.t 21), none⟩,
 ⟨some 201, .mv (.t 27), none⟩,
 ⟨some 202, .bin .add .num (.t 200) (.t 201), none⟩,
 ⟨some 203, .mv (.t 29), none⟩,
 ⟨some 204, .bin .add .num (.t 202) (.t 203), none⟩,
 ⟨some 205, .mv (.t 31), none⟩,
 ⟨some 206, .bin .add .num (.t 204) (.t 205), none⟩,
 ⟨some 207, .bin .eql .num (.t 206) (.c (.int .i64 0)), none⟩,
 ⟨some 208, .mv (.t 207), none⟩,
 ⟨some 209, .fieldAddr 1 (.t 20), some (208, true)⟩,
 ⟨some 210, .load 1 false (.t 209), some (208, true)⟩,
 ⟨some 211, .bin .eql .num (.t 210) (.c (.int .i64 3)), some (208, true)⟩,
 ⟨some 212, .pick (.t 208) (.t 211) (.c (.bool false)), none⟩,
 ⟨some 213, .mv (.t 212), none⟩,
 ⟨some 214, .fieldAddr 2 (.t 20), some (213, true)⟩,
 ⟨some 215, .load 1 false (.t 214), some (213, true)⟩,
 ⟨some 216, .len .sl (.t 215), some (213, true)⟩,
 ⟨some 217, .bin .eql .num (.t 216) (.c (.int .i64 1)), some (213, true)⟩,
 ⟨some 218, .pick (.t 213) (.t 217) (.c (.bool false)), none⟩,
 ⟨some 219, .mv (.t 218), none⟩,
 ⟨some 220, .fieldAddr 2 (.t 20), some (219, true)⟩,
 ⟨some 221, .load 1 false (.t 220), some (219, true)⟩,
 ⟨some 222, .indexAddr (.sl 3) (.t 221) (.c (.int .i64 0)), some (219, true)⟩,
 ⟨some 223, .load 3 true (.t 222), some (219, true)⟩,
 ⟨some 224, .build [.str [], .int .i64 0, .bool false] [(0, 1, (.c (.str [66, 66]))), (1, 1, (.c (.int .i64 1)))], some (219, true)⟩,
 ⟨some 225, .bin .eql (.eq ⟨true, [.s, .i, .b]⟩) (.t 223) (.t 224), some (219, true)⟩,
 ⟨some 226, .pick (.t 219) (.t 225) (.c (.bool false)), none⟩,
 ⟨some 227, .mv (.t 226), none⟩,
 ⟨some 228, .mv (.t 23), some (227, true)⟩,
 ⟨some 229, .bin .eql .num (.t 228) (.c (.int .i64 18)), some (227, true)⟩,
 ⟨some 230, .pick (.t 227) (.t 229) (.c (.bool false)), none⟩,
 ⟨some 231, .mv (.t 230), none⟩,
 ⟨some 232, .mv (.t 25), some (231, true)⟩,
 ⟨some 233, .bin .eql .num (.t 232) (.c (.int .i64 24)), some (231, true)⟩,
 ⟨some 234, .pick (.t 231) (.t 233) (.c (.bool false)), none⟩,
 ⟨some 235, .mv (.t 234), none⟩,
 ⟨some 236, .mv (.t 28), some (235, true)⟩,
 ⟨some 237, .len .sl (.t 236), some (235, true)⟩,
 ⟨some 238, .bin .eql .num (.t 237) (.c (.int .i64 15)), some (235, true)⟩,
 ⟨some 239, .pick (.t 235) (.t 238) (.c (.bool false)), none⟩,
 ⟨some 240, .mv (.t 239), none⟩,
 ⟨some 241, .load 3 true (.t 30), some (240, true)⟩,
 ⟨some 242, .build [.int .i64 0, .int .i64 0, .int .i64 0] [(0, 1, (.c (.int .i64 1))), (1, 1, (.c (.int .i64 2))), (2, 1, (.c (.int .i64 0)))], some (240, true)⟩,
 ⟨some 243, .bin .eql (.eq ⟨true, [.i, .i, .i]⟩) (.t 241) (.t 242), some (240, true)⟩,
 ⟨some 244, .pick (.t 240) (.t 243) (.c (.bool false)), none⟩,
 ⟨some 0, .mv (.t 244), none⟩])
 (.ret))))))))))))))))))⟩

/- codend/codendref03.Short -/
def F18 : AFunc := ⟨31, [.tmp 4],
 .seq (.region [⟨some 2, .box (.t 0), none⟩,
 ⟨some 4, .mv (.c (.bool false)), none⟩])
 (.seq (.region [⟨some 5, .fieldAddr 0 (.t 2), none⟩,
 ⟨some 6, .load 1 false (.t 5), none⟩,
 ⟨some 7, .len .str (.t 6), none⟩,
 ⟨some 8, .bin .leq .num (.t 7) (.c (.int .i64 60)), none⟩,
 ⟨some 9, .mv (.t 8), none⟩,
 ⟨some 10, .fieldAddr 1 (.t 2), some (9, true)⟩,
 ⟨some 11, .load 1 false (.t 10), some (9, true)⟩,
 ⟨some 12, .bin .leq .num (.t 11) (.c (.int .i64 8)), some (9, true)⟩,
 ⟨some 13, .mv (.t 12), some (9, true)⟩,
 ⟨some 14, .fieldAddr 1 (.t 2), some (13, false)⟩,
 ⟨some 15, .load 1 false (.t 14), some (13, false)⟩,
 ⟨some 16, .bin .gtr .num (.t 15) (.c (.int .i64 128)), some (13, false)⟩,
 ⟨some 17, .pick (.t 13) (.c (.bool true)) (.t 16), some (9, true)⟩,
 ⟨some 18, .pick (.t 9) (.t 17) (.c (.bool false)), none⟩,
 ⟨some 19, .mv (.t 18), none⟩,
 ⟨some 20, .fieldAddr 2 (.t 2), some (19, true)⟩,
 ⟨some 21, .load 1 false (.t 20), some (19, true)⟩,
 ⟨some 22, .mv (.t 1), some (19, true)⟩,
 ⟨some 23, .call 87 [(.t 21), (.t 22)], some (19, true)⟩,
 ⟨some 24, .pick (.t 19) (.t 23) (.c (.bool false)), none⟩,
 ⟨some 25, .mv (.t 24), none⟩,
 ⟨some 26, .fieldAddr 3 (.t 2), some (25, true)⟩,
 ⟨some 27, .load 1 false (.t 26), some (25, true)⟩,
 ⟨some 28, .mv (.t 1), some (25, true)⟩,
 ⟨some 29, .call 87 [(.t 27), (.t 28)], some (25, true)⟩,
 ⟨some 30, .pick (.t 25) (.t 29) (.c (.bool false)), none⟩,
 ⟨some 4, .mv (.t 30), none⟩])
 (.ret))⟩

/- codend/panel.Net -/
def F19 : AFunc := ⟨8, [.tmp 2, .tmp 3],
 .seq (.region [⟨some 1, .box (.t 0), none⟩,
 ⟨some 2, .mv (.c (.nilsl)), none⟩,
 ⟨some 3, .mv (.c (.int .i64 0)), none⟩])
 (.seq (.region [⟨some 4, .load 4 true (.t 1), none⟩,
 ⟨some 5, .call 88 [(.t 4)], none⟩,
 ⟨some 6, .extract 0 (.t 5), none⟩,
 ⟨some 7, .extract 1 (.t 5), none⟩,
 ⟨some 2, .mv (.t 6), none⟩,
 ⟨some 3, .mv (.t 7), none⟩])
 (.ret))⟩

/- codend/codendlaw03.given -/
def F20 : AFunc := ⟨42, [.cell 2 4 true],
 .seq (.region [⟨some 1, .box (.t 0), none⟩,
 ⟨some 2, .alloc [.str [], .int .i64 0, .nilsl, .nilsl], none⟩])
 (.seq (.region [⟨some 8, .fieldAddr 0 (.t 1), none⟩,
 ⟨some 9, .load 1 false (.t 8), none⟩,
 ⟨some 10, .fieldAddr 1 (.t 1), none⟩,
 ⟨some 11, .load 1 false (.t 10), none⟩,
 ⟨some 12, .build [.str [], .int .i64 0, .nilsl, .nilsl] [(0, 1, (.t 9)), (1, 1, (.t 11))], none⟩,
 ⟨some 3, .alloc [.str [], .int .i64 0, .nilsl, .nilsl], none⟩,
 ⟨none, .store 4 (.t 3) (.t 12), none⟩])
 (.seq (.seq (.region [⟨some 13, .fieldAddr 2 (.t 1), none⟩,
 ⟨some 14, .load 1 false (.t 13), none⟩,
 ⟨some 15, .len .sl (.t 14), none⟩,
 ⟨some 16, .mv (.c (.int .i64 0)), none⟩])
 (.block 0 (.loop (.seq (.region [⟨some 17, .bin .lss .num (.t 16) (.t 15), none⟩])
 (.seq (.cond (.t 17)
 (.skip)
 (.exit 0))
 (.seq (.block 1 (.seq (.region [⟨some 18, .indexAddr (.sl 3) (.t 14) (.t 16), none⟩,
 ⟨some 19, .load 3 true (.t 18), none⟩,
 ⟨some 5, .alloc [.str [], .int .i64 0, .bool false], none⟩,
 ⟨none, .store 3 (.t 5) (.t 19), none⟩])
 (.region [⟨some 20, .fieldAddr 2 (.t 3), none⟩,
 ⟨some 21, .load 1 false (.t 20), none⟩,
 ⟨some 22, .load 3 true (.t 5), none⟩,
 ⟨some 23, .buildSl 3 1 [.str [], .int .i64 0, .bool false] [(0, 3, (.t 22))], none⟩,
 ⟨some 24, .append 3 32 none (.t 21) (.t 23), none⟩,
 ⟨some 25, .fieldAddr 2 (.t 3), none⟩,
 ⟨none, .store 1 (.t 25) (.t 24), none⟩])))
 (.region [⟨some 26, .bin .add .num (.t 16) (.c (.int .i64 1)), none⟩,
 ⟨some 16, .mv (.t 26), none⟩])))))))
 (.seq (.seq (.region [⟨some 27, .fieldAddr 3 (.t 1), none⟩,
 ⟨some 28, .load 1 false (.t 27), none⟩,
 ⟨some 29, .len .sl (.t 28), none⟩,
 ⟨some 30, .mv (.c (.int .i64 0)), none⟩])
 (.block 2 (.loop (.seq (.region [⟨some 31, .bin .lss .num (.t 30) (.t 29), none⟩])
 (.seq (.cond (.t 31)
 (.skip)
 (.exit 2))
 (.seq (.block 3 (.seq (.region [⟨some 32, .indexAddr (.sl 3) (.t 28) (.t 30), none⟩,
 ⟨some 33, .load 3 true (.t 32), none⟩,
 ⟨some 7, .alloc [.str [], .int .i64 0, .bool false], none⟩,
 ⟨none, .store 3 (.t 7) (.t 33), none⟩])
 (.region [⟨some 34, .fieldAddr 3 (.t 3), none⟩,
 ⟨some 35, .load 1 false (.t 34), none⟩,
 ⟨some 36, .load 3 true (.t 7), none⟩,
 ⟨some 37, .buildSl 3 1 [.str [], .int .i64 0, .bool false] [(0, 3, (.t 36))], none⟩,
 ⟨some 38, .append 3 32 none (.t 35) (.t 37), none⟩,
 ⟨some 39, .fieldAddr 3 (.t 3), none⟩,
 ⟨none, .store 1 (.t 39) (.t 38), none⟩])))
 (.region [⟨some 40, .bin .add .num (.t 30) (.c (.int .i64 1)), none⟩,
 ⟨some 30, .mv (.t 40), none⟩])))))))
 (.seq (.region [⟨some 41, .load 4 true (.t 3), none⟩,
 ⟨none, .store 4 (.t 2) (.t 41), none⟩])
 (.ret)))))⟩

/- codend/panel.Rows -/
def F21 : AFunc := ⟨58, [.tmp 2, .tmp 3],
 .seq (.region [⟨some 1, .box (.t 0), none⟩,
 ⟨some 2, .mv (.c (.nilsl)), none⟩,
 ⟨some 3, .mv (.c (.int .i64 0)), none⟩])
 (.seq (.region [⟨some 12, .load 4 true (.t 1), none⟩,
 ⟨some 13, .call 88 [(.t 12)], none⟩,
 ⟨some 11, .mv (.t 13), none⟩,
 ⟨some 14, .extract 0 (.t 11), none⟩,
 ⟨some 15, .extract 1 (.t 11), none⟩,
 ⟨some 4, .mv (.t 14), none⟩,
 ⟨some 5, .mv (.t 15), none⟩])
 (.seq (.seq (.region [⟨some 16, .mv (.t 5), none⟩,
 ⟨some 17, .bin .neq .num (.t 16) (.c (.int .i64 0)), none⟩])
 (.cond (.t 17)
 (.seq (.region [⟨some 18, .mv (.t 5), none⟩,
 ⟨some 2, .mv (.c (.nilsl)), none⟩,
 ⟨some 3, .mv (.t 18), none⟩])
 (.ret))
 (.skip)))
 (.seq (.region [⟨some 19, .load 4 true (.t 1), none⟩,
 ⟨some 20, .call 89 [(.t 19)], none⟩,
 ⟨some 21, .bin .add .num (.t 20) (.c (.int .i64 1)), none⟩,
 ⟨some 22, .mkSl 2 16 [.int .i64 0, .int .i64 0] (.t 21) (.t 21), none⟩,
 ⟨some 6, .alloc [.nilsl], none⟩,
 ⟨none, .store 1 (.t 6) (.t 22), none⟩])
 (.seq (.seq (.region [⟨some 23, .load 1 false (.t 6), none⟩,
 ⟨some 24, .len .sl (.t 23), none⟩,
 ⟨some 25, .mv (.c (.int .i64 0)), none⟩])
 (.block 0 (.loop (.seq (.region [⟨some 26, .bin .lss .num (.t 25) (.t 24), none⟩])
 (.seq (.cond (.t 26)
 (.skip)
 (.exit 0))
 (.seq (.block 1 (.seq (.region [⟨some 27, .mv (.t 25), none⟩,
 ⟨some 7, .mv (.t 27), none⟩])
 (.region [⟨some 28, .load 1 false (.t 6), none⟩,
 ⟨some 29, .mv (.t 7), none⟩,
 ⟨some 30, .build [.int .i64 0, .int .i64 0] [(0, 1, (.c (.int .i64 4098))), (1, 1, (.c (.int .i64 (-4098))))], none⟩,
 ⟨some 31, .indexAddr (.sl 2) (.t 28) (.t 29), none⟩,
 ⟨none, .store 2 (.t 31) (.t 30), none⟩])))
 (.region [⟨some 32, .bin .add .num (.t 25) (.c (.int .i64 1)), none⟩,
 ⟨some 25, .mv (.t 32), none⟩])))))))
 (.seq (.region [⟨some 33, .mkFunc 90 [] [(.t 6)], none⟩,
 ⟨some 8, .mv (.t 33), none⟩])
 (.seq (.seq (.region [⟨some 34, .mv (.t 4), none⟩,
 ⟨some 35, .len .sl (.t 34), none⟩,
 ⟨some 36, .mv (.c (.int .i64 0)), none⟩])
 (.block 2 (.loop (.seq (.region [⟨some 37, .bin .lss .num (.t 36) (.t 35), none⟩])
 (.seq (.cond (.t 37)
 (.skip)
 (.exit 2))
 (.seq (.block 3 (.seq (.region [⟨some 38, .indexAddr (.sl 3) (.t 34) (.t 36), none⟩,
 ⟨some 39, .load 3 true (.t 38), none⟩,
 ⟨some 10, .alloc [.int .i64 0, .int .i64 0, .int .i64 0], none⟩,
 ⟨none, .store 3 (.t 10) (.t 39), none⟩])
 (.seq (.region [⟨some 40, .mv (.t 8), none⟩,
 ⟨some 41, .fieldAddr 1 (.t 10), none⟩,
 ⟨some 42, .load 1 false (.t 41), none⟩,
 ⟨some 43, .fieldAddr 0 (.t 10), none⟩,
 ⟨some 44, .load 1 false (.t 43), none⟩,
 ⟨some 45, .dyn (.t 40) [(.t 42), (.t 44)], none⟩])
 (.region [⟨some 46, .mv (.t 8), none⟩,
 ⟨some 47, .fieldAddr 1 (.t 10), none⟩,
 ⟨some 48, .load 1 false (.t 47), none⟩,
 ⟨some 49, .bin .add .num (.t 48) (.c (.int .i64 1)), none⟩,
 ⟨some 50, .fieldAddr 0 (.t 10), none⟩,
 ⟨some 51, .load 1 false (.t 50), none⟩,
 ⟨some 52, .fieldAddr 2 (.t 10), none⟩,
 ⟨some 53, .load 1 false (.t 52), none⟩,
 ⟨some 54, .bin .add .num (.t 51) (.t 53), none⟩,
 ⟨some 55, .dyn (.t 46) [(.t 49), (.t 54)], none⟩]))))
 (.region [⟨some 56, .bin .add .num (.t 36) (.c (.int .i64 1)), none⟩,
 ⟨some 36, .mv (.t 56), none⟩])))))))
 (.seq (.region [⟨some 57, .load 1 false (.t 6), none⟩,
 ⟨some 2, .mv (.t 57), none⟩,
 ⟨some 3, .mv (.c (.int .i64 0)), none⟩])
 (.ret))))))))⟩

/- codend/codendref03.CheckPanel -/
def F22 : AFunc := ⟨72, [.tmp 2],
 .seq (.region [⟨some 1, .box (.t 0), none⟩,
 ⟨some 2, .mv (.c (.int .i64 0)), none⟩])
 (.seq (.seq (.region [⟨some 9, .fieldAddr 0 (.t 1), none⟩,
 ⟨some 10, .load 1 false (.t 9), none⟩,
 ⟨some 11, .call 91 [(.t 10)], none⟩,
 ⟨some 12, .un .not (.t 11), none⟩])
 (.cond (.t 12)
 (.seq (.region [⟨some 2, .mv (.c (.int .i64 8)), none⟩])
 (.ret))
 (.skip)))
 (.seq (.regionD [⟨⟨some 13, .fieldAddr 1 (.t 1), none⟩, false, []⟩,
 ⟨⟨some 14, .load 1 false (.t 13), none⟩, false, []⟩,
 ⟨⟨some 15, .call 38 [(.t 14), (.c (.int .i64 1)), (.c (.int .i64 128))], none⟩, true, []⟩,
 ⟨⟨some 16, .fieldAddr 2 (.t 1), none⟩, false, []⟩,
 ⟨⟨some 17, .load 1 false (.t 16), none⟩, false, []⟩,
 ⟨⟨some 18, .call 93 [(.t 17)], none⟩, true, []⟩,
 ⟨⟨some 19, .fieldAddr 3 (.t 1), none⟩, false, []⟩,
 ⟨⟨some 20, .load 1 false (.t 19), none⟩, false, []⟩,
 ⟨⟨some 21, .call 93 [(.t 20)], none⟩, false, []⟩,
 ⟨⟨some 22, .buildSl 1 3 [.int .i64 0, .int .i64 0, .int .i64 0] [(0, 1, (.t 15)), (1, 1, (.t 18)), (2, 1, (.t 21))], none⟩, false, []⟩,
 ⟨⟨some 23, .call 92 [(.t 22)], none⟩, false, []⟩,
 ⟨⟨some 3, .mv (.t 23), none⟩, false, []⟩])
 (.seq (.seq (.region [⟨some 24, .mv (.t 3), none⟩,
 ⟨some 25, .bin .neq .num (.t 24) (.c (.int .i64 0)), none⟩])
 (.cond (.t 25)
 (.seq (.region [⟨some 26, .mv (.t 3), none⟩,
 ⟨some 2, .mv (.t 26), none⟩])
 (.ret))
 (.skip)))
 (.seq (.region [⟨some 27, .load 4 true (.t 1), none⟩,
 ⟨some 28, .call 42 [(.t 27)], none⟩,
 ⟨some 4, .mv (.t 28), none⟩])
 (.seq (.seq (.region [⟨some 29, .mv (.t 4), none⟩,
 ⟨some 30, .fieldAddr 3 (.t 1), none⟩,
 ⟨some 31, .load 1 false (.t 30), none⟩,
 ⟨some 32, .call 95 [(.t 31)], none⟩,
 ⟨some 33, .call 94 [(.t 32)], none⟩,
 ⟨some 34, .bin .neq .num (.t 29) (.t 33), none⟩])
 (.cond (.t 34)
 (.seq (.region [⟨some 2, .mv (.c (.int .i64 2)), none⟩])
 (.ret))
 (.skip)))
 (.seq (.seq (.region [⟨some 35, .mv (.t 4), none⟩,
 ⟨some 36, .bin .eql .num (.t 35) (.c (.int .i64 0)), none⟩])
 (.cond (.t 36)
 (.seq (.region [⟨some 2, .mv (.c (.int .i64 12)), none⟩])
 (.ret))
 (.skip)))
 (.seq (.seq (.region [⟨some 37, .mv (.t 4), none⟩,
 ⟨some 38, .bin .gtr .num (.t 37) (.c (.int .i64 256)), none⟩])
 (.cond (.t 38)
 (.seq (.region [⟨some 2, .mv (.c (.int .i64 4)), none⟩])
 (.ret))
 (.skip)))
 (.seq (.regionD [⟨⟨some 39, .load 4 true (.t 1), none⟩, false, []⟩,
 ⟨⟨some 40, .call 64 [(.t 39), (.c (.bool false))], none⟩, true, []⟩,
 ⟨⟨some 41, .load 4 true (.t 1), none⟩, false, []⟩,
 ⟨⟨some 42, .call 64 [(.t 41), (.c (.bool true))], none⟩, false, []⟩,
 ⟨⟨some 5, .mv (.t 40), none⟩, false, []⟩,
 ⟨⟨some 6, .mv (.t 42), none⟩, false, []⟩])
 (.seq (.region [⟨some 43, .buildSl 2 0 [] [], none⟩,
 ⟨some 44, .mv (.t 5), none⟩,
 ⟨some 45, .append 2 16 none (.t 43) (.t 44), none⟩,
 ⟨some 46, .mv (.t 6), none⟩,
 ⟨some 47, .append 2 16 none (.t 45) (.t 46), none⟩,
 ⟨some 7, .mv (.t 47), none⟩])
 (.seq (.seq (.region [⟨some 8, .mv (.c (.int .i64 0)), none⟩])
 (.block 0 (.loop (.seq (.seq (.region [⟨some 48, .mv (.t 8), none⟩,
 ⟨some 49, .mv (.t 7), none⟩,
 ⟨some 50, .len .sl (.t 49), none⟩,
 ⟨some 51, .bin .lss .num (.t 48) (.t 50), none⟩])
 (.cond (.t 51)
 (.skip)
 (.exit 0)))
 (.seq (.block 1 (.seq (.region [⟨some 54, .mv (.t 7), none⟩,
 ⟨some 55, .mv (.t 8), none⟩,
 ⟨some 56, .indexAddr (.sl 2) (.t 54) (.t 55), none⟩,
 ⟨some 57, .fieldAddr 0 (.t 56), none⟩,
 ⟨some 58, .load 1 false (.t 57), none⟩,
 ⟨some 59, .bin .lss .num (.t 58) (.c (.int .i64 (-4096))), none⟩,
 ⟨some 60, .mv (.t 59), none⟩,
 ⟨some 61, .mv (.t 7), some (60, false)⟩,
 ⟨some 62, .mv (.t 8), some (60, false)⟩,
 ⟨some 63, .indexAddr (.sl 2) (.t 61) (.t 62), some (60, false)⟩,
 ⟨some 64, .fieldAddr 0 (.t 63), some (60, false)⟩,
 ⟨some 65, .load 1 false (.t 64), some (60, false)⟩,
 ⟨some 66, .bin .gtr .num (.t 65) (.c (.int .i64 4096)), some (60, false)⟩,
 ⟨some 67, .pick (.t 60) (.c (.bool true)) (.t 66), none⟩])
 (.cond (.t 67)
 (.seq (.region [⟨some 2, .mv (.c (.int .i64 4)), none⟩])
 (.ret))
 (.skip))))
 (.region [⟨some 52, .mv (.t 8), none⟩,
 ⟨some 53, .bin .add .num (.t 52) (.c (.int .i64 1)), none⟩,
 ⟨some 8, .mv (.t 53), none⟩]))))))
 (.seq (.seq (.region [⟨some 68, .mv (.t 5), none⟩,
 ⟨some 69, .mv (.t 6), none⟩,
 ⟨some 70, .mv (.t 4), none⟩,
 ⟨some 71, .call 96 [(.t 68), (.t 69), (.t 70)], none⟩])
 (.cond (.t 71)
 (.seq (.region [⟨some 2, .mv (.c (.int .i64 16)), none⟩])
 (.ret))
 (.skip)))
 (.seq (.region [⟨some 2, .mv (.c (.int .i64 0)), none⟩])
 (.ret)))))))))))))⟩

/- codend/codendref03.SameRows -/
def F25 : AFunc := ⟨26, [.tmp 4],
 .seq (.region [⟨some 4, .mv (.c (.bool false)), none⟩])
 (.seq (.seq (.region [⟨some 6, .mv (.t 0), none⟩,
 ⟨some 7, .len .sl (.t 6), none⟩,
 ⟨some 8, .mv (.t 1), none⟩,
 ⟨some 9, .len .sl (.t 8), none⟩,
 ⟨some 10, .bin .neq .num (.t 7) (.t 9), none⟩])
 (.cond (.t 10)
 (.seq (.region [⟨some 4, .mv (.c (.bool false)), none⟩])
 (.ret))
 (.skip)))
 (.seq (.seq (.region [⟨some 5, .mv (.c (.int .i64 0)), none⟩])
 (.block 0 (.loop (.seq (.seq (.region [⟨some 11, .mv (.t 5), none⟩,
 ⟨some 12, .mv (.t 0), none⟩,
 ⟨some 13, .len .sl (.t 12), none⟩,
 ⟨some 14, .bin .lss .num (.t 11) (.t 13), none⟩])
 (.cond (.t 14)
 (.skip)
 (.exit 0)))
 (.seq (.block 1 (.seq (.regionD [⟨⟨some 17, .mv (.t 0), none⟩, false, []⟩,
 ⟨⟨some 18, .mv (.t 5), none⟩, false, []⟩,
 ⟨⟨some 19, .indexAddr (.sl 2) (.t 17) (.t 18), none⟩, false, []⟩,
 ⟨⟨some 20, .load 2 true (.t 19), none⟩, false, []⟩,
 ⟨⟨some 21, .mv (.t 1), none⟩, false, []⟩,
 ⟨⟨some 22, .mv (.t 5), none⟩, false, []⟩,
 ⟨⟨some 23, .indexAddr (.sl 2) (.t 21) (.t 22), none⟩, false, []⟩,
 ⟨⟨some 24, .load 2 true (.t 23), none⟩, false, []⟩,
 ⟨⟨some 25, .bin .neq (.eq ⟨true, [.i, .i]⟩) (.t 20) (.t 24), none⟩, false, []⟩])
 (.cond (.t 25)
 (.seq (.region [⟨some 4, .mv (.c (.bool false)), none⟩])
 (.ret))
 (.skip))))
 (.region [⟨some 15, .mv (.t 5), none⟩,
 ⟨some 16, .bin .add .num (.t 15) (.c (.int .i64 1)), none⟩,
 ⟨some 5, .mv (.t 16), none⟩]))))))
 (.seq (.region [⟨some 4, .mv (.c (.bool true)), none⟩])
 (.ret))))⟩

/- codend/panel.Around -/
def F27 : AFunc := ⟨13, [.cell 2 4 true, .tmp 3],
 .seq (.region [⟨some 1, .box (.t 0), none⟩,
 ⟨some 2, .alloc [.int .i64 0, .int .i64 0, .int .i64 0, .int .i64 0], none⟩,
 ⟨some 3, .mv (.c (.int .i64 0)), none⟩])
 (.seq (.seq (.region [⟨some 5, .load 4 true (.t 1), none⟩,
 ⟨some 6, .call 58 [(.t 5)], none⟩,
 ⟨some 4, .mv (.t 6), none⟩])
 (.seq (.region [⟨some 7, .mv (.t 4), none⟩,
 ⟨some 8, .bin .neq .num (.t 7) (.c (.int .i64 0)), none⟩])
 (.cond (.t 8)
 (.seq (.region [⟨some 9, .build [.int .i64 0, .int .i64 0, .int .i64 0, .int .i64 0] [], none⟩,
 ⟨some 10, .mv (.t 4), none⟩,
 ⟨none, .store 4 (.t 2) (.t 9), none⟩,
 ⟨some 3, .mv (.t 10), none⟩])
 (.ret))
 (.skip))))
 (.seq (.region [⟨some 11, .load 4 true (.t 1), none⟩,
 ⟨some 12, .call 99 [(.t 11)], none⟩,
 ⟨none, .store 4 (.t 2) (.t 12), none⟩,
 ⟨some 3, .mv (.c (.int .i64 0)), none⟩])
 (.ret)))⟩

/- codend/panel.Rest -/
def F28 : AFunc := ⟨48, [.tmp 2, .tmp 3],
 .seq (.region [⟨some 1, .box (.t 0), none⟩,
 ⟨some 2, .mv (.c (.nilsl)), none⟩,
 ⟨some 3, .mv (.c (.int .i64 0)), none⟩])
 (.seq (.region [⟨some 9, .load 4 true (.t 1), none⟩,
 ⟨some 10, .call 88 [(.t 9)], none⟩,
 ⟨some 8, .mv (.t 10), none⟩,
 ⟨some 11, .extract 0 (.t 8), none⟩,
 ⟨some 12, .extract 1 (.t 8), none⟩,
 ⟨some 4, .mv (.t 11), none⟩,
 ⟨some 5, .mv (.t 12), none⟩])
 (.seq (.seq (.region [⟨some 13, .mv (.t 5), none⟩,
 ⟨some 14, .bin .neq .num (.t 13) (.c (.int .i64 0)), none⟩])
 (.cond (.t 14)
 (.seq (.region [⟨some 15, .mv (.t 5), none⟩,
 ⟨some 2, .mv (.c (.nilsl)), none⟩,
 ⟨some 3, .mv (.t 15), none⟩])
 (.ret))
 (.skip)))
 (.seq (.region [⟨some 16, .load 4 true (.t 1), none⟩,
 ⟨some 17, .call 99 [(.t 16)], none⟩,
 ⟨some 6, .alloc [.int .i64 0, .int .i64 0, .int .i64 0, .int .i64 0], none⟩,
 ⟨none, .store 4 (.t 6) (.t 17), none⟩])
 (.seq (.seq (.region [⟨some 18, .fieldAddr 2 (.t 6), none⟩,
 ⟨some 19, .load 1 false (.t 18), none⟩,
 ⟨some 20, .bin .gtr .num (.t 19) (.c (.int .i64 256)), none⟩,
 ⟨some 21, .mv (.t 20), none⟩,
 ⟨some 22, .fieldAddr 2 (.t 6), some (21, false)⟩,
 ⟨some 23, .load 1 false (.t 22), some (21, false)⟩,
 ⟨some 24, .bin .mul .num (.c (.int .i64 2)) (.t 23), some (21, false)⟩,
 ⟨some 25, .fieldAddr 3 (.t 6), some (21, false)⟩,
 ⟨some 26, .load 1 false (.t 25), some (21, false)⟩,
 ⟨some 27, .bin .mul .num (.t 24) (.t 26), some (21, false)⟩,
 ⟨some 28, .bin .gtr .num (.t 27) (.c (.int .i64 4096)), some (21, false)⟩,
 ⟨some 29, .pick (.t 21) (.c (.bool true)) (.t 28), none⟩])
 (.cond (.t 29)
 (.seq (.region [⟨some 2, .mv (.c (.nilsl)), none⟩,
 ⟨some 3, .mv (.c (.int .i64 5)), none⟩])
 (.ret))
 (.skip)))
 (.seq (.region [⟨some 31, .fieldAddr 0 (.t 6), none⟩,
 ⟨some 32, .load 2 true (.t 31), none⟩,
 ⟨some 33, .fieldAddr 2 (.t 6), none⟩,
 ⟨some 34, .load 1 false (.t 33), none⟩,
 ⟨some 35, .fieldAddr 3 (.t 6), none⟩,
 ⟨some 36, .load 1 false (.t 35), none⟩,
 ⟨some 37, .call 100 [(.t 32), (.t 34), (.t 36)], none⟩,
 ⟨some 30, .mv (.t 37), none⟩,
 ⟨some 38, .extract 0 (.t 30), none⟩,
 ⟨some 39, .extract 1 (.t 30), none⟩,
 ⟨some 7, .mv (.t 38), none⟩,
 ⟨some 5, .mv (.t 39), none⟩])
 (.seq (.seq (.region [⟨some 40, .mv (.t 5), none⟩,
 ⟨some 41, .bin .neq .num (.t 40) (.c (.int .i64 0)), none⟩])
 (.cond (.t 41)
 (.seq (.region [⟨some 42, .mv (.t 5), none⟩,
 ⟨some 2, .mv (.c (.nilsl)), none⟩,
 ⟨some 3, .mv (.t 42), none⟩])
 (.ret))
 (.skip)))
 (.seq (.region [⟨some 43, .mv (.t 7), none⟩,
 ⟨some 44, .mv (.t 4), none⟩,
 ⟨some 45, .call 101 [(.t 43), (.t 44)], none⟩,
 ⟨some 46, .extract 0 (.t 45), none⟩,
 ⟨some 47, .extract 1 (.t 45), none⟩,
 ⟨some 2, .mv (.t 46), none⟩,
 ⟨some 3, .mv (.t 47), none⟩])
 (.ret))))))))⟩

/- codend/panel.Area -/
def F31 : AFunc := ⟨39, [.tmp 2, .tmp 3],
 .seq (.region [⟨some 1, .box (.t 0), none⟩,
 ⟨some 2, .mv (.c (.int .i64 0)), none⟩,
 ⟨some 3, .mv (.c (.int .i64 0)), none⟩])
 (.seq (.seq (.region [⟨some 8, .load 4 true (.t 1), none⟩,
 ⟨some 9, .call 58 [(.t 8)], none⟩,
 ⟨some 4, .mv (.t 9), none⟩])
 (.seq (.region [⟨some 10, .mv (.t 4), none⟩,
 ⟨some 11, .bin .neq .num (.t 10) (.c (.int .i64 0)), none⟩])
 (.cond (.t 11)
 (.seq (.region [⟨some 12, .mv (.t 4), none⟩,
 ⟨some 2, .mv (.c (.int .i64 0)), none⟩,
 ⟨some 3, .mv (.t 12), none⟩])
 (.ret))
 (.skip))))
 (.seq (.region [⟨some 5, .mv (.c (.int .i64 0)), none⟩])
 (.seq (.seq (.region [⟨some 13, .load 4 true (.t 1), none⟩,
 ⟨some 14, .call 104 [(.t 13)], none⟩,
 ⟨some 15, .len .sl (.t 14), none⟩,
 ⟨some 16, .mv (.c (.int .i64 0)), none⟩])
 (.block 0 (.loop (.seq (.region [⟨some 17, .bin .lss .num (.t 16) (.t 15), none⟩])
 (.seq (.cond (.t 17)
 (.skip)
 (.exit 0))
 (.seq (.block 1 (.seq (.region [⟨some 18, .indexAddr (.sl 4) (.t 14) (.t 16), none⟩,
 ⟨some 19, .load 4 true (.t 18), none⟩,
 ⟨some 7, .alloc [.int .i64 0, .int .i64 0, .int .i64 0, .int .i64 0], none⟩,
 ⟨none, .store 4 (.t 7) (.t 19), none⟩])
 (.region [⟨some 20, .mv (.t 5), none⟩,
 ⟨some 21, .fieldAddr 0 (.t 7), none⟩,
 ⟨some 22, .indexAddr (.arr 2 1) (.t 21) (.c (.int .i64 1)), none⟩,
 ⟨some 23, .load 1 false (.t 22), none⟩,
 ⟨some 24, .fieldAddr 0 (.t 7), none⟩,
 ⟨some 25, .indexAddr (.arr 2 1) (.t 24) (.c (.int .i64 0)), none⟩,
 ⟨some 26, .load 1 false (.t 25), none⟩,
 ⟨some 27, .bin .sub .num (.t 23) (.t 26), none⟩,
 ⟨some 28, .fieldAddr 2 (.t 7), none⟩,
 ⟨some 29, .indexAddr (.arr 2 1) (.t 28) (.c (.int .i64 1)), none⟩,
 ⟨some 30, .load 1 false (.t 29), none⟩,
 ⟨some 31, .bin .add .num (.t 27) (.t 30), none⟩,
 ⟨some 32, .fieldAddr 2 (.t 7), none⟩,
 ⟨some 33, .indexAddr (.arr 2 1) (.t 32) (.c (.int .i64 0)), none⟩,
 ⟨some 34, .load 1 false (.t 33), none⟩,
 ⟨some 35, .bin .sub .num (.t 31) (.t 34), none⟩,
 ⟨some 36, .bin .add .num (.t 20) (.t 35), none⟩,
 ⟨some 5, .mv (.t 36), none⟩])))
 (.region [⟨some 37, .bin .add .num (.t 16) (.c (.int .i64 1)), none⟩,
 ⟨some 16, .mv (.t 37), none⟩])))))))
 (.seq (.region [⟨some 38, .mv (.t 5), none⟩,
 ⟨some 2, .mv (.t 38), none⟩,
 ⟨some 3, .mv (.c (.int .i64 0)), none⟩])
 (.ret)))))⟩

/- codend/panel.Stack -/
def F36 : AFunc := ⟨50, [.cell 4 4 true, .tmp 5],
 .seq (.region [⟨some 2, .box (.t 0), none⟩,
 ⟨some 3, .box (.t 1), none⟩,
 ⟨some 4, .alloc [.str [], .int .i64 0, .nilsl, .nilsl], none⟩,
 ⟨some 5, .mv (.c (.int .i64 0)), none⟩])
 (.seq (.seq (.regionD [⟨⟨some 8, .load 4 true (.t 2), none⟩, false, []⟩,
 ⟨⟨some 9, .call 58 [(.t 8)], none⟩, true, []⟩,
 ⟨⟨some 10, .load 4 true (.t 3), none⟩, false, []⟩,
 ⟨⟨some 11, .call 58 [(.t 10)], none⟩, false, []⟩,
 ⟨⟨some 12, .buildSl 1 2 [.int .i64 0, .int .i64 0] [(0, 1, (.t 9)), (1, 1, (.t 11))], none⟩, false, []⟩,
 ⟨⟨some 13, .call 105 [(.t 12)], none⟩, false, []⟩,
 ⟨⟨some 6, .mv (.t 13), none⟩, false, []⟩])
 (.seq (.region [⟨some 14, .mv (.t 6), none⟩,
 ⟨some 15, .bin .neq .num (.t 14) (.c (.int .i64 0)), none⟩])
 (.cond (.t 15)
 (.seq (.region [⟨some 16, .build [.str [], .int .i64 0, .nilsl, .nilsl] [], none⟩,
 ⟨some 17, .mv (.t 6), none⟩,
 ⟨none, .store 4 (.t 4) (.t 16), none⟩,
 ⟨some 5, .mv (.t 17), none⟩])
 (.ret))
 (.skip))))
 (.seq (.region [⟨some 18, .load 4 true (.t 2), none⟩,
 ⟨some 19, .call 106 [(.t 18)], none⟩,
 ⟨some 7, .alloc [.int .i64 0, .int .i64 0, .int .i64 0, .int .i64 0, .int .i64 0, .int .i64 0, .int .i64 0, .int .i64 0], none⟩,
 ⟨none, .store 8 (.t 7) (.t 19), none⟩])
 (.seq (.seq (.region [⟨some 20, .indexAddr (.arr 4 2) (.t 7) (.c (.int .i64 3)), none⟩,
 ⟨some 21, .fieldAddr 0 (.t 20), none⟩,
 ⟨some 22, .load 1 false (.t 21), none⟩,
 ⟨some 23, .indexAddr (.arr 4 2) (.t 7) (.c (.int .i64 2)), none⟩,
 ⟨some 24, .fieldAddr 0 (.t 23), none⟩,
 ⟨some 25, .load 1 false (.t 24), none⟩,
 ⟨some 26, .bin .sub .num (.t 22) (.t 25), none⟩,
 ⟨some 27, .fieldAddr 1 (.t 3), none⟩,
 ⟨some 28, .load 1 false (.t 27), none⟩,
 ⟨some 29, .bin .mul .num (.c (.int .i64 2)) (.t 28), none⟩,
 ⟨some 30, .bin .neq .num (.t 26) (.t 29), none⟩])
 (.cond (.t 30)
 (.seq (.region [⟨some 31, .build [.str [], .int .i64 0, .nilsl, .nilsl] [], none⟩,
 ⟨none, .store 4 (.t 4) (.t 31), none⟩,
 ⟨some 5, .mv (.c (.int .i64 24)), none⟩])
 (.ret))
 (.skip)))
 (.seq (.regionD [⟨⟨some 32, .fieldAddr 0 (.t 2), none⟩, false, []⟩,
 ⟨⟨some 33, .load 1 false (.t 32), none⟩, false, []⟩,
 ⟨⟨some 34, .fieldAddr 1 (.t 2), none⟩, false, []⟩,
 ⟨⟨some 35, .load 1 false (.t 34), none⟩, false, []⟩,
 ⟨⟨some 36, .fieldAddr 2 (.t 2), none⟩, false, []⟩,
 ⟨⟨some 37, .load 1 false (.t 36), none⟩, false, []⟩,
 ⟨⟨some 38, .fieldAddr 2 (.t 3), none⟩, false, []⟩,
 ⟨⟨some 39, .load 1 false (.t 38), none⟩, false, []⟩,
 ⟨⟨some 40, .call 108 [(.t 37), (.t 39)], none⟩, true, []⟩,
 ⟨⟨some 41, .fieldAddr 3 (.t 2), none⟩, false, []⟩,
 ⟨⟨some 42, .load 1 false (.t 41), none⟩, false, []⟩,
 ⟨⟨some 43, .fieldAddr 3 (.t 3), none⟩, false, []⟩,
 ⟨⟨some 44, .load 1 false (.t 43), none⟩, false, []⟩,
 ⟨⟨some 45, .call 108 [(.t 42), (.t 44)], none⟩, true, []⟩,
 ⟨⟨some 46, .build [.str [], .int .i64 0, .nilsl, .nilsl] [(0, 1, (.t 33)), (1, 1, (.t 35)), (2, 1, (.t 40)), (3, 1, (.t 45))], none⟩, false, []⟩,
 ⟨⟨some 47, .call 107 [(.t 46)], none⟩, false, []⟩,
 ⟨⟨some 48, .extract 0 (.t 47), none⟩, false, []⟩,
 ⟨⟨some 49, .extract 1 (.t 47), none⟩, false, []⟩,
 ⟨⟨none, .store 4 (.t 4) (.t 48), none⟩, false, []⟩,
 ⟨⟨some 5, .mv (.t 49), none⟩, false, []⟩])
 (.ret)))))⟩

/- codend/panel.Widen -/
def F37 : AFunc := ⟨33, [.cell 4 4 true, .tmp 5],
 .seq (.region [⟨some 2, .box (.t 0), none⟩,
 ⟨some 4, .alloc [.str [], .int .i64 0, .nilsl, .nilsl], none⟩,
 ⟨some 5, .mv (.c (.int .i64 0)), none⟩])
 (.seq (.seq (.region [⟨some 7, .load 4 true (.t 2), none⟩,
 ⟨some 8, .call 58 [(.t 7)], none⟩,
 ⟨some 9, .mv (.t 1), none⟩,
 ⟨some 10, .call 109 [(.t 9), (.c (.int .i64 (-128))), (.c (.int .i64 128))], none⟩,
 ⟨some 11, .buildSl 1 2 [.int .i64 0, .int .i64 0] [(0, 1, (.t 8)), (1, 1, (.t 10))], none⟩,
 ⟨some 12, .call 105 [(.t 11)], none⟩,
 ⟨some 6, .mv (.t 12), none⟩])
 (.seq (.region [⟨some 13, .mv (.t 6), none⟩,
 ⟨some 14, .bin .neq .num (.t 13) (.c (.int .i64 0)), none⟩])
 (.cond (.t 14)
 (.seq (.region [⟨some 15, .build [.str [], .int .i64 0, .nilsl, .nilsl] [], none⟩,
 ⟨some 16, .mv (.t 6), none⟩,
 ⟨none, .store 4 (.t 4) (.t 15), none⟩,
 ⟨some 5, .mv (.t 16), none⟩])
 (.ret))
 (.skip))))
 (.seq (.regionD [⟨⟨some 17, .fieldAddr 0 (.t 2), none⟩, false, []⟩,
 ⟨⟨some 18, .load 1 false (.t 17), none⟩, false, []⟩,
 ⟨⟨some 19, .fieldAddr 1 (.t 2), none⟩, false, []⟩,
 ⟨⟨some 20, .load 1 false (.t 19), none⟩, false, []⟩,
 ⟨⟨some 21, .mv (.t 1), none⟩, false, []⟩,
 ⟨⟨some 22, .bin .add .num (.t 20) (.t 21), none⟩, false, []⟩,
 ⟨⟨some 23, .fieldAddr 2 (.t 2), none⟩, false, []⟩,
 ⟨⟨some 24, .load 1 false (.t 23), none⟩, false, []⟩,
 ⟨⟨some 25, .call 110 [(.t 24)], none⟩, true, []⟩,
 ⟨⟨some 26, .fieldAddr 3 (.t 2), none⟩, false, []⟩,
 ⟨⟨some 27, .load 1 false (.t 26), none⟩, false, []⟩,
 ⟨⟨some 28, .call 110 [(.t 27)], none⟩, true, []⟩,
 ⟨⟨some 29, .build [.str [], .int .i64 0, .nilsl, .nilsl] [(0, 1, (.t 18)), (1, 1, (.t 22)), (2, 1, (.t 25)), (3, 1, (.t 28))], none⟩, false, []⟩,
 ⟨⟨some 30, .call 107 [(.t 29)], none⟩, false, []⟩,
 ⟨⟨some 31, .extract 0 (.t 30), none⟩, false, []⟩,
 ⟨⟨some 32, .extract 1 (.t 30), none⟩, false, []⟩,
 ⟨⟨none, .store 4 (.t 4) (.t 31), none⟩, false, []⟩,
 ⟨⟨some 5, .mv (.t 32), none⟩, false, []⟩])
 (.ret)))⟩

/- codend/codendref01.CheckRange -/
def F38 : AFunc := ⟨15, [.tmp 6],
 .seq (.region [⟨some 6, .mv (.c (.int .i64 0)), none⟩])
 (.seq (.seq (.region [⟨some 7, .mv (.t 0), none⟩,
 ⟨some 8, .mv (.t 1), none⟩,
 ⟨some 9, .bin .lss .num (.t 7) (.t 8), none⟩,
 ⟨some 10, .mv (.t 9), none⟩,
 ⟨some 11, .mv (.t 0), some (10, false)⟩,
 ⟨some 12, .mv (.t 2), some (10, false)⟩,
 ⟨some 13, .bin .gtr .num (.t 11) (.t 12), some (10, false)⟩,
 ⟨some 14, .pick (.t 10) (.c (.bool true)) (.t 13), none⟩])
 (.cond (.t 14)
 (.seq (.region [⟨some 6, .mv (.c (.int .i64 3)), none⟩])
 (.ret))
 (.skip)))
 (.seq (.region [⟨some 6, .mv (.c (.int .i64 0)), none⟩])
 (.ret)))⟩

/- codend/panel.Cut -/
def F41 : AFunc := ⟨112, [.cell 4 8 true, .tmp 5],
 .seq (.region [⟨some 2, .box (.t 0), none⟩,
 ⟨some 4, .alloc [.str [], .int .i64 0, .nilsl, .nilsl, .str [], .int .i64 0, .nilsl, .nilsl], none⟩,
 ⟨some 5, .mv (.c (.int .i64 0)), none⟩])
 (.seq (.seq (.region [⟨some 17, .load 4 true (.t 2), none⟩,
 ⟨some 18, .call 58 [(.t 17)], none⟩,
 ⟨some 6, .mv (.t 18), none⟩])
 (.seq (.region [⟨some 19, .mv (.t 6), none⟩,
 ⟨some 20, .bin .neq .num (.t 19) (.c (.int .i64 0)), none⟩])
 (.cond (.t 20)
 (.seq (.region [⟨some 21, .build [.str [], .int .i64 0, .nilsl, .nilsl, .str [], .int .i64 0, .nilsl, .nilsl] [], none⟩,
 ⟨some 22, .mv (.t 6), none⟩,
 ⟨none, .store 8 (.t 4) (.t 21), none⟩,
 ⟨some 5, .mv (.t 22), none⟩])
 (.ret))
 (.skip))))
 (.seq (.seq (.region [⟨some 23, .mv (.t 1), none⟩,
 ⟨some 24, .load 4 true (.t 2), none⟩,
 ⟨some 25, .call 89 [(.t 24)], none⟩,
 ⟨some 26, .bin .sub .num (.t 25) (.c (.int .i64 1)), none⟩,
 ⟨some 27, .call 109 [(.t 23), (.c (.int .i64 1)), (.t 26)], none⟩,
 ⟨some 7, .mv (.t 27), none⟩])
 (.seq (.region [⟨some 28, .mv (.t 7), none⟩,
 ⟨some 29, .bin .neq .num (.t 28) (.c (.int .i64 0)), none⟩])
 (.cond (.t 29)
 (.seq (.region [⟨some 30, .build [.str [], .int .i64 0, .nilsl, .nilsl, .str [], .int .i64 0, .nilsl, .nilsl] [], none⟩,
 ⟨some 31, .mv (.t 7), none⟩,
 ⟨none, .store 8 (.t 4) (.t 30), none⟩,
 ⟨some 5, .mv (.t 31), none⟩])
 (.ret))
 (.skip))))
 (.seq (.regionD [⟨⟨some 32, .load 4 true (.t 2), none⟩, false, []⟩,
 ⟨⟨some 33, .call 111 [(.t 32), (.c (.bool false))], none⟩, true, []⟩,
 ⟨⟨some 34, .load 4 true (.t 2), none⟩, false, []⟩,
 ⟨⟨some 35, .call 111 [(.t 34), (.c (.bool true))], none⟩, false, []⟩,
 ⟨⟨some 8, .mv (.t 33), none⟩, false, []⟩,
 ⟨⟨some 9, .mv (.t 35), none⟩, false, []⟩])
 (.seq (.region [⟨some 36, .mv (.t 8), none⟩,
 ⟨some 37, .mv (.t 1), none⟩,
 ⟨some 38, .call 112 [(.t 36), (.t 37)], none⟩,
 ⟨some 39, .mv (.t 9), none⟩,
 ⟨some 40, .mv (.t 1), none⟩,
 ⟨some 41, .call 112 [(.t 39), (.t 40)], none⟩,
 ⟨some 10, .mv (.t 38), none⟩,
 ⟨some 11, .mv (.t 41), none⟩])
 (.seq (.seq (.region [⟨some 42, .mv (.t 10), none⟩,
 ⟨some 43, .bin .lss .num (.t 42) (.c (.int .i64 0)), none⟩,
 ⟨some 44, .mv (.t 43), none⟩,
 ⟨some 45, .mv (.t 11), some (44, false)⟩,
 ⟨some 46, .bin .lss .num (.t 45) (.c (.int .i64 0)), some (44, false)⟩,
 ⟨some 47, .pick (.t 44) (.c (.bool true)) (.t 46), none⟩])
 (.cond (.t 47)
 (.seq (.region [⟨some 48, .build [.str [], .int .i64 0, .nilsl, .nilsl, .str [], .int .i64 0, .nilsl, .nilsl] [], none⟩,
 ⟨none, .store 8 (.t 4) (.t 48), none⟩,
 ⟨some 5, .mv (.c (.int .i64 18)), none⟩])
 (.ret))
 (.skip)))
 (.seq (.regionD [⟨⟨some 49, .fieldAddr 2 (.t 2), none⟩, false, []⟩,
 ⟨⟨some 50, .load 1 false (.t 49), none⟩, false, []⟩,
 ⟨⟨some 51, .call 114 [(.t 50)], none⟩, true, []⟩,
 ⟨⟨some 52, .call 113 [(.t 51)], none⟩, true, []⟩,
 ⟨⟨some 53, .fieldAddr 3 (.t 2), none⟩, false, []⟩,
 ⟨⟨some 54, .load 1 false (.t 53), none⟩, false, []⟩,
 ⟨⟨some 55, .call 114 [(.t 54)], none⟩, false, []⟩,
 ⟨⟨some 56, .call 113 [(.t 55)], none⟩, false, []⟩,
 ⟨⟨some 12, .mv (.t 52), none⟩, false, []⟩,
 ⟨⟨some 13, .mv (.t 56), none⟩, false, []⟩])
 (.seq (.regionD [⟨⟨some 58, .fieldAddr 0 (.t 2), none⟩, false, []⟩,
 ⟨⟨some 59, .load 1 false (.t 58), none⟩, false, []⟩,
 ⟨⟨some 60, .fieldAddr 1 (.t 2), none⟩, false, []⟩,
 ⟨⟨some 61, .load 1 false (.t 60), none⟩, false, []⟩,
 ⟨⟨some 62, .mv (.t 12), none⟩, false, []⟩,
 ⟨⟨some 63, .mv (.t 10), none⟩, false, []⟩,
 ⟨⟨some 64, .slice (.sl 2) (.t 62) none (some (.t 63)) none, none⟩, false, []⟩,
 ⟨⟨some 65, .call 115 [(.t 64)], none⟩, true, []⟩,
 ⟨⟨some 66, .mv (.t 13), none⟩, false, []⟩,
 ⟨⟨some 67, .mv (.t 11), none⟩, false, []⟩,
 ⟨⟨some 68, .slice (.sl 2) (.t 66) none (some (.t 67)) none, none⟩, false, []⟩,
 ⟨⟨some 69, .call 115 [(.t 68)], none⟩, true, []⟩,
 ⟨⟨some 70, .build [.str [], .int .i64 0, .nilsl, .nilsl] [(0, 1, (.t 59)), (1, 1, (.t 61)), (2, 1, (.t 65)), (3, 1, (.t 69))], none⟩, false, []⟩,
 ⟨⟨some 71, .call 107 [(.t 70)], none⟩, false, []⟩,
 ⟨⟨some 57, .mv (.t 71), none⟩, false, []⟩,
 ⟨⟨some 72, .extract 0 (.t 57), none⟩, false, []⟩,
 ⟨⟨some 73, .extract 1 (.t 57), none⟩, false, []⟩,
 ⟨⟨some 14, .alloc [.str [], .int .i64 0, .nilsl, .nilsl], none⟩, false, []⟩,
 ⟨⟨none, .store 4 (.t 14) (.t 72), none⟩, false, []⟩,
 ⟨⟨some 15, .mv (.t 73), none⟩, false, []⟩])
 (.seq (.seq (.region [⟨some 74, .mv (.t 15), none⟩,
 ⟨some 75, .bin .neq .num (.t 74) (.c (.int .i64 0)), none⟩])
 (.cond (.t 75)
 (.seq (.region [⟨some 76, .build [.str [], .int .i64 0, .nilsl, .nilsl, .str [], .int .i64 0, .nilsl, .nilsl] [], none⟩,
 ⟨some 77, .mv (.t 15), none⟩,
 ⟨none, .store 8 (.t 4) (.t 76), none⟩,
 ⟨some 5, .mv (.t 77), none⟩])
 (.ret))
 (.skip)))
 (.seq (.regionD [⟨⟨some 79, .fieldAddr 0 (.t 2), none⟩, false, []⟩,
 ⟨⟨some 80, .load 1 false (.t 79), none⟩, false, []⟩,
 ⟨⟨some 81, .mv (.t 9), none⟩, false, []⟩,
 ⟨⟨some 82, .mv (.t 11), none⟩, false, []⟩,
 ⟨⟨some 83, .indexAddr (.sl 2) (.t 81) (.t 82), none⟩, false, []⟩,
 ⟨⟨some 84, .fieldAddr 0 (.t 83), none⟩, false, []⟩,
 ⟨⟨some 85, .load 1 false (.t 84), none⟩, false, []⟩,
 ⟨⟨some 86, .mv (.t 8), none⟩, false, []⟩,
 ⟨⟨some 87, .mv (.t 10), none⟩, false, []⟩,
 ⟨⟨some 88, .indexAddr (.sl 2) (.t 86) (.t 87), none⟩, false, []⟩,
 ⟨⟨some 89, .fieldAddr 0 (.t 88), none⟩, false, []⟩,
 ⟨⟨some 90, .load 1 false (.t 89), none⟩, false, []⟩,
 ⟨⟨some 91, .bin .sub .num (.t 85) (.t 90), none⟩, false, []⟩,
 ⟨⟨some 92, .bin .quo .num (.t 91) (.c (.int .i64 2)), none⟩, false, []⟩,
 ⟨⟨some 93, .mv (.t 12), none⟩, false, []⟩,
 ⟨⟨some 94, .mv (.t 10), none⟩, false, []⟩,
 ⟨⟨some 95, .slice (.sl 2) (.t 93) (some (.t 94)) none none, none⟩, false, []⟩,
 ⟨⟨some 96, .call 115 [(.t 95)], none⟩, true, []⟩,
 ⟨⟨some 97, .mv (.t 13), none⟩, false, []⟩,
 ⟨⟨some 98, .mv (.t 11), none⟩, false, []⟩,
 ⟨⟨some 99, .slice (.sl 2) (.t 97) (some (.t 98)) none none, none⟩, false, []⟩,
 ⟨⟨some 100, .call 115 [(.t 99)], none⟩, true, []⟩,
 ⟨⟨some 101, .build [.str [], .int .i64 0, .nilsl, .nilsl] [(0, 1, (.t 80)), (1, 1, (.t 92)), (2, 1, (.t 96)), (3, 1, (.t 100))], none⟩, false, []⟩,
 ⟨⟨some 102, .call 107 [(.t 101)], none⟩, false, []⟩,
 ⟨⟨some 78, .mv (.t 102), none⟩, false, []⟩,
 ⟨⟨some 103, .extract 0 (.t 78), none⟩, false, []⟩,
 ⟨⟨some 104, .extract 1 (.t 78), none⟩, false, []⟩,
 ⟨⟨some 16, .alloc [.str [], .int .i64 0, .nilsl, .nilsl], none⟩, false, []⟩,
 ⟨⟨none, .store 4 (.t 16) (.t 103), none⟩, false, []⟩,
 ⟨⟨some 15, .mv (.t 104), none⟩, false, []⟩])
 (.seq (.seq (.region [⟨some 105, .mv (.t 15), none⟩,
 ⟨some 106, .bin .neq .num (.t 105) (.c (.int .i64 0)), none⟩])
 (.cond (.t 106)
 (.seq (.region [⟨some 107, .build [.str [], .int .i64 0, .nilsl, .nilsl, .str [], .int .i64 0, .nilsl, .nilsl] [], none⟩,
 ⟨some 108, .mv (.t 15), none⟩,
 ⟨none, .store 8 (.t 4) (.t 107), none⟩,
 ⟨some 5, .mv (.t 108), none⟩])
 (.ret))
 (.skip)))
 (.seq (.region [⟨some 109, .load 4 true (.t 14), none⟩,
 ⟨some 110, .load 4 true (.t 16), none⟩,
 ⟨some 111, .build [.str [], .int .i64 0, .nilsl, .nilsl, .str [], .int .i64 0, .nilsl, .nilsl] [(0, 4, (.t 109)), (4, 4, (.t 110))], none⟩,
 ⟨none, .store 8 (.t 4) (.t 111), none⟩,
 ⟨some 5, .mv (.c (.int .i64 0)), none⟩])
 (.ret))))))))))))⟩

/- codend/codendref03.Height -/
def F42 : AFunc := ⟨7, [.tmp 2],
 .seq (.region [⟨some 1, .box (.t 0), none⟩,
 ⟨some 2, .mv (.c (.int .i64 0)), none⟩])
 (.seq (.region [⟨some 3, .fieldAddr 2 (.t 1), none⟩,
 ⟨some 4, .load 1 false (.t 3), none⟩,
 ⟨some 5, .call 95 [(.t 4)], none⟩,
 ⟨some 6, .call 94 [(.t 5)], none⟩,
 ⟨some 2, .mv (.t 6), none⟩])
 (.ret))⟩

/- codend/codendref03.SamePanel -/
def F44 : AFunc := ⟨31, [.tmp 4],
 .seq (.region [⟨some 2, .box (.t 0), none⟩,
 ⟨some 3, .box (.t 1), none⟩,
 ⟨some 4, .mv (.c (.bool false)), none⟩])
 (.seq (.region [⟨some 5, .fieldAddr 0 (.t 2), none⟩,
 ⟨some 6, .load 1 false (.t 5), none⟩,
 ⟨some 7, .fieldAddr 0 (.t 3), none⟩,
 ⟨some 8, .load 1 false (.t 7), none⟩,
 ⟨some 9, .bin .eql .strs (.t 6) (.t 8), none⟩,
 ⟨some 10, .mv (.t 9), none⟩,
 ⟨some 11, .fieldAddr 1 (.t 2), some (10, true)⟩,
 ⟨some 12, .load 1 false (.t 11), some (10, true)⟩,
 ⟨some 13, .fieldAddr 1 (.t 3), some (10, true)⟩,
 ⟨some 14, .load 1 false (.t 13), some (10, true)⟩,
 ⟨some 15, .bin .eql .num (.t 12) (.t 14), some (10, true)⟩,
 ⟨some 16, .pick (.t 10) (.t 15) (.c (.bool false)), none⟩,
 ⟨some 17, .mv (.t 16), none⟩,
 ⟨some 18, .fieldAddr 2 (.t 2), some (17, true)⟩,
 ⟨some 19, .load 1 false (.t 18), some (17, true)⟩,
 ⟨some 20, .fieldAddr 2 (.t 3), some (17, true)⟩,
 ⟨some 21, .load 1 false (.t 20), some (17, true)⟩,
 ⟨some 22, .call 118 [(.t 19), (.t 21)], some (17, true)⟩,
 ⟨some 23, .pick (.t 17) (.t 22) (.c (.bool false)), none⟩,
 ⟨some 24, .mv (.t 23), none⟩,
 ⟨some 25, .fieldAddr 3 (.t 2), some (24, true)⟩,
 ⟨some 26, .load 1 false (.t 25), some (24, true)⟩,
 ⟨some 27, .fieldAddr 3 (.t 3), some (24, true)⟩,
 ⟨some 28, .load 1 false (.t 27), some (24, true)⟩,
 ⟨some 29, .call 118 [(.t 26), (.t 28)], some (24, true)⟩,
 ⟨some 30, .pick (.t 24) (.t 29) (.c (.bool false)), none⟩,
 ⟨some 4, .mv (.t 30), none⟩])
 (.ret))⟩

/- codend/codendlaw03.own -/
def F45 : AFunc := ⟨14, [.cell 2 4 true],
 .seq (.region [⟨some 1, .box (.t 0), none⟩,
 ⟨some 2, .alloc [.str [], .int .i64 0, .nilsl, .nilsl], none⟩])
 (.seq (.regionD [⟨⟨some 3, .fieldAddr 0 (.t 1), none⟩, false, []⟩,
 ⟨⟨some 4, .load 1 false (.t 3), none⟩, false, []⟩,
 ⟨⟨some 5, .fieldAddr 1 (.t 1), none⟩, false, []⟩,
 ⟨⟨some 6, .load 1 false (.t 5), none⟩, false, []⟩,
 ⟨⟨some 7, .fieldAddr 2 (.t 1), none⟩, false, []⟩,
 ⟨⟨some 8, .load 1 false (.t 7), none⟩, false, []⟩,
 ⟨⟨some 9, .call 119 [(.t 8)], none⟩, true, []⟩,
 ⟨⟨some 10, .fieldAddr 3 (.t 1), none⟩, false, []⟩,
 ⟨⟨some 11, .load 1 false (.t 10), none⟩, false, []⟩,
 ⟨⟨some 12, .call 119 [(.t 11)], none⟩, true, []⟩,
 ⟨⟨some 13, .build [.str [], .int .i64 0, .nilsl, .nilsl] [(0, 1, (.t 4)), (1, 1, (.t 6)), (2, 1, (.t 9)), (3, 1, (.t 12))], none⟩, false, []⟩,
 ⟨⟨none, .store 4 (.t 2) (.t 13), none⟩, false, []⟩])
 (.ret))⟩

/- codend/panel.Print -/
def F47 : AFunc := ⟨60, [.tmp 2, .tmp 3],
 .seq (.region [⟨some 2, .mv (.c (.str [])), none⟩,
 ⟨some 3, .mv (.c (.int .i64 0)), none⟩])
 (.seq (.seq (.region [⟨some 12, .mv (.t 0), none⟩,
 ⟨some 13, .call 120 [(.t 12)], none⟩,
 ⟨some 4, .mv (.t 13), none⟩])
 (.seq (.region [⟨some 14, .mv (.t 4), none⟩,
 ⟨some 15, .bin .neq .num (.t 14) (.c (.int .i64 0)), none⟩])
 (.cond (.t 15)
 (.seq (.region [⟨some 16, .mv (.t 4), none⟩,
 ⟨some 2, .mv (.c (.str [])), none⟩,
 ⟨some 3, .mv (.t 16), none⟩])
 (.ret))
 (.skip))))
 (.seq (.region [⟨some 5, .allocT 180 [.nilptr, .nilsl], none⟩])
 (.seq (.seq (.region [⟨some 17, .mv (.t 0), none⟩,
 ⟨some 18, .len .sl (.t 17), none⟩,
 ⟨some 19, .mv (.c (.int .i64 0)), none⟩])
 (.block 0 (.loop (.seq (.region [⟨some 20, .bin .lss .num (.t 19) (.t 18), none⟩])
 (.seq (.cond (.t 20)
 (.skip)
 (.exit 0))
 (.seq (.block 1 (.seq (.region [⟨some 21, .indexAddr (.sl 4) (.t 17) (.t 19), none⟩,
 ⟨some 22, .load 4 true (.t 21), none⟩,
 ⟨some 7, .alloc [.str [], .int .i64 0, .nilsl, .nilsl], none⟩,
 ⟨none, .store 4 (.t 7) (.t 22), none⟩])
 (.seq (.regionD [⟨⟨some 23, .fieldAddr 0 (.t 7), none⟩, false, []⟩,
 ⟨⟨some 24, .load 1 false (.t 23), none⟩, false, []⟩,
 ⟨⟨some 25, .bin .add .strs (.c (.str [112, 97, 110, 101, 108, 32])) (.t 24), none⟩, false, []⟩,
 ⟨⟨some 26, .bin .add .strs (.t 25) (.c (.str [32])), none⟩, false, []⟩,
 ⟨⟨some 27, .fieldAddr 1 (.t 7), none⟩, false, []⟩,
 ⟨⟨some 28, .load 1 false (.t 27), none⟩, false, []⟩,
 ⟨⟨some 29, .call 122 [(.t 28)], none⟩, true, []⟩,
 ⟨⟨some 30, .bin .add .strs (.t 26) (.t 29), none⟩, false, []⟩,
 ⟨⟨some 31, .bin .add .strs (.t 30) (.c (.str [10])), none⟩, false, []⟩,
 ⟨⟨some 32, .call 121 [(.t 5), (.t 31)], none⟩, false, []⟩])
 (.seq (.seq (.region [⟨some 33, .fieldAddr 2 (.t 7), none⟩,
 ⟨some 34, .load 1 false (.t 33), none⟩,
 ⟨some 35, .len .sl (.t 34), none⟩,
 ⟨some 36, .mv (.c (.int .i64 0)), none⟩])
 (.block 2 (.loop (.seq (.region [⟨some 37, .bin .lss .num (.t 36) (.t 35), none⟩])
 (.seq (.cond (.t 37)
 (.skip)
 (.exit 2))
 (.seq (.block 3 (.seq (.region [⟨some 38, .indexAddr (.sl 3) (.t 34) (.t 36), none⟩,
 ⟨some 39, .load 3 true (.t 38), none⟩,
 ⟨some 9, .alloc [.str [], .int .i64 0, .bool false], none⟩,
 ⟨none, .store 3 (.t 9) (.t 39), none⟩])
 (.region [⟨some 40, .load 3 true (.t 9), none⟩,
 ⟨some 41, .call 123 [(.t 40), (.c (.str [108, 101, 102, 116]))], none⟩,
 ⟨some 42, .call 121 [(.t 5), (.t 41)], none⟩])))
 (.region [⟨some 43, .bin .add .num (.t 36) (.c (.int .i64 1)), none⟩,
 ⟨some 36, .mv (.t 43), none⟩])))))))
 (.seq (.seq (.region [⟨some 44, .fieldAddr 3 (.t 7), none⟩,
 ⟨some 45, .load 1 false (.t 44), none⟩,
 ⟨some 46, .len .sl (.t 45), none⟩,
 ⟨some 47, .mv (.c (.int .i64 0)), none⟩])
 (.block 4 (.loop (.seq (.region [⟨some 48, .bin .lss .num (.t 47) (.t 46), none⟩])
 (.seq (.cond (.t 48)
 (.skip)
 (.exit 4))
 (.seq (.block 5 (.seq (.region [⟨some 49, .indexAddr (.sl 3) (.t 45) (.t 47), none⟩,
 ⟨some 50, .load 3 true (.t 49), none⟩,
 ⟨some 11, .alloc [.str [], .int .i64 0, .bool false], none⟩,
 ⟨none, .store 3 (.t 11) (.t 50), none⟩])
 (.region [⟨some 51, .load 3 true (.t 11), none⟩,
 ⟨some 52, .call 123 [(.t 51), (.c (.str [114, 105, 103, 104, 116]))], none⟩,
 ⟨some 53, .call 121 [(.t 5), (.t 52)], none⟩])))
 (.region [⟨some 54, .bin .add .num (.t 47) (.c (.int .i64 1)), none⟩,
 ⟨some 47, .mv (.t 54), none⟩])))))))
 (.region [⟨some 55, .call 121 [(.t 5), (.c (.str [101, 110, 100, 10]))], none⟩]))))))
 (.region [⟨some 56, .bin .add .num (.t 19) (.c (.int .i64 1)), none⟩,
 ⟨some 19, .mv (.t 56), none⟩])))))))
 (.seq (.seq (.region [⟨some 57, .call 124 [(.t 5)], none⟩,
 ⟨some 58, .bin .gtr .num (.t 57) (.c (.int .i64 16384)), none⟩])
 (.cond (.t 58)
 (.seq (.region [⟨some 2, .mv (.c (.str [])), none⟩,
 ⟨some 3, .mv (.c (.int .i64 26)), none⟩])
 (.ret))
 (.skip)))
 (.seq (.region [⟨some 59, .call 125 [(.t 5)], none⟩,
 ⟨some 2, .mv (.t 59), none⟩,
 ⟨some 3, .mv (.c (.int .i64 0)), none⟩])
 (.ret))))))⟩

/- codend/panel.Parse -/
def F49 : AFunc := ⟨48, [.tmp 2, .tmp 3, .tmp 4],
 .seq (.region [⟨some 2, .mv (.c (.nilsl)), none⟩,
 ⟨some 3, .mv (.c (.int .i64 0)), none⟩,
 ⟨some 4, .mv (.c (.int .i64 0)), none⟩])
 (.seq (.seq (.region [⟨some 10, .mv (.t 0), none⟩,
 ⟨some 11, .len .str (.t 10), none⟩,
 ⟨some 12, .bin .gtr .num (.t 11) (.c (.int .i64 16384)), none⟩])
 (.cond (.t 12)
 (.seq (.region [⟨some 2, .mv (.c (.nilsl)), none⟩,
 ⟨some 3, .mv (.c (.int .i64 0)), none⟩,
 ⟨some 4, .mv (.c (.int .i64 26)), none⟩])
 (.ret))
 (.skip)))
 (.seq (.region [⟨some 13, .build [.nilsl, .str [], .int .i64 0, .nilsl, .nilsl, .str []] [], none⟩,
 ⟨some 14, .box (.t 13), none⟩,
 ⟨some 5, .mv (.t 14), none⟩])
 (.seq (.region [⟨some 15, .mv (.t 5), none⟩,
 ⟨some 16, .mkFunc 126 [(.t 15)] [], none⟩,
 ⟨some 6, .alloc [.nilfunc], none⟩,
 ⟨none, .store 1 (.t 6) (.t 16), none⟩])
 (.seq (.region [⟨some 7, .alloc [.int .i64 0], none⟩,
 ⟨some 8, .alloc [.int .i64 0], none⟩,
 ⟨none, .store 1 (.t 7) (.c (.int .i64 0)), none⟩,
 ⟨none, .store 1 (.t 8) (.c (.int .i64 0)), none⟩])
 (.seq (.skip)
 (.seq (.seq (.region [⟨some 17, .mv (.t 0), none⟩,
 ⟨some 18, .call 127 [(.t 17)], none⟩])
 (.block 0 (.rangeFunc (.t 18) [19] (.region [⟨some 9, .mv (.t 19), none⟩])
 (.block 1 (.seq (.seq (.region [⟨some 20, .load 1 false (.t 6), none⟩,
 ⟨some 21, .mv (.t 9), none⟩,
 ⟨some 22, .dyn (.t 20) [(.t 21)], none⟩,
 ⟨none, .store 1 (.t 8) (.t 22), none⟩])
 (.seq (.region [⟨some 23, .load 1 false (.t 8), none⟩,
 ⟨some 24, .bin .neq .num (.t 23) (.c (.int .i64 0)), none⟩])
 (.cond (.t 24)
 (.exit 0)
 (.skip))))
 (.region [⟨some 25, .load 1 false (.t 7), none⟩,
 ⟨some 26, .bin .add .num (.t 25) (.c (.int .i64 1)), none⟩,
 ⟨none, .store 1 (.t 7) (.t 26), none⟩]))))))
 (.seq (.seq (.region [⟨some 27, .load 1 false (.t 8), none⟩,
 ⟨some 28, .bin .neq .num (.t 27) (.c (.int .i64 0)), none⟩])
 (.cond (.t 28)
 (.seq (.regionD [⟨⟨some 29, .load 1 false (.t 7), none⟩, false, []⟩,
 ⟨⟨some 30, .load 1 false (.t 8), none⟩, false, []⟩,
 ⟨⟨some 2, .mv (.c (.nilsl)), none⟩, false, []⟩,
 ⟨⟨some 3, .mv (.t 29), none⟩, false, []⟩,
 ⟨⟨some 4, .mv (.t 30), none⟩, false, []⟩])
 (.ret))
 (.skip)))
 (.seq (.seq (.region [⟨some 31, .mv (.t 5), none⟩,
 ⟨some 32, .nilChk (.t 31), none⟩,
 ⟨some 33, .fieldAddr 5 (.t 32), none⟩,
 ⟨some 34, .load 1 false (.t 33), none⟩,
 ⟨some 35, .bin .neq .strs (.t 34) (.c (.str [])), none⟩,
 ⟨some 36, .mv (.t 35), none⟩,
 ⟨some 37, .mv (.t 5), some (36, true)⟩,
 ⟨some 38, .nilChk (.t 37), some (36, true)⟩,
 ⟨some 39, .fieldAddr 5 (.t 38), some (36, true)⟩,
 ⟨some 40, .load 1 false (.t 39), some (36, true)⟩,
 ⟨some 41, .bin .neq .strs (.t 40) (.c (.str [101, 110, 100])), some (36, true)⟩,
 ⟨some 42, .pick (.t 36) (.t 41) (.c (.bool false)), none⟩])
 (.cond (.t 42)
 (.seq (.regionD [⟨⟨some 43, .load 1 false (.t 7), none⟩, false, []⟩,
 ⟨⟨some 2, .mv (.c (.nilsl)), none⟩, false, []⟩,
 ⟨⟨some 3, .mv (.t 43), none⟩, false, []⟩,
 ⟨⟨some 4, .mv (.c (.int .i64 28)), none⟩, false, []⟩])
 (.ret))
 (.skip)))
 (.seq (.region [⟨some 44, .mv (.t 5), none⟩,
 ⟨some 45, .nilChk (.t 44), none⟩,
 ⟨some 46, .fieldAddr 0 (.t 45), none⟩,
 ⟨some 47, .load 1 false (.t 46), none⟩,
 ⟨some 2, .mv (.t 47), none⟩,
 ⟨some 3, .mv (.c (.int .i64 0)), none⟩,
 ⟨some 4, .mv (.c (.int .i64 0)), none⟩])
 (.ret))))))))))⟩

/- codend/panel.Height -/
def F55 : AFunc := ⟨12, [.tmp 2, .tmp 3],
 .seq (.region [⟨some 1, .box (.t 0), none⟩,
 ⟨some 2, .mv (.c (.int .i64 0)), none⟩,
 ⟨some 3, .mv (.c (.int .i64 0)), none⟩])
 (.seq (.seq (.region [⟨some 5, .load 4 true (.t 1), none⟩,
 ⟨some 6, .call 58 [(.t 5)], none⟩,
 ⟨some 4, .mv (.t 6), none⟩])
 (.seq (.region [⟨some 7, .mv (.t 4), none⟩,
 ⟨some 8, .bin .neq .num (.t 7) (.c (.int .i64 0)), none⟩])
 (.cond (.t 8)
 (.seq (.region [⟨some 9, .mv (.t 4), none⟩,
 ⟨some 2, .mv (.c (.int .i64 0)), none⟩,
 ⟨some 3, .mv (.t 9), none⟩])
 (.ret))
 (.skip))))
 (.seq (.region [⟨some 10, .load 4 true (.t 1), none⟩,
 ⟨some 11, .call 89 [(.t 10)], none⟩,
 ⟨some 2, .mv (.t 11), none⟩,
 ⟨some 3, .mv (.c (.int .i64 0)), none⟩])
 (.ret)))⟩

/- codend/panel.CheckEdge -/
def F56 : AFunc := ⟨41, [.tmp 2],
 .seq (.region [⟨some 1, .box (.t 0), none⟩,
 ⟨some 2, .mv (.c (.int .i64 0)), none⟩])
 (.seq (.region [⟨some 3, .mv (.c (.bool false)), none⟩])
 (.seq (.seq (.region [⟨some 6, .fieldAddr 0 (.t 1), none⟩,
 ⟨some 7, .load 1 false (.t 6), none⟩,
 ⟨some 8, .range (.t 7), none⟩])
 (.block 0 (.loop (.seq (.region [⟨some 9, .next (.t 8), none⟩,
 ⟨some 10, .extract 0 (.t 9), none⟩])
 (.seq (.cond (.t 10)
 (.skip)
 (.exit 0))
 (.block 1 (.seq (.region [⟨some 11, .extract 2 (.t 9), none⟩,
 ⟨some 5, .mv (.t 11), none⟩])
 (.region [⟨some 12, .mv (.t 3), none⟩,
 ⟨some 13, .mv (.t 12), none⟩,
 ⟨some 14, .mv (.t 5), some (13, false)⟩,
 ⟨some 15, .bin .neq .num (.t 14) (.c (.int .i32 78)), some (13, false)⟩,
 ⟨some 16, .mv (.t 15), some (13, false)⟩,
 ⟨some 17, .mv (.t 5), some (16, true)⟩,
 ⟨some 18, .bin .neq .num (.t 17) (.c (.int .i32 66)), some (16, true)⟩,
 ⟨some 19, .pick (.t 16) (.t 18) (.c (.bool false)), some (13, false)⟩,
 ⟨some 20, .mv (.t 19), some (13, false)⟩,
 ⟨some 21, .mv (.t 5), some (20, true)⟩,
 ⟨some 22, .bin .neq .num (.t 21) (.c (.int .i32 84)), some (20, true)⟩,
 ⟨some 23, .pick (.t 20) (.t 22) (.c (.bool false)), some (13, false)⟩,
 ⟨some 24, .pick (.t 13) (.c (.bool true)) (.t 23), none⟩,
 ⟨some 3, .mv (.t 24), none⟩]))))))))
 (.seq (.regionD [⟨⟨some 25, .fieldAddr 0 (.t 1), none⟩, false, []⟩,
 ⟨⟨some 26, .load 1 false (.t 25), none⟩, false, []⟩,
 ⟨⟨some 27, .bin .eql .strs (.t 26) (.c (.str [])), none⟩, false, []⟩,
 ⟨⟨some 28, .call 133 [(.t 27), (.c (.int .i64 12))], none⟩, true, []⟩,
 ⟨⟨some 29, .fieldAddr 0 (.t 1), none⟩, false, []⟩,
 ⟨⟨some 30, .load 1 false (.t 29), none⟩, false, []⟩,
 ⟨⟨some 31, .len .str (.t 30), none⟩, false, []⟩,
 ⟨⟨some 32, .bin .gtr .num (.t 31) (.c (.int .i64 64)), none⟩, false, []⟩,
 ⟨⟨some 33, .call 133 [(.t 32), (.c (.int .i64 26))], none⟩, true, []⟩,
 ⟨⟨some 34, .mv (.t 3), none⟩, false, []⟩,
 ⟨⟨some 35, .call 133 [(.t 34), (.c (.int .i64 1))], none⟩, true, []⟩,
 ⟨⟨some 36, .fieldAddr 1 (.t 1), none⟩, false, []⟩,
 ⟨⟨some 37, .load 1 false (.t 36), none⟩, false, []⟩,
 ⟨⟨some 38, .call 109 [(.t 37), (.c (.int .i64 1)), (.c (.int .i64 64))], none⟩, false, []⟩,
 ⟨⟨some 39, .buildSl 1 4 [.int .i64 0, .int .i64 0, .int .i64 0, .int .i64 0] [(0, 1, (.t 28)), (1, 1, (.t 33)), (2, 1, (.t 35)), (3, 1, (.t 38))], none⟩, false, []⟩,
 ⟨⟨some 40, .call 105 [(.t 39)], none⟩, false, []⟩,
 ⟨⟨some 2, .mv (.t 40), none⟩, false, []⟩])
 (.ret))))⟩

/- codend/codendref03.CheckEdge -/
def F57 : AFunc := ⟨40, [.tmp 2],
 .seq (.region [⟨some 1, .box (.t 0), none⟩,
 ⟨some 2, .mv (.c (.int .i64 0)), none⟩])
 (.seq (.seq (.region [⟨some 4, .fieldAddr 0 (.t 1), none⟩,
 ⟨some 5, .load 1 false (.t 4), none⟩,
 ⟨some 6, .bin .eql .strs (.t 5) (.c (.str [])), none⟩])
 (.cond (.t 6)
 (.seq (.region [⟨some 2, .mv (.c (.int .i64 12)), none⟩])
 (.ret))
 (.skip)))
 (.seq (.seq (.region [⟨some 7, .fieldAddr 0 (.t 1), none⟩,
 ⟨some 8, .load 1 false (.t 7), none⟩,
 ⟨some 9, .len .str (.t 8), none⟩,
 ⟨some 10, .bin .gtr .num (.t 9) (.c (.int .i64 64)), none⟩])
 (.cond (.t 10)
 (.seq (.region [⟨some 2, .mv (.c (.int .i64 26)), none⟩])
 (.ret))
 (.skip)))
 (.seq (.seq (.region [⟨some 3, .mv (.c (.int .i64 0)), none⟩])
 (.block 0 (.loop (.seq (.seq (.region [⟨some 11, .mv (.t 3), none⟩,
 ⟨some 12, .fieldAddr 0 (.t 1), none⟩,
 ⟨some 13, .load 1 false (.t 12), none⟩,
 ⟨some 14, .len .str (.t 13), none⟩,
 ⟨some 15, .bin .lss .num (.t 11) (.t 14), none⟩])
 (.cond (.t 15)
 (.skip)
 (.exit 0)))
 (.seq (.block 1 (.seq (.region [⟨some 18, .fieldAddr 0 (.t 1), none⟩,
 ⟨some 19, .load 1 false (.t 18), none⟩,
 ⟨some 20, .mv (.t 3), none⟩,
 ⟨some 21, .index .str (.t 19) (.t 20), none⟩,
 ⟨some 22, .bin .neq .num (.t 21) (.c (.int .u8 78)), none⟩,
 ⟨some 23, .mv (.t 22), none⟩,
 ⟨some 24, .fieldAddr 0 (.t 1), some (23, true)⟩,
 ⟨some 25, .load 1 false (.t 24), some (23, true)⟩,
 ⟨some 26, .mv (.t 3), some (23, true)⟩,
 ⟨some 27, .index .str (.t 25) (.t 26), some (23, true)⟩,
 ⟨some 28, .bin .neq .num (.t 27) (.c (.int .u8 66)), some (23, true)⟩,
 ⟨some 29, .pick (.t 23) (.t 28) (.c (.bool false)), none⟩,
 ⟨some 30, .mv (.t 29), none⟩,
 ⟨some 31, .fieldAddr 0 (.t 1), some (30, true)⟩,
 ⟨some 32, .load 1 false (.t 31), some (30, true)⟩,
 ⟨some 33, .mv (.t 3), some (30, true)⟩,
 ⟨some 34, .index .str (.t 32) (.t 33), some (30, true)⟩,
 ⟨some 35, .bin .neq .num (.t 34) (.c (.int .u8 84)), some (30, true)⟩,
 ⟨some 36, .pick (.t 30) (.t 35) (.c (.bool false)), none⟩])
 (.cond (.t 36)
 (.seq (.region [⟨some 2, .mv (.c (.int .i64 1)), none⟩])
 (.ret))
 (.skip))))
 (.region [⟨some 16, .mv (.t 3), none⟩,
 ⟨some 17, .bin .add .num (.t 16) (.c (.int .i64 1)), none⟩,
 ⟨some 3, .mv (.t 17), none⟩]))))))
 (.seq (.region [⟨some 37, .fieldAddr 1 (.t 1), none⟩,
 ⟨some 38, .load 1 false (.t 37), none⟩,
 ⟨some 39, .call 38 [(.t 38), (.c (.int .i64 1)), (.c (.int .i64 64))], none⟩,
 ⟨some 2, .mv (.t 39), none⟩])
 (.ret)))))⟩

/- codend/panel.CheckPanel -/
def F58 : AFunc := ⟨86, [.tmp 2],
 .seq (.region [⟨some 1, .box (.t 0), none⟩,
 ⟨some 2, .mv (.c (.int .i64 0)), none⟩])
 (.seq (.seq (.regionD [⟨⟨some 12, .fieldAddr 0 (.t 1), none⟩, false, []⟩,
 ⟨⟨some 13, .load 1 false (.t 12), none⟩, false, []⟩,
 ⟨⟨some 14, .call 134 [(.t 13)], none⟩, true, []⟩,
 ⟨⟨some 15, .un .not (.t 14), none⟩, false, []⟩,
 ⟨⟨some 16, .call 133 [(.t 15), (.c (.int .i64 8))], none⟩, true, []⟩,
 ⟨⟨some 17, .fieldAddr 1 (.t 1), none⟩, false, []⟩,
 ⟨⟨some 18, .load 1 false (.t 17), none⟩, false, []⟩,
 ⟨⟨some 19, .call 109 [(.t 18), (.c (.int .i64 1)), (.c (.int .i64 128))], none⟩, true, []⟩,
 ⟨⟨some 20, .fieldAddr 2 (.t 1), none⟩, false, []⟩,
 ⟨⟨some 21, .load 1 false (.t 20), none⟩, false, []⟩,
 ⟨⟨some 22, .call 135 [(.t 21)], none⟩, true, []⟩,
 ⟨⟨some 23, .fieldAddr 3 (.t 1), none⟩, false, []⟩,
 ⟨⟨some 24, .load 1 false (.t 23), none⟩, false, []⟩,
 ⟨⟨some 25, .call 135 [(.t 24)], none⟩, false, []⟩,
 ⟨⟨some 26, .buildSl 1 4 [.int .i64 0, .int .i64 0, .int .i64 0, .int .i64 0] [(0, 1, (.t 16)), (1, 1, (.t 19)), (2, 1, (.t 22)), (3, 1, (.t 25))], none⟩, false, []⟩,
 ⟨⟨some 27, .call 105 [(.t 26)], none⟩, false, []⟩,
 ⟨⟨some 3, .mv (.t 27), none⟩, false, []⟩])
 (.seq (.region [⟨some 28, .mv (.t 3), none⟩,
 ⟨some 29, .bin .neq .num (.t 28) (.c (.int .i64 0)), none⟩])
 (.cond (.t 29)
 (.seq (.region [⟨some 30, .mv (.t 3), none⟩,
 ⟨some 2, .mv (.t 30), none⟩])
 (.ret))
 (.skip))))
 (.seq (.regionD [⟨⟨some 31, .load 4 true (.t 1), none⟩, false, []⟩,
 ⟨⟨some 32, .call 111 [(.t 31), (.c (.bool false))], none⟩, true, []⟩,
 ⟨⟨some 33, .load 4 true (.t 1), none⟩, false, []⟩,
 ⟨⟨some 34, .call 111 [(.t 33), (.c (.bool true))], none⟩, false, []⟩,
 ⟨⟨some 4, .mv (.t 32), none⟩, false, []⟩,
 ⟨⟨some 5, .mv (.t 34), none⟩, false, []⟩])
 (.seq (.region [⟨some 35, .mv (.t 4), none⟩,
 ⟨some 36, .call 136 [(.t 35)], none⟩,
 ⟨some 37, .field 1 1 false (.t 36), none⟩,
 ⟨some 6, .mv (.t 37), none⟩])
 (.seq (.region [⟨some 38, .mv (.t 4), none⟩,
 ⟨some 39, .call 137 [(.t 38), (.f 138)], none⟩,
 ⟨some 40, .mv (.t 39), none⟩,
 ⟨some 41, .mv (.t 5), some (40, false)⟩,
 ⟨some 42, .call 137 [(.t 41), (.f 138)], some (40, false)⟩,
 ⟨some 43, .pick (.t 40) (.c (.bool true)) (.t 42), none⟩,
 ⟨some 7, .mv (.t 43), none⟩])
 (.seq (.seq (.region [⟨some 44, .mv (.t 6), none⟩,
 ⟨some 45, .mv (.t 5), none⟩,
 ⟨some 46, .call 136 [(.t 45)], none⟩,
 ⟨some 47, .field 1 1 false (.t 46), none⟩,
 ⟨some 48, .bin .neq .num (.t 44) (.t 47), none⟩,
 ⟨some 49, .call 133 [(.t 48), (.c (.int .i64 2))], none⟩,
 ⟨some 50, .mv (.t 6), none⟩,
 ⟨some 51, .bin .eql .num (.t 50) (.c (.int .i64 0)), none⟩,
 ⟨some 52, .call 133 [(.t 51), (.c (.int .i64 12))], none⟩,
 ⟨some 53, .mv (.t 6), none⟩,
 ⟨some 54, .bin .gtr .num (.t 53) (.c (.int .i64 256)), none⟩,
 ⟨some 55, .mv (.t 54), none⟩,
 ⟨some 56, .mv (.t 7), some (55, false)⟩,
 ⟨some 57, .pick (.t 55) (.c (.bool true)) (.t 56), none⟩,
 ⟨some 58, .call 133 [(.t 57), (.c (.int .i64 4))], none⟩,
 ⟨some 59, .buildSl 1 3 [.int .i64 0, .int .i64 0, .int .i64 0] [(0, 1, (.t 49)), (1, 1, (.t 52)), (2, 1, (.t 58))], none⟩,
 ⟨some 60, .call 105 [(.t 59)], none⟩,
 ⟨some 8, .mv (.t 60), none⟩])
 (.seq (.region [⟨some 61, .mv (.t 8), none⟩,
 ⟨some 62, .bin .neq .num (.t 61) (.c (.int .i64 0)), none⟩])
 (.cond (.t 62)
 (.seq (.region [⟨some 63, .mv (.t 8), none⟩,
 ⟨some 2, .mv (.t 63), none⟩])
 (.ret))
 (.skip))))
 (.seq (.region [⟨some 64, .mv (.t 4), none⟩,
 ⟨some 65, .call 139 [(.t 64)], none⟩,
 ⟨some 66, .mv (.t 5), none⟩,
 ⟨some 67, .call 139 [(.t 66)], none⟩,
 ⟨some 9, .mv (.t 65), none⟩,
 ⟨some 10, .mv (.t 67), none⟩])
 (.seq (.seq (.region [⟨some 68, .mv (.t 9), none⟩,
 ⟨some 69, .len .sl (.t 68), none⟩,
 ⟨some 70, .mv (.c (.int .i64 0)), none⟩])
 (.block 0 (.loop (.seq (.region [⟨some 71, .bin .lss .num (.t 70) (.t 69), none⟩])
 (.seq (.cond (.t 71)
 (.skip)
 (.exit 0))
 (.seq (.block 1 (.seq (.region [⟨some 72, .mv (.t 70), none⟩,
 ⟨some 11, .mv (.t 72), none⟩])
 (.seq (.regionD [⟨⟨some 73, .mv (.t 10), none⟩, false, []⟩,
 ⟨⟨some 74, .mv (.t 11), none⟩, false, []⟩,
 ⟨⟨some 75, .indexAddr (.sl 2) (.t 73) (.t 74), none⟩, false, []⟩,
 ⟨⟨some 76, .indexAddr (.arr 2 1) (.t 75) (.c (.int .i64 0)), none⟩, false, []⟩,
 ⟨⟨some 77, .load 1 false (.t 76), none⟩, false, []⟩,
 ⟨⟨some 78, .mv (.t 9), none⟩, false, []⟩,
 ⟨⟨some 79, .mv (.t 11), none⟩, false, []⟩,
 ⟨⟨some 80, .indexAddr (.sl 2) (.t 78) (.t 79), none⟩, false, []⟩,
 ⟨⟨some 81, .indexAddr (.arr 2 1) (.t 80) (.c (.int .i64 1)), none⟩, false, []⟩,
 ⟨⟨some 82, .load 1 false (.t 81), none⟩, false, []⟩,
 ⟨⟨some 83, .bin .add .num (.t 82) (.c (.int .i64 2)), none⟩, false, []⟩,
 ⟨⟨some 84, .bin .lss .num (.t 77) (.t 83), none⟩, false, []⟩])
 (.cond (.t 84)
 (.seq (.region [⟨some 2, .mv (.c (.int .i64 16)), none⟩])
 (.ret))
 (.skip)))))
 (.region [⟨some 85, .bin .add .num (.t 70) (.c (.int .i64 1)), none⟩,
 ⟨some 70, .mv (.t 85), none⟩])))))))
 (.seq (.region [⟨some 2, .mv (.c (.int .i64 0)), none⟩])
 (.ret)))))))))⟩

/- codend/panel.Outline -/
def F59 : AFunc := ⟨15, [.tmp 4, .tmp 5],
 .seq (.region [⟨some 2, .box (.t 0), none⟩,
 ⟨some 4, .mv (.c (.nilsl)), none⟩,
 ⟨some 5, .mv (.c (.int .i64 0)), none⟩])
 (.seq (.seq (.region [⟨some 7, .load 4 true (.t 2), none⟩,
 ⟨some 8, .call 58 [(.t 7)], none⟩,
 ⟨some 6, .mv (.t 8), none⟩])
 (.seq (.region [⟨some 9, .mv (.t 6), none⟩,
 ⟨some 10, .bin .neq .num (.t 9) (.c (.int .i64 0)), none⟩])
 (.cond (.t 10)
 (.seq (.region [⟨some 11, .mv (.t 6), none⟩,
 ⟨some 4, .mv (.c (.nilsl)), none⟩,
 ⟨some 5, .mv (.t 11), none⟩])
 (.ret))
 (.skip))))
 (.seq (.region [⟨some 12, .load 4 true (.t 2), none⟩,
 ⟨some 13, .mv (.t 1), none⟩,
 ⟨some 14, .call 111 [(.t 12), (.t 13)], none⟩,
 ⟨some 4, .mv (.t 14), none⟩,
 ⟨some 5, .mv (.c (.int .i64 0)), none⟩])
 (.ret)))⟩

/- codend/panel.Strips -/
def F61 : AFunc := ⟨12, [.tmp 2, .tmp 3],
 .seq (.region [⟨some 1, .box (.t 0), none⟩,
 ⟨some 2, .mv (.c (.nilsl)), none⟩,
 ⟨some 3, .mv (.c (.int .i64 0)), none⟩])
 (.seq (.seq (.region [⟨some 5, .load 4 true (.t 1), none⟩,
 ⟨some 6, .call 58 [(.t 5)], none⟩,
 ⟨some 4, .mv (.t 6), none⟩])
 (.seq (.region [⟨some 7, .mv (.t 4), none⟩,
 ⟨some 8, .bin .neq .num (.t 7) (.c (.int .i64 0)), none⟩])
 (.cond (.t 8)
 (.seq (.region [⟨some 9, .mv (.t 4), none⟩,
 ⟨some 2, .mv (.c (.nilsl)), none⟩,
 ⟨some 3, .mv (.t 9), none⟩])
 (.ret))
 (.skip))))
 (.seq (.region [⟨some 10, .load 4 true (.t 1), none⟩,
 ⟨some 11, .call 104 [(.t 10)], none⟩,
 ⟨some 2, .mv (.t 11), none⟩,
 ⟨some 3, .mv (.c (.int .i64 0)), none⟩])
 (.ret)))⟩

/- codend/panel.Letters -/
def F62 : AFunc := ⟨42, [.cell 2 3 true, .tmp 3],
 .seq (.region [⟨some 1, .box (.t 0), none⟩,
 ⟨some 2, .alloc [.int .i64 0, .int .i64 0, .int .i64 0], none⟩,
 ⟨some 3, .mv (.c (.int .i64 0)), none⟩])
 (.seq (.seq (.region [⟨some 9, .load 4 true (.t 1), none⟩,
 ⟨some 10, .call 58 [(.t 9)], none⟩,
 ⟨some 4, .mv (.t 10), none⟩])
 (.seq (.region [⟨some 11, .mv (.t 4), none⟩,
 ⟨some 12, .bin .neq .num (.t 11) (.c (.int .i64 0)), none⟩])
 (.cond (.t 12)
 (.seq (.region [⟨some 13, .build [.int .i64 0, .int .i64 0, .int .i64 0] [], none⟩,
 ⟨some 14, .mv (.t 4), none⟩,
 ⟨none, .store 3 (.t 2) (.t 13), none⟩,
 ⟨some 3, .mv (.t 14), none⟩])
 (.ret))
 (.skip))))
 (.seq (.region [⟨some 15, .mkMap, none⟩,
 ⟨some 5, .alloc [.nilmap], none⟩,
 ⟨none, .store 1 (.t 5) (.t 15), none⟩])
 (.seq (.seq (.region [⟨some 16, .fieldAddr 2 (.t 1), none⟩,
 ⟨some 17, .load 1 false (.t 16), none⟩,
 ⟨some 18, .fieldAddr 3 (.t 1), none⟩,
 ⟨some 19, .load 1 false (.t 18), none⟩,
 ⟨some 20, .buildSl 1 2 [.nilsl, .nilsl] [(0, 1, (.t 17)), (1, 1, (.t 19))], none⟩,
 ⟨some 21, .len .sl (.t 20), none⟩,
 ⟨some 22, .mv (.c (.int .i64 0)), none⟩])
 (.block 0 (.loop (.seq (.region [⟨some 23, .bin .lss .num (.t 22) (.t 21), none⟩])
 (.seq (.cond (.t 23)
 (.skip)
 (.exit 0))
 (.seq (.block 1 (.seq (.region [⟨some 24, .indexAddr (.sl 1) (.t 20) (.t 22), none⟩,
 ⟨some 25, .load 1 false (.t 24), none⟩,
 ⟨some 7, .mv (.t 25), none⟩])
 (.seq (.region [⟨some 26, .mv (.t 7), none⟩,
 ⟨some 27, .call 114 [(.t 26)], none⟩])
 (.block 2 (.rangeFunc (.t 27) [28] (.region [⟨some 8, .alloc [.int .u8 0, .bool false], none⟩,
 ⟨none, .store 2 (.t 8) (.t 28), none⟩])
 (.block 3 (.region [⟨some 29, .load 1 false (.t 5), none⟩,
 ⟨some 30, .fieldAddr 0 (.t 8), none⟩,
 ⟨some 31, .load 1 false (.t 30), none⟩,
 ⟨some 32, .lookup ⟨false, [.i]⟩ (.int .i64 0) false (.t 29) (.t 31), none⟩,
 ⟨some 33, .bin .add .num (.t 32) (.c (.int .i64 1)), none⟩,
 ⟨none, .mapUpd ⟨false, [.i]⟩ (.t 29) (.t 31) (.t 33), none⟩])))))))
 (.region [⟨some 34, .bin .add .num (.t 22) (.c (.int .i64 1)), none⟩,
 ⟨some 22, .mv (.t 34), none⟩])))))))
 (.seq (.region [⟨some 35, .load 1 false (.t 5), none⟩,
 ⟨some 36, .lookup ⟨false, [.i]⟩ (.int .i64 0) false (.t 35) (.c (.int .u8 78)), none⟩,
 ⟨some 37, .load 1 false (.t 5), none⟩,
 ⟨some 38, .lookup ⟨false, [.i]⟩ (.int .i64 0) false (.t 37) (.c (.int .u8 66)), none⟩,
 ⟨some 39, .load 1 false (.t 5), none⟩,
 ⟨some 40, .lookup ⟨false, [.i]⟩ (.int .i64 0) false (.t 39) (.c (.int .u8 84)), none⟩,
 ⟨some 41, .build [.int .i64 0, .int .i64 0, .int .i64 0] [(0, 1, (.t 36)), (1, 1, (.t 38)), (2, 1, (.t 40))], none⟩,
 ⟨none, .store 3 (.t 2) (.t 41), none⟩,
 ⟨some 3, .mv (.c (.int .i64 0)), none⟩])
 (.ret)))))⟩

/- codend/codendref01.SameKnots -/
def F63 : AFunc := ⟨26, [.tmp 4],
 .seq (.region [⟨some 4, .mv (.c (.bool false)), none⟩])
 (.seq (.seq (.region [⟨some 6, .mv (.t 0), none⟩,
 ⟨some 7, .len .sl (.t 6), none⟩,
 ⟨some 8, .mv (.t 1), none⟩,
 ⟨some 9, .len .sl (.t 8), none⟩,
 ⟨some 10, .bin .neq .num (.t 7) (.t 9), none⟩])
 (.cond (.t 10)
 (.seq (.region [⟨some 4, .mv (.c (.bool false)), none⟩])
 (.ret))
 (.skip)))
 (.seq (.seq (.region [⟨some 5, .mv (.c (.int .i64 0)), none⟩])
 (.block 0 (.loop (.seq (.seq (.region [⟨some 11, .mv (.t 5), none⟩,
 ⟨some 12, .mv (.t 0), none⟩,
 ⟨some 13, .len .sl (.t 12), none⟩,
 ⟨some 14, .bin .lss .num (.t 11) (.t 13), none⟩])
 (.cond (.t 14)
 (.skip)
 (.exit 0)))
 (.seq (.block 1 (.seq (.regionD [⟨⟨some 17, .mv (.t 0), none⟩, false, []⟩,
 ⟨⟨some 18, .mv (.t 5), none⟩, false, []⟩,
 ⟨⟨some 19, .indexAddr (.sl 2) (.t 17) (.t 18), none⟩, false, []⟩,
 ⟨⟨some 20, .load 2 true (.t 19), none⟩, false, []⟩,
 ⟨⟨some 21, .mv (.t 1), none⟩, false, []⟩,
 ⟨⟨some 22, .mv (.t 5), none⟩, false, []⟩,
 ⟨⟨some 23, .indexAddr (.sl 2) (.t 21) (.t 22), none⟩, false, []⟩,
 ⟨⟨some 24, .load 2 true (.t 23), none⟩, false, []⟩,
 ⟨⟨some 25, .bin .neq (.eq ⟨true, [.i, .i]⟩) (.t 20) (.t 24), none⟩, false, []⟩])
 (.cond (.t 25)
 (.seq (.region [⟨some 4, .mv (.c (.bool false)), none⟩])
 (.ret))
 (.skip))))
 (.region [⟨some 15, .mv (.t 5), none⟩,
 ⟨some 16, .bin .add .num (.t 15) (.c (.int .i64 1)), none⟩,
 ⟨some 5, .mv (.t 16), none⟩]))))))
 (.seq (.region [⟨some 4, .mv (.c (.bool true)), none⟩])
 (.ret))))⟩

/- codend/codendref03.Outline -/
def F64 : AFunc := ⟨19, [.tmp 4],
 .seq (.region [⟨some 2, .box (.t 0), none⟩,
 ⟨some 4, .mv (.c (.nilsl)), none⟩])
 (.seq (.seq (.region [⟨some 5, .mv (.t 1), none⟩])
 (.cond (.t 5)
 (.seq (.regionD [⟨⟨some 6, .fieldAddr 1 (.t 2), none⟩, false, []⟩,
 ⟨⟨some 7, .load 1 false (.t 6), none⟩, false, []⟩,
 ⟨⟨some 8, .bin .mul .num (.c (.int .i64 2)) (.t 7), none⟩, false, []⟩,
 ⟨⟨some 9, .build [.int .i64 0, .int .i64 0] [(0, 1, (.t 8))], none⟩, false, []⟩,
 ⟨⟨some 10, .fieldAddr 3 (.t 2), none⟩, false, []⟩,
 ⟨⟨some 11, .load 1 false (.t 10), none⟩, false, []⟩,
 ⟨⟨some 12, .call 95 [(.t 11)], none⟩, true, []⟩,
 ⟨⟨some 13, .call 140 [(.t 9), (.t 12), (.c (.bool true))], none⟩, false, []⟩,
 ⟨⟨some 4, .mv (.t 13), none⟩, false, []⟩])
 (.ret))
 (.skip)))
 (.seq (.region [⟨some 14, .build [.int .i64 0, .int .i64 0] [], none⟩,
 ⟨some 15, .fieldAddr 2 (.t 2), none⟩,
 ⟨some 16, .load 1 false (.t 15), none⟩,
 ⟨some 17, .call 95 [(.t 16)], none⟩,
 ⟨some 18, .call 140 [(.t 14), (.t 17), (.c (.bool false))], none⟩,
 ⟨some 4, .mv (.t 18), none⟩])
 (.ret)))⟩

/- codend/codendref01.SameNet -/
def F73 : AFunc := ⟨26, [.tmp 4],
 .seq (.region [⟨some 4, .mv (.c (.bool false)), none⟩])
 (.seq (.seq (.region [⟨some 6, .mv (.t 0), none⟩,
 ⟨some 7, .len .sl (.t 6), none⟩,
 ⟨some 8, .mv (.t 1), none⟩,
 ⟨some 9, .len .sl (.t 8), none⟩,
 ⟨some 10, .bin .neq .num (.t 7) (.t 9), none⟩])
 (.cond (.t 10)
 (.seq (.region [⟨some 4, .mv (.c (.bool false)), none⟩])
 (.ret))
 (.skip)))
 (.seq (.seq (.region [⟨some 5, .mv (.c (.int .i64 0)), none⟩])
 (.block 0 (.loop (.seq (.seq (.region [⟨some 11, .mv (.t 5), none⟩,
 ⟨some 12, .mv (.t 0), none⟩,
 ⟨some 13, .len .sl (.t 12), none⟩,
 ⟨some 14, .bin .lss .num (.t 11) (.t 13), none⟩])
 (.cond (.t 14)
 (.skip)
 (.exit 0)))
 (.seq (.block 1 (.seq (.regionD [⟨⟨some 17, .mv (.t 0), none⟩, false, []⟩,
 ⟨⟨some 18, .mv (.t 5), none⟩, false, []⟩,
 ⟨⟨some 19, .indexAddr (.sl 3) (.t 17) (.t 18), none⟩, false, []⟩,
 ⟨⟨some 20, .load 3 true (.t 19), none⟩, false, []⟩,
 ⟨⟨some 21, .mv (.t 1), none⟩, false, []⟩,
 ⟨⟨some 22, .mv (.t 5), none⟩, false, []⟩,
 ⟨⟨some 23, .indexAddr (.sl 3) (.t 21) (.t 22), none⟩, false, []⟩,
 ⟨⟨some 24, .load 3 true (.t 23), none⟩, false, []⟩,
 ⟨⟨some 25, .bin .neq (.eq ⟨true, [.i, .i, .i]⟩) (.t 20) (.t 24), none⟩, false, []⟩])
 (.cond (.t 25)
 (.seq (.region [⟨some 4, .mv (.c (.bool false)), none⟩])
 (.ret))
 (.skip))))
 (.region [⟨some 15, .mv (.t 5), none⟩,
 ⟨some 16, .bin .add .num (.t 15) (.c (.int .i64 1)), none⟩,
 ⟨some 5, .mv (.t 16), none⟩]))))))
 (.seq (.region [⟨some 4, .mv (.c (.bool true)), none⟩])
 (.ret))))⟩

/- codend/panel.Turn -/
def F76 : AFunc := ⟨34, [.cell 2 4 true, .tmp 3],
 .seq (.region [⟨some 1, .box (.t 0), none⟩,
 ⟨some 2, .alloc [.str [], .int .i64 0, .nilsl, .nilsl], none⟩,
 ⟨some 3, .mv (.c (.int .i64 0)), none⟩])
 (.seq (.seq (.region [⟨some 6, .load 4 true (.t 1), none⟩,
 ⟨some 7, .call 58 [(.t 6)], none⟩,
 ⟨some 4, .mv (.t 7), none⟩])
 (.seq (.region [⟨some 8, .mv (.t 4), none⟩,
 ⟨some 9, .bin .neq .num (.t 8) (.c (.int .i64 0)), none⟩])
 (.cond (.t 9)
 (.seq (.region [⟨some 10, .build [.str [], .int .i64 0, .nilsl, .nilsl] [], none⟩,
 ⟨some 11, .mv (.t 4), none⟩,
 ⟨none, .store 4 (.t 2) (.t 10), none⟩,
 ⟨some 3, .mv (.t 11), none⟩])
 (.ret))
 (.skip))))
 (.seq (.region [⟨some 12, .load 4 true (.t 1), none⟩,
 ⟨some 13, .call 106 [(.t 12)], none⟩,
 ⟨some 5, .alloc [.int .i64 0, .int .i64 0, .int .i64 0, .int .i64 0, .int .i64 0, .int .i64 0, .int .i64 0, .int .i64 0], none⟩,
 ⟨none, .store 8 (.t 5) (.t 13), none⟩])
 (.seq (.regionD [⟨⟨some 14, .fieldAddr 0 (.t 1), none⟩, false, []⟩,
 ⟨⟨some 15, .load 1 false (.t 14), none⟩, false, []⟩,
 ⟨⟨some 16, .indexAddr (.arr 4 2) (.t 5) (.c (.int .i64 3)), none⟩, false, []⟩,
 ⟨⟨some 17, .fieldAddr 0 (.t 16), none⟩, false, []⟩,
 ⟨⟨some 18, .load 1 false (.t 17), none⟩, false, []⟩,
 ⟨⟨some 19, .indexAddr (.arr 4 2) (.t 5) (.c (.int .i64 2)), none⟩, false, []⟩,
 ⟨⟨some 20, .fieldAddr 0 (.t 19), none⟩, false, []⟩,
 ⟨⟨some 21, .load 1 false (.t 20), none⟩, false, []⟩,
 ⟨⟨some 22, .bin .sub .num (.t 18) (.t 21), none⟩, false, []⟩,
 ⟨⟨some 23, .bin .quo .num (.t 22) (.c (.int .i64 2)), none⟩, false, []⟩,
 ⟨⟨some 24, .fieldAddr 3 (.t 1), none⟩, false, []⟩,
 ⟨⟨some 25, .load 1 false (.t 24), none⟩, false, []⟩,
 ⟨⟨some 26, .call 148 [(.t 25)], none⟩, true, []⟩,
 ⟨⟨some 27, .fieldAddr 2 (.t 1), none⟩, false, []⟩,
 ⟨⟨some 28, .load 1 false (.t 27), none⟩, false, []⟩,
 ⟨⟨some 29, .call 148 [(.t 28)], none⟩, true, []⟩,
 ⟨⟨some 30, .build [.str [], .int .i64 0, .nilsl, .nilsl] [(0, 1, (.t 15)), (1, 1, (.t 23)), (2, 1, (.t 26)), (3, 1, (.t 29))], none⟩, false, []⟩,
 ⟨⟨some 31, .call 107 [(.t 30)], none⟩, false, []⟩,
 ⟨⟨some 32, .extract 0 (.t 31), none⟩, false, []⟩,
 ⟨⟨some 33, .extract 1 (.t 31), none⟩, false, []⟩,
 ⟨⟨none, .store 4 (.t 2) (.t 32), none⟩, false, []⟩,
 ⟨⟨some 3, .mv (.t 33), none⟩, false, []⟩])
 (.ret))))⟩

/- codend/codendlaw03.wing -/
def F86 : AFunc := ⟨6, [.cell 0 4 true],
 .seq (.region [⟨some 0, .alloc [.str [], .int .i64 0, .nilsl, .nilsl], none⟩])
 (.seq (.region [⟨some 1, .build [.str [], .int .i64 0, .bool false] [(0, 1, (.c (.str [78]))), (1, 1, (.c (.int .i64 1)))], none⟩,
 ⟨some 2, .buildSl 3 1 [.str [], .int .i64 0, .bool false] [(0, 3, (.t 1))], none⟩,
 ⟨some 3, .build [.str [], .int .i64 0, .bool false] [(0, 1, (.c (.str [66, 66]))), (1, 1, (.c (.int .i64 1))), (2, 1, (.c (.bool true)))], none⟩,
 ⟨some 4, .buildSl 3 1 [.str [], .int .i64 0, .bool false] [(0, 3, (.t 3))], none⟩,
 ⟨some 5, .build [.str [], .int .i64 0, .nilsl, .nilsl] [(0, 1, (.c (.str [119, 105, 110, 103]))), (1, 1, (.c (.int .i64 2))), (2, 1, (.t 2)), (3, 1, (.t 4))], none⟩,
 ⟨none, .store 4 (.t 0) (.t 5), none⟩])
 (.ret))⟩

/- codend/codendref03.shortSide -/
def F87 : AFunc := ⟨69, [.tmp 4],
 .seq (.region [⟨some 4, .mv (.c (.bool false)), none⟩])
 (.seq (.seq (.region [⟨some 7, .mv (.t 0), none⟩,
 ⟨some 8, .len .sl (.t 7), none⟩,
 ⟨some 9, .bin .gtr .num (.t 8) (.c (.int .i64 3)), none⟩,
 ⟨some 10, .mv (.t 9), none⟩,
 ⟨some 11, .mv (.t 0), some (10, true)⟩,
 ⟨some 12, .len .sl (.t 11), some (10, true)⟩,
 ⟨some 13, .bin .leq .num (.t 12) (.c (.int .i64 64)), some (10, true)⟩,
 ⟨some 14, .pick (.t 10) (.t 13) (.c (.bool false)), none⟩,
 ⟨some 15, .mv (.t 14), none⟩,
 ⟨some 16, .mv (.t 0), some (15, false)⟩,
 ⟨some 17, .len .sl (.t 16), some (15, false)⟩,
 ⟨some 18, .bin .gtr .num (.t 17) (.c (.int .i64 66)), some (15, false)⟩,
 ⟨some 19, .pick (.t 15) (.c (.bool true)) (.t 18), none⟩])
 (.cond (.t 19)
 (.seq (.region [⟨some 4, .mv (.c (.bool false)), none⟩])
 (.ret))
 (.skip)))
 (.seq (.region [⟨some 5, .mv (.c (.int .i64 0)), none⟩])
 (.seq (.seq (.region [⟨some 6, .mv (.c (.int .i64 0)), none⟩])
 (.block 0 (.loop (.seq (.seq (.region [⟨some 20, .mv (.t 6), none⟩,
 ⟨some 21, .mv (.t 0), none⟩,
 ⟨some 22, .len .sl (.t 21), none⟩,
 ⟨some 23, .bin .lss .num (.t 20) (.t 22), none⟩])
 (.cond (.t 23)
 (.skip)
 (.exit 0)))
 (.seq (.block 1 (.seq (.seq (.region [⟨some 26, .mv (.t 0), none⟩,
 ⟨some 27, .mv (.t 6), none⟩,
 ⟨some 28, .indexAddr (.sl 3) (.t 26) (.t 27), none⟩,
 ⟨some 29, .fieldAddr 0 (.t 28), none⟩,
 ⟨some 30, .load 1 false (.t 29), none⟩,
 ⟨some 31, .len .str (.t 30), none⟩,
 ⟨some 32, .bin .gtr .num (.t 31) (.c (.int .i64 66)), none⟩])
 (.cond (.t 32)
 (.seq (.region [⟨some 4, .mv (.c (.bool false)), none⟩])
 (.ret))
 (.skip)))
 (.seq (.region [⟨some 33, .mv (.t 0), none⟩,
 ⟨some 34, .mv (.t 6), none⟩,
 ⟨some 35, .indexAddr (.sl 3) (.t 33) (.t 34), none⟩,
 ⟨some 36, .fieldAddr 1 (.t 35), none⟩,
 ⟨some 37, .load 1 false (.t 36), none⟩,
 ⟨some 38, .bin .gtr .num (.t 37) (.c (.int .i64 0)), none⟩,
 ⟨some 39, .mv (.t 38), none⟩,
 ⟨some 40, .mv (.t 0), some (39, true)⟩,
 ⟨some 41, .mv (.t 6), some (39, true)⟩,
 ⟨some 42, .indexAddr (.sl 3) (.t 40) (.t 41), some (39, true)⟩,
 ⟨some 43, .fieldAddr 1 (.t 42), some (39, true)⟩,
 ⟨some 44, .load 1 false (.t 43), some (39, true)⟩,
 ⟨some 45, .bin .leq .num (.t 44) (.c (.int .i64 64)), some (39, true)⟩,
 ⟨some 46, .pick (.t 39) (.t 45) (.c (.bool false)), none⟩])
 (.cond (.t 46)
 (.regionD [⟨⟨some 47, .mv (.t 5), none⟩, false, []⟩,
 ⟨⟨some 48, .mv (.t 0), none⟩, false, []⟩,
 ⟨⟨some 49, .mv (.t 6), none⟩, false, []⟩,
 ⟨⟨some 50, .indexAddr (.sl 3) (.t 48) (.t 49), none⟩, false, []⟩,
 ⟨⟨some 51, .fieldAddr 0 (.t 50), none⟩, false, []⟩,
 ⟨⟨some 52, .load 1 false (.t 51), none⟩, false, []⟩,
 ⟨⟨some 53, .len .str (.t 52), none⟩, false, []⟩,
 ⟨⟨some 54, .mv (.t 0), none⟩, false, []⟩,
 ⟨⟨some 55, .mv (.t 6), none⟩, false, []⟩,
 ⟨⟨some 56, .indexAddr (.sl 3) (.t 54) (.t 55), none⟩, false, []⟩,
 ⟨⟨some 57, .fieldAddr 1 (.t 56), none⟩, false, []⟩,
 ⟨⟨some 58, .load 1 false (.t 57), none⟩, false, []⟩,
 ⟨⟨some 59, .bin .mul .num (.t 53) (.t 58), none⟩, false, []⟩,
 ⟨⟨some 60, .bin .add .num (.t 47) (.t 59), none⟩, false, []⟩,
 ⟨⟨some 5, .mv (.t 60), none⟩, false, []⟩])
 (.skip)))))
 (.region [⟨some 24, .mv (.t 6), none⟩,
 ⟨some 25, .bin .add .num (.t 24) (.c (.int .i64 1)), none⟩,
 ⟨some 6, .mv (.t 25), none⟩]))))))
 (.seq (.region [⟨some 61, .mv (.t 5), none⟩,
 ⟨some 62, .mv (.t 1), none⟩,
 ⟨some 63, .bin .leq .num (.t 61) (.t 62), none⟩,
 ⟨some 64, .mv (.t 63), none⟩,
 ⟨some 65, .mv (.t 0), some (64, false)⟩,
 ⟨some 66, .len .sl (.t 65), some (64, false)⟩,
 ⟨some 67, .bin .gtr .num (.t 66) (.c (.int .i64 64)), some (64, false)⟩,
 ⟨some 68, .pick (.t 64) (.c (.bool true)) (.t 67), none⟩,
 ⟨some 4, .mv (.t 68), none⟩])
 (.ret)))))⟩

/- codend/panel.net -/
def F88 : AFunc := ⟨31, [.tmp 2, .tmp 3],
 .seq (.region [⟨some 1, .box (.t 0), none⟩,
 ⟨some 2, .mv (.c (.nilsl)), none⟩,
 ⟨some 3, .mv (.c (.int .i64 0)), none⟩])
 (.seq (.seq (.region [⟨some 8, .load 4 true (.t 1), none⟩,
 ⟨some 9, .call 58 [(.t 8)], none⟩,
 ⟨some 4, .mv (.t 9), none⟩])
 (.seq (.region [⟨some 10, .mv (.t 4), none⟩,
 ⟨some 11, .bin .neq .num (.t 10) (.c (.int .i64 0)), none⟩])
 (.cond (.t 11)
 (.seq (.region [⟨some 12, .mv (.t 4), none⟩,
 ⟨some 2, .mv (.c (.nilsl)), none⟩,
 ⟨some 3, .mv (.t 12), none⟩])
 (.ret))
 (.skip))))
 (.seq (.region [⟨some 5, .mv (.c (.nilsl)), none⟩])
 (.seq (.seq (.region [⟨some 13, .load 4 true (.t 1), none⟩,
 ⟨some 14, .call 104 [(.t 13)], none⟩,
 ⟨some 15, .len .sl (.t 14), none⟩,
 ⟨some 16, .mv (.c (.int .i64 0)), none⟩])
 (.block 0 (.loop (.seq (.region [⟨some 17, .bin .lss .num (.t 16) (.t 15), none⟩])
 (.seq (.cond (.t 17)
 (.skip)
 (.exit 0))
 (.seq (.block 1 (.seq (.region [⟨some 18, .mv (.t 16), none⟩,
 ⟨some 19, .indexAddr (.sl 4) (.t 14) (.t 16), none⟩,
 ⟨some 20, .load 4 true (.t 19), none⟩,
 ⟨some 7, .alloc [.int .i64 0, .int .i64 0, .int .i64 0, .int .i64 0], none⟩,
 ⟨some 6, .mv (.t 18), none⟩,
 ⟨none, .store 4 (.t 7) (.t 20), none⟩])
 (.region [⟨some 21, .mv (.t 5), none⟩,
 ⟨some 22, .load 4 true (.t 7), none⟩,
 ⟨some 23, .mv (.t 6), none⟩,
 ⟨some 24, .call 162 [(.t 22), (.t 23)], none⟩,
 ⟨some 25, .append 3 24 none (.t 21) (.t 24), none⟩,
 ⟨some 5, .mv (.t 25), none⟩])))
 (.region [⟨some 26, .bin .add .num (.t 16) (.c (.int .i64 1)), none⟩,
 ⟨some 16, .mv (.t 26), none⟩])))))))
 (.seq (.seq (.region [⟨some 27, .mv (.t 5), none⟩,
 ⟨some 28, .len .sl (.t 27), none⟩,
 ⟨some 29, .bin .gtr .num (.t 28) (.c (.int .i64 4096)), none⟩])
 (.cond (.t 29)
 (.seq (.region [⟨some 2, .mv (.c (.nilsl)), none⟩,
 ⟨some 3, .mv (.c (.int .i64 5)), none⟩])
 (.ret))
 (.skip)))
 (.seq (.region [⟨some 30, .mv (.t 5), none⟩,
 ⟨some 2, .mv (.t 30), none⟩,
 ⟨some 3, .mv (.c (.int .i64 0)), none⟩])
 (.ret))))))⟩

/- (codend/panel.Panel).height -/
def F89 : AFunc := ⟨7, [.tmp 2],
 .seq (.region [⟨some 1, .box (.t 0), none⟩,
 ⟨some 2, .mv (.c (.int .i64 0)), none⟩])
 (.seq (.region [⟨some 3, .load 4 true (.t 1), none⟩,
 ⟨some 4, .call 111 [(.t 3), (.c (.bool false))], none⟩,
 ⟨some 5, .call 136 [(.t 4)], none⟩,
 ⟨some 6, .field 1 1 false (.t 5), none⟩,
 ⟨some 2, .mv (.t 6), none⟩])
 (.ret))⟩

/- codend/panel.Rows$1 -/
def F90 : AFunc := ⟨23, [],
 .regionD [⟨⟨some 5, .load 1 false (.t 2), none⟩, false, []⟩,
 ⟨⟨some 6, .mv (.t 0), none⟩, false, []⟩,
 ⟨⟨some 7, .load 1 false (.t 2), none⟩, false, []⟩,
 ⟨⟨some 8, .mv (.t 0), none⟩, false, []⟩,
 ⟨⟨some 9, .indexAddr (.sl 2) (.t 7) (.t 8), none⟩, false, []⟩,
 ⟨⟨some 10, .indexAddr (.arr 2 1) (.t 9) (.c (.int .i64 0)), none⟩, false, []⟩,
 ⟨⟨some 11, .load 1 false (.t 10), none⟩, false, []⟩,
 ⟨⟨some 12, .mv (.t 1), none⟩, false, []⟩,
 ⟨⟨some 13, .min (.t 11) (.t 12), none⟩, false, []⟩,
 ⟨⟨some 14, .load 1 false (.t 2), none⟩, false, []⟩,
 ⟨⟨some 15, .mv (.t 0), none⟩, false, []⟩,
 ⟨⟨some 16, .indexAddr (.sl 2) (.t 14) (.t 15), none⟩, false, []⟩,
 ⟨⟨some 17, .indexAddr (.arr 2 1) (.t 16) (.c (.int .i64 1)), none⟩, false, []⟩,
 ⟨⟨some 18, .load 1 false (.t 17), none⟩, false, []⟩,
 ⟨⟨some 19, .mv (.t 1), none⟩, false, []⟩,
 ⟨⟨some 20, .max (.t 18) (.t 19), none⟩, false, []⟩,
 ⟨⟨some 21, .build [.int .i64 0, .int .i64 0] [(0, 1, (.t 13)), (1, 1, (.t 20))], none⟩, false, []⟩,
 ⟨⟨some 22, .indexAddr (.sl 2) (.t 5) (.t 6), none⟩, false, []⟩,
 ⟨⟨none, .store 2 (.t 22) (.t 21), none⟩, false, []⟩]⟩

/- codend/codendref01.IsName -/
def F91 : AFunc := ⟨55, [.tmp 2],
 .seq (.region [⟨some 2, .mv (.c (.bool false)), none⟩])
 (.seq (.seq (.region [⟨some 6, .mv (.t 0), none⟩,
 ⟨some 7, .len .str (.t 6), none⟩,
 ⟨some 8, .bin .eql .num (.t 7) (.c (.int .i64 0)), none⟩,
 ⟨some 9, .mv (.t 8), none⟩,
 ⟨some 10, .mv (.t 0), some (9, false)⟩,
 ⟨some 11, .len .str (.t 10), some (9, false)⟩,
 ⟨some 12, .bin .gtr .num (.t 11) (.c (.int .i64 24)), some (9, false)⟩,
 ⟨some 13, .pick (.t 9) (.c (.bool true)) (.t 12), none⟩])
 (.cond (.t 13)
 (.seq (.region [⟨some 2, .mv (.c (.bool false)), none⟩])
 (.ret))
 (.skip)))
 (.seq (.seq (.region [⟨some 3, .mv (.c (.int .i64 0)), none⟩])
 (.block 0 (.loop (.seq (.seq (.region [⟨some 14, .mv (.t 3), none⟩,
 ⟨some 15, .mv (.t 0), none⟩,
 ⟨some 16, .len .str (.t 15), none⟩,
 ⟨some 17, .bin .lss .num (.t 14) (.t 16), none⟩])
 (.cond (.t 17)
 (.skip)
 (.exit 0)))
 (.seq (.block 1 (.seq (.region [⟨some 20, .mv (.t 0), none⟩,
 ⟨some 21, .mv (.t 3), none⟩,
 ⟨some 22, .index .str (.t 20) (.t 21), none⟩,
 ⟨some 4, .mv (.t 22), none⟩])
 (.seq (.region [⟨some 23, .mv (.t 4), none⟩,
 ⟨some 24, .bin .geq .num (.t 23) (.c (.int .u8 97)), none⟩,
 ⟨some 25, .mv (.t 24), none⟩,
 ⟨some 26, .mv (.t 4), some (25, true)⟩,
 ⟨some 27, .bin .leq .num (.t 26) (.c (.int .u8 122)), some (25, true)⟩,
 ⟨some 28, .pick (.t 25) (.t 27) (.c (.bool false)), none⟩,
 ⟨some 29, .mv (.t 28), none⟩,
 ⟨some 30, .mv (.t 4), some (29, false)⟩,
 ⟨some 31, .bin .geq .num (.t 30) (.c (.int .u8 65)), some (29, false)⟩,
 ⟨some 32, .mv (.t 31), some (29, false)⟩,
 ⟨some 33, .mv (.t 4), some (32, true)⟩,
 ⟨some 34, .bin .leq .num (.t 33) (.c (.int .u8 90)), some (32, true)⟩,
 ⟨some 35, .pick (.t 32) (.t 34) (.c (.bool false)), some (29, false)⟩,
 ⟨some 36, .pick (.t 29) (.c (.bool true)) (.t 35), none⟩,
 ⟨some 5, .mv (.t 36), none⟩])
 (.seq (.region [⟨some 37, .mv (.t 5), none⟩,
 ⟨some 38, .un .not (.t 37), none⟩,
 ⟨some 39, .mv (.t 38), none⟩,
 ⟨some 40, .mv (.t 3), some (39, true)⟩,
 ⟨some 41, .bin .eql .num (.t 40) (.c (.int .i64 0)), some (39, true)⟩,
 ⟨some 42, .mv (.t 41), some (39, true)⟩,
 ⟨some 43, .mv (.t 4), some (42, false)⟩,
 ⟨some 44, .bin .neq .num (.t 43) (.c (.int .u8 95)), some (42, false)⟩,
 ⟨some 45, .mv (.t 44), some (42, false)⟩,
 ⟨some 46, .mv (.t 4), some (45, true)⟩,
 ⟨some 47, .bin .lss .num (.t 46) (.c (.int .u8 48)), some (45, true)⟩,
 ⟨some 48, .mv (.t 47), some (45, true)⟩,
 ⟨some 49, .mv (.t 4), some (48, false)⟩,
 ⟨some 50, .bin .gtr .num (.t 49) (.c (.int .u8 57)), some (48, false)⟩,
 ⟨some 51, .pick (.t 48) (.c (.bool true)) (.t 50), some (45, true)⟩,
 ⟨some 52, .pick (.t 45) (.t 51) (.c (.bool false)), some (42, false)⟩,
 ⟨some 53, .pick (.t 42) (.c (.bool true)) (.t 52), some (39, true)⟩,
 ⟨some 54, .pick (.t 39) (.t 53) (.c (.bool false)), none⟩])
 (.cond (.t 54)
 (.seq (.region [⟨some 2, .mv (.c (.bool false)), none⟩])
 (.ret))
 (.skip))))))
 (.region [⟨some 18, .mv (.t 3), none⟩,
 ⟨some 19, .bin .add .num (.t 18) (.c (.int .i64 1)), none⟩,
 ⟨some 3, .mv (.t 19), none⟩]))))))
 (.seq (.region [⟨some 2, .mv (.c (.bool true)), none⟩])
 (.ret))))⟩

/- codend/codendref01.First -/
def F92 : AFunc := ⟨19, [.tmp 2],
 .seq (.region [⟨some 2, .mv (.c (.int .i64 0)), none⟩])
 (.seq (.seq (.region [⟨some 3, .mv (.c (.int .i64 0)), none⟩])
 (.block 0 (.loop (.seq (.seq (.region [⟨some 4, .mv (.t 3), none⟩,
 ⟨some 5, .mv (.t 0), none⟩,
 ⟨some 6, .len .sl (.t 5), none⟩,
 ⟨some 7, .bin .lss .num (.t 4) (.t 6), none⟩])
 (.cond (.t 7)
 (.skip)
 (.exit 0)))
 (.seq (.block 1 (.seq (.region [⟨some 10, .mv (.t 0), none⟩,
 ⟨some 11, .mv (.t 3), none⟩,
 ⟨some 12, .indexAddr (.sl 1) (.t 10) (.t 11), none⟩,
 ⟨some 13, .load 1 false (.t 12), none⟩,
 ⟨some 14, .bin .neq .num (.t 13) (.c (.int .i64 0)), none⟩])
 (.cond (.t 14)
 (.seq (.region [⟨some 15, .mv (.t 0), none⟩,
 ⟨some 16, .mv (.t 3), none⟩,
 ⟨some 17, .indexAddr (.sl 1) (.t 15) (.t 16), none⟩,
 ⟨some 18, .load 1 false (.t 17), none⟩,
 ⟨some 2, .mv (.t 18), none⟩])
 (.ret))
 (.skip))))
 (.region [⟨some 8, .mv (.t 3), none⟩,
 ⟨some 9, .bin .add .num (.t 8) (.c (.int .i64 1)), none⟩,
 ⟨some 3, .mv (.t 9), none⟩]))))))
 (.seq (.region [⟨some 2, .mv (.c (.int .i64 0)), none⟩])
 (.ret)))⟩

/- codend/codendref03.checkSide -/
def F93 : AFunc := ⟨39, [.tmp 2],
 .seq (.region [⟨some 2, .mv (.c (.int .i64 0)), none⟩])
 (.seq (.seq (.region [⟨some 6, .mv (.t 0), none⟩,
 ⟨some 7, .len .sl (.t 6), none⟩,
 ⟨some 8, .bin .gtr .num (.t 7) (.c (.int .i64 64)), none⟩])
 (.cond (.t 8)
 (.seq (.region [⟨some 2, .mv (.c (.int .i64 5)), none⟩])
 (.ret))
 (.skip)))
 (.seq (.region [⟨some 3, .mv (.c (.int .i64 0)), none⟩])
 (.seq (.seq (.region [⟨some 4, .mv (.c (.int .i64 0)), none⟩])
 (.block 0 (.loop (.seq (.seq (.region [⟨some 9, .mv (.t 4), none⟩,
 ⟨some 10, .mv (.t 0), none⟩,
 ⟨some 11, .len .sl (.t 10), none⟩,
 ⟨some 12, .bin .lss .num (.t 9) (.t 11), none⟩])
 (.cond (.t 12)
 (.skip)
 (.exit 0)))
 (.seq (.block 1 (.seq (.region [⟨some 15, .mv (.t 0), none⟩,
 ⟨some 16, .mv (.t 4), none⟩,
 ⟨some 17, .indexAddr (.sl 3) (.t 15) (.t 16), none⟩,
 ⟨some 18, .load 3 true (.t 17), none⟩,
 ⟨some 19, .call 57 [(.t 18)], none⟩,
 ⟨some 5, .mv (.t 19), none⟩])
 (.seq (.seq (.region [⟨some 20, .mv (.t 5), none⟩,
 ⟨some 21, .bin .neq .num (.t 20) (.c (.int .i64 0)), none⟩])
 (.cond (.t 21)
 (.seq (.region [⟨some 22, .mv (.t 5), none⟩,
 ⟨some 2, .mv (.t 22), none⟩])
 (.ret))
 (.skip)))
 (.regionD [⟨⟨some 23, .mv (.t 3), none⟩, false, []⟩,
 ⟨⟨some 24, .mv (.t 0), none⟩, false, []⟩,
 ⟨⟨some 25, .mv (.t 4), none⟩, false, []⟩,
 ⟨⟨some 26, .indexAddr (.sl 3) (.t 24) (.t 25), none⟩, false, []⟩,
 ⟨⟨some 27, .fieldAddr 0 (.t 26), none⟩, false, []⟩,
 ⟨⟨some 28, .load 1 false (.t 27), none⟩, false, []⟩,
 ⟨⟨some 29, .len .str (.t 28), none⟩, false, []⟩,
 ⟨⟨some 30, .mv (.t 0), none⟩, false, []⟩,
 ⟨⟨some 31, .mv (.t 4), none⟩, false, []⟩,
 ⟨⟨some 32, .indexAddr (.sl 3) (.t 30) (.t 31), none⟩, false, []⟩,
 ⟨⟨some 33, .fieldAddr 1 (.t 32), none⟩, false, []⟩,
 ⟨⟨some 34, .load 1 false (.t 33), none⟩, false, []⟩,
 ⟨⟨some 35, .bin .mul .num (.t 29) (.t 34), none⟩, false, []⟩,
 ⟨⟨some 36, .bin .add .num (.t 23) (.t 35), none⟩, false, []⟩,
 ⟨⟨some 3, .mv (.t 36), none⟩, false, []⟩]))))
 (.region [⟨some 13, .mv (.t 4), none⟩,
 ⟨some 14, .bin .add .num (.t 13) (.c (.int .i64 1)), none⟩,
 ⟨some 4, .mv (.t 14), none⟩]))))))
 (.seq (.seq (.region [⟨some 37, .mv (.t 3), none⟩,
 ⟨some 38, .bin .gtr .num (.t 37) (.c (.int .i64 512)), none⟩])
 (.cond (.t 38)
 (.seq (.region [⟨some 2, .mv (.c (.int .i64 5)), none⟩])
 (.ret))
 (.skip)))
 (.seq (.region [⟨some 2, .mv (.c (.int .i64 0)), none⟩])
 (.ret))))))⟩

/- codend/codendref03.rise -/
def F94 : AFunc := ⟨28, [.tmp 2],
 .seq (.region [⟨some 2, .mv (.c (.int .i64 0)), none⟩])
 (.seq (.region [⟨some 3, .mv (.c (.int .i64 0)), none⟩])
 (.seq (.seq (.region [⟨some 4, .mv (.c (.int .i64 0)), none⟩])
 (.block 0 (.loop (.seq (.seq (.region [⟨some 5, .mv (.t 4), none⟩,
 ⟨some 6, .mv (.t 0), none⟩,
 ⟨some 7, .len .sl (.t 6), none⟩,
 ⟨some 8, .bin .lss .num (.t 5) (.t 7), none⟩])
 (.cond (.t 8)
 (.skip)
 (.exit 0)))
 (.seq (.block 1 (.seq (.seq (.region [⟨some 11, .mv (.t 0), none⟩,
 ⟨some 12, .mv (.t 4), none⟩,
 ⟨some 13, .indexAddr (.sl 2) (.t 11) (.t 12), none⟩,
 ⟨some 14, .fieldAddr 0 (.t 13), none⟩,
 ⟨some 15, .load 1 false (.t 14), none⟩,
 ⟨some 16, .bin .eql .num (.t 15) (.c (.int .u8 78)), none⟩])
 (.cond (.t 16)
 (.region [⟨some 17, .mv (.t 3), none⟩,
 ⟨some 18, .bin .add .num (.t 17) (.c (.int .i64 2)), none⟩,
 ⟨some 3, .mv (.t 18), none⟩])
 (.skip)))
 (.seq (.region [⟨some 19, .mv (.t 0), none⟩,
 ⟨some 20, .mv (.t 4), none⟩,
 ⟨some 21, .indexAddr (.sl 2) (.t 19) (.t 20), none⟩,
 ⟨some 22, .fieldAddr 0 (.t 21), none⟩,
 ⟨some 23, .load 1 false (.t 22), none⟩,
 ⟨some 24, .bin .eql .num (.t 23) (.c (.int .u8 66)), none⟩])
 (.cond (.t 24)
 (.region [⟨some 25, .mv (.t 3), none⟩,
 ⟨some 26, .bin .add .num (.t 25) (.c (.int .i64 1)), none⟩,
 ⟨some 3, .mv (.t 26), none⟩])
 (.skip)))))
 (.region [⟨some 9, .mv (.t 4), none⟩,
 ⟨some 10, .bin .add .num (.t 9) (.c (.int .i64 1)), none⟩,
 ⟨some 4, .mv (.t 10), none⟩]))))))
 (.seq (.region [⟨some 27, .mv (.t 3), none⟩,
 ⟨some 2, .mv (.t 27), none⟩])
 (.ret))))⟩

/- codend/codendref03.Steps -/
def F95 : AFunc := ⟨49, [.tmp 2],
 .seq (.region [⟨some 2, .mv (.c (.nilsl)), none⟩])
 (.seq (.region [⟨some 3, .mv (.c (.nilsl)), none⟩])
 (.seq (.seq (.region [⟨some 4, .mv (.c (.int .i64 0)), none⟩])
 (.block 0 (.loop (.seq (.seq (.region [⟨some 7, .mv (.t 4), none⟩,
 ⟨some 8, .mv (.t 0), none⟩,
 ⟨some 9, .len .sl (.t 8), none⟩,
 ⟨some 10, .bin .lss .num (.t 7) (.t 9), none⟩])
 (.cond (.t 10)
 (.skip)
 (.exit 0)))
 (.seq (.block 1 (.seq (.region [⟨some 5, .mv (.c (.int .i64 0)), none⟩])
 (.block 2 (.loop (.seq (.seq (.region [⟨some 13, .mv (.t 5), none⟩,
 ⟨some 14, .mv (.t 0), none⟩,
 ⟨some 15, .mv (.t 4), none⟩,
 ⟨some 16, .indexAddr (.sl 3) (.t 14) (.t 15), none⟩,
 ⟨some 17, .fieldAddr 1 (.t 16), none⟩,
 ⟨some 18, .load 1 false (.t 17), none⟩,
 ⟨some 19, .bin .lss .num (.t 13) (.t 18), none⟩])
 (.cond (.t 19)
 (.skip)
 (.exit 2)))
 (.seq (.block 3 (.seq (.region [⟨some 6, .mv (.c (.int .i64 0)), none⟩])
 (.block 4 (.loop (.seq (.seq (.region [⟨some 22, .mv (.t 6), none⟩,
 ⟨some 23, .mv (.t 0), none⟩,
 ⟨some 24, .mv (.t 4), none⟩,
 ⟨some 25, .indexAddr (.sl 3) (.t 23) (.t 24), none⟩,
 ⟨some 26, .fieldAddr 0 (.t 25), none⟩,
 ⟨some 27, .load 1 false (.t 26), none⟩,
 ⟨some 28, .len .str (.t 27), none⟩,
 ⟨some 29, .bin .lss .num (.t 22) (.t 28), none⟩])
 (.cond (.t 29)
 (.skip)
 (.exit 4)))
 (.seq (.block 5 (.regionD [⟨⟨some 32, .mv (.t 3), none⟩, false, []⟩,
 ⟨⟨some 33, .mv (.t 0), none⟩, false, []⟩,
 ⟨⟨some 34, .mv (.t 4), none⟩, false, []⟩,
 ⟨⟨some 35, .indexAddr (.sl 3) (.t 33) (.t 34), none⟩, false, []⟩,
 ⟨⟨some 36, .fieldAddr 0 (.t 35), none⟩, false, []⟩,
 ⟨⟨some 37, .load 1 false (.t 36), none⟩, false, []⟩,
 ⟨⟨some 38, .mv (.t 6), none⟩, false, []⟩,
 ⟨⟨some 39, .index .str (.t 37) (.t 38), none⟩, false, []⟩,
 ⟨⟨some 40, .mv (.t 0), none⟩, false, []⟩,
 ⟨⟨some 41, .mv (.t 4), none⟩, false, []⟩,
 ⟨⟨some 42, .indexAddr (.sl 3) (.t 40) (.t 41), none⟩, false, []⟩,
 ⟨⟨some 43, .fieldAddr 2 (.t 42), none⟩, false, []⟩,
 ⟨⟨some 44, .load 1 false (.t 43), none⟩, false, []⟩,
 ⟨⟨some 45, .build [.int .u8 0, .bool false] [(0, 1, (.t 39)), (1, 1, (.t 44))], none⟩, false, []⟩,
 ⟨⟨some 46, .buildSl 2 1 [.int .u8 0, .bool false] [(0, 2, (.t 45))], none⟩, false, []⟩,
 ⟨⟨some 47, .append 2 2 none (.t 32) (.t 46), none⟩, false, []⟩,
 ⟨⟨some 3, .mv (.t 47), none⟩, false, []⟩]))
 (.region [⟨some 30, .mv (.t 6), none⟩,
 ⟨some 31, .bin .add .num (.t 30) (.c (.int .i64 1)), none⟩,
 ⟨some 6, .mv (.t 31), none⟩])))))))
 (.region [⟨some 20, .mv (.t 5), none⟩,
 ⟨some 21, .bin .add .num (.t 20) (.c (.int .i64 1)), none⟩,
 ⟨some 5, .mv (.t 21), none⟩])))))))
 (.region [⟨some 11, .mv (.t 4), none⟩,
 ⟨some 12, .bin .add .num (.t 11) (.c (.int .i64 1)), none⟩,
 ⟨some 4, .mv (.t 12), none⟩]))))))
 (.seq (.region [⟨some 48, .mv (.t 3), none⟩,
 ⟨some 2, .mv (.t 48), none⟩])
 (.ret))))⟩

/- codend/codendref03.crosses -/
def F96 : AFunc := ⟨23, [.tmp 6],
 .seq (.region [⟨some 6, .mv (.c (.bool false)), none⟩])
 (.seq (.seq (.region [⟨some 7, .mv (.c (.int .i64 0)), none⟩])
 (.block 0 (.loop (.seq (.seq (.region [⟨some 8, .mv (.t 7), none⟩,
 ⟨some 9, .mv (.t 2), none⟩,
 ⟨some 10, .bin .leq .num (.t 8) (.t 9), none⟩])
 (.cond (.t 10)
 (.skip)
 (.exit 0)))
 (.seq (.block 1 (.seq (.region [⟨some 13, .mv (.t 1), none⟩,
 ⟨some 14, .mv (.t 7), none⟩,
 ⟨some 15, .call 163 [(.t 13), (.t 14)], none⟩,
 ⟨some 16, .index (.arr 2 1 false) (.t 15) (.c (.int .i64 0)), none⟩,
 ⟨some 17, .mv (.t 0), none⟩,
 ⟨some 18, .mv (.t 7), none⟩,
 ⟨some 19, .call 163 [(.t 17), (.t 18)], none⟩,
 ⟨some 20, .index (.arr 2 1 false) (.t 19) (.c (.int .i64 1)), none⟩,
 ⟨some 21, .bin .sub .num (.t 16) (.t 20), none⟩,
 ⟨some 22, .bin .lss .num (.t 21) (.c (.int .i64 2)), none⟩])
 (.cond (.t 22)
 (.seq (.region [⟨some 6, .mv (.c (.bool true)), none⟩])
 (.ret))
 (.skip))))
 (.region [⟨some 11, .mv (.t 7), none⟩,
 ⟨some 12, .bin .add .num (.t 11) (.c (.int .i64 1)), none⟩,
 ⟨some 7, .mv (.t 12), none⟩]))))))
 (.seq (.region [⟨some 6, .mv (.c (.bool false)), none⟩])
 (.ret)))⟩

/- (codend/panel.Panel).around -/
def F99 : AFunc :=
 { ntmps := 52, results := [AResVar.cell 2 4 true], body := (ACode.region [{ dst := some 1, op := AOp.box (AOpd.t 0), guard := none }, { dst := some 2, op := AOp.alloc [AVal.int IntKind.i64 0, AVal.int IntKind.i64 0, AVal.int IntKind.i64 0, AVal.int IntKind.i64 0], guard := none }]).seq ((ACode.regionD [{ o := { dst := some 8, op := AOp.load 4 true (AOpd.t 1), guard := none }, strict := false, apart := [] }, { o := { dst := some 9, op := AOp.call 111 [AOpd.t 8, AOpd.c (AVal.bool false)], guard := none }, strict := true, apart := [] }, { o := { dst := some 10, op := AOp.load 4 true (AOpd.t 1), guard := none }, strict := false, apart := [] }, { o := { dst := some 11, op := AOp.call 111 [AOpd.t 10, AOpd.c (AVal.bool true)], guard := none }, strict := false, apart := [] }, { o := { dst := some 12, op := AOp.buildSl 1 2 [AVal.nilsl, AVal.nilsl] [(0, 1, AOpd.t 9), (1, 1, AOpd.t 11)], guard := none }, strict := false, apart := [] }, { o := { dst := some 13, op := AOp.call 166 [AOpd.t 12], guard := none }, strict := false, apart := [] }, { o := { dst := some 3, op := AOp.mv (AOpd.t 13), guard := none }, strict := false, apart := [] }]).seq ((ACode.regionD [{ o := { dst := some 14, op := AOp.mv (AOpd.t 3), guard := none }, strict := false, apart := [] }, { o := { dst := some 15, op := AOp.indexAddr (IxK.sl 2) (AOpd.t 14) (AOpd.c (AVal.int IntKind.i64 0)), guard := none }, strict := false, apart := [] }, { o := { dst := some 16, op := AOp.fieldAddr 0 (AOpd.t 15), guard := none }, strict := false, apart := [] }, { o := { dst := some 17, op := AOp.load 1 false (AOpd.t 16), guard := none }, strict := false, apart := [] }, { o := { dst := some 18, op := AOp.mv (AOpd.t 3), guard := none }, strict := false, apart := [] }, { o := { dst := some 19, op := AOp.indexAddr (IxK.sl 2) (AOpd.t 18) (AOpd.c (AVal.int IntKind.i64 0)), guard := none }, strict := false, apart := [] }, { o := { dst := some 20, op := AOp.fieldAddr 0 (AOpd.t 19), guard := none }, strict := false, apart := [] }, { o := { dst := some 21, op := AOp.load 1 false (AOpd.t 20), guard := none }, strict := false, apart := [] }, { o := { dst := some 4, op := AOp.mv (AOpd.t 17), guard := none }, strict := false, apart := [] }, { o := { dst := some 5, op := AOp.mv (AOpd.t 21), guard := none }, strict := false, apart := [] }]).seq (((ACode.region [{ dst := some 22, op := AOp.mv (AOpd.t 3), guard := none }, { dst := some 23, op := AOp.len LenK.sl (AOpd.t 22), guard := none }, { dst := some 24, op := AOp.mv (AOpd.c (AVal.int IntKind.i64 0)), guard := none }]).seq (ACode.block 0 ((ACode.region [{ dst := some 25, op := AOp.bin BinOp.lss BinK.num (AOpd.t 24) (AOpd.t 23), guard := none }]).seq ((ACode.cond (AOpd.t 25) ACode.skip (ACode.exit 0)).seq ((ACode.block 1 ((ACode.region [{ dst := some 26, op := AOp.indexAddr (IxK.sl 2) (AOpd.t 22) (AOpd.t 24), guard := none }, { dst := some 27, op := AOp.load 2 true (AOpd.t 26), guard := none }, { dst := some 7, op := AOp.alloc [AVal.int IntKind.i64 0, AVal.int IntKind.i64 0], guard := none }, { dst := none, op := AOp.store 2 (AOpd.t 7) (AOpd.t 27), guard := none }]).seq (ACode.regionD [{ o := { dst := some 28, op := AOp.mv (AOpd.t 4), guard := none }, strict := false, apart := [] }, { o := { dst := some 29, op := AOp.fieldAddr 0 (AOpd.t 7), guard := none }, strict := false, apart := [] }, { o := { dst := some 30, op := AOp.load 1 false (AOpd.t 29), guard := none }, strict := false, apart := [] }, { o := { dst := some 31, op := AOp.min (AOpd.t 28) (AOpd.t 30), guard := none }, strict := false, apart := [] }, { o := { dst := some 32, op := AOp.mv (AOpd.t 5), guard := none }, strict := false, apart := [] }, { o := { dst := some 33, op := AOp.fieldAddr 0 (AOpd.t 7), guard := none }, strict := false, apart := [] }, { o := { dst := some 34, op := AOp.load 1 false (AOpd.t 33), guard := none }, strict := false, apart := [] }, { o := { dst := some 35, op := AOp.max (AOpd.t 32) (AOpd.t 34), guard := none }, strict := false, apart := [] }, { o := { dst := some 4, op := AOp.mv (AOpd.t 31), guard := none }, strict := false, apart := [] }, { o := { dst := some 5, op := AOp.mv (AOpd.t 35), guard := none }, strict := false, apart := [] }]))).seq (ACode.region [{ dst := some 36, op := AOp.bin BinOp.add BinK.num (AOpd.t 24) (AOpd.c (AVal.int IntKind.i64 1)), guard := none }, { dst := some 24, op := AOp.mv (AOpd.t 36), guard := none }])))).loop)).seq (((ACode.region [{ dst := some 37, op := AOp.mv (AOpd.t 4), guard := none }, { dst := some 38, op := AOp.bin BinOp.rem BinK.num (AOpd.t 37) (AOpd.c (AVal.int IntKind.i64 2)), guard := none }, { dst := some 39, op := AOp.bin BinOp.neq BinK.num (AOpd.t 38) (AOpd.c (AVal.int IntKind.i64 0)), guard := none }]).seq (ACode.cond (AOpd.t 39) (ACode.region [{ dst := some 40, op := AOp.mv (AOpd.t 4), guard := none }, { dst := some 41, op := AOp.bin BinOp.sub BinK.num (AOpd.t 40) (AOpd.c (AVal.int IntKind.i64 1)), guard := none }, { dst := some 4, op := AOp.mv (AOpd.t 41), guard := none }]) ACode.skip)).seq ((ACode.region [{ dst := some 42, op := AOp.mv (AOpd.t 4), guard := none }, { dst := some 43, op := AOp.build [AVal.int IntKind.i64 0, AVal.int IntKind.i64 0] [(0, 1, AOpd.t 42)], guard := none }, { dst := some 44, op := AOp.mv (AOpd.t 5), guard := none }, { dst := some 45, op := AOp.mv (AOpd.t 4), guard := none }, { dst := some 46, op := AOp.bin BinOp.sub BinK.num (AOpd.t 44) (AOpd.t 45), guard := none }, { dst := some 47, op := AOp.bin BinOp.add BinK.num (AOpd.t 46) (AOpd.c (AVal.int IntKind.i64 1)), guard := none }, { dst := some 48, op := AOp.bin BinOp.quo BinK.num (AOpd.t 47) (AOpd.c (AVal.int IntKind.i64 2)), guard := none }, { dst := some 49, op := AOp.load 4 true (AOpd.t 1), guard := none }, { dst := some 50, op := AOp.call 89 [AOpd.t 49], guard := none }, { dst := some 51, op := AOp.build [AVal.int IntKind.i64 0, AVal.int IntKind.i64 0, AVal.int IntKind.i64 0, AVal.int IntKind.i64 0] [(0, 2, AOpd.t 43), (2, 1, AOpd.t 48), (3, 1, AOpd.t 50)], guard := none }, { dst := none, op := AOp.store 4 (AOpd.t 2) (AOpd.t 51), guard := none }]).seq ACode.ret))))) }
/- codend/netting.Sheet -/
def F100 : AFunc := ⟨48, [.tmp 6, .tmp 7],
 .seq (.region [⟨some 3, .box (.t 0), none⟩,
 ⟨some 6, .mv (.c (.nilsl)), none⟩,
 ⟨some 7, .mv (.c (.int .i64 0)), none⟩])
 (.seq (.region [⟨some 10, .load 2 true (.t 3), none⟩,
 ⟨some 11, .call 152 [(.t 10)], none⟩,
 ⟨some 12, .mv (.t 1), none⟩,
 ⟨some 13, .call 167 [(.t 12), (.c (.int .i64 1)), (.c (.int .i64 256))], none⟩,
 ⟨some 14, .mv (.t 2), none⟩,
 ⟨some 15, .call 167 [(.t 14), (.c (.int .i64 1)), (.c (.int .i64 256))], none⟩,
 ⟨some 16, .buildSl 1 3 [.int .i64 0, .int .i64 0, .int .i64 0] [(0, 1, (.t 11)), (1, 1, (.t 13)), (2, 1, (.t 15))], none⟩,
 ⟨some 17, .call 150 [(.t 16)], none⟩,
 ⟨some 8, .mv (.t 17), none⟩])
 (.seq (.seq (.region [⟨some 18, .mv (.t 8), none⟩,
 ⟨some 19, .bin .neq .num (.t 18) (.c (.int .i64 0)), none⟩])
 (.cond (.t 19)
 (.seq (.region [⟨some 20, .mv (.t 8), none⟩,
 ⟨some 6, .mv (.c (.nilsl)), none⟩,
 ⟨some 7, .mv (.t 20), none⟩])
 (.ret))
 (.skip)))
 (.seq (.seq (.regionD [⟨⟨some 21, .mv (.t 1), none⟩, false, []⟩,
 ⟨⟨some 22, .bin .mul .num (.c (.int .i64 2)) (.t 21), none⟩, false, []⟩,
 ⟨⟨some 23, .mv (.t 2), none⟩, false, []⟩,
 ⟨⟨some 24, .bin .mul .num (.t 22) (.t 23), none⟩, false, []⟩,
 ⟨⟨some 25, .bin .gtr .num (.t 24) (.c (.int .i64 4096)), none⟩, false, []⟩,
 ⟨⟨some 26, .call 168 [(.t 25), (.c (.int .i64 5))], none⟩, true, []⟩,
 ⟨⟨some 27, .fieldAddr 0 (.t 3), none⟩, false, []⟩,
 ⟨⟨some 28, .load 1 false (.t 27), none⟩, false, []⟩,
 ⟨⟨some 29, .mv (.t 1), none⟩, false, []⟩,
 ⟨⟨some 30, .bin .mul .num (.c (.int .i64 2)) (.t 29), none⟩, false, []⟩,
 ⟨⟨some 31, .bin .add .num (.t 28) (.t 30), none⟩, false, []⟩,
 ⟨⟨some 32, .fieldAddr 1 (.t 3), none⟩, false, []⟩,
 ⟨⟨some 33, .load 1 false (.t 32), none⟩, false, []⟩,
 ⟨⟨some 34, .mv (.t 2), none⟩, false, []⟩,
 ⟨⟨some 35, .bin .add .num (.t 33) (.t 34), none⟩, false, []⟩,
 ⟨⟨some 36, .build [.int .i64 0, .int .i64 0] [(0, 1, (.t 31)), (1, 1, (.t 35))], none⟩, false, []⟩,
 ⟨⟨some 37, .call 169 [(.t 36)], none⟩, false, []⟩,
 ⟨⟨some 38, .buildSl 1 2 [.int .i64 0, .int .i64 0] [(0, 1, (.t 26)), (1, 1, (.t 37))], none⟩, false, []⟩,
 ⟨⟨some 39, .call 150 [(.t 38)], none⟩, false, []⟩,
 ⟨⟨some 9, .mv (.t 39), none⟩, false, []⟩])
 (.seq (.region [⟨some 40, .mv (.t 9), none⟩,
 ⟨some 41, .bin .neq .num (.t 40) (.c (.int .i64 0)), none⟩])
 (.cond (.t 41)
 (.seq (.region [⟨some 42, .mv (.t 9), none⟩,
 ⟨some 6, .mv (.c (.nilsl)), none⟩,
 ⟨some 7, .mv (.t 42), none⟩])
 (.ret))
 (.skip))))
 (.seq (.region [⟨some 43, .load 2 true (.t 3), none⟩,
 ⟨some 44, .mv (.t 1), none⟩,
 ⟨some 45, .mv (.t 2), none⟩,
 ⟨some 46, .call 171 [(.t 43), (.t 44), (.t 45)], none⟩,
 ⟨some 47, .call 170 [(.t 46)], none⟩,
 ⟨some 6, .mv (.t 47), none⟩,
 ⟨some 7, .mv (.c (.int .i64 0)), none⟩])
 (.ret)))))⟩

/- codend/netting.Minus -/
def F101 : AFunc := ⟨11, [.tmp 4, .tmp 5],
 .seq (.region [⟨some 4, .mv (.c (.nilsl)), none⟩,
 ⟨some 5, .mv (.c (.int .i64 0)), none⟩])
 (.seq (.region [⟨some 6, .mv (.t 0), none⟩,
 ⟨some 7, .mv (.t 1), none⟩,
 ⟨some 8, .call 145 [(.t 6), (.t 7), (.f 172)], none⟩,
 ⟨some 9, .extract 0 (.t 8), none⟩,
 ⟨some 10, .extract 1 (.t 8), none⟩,
 ⟨some 4, .mv (.t 9), none⟩,
 ⟨some 5, .mv (.t 10), none⟩])
 (.ret))⟩

/- (codend/panel.Panel).strips -/
def F104 : AFunc := ⟨18, [.tmp 2],
 .seq (.region [⟨some 1, .box (.t 0), none⟩,
 ⟨some 2, .mv (.c (.nilsl)), none⟩])
 (.seq (.region [⟨some 5, .load 4 true (.t 1), none⟩,
 ⟨some 6, .call 89 [(.t 5)], none⟩,
 ⟨some 7, .mkSl 4 32 [.int .i64 0, .int .i64 0, .int .i64 0, .int .i64 0] (.t 6) (.t 6), none⟩,
 ⟨some 3, .alloc [.nilsl], none⟩,
 ⟨none, .store 1 (.t 3) (.t 7), none⟩])
 (.seq (.region [⟨some 8, .mkFunc 175 [] [(.t 3)], none⟩,
 ⟨some 4, .mv (.t 8), none⟩])
 (.seq (.region [⟨some 9, .mv (.t 4), none⟩,
 ⟨some 10, .load 4 true (.t 1), none⟩,
 ⟨some 11, .call 111 [(.t 10), (.c (.bool false))], none⟩,
 ⟨some 12, .dyn (.t 9) [(.t 11), (.c (.int .i64 0))], none⟩])
 (.seq (.region [⟨some 13, .mv (.t 4), none⟩,
 ⟨some 14, .load 4 true (.t 1), none⟩,
 ⟨some 15, .call 111 [(.t 14), (.c (.bool true))], none⟩,
 ⟨some 16, .dyn (.t 13) [(.t 15), (.c (.int .i64 1))], none⟩])
 (.seq (.region [⟨some 17, .load 1 false (.t 3), none⟩,
 ⟨some 2, .mv (.t 17), none⟩])
 (.ret))))))⟩

/- codend/panel.first -/
def F105 : AFunc := ⟨15, [.tmp 2],
 .seq (.region [⟨some 2, .mv (.c (.int .i64 0)), none⟩])
 (.seq (.seq (.region [⟨some 5, .mv (.t 0), none⟩,
 ⟨some 6, .len .sl (.t 5), none⟩,
 ⟨some 7, .mv (.c (.int .i64 0)), none⟩])
 (.block 0 (.loop (.seq (.region [⟨some 8, .bin .lss .num (.t 7) (.t 6), none⟩])
 (.seq (.cond (.t 8)
 (.skip)
 (.exit 0))
 (.seq (.block 1 (.seq (.region [⟨some 9, .indexAddr (.sl 1) (.t 5) (.t 7), none⟩,
 ⟨some 10, .load 1 false (.t 9), none⟩,
 ⟨some 4, .mv (.t 10), none⟩])
 (.seq (.region [⟨some 11, .mv (.t 4), none⟩,
 ⟨some 12, .bin .neq .num (.t 11) (.c (.int .i64 0)), none⟩])
 (.cond (.t 12)
 (.seq (.region [⟨some 13, .mv (.t 4), none⟩,
 ⟨some 2, .mv (.t 13), none⟩])
 (.ret))
 (.skip)))))
 (.region [⟨some 14, .bin .add .num (.t 7) (.c (.int .i64 1)), none⟩,
 ⟨some 7, .mv (.t 14), none⟩])))))))
 (.seq (.region [⟨some 2, .mv (.c (.int .i64 0)), none⟩])
 (.ret)))⟩

/- (codend/panel.Panel).corners -/
def F106 : AFunc := ⟨20, [.cell 2 8 true],
 .seq (.region [⟨some 1, .box (.t 0), none⟩,
 ⟨some 2, .alloc [.int .i64 0, .int .i64 0, .int .i64 0, .int .i64 0, .int .i64 0, .int .i64 0, .int .i64 0, .int .i64 0], none⟩])
 (.seq (.regionD [⟨⟨some 5, .load 4 true (.t 1), none⟩, false, []⟩,
 ⟨⟨some 6, .call 111 [(.t 5), (.c (.bool false))], none⟩, true, []⟩,
 ⟨⟨some 7, .load 4 true (.t 1), none⟩, false, []⟩,
 ⟨⟨some 8, .call 111 [(.t 7), (.c (.bool true))], none⟩, false, []⟩,
 ⟨⟨some 3, .mv (.t 6), none⟩, false, []⟩,
 ⟨⟨some 4, .mv (.t 8), none⟩, false, []⟩])
 (.seq (.regionD [⟨⟨some 9, .mv (.t 3), none⟩, false, []⟩,
 ⟨⟨some 10, .indexAddr (.sl 2) (.t 9) (.c (.int .i64 0)), none⟩, false, []⟩,
 ⟨⟨some 11, .load 2 true (.t 10), none⟩, false, []⟩,
 ⟨⟨some 12, .mv (.t 4), none⟩, false, []⟩,
 ⟨⟨some 13, .indexAddr (.sl 2) (.t 12) (.c (.int .i64 0)), none⟩, false, []⟩,
 ⟨⟨some 14, .load 2 true (.t 13), none⟩, false, []⟩,
 ⟨⟨some 15, .mv (.t 3), none⟩, false, []⟩,
 ⟨⟨some 16, .call 136 [(.t 15)], none⟩, true, []⟩,
 ⟨⟨some 17, .mv (.t 4), none⟩, false, []⟩,
 ⟨⟨some 18, .call 136 [(.t 17)], none⟩, true, []⟩,
 ⟨⟨some 19, .build [.int .i64 0, .int .i64 0, .int .i64 0, .int .i64 0, .int .i64 0, .int .i64 0, .int .i64 0, .int .i64 0] [(0, 2, (.t 11)), (2, 2, (.t 14)), (4, 2, (.t 16)), (6, 2, (.t 18))], none⟩, false, []⟩,
 ⟨⟨none, .store 8 (.t 2) (.t 19), none⟩, false, []⟩])
 (.ret)))⟩

/- codend/panel.checked -/
def F107 : AFunc := ⟨12, [.cell 2 4 true, .tmp 3],
 .seq (.region [⟨some 1, .box (.t 0), none⟩,
 ⟨some 2, .alloc [.str [], .int .i64 0, .nilsl, .nilsl], none⟩,
 ⟨some 3, .mv (.c (.int .i64 0)), none⟩])
 (.seq (.seq (.region [⟨some 5, .load 4 true (.t 1), none⟩,
 ⟨some 6, .call 58 [(.t 5)], none⟩,
 ⟨some 4, .mv (.t 6), none⟩])
 (.seq (.region [⟨some 7, .mv (.t 4), none⟩,
 ⟨some 8, .bin .neq .num (.t 7) (.c (.int .i64 0)), none⟩])
 (.cond (.t 8)
 (.seq (.region [⟨some 9, .build [.str [], .int .i64 0, .nilsl, .nilsl] [], none⟩,
 ⟨some 10, .mv (.t 4), none⟩,
 ⟨none, .store 4 (.t 2) (.t 9), none⟩,
 ⟨some 3, .mv (.t 10), none⟩])
 (.ret))
 (.skip))))
 (.seq (.region [⟨some 11, .load 4 true (.t 1), none⟩,
 ⟨none, .store 4 (.t 2) (.t 11), none⟩,
 ⟨some 3, .mv (.c (.int .i64 0)), none⟩])
 (.ret)))⟩

/- codend/panel.joined -/
def F108 : AFunc := ⟨22, [.tmp 4],
 .seq (.region [⟨some 4, .mv (.c (.nilsl)), none⟩])
 (.seq (.region [⟨some 6, .mv (.t 0), none⟩,
 ⟨some 7, .len .sl (.t 6), none⟩,
 ⟨some 8, .mv (.t 1), none⟩,
 ⟨some 9, .len .sl (.t 8), none⟩,
 ⟨some 10, .bin .add .num (.t 7) (.t 9), none⟩,
 ⟨some 11, .mkSl 3 32 [.str [], .int .i64 0, .bool false] (.t 10) (.t 10), none⟩,
 ⟨some 5, .mv (.t 11), none⟩])
 (.seq (.region [⟨some 12, .mv (.t 5), none⟩,
 ⟨some 13, .mv (.t 0), none⟩,
 ⟨some 14, .copy 3 (.t 12) (.t 13), none⟩])
 (.seq (.region [⟨some 15, .mv (.t 5), none⟩,
 ⟨some 16, .mv (.t 0), none⟩,
 ⟨some 17, .len .sl (.t 16), none⟩,
 ⟨some 18, .slice (.sl 3) (.t 15) (some (.t 17)) none none, none⟩,
 ⟨some 19, .mv (.t 1), none⟩,
 ⟨some 20, .copy 3 (.t 18) (.t 19), none⟩])
 (.seq (.region [⟨some 21, .mv (.t 5), none⟩,
 ⟨some 4, .mv (.t 21), none⟩])
 (.ret)))))⟩

/- codend/panel.within -/
def F109 : AFunc := ⟨16, [.tmp 6],
 .seq (.region [⟨some 6, .mv (.c (.int .i64 0)), none⟩])
 (.seq (.region [⟨some 7, .mv (.t 0), none⟩,
 ⟨some 8, .mv (.t 1), none⟩,
 ⟨some 9, .bin .lss .num (.t 7) (.t 8), none⟩,
 ⟨some 10, .mv (.t 9), none⟩,
 ⟨some 11, .mv (.t 0), some (10, false)⟩,
 ⟨some 12, .mv (.t 2), some (10, false)⟩,
 ⟨some 13, .bin .gtr .num (.t 11) (.t 12), some (10, false)⟩,
 ⟨some 14, .pick (.t 10) (.c (.bool true)) (.t 13), none⟩,
 ⟨some 15, .call 133 [(.t 14), (.c (.int .i64 3))], none⟩,
 ⟨some 6, .mv (.t 15), none⟩])
 (.ret))⟩

/- slices.Clone[[]codend/panel.Edge,codend/panel.Edge] -/
def F110 : AFunc := ⟨8, [.tmp 2],
 .seq (.region [⟨some 2, .mv (.c (.nilsl)), none⟩])
 (.seq (.seq (.region [⟨some 3, .mv (.t 0), none⟩,
 ⟨some 4, .bin .eql (.nilc .sl) (.t 3) (.c (.nilsl)), none⟩])
 (.cond (.t 4)
 (.seq (.region [⟨some 2, .mv (.c (.nilsl)), none⟩])
 (.ret))
 (.skip)))
 (.seq (.region [⟨some 5, .buildSl 3 0 [] [], none⟩,
 ⟨some 6, .mv (.t 0), none⟩,
 ⟨some 7, .append 3 32 none (.t 5) (.t 6), none⟩,
 ⟨some 2, .mv (.t 7), none⟩])
 (.ret)))⟩

/- (codend/panel.Panel).outline -/
def F111 : AFunc := ⟨37, [.tmp 4],
 .seq (.region [⟨some 2, .box (.t 0), none⟩,
 ⟨some 3, .box (.t 1), none⟩,
 ⟨some 4, .mv (.c (.nilsl)), none⟩])
 (.seq (.regionD [⟨⟨some 9, .build [.int .i64 0, .int .i64 0] [], none⟩, false, []⟩,
 ⟨⟨some 10, .fieldAddr 2 (.t 2), none⟩, false, []⟩,
 ⟨⟨some 11, .load 1 false (.t 10), none⟩, false, []⟩,
 ⟨⟨some 5, .alloc [.int .i64 0, .int .i64 0], none⟩, false, []⟩,
 ⟨⟨none, .store 2 (.t 5) (.t 9), none⟩, false, [(.t 10)]⟩,
 ⟨⟨some 6, .mv (.t 11), none⟩, false, []⟩])
 (.seq (.seq (.region [⟨some 12, .load 1 false (.t 3), none⟩])
 (.cond (.t 12)
 (.regionD [⟨⟨some 13, .fieldAddr 1 (.t 2), none⟩, false, []⟩,
 ⟨⟨some 14, .load 1 false (.t 13), none⟩, false, []⟩,
 ⟨⟨some 15, .bin .mul .num (.c (.int .i64 2)) (.t 14), none⟩, false, []⟩,
 ⟨⟨some 16, .build [.int .i64 0, .int .i64 0] [(0, 1, (.t 15))], none⟩, false, []⟩,
 ⟨⟨some 17, .fieldAddr 3 (.t 2), none⟩, false, []⟩,
 ⟨⟨some 18, .load 1 false (.t 17), none⟩, false, []⟩,
 ⟨⟨none, .store 2 (.t 5) (.t 16), none⟩, false, [(.t 17)]⟩,
 ⟨⟨some 6, .mv (.t 18), none⟩, false, []⟩])
 (.skip)))
 (.seq (.region [⟨some 19, .load 2 true (.t 5), none⟩,
 ⟨some 20, .buildSl 2 1 [.int .i64 0, .int .i64 0] [(0, 2, (.t 19))], none⟩,
 ⟨some 7, .alloc [.nilsl], none⟩,
 ⟨none, .store 1 (.t 7) (.t 20), none⟩])
 (.seq (.seq (.region [⟨some 21, .mv (.t 6), none⟩,
 ⟨some 22, .call 114 [(.t 21)], none⟩])
 (.block 0 (.rangeFunc (.t 22) [23] (.region [⟨some 8, .alloc [.int .u8 0, .bool false], none⟩,
 ⟨none, .store 2 (.t 8) (.t 23), none⟩])
 (.block 1 (.seq (.region [⟨some 24, .load 2 true (.t 5), none⟩,
 ⟨some 25, .fieldAddr 0 (.t 8), none⟩,
 ⟨some 26, .load 1 false (.t 25), none⟩,
 ⟨some 27, .fieldAddr 1 (.t 8), none⟩,
 ⟨some 28, .load 1 false (.t 27), none⟩,
 ⟨some 29, .load 1 false (.t 3), none⟩,
 ⟨some 30, .bin .eql (.eq ⟨false, [.b]⟩) (.t 28) (.t 29), none⟩,
 ⟨some 31, .call 176 [(.t 24), (.t 26), (.t 30)], none⟩,
 ⟨none, .store 2 (.t 5) (.t 31), none⟩])
 (.region [⟨some 32, .load 1 false (.t 7), none⟩,
 ⟨some 33, .load 2 true (.t 5), none⟩,
 ⟨some 34, .buildSl 2 1 [.int .i64 0, .int .i64 0] [(0, 2, (.t 33))], none⟩,
 ⟨some 35, .append 2 16 none (.t 32) (.t 34), none⟩,
 ⟨none, .store 1 (.t 7) (.t 35), none⟩]))))))
 (.seq (.region [⟨some 36, .load 1 false (.t 7), none⟩,
 ⟨some 4, .mv (.t 36), none⟩])
 (.ret))))))⟩

/- codend/panel.split -/
def F112 : AFunc := ⟨8, [.tmp 4],
 .seq (.region [⟨some 3, .box (.t 1), none⟩,
 ⟨some 4, .mv (.c (.int .i64 0)), none⟩])
 (.seq (.region [⟨some 5, .mv (.t 0), none⟩,
 ⟨some 6, .mkFunc 178 [] [(.t 3)], none⟩,
 ⟨some 7, .call 177 [(.t 5), (.t 6)], none⟩,
 ⟨some 4, .mv (.t 7), none⟩])
 (.ret))⟩

/- slices.Collect[codend/panel.letter] -/
def F113 : AFunc := ⟨5, [.tmp 2],
 .seq (.region [⟨some 2, .mv (.c (.nilsl)), none⟩])
 (.seq (.region [⟨some 3, .mv (.t 0), none⟩,
 ⟨some 4, .call 179 [(.c (.nilsl)), (.t 3)], none⟩,
 ⟨some 2, .mv (.t 4), none⟩])
 (.ret))⟩

/- codend/panel.letters -/
def F114 : AFunc := ⟨4, [.tmp 2],
 .seq (.region [⟨some 1, .box (.t 0), none⟩,
 ⟨some 2, .mv (.c (.nilfunc)), none⟩])
 (.seq (.region [⟨some 3, .mkFunc 180 [] [(.t 1)], none⟩,
 ⟨some 2, .mv (.t 3), none⟩])
 (.ret))⟩

/- codend/panel.plain -/
def F115 : AFunc := ⟨45, [.tmp 2],
 .seq (.region [⟨some 2, .mv (.c (.nilsl)), none⟩])
 (.seq (.region [⟨some 3, .alloc [.nilsl], none⟩])
 (.seq (.region [⟨some 4, .alloc [.str []], none⟩,
 ⟨some 5, .alloc [.int .i64 0], none⟩,
 ⟨none, .store 1 (.t 4) (.c (.str [])), none⟩,
 ⟨none, .store 1 (.t 5) (.c (.int .i64 0)), none⟩])
 (.seq (.region [⟨some 10, .mkFunc 181 [] [(.t 4), (.t 3), (.t 5)], none⟩,
 ⟨some 6, .mv (.t 10), none⟩])
 (.seq (.seq (.region [⟨some 11, .mv (.t 0), none⟩,
 ⟨some 12, .len .sl (.t 11), none⟩,
 ⟨some 13, .mv (.c (.int .i64 0)), none⟩])
 (.block 0 (.loop (.seq (.region [⟨some 14, .bin .lss .num (.t 13) (.t 12), none⟩])
 (.seq (.cond (.t 14)
 (.skip)
 (.exit 0))
 (.seq (.block 1 (.seq (.region [⟨some 15, .indexAddr (.sl 2) (.t 11) (.t 13), none⟩,
 ⟨some 16, .load 2 true (.t 15), none⟩,
 ⟨some 8, .alloc [.int .u8 0, .bool false], none⟩,
 ⟨none, .store 2 (.t 8) (.t 16), none⟩])
 (.seq (.region [⟨some 9, .mv (.c (.int .i64 0)), none⟩])
 (.seq (.seq (.region [⟨some 17, .fieldAddr 0 (.t 8), none⟩,
 ⟨some 18, .load 1 false (.t 17), none⟩,
 ⟨some 19, .bin .neq .num (.t 18) (.c (.int .u8 78)), none⟩])
 (.cond (.t 19)
 (.seq (.region [⟨some 9, .mv (.c (.int .i64 (-1))), none⟩])
 (.seq (.region [⟨some 20, .fieldAddr 1 (.t 8), none⟩,
 ⟨some 21, .load 1 false (.t 20), none⟩])
 (.cond (.t 21)
 (.region [⟨some 9, .mv (.c (.int .i64 1)), none⟩])
 (.skip))))
 (.skip)))
 (.seq (.seq (.region [⟨some 22, .load 1 false (.t 4), none⟩,
 ⟨some 23, .len .str (.t 22), none⟩,
 ⟨some 24, .bin .eql .num (.t 23) (.c (.int .i64 64)), none⟩,
 ⟨some 25, .mv (.t 24), none⟩,
 ⟨some 26, .mv (.t 9), some (25, false)⟩,
 ⟨some 27, .load 1 false (.t 5), some (25, false)⟩,
 ⟨some 28, .bin .mul .num (.t 26) (.t 27), some (25, false)⟩,
 ⟨some 29, .bin .lss .num (.t 28) (.c (.int .i64 0)), some (25, false)⟩,
 ⟨some 30, .pick (.t 25) (.c (.bool true)) (.t 29), none⟩])
 (.cond (.t 30)
 (.region [⟨some 31, .mv (.t 6), none⟩,
 ⟨some 32, .dyn (.t 31) [], none⟩])
 (.skip)))
 (.seq (.region [⟨some 33, .load 1 false (.t 4), none⟩,
 ⟨some 34, .fieldAddr 0 (.t 8), none⟩,
 ⟨some 35, .load 1 false (.t 34), none⟩,
 ⟨some 36, .conv .intStr (.t 35), none⟩,
 ⟨some 37, .bin .add .strs (.t 33) (.t 36), none⟩,
 ⟨none, .store 1 (.t 4) (.t 37), none⟩])
 (.seq (.region [⟨some 38, .mv (.t 9), none⟩,
 ⟨some 39, .bin .neq .num (.t 38) (.c (.int .i64 0)), none⟩])
 (.cond (.t 39)
 (.region [⟨some 40, .mv (.t 9), none⟩,
 ⟨none, .store 1 (.t 5) (.t 40), none⟩])
 (.skip)))))))))
 (.region [⟨some 41, .bin .add .num (.t 13) (.c (.int .i64 1)), none⟩,
 ⟨some 13, .mv (.t 41), none⟩])))))))
 (.seq (.region [⟨some 42, .mv (.t 6), none⟩,
 ⟨some 43, .dyn (.t 42) [], none⟩])
 (.seq (.region [⟨some 44, .load 1 false (.t 3), none⟩,
 ⟨some 2, .mv (.t 44), none⟩])
 (.ret)))))))⟩

/- codend/codendref03.SameEdges -/
def F118 : AFunc := ⟨26, [.tmp 4],
 .seq (.region [⟨some 4, .mv (.c (.bool false)), none⟩])
 (.seq (.seq (.region [⟨some 6, .mv (.t 0), none⟩,
 ⟨some 7, .len .sl (.t 6), none⟩,
 ⟨some 8, .mv (.t 1), none⟩,
 ⟨some 9, .len .sl (.t 8), none⟩,
 ⟨some 10, .bin .neq .num (.t 7) (.t 9), none⟩])
 (.cond (.t 10)
 (.seq (.region [⟨some 4, .mv (.c (.bool false)), none⟩])
 (.ret))
 (.skip)))
 (.seq (.seq (.region [⟨some 5, .mv (.c (.int .i64 0)), none⟩])
 (.block 0 (.loop (.seq (.seq (.region [⟨some 11, .mv (.t 5), none⟩,
 ⟨some 12, .mv (.t 0), none⟩,
 ⟨some 13, .len .sl (.t 12), none⟩,
 ⟨some 14, .bin .lss .num (.t 11) (.t 13), none⟩])
 (.cond (.t 14)
 (.skip)
 (.exit 0)))
 (.seq (.block 1 (.seq (.regionD [⟨⟨some 17, .mv (.t 0), none⟩, false, []⟩,
 ⟨⟨some 18, .mv (.t 5), none⟩, false, []⟩,
 ⟨⟨some 19, .indexAddr (.sl 3) (.t 17) (.t 18), none⟩, false, []⟩,
 ⟨⟨some 20, .load 3 true (.t 19), none⟩, false, []⟩,
 ⟨⟨some 21, .mv (.t 1), none⟩, false, []⟩,
 ⟨⟨some 22, .mv (.t 5), none⟩, false, []⟩,
 ⟨⟨some 23, .indexAddr (.sl 3) (.t 21) (.t 22), none⟩, false, []⟩,
 ⟨⟨some 24, .load 3 true (.t 23), none⟩, false, []⟩,
 ⟨⟨some 25, .bin .neq (.eq ⟨true, [.s, .i, .b]⟩) (.t 20) (.t 24), none⟩, false, []⟩])
 (.cond (.t 25)
 (.seq (.region [⟨some 4, .mv (.c (.bool false)), none⟩])
 (.ret))
 (.skip))))
 (.region [⟨some 15, .mv (.t 5), none⟩,
 ⟨some 16, .bin .add .num (.t 15) (.c (.int .i64 1)), none⟩,
 ⟨some 5, .mv (.t 16), none⟩]))))))
 (.seq (.region [⟨some 4, .mv (.c (.bool true)), none⟩])
 (.ret))))⟩

/- codend/codendlaw03.edges -/
def F119 : AFunc := ⟨19, [.tmp 2],
 .seq (.region [⟨some 2, .mv (.c (.nilsl)), none⟩])
 (.seq (.region [⟨some 3, .mv (.c (.nilsl)), none⟩])
 (.seq (.seq (.region [⟨some 5, .mv (.t 0), none⟩,
 ⟨some 6, .len .sl (.t 5), none⟩,
 ⟨some 7, .mv (.c (.int .i64 0)), none⟩])
 (.block 0 (.loop (.seq (.region [⟨some 8, .bin .lss .num (.t 7) (.t 6), none⟩])
 (.seq (.cond (.t 8)
 (.skip)
 (.exit 0))
 (.seq (.block 1 (.seq (.region [⟨some 9, .mv (.t 7), none⟩,
 ⟨some 4, .mv (.t 9), none⟩])
 (.region [⟨some 10, .mv (.t 3), none⟩,
 ⟨some 11, .mv (.t 0), none⟩,
 ⟨some 12, .mv (.t 4), none⟩,
 ⟨some 13, .indexAddr (.sl 3) (.t 11) (.t 12), none⟩,
 ⟨some 14, .load 3 true (.t 13), none⟩,
 ⟨some 15, .buildSl 3 1 [.str [], .int .i64 0, .bool false] [(0, 3, (.t 14))], none⟩,
 ⟨some 16, .append 3 32 none (.t 10) (.t 15), none⟩,
 ⟨some 3, .mv (.t 16), none⟩])))
 (.region [⟨some 17, .bin .add .num (.t 7) (.c (.int .i64 1)), none⟩,
 ⟨some 7, .mv (.t 17), none⟩])))))))
 (.seq (.region [⟨some 18, .mv (.t 3), none⟩,
 ⟨some 2, .mv (.t 18), none⟩])
 (.ret))))⟩

/- codend/panel.checkAll -/
def F120 : AFunc := ⟨30, [.tmp 2],
 .seq (.region [⟨some 2, .mv (.c (.int .i64 0)), none⟩])
 (.seq (.seq (.region [⟨some 6, .mv (.t 0), none⟩,
 ⟨some 7, .len .sl (.t 6), none⟩,
 ⟨some 8, .bin .gtr .num (.t 7) (.c (.int .i64 16)), none⟩])
 (.cond (.t 8)
 (.seq (.region [⟨some 2, .mv (.c (.int .i64 5)), none⟩])
 (.ret))
 (.skip)))
 (.seq (.seq (.region [⟨some 9, .mv (.t 0), none⟩,
 ⟨some 10, .len .sl (.t 9), none⟩,
 ⟨some 11, .mv (.c (.int .i64 0)), none⟩])
 (.block 0 (.loop (.seq (.region [⟨some 12, .bin .lss .num (.t 11) (.t 10), none⟩])
 (.seq (.cond (.t 12)
 (.skip)
 (.exit 0))
 (.seq (.block 1 (.seq (.region [⟨some 13, .mv (.t 11), none⟩,
 ⟨some 14, .indexAddr (.sl 4) (.t 9) (.t 11), none⟩,
 ⟨some 15, .load 4 true (.t 14), none⟩,
 ⟨some 4, .alloc [.str [], .int .i64 0, .nilsl, .nilsl], none⟩,
 ⟨some 3, .mv (.t 13), none⟩,
 ⟨none, .store 4 (.t 4) (.t 15), none⟩])
 (.seq (.regionD [⟨⟨some 16, .load 4 true (.t 4), none⟩, false, []⟩,
 ⟨⟨some 17, .call 58 [(.t 16)], none⟩, true, []⟩,
 ⟨⟨some 18, .mv (.t 0), none⟩, false, []⟩,
 ⟨⟨some 19, .mv (.t 3), none⟩, false, []⟩,
 ⟨⟨some 20, .slice (.sl 4) (.t 18) none (some (.t 19)) none, none⟩, false, []⟩,
 ⟨⟨some 21, .load 4 true (.t 4), none⟩, false, []⟩,
 ⟨⟨some 22, .call 182 [(.t 20), (.t 21)], none⟩, false, []⟩,
 ⟨⟨some 23, .call 133 [(.t 22), (.c (.int .i64 9))], none⟩, false, []⟩,
 ⟨⟨some 24, .buildSl 1 2 [.int .i64 0, .int .i64 0] [(0, 1, (.t 17)), (1, 1, (.t 23))], none⟩, false, []⟩,
 ⟨⟨some 25, .call 105 [(.t 24)], none⟩, false, []⟩,
 ⟨⟨some 5, .mv (.t 25), none⟩, false, []⟩])
 (.seq (.region [⟨some 26, .mv (.t 5), none⟩,
 ⟨some 27, .bin .neq .num (.t 26) (.c (.int .i64 0)), none⟩])
 (.cond (.t 27)
 (.seq (.region [⟨some 28, .mv (.t 5), none⟩,
 ⟨some 2, .mv (.t 28), none⟩])
 (.ret))
 (.skip))))))
 (.region [⟨some 29, .bin .add .num (.t 11) (.c (.int .i64 1)), none⟩,
 ⟨some 11, .mv (.t 29), none⟩])))))))
 (.seq (.region [⟨some 2, .mv (.c (.int .i64 0)), none⟩])
 (.ret))))⟩

/- strconv.Itoa -/
def F122 : AFunc := ⟨5, [.tmp 2],
 .seq (.region [⟨some 2, .mv (.c (.str [])), none⟩])
 (.seq (.region [⟨some 3, .mv (.t 0), none⟩,
 ⟨some 4, .call 184 [(.t 3)], none⟩,
 ⟨some 2, .mv (.t 4), none⟩])
 (.ret))⟩

/- (codend/panel.Edge).line -/
def F123 : AFunc := ⟨18, [.tmp 4],
 .seq (.region [⟨some 2, .box (.t 0), none⟩,
 ⟨some 4, .mv (.c (.str [])), none⟩])
 (.seq (.region [⟨some 5, .mv (.c (.str [105, 110])), none⟩])
 (.seq (.seq (.region [⟨some 6, .fieldAddr 2 (.t 2), none⟩,
 ⟨some 7, .load 1 false (.t 6), none⟩])
 (.cond (.t 7)
 (.region [⟨some 5, .mv (.c (.str [111, 117, 116])), none⟩])
 (.skip)))
 (.seq (.regionD [⟨⟨some 8, .mv (.t 1), none⟩, false, []⟩,
 ⟨⟨some 9, .fieldAddr 0 (.t 2), none⟩, false, []⟩,
 ⟨⟨some 10, .load 1 false (.t 9), none⟩, false, []⟩,
 ⟨⟨some 11, .fieldAddr 1 (.t 2), none⟩, false, []⟩,
 ⟨⟨some 12, .load 1 false (.t 11), none⟩, false, []⟩,
 ⟨⟨some 13, .call 122 [(.t 12)], none⟩, true, []⟩,
 ⟨⟨some 14, .mv (.t 5), none⟩, false, []⟩,
 ⟨⟨some 15, .buildSl 1 4 [.str [], .str [], .str [], .str []] [(0, 1, (.t 8)), (1, 1, (.t 10)), (2, 1, (.t 13)), (3, 1, (.t 14))], none⟩, false, []⟩,
 ⟨⟨some 16, .call 185 [(.t 15), (.c (.str [32]))], none⟩, false, []⟩,
 ⟨⟨some 17, .bin .add .strs (.t 16) (.c (.str [10])), none⟩, false, []⟩,
 ⟨⟨some 4, .mv (.t 17), none⟩, false, []⟩])
 (.ret))))⟩

/- (*strings.Builder).Len -/
def F124 : AFunc := ⟨8, [.tmp 2],
 .seq (.region [⟨some 2, .mv (.c (.int .i64 0)), none⟩])
 (.seq (.region [⟨some 3, .mv (.t 0), none⟩,
 ⟨some 4, .nilChk (.t 3), none⟩,
 ⟨some 5, .fieldAddr 1 (.t 4), none⟩,
 ⟨some 6, .load 1 false (.t 5), none⟩,
 ⟨some 7, .len .sl (.t 6), none⟩,
 ⟨some 2, .mv (.t 7), none⟩])
 (.ret))⟩


end Go.Proofs.YtndlfkibcelhmaaGreatDoor.Ai
end
