/- The code of the functions that the law reaches, as the evaluator takes it. -/
import Derived.Test.YtndlfkibcelhmaaGreatDoorA0
set_option linter.all false
section
set_option maxRecDepth 100000
namespace Go.Proofs.YtndlfkibcelhmaaGreatDoor.Ai
open Go
/- codend/codendlaw03.PanelJoins -/
def F6 : AFunc := ⟨87, [.tmp 6],
 .seq (.region [oo 3 (.box (.t 0)),
 oo 4 (.box (.t 1)),
 oo 6 (.mv (.c (.bool false)))])
 (.seq (.seq (.region [oo 16 (.call 17 []),
 oo 17 (.un .not (.t 16)),
 om 18 17,
 ⟨some 19, .load 4 true (.t 3), some (18, false)⟩,
 ⟨some 20, .call 18 [(.t 19), (ci 40)], some (18, false)⟩,
 ⟨some 21, .un .not (.t 20), some (18, false)⟩,
 oo 22 (.pick (.t 18) (.c (.bool true)) (.t 21)),
 om 23 22,
 ⟨some 24, .load 4 true (.t 4), some (23, false)⟩,
 ⟨some 25, .call 18 [(.t 24), (ci 40)], some (23, false)⟩,
 ⟨some 26, .un .not (.t 25), some (23, false)⟩,
 oo 27 (.pick (.t 23) (.c (.bool true)) (.t 26))])
 (.cond (.t 27)
 (.seq (.region [oo 28 (.call 17 []),
 om 6 28])
 (.ret))
 (.skip)))
 (.seq (.regionD [oq 30 (.load 4 true (.t 3)),
 ⟨⟨some 31, .call 20 [(.t 30)], none⟩, true, []⟩,
 oq 32 (.load 4 true (.t 4)),
 oq 33 (.call 20 [(.t 32)]),
 oq 34 (.call 36 [(.t 31), (.t 33)]),
 qm 29 34,
 oq 35 (.extract 0 (.t 29)),
 oq 36 (.extract 1 (.t 29)),
 oq 7 (.alloc [.str [], .int .i64 0, .nilsl, .nilsl]),
 ⟨⟨none, .store 4 (.t 7) (.t 35), none⟩, false, []⟩,
 qm 8 36])
 (.seq (.region [oo 38 (.load 4 true (.t 3)),
 oo 39 (.call 20 [(.t 38)]),
 om 40 2,
 oo 41 (.call 37 [(.t 39), (.t 40)]),
 om 37 41,
 oo 42 (.extract 0 (.t 37)),
 oo 43 (.extract 1 (.t 37)),
 oo 9 (.alloc [.str [], .int .i64 0, .nilsl, .nilsl]),
 ⟨none, .store 4 (.t 9) (.t 42), none⟩,
 om 10 43])
 (.seq (.regionD [oq 44 (.load 4 true (.t 3)),
 ⟨⟨some 45, .call 22 [(.t 44)], none⟩, true, []⟩,
 oq 46 (.load 4 true (.t 4)),
 oq 47 (.call 22 [(.t 46)]),
 oq 48 (.buildSl 1 2 [.int .i64 0, .int .i64 0] [(0, 1, (.t 45)), (1, 1, (.t 47))]),
 oq 49 (.call 34 [(.t 48)]),
 qm 11 49])
 (.seq (.region [oo 50 (.load 4 true (.t 3)),
 oo 51 (.call 22 [(.t 50)]),
 om 52 2,
 oo 53 (.call 38 [(.t 52), (ci (-128)), (ci 128)]),
 oo 54 (.buildSl 1 2 [.int .i64 0, .int .i64 0] [(0, 1, (.t 51)), (1, 1, (.t 53))]),
 oo 55 (.call 34 [(.t 54)]),
 om 12 55])
 (.seq (.region [oo 13 (.alloc [.str [], .int .i64 0, .nilsl, .nilsl])])
 (.seq (.region [oo 56 (.load 4 true (.t 3)),
 oo 14 (.alloc [.str [], .int .i64 0, .nilsl, .nilsl]),
 ⟨none, .store 4 (.t 14) (.t 56), none⟩])
 (.seq (.seq (.region [om 57 11,
 oo 58 (.bin .eql .num (.t 57) (ci 0))])
 (.cond (.t 58)
 (.seq (.region [oo 15 (.mv (.c (.bool false)))])
 (.seq (.region [oo 60 (.load 4 true (.t 3)),
 oo 61 (.load 4 true (.t 4)),
 oo 62 (.call 39 [(.t 60), (.t 61)]),
 om 59 62,
 oo 63 (.extract 0 (.t 59)),
 oo 64 (.extract 1 (.t 59)),
 ⟨none, .store 4 (.t 13) (.t 63), none⟩,
 om 15 64])
 (.region [om 65 15,
 oo 66 (.un .not (.t 65)),
 oo 67 (.call 35 [(.t 66), (ci 24)]),
 om 11 67])))
 (.skip)))
 (.seq (.seq (.region [om 68 12,
 oo 69 (.bin .eql .num (.t 68) (ci 0))])
 (.cond (.t 69)
 (.region [oo 70 (.fieldAddr 1 (.t 3)),
 oo 71 (.load 1 false (.t 70)),
 om 72 2,
 oo 73 (.bin .add .num (.t 71) (.t 72)),
 oo 74 (.fieldAddr 1 (.t 14)),
 ⟨none, .store 1 (.t 74) (.t 73), none⟩])
 (.skip)))
 (.seq (.region [oo 75 (.load 4 true (.t 7)),
 om 76 8,
 om 77 11,
 oo 78 (.load 4 true (.t 13)),
 oo 79 (.call 40 [(.t 75), (.t 76), (.t 77), (.t 78)]),
 om 80 79,
 ⟨some 81, .load 4 true (.t 9), some (80, true)⟩,
 ⟨some 82, .mv (.t 10), some (80, true)⟩,
 ⟨some 83, .mv (.t 12), some (80, true)⟩,
 ⟨some 84, .load 4 true (.t 14), some (80, true)⟩,
 ⟨some 85, .call 40 [(.t 81), (.t 82), (.t 83), (.t 84)], some (80, true)⟩,
 oo 86 (.pick (.t 80) (.t 85) (.c (.bool false))),
 om 6 86])
 (.ret)))))))))))⟩

/- codend/codendlaw03.awake -/
def F17 : AFunc := ⟨245, [.tmp 0],
 .seq (.region [oo 0 (.mv (.c (.bool false)))])
 (.seq (.region [oo 33 (.call 86 []),
 oo 34 (.call 59 [(.t 33), (.c (.bool true))]),
 om 32 34,
 oo 35 (.extract 0 (.t 32)),
 oo 36 (.extract 1 (.t 32)),
 om 1 35,
 om 2 36])
 (.seq (.region [oo 38 (.call 86 []),
 oo 39 (.call 61 [(.t 38)]),
 om 37 39,
 oo 40 (.extract 0 (.t 37)),
 oo 41 (.extract 1 (.t 37)),
 om 3 40,
 om 4 41])
 (.seq (.region [oo 43 (.call 86 []),
 oo 44 (.call 31 [(.t 43)]),
 om 42 44,
 oo 45 (.extract 0 (.t 42)),
 oo 46 (.extract 1 (.t 42)),
 om 5 45,
 om 6 46])
 (.seq (.region [oo 48 (.call 86 []),
 oo 49 (.call 19 [(.t 48)]),
 om 47 49,
 oo 50 (.extract 0 (.t 47)),
 oo 51 (.extract 1 (.t 47)),
 om 7 50,
 om 8 51])
 (.seq (.region [oo 53 (.call 86 []),
 oo 54 (.call 21 [(.t 53)]),
 om 52 54,
 oo 55 (.extract 0 (.t 52)),
 oo 56 (.extract 1 (.t 52)),
 om 9 55,
 om 10 56])
 (.seq (.region [oo 58 (.call 86 []),
 oo 59 (.call 27 [(.t 58)]),
 om 57 59,
 oo 60 (.extract 0 (.t 57)),
 oo 61 (.extract 1 (.t 57)),
 oo 11 (.alloc [.int .i64 0, .int .i64 0, .int .i64 0, .int .i64 0]),
 ⟨none, .store 4 (.t 11) (.t 60), none⟩,
 om 12 61])
 (.seq (.region [oo 63 (.call 86 []),
 oo 64 (.call 28 [(.t 63)]),
 om 62 64,
 oo 65 (.extract 0 (.t 62)),
 oo 66 (.extract 1 (.t 62)),
 om 13 65,
 om 14 66])
 (.seq (.region [oo 68 (.call 86 []),
 oo 69 (.buildSl 4 1 [.str [], .int .i64 0, .nilsl, .nilsl] [(0, 4, (.t 68))]),
 oo 70 (.call 47 [(.t 69)]),
 om 67 70,
 oo 71 (.extract 0 (.t 67)),
 oo 72 (.extract 1 (.t 67)),
 om 15 71,
 om 16 72])
 (.seq (.region [om 74 15,
 oo 75 (.call 49 [(.t 74)]),
 om 73 75,
 oo 76 (.extract 0 (.t 73)),
 oo 77 (.extract 1 (.t 73)),
 oo 78 (.extract 2 (.t 73)),
 om 17 76,
 om 18 77,
 om 19 78])
 (.seq (.seq (.region [om 79 2,
 om 80 4,
 oo 81 (.bin .add .num (.t 79) (.t 80)),
 om 82 6,
 oo 83 (.bin .add .num (.t 81) (.t 82)),
 om 84 8,
 oo 85 (.bin .add .num (.t 83) (.t 84)),
 om 86 10,
 oo 87 (.bin .add .num (.t 85) (.t 86)),
 om 88 12,
 oo 89 (.bin .add .num (.t 87) (.t 88)),
 om 90 14,
 oo 91 (.bin .add .num (.t 89) (.t 90)),
 om 92 16,
 oo 93 (.bin .add .num (.t 91) (.t 92)),
 om 94 19,
 oo 95 (.bin .add .num (.t 93) (.t 94)),
 oo 96 (.bin .neq .num (.t 95) (ci 0)),
 om 97 96,
 ⟨some 98, .mv (.t 1), some (97, false)⟩,
 ⟨some 99, .build [.int .i64 0, .int .i64 0] [(0, 1, (ci 4)), (1, 1, (ci 0))], some (97, false)⟩,
 ⟨some 100, .build [.int .i64 0, .int .i64 0] [(0, 1, (ci 5)), (1, 1, (ci 1))], some (97, false)⟩,
 ⟨some 101, .build [.int .i64 0, .int .i64 0] [(0, 1, (ci 6)), (1, 1, (ci 2))], some (97, false)⟩,
 ⟨some 102, .buildSl 2 3 [.int .i64 0, .int .i64 0, .int .i64 0, .int .i64 0, .int .i64 0, .int .i64 0] [(0, 2, (.t 99)), (2, 2, (.t 100)), (4, 2, (.t 101))], some (97, false)⟩,
 ⟨some 103, .call 63 [(.t 98), (.t 102)], some (97, false)⟩,
 ⟨some 104, .un .not (.t 103), some (97, false)⟩,
 oo 105 (.pick (.t 97) (.c (.bool true)) (.t 104)),
 om 106 105,
 ⟨some 107, .mv (.t 3), some (106, false)⟩,
 ⟨some 108, .len .sl (.t 107), some (106, false)⟩,
 ⟨some 109, .bin .neq .num (.t 108) (ci 2), some (106, false)⟩,
 oo 110 (.pick (.t 106) (.c (.bool true)) (.t 109)),
 om 111 110,
 ⟨some 112, .mv (.t 3), some (111, false)⟩,
 ⟨some 113, .indexAddr (.sl 4) (.t 112) (ci 0), some (111, false)⟩,
 ⟨some 114, .load 4 true (.t 113), some (111, false)⟩,
 ⟨some 115, .build [.int .i64 0, .int .i64 0] [(0, 1, (ci 0)), (1, 1, (ci 4))], some (111, false)⟩,
 ⟨some 116, .build [.int .i64 0, .int .i64 0] [(0, 1, (ci 0)), (1, 1, (ci 5))], some (111, false)⟩,
 ⟨some 117, .build [.int .i64 0, .int .i64 0, .int .i64 0, .int .i64 0] [(0, 2, (.t 115)), (2, 2, (.t 116))], some (111, false)⟩,
 ⟨some 118, .bin .neq (.eq ⟨true, [.i, .i, .i, .i]⟩) (.t 114) (.t 117), some (111, false)⟩,
 oo 119 (.pick (.t 111) (.c (.bool true)) (.t 118)),
 om 120 119,
 ⟨some 121, .mv (.t 5), some (120, false)⟩,
 ⟨some 122, .bin .neq .num (.t 121) (ci 20), some (120, false)⟩,
 oo 123 (.pick (.t 120) (.c (.bool true)) (.t 122)),
 om 124 123,
 ⟨some 125, .mv (.t 7), some (124, false)⟩,
 ⟨some 126, .len .sl (.t 125), some (124, false)⟩,
 ⟨some 127, .bin .neq .num (.t 126) (ci 11), some (124, false)⟩,
 oo 128 (.pick (.t 124) (.c (.bool true)) (.t 127)),
 om 129 128,
 ⟨some 130, .mv (.t 9), some (129, false)⟩,
 ⟨some 131, .build [.int .i64 0, .int .i64 0] [(0, 1, (ci 0)), (1, 1, (ci 4))], some (129, false)⟩,
 ⟨some 132, .build [.int .i64 0, .int .i64 0] [(0, 1, (ci 1)), (1, 1, (ci 5))], some (129, false)⟩,
 ⟨some 133, .build [.int .i64 0, .int .i64 0] [(0, 1, (ci 0)), (1, 1, (ci 6))], some (129, false)⟩,
 ⟨some 134, .buildSl 2 3 [.int .i64 0, .int .i64 0, .int .i64 0, .int .i64 0, .int .i64 0, .int .i64 0] [(0, 2, (.t 131)), (2, 2, (.t 132)), (4, 2, (.t 133))], some (129, false)⟩,
 ⟨some 135, .call 25 [(.t 130), (.t 134)], some (129, false)⟩,
 ⟨some 136, .un .not (.t 135), some (129, false)⟩,
 oo 137 (.pick (.t 129) (.c (.bool true)) (.t 136)),
 om 138 137,
 ⟨some 139, .load 4 true (.t 11), some (138, false)⟩,
 ⟨some 140, .build [.int .i64 0, .int .i64 0, .int .i64 0, .int .i64 0] [(2, 1, (ci 3)), (3, 1, (ci 2))], some (138, false)⟩,
 ⟨some 141, .bin .neq (.eq ⟨true, [.i, .i, .i, .i]⟩) (.t 139) (.t 140), some (138, false)⟩,
 oo 142 (.pick (.t 138) (.c (.bool true)) (.t 141)),
 om 143 142,
 ⟨some 144, .mv (.t 13), some (143, false)⟩,
 ⟨some 145, .build [.int .i64 0, .int .i64 0, .int .i64 0] [(0, 1, (ci 6)), (1, 1, (ci 0)), (2, 1, (ci (-1)))], some (143, false)⟩,
 ⟨some 146, .buildSl 3 1 [.int .i64 0, .int .i64 0, .int .i64 0] [(0, 3, (.t 145))], some (143, false)⟩,
 ⟨some 147, .call 73 [(.t 144), (.t 146)], some (143, false)⟩,
 ⟨some 148, .un .not (.t 147), some (143, false)⟩,
 oo 149 (.pick (.t 143) (.c (.bool true)) (.t 148)),
 om 150 149,
 ⟨some 151, .mv (.t 15), some (150, false)⟩,
 ⟨some 152, .bin .neq .strs (.t 151) (.c (.str [112, 97, 110, 101, 108, 32, 119, 105, 110, 103, 32, 50, 10, 108, 101, 102, 116, 32, 78, 32, 49, 32, 105, 110, 10, 114, 105, 103, 104, 116, 32, 66, 66, 32, 49, 32, 111, 117, 116, 10, 101, 110, 100, 10])), some (150, false)⟩,
 oo 153 (.pick (.t 150) (.c (.bool true)) (.t 152)),
 om 154 153,
 ⟨some 155, .mv (.t 17), some (154, false)⟩,
 ⟨some 156, .len .sl (.t 155), some (154, false)⟩,
 ⟨some 157, .bin .neq .num (.t 156) (ci 1), some (154, false)⟩,
 oo 158 (.pick (.t 154) (.c (.bool true)) (.t 157)),
 om 159 158,
 ⟨some 160, .mv (.t 17), some (159, false)⟩,
 ⟨some 161, .indexAddr (.sl 4) (.t 160) (ci 0), some (159, false)⟩,
 ⟨some 162, .load 4 true (.t 161), some (159, false)⟩,
 ⟨some 163, .call 45 [(.t 162)], some (159, false)⟩,
 ⟨some 164, .call 86 [], some (159, false)⟩,
 ⟨some 165, .call 45 [(.t 164)], some (159, false)⟩,
 ⟨some 166, .call 44 [(.t 163), (.t 165)], some (159, false)⟩,
 ⟨some 167, .un .not (.t 166), some (159, false)⟩,
 oo 168 (.pick (.t 159) (.c (.bool true)) (.t 167))])
 (.cond (.t 168)
 (.seq (.region [oo 0 (.mv (.c (.bool false)))])
 (.ret))
 (.skip)))
 (.seq (.region [oo 170 (.call 86 []),
 oo 171 (.call 76 [(.t 170)]),
 om 169 171,
 oo 172 (.extract 0 (.t 169)),
 oo 173 (.extract 1 (.t 169)),
 oo 20 (.alloc [.str [], .int .i64 0, .nilsl, .nilsl]),
 ⟨none, .store 4 (.t 20) (.t 172), none⟩,
 om 21 173])
 (.seq (.region [oo 175 (.call 86 []),
 oo 176 (.call 41 [(.t 175), (ci 1)]),
 om 174 176,
 oo 177 (.extract 0 (.t 174)),
 oo 178 (.extract 1 (.t 174)),
 oo 22 (.alloc [.str [], .int .i64 0, .nilsl, .nilsl, .str [], .int .i64 0, .nilsl, .nilsl]),
 ⟨none, .store 8 (.t 22) (.t 177), none⟩,
 om 23 178])
 (.seq (.region [oo 180 (.call 86 []),
 oo 181 (.call 86 []),
 oo 182 (.call 36 [(.t 180), (.t 181)]),
 om 179 182,
 oo 183 (.extract 0 (.t 179)),
 oo 184 (.extract 1 (.t 179)),
 oo 24 (.alloc [.str [], .int .i64 0, .nilsl, .nilsl]),
 ⟨none, .store 4 (.t 24) (.t 183), none⟩,
 om 25 184])
 (.seq (.region [oo 186 (.call 86 []),
 oo 187 (.call 37 [(.t 186), (ci 1)]),
 om 185 187,
 oo 188 (.extract 0 (.t 185)),
 oo 189 (.extract 1 (.t 185)),
 oo 26 (.alloc [.str [], .int .i64 0, .nilsl, .nilsl]),
 ⟨none, .store 4 (.t 26) (.t 188), none⟩,
 om 27 189])
 (.seq (.region [oo 191 (.load 4 true (.t 26)),
 oo 192 (.call 19 [(.t 191)]),
 om 190 192,
 oo 193 (.extract 0 (.t 190)),
 oo 194 (.extract 1 (.t 190)),
 om 28 193,
 om 29 194])
 (.seq (.region [oo 196 (.call 86 []),
 oo 197 (.call 62 [(.t 196)]),
 om 195 197,
 oo 198 (.extract 0 (.t 195)),
 oo 199 (.extract 1 (.t 195)),
 oo 30 (.alloc [.int .i64 0, .int .i64 0, .int .i64 0]),
 ⟨none, .store 3 (.t 30) (.t 198), none⟩,
 om 31 199])
 (.seq (.region [om 200 21,
 om 201 27,
 oo 202 (.bin .add .num (.t 200) (.t 201)),
 om 203 29,
 oo 204 (.bin .add .num (.t 202) (.t 203)),
 om 205 31,
 oo 206 (.bin .add .num (.t 204) (.t 205)),
 oo 207 (.bin .eql .num (.t 206) (ci 0)),
 om 208 207,
 ⟨some 209, .fieldAddr 1 (.t 20), some (208, true)⟩,
 ⟨some 210, .load 1 false (.t 209), some (208, true)⟩,
 ⟨some 211, .bin .eql .num (.t 210) (ci 3), some (208, true)⟩,
 oo 212 (.pick (.t 208) (.t 211) (.c (.bool false))),
 om 213 212,
 ⟨some 214, .fieldAddr 2 (.t 20), some (213, true)⟩,
 ⟨some 215, .load 1 false (.t 214), some (213, true)⟩,
 ⟨some 216, .len .sl (.t 215), some (213, true)⟩,
 ⟨some 217, .bin .eql .num (.t 216) (ci 1), some (213, true)⟩,
 oo 218 (.pick (.t 213) (.t 217) (.c (.bool false))),
 om 219 218,
 ⟨some 220, .fieldAddr 2 (.t 20), some (219, true)⟩,
 ⟨some 221, .load 1 false (.t 220), some (219, true)⟩,
 ⟨some 222, .indexAddr (.sl 3) (.t 221) (ci 0), some (219, true)⟩,
 ⟨some 223, .load 3 true (.t 222), some (219, true)⟩,
 ⟨some 224, .build [.str [], .int .i64 0, .bool false] [(0, 1, (.c (.str [66, 66]))), (1, 1, (ci 1))], some (219, true)⟩,
 ⟨some 225, .bin .eql (.eq ⟨true, [.s, .i, .b]⟩) (.t 223) (.t 224), some (219, true)⟩,
 oo 226 (.pick (.t 219) (.t 225) (.c (.bool false))),
 om 227 226,
 ⟨some 228, .mv (.t 23), some (227, true)⟩,
 ⟨some 229, .bin .eql .num (.t 228) (ci 18), some (227, true)⟩,
 oo 230 (.pick (.t 227) (.t 229) (.c (.bool false))),
 om 231 230,
 ⟨some 232, .mv (.t 25), some (231, true)⟩,
 ⟨some 233, .bin .eql .num (.t 232) (ci 24), some (231, true)⟩,
 oo 234 (.pick (.t 231) (.t 233) (.c (.bool false))),
 om 235 234,
 ⟨some 236, .mv (.t 28), some (235, true)⟩,
 ⟨some 237, .len .sl (.t 236), some (235, true)⟩,
 ⟨some 238, .bin .eql .num (.t 237) (ci 15), some (235, true)⟩,
 oo 239 (.pick (.t 235) (.t 238) (.c (.bool false))),
 om 240 239,
 ⟨some 241, .load 3 true (.t 30), some (240, true)⟩,
 ⟨some 242, .build [.int .i64 0, .int .i64 0, .int .i64 0] [(0, 1, (ci 1)), (1, 1, (ci 2)), (2, 1, (ci 0))], some (240, true)⟩,
 ⟨some 243, .bin .eql (.eq ⟨true, [.i, .i, .i]⟩) (.t 241) (.t 242), some (240, true)⟩,
 oo 244 (.pick (.t 240) (.t 243) (.c (.bool false))),
 om 0 244])
 (.ret))))))))))))))))))⟩

/- codend/codendref03.Short -/
def F18 : AFunc := ⟨31, [.tmp 4],
 .seq (.region [oo 2 (.box (.t 0)),
 oo 4 (.mv (.c (.bool false)))])
 (.seq (.region [oo 5 (.fieldAddr 0 (.t 2)),
 oo 6 (.load 1 false (.t 5)),
 oo 7 (.len .str (.t 6)),
 oo 8 (.bin .leq .num (.t 7) (ci 60)),
 om 9 8,
 ⟨some 10, .fieldAddr 1 (.t 2), some (9, true)⟩,
 ⟨some 11, .load 1 false (.t 10), some (9, true)⟩,
 ⟨some 12, .bin .leq .num (.t 11) (ci 8), some (9, true)⟩,
 ⟨some 13, .mv (.t 12), some (9, true)⟩,
 ⟨some 14, .fieldAddr 1 (.t 2), some (13, false)⟩,
 ⟨some 15, .load 1 false (.t 14), some (13, false)⟩,
 ⟨some 16, .bin .gtr .num (.t 15) (ci 128), some (13, false)⟩,
 ⟨some 17, .pick (.t 13) (.c (.bool true)) (.t 16), some (9, true)⟩,
 oo 18 (.pick (.t 9) (.t 17) (.c (.bool false))),
 om 19 18,
 ⟨some 20, .fieldAddr 2 (.t 2), some (19, true)⟩,
 ⟨some 21, .load 1 false (.t 20), some (19, true)⟩,
 ⟨some 22, .mv (.t 1), some (19, true)⟩,
 ⟨some 23, .call 87 [(.t 21), (.t 22)], some (19, true)⟩,
 oo 24 (.pick (.t 19) (.t 23) (.c (.bool false))),
 om 25 24,
 ⟨some 26, .fieldAddr 3 (.t 2), some (25, true)⟩,
 ⟨some 27, .load 1 false (.t 26), some (25, true)⟩,
 ⟨some 28, .mv (.t 1), some (25, true)⟩,
 ⟨some 29, .call 87 [(.t 27), (.t 28)], some (25, true)⟩,
 oo 30 (.pick (.t 25) (.t 29) (.c (.bool false))),
 om 4 30])
 (.ret))⟩

/- codend/panel.Net -/
def F19 : AFunc := ⟨8, [.tmp 2, .tmp 3],
 .seq (.region [oo 1 (.box (.t 0)),
 oo 2 (.mv (.c (.nilsl))),
 oo 3 (.mv (ci 0))])
 (.seq (.region [oo 4 (.load 4 true (.t 1)),
 oo 5 (.call 88 [(.t 4)]),
 oo 6 (.extract 0 (.t 5)),
 oo 7 (.extract 1 (.t 5)),
 om 2 6,
 om 3 7])
 (.ret))⟩

/- codend/codendlaw03.given -/
def F20 : AFunc := ⟨42, [.cell 2 4 true],
 .seq (.region [oo 1 (.box (.t 0)),
 oo 2 (.alloc [.str [], .int .i64 0, .nilsl, .nilsl])])
 (.seq (.region [oo 8 (.fieldAddr 0 (.t 1)),
 oo 9 (.load 1 false (.t 8)),
 oo 10 (.fieldAddr 1 (.t 1)),
 oo 11 (.load 1 false (.t 10)),
 oo 12 (.build [.str [], .int .i64 0, .nilsl, .nilsl] [(0, 1, (.t 9)), (1, 1, (.t 11))]),
 oo 3 (.alloc [.str [], .int .i64 0, .nilsl, .nilsl]),
 ⟨none, .store 4 (.t 3) (.t 12), none⟩])
 (.seq (.seq (.region [oo 13 (.fieldAddr 2 (.t 1)),
 oo 14 (.load 1 false (.t 13)),
 oo 15 (.len .sl (.t 14)),
 oo 16 (.mv (ci 0))])
 (.block 0 (.loop (.seq (.region [oo 17 (.bin .lss .num (.t 16) (.t 15))])
 (.seq (.cond (.t 17)
 (.skip)
 (.exit 0))
 (.seq (.block 1 (.seq (.region [oo 18 (.indexAddr (.sl 3) (.t 14) (.t 16)),
 oo 19 (.load 3 true (.t 18)),
 oo 5 (.alloc [.str [], .int .i64 0, .bool false]),
 ⟨none, .store 3 (.t 5) (.t 19), none⟩])
 (.region [oo 20 (.fieldAddr 2 (.t 3)),
 oo 21 (.load 1 false (.t 20)),
 oo 22 (.load 3 true (.t 5)),
 oo 23 (.buildSl 3 1 [.str [], .int .i64 0, .bool false] [(0, 3, (.t 22))]),
 oo 24 (.append 3 32 none (.t 21) (.t 23)),
 oo 25 (.fieldAddr 2 (.t 3)),
 ⟨none, .store 1 (.t 25) (.t 24), none⟩])))
 (.region [oo 26 (.bin .add .num (.t 16) (ci 1)),
 om 16 26])))))))
 (.seq (.seq (.region [oo 27 (.fieldAddr 3 (.t 1)),
 oo 28 (.load 1 false (.t 27)),
 oo 29 (.len .sl (.t 28)),
 oo 30 (.mv (ci 0))])
 (.block 2 (.loop (.seq (.region [oo 31 (.bin .lss .num (.t 30) (.t 29))])
 (.seq (.cond (.t 31)
 (.skip)
 (.exit 2))
 (.seq (.block 3 (.seq (.region [oo 32 (.indexAddr (.sl 3) (.t 28) (.t 30)),
 oo 33 (.load 3 true (.t 32)),
 oo 7 (.alloc [.str [], .int .i64 0, .bool false]),
 ⟨none, .store 3 (.t 7) (.t 33), none⟩])
 (.region [oo 34 (.fieldAddr 3 (.t 3)),
 oo 35 (.load 1 false (.t 34)),
 oo 36 (.load 3 true (.t 7)),
 oo 37 (.buildSl 3 1 [.str [], .int .i64 0, .bool false] [(0, 3, (.t 36))]),
 oo 38 (.append 3 32 none (.t 35) (.t 37)),
 oo 39 (.fieldAddr 3 (.t 3)),
 ⟨none, .store 1 (.t 39) (.t 38), none⟩])))
 (.region [oo 40 (.bin .add .num (.t 30) (ci 1)),
 om 30 40])))))))
 (.seq (.region [oo 41 (.load 4 true (.t 3)),
 ⟨none, .store 4 (.t 2) (.t 41), none⟩])
 (.ret)))))⟩

/- codend/panel.Rows -/
def F21 : AFunc := ⟨58, [.tmp 2, .tmp 3],
 .seq (.region [oo 1 (.box (.t 0)),
 oo 2 (.mv (.c (.nilsl))),
 oo 3 (.mv (ci 0))])
 (.seq (.region [oo 12 (.load 4 true (.t 1)),
 oo 13 (.call 88 [(.t 12)]),
 om 11 13,
 oo 14 (.extract 0 (.t 11)),
 oo 15 (.extract 1 (.t 11)),
 om 4 14,
 om 5 15])
 (.seq (.seq (.region [om 16 5,
 oo 17 (.bin .neq .num (.t 16) (ci 0))])
 (.cond (.t 17)
 (.seq (.region [om 18 5,
 oo 2 (.mv (.c (.nilsl))),
 om 3 18])
 (.ret))
 (.skip)))
 (.seq (.region [oo 19 (.load 4 true (.t 1)),
 oo 20 (.call 89 [(.t 19)]),
 oo 21 (.bin .add .num (.t 20) (ci 1)),
 oo 22 (.mkSl 2 16 [.int .i64 0, .int .i64 0] (.t 21) (.t 21)),
 oo 6 (.alloc [.nilsl]),
 ⟨none, .store 1 (.t 6) (.t 22), none⟩])
 (.seq (.seq (.region [oo 23 (.load 1 false (.t 6)),
 oo 24 (.len .sl (.t 23)),
 oo 25 (.mv (ci 0))])
 (.block 0 (.loop (.seq (.region [oo 26 (.bin .lss .num (.t 25) (.t 24))])
 (.seq (.cond (.t 26)
 (.skip)
 (.exit 0))
 (.seq (.block 1 (.seq (.region [om 27 25,
 om 7 27])
 (.region [oo 28 (.load 1 false (.t 6)),
 om 29 7,
 oo 30 (.build [.int .i64 0, .int .i64 0] [(0, 1, (ci 4098)), (1, 1, (ci (-4098)))]),
 oo 31 (.indexAddr (.sl 2) (.t 28) (.t 29)),
 ⟨none, .store 2 (.t 31) (.t 30), none⟩])))
 (.region [oo 32 (.bin .add .num (.t 25) (ci 1)),
 om 25 32])))))))
 (.seq (.region [oo 33 (.mkFunc 90 [] [(.t 6)]),
 om 8 33])
 (.seq (.seq (.region [om 34 4,
 oo 35 (.len .sl (.t 34)),
 oo 36 (.mv (ci 0))])
 (.block 2 (.loop (.seq (.region [oo 37 (.bin .lss .num (.t 36) (.t 35))])
 (.seq (.cond (.t 37)
 (.skip)
 (.exit 2))
 (.seq (.block 3 (.seq (.region [oo 38 (.indexAddr (.sl 3) (.t 34) (.t 36)),
 oo 39 (.load 3 true (.t 38)),
 oo 10 (.alloc [.int .i64 0, .int .i64 0, .int .i64 0]),
 ⟨none, .store 3 (.t 10) (.t 39), none⟩])
 (.seq (.region [om 40 8,
 oo 41 (.fieldAddr 1 (.t 10)),
 oo 42 (.load 1 false (.t 41)),
 oo 43 (.fieldAddr 0 (.t 10)),
 oo 44 (.load 1 false (.t 43)),
 oo 45 (.dyn (.t 40) [(.t 42), (.t 44)])])
 (.region [om 46 8,
 oo 47 (.fieldAddr 1 (.t 10)),
 oo 48 (.load 1 false (.t 47)),
 oo 49 (.bin .add .num (.t 48) (ci 1)),
 oo 50 (.fieldAddr 0 (.t 10)),
 oo 51 (.load 1 false (.t 50)),
 oo 52 (.fieldAddr 2 (.t 10)),
 oo 53 (.load 1 false (.t 52)),
 oo 54 (.bin .add .num (.t 51) (.t 53)),
 oo 55 (.dyn (.t 46) [(.t 49), (.t 54)])]))))
 (.region [oo 56 (.bin .add .num (.t 36) (ci 1)),
 om 36 56])))))))
 (.seq (.region [oo 57 (.load 1 false (.t 6)),
 om 2 57,
 oo 3 (.mv (ci 0))])
 (.ret))))))))⟩

/- codend/codendref03.CheckPanel -/
def F22 : AFunc := ⟨72, [.tmp 2],
 .seq (.region [oo 1 (.box (.t 0)),
 oo 2 (.mv (ci 0))])
 (.seq (.seq (.region [oo 9 (.fieldAddr 0 (.t 1)),
 oo 10 (.load 1 false (.t 9)),
 oo 11 (.call 91 [(.t 10)]),
 oo 12 (.un .not (.t 11))])
 (.cond (.t 12)
 (.seq (.region [oo 2 (.mv (ci 8))])
 (.ret))
 (.skip)))
 (.seq (.regionD [oq 13 (.fieldAddr 1 (.t 1)),
 oq 14 (.load 1 false (.t 13)),
 ⟨⟨some 15, .call 38 [(.t 14), (ci 1), (ci 128)], none⟩, true, []⟩,
 oq 16 (.fieldAddr 2 (.t 1)),
 oq 17 (.load 1 false (.t 16)),
 ⟨⟨some 18, .call 93 [(.t 17)], none⟩, true, []⟩,
 oq 19 (.fieldAddr 3 (.t 1)),
 oq 20 (.load 1 false (.t 19)),
 oq 21 (.call 93 [(.t 20)]),
 oq 22 (.buildSl 1 3 [.int .i64 0, .int .i64 0, .int .i64 0] [(0, 1, (.t 15)), (1, 1, (.t 18)), (2, 1, (.t 21))]),
 oq 23 (.call 92 [(.t 22)]),
 qm 3 23])
 (.seq (.seq (.region [om 24 3,
 oo 25 (.bin .neq .num (.t 24) (ci 0))])
 (.cond (.t 25)
 (.seq (.region [om 26 3,
 om 2 26])
 (.ret))
 (.skip)))
 (.seq (.region [oo 27 (.load 4 true (.t 1)),
 oo 28 (.call 42 [(.t 27)]),
 om 4 28])
 (.seq (.seq (.region [om 29 4,
 oo 30 (.fieldAddr 3 (.t 1)),
 oo 31 (.load 1 false (.t 30)),
 oo 32 (.call 95 [(.t 31)]),
 oo 33 (.call 94 [(.t 32)]),
 oo 34 (.bin .neq .num (.t 29) (.t 33))])
 (.cond (.t 34)
 (.seq (.region [oo 2 (.mv (ci 2))])
 (.ret))
 (.skip)))
 (.seq (.seq (.region [om 35 4,
 oo 36 (.bin .eql .num (.t 35) (ci 0))])
 (.cond (.t 36)
 (.seq (.region [oo 2 (.mv (ci 12))])
 (.ret))
 (.skip)))
 (.seq (.seq (.region [om 37 4,
 oo 38 (.bin .gtr .num (.t 37) (ci 256))])
 (.cond (.t 38)
 (.seq (.region [oo 2 (.mv (ci 4))])
 (.ret))
 (.skip)))
 (.seq (.regionD [oq 39 (.load 4 true (.t 1)),
 ⟨⟨some 40, .call 64 [(.t 39), (.c (.bool false))], none⟩, true, []⟩,
 oq 41 (.load 4 true (.t 1)),
 oq 42 (.call 64 [(.t 41), (.c (.bool true))]),
 qm 5 40,
 qm 6 42])
 (.seq (.region [oo 43 (.buildSl 2 0 [] []),
 om 44 5,
 oo 45 (.append 2 16 none (.t 43) (.t 44)),
 om 46 6,
 oo 47 (.append 2 16 none (.t 45) (.t 46)),
 om 7 47])
 (.seq (.seq (.region [oo 8 (.mv (ci 0))])
 (.block 0 (.loop (.seq (.seq (.region [om 48 8,
 om 49 7,
 oo 50 (.len .sl (.t 49)),
 oo 51 (.bin .lss .num (.t 48) (.t 50))])
 (.cond (.t 51)
 (.skip)
 (.exit 0)))
 (.seq (.block 1 (.seq (.region [om 54 7,
 om 55 8,
 oo 56 (.indexAddr (.sl 2) (.t 54) (.t 55)),
 oo 57 (.fieldAddr 0 (.t 56)),
 oo 58 (.load 1 false (.t 57)),
 oo 59 (.bin .lss .num (.t 58) (ci (-4096))),
 om 60 59,
 ⟨some 61, .mv (.t 7), some (60, false)⟩,
 ⟨some 62, .mv (.t 8), some (60, false)⟩,
 ⟨some 63, .indexAddr (.sl 2) (.t 61) (.t 62), some (60, false)⟩,
 ⟨some 64, .fieldAddr 0 (.t 63), some (60, false)⟩,
 ⟨some 65, .load 1 false (.t 64), some (60, false)⟩,
 ⟨some 66, .bin .gtr .num (.t 65) (ci 4096), some (60, false)⟩,
 oo 67 (.pick (.t 60) (.c (.bool true)) (.t 66))])
 (.cond (.t 67)
 (.seq (.region [oo 2 (.mv (ci 4))])
 (.ret))
 (.skip))))
 (.region [om 52 8,
 oo 53 (.bin .add .num (.t 52) (ci 1)),
 om 8 53]))))))
 (.seq (.seq (.region [om 68 5,
 om 69 6,
 om 70 4,
 oo 71 (.call 96 [(.t 68), (.t 69), (.t 70)])])
 (.cond (.t 71)
 (.seq (.region [oo 2 (.mv (ci 16))])
 (.ret))
 (.skip)))
 (.seq (.region [oo 2 (.mv (ci 0))])
 (.ret)))))))))))))⟩

/- codend/codendref03.SameRows -/
def F25 : AFunc := ⟨26, [.tmp 4],
 .seq (.region [oo 4 (.mv (.c (.bool false)))])
 (.seq (.seq (.region [om 6 0,
 oo 7 (.len .sl (.t 6)),
 om 8 1,
 oo 9 (.len .sl (.t 8)),
 oo 10 (.bin .neq .num (.t 7) (.t 9))])
 (.cond (.t 10)
 (.seq (.region [oo 4 (.mv (.c (.bool false)))])
 (.ret))
 (.skip)))
 (.seq (.seq (.region [oo 5 (.mv (ci 0))])
 (.block 0 (.loop (.seq (.seq (.region [om 11 5,
 om 12 0,
 oo 13 (.len .sl (.t 12)),
 oo 14 (.bin .lss .num (.t 11) (.t 13))])
 (.cond (.t 14)
 (.skip)
 (.exit 0)))
 (.seq (.block 1 (.seq (.regionD [qm 17 0,
 qm 18 5,
 oq 19 (.indexAddr (.sl 2) (.t 17) (.t 18)),
 oq 20 (.load 2 true (.t 19)),
 qm 21 1,
 qm 22 5,
 oq 23 (.indexAddr (.sl 2) (.t 21) (.t 22)),
 oq 24 (.load 2 true (.t 23)),
 ⟨⟨some 25, .bin .neq (.eq ⟨true, [.i, .i]⟩) (.t 20) (.t 24), none⟩, false, []⟩])
 (.cond (.t 25)
 (.seq (.region [oo 4 (.mv (.c (.bool false)))])
 (.ret))
 (.skip))))
 (.region [om 15 5,
 oo 16 (.bin .add .num (.t 15) (ci 1)),
 om 5 16]))))))
 (.seq (.region [oo 4 (.mv (.c (.bool true)))])
 (.ret))))⟩

/- codend/panel.Around -/
def F27 : AFunc := ⟨13, [.cell 2 4 true, .tmp 3],
 .seq (.region [oo 1 (.box (.t 0)),
 oo 2 (.alloc [.int .i64 0, .int .i64 0, .int .i64 0, .int .i64 0]),
 oo 3 (.mv (ci 0))])
 (.seq (.seq (.region [oo 5 (.load 4 true (.t 1)),
 oo 6 (.call 58 [(.t 5)]),
 om 4 6])
 (.seq (.region [om 7 4,
 oo 8 (.bin .neq .num (.t 7) (ci 0))])
 (.cond (.t 8)
 (.seq (.region [oo 9 (.build [.int .i64 0, .int .i64 0, .int .i64 0, .int .i64 0] []),
 om 10 4,
 ⟨none, .store 4 (.t 2) (.t 9), none⟩,
 om 3 10])
 (.ret))
 (.skip))))
 (.seq (.region [oo 11 (.load 4 true (.t 1)),
 oo 12 (.call 99 [(.t 11)]),
 ⟨none, .store 4 (.t 2) (.t 12), none⟩,
 oo 3 (.mv (ci 0))])
 (.ret)))⟩

/- codend/panel.Rest -/
def F28 : AFunc := ⟨48, [.tmp 2, .tmp 3],
 .seq (.region [oo 1 (.box (.t 0)),
 oo 2 (.mv (.c (.nilsl))),
 oo 3 (.mv (ci 0))])
 (.seq (.region [oo 9 (.load 4 true (.t 1)),
 oo 10 (.call 88 [(.t 9)]),
 om 8 10,
 oo 11 (.extract 0 (.t 8)),
 oo 12 (.extract 1 (.t 8)),
 om 4 11,
 om 5 12])
 (.seq (.seq (.region [om 13 5,
 oo 14 (.bin .neq .num (.t 13) (ci 0))])
 (.cond (.t 14)
 (.seq (.region [om 15 5,
 oo 2 (.mv (.c (.nilsl))),
 om 3 15])
 (.ret))
 (.skip)))
 (.seq (.region [oo 16 (.load 4 true (.t 1)),
 oo 17 (.call 99 [(.t 16)]),
 oo 6 (.alloc [.int .i64 0, .int .i64 0, .int .i64 0, .int .i64 0]),
 ⟨none, .store 4 (.t 6) (.t 17), none⟩])
 (.seq (.seq (.region [oo 18 (.fieldAddr 2 (.t 6)),
 oo 19 (.load 1 false (.t 18)),
 oo 20 (.bin .gtr .num (.t 19) (ci 256)),
 om 21 20,
 ⟨some 22, .fieldAddr 2 (.t 6), some (21, false)⟩,
 ⟨some 23, .load 1 false (.t 22), some (21, false)⟩,
 ⟨some 24, .bin .mul .num (ci 2) (.t 23), some (21, false)⟩,
 ⟨some 25, .fieldAddr 3 (.t 6), some (21, false)⟩,
 ⟨some 26, .load 1 false (.t 25), some (21, false)⟩,
 ⟨some 27, .bin .mul .num (.t 24) (.t 26), some (21, false)⟩,
 ⟨some 28, .bin .gtr .num (.t 27) (ci 4096), some (21, false)⟩,
 oo 29 (.pick (.t 21) (.c (.bool true)) (.t 28))])
 (.cond (.t 29)
 (.seq (.region [oo 2 (.mv (.c (.nilsl))),
 oo 3 (.mv (ci 5))])
 (.ret))
 (.skip)))
 (.seq (.region [oo 31 (.fieldAddr 0 (.t 6)),
 oo 32 (.load 2 true (.t 31)),
 oo 33 (.fieldAddr 2 (.t 6)),
 oo 34 (.load 1 false (.t 33)),
 oo 35 (.fieldAddr 3 (.t 6)),
 oo 36 (.load 1 false (.t 35)),
 oo 37 (.call 100 [(.t 32), (.t 34), (.t 36)]),
 om 30 37,
 oo 38 (.extract 0 (.t 30)),
 oo 39 (.extract 1 (.t 30)),
 om 7 38,
 om 5 39])
 (.seq (.seq (.region [om 40 5,
 oo 41 (.bin .neq .num (.t 40) (ci 0))])
 (.cond (.t 41)
 (.seq (.region [om 42 5,
 oo 2 (.mv (.c (.nilsl))),
 om 3 42])
 (.ret))
 (.skip)))
 (.seq (.region [om 43 7,
 om 44 4,
 oo 45 (.call 101 [(.t 43), (.t 44)]),
 oo 46 (.extract 0 (.t 45)),
 oo 47 (.extract 1 (.t 45)),
 om 2 46,
 om 3 47])
 (.ret))))))))⟩

/- codend/panel.Area -/
def F31 : AFunc := ⟨39, [.tmp 2, .tmp 3],
 .seq (.region [oo 1 (.box (.t 0)),
 oo 2 (.mv (ci 0)),
 oo 3 (.mv (ci 0))])
 (.seq (.seq (.region [oo 8 (.load 4 true (.t 1)),
 oo 9 (.call 58 [(.t 8)]),
 om 4 9])
 (.seq (.region [om 10 4,
 oo 11 (.bin .neq .num (.t 10) (ci 0))])
 (.cond (.t 11)
 (.seq (.region [om 12 4,
 oo 2 (.mv (ci 0)),
 om 3 12])
 (.ret))
 (.skip))))
 (.seq (.region [oo 5 (.mv (ci 0))])
 (.seq (.seq (.region [oo 13 (.load 4 true (.t 1)),
 oo 14 (.call 104 [(.t 13)]),
 oo 15 (.len .sl (.t 14)),
 oo 16 (.mv (ci 0))])
 (.block 0 (.loop (.seq (.region [oo 17 (.bin .lss .num (.t 16) (.t 15))])
 (.seq (.cond (.t 17)
 (.skip)
 (.exit 0))
 (.seq (.block 1 (.seq (.region [oo 18 (.indexAddr (.sl 4) (.t 14) (.t 16)),
 oo 19 (.load 4 true (.t 18)),
 oo 7 (.alloc [.int .i64 0, .int .i64 0, .int .i64 0, .int .i64 0]),
 ⟨none, .store 4 (.t 7) (.t 19), none⟩])
 (.region [om 20 5,
 oo 21 (.fieldAddr 0 (.t 7)),
 oo 22 (.indexAddr (.arr 2 1) (.t 21) (ci 1)),
 oo 23 (.load 1 false (.t 22)),
 oo 24 (.fieldAddr 0 (.t 7)),
 oo 25 (.indexAddr (.arr 2 1) (.t 24) (ci 0)),
 oo 26 (.load 1 false (.t 25)),
 oo 27 (.bin .sub .num (.t 23) (.t 26)),
 oo 28 (.fieldAddr 2 (.t 7)),
 oo 29 (.indexAddr (.arr 2 1) (.t 28) (ci 1)),
 oo 30 (.load 1 false (.t 29)),
 oo 31 (.bin .add .num (.t 27) (.t 30)),
 oo 32 (.fieldAddr 2 (.t 7)),
 oo 33 (.indexAddr (.arr 2 1) (.t 32) (ci 0)),
 oo 34 (.load 1 false (.t 33)),
 oo 35 (.bin .sub .num (.t 31) (.t 34)),
 oo 36 (.bin .add .num (.t 20) (.t 35)),
 om 5 36])))
 (.region [oo 37 (.bin .add .num (.t 16) (ci 1)),
 om 16 37])))))))
 (.seq (.region [om 38 5,
 om 2 38,
 oo 3 (.mv (ci 0))])
 (.ret)))))⟩

/- codend/codendlaw03.first -/
def F34 : AFunc := ⟨5, [.tmp 2],
 .seq (.region [oo 2 (.mv (ci 0))])
 (.seq (.region [om 3 0,
 oo 4 (.call 92 [(.t 3)]),
 om 2 4])
 (.ret))⟩

/- codend/codendlaw03.when -/
def F35 : AFunc := ⟨7, [.tmp 4],
 .seq (.region [oo 4 (.mv (ci 0))])
 (.seq (.seq (.region [om 5 0])
 (.cond (.t 5)
 (.seq (.region [om 6 1,
 om 4 6])
 (.ret))
 (.skip)))
 (.seq (.region [oo 4 (.mv (ci 0))])
 (.ret)))⟩

/- codend/panel.Stack -/
def F36 : AFunc := ⟨50, [.cell 4 4 true, .tmp 5],
 .seq (.region [oo 2 (.box (.t 0)),
 oo 3 (.box (.t 1)),
 oo 4 (.alloc [.str [], .int .i64 0, .nilsl, .nilsl]),
 oo 5 (.mv (ci 0))])
 (.seq (.seq (.regionD [oq 8 (.load 4 true (.t 2)),
 ⟨⟨some 9, .call 58 [(.t 8)], none⟩, true, []⟩,
 oq 10 (.load 4 true (.t 3)),
 oq 11 (.call 58 [(.t 10)]),
 oq 12 (.buildSl 1 2 [.int .i64 0, .int .i64 0] [(0, 1, (.t 9)), (1, 1, (.t 11))]),
 oq 13 (.call 105 [(.t 12)]),
 qm 6 13])
 (.seq (.region [om 14 6,
 oo 15 (.bin .neq .num (.t 14) (ci 0))])
 (.cond (.t 15)
 (.seq (.region [oo 16 (.build [.str [], .int .i64 0, .nilsl, .nilsl] []),
 om 17 6,
 ⟨none, .store 4 (.t 4) (.t 16), none⟩,
 om 5 17])
 (.ret))
 (.skip))))
 (.seq (.region [oo 18 (.load 4 true (.t 2)),
 oo 19 (.call 106 [(.t 18)]),
 oo 7 (.alloc [.int .i64 0, .int .i64 0, .int .i64 0, .int .i64 0, .int .i64 0, .int .i64 0, .int .i64 0, .int .i64 0]),
 ⟨none, .store 8 (.t 7) (.t 19), none⟩])
 (.seq (.seq (.region [oo 20 (.indexAddr (.arr 4 2) (.t 7) (ci 3)),
 oo 21 (.fieldAddr 0 (.t 20)),
 oo 22 (.load 1 false (.t 21)),
 oo 23 (.indexAddr (.arr 4 2) (.t 7) (ci 2)),
 oo 24 (.fieldAddr 0 (.t 23)),
 oo 25 (.load 1 false (.t 24)),
 oo 26 (.bin .sub .num (.t 22) (.t 25)),
 oo 27 (.fieldAddr 1 (.t 3)),
 oo 28 (.load 1 false (.t 27)),
 oo 29 (.bin .mul .num (ci 2) (.t 28)),
 oo 30 (.bin .neq .num (.t 26) (.t 29))])
 (.cond (.t 30)
 (.seq (.region [oo 31 (.build [.str [], .int .i64 0, .nilsl, .nilsl] []),
 ⟨none, .store 4 (.t 4) (.t 31), none⟩,
 oo 5 (.mv (ci 24))])
 (.ret))
 (.skip)))
 (.seq (.regionD [oq 32 (.fieldAddr 0 (.t 2)),
 oq 33 (.load 1 false (.t 32)),
 oq 34 (.fieldAddr 1 (.t 2)),
 oq 35 (.load 1 false (.t 34)),
 oq 36 (.fieldAddr 2 (.t 2)),
 oq 37 (.load 1 false (.t 36)),
 oq 38 (.fieldAddr 2 (.t 3)),
 oq 39 (.load 1 false (.t 38)),
 ⟨⟨some 40, .call 108 [(.t 37), (.t 39)], none⟩, true, []⟩,
 oq 41 (.fieldAddr 3 (.t 2)),
 oq 42 (.load 1 false (.t 41)),
 oq 43 (.fieldAddr 3 (.t 3)),
 oq 44 (.load 1 false (.t 43)),
 ⟨⟨some 45, .call 108 [(.t 42), (.t 44)], none⟩, true, []⟩,
 oq 46 (.build [.str [], .int .i64 0, .nilsl, .nilsl] [(0, 1, (.t 33)), (1, 1, (.t 35)), (2, 1, (.t 40)), (3, 1, (.t 45))]),
 oq 47 (.call 107 [(.t 46)]),
 oq 48 (.extract 0 (.t 47)),
 oq 49 (.extract 1 (.t 47)),
 ⟨⟨none, .store 4 (.t 4) (.t 48), none⟩, false, []⟩,
 qm 5 49])
 (.ret)))))⟩

/- codend/panel.Widen -/
def F37 : AFunc := ⟨33, [.cell 4 4 true, .tmp 5],
 .seq (.region [oo 2 (.box (.t 0)),
 oo 4 (.alloc [.str [], .int .i64 0, .nilsl, .nilsl]),
 oo 5 (.mv (ci 0))])
 (.seq (.seq (.region [oo 7 (.load 4 true (.t 2)),
 oo 8 (.call 58 [(.t 7)]),
 om 9 1,
 oo 10 (.call 109 [(.t 9), (ci (-128)), (ci 128)]),
 oo 11 (.buildSl 1 2 [.int .i64 0, .int .i64 0] [(0, 1, (.t 8)), (1, 1, (.t 10))]),
 oo 12 (.call 105 [(.t 11)]),
 om 6 12])
 (.seq (.region [om 13 6,
 oo 14 (.bin .neq .num (.t 13) (ci 0))])
 (.cond (.t 14)
 (.seq (.region [oo 15 (.build [.str [], .int .i64 0, .nilsl, .nilsl] []),
 om 16 6,
 ⟨none, .store 4 (.t 4) (.t 15), none⟩,
 om 5 16])
 (.ret))
 (.skip))))
 (.seq (.regionD [oq 17 (.fieldAddr 0 (.t 2)),
 oq 18 (.load 1 false (.t 17)),
 oq 19 (.fieldAddr 1 (.t 2)),
 oq 20 (.load 1 false (.t 19)),
 qm 21 1,
 oq 22 (.bin .add .num (.t 20) (.t 21)),
 oq 23 (.fieldAddr 2 (.t 2)),
 oq 24 (.load 1 false (.t 23)),
 ⟨⟨some 25, .call 110 [(.t 24)], none⟩, true, []⟩,
 oq 26 (.fieldAddr 3 (.t 2)),
 oq 27 (.load 1 false (.t 26)),
 ⟨⟨some 28, .call 110 [(.t 27)], none⟩, true, []⟩,
 oq 29 (.build [.str [], .int .i64 0, .nilsl, .nilsl] [(0, 1, (.t 18)), (1, 1, (.t 22)), (2, 1, (.t 25)), (3, 1, (.t 28))]),
 oq 30 (.call 107 [(.t 29)]),
 oq 31 (.extract 0 (.t 30)),
 oq 32 (.extract 1 (.t 30)),
 ⟨⟨none, .store 4 (.t 4) (.t 31), none⟩, false, []⟩,
 qm 5 32])
 (.ret)))⟩

/- codend/codendref01.CheckRange -/
def F38 : AFunc := ⟨15, [.tmp 6],
 .seq (.region [oo 6 (.mv (ci 0))])
 (.seq (.seq (.region [om 7 0,
 om 8 1,
 oo 9 (.bin .lss .num (.t 7) (.t 8)),
 om 10 9,
 ⟨some 11, .mv (.t 0), some (10, false)⟩,
 ⟨some 12, .mv (.t 2), some (10, false)⟩,
 ⟨some 13, .bin .gtr .num (.t 11) (.t 12), some (10, false)⟩,
 oo 14 (.pick (.t 10) (.c (.bool true)) (.t 13))])
 (.cond (.t 14)
 (.seq (.region [oo 6 (.mv (ci 3))])
 (.ret))
 (.skip)))
 (.seq (.region [oo 6 (.mv (ci 0))])
 (.ret)))⟩

/- codend/codendref03.Stack -/
def F39 : AFunc := ⟨43, [.cell 4 4 true, .tmp 5],
 .seq (.region [oo 2 (.box (.t 0)),
 oo 3 (.box (.t 1)),
 oo 4 (.alloc [.str [], .int .i64 0, .nilsl, .nilsl]),
 oo 5 (.mv (.c (.bool false)))])
 (.seq (.region [oo 9 (.load 4 true (.t 2)),
 oo 10 (.call 65 [(.t 9)]),
 oo 6 (.alloc [.int .i64 0, .int .i64 0, .int .i64 0, .int .i64 0, .int .i64 0, .int .i64 0, .int .i64 0, .int .i64 0]),
 ⟨none, .store 8 (.t 6) (.t 10), none⟩])
 (.seq (.regionD [oq 11 (.buildSl 3 0 [] []),
 oq 12 (.fieldAddr 2 (.t 2)),
 oq 13 (.load 1 false (.t 12)),
 oq 14 (.append 3 32 none (.t 11) (.t 13)),
 oq 15 (.fieldAddr 2 (.t 3)),
 ⟨⟨some 16, .load 1 false (.t 15), none⟩, false, [(.t 11)]⟩,
 oq 17 (.append 3 32 none (.t 14) (.t 16)),
 qm 7 17])
 (.seq (.regionD [oq 18 (.buildSl 3 0 [] []),
 oq 19 (.fieldAddr 3 (.t 2)),
 oq 20 (.load 1 false (.t 19)),
 oq 21 (.append 3 32 none (.t 18) (.t 20)),
 oq 22 (.fieldAddr 3 (.t 3)),
 ⟨⟨some 23, .load 1 false (.t 22), none⟩, false, [(.t 18)]⟩,
 oq 24 (.append 3 32 none (.t 21) (.t 23)),
 qm 8 24])
 (.seq (.regionD [oq 25 (.fieldAddr 0 (.t 2)),
 oq 26 (.load 1 false (.t 25)),
 oq 27 (.fieldAddr 1 (.t 2)),
 oq 28 (.load 1 false (.t 27)),
 qm 29 7,
 qm 30 8,
 oq 31 (.build [.str [], .int .i64 0, .nilsl, .nilsl] [(0, 1, (.t 26)), (1, 1, (.t 28)), (2, 1, (.t 29)), (3, 1, (.t 30))]),
 oq 32 (.indexAddr (.arr 4 2) (.t 6) (ci 3)),
 oq 33 (.fieldAddr 0 (.t 32)),
 oq 34 (.load 1 false (.t 33)),
 oq 35 (.indexAddr (.arr 4 2) (.t 6) (ci 2)),
 oq 36 (.fieldAddr 0 (.t 35)),
 oq 37 (.load 1 false (.t 36)),
 oq 38 (.bin .sub .num (.t 34) (.t 37)),
 oq 39 (.fieldAddr 1 (.t 3)),
 oq 40 (.load 1 false (.t 39)),
 oq 41 (.bin .mul .num (ci 2) (.t 40)),
 oq 42 (.bin .eql .num (.t 38) (.t 41)),
 ⟨⟨none, .store 4 (.t 4) (.t 31), none⟩, false, [(.t 33), (.t 36), (.t 39)]⟩,
 qm 5 42])
 (.ret)))))⟩

/- codend/codendlaw03.piece -/
def F40 : AFunc := ⟨32, [.tmp 8],
 .seq (.region [oo 4 (.box (.t 0)),
 oo 7 (.box (.t 3)),
 oo 8 (.mv (.c (.bool false)))])
 (.seq (.seq (.region [om 9 2,
 oo 10 (.bin .eql .num (.t 9) (ci 0))])
 (.cond (.t 10)
 (.region [oo 11 (.load 4 true (.t 7)),
 oo 12 (.call 22 [(.t 11)]),
 om 2 12])
 (.skip)))
 (.seq (.seq (.region [om 13 2,
 oo 14 (.bin .neq .num (.t 13) (ci 0))])
 (.cond (.t 14)
 (.seq (.region [oo 15 (.load 4 true (.t 4)),
 oo 16 (.call 45 [(.t 15)]),
 oo 17 (.build [.str [], .int .i64 0, .nilsl, .nilsl] []),
 oo 18 (.call 44 [(.t 16), (.t 17)]),
 om 19 18,
 ⟨some 20, .mv (.t 1), some (19, true)⟩,
 ⟨some 21, .mv (.t 2), some (19, true)⟩,
 ⟨some 22, .bin .eql .num (.t 20) (.t 21), some (19, true)⟩,
 oo 23 (.pick (.t 19) (.t 22) (.c (.bool false))),
 om 8 23])
 (.ret))
 (.skip)))
 (.seq (.regionD [qm 24 1,
 oq 25 (.bin .eql .num (.t 24) (ci 0)),
 qm 26 25,
 ⟨⟨some 27, .load 4 true (.t 4), some (26, true)⟩, false, []⟩,
 ⟨⟨some 28, .call 45 [(.t 27)], some (26, true)⟩, true, []⟩,
 ⟨⟨some 29, .load 4 true (.t 7), some (26, true)⟩, false, []⟩,
 ⟨⟨some 30, .call 44 [(.t 28), (.t 29)], some (26, true)⟩, false, []⟩,
 oq 31 (.pick (.t 26) (.t 30) (.c (.bool false))),
 qm 8 31])
 (.ret))))⟩

/- codend/panel.Cut -/
def F41 : AFunc := ⟨112, [.cell 4 8 true, .tmp 5],
 .seq (.region [oo 2 (.box (.t 0)),
 oo 4 (.alloc [.str [], .int .i64 0, .nilsl, .nilsl, .str [], .int .i64 0, .nilsl, .nilsl]),
 oo 5 (.mv (ci 0))])
 (.seq (.seq (.region [oo 17 (.load 4 true (.t 2)),
 oo 18 (.call 58 [(.t 17)]),
 om 6 18])
 (.seq (.region [om 19 6,
 oo 20 (.bin .neq .num (.t 19) (ci 0))])
 (.cond (.t 20)
 (.seq (.region [oo 21 (.build [.str [], .int .i64 0, .nilsl, .nilsl, .str [], .int .i64 0, .nilsl, .nilsl] []),
 om 22 6,
 ⟨none, .store 8 (.t 4) (.t 21), none⟩,
 om 5 22])
 (.ret))
 (.skip))))
 (.seq (.seq (.region [om 23 1,
 oo 24 (.load 4 true (.t 2)),
 oo 25 (.call 89 [(.t 24)]),
 oo 26 (.bin .sub .num (.t 25) (ci 1)),
 oo 27 (.call 109 [(.t 23), (ci 1), (.t 26)]),
 om 7 27])
 (.seq (.region [om 28 7,
 oo 29 (.bin .neq .num (.t 28) (ci 0))])
 (.cond (.t 29)
 (.seq (.region [oo 30 (.build [.str [], .int .i64 0, .nilsl, .nilsl, .str [], .int .i64 0, .nilsl, .nilsl] []),
 om 31 7,
 ⟨none, .store 8 (.t 4) (.t 30), none⟩,
 om 5 31])
 (.ret))
 (.skip))))
 (.seq (.regionD [oq 32 (.load 4 true (.t 2)),
 ⟨⟨some 33, .call 111 [(.t 32), (.c (.bool false))], none⟩, true, []⟩,
 oq 34 (.load 4 true (.t 2)),
 oq 35 (.call 111 [(.t 34), (.c (.bool true))]),
 qm 8 33,
 qm 9 35])
 (.seq (.region [om 36 8,
 om 37 1,
 oo 38 (.call 112 [(.t 36), (.t 37)]),
 om 39 9,
 om 40 1,
 oo 41 (.call 112 [(.t 39), (.t 40)]),
 om 10 38,
 om 11 41])
 (.seq (.seq (.region [om 42 10,
 oo 43 (.bin .lss .num (.t 42) (ci 0)),
 om 44 43,
 ⟨some 45, .mv (.t 11), some (44, false)⟩,
 ⟨some 46, .bin .lss .num (.t 45) (ci 0), some (44, false)⟩,
 oo 47 (.pick (.t 44) (.c (.bool true)) (.t 46))])
 (.cond (.t 47)
 (.seq (.region [oo 48 (.build [.str [], .int .i64 0, .nilsl, .nilsl, .str [], .int .i64 0, .nilsl, .nilsl] []),
 ⟨none, .store 8 (.t 4) (.t 48), none⟩,
 oo 5 (.mv (ci 18))])
 (.ret))
 (.skip)))
 (.seq (.regionD [oq 49 (.fieldAddr 2 (.t 2)),
 oq 50 (.load 1 false (.t 49)),
 ⟨⟨some 51, .call 114 [(.t 50)], none⟩, true, []⟩,
 ⟨⟨some 52, .call 113 [(.t 51)], none⟩, true, []⟩,
 oq 53 (.fieldAddr 3 (.t 2)),
 oq 54 (.load 1 false (.t 53)),
 oq 55 (.call 114 [(.t 54)]),
 oq 56 (.call 113 [(.t 55)]),
 qm 12 52,
 qm 13 56])
 (.seq (.regionD [oq 58 (.fieldAddr 0 (.t 2)),
 oq 59 (.load 1 false (.t 58)),
 oq 60 (.fieldAddr 1 (.t 2)),
 oq 61 (.load 1 false (.t 60)),
 qm 62 12,
 qm 63 10,
 oq 64 (.slice (.sl 2) (.t 62) none (some (.t 63)) none),
 ⟨⟨some 65, .call 115 [(.t 64)], none⟩, true, []⟩,
 qm 66 13,
 qm 67 11,
 oq 68 (.slice (.sl 2) (.t 66) none (some (.t 67)) none),
 ⟨⟨some 69, .call 115 [(.t 68)], none⟩, true, []⟩,
 oq 70 (.build [.str [], .int .i64 0, .nilsl, .nilsl] [(0, 1, (.t 59)), (1, 1, (.t 61)), (2, 1, (.t 65)), (3, 1, (.t 69))]),
 oq 71 (.call 107 [(.t 70)]),
 qm 57 71,
 oq 72 (.extract 0 (.t 57)),
 oq 73 (.extract 1 (.t 57)),
 oq 14 (.alloc [.str [], .int .i64 0, .nilsl, .nilsl]),
 ⟨⟨none, .store 4 (.t 14) (.t 72), none⟩, false, []⟩,
 qm 15 73])
 (.seq (.seq (.region [om 74 15,
 oo 75 (.bin .neq .num (.t 74) (ci 0))])
 (.cond (.t 75)
 (.seq (.region [oo 76 (.build [.str [], .int .i64 0, .nilsl, .nilsl, .str [], .int .i64 0, .nilsl, .nilsl] []),
 om 77 15,
 ⟨none, .store 8 (.t 4) (.t 76), none⟩,
 om 5 77])
 (.ret))
 (.skip)))
 (.seq (.regionD [oq 79 (.fieldAddr 0 (.t 2)),
 oq 80 (.load 1 false (.t 79)),
 qm 81 9,
 qm 82 11,
 oq 83 (.indexAddr (.sl 2) (.t 81) (.t 82)),
 oq 84 (.fieldAddr 0 (.t 83)),
 oq 85 (.load 1 false (.t 84)),
 qm 86 8,
 qm 87 10,
 oq 88 (.indexAddr (.sl 2) (.t 86) (.t 87)),
 oq 89 (.fieldAddr 0 (.t 88)),
 oq 90 (.load 1 false (.t 89)),
 oq 91 (.bin .sub .num (.t 85) (.t 90)),
 oq 92 (.bin .quo .num (.t 91) (ci 2)),
 qm 93 12,
 qm 94 10,
 oq 95 (.slice (.sl 2) (.t 93) (some (.t 94)) none none),
 ⟨⟨some 96, .call 115 [(.t 95)], none⟩, true, []⟩,
 qm 97 13,
 qm 98 11,
 oq 99 (.slice (.sl 2) (.t 97) (some (.t 98)) none none),
 ⟨⟨some 100, .call 115 [(.t 99)], none⟩, true, []⟩,
 oq 101 (.build [.str [], .int .i64 0, .nilsl, .nilsl] [(0, 1, (.t 80)), (1, 1, (.t 92)), (2, 1, (.t 96)), (3, 1, (.t 100))]),
 oq 102 (.call 107 [(.t 101)]),
 qm 78 102,
 oq 103 (.extract 0 (.t 78)),
 oq 104 (.extract 1 (.t 78)),
 oq 16 (.alloc [.str [], .int .i64 0, .nilsl, .nilsl]),
 ⟨⟨none, .store 4 (.t 16) (.t 103), none⟩, false, []⟩,
 qm 15 104])
 (.seq (.seq (.region [om 105 15,
 oo 106 (.bin .neq .num (.t 105) (ci 0))])
 (.cond (.t 106)
 (.seq (.region [oo 107 (.build [.str [], .int .i64 0, .nilsl, .nilsl, .str [], .int .i64 0, .nilsl, .nilsl] []),
 om 108 15,
 ⟨none, .store 8 (.t 4) (.t 107), none⟩,
 om 5 108])
 (.ret))
 (.skip)))
 (.seq (.region [oo 109 (.load 4 true (.t 14)),
 oo 110 (.load 4 true (.t 16)),
 oo 111 (.build [.str [], .int .i64 0, .nilsl, .nilsl, .str [], .int .i64 0, .nilsl, .nilsl] [(0, 4, (.t 109)), (4, 4, (.t 110))]),
 ⟨none, .store 8 (.t 4) (.t 111), none⟩,
 oo 5 (.mv (ci 0))])
 (.ret))))))))))))⟩

/- codend/codendref03.Height -/
def F42 : AFunc := ⟨7, [.tmp 2],
 .seq (.region [oo 1 (.box (.t 0)),
 oo 2 (.mv (ci 0))])
 (.seq (.region [oo 3 (.fieldAddr 2 (.t 1)),
 oo 4 (.load 1 false (.t 3)),
 oo 5 (.call 95 [(.t 4)]),
 oo 6 (.call 94 [(.t 5)]),
 om 2 6])
 (.ret))⟩

/- codend/codendref03.SamePanel -/
def F44 : AFunc := ⟨31, [.tmp 4],
 .seq (.region [oo 2 (.box (.t 0)),
 oo 3 (.box (.t 1)),
 oo 4 (.mv (.c (.bool false)))])
 (.seq (.region [oo 5 (.fieldAddr 0 (.t 2)),
 oo 6 (.load 1 false (.t 5)),
 oo 7 (.fieldAddr 0 (.t 3)),
 oo 8 (.load 1 false (.t 7)),
 oo 9 (.bin .eql .strs (.t 6) (.t 8)),
 om 10 9,
 ⟨some 11, .fieldAddr 1 (.t 2), some (10, true)⟩,
 ⟨some 12, .load 1 false (.t 11), some (10, true)⟩,
 ⟨some 13, .fieldAddr 1 (.t 3), some (10, true)⟩,
 ⟨some 14, .load 1 false (.t 13), some (10, true)⟩,
 ⟨some 15, .bin .eql .num (.t 12) (.t 14), some (10, true)⟩,
 oo 16 (.pick (.t 10) (.t 15) (.c (.bool false))),
 om 17 16,
 ⟨some 18, .fieldAddr 2 (.t 2), some (17, true)⟩,
 ⟨some 19, .load 1 false (.t 18), some (17, true)⟩,
 ⟨some 20, .fieldAddr 2 (.t 3), some (17, true)⟩,
 ⟨some 21, .load 1 false (.t 20), some (17, true)⟩,
 ⟨some 22, .call 118 [(.t 19), (.t 21)], some (17, true)⟩,
 oo 23 (.pick (.t 17) (.t 22) (.c (.bool false))),
 om 24 23,
 ⟨some 25, .fieldAddr 3 (.t 2), some (24, true)⟩,
 ⟨some 26, .load 1 false (.t 25), some (24, true)⟩,
 ⟨some 27, .fieldAddr 3 (.t 3), some (24, true)⟩,
 ⟨some 28, .load 1 false (.t 27), some (24, true)⟩,
 ⟨some 29, .call 118 [(.t 26), (.t 28)], some (24, true)⟩,
 oo 30 (.pick (.t 24) (.t 29) (.c (.bool false))),
 om 4 30])
 (.ret))⟩

/- codend/codendlaw03.own -/
def F45 : AFunc := ⟨14, [.cell 2 4 true],
 .seq (.region [oo 1 (.box (.t 0)),
 oo 2 (.alloc [.str [], .int .i64 0, .nilsl, .nilsl])])
 (.seq (.regionD [oq 3 (.fieldAddr 0 (.t 1)),
 oq 4 (.load 1 false (.t 3)),
 oq 5 (.fieldAddr 1 (.t 1)),
 oq 6 (.load 1 false (.t 5)),
 oq 7 (.fieldAddr 2 (.t 1)),
 oq 8 (.load 1 false (.t 7)),
 ⟨⟨some 9, .call 119 [(.t 8)], none⟩, true, []⟩,
 oq 10 (.fieldAddr 3 (.t 1)),
 oq 11 (.load 1 false (.t 10)),
 ⟨⟨some 12, .call 119 [(.t 11)], none⟩, true, []⟩,
 oq 13 (.build [.str [], .int .i64 0, .nilsl, .nilsl] [(0, 1, (.t 4)), (1, 1, (.t 6)), (2, 1, (.t 9)), (3, 1, (.t 12))]),
 ⟨⟨none, .store 4 (.t 2) (.t 13), none⟩, false, []⟩])
 (.ret))⟩

/- codend/panel.Print -/
def F47 : AFunc := ⟨60, [.tmp 2, .tmp 3],
 .seq (.region [oo 2 (.mv (.c (.str []))),
 oo 3 (.mv (ci 0))])
 (.seq (.seq (.region [om 12 0,
 oo 13 (.call 120 [(.t 12)]),
 om 4 13])
 (.seq (.region [om 14 4,
 oo 15 (.bin .neq .num (.t 14) (ci 0))])
 (.cond (.t 15)
 (.seq (.region [om 16 4,
 oo 2 (.mv (.c (.str []))),
 om 3 16])
 (.ret))
 (.skip))))
 (.seq (.region [oo 5 (.allocT 180 [.nilptr, .nilsl])])
 (.seq (.seq (.region [om 17 0,
 oo 18 (.len .sl (.t 17)),
 oo 19 (.mv (ci 0))])
 (.block 0 (.loop (.seq (.region [oo 20 (.bin .lss .num (.t 19) (.t 18))])
 (.seq (.cond (.t 20)
 (.skip)
 (.exit 0))
 (.seq (.block 1 (.seq (.region [oo 21 (.indexAddr (.sl 4) (.t 17) (.t 19)),
 oo 22 (.load 4 true (.t 21)),
 oo 7 (.alloc [.str [], .int .i64 0, .nilsl, .nilsl]),
 ⟨none, .store 4 (.t 7) (.t 22), none⟩])
 (.seq (.regionD [oq 23 (.fieldAddr 0 (.t 7)),
 oq 24 (.load 1 false (.t 23)),
 oq 25 (.bin .add .strs (.c (.str [112, 97, 110, 101, 108, 32])) (.t 24)),
 oq 26 (.bin .add .strs (.t 25) (.c (.str [32]))),
 oq 27 (.fieldAddr 1 (.t 7)),
 oq 28 (.load 1 false (.t 27)),
 ⟨⟨some 29, .call 122 [(.t 28)], none⟩, true, []⟩,
 oq 30 (.bin .add .strs (.t 26) (.t 29)),
 oq 31 (.bin .add .strs (.t 30) (.c (.str [10]))),
 oq 32 (.call 121 [(.t 5), (.t 31)])])
 (.seq (.seq (.region [oo 33 (.fieldAddr 2 (.t 7)),
 oo 34 (.load 1 false (.t 33)),
 oo 35 (.len .sl (.t 34)),
 oo 36 (.mv (ci 0))])
 (.block 2 (.loop (.seq (.region [oo 37 (.bin .lss .num (.t 36) (.t 35))])
 (.seq (.cond (.t 37)
 (.skip)
 (.exit 2))
 (.seq (.block 3 (.seq (.region [oo 38 (.indexAddr (.sl 3) (.t 34) (.t 36)),
 oo 39 (.load 3 true (.t 38)),
 oo 9 (.alloc [.str [], .int .i64 0, .bool false]),
 ⟨none, .store 3 (.t 9) (.t 39), none⟩])
 (.region [oo 40 (.load 3 true (.t 9)),
 oo 41 (.call 123 [(.t 40), (.c (.str [108, 101, 102, 116]))]),
 oo 42 (.call 121 [(.t 5), (.t 41)])])))
 (.region [oo 43 (.bin .add .num (.t 36) (ci 1)),
 om 36 43])))))))
 (.seq (.seq (.region [oo 44 (.fieldAddr 3 (.t 7)),
 oo 45 (.load 1 false (.t 44)),
 oo 46 (.len .sl (.t 45)),
 oo 47 (.mv (ci 0))])
 (.block 4 (.loop (.seq (.region [oo 48 (.bin .lss .num (.t 47) (.t 46))])
 (.seq (.cond (.t 48)
 (.skip)
 (.exit 4))
 (.seq (.block 5 (.seq (.region [oo 49 (.indexAddr (.sl 3) (.t 45) (.t 47)),
 oo 50 (.load 3 true (.t 49)),
 oo 11 (.alloc [.str [], .int .i64 0, .bool false]),
 ⟨none, .store 3 (.t 11) (.t 50), none⟩])
 (.region [oo 51 (.load 3 true (.t 11)),
 oo 52 (.call 123 [(.t 51), (.c (.str [114, 105, 103, 104, 116]))]),
 oo 53 (.call 121 [(.t 5), (.t 52)])])))
 (.region [oo 54 (.bin .add .num (.t 47) (ci 1)),
 om 47 54])))))))
 (.region [oo 55 (.call 121 [(.t 5), (.c (.str [101, 110, 100, 10]))])]))))))
 (.region [oo 56 (.bin .add .num (.t 19) (ci 1)),
 om 19 56])))))))
 (.seq (.seq (.region [oo 57 (.call 124 [(.t 5)]),
 oo 58 (.bin .gtr .num (.t 57) (ci 16384))])
 (.cond (.t 58)
 (.seq (.region [oo 2 (.mv (.c (.str []))),
 oo 3 (.mv (ci 26))])
 (.ret))
 (.skip)))
 (.seq (.region [oo 59 (.call 125 [(.t 5)]),
 om 2 59,
 oo 3 (.mv (ci 0))])
 (.ret))))))⟩

/- codend/panel.Parse -/
def F49 : AFunc := ⟨48, [.tmp 2, .tmp 3, .tmp 4],
 .seq (.region [oo 2 (.mv (.c (.nilsl))),
 oo 3 (.mv (ci 0)),
 oo 4 (.mv (ci 0))])
 (.seq (.seq (.region [om 10 0,
 oo 11 (.len .str (.t 10)),
 oo 12 (.bin .gtr .num (.t 11) (ci 16384))])
 (.cond (.t 12)
 (.seq (.region [oo 2 (.mv (.c (.nilsl))),
 oo 3 (.mv (ci 0)),
 oo 4 (.mv (ci 26))])
 (.ret))
 (.skip)))
 (.seq (.region [oo 13 (.build [.nilsl, .str [], .int .i64 0, .nilsl, .nilsl, .str []] []),
 oo 14 (.box (.t 13)),
 om 5 14])
 (.seq (.region [om 15 5,
 oo 16 (.mkFunc 126 [(.t 15)] []),
 oo 6 (.alloc [.nilfunc]),
 ⟨none, .store 1 (.t 6) (.t 16), none⟩])
 (.seq (.region [oo 7 (.alloc [.int .i64 0]),
 oo 8 (.alloc [.int .i64 0]),
 ⟨none, .store 1 (.t 7) (ci 0), none⟩,
 ⟨none, .store 1 (.t 8) (ci 0), none⟩])
 (.seq (.skip)
 (.seq (.seq (.region [om 17 0,
 oo 18 (.call 127 [(.t 17)])])
 (.block 0 (.rangeFunc (.t 18) [19] (.region [om 9 19])
 (.block 1 (.seq (.seq (.region [oo 20 (.load 1 false (.t 6)),
 om 21 9,
 oo 22 (.dyn (.t 20) [(.t 21)]),
 ⟨none, .store 1 (.t 8) (.t 22), none⟩])
 (.seq (.region [oo 23 (.load 1 false (.t 8)),
 oo 24 (.bin .neq .num (.t 23) (ci 0))])
 (.cond (.t 24)
 (.exit 0)
 (.skip))))
 (.region [oo 25 (.load 1 false (.t 7)),
 oo 26 (.bin .add .num (.t 25) (ci 1)),
 ⟨none, .store 1 (.t 7) (.t 26), none⟩]))))))
 (.seq (.seq (.region [oo 27 (.load 1 false (.t 8)),
 oo 28 (.bin .neq .num (.t 27) (ci 0))])
 (.cond (.t 28)
 (.seq (.regionD [oq 29 (.load 1 false (.t 7)),
 oq 30 (.load 1 false (.t 8)),
 oq 2 (.mv (.c (.nilsl))),
 qm 3 29,
 qm 4 30])
 (.ret))
 (.skip)))
 (.seq (.seq (.region [om 31 5,
 oo 32 (.nilChk (.t 31)),
 oo 33 (.fieldAddr 5 (.t 32)),
 oo 34 (.load 1 false (.t 33)),
 oo 35 (.bin .neq .strs (.t 34) (.c (.str []))),
 om 36 35,
 ⟨some 37, .mv (.t 5), some (36, true)⟩,
 ⟨some 38, .nilChk (.t 37), some (36, true)⟩,
 ⟨some 39, .fieldAddr 5 (.t 38), some (36, true)⟩,
 ⟨some 40, .load 1 false (.t 39), some (36, true)⟩,
 ⟨some 41, .bin .neq .strs (.t 40) (.c (.str [101, 110, 100])), some (36, true)⟩,
 oo 42 (.pick (.t 36) (.t 41) (.c (.bool false)))])
 (.cond (.t 42)
 (.seq (.regionD [oq 43 (.load 1 false (.t 7)),
 oq 2 (.mv (.c (.nilsl))),
 qm 3 43,
 oq 4 (.mv (ci 28))])
 (.ret))
 (.skip)))
 (.seq (.region [om 44 5,
 oo 45 (.nilChk (.t 44)),
 oo 46 (.fieldAddr 0 (.t 45)),
 oo 47 (.load 1 false (.t 46)),
 om 2 47,
 oo 3 (.mv (ci 0)),
 oo 4 (.mv (ci 0))])
 (.ret))))))))))⟩

/- codend/panel.CheckEdge -/
def F56 : AFunc := ⟨41, [.tmp 2],
 .seq (.region [oo 1 (.box (.t 0)),
 oo 2 (.mv (ci 0))])
 (.seq (.region [oo 3 (.mv (.c (.bool false)))])
 (.seq (.seq (.region [oo 6 (.fieldAddr 0 (.t 1)),
 oo 7 (.load 1 false (.t 6)),
 oo 8 (.range (.t 7))])
 (.block 0 (.loop (.seq (.region [oo 9 (.next (.t 8)),
 oo 10 (.extract 0 (.t 9))])
 (.seq (.cond (.t 10)
 (.skip)
 (.exit 0))
 (.block 1 (.seq (.region [oo 11 (.extract 2 (.t 9)),
 om 5 11])
 (.region [om 12 3,
 om 13 12,
 ⟨some 14, .mv (.t 5), some (13, false)⟩,
 ⟨some 15, .bin .neq .num (.t 14) (.c (.int .i32 78)), some (13, false)⟩,
 ⟨some 16, .mv (.t 15), some (13, false)⟩,
 ⟨some 17, .mv (.t 5), some (16, true)⟩,
 ⟨some 18, .bin .neq .num (.t 17) (.c (.int .i32 66)), some (16, true)⟩,
 ⟨some 19, .pick (.t 16) (.t 18) (.c (.bool false)), some (13, false)⟩,
 ⟨some 20, .mv (.t 19), some (13, false)⟩,
 ⟨some 21, .mv (.t 5), some (20, true)⟩,
 ⟨some 22, .bin .neq .num (.t 21) (.c (.int .i32 84)), some (20, true)⟩,
 ⟨some 23, .pick (.t 20) (.t 22) (.c (.bool false)), some (13, false)⟩,
 oo 24 (.pick (.t 13) (.c (.bool true)) (.t 23)),
 om 3 24]))))))))
 (.seq (.regionD [oq 25 (.fieldAddr 0 (.t 1)),
 oq 26 (.load 1 false (.t 25)),
 oq 27 (.bin .eql .strs (.t 26) (.c (.str []))),
 ⟨⟨some 28, .call 133 [(.t 27), (ci 12)], none⟩, true, []⟩,
 oq 29 (.fieldAddr 0 (.t 1)),
 oq 30 (.load 1 false (.t 29)),
 oq 31 (.len .str (.t 30)),
 oq 32 (.bin .gtr .num (.t 31) (ci 64)),
 ⟨⟨some 33, .call 133 [(.t 32), (ci 26)], none⟩, true, []⟩,
 qm 34 3,
 ⟨⟨some 35, .call 133 [(.t 34), (ci 1)], none⟩, true, []⟩,
 oq 36 (.fieldAddr 1 (.t 1)),
 oq 37 (.load 1 false (.t 36)),
 oq 38 (.call 109 [(.t 37), (ci 1), (ci 64)]),
 oq 39 (.buildSl 1 4 [.int .i64 0, .int .i64 0, .int .i64 0, .int .i64 0] [(0, 1, (.t 28)), (1, 1, (.t 33)), (2, 1, (.t 35)), (3, 1, (.t 38))]),
 oq 40 (.call 105 [(.t 39)]),
 qm 2 40])
 (.ret))))⟩

/- codend/codendref03.CheckEdge -/
def F57 : AFunc := ⟨40, [.tmp 2],
 .seq (.region [oo 1 (.box (.t 0)),
 oo 2 (.mv (ci 0))])
 (.seq (.seq (.region [oo 4 (.fieldAddr 0 (.t 1)),
 oo 5 (.load 1 false (.t 4)),
 oo 6 (.bin .eql .strs (.t 5) (.c (.str [])))])
 (.cond (.t 6)
 (.seq (.region [oo 2 (.mv (ci 12))])
 (.ret))
 (.skip)))
 (.seq (.seq (.region [oo 7 (.fieldAddr 0 (.t 1)),
 oo 8 (.load 1 false (.t 7)),
 oo 9 (.len .str (.t 8)),
 oo 10 (.bin .gtr .num (.t 9) (ci 64))])
 (.cond (.t 10)
 (.seq (.region [oo 2 (.mv (ci 26))])
 (.ret))
 (.skip)))
 (.seq (.seq (.region [oo 3 (.mv (ci 0))])
 (.block 0 (.loop (.seq (.seq (.region [om 11 3,
 oo 12 (.fieldAddr 0 (.t 1)),
 oo 13 (.load 1 false (.t 12)),
 oo 14 (.len .str (.t 13)),
 oo 15 (.bin .lss .num (.t 11) (.t 14))])
 (.cond (.t 15)
 (.skip)
 (.exit 0)))
 (.seq (.block 1 (.seq (.region [oo 18 (.fieldAddr 0 (.t 1)),
 oo 19 (.load 1 false (.t 18)),
 om 20 3,
 oo 21 (.index .str (.t 19) (.t 20)),
 oo 22 (.bin .neq .num (.t 21) (.c (.int .u8 78))),
 om 23 22,
 ⟨some 24, .fieldAddr 0 (.t 1), some (23, true)⟩,
 ⟨some 25, .load 1 false (.t 24), some (23, true)⟩,
 ⟨some 26, .mv (.t 3), some (23, true)⟩,
 ⟨some 27, .index .str (.t 25) (.t 26), some (23, true)⟩,
 ⟨some 28, .bin .neq .num (.t 27) (.c (.int .u8 66)), some (23, true)⟩,
 oo 29 (.pick (.t 23) (.t 28) (.c (.bool false))),
 om 30 29,
 ⟨some 31, .fieldAddr 0 (.t 1), some (30, true)⟩,
 ⟨some 32, .load 1 false (.t 31), some (30, true)⟩,
 ⟨some 33, .mv (.t 3), some (30, true)⟩,
 ⟨some 34, .index .str (.t 32) (.t 33), some (30, true)⟩,
 ⟨some 35, .bin .neq .num (.t 34) (.c (.int .u8 84)), some (30, true)⟩,
 oo 36 (.pick (.t 30) (.t 35) (.c (.bool false)))])
 (.cond (.t 36)
 (.seq (.region [oo 2 (.mv (ci 1))])
 (.ret))
 (.skip))))
 (.region [om 16 3,
 oo 17 (.bin .add .num (.t 16) (ci 1)),
 om 3 17]))))))
 (.seq (.region [oo 37 (.fieldAddr 1 (.t 1)),
 oo 38 (.load 1 false (.t 37)),
 oo 39 (.call 38 [(.t 38), (ci 1), (ci 64)]),
 om 2 39])
 (.ret)))))⟩

/- codend/panel.CheckPanel -/
def F58 : AFunc := ⟨86, [.tmp 2],
 .seq (.region [oo 1 (.box (.t 0)),
 oo 2 (.mv (ci 0))])
 (.seq (.seq (.regionD [oq 12 (.fieldAddr 0 (.t 1)),
 oq 13 (.load 1 false (.t 12)),
 ⟨⟨some 14, .call 134 [(.t 13)], none⟩, true, []⟩,
 oq 15 (.un .not (.t 14)),
 ⟨⟨some 16, .call 133 [(.t 15), (ci 8)], none⟩, true, []⟩,
 oq 17 (.fieldAddr 1 (.t 1)),
 oq 18 (.load 1 false (.t 17)),
 ⟨⟨some 19, .call 109 [(.t 18), (ci 1), (ci 128)], none⟩, true, []⟩,
 oq 20 (.fieldAddr 2 (.t 1)),
 oq 21 (.load 1 false (.t 20)),
 ⟨⟨some 22, .call 135 [(.t 21)], none⟩, true, []⟩,
 oq 23 (.fieldAddr 3 (.t 1)),
 oq 24 (.load 1 false (.t 23)),
 oq 25 (.call 135 [(.t 24)]),
 oq 26 (.buildSl 1 4 [.int .i64 0, .int .i64 0, .int .i64 0, .int .i64 0] [(0, 1, (.t 16)), (1, 1, (.t 19)), (2, 1, (.t 22)), (3, 1, (.t 25))]),
 oq 27 (.call 105 [(.t 26)]),
 qm 3 27])
 (.seq (.region [om 28 3,
 oo 29 (.bin .neq .num (.t 28) (ci 0))])
 (.cond (.t 29)
 (.seq (.region [om 30 3,
 om 2 30])
 (.ret))
 (.skip))))
 (.seq (.regionD [oq 31 (.load 4 true (.t 1)),
 ⟨⟨some 32, .call 111 [(.t 31), (.c (.bool false))], none⟩, true, []⟩,
 oq 33 (.load 4 true (.t 1)),
 oq 34 (.call 111 [(.t 33), (.c (.bool true))]),
 qm 4 32,
 qm 5 34])
 (.seq (.region [om 35 4,
 oo 36 (.call 136 [(.t 35)]),
 oo 37 (.field 1 1 false (.t 36)),
 om 6 37])
 (.seq (.region [om 38 4,
 oo 39 (.call 137 [(.t 38), (.f 138)]),
 om 40 39,
 ⟨some 41, .mv (.t 5), some (40, false)⟩,
 ⟨some 42, .call 137 [(.t 41), (.f 138)], some (40, false)⟩,
 oo 43 (.pick (.t 40) (.c (.bool true)) (.t 42)),
 om 7 43])
 (.seq (.seq (.region [om 44 6,
 om 45 5,
 oo 46 (.call 136 [(.t 45)]),
 oo 47 (.field 1 1 false (.t 46)),
 oo 48 (.bin .neq .num (.t 44) (.t 47)),
 oo 49 (.call 133 [(.t 48), (ci 2)]),
 om 50 6,
 oo 51 (.bin .eql .num (.t 50) (ci 0)),
 oo 52 (.call 133 [(.t 51), (ci 12)]),
 om 53 6,
 oo 54 (.bin .gtr .num (.t 53) (ci 256)),
 om 55 54,
 ⟨some 56, .mv (.t 7), some (55, false)⟩,
 oo 57 (.pick (.t 55) (.c (.bool true)) (.t 56)),
 oo 58 (.call 133 [(.t 57), (ci 4)]),
 oo 59 (.buildSl 1 3 [.int .i64 0, .int .i64 0, .int .i64 0] [(0, 1, (.t 49)), (1, 1, (.t 52)), (2, 1, (.t 58))]),
 oo 60 (.call 105 [(.t 59)]),
 om 8 60])
 (.seq (.region [om 61 8,
 oo 62 (.bin .neq .num (.t 61) (ci 0))])
 (.cond (.t 62)
 (.seq (.region [om 63 8,
 om 2 63])
 (.ret))
 (.skip))))
 (.seq (.region [om 64 4,
 oo 65 (.call 139 [(.t 64)]),
 om 66 5,
 oo 67 (.call 139 [(.t 66)]),
 om 9 65,
 om 10 67])
 (.seq (.seq (.region [om 68 9,
 oo 69 (.len .sl (.t 68)),
 oo 70 (.mv (ci 0))])
 (.block 0 (.loop (.seq (.region [oo 71 (.bin .lss .num (.t 70) (.t 69))])
 (.seq (.cond (.t 71)
 (.skip)
 (.exit 0))
 (.seq (.block 1 (.seq (.region [om 72 70,
 om 11 72])
 (.seq (.regionD [qm 73 10,
 qm 74 11,
 oq 75 (.indexAddr (.sl 2) (.t 73) (.t 74)),
 oq 76 (.indexAddr (.arr 2 1) (.t 75) (ci 0)),
 oq 77 (.load 1 false (.t 76)),
 qm 78 9,
 qm 79 11,
 oq 80 (.indexAddr (.sl 2) (.t 78) (.t 79)),
 oq 81 (.indexAddr (.arr 2 1) (.t 80) (ci 1)),
 oq 82 (.load 1 false (.t 81)),
 oq 83 (.bin .add .num (.t 82) (ci 2)),
 oq 84 (.bin .lss .num (.t 77) (.t 83))])
 (.cond (.t 84)
 (.seq (.region [oo 2 (.mv (ci 16))])
 (.ret))
 (.skip)))))
 (.region [oo 85 (.bin .add .num (.t 70) (ci 1)),
 om 70 85])))))))
 (.seq (.region [oo 2 (.mv (ci 0))])
 (.ret)))))))))⟩

/- codend/panel.Outline -/
def F59 : AFunc := ⟨15, [.tmp 4, .tmp 5],
 .seq (.region [oo 2 (.box (.t 0)),
 oo 4 (.mv (.c (.nilsl))),
 oo 5 (.mv (ci 0))])
 (.seq (.seq (.region [oo 7 (.load 4 true (.t 2)),
 oo 8 (.call 58 [(.t 7)]),
 om 6 8])
 (.seq (.region [om 9 6,
 oo 10 (.bin .neq .num (.t 9) (ci 0))])
 (.cond (.t 10)
 (.seq (.region [om 11 6,
 oo 4 (.mv (.c (.nilsl))),
 om 5 11])
 (.ret))
 (.skip))))
 (.seq (.region [oo 12 (.load 4 true (.t 2)),
 om 13 1,
 oo 14 (.call 111 [(.t 12), (.t 13)]),
 om 4 14,
 oo 5 (.mv (ci 0))])
 (.ret)))⟩

/- codend/panel.Strips -/
def F61 : AFunc := ⟨12, [.tmp 2, .tmp 3],
 .seq (.region [oo 1 (.box (.t 0)),
 oo 2 (.mv (.c (.nilsl))),
 oo 3 (.mv (ci 0))])
 (.seq (.seq (.region [oo 5 (.load 4 true (.t 1)),
 oo 6 (.call 58 [(.t 5)]),
 om 4 6])
 (.seq (.region [om 7 4,
 oo 8 (.bin .neq .num (.t 7) (ci 0))])
 (.cond (.t 8)
 (.seq (.region [om 9 4,
 oo 2 (.mv (.c (.nilsl))),
 om 3 9])
 (.ret))
 (.skip))))
 (.seq (.region [oo 10 (.load 4 true (.t 1)),
 oo 11 (.call 104 [(.t 10)]),
 om 2 11,
 oo 3 (.mv (ci 0))])
 (.ret)))⟩

/- codend/panel.Letters -/
def F62 : AFunc := ⟨42, [.cell 2 3 true, .tmp 3],
 .seq (.region [oo 1 (.box (.t 0)),
 oo 2 (.alloc [.int .i64 0, .int .i64 0, .int .i64 0]),
 oo 3 (.mv (ci 0))])
 (.seq (.seq (.region [oo 9 (.load 4 true (.t 1)),
 oo 10 (.call 58 [(.t 9)]),
 om 4 10])
 (.seq (.region [om 11 4,
 oo 12 (.bin .neq .num (.t 11) (ci 0))])
 (.cond (.t 12)
 (.seq (.region [oo 13 (.build [.int .i64 0, .int .i64 0, .int .i64 0] []),
 om 14 4,
 ⟨none, .store 3 (.t 2) (.t 13), none⟩,
 om 3 14])
 (.ret))
 (.skip))))
 (.seq (.region [oo 15 (.mkMap),
 oo 5 (.alloc [.nilmap]),
 ⟨none, .store 1 (.t 5) (.t 15), none⟩])
 (.seq (.seq (.region [oo 16 (.fieldAddr 2 (.t 1)),
 oo 17 (.load 1 false (.t 16)),
 oo 18 (.fieldAddr 3 (.t 1)),
 oo 19 (.load 1 false (.t 18)),
 oo 20 (.buildSl 1 2 [.nilsl, .nilsl] [(0, 1, (.t 17)), (1, 1, (.t 19))]),
 oo 21 (.len .sl (.t 20)),
 oo 22 (.mv (ci 0))])
 (.block 0 (.loop (.seq (.region [oo 23 (.bin .lss .num (.t 22) (.t 21))])
 (.seq (.cond (.t 23)
 (.skip)
 (.exit 0))
 (.seq (.block 1 (.seq (.region [oo 24 (.indexAddr (.sl 1) (.t 20) (.t 22)),
 oo 25 (.load 1 false (.t 24)),
 om 7 25])
 (.seq (.region [om 26 7,
 oo 27 (.call 114 [(.t 26)])])
 (.block 2 (.rangeFunc (.t 27) [28] (.region [oo 8 (.alloc [.int .u8 0, .bool false]),
 ⟨none, .store 2 (.t 8) (.t 28), none⟩])
 (.block 3 (.region [oo 29 (.load 1 false (.t 5)),
 oo 30 (.fieldAddr 0 (.t 8)),
 oo 31 (.load 1 false (.t 30)),
 ⟨some 32, .lookup ⟨false, [.i]⟩ (.int .i64 0) false (.t 29) (.t 31), none⟩,
 oo 33 (.bin .add .num (.t 32) (ci 1)),
 ⟨none, .mapUpd ⟨false, [.i]⟩ (.t 29) (.t 31) (.t 33), none⟩])))))))
 (.region [oo 34 (.bin .add .num (.t 22) (ci 1)),
 om 22 34])))))))
 (.seq (.region [oo 35 (.load 1 false (.t 5)),
 ⟨some 36, .lookup ⟨false, [.i]⟩ (.int .i64 0) false (.t 35) (.c (.int .u8 78)), none⟩,
 oo 37 (.load 1 false (.t 5)),
 ⟨some 38, .lookup ⟨false, [.i]⟩ (.int .i64 0) false (.t 37) (.c (.int .u8 66)), none⟩,
 oo 39 (.load 1 false (.t 5)),
 ⟨some 40, .lookup ⟨false, [.i]⟩ (.int .i64 0) false (.t 39) (.c (.int .u8 84)), none⟩,
 oo 41 (.build [.int .i64 0, .int .i64 0, .int .i64 0] [(0, 1, (.t 36)), (1, 1, (.t 38)), (2, 1, (.t 40))]),
 ⟨none, .store 3 (.t 2) (.t 41), none⟩,
 oo 3 (.mv (ci 0))])
 (.ret)))))⟩

/- codend/codendref01.SameKnots -/
def F63 : AFunc := ⟨26, [.tmp 4],
 .seq (.region [oo 4 (.mv (.c (.bool false)))])
 (.seq (.seq (.region [om 6 0,
 oo 7 (.len .sl (.t 6)),
 om 8 1,
 oo 9 (.len .sl (.t 8)),
 oo 10 (.bin .neq .num (.t 7) (.t 9))])
 (.cond (.t 10)
 (.seq (.region [oo 4 (.mv (.c (.bool false)))])
 (.ret))
 (.skip)))
 (.seq (.seq (.region [oo 5 (.mv (ci 0))])
 (.block 0 (.loop (.seq (.seq (.region [om 11 5,
 om 12 0,
 oo 13 (.len .sl (.t 12)),
 oo 14 (.bin .lss .num (.t 11) (.t 13))])
 (.cond (.t 14)
 (.skip)
 (.exit 0)))
 (.seq (.block 1 (.seq (.regionD [qm 17 0,
 qm 18 5,
 oq 19 (.indexAddr (.sl 2) (.t 17) (.t 18)),
 oq 20 (.load 2 true (.t 19)),
 qm 21 1,
 qm 22 5,
 oq 23 (.indexAddr (.sl 2) (.t 21) (.t 22)),
 oq 24 (.load 2 true (.t 23)),
 ⟨⟨some 25, .bin .neq (.eq ⟨true, [.i, .i]⟩) (.t 20) (.t 24), none⟩, false, []⟩])
 (.cond (.t 25)
 (.seq (.region [oo 4 (.mv (.c (.bool false)))])
 (.ret))
 (.skip))))
 (.region [om 15 5,
 oo 16 (.bin .add .num (.t 15) (ci 1)),
 om 5 16]))))))
 (.seq (.region [oo 4 (.mv (.c (.bool true)))])
 (.ret))))⟩

/- codend/codendref03.Outline -/
def F64 : AFunc := ⟨19, [.tmp 4],
 .seq (.region [oo 2 (.box (.t 0)),
 oo 4 (.mv (.c (.nilsl)))])
 (.seq (.seq (.region [om 5 1])
 (.cond (.t 5)
 (.seq (.regionD [oq 6 (.fieldAddr 1 (.t 2)),
 oq 7 (.load 1 false (.t 6)),
 oq 8 (.bin .mul .num (ci 2) (.t 7)),
 oq 9 (.build [.int .i64 0, .int .i64 0] [(0, 1, (.t 8))]),
 oq 10 (.fieldAddr 3 (.t 2)),
 oq 11 (.load 1 false (.t 10)),
 ⟨⟨some 12, .call 95 [(.t 11)], none⟩, true, []⟩,
 oq 13 (.call 140 [(.t 9), (.t 12), (.c (.bool true))]),
 qm 4 13])
 (.ret))
 (.skip)))
 (.seq (.region [oo 14 (.build [.int .i64 0, .int .i64 0] []),
 oo 15 (.fieldAddr 2 (.t 2)),
 oo 16 (.load 1 false (.t 15)),
 oo 17 (.call 95 [(.t 16)]),
 oo 18 (.call 140 [(.t 14), (.t 17), (.c (.bool false))]),
 om 4 18])
 (.ret)))⟩

/- codend/codendref03.Corners -/
def F65 : AFunc := ⟨28, [.cell 2 8 true],
 .seq (.region [oo 1 (.box (.t 0)),
 oo 2 (.alloc [.int .i64 0, .int .i64 0, .int .i64 0, .int .i64 0, .int .i64 0, .int .i64 0, .int .i64 0, .int .i64 0])])
 (.seq (.regionD [oq 5 (.load 4 true (.t 1)),
 ⟨⟨some 6, .call 64 [(.t 5), (.c (.bool false))], none⟩, true, []⟩,
 oq 7 (.load 4 true (.t 1)),
 oq 8 (.call 64 [(.t 7), (.c (.bool true))]),
 qm 3 6,
 qm 4 8])
 (.seq (.regionD [qm 9 3,
 oq 10 (.indexAddr (.sl 2) (.t 9) (ci 0)),
 oq 11 (.load 2 true (.t 10)),
 qm 12 4,
 oq 13 (.indexAddr (.sl 2) (.t 12) (ci 0)),
 oq 14 (.load 2 true (.t 13)),
 qm 15 3,
 qm 16 3,
 oq 17 (.len .sl (.t 16)),
 oq 18 (.bin .sub .num (.t 17) (ci 1)),
 oq 19 (.indexAddr (.sl 2) (.t 15) (.t 18)),
 oq 20 (.load 2 true (.t 19)),
 qm 21 4,
 qm 22 4,
 oq 23 (.len .sl (.t 22)),
 oq 24 (.bin .sub .num (.t 23) (ci 1)),
 oq 25 (.indexAddr (.sl 2) (.t 21) (.t 24)),
 oq 26 (.load 2 true (.t 25)),
 oq 27 (.build [.int .i64 0, .int .i64 0, .int .i64 0, .int .i64 0, .int .i64 0, .int .i64 0, .int .i64 0, .int .i64 0] [(0, 2, (.t 11)), (2, 2, (.t 14)), (4, 2, (.t 20)), (6, 2, (.t 26))]),
 ⟨⟨none, .store 8 (.t 2) (.t 27), none⟩, false, []⟩])
 (.ret)))⟩

/- codend/codendref01.SameNet -/
def F73 : AFunc := ⟨26, [.tmp 4],
 .seq (.region [oo 4 (.mv (.c (.bool false)))])
 (.seq (.seq (.region [om 6 0,
 oo 7 (.len .sl (.t 6)),
 om 8 1,
 oo 9 (.len .sl (.t 8)),
 oo 10 (.bin .neq .num (.t 7) (.t 9))])
 (.cond (.t 10)
 (.seq (.region [oo 4 (.mv (.c (.bool false)))])
 (.ret))
 (.skip)))
 (.seq (.seq (.region [oo 5 (.mv (ci 0))])
 (.block 0 (.loop (.seq (.seq (.region [om 11 5,
 om 12 0,
 oo 13 (.len .sl (.t 12)),
 oo 14 (.bin .lss .num (.t 11) (.t 13))])
 (.cond (.t 14)
 (.skip)
 (.exit 0)))
 (.seq (.block 1 (.seq (.regionD [qm 17 0,
 qm 18 5,
 oq 19 (.indexAddr (.sl 3) (.t 17) (.t 18)),
 oq 20 (.load 3 true (.t 19)),
 qm 21 1,
 qm 22 5,
 oq 23 (.indexAddr (.sl 3) (.t 21) (.t 22)),
 oq 24 (.load 3 true (.t 23)),
 ⟨⟨some 25, .bin .neq (.eq ⟨true, [.i, .i, .i]⟩) (.t 20) (.t 24), none⟩, false, []⟩])
 (.cond (.t 25)
 (.seq (.region [oo 4 (.mv (.c (.bool false)))])
 (.ret))
 (.skip))))
 (.region [om 15 5,
 oo 16 (.bin .add .num (.t 15) (ci 1)),
 om 5 16]))))))
 (.seq (.region [oo 4 (.mv (.c (.bool true)))])
 (.ret))))⟩

/- codend/panel.Turn -/
def F76 : AFunc := ⟨34, [.cell 2 4 true, .tmp 3],
 .seq (.region [oo 1 (.box (.t 0)),
 oo 2 (.alloc [.str [], .int .i64 0, .nilsl, .nilsl]),
 oo 3 (.mv (ci 0))])
 (.seq (.seq (.region [oo 6 (.load 4 true (.t 1)),
 oo 7 (.call 58 [(.t 6)]),
 om 4 7])
 (.seq (.region [om 8 4,
 oo 9 (.bin .neq .num (.t 8) (ci 0))])
 (.cond (.t 9)
 (.seq (.region [oo 10 (.build [.str [], .int .i64 0, .nilsl, .nilsl] []),
 om 11 4,
 ⟨none, .store 4 (.t 2) (.t 10), none⟩,
 om 3 11])
 (.ret))
 (.skip))))
 (.seq (.region [oo 12 (.load 4 true (.t 1)),
 oo 13 (.call 106 [(.t 12)]),
 oo 5 (.alloc [.int .i64 0, .int .i64 0, .int .i64 0, .int .i64 0, .int .i64 0, .int .i64 0, .int .i64 0, .int .i64 0]),
 ⟨none, .store 8 (.t 5) (.t 13), none⟩])
 (.seq (.regionD [oq 14 (.fieldAddr 0 (.t 1)),
 oq 15 (.load 1 false (.t 14)),
 oq 16 (.indexAddr (.arr 4 2) (.t 5) (ci 3)),
 oq 17 (.fieldAddr 0 (.t 16)),
 oq 18 (.load 1 false (.t 17)),
 oq 19 (.indexAddr (.arr 4 2) (.t 5) (ci 2)),
 oq 20 (.fieldAddr 0 (.t 19)),
 oq 21 (.load 1 false (.t 20)),
 oq 22 (.bin .sub .num (.t 18) (.t 21)),
 oq 23 (.bin .quo .num (.t 22) (ci 2)),
 oq 24 (.fieldAddr 3 (.t 1)),
 oq 25 (.load 1 false (.t 24)),
 ⟨⟨some 26, .call 148 [(.t 25)], none⟩, true, []⟩,
 oq 27 (.fieldAddr 2 (.t 1)),
 oq 28 (.load 1 false (.t 27)),
 ⟨⟨some 29, .call 148 [(.t 28)], none⟩, true, []⟩,
 oq 30 (.build [.str [], .int .i64 0, .nilsl, .nilsl] [(0, 1, (.t 15)), (1, 1, (.t 23)), (2, 1, (.t 26)), (3, 1, (.t 29))]),
 oq 31 (.call 107 [(.t 30)]),
 oq 32 (.extract 0 (.t 31)),
 oq 33 (.extract 1 (.t 31)),
 ⟨⟨none, .store 4 (.t 2) (.t 32), none⟩, false, []⟩,
 qm 3 33])
 (.ret))))⟩

/- codend/codendlaw03.wing -/
def F86 : AFunc := ⟨6, [.cell 0 4 true],
 .seq (.region [oo 0 (.alloc [.str [], .int .i64 0, .nilsl, .nilsl])])
 (.seq (.region [oo 1 (.build [.str [], .int .i64 0, .bool false] [(0, 1, (.c (.str [78]))), (1, 1, (ci 1))]),
 oo 2 (.buildSl 3 1 [.str [], .int .i64 0, .bool false] [(0, 3, (.t 1))]),
 oo 3 (.build [.str [], .int .i64 0, .bool false] [(0, 1, (.c (.str [66, 66]))), (1, 1, (ci 1)), (2, 1, (.c (.bool true)))]),
 oo 4 (.buildSl 3 1 [.str [], .int .i64 0, .bool false] [(0, 3, (.t 3))]),
 oo 5 (.build [.str [], .int .i64 0, .nilsl, .nilsl] [(0, 1, (.c (.str [119, 105, 110, 103]))), (1, 1, (ci 2)), (2, 1, (.t 2)), (3, 1, (.t 4))]),
 ⟨none, .store 4 (.t 0) (.t 5), none⟩])
 (.ret))⟩

/- codend/codendref03.shortSide -/
def F87 : AFunc := ⟨69, [.tmp 4],
 .seq (.region [oo 4 (.mv (.c (.bool false)))])
 (.seq (.seq (.region [om 7 0,
 oo 8 (.len .sl (.t 7)),
 oo 9 (.bin .gtr .num (.t 8) (ci 3)),
 om 10 9,
 ⟨some 11, .mv (.t 0), some (10, true)⟩,
 ⟨some 12, .len .sl (.t 11), some (10, true)⟩,
 ⟨some 13, .bin .leq .num (.t 12) (ci 64), some (10, true)⟩,
 oo 14 (.pick (.t 10) (.t 13) (.c (.bool false))),
 om 15 14,
 ⟨some 16, .mv (.t 0), some (15, false)⟩,
 ⟨some 17, .len .sl (.t 16), some (15, false)⟩,
 ⟨some 18, .bin .gtr .num (.t 17) (ci 66), some (15, false)⟩,
 oo 19 (.pick (.t 15) (.c (.bool true)) (.t 18))])
 (.cond (.t 19)
 (.seq (.region [oo 4 (.mv (.c (.bool false)))])
 (.ret))
 (.skip)))
 (.seq (.region [oo 5 (.mv (ci 0))])
 (.seq (.seq (.region [oo 6 (.mv (ci 0))])
 (.block 0 (.loop (.seq (.seq (.region [om 20 6,
 om 21 0,
 oo 22 (.len .sl (.t 21)),
 oo 23 (.bin .lss .num (.t 20) (.t 22))])
 (.cond (.t 23)
 (.skip)
 (.exit 0)))
 (.seq (.block 1 (.seq (.seq (.region [om 26 0,
 om 27 6,
 oo 28 (.indexAddr (.sl 3) (.t 26) (.t 27)),
 oo 29 (.fieldAddr 0 (.t 28)),
 oo 30 (.load 1 false (.t 29)),
 oo 31 (.len .str (.t 30)),
 oo 32 (.bin .gtr .num (.t 31) (ci 66))])
 (.cond (.t 32)
 (.seq (.region [oo 4 (.mv (.c (.bool false)))])
 (.ret))
 (.skip)))
 (.seq (.region [om 33 0,
 om 34 6,
 oo 35 (.indexAddr (.sl 3) (.t 33) (.t 34)),
 oo 36 (.fieldAddr 1 (.t 35)),
 oo 37 (.load 1 false (.t 36)),
 oo 38 (.bin .gtr .num (.t 37) (ci 0)),
 om 39 38,
 ⟨some 40, .mv (.t 0), some (39, true)⟩,
 ⟨some 41, .mv (.t 6), some (39, true)⟩,
 ⟨some 42, .indexAddr (.sl 3) (.t 40) (.t 41), some (39, true)⟩,
 ⟨some 43, .fieldAddr 1 (.t 42), some (39, true)⟩,
 ⟨some 44, .load 1 false (.t 43), some (39, true)⟩,
 ⟨some 45, .bin .leq .num (.t 44) (ci 64), some (39, true)⟩,
 oo 46 (.pick (.t 39) (.t 45) (.c (.bool false)))])
 (.cond (.t 46)
 (.regionD [qm 47 5,
 qm 48 0,
 qm 49 6,
 oq 50 (.indexAddr (.sl 3) (.t 48) (.t 49)),
 oq 51 (.fieldAddr 0 (.t 50)),
 oq 52 (.load 1 false (.t 51)),
 oq 53 (.len .str (.t 52)),
 qm 54 0,
 qm 55 6,
 oq 56 (.indexAddr (.sl 3) (.t 54) (.t 55)),
 oq 57 (.fieldAddr 1 (.t 56)),
 oq 58 (.load 1 false (.t 57)),
 oq 59 (.bin .mul .num (.t 53) (.t 58)),
 oq 60 (.bin .add .num (.t 47) (.t 59)),
 qm 5 60])
 (.skip)))))
 (.region [om 24 6,
 oo 25 (.bin .add .num (.t 24) (ci 1)),
 om 6 25]))))))
 (.seq (.region [om 61 5,
 om 62 1,
 oo 63 (.bin .leq .num (.t 61) (.t 62)),
 om 64 63,
 ⟨some 65, .mv (.t 0), some (64, false)⟩,
 ⟨some 66, .len .sl (.t 65), some (64, false)⟩,
 ⟨some 67, .bin .gtr .num (.t 66) (ci 64), some (64, false)⟩,
 oo 68 (.pick (.t 64) (.c (.bool true)) (.t 67)),
 om 4 68])
 (.ret)))))⟩

/- codend/panel.net -/
def F88 : AFunc := ⟨31, [.tmp 2, .tmp 3],
 .seq (.region [oo 1 (.box (.t 0)),
 oo 2 (.mv (.c (.nilsl))),
 oo 3 (.mv (ci 0))])
 (.seq (.seq (.region [oo 8 (.load 4 true (.t 1)),
 oo 9 (.call 58 [(.t 8)]),
 om 4 9])
 (.seq (.region [om 10 4,
 oo 11 (.bin .neq .num (.t 10) (ci 0))])
 (.cond (.t 11)
 (.seq (.region [om 12 4,
 oo 2 (.mv (.c (.nilsl))),
 om 3 12])
 (.ret))
 (.skip))))
 (.seq (.region [oo 5 (.mv (.c (.nilsl)))])
 (.seq (.seq (.region [oo 13 (.load 4 true (.t 1)),
 oo 14 (.call 104 [(.t 13)]),
 oo 15 (.len .sl (.t 14)),
 oo 16 (.mv (ci 0))])
 (.block 0 (.loop (.seq (.region [oo 17 (.bin .lss .num (.t 16) (.t 15))])
 (.seq (.cond (.t 17)
 (.skip)
 (.exit 0))
 (.seq (.block 1 (.seq (.region [om 18 16,
 oo 19 (.indexAddr (.sl 4) (.t 14) (.t 16)),
 oo 20 (.load 4 true (.t 19)),
 oo 7 (.alloc [.int .i64 0, .int .i64 0, .int .i64 0, .int .i64 0]),
 om 6 18,
 ⟨none, .store 4 (.t 7) (.t 20), none⟩])
 (.region [om 21 5,
 oo 22 (.load 4 true (.t 7)),
 om 23 6,
 oo 24 (.call 162 [(.t 22), (.t 23)]),
 oo 25 (.append 3 24 none (.t 21) (.t 24)),
 om 5 25])))
 (.region [oo 26 (.bin .add .num (.t 16) (ci 1)),
 om 16 26])))))))
 (.seq (.seq (.region [om 27 5,
 oo 28 (.len .sl (.t 27)),
 oo 29 (.bin .gtr .num (.t 28) (ci 4096))])
 (.cond (.t 29)
 (.seq (.region [oo 2 (.mv (.c (.nilsl))),
 oo 3 (.mv (ci 5))])
 (.ret))
 (.skip)))
 (.seq (.region [om 30 5,
 om 2 30,
 oo 3 (.mv (ci 0))])
 (.ret))))))⟩

/- (codend/panel.Panel).height -/
def F89 : AFunc := ⟨7, [.tmp 2],
 .seq (.region [oo 1 (.box (.t 0)),
 oo 2 (.mv (ci 0))])
 (.seq (.region [oo 3 (.load 4 true (.t 1)),
 oo 4 (.call 111 [(.t 3), (.c (.bool false))]),
 oo 5 (.call 136 [(.t 4)]),
 oo 6 (.field 1 1 false (.t 5)),
 om 2 6])
 (.ret))⟩

/- codend/panel.Rows$1 -/
def F90 : AFunc := ⟨23, [],
 .regionD [oq 5 (.load 1 false (.t 2)),
 qm 6 0,
 oq 7 (.load 1 false (.t 2)),
 qm 8 0,
 oq 9 (.indexAddr (.sl 2) (.t 7) (.t 8)),
 oq 10 (.indexAddr (.arr 2 1) (.t 9) (ci 0)),
 oq 11 (.load 1 false (.t 10)),
 qm 12 1,
 oq 13 (.min (.t 11) (.t 12)),
 oq 14 (.load 1 false (.t 2)),
 qm 15 0,
 oq 16 (.indexAddr (.sl 2) (.t 14) (.t 15)),
 oq 17 (.indexAddr (.arr 2 1) (.t 16) (ci 1)),
 oq 18 (.load 1 false (.t 17)),
 qm 19 1,
 oq 20 (.max (.t 18) (.t 19)),
 oq 21 (.build [.int .i64 0, .int .i64 0] [(0, 1, (.t 13)), (1, 1, (.t 20))]),
 oq 22 (.indexAddr (.sl 2) (.t 5) (.t 6)),
 ⟨⟨none, .store 2 (.t 22) (.t 21), none⟩, false, []⟩]⟩

/- codend/codendref01.IsName -/
def F91 : AFunc := ⟨55, [.tmp 2],
 .seq (.region [oo 2 (.mv (.c (.bool false)))])
 (.seq (.seq (.region [om 6 0,
 oo 7 (.len .str (.t 6)),
 oo 8 (.bin .eql .num (.t 7) (ci 0)),
 om 9 8,
 ⟨some 10, .mv (.t 0), some (9, false)⟩,
 ⟨some 11, .len .str (.t 10), some (9, false)⟩,
 ⟨some 12, .bin .gtr .num (.t 11) (ci 24), some (9, false)⟩,
 oo 13 (.pick (.t 9) (.c (.bool true)) (.t 12))])
 (.cond (.t 13)
 (.seq (.region [oo 2 (.mv (.c (.bool false)))])
 (.ret))
 (.skip)))
 (.seq (.seq (.region [oo 3 (.mv (ci 0))])
 (.block 0 (.loop (.seq (.seq (.region [om 14 3,
 om 15 0,
 oo 16 (.len .str (.t 15)),
 oo 17 (.bin .lss .num (.t 14) (.t 16))])
 (.cond (.t 17)
 (.skip)
 (.exit 0)))
 (.seq (.block 1 (.seq (.region [om 20 0,
 om 21 3,
 oo 22 (.index .str (.t 20) (.t 21)),
 om 4 22])
 (.seq (.region [om 23 4,
 oo 24 (.bin .geq .num (.t 23) (.c (.int .u8 97))),
 om 25 24,
 ⟨some 26, .mv (.t 4), some (25, true)⟩,
 ⟨some 27, .bin .leq .num (.t 26) (.c (.int .u8 122)), some (25, true)⟩,
 oo 28 (.pick (.t 25) (.t 27) (.c (.bool false))),
 om 29 28,
 ⟨some 30, .mv (.t 4), some (29, false)⟩,
 ⟨some 31, .bin .geq .num (.t 30) (.c (.int .u8 65)), some (29, false)⟩,
 ⟨some 32, .mv (.t 31), some (29, false)⟩,
 ⟨some 33, .mv (.t 4), some (32, true)⟩,
 ⟨some 34, .bin .leq .num (.t 33) (.c (.int .u8 90)), some (32, true)⟩,
 ⟨some 35, .pick (.t 32) (.t 34) (.c (.bool false)), some (29, false)⟩,
 oo 36 (.pick (.t 29) (.c (.bool true)) (.t 35)),
 om 5 36])
 (.seq (.region [om 37 5,
 oo 38 (.un .not (.t 37)),
 om 39 38,
 ⟨some 40, .mv (.t 3), some (39, true)⟩,
 ⟨some 41, .bin .eql .num (.t 40) (ci 0), some (39, true)⟩,
 ⟨some 42, .mv (.t 41), some (39, true)⟩,
 ⟨some 43, .mv (.t 4), some (42, false)⟩,
 ⟨some 44, .bin .neq .num (.t 43) (.c (.int .u8 95)), some (42, false)⟩,
 ⟨some 45, .mv (.t 44), some (42, false)⟩,
 ⟨some 46, .mv (.t 4), some (45, true)⟩,
 ⟨some 47, .bin .lss .num (.t 46) (.c (.int .u8 48)), some (45, true)⟩,
 ⟨some 48, .mv (.t 47), some (45, true)⟩,
 ⟨some 49, .mv (.t 4), some (48, false)⟩,
 ⟨some 50, .bin .gtr .num (.t 49) (.c (.int .u8 57)), some (48, false)⟩,
 ⟨some 51, .pick (.t 48) (.c (.bool true)) (.t 50), some (45, true)⟩,
 ⟨some 52, .pick (.t 45) (.t 51) (.c (.bool false)), some (42, false)⟩,
 ⟨some 53, .pick (.t 42) (.c (.bool true)) (.t 52), some (39, true)⟩,
 oo 54 (.pick (.t 39) (.t 53) (.c (.bool false)))])
 (.cond (.t 54)
 (.seq (.region [oo 2 (.mv (.c (.bool false)))])
 (.ret))
 (.skip))))))
 (.region [om 18 3,
 oo 19 (.bin .add .num (.t 18) (ci 1)),
 om 3 19]))))))
 (.seq (.region [oo 2 (.mv (.c (.bool true)))])
 (.ret))))⟩

/- codend/codendref01.First -/
def F92 : AFunc := ⟨19, [.tmp 2],
 .seq (.region [oo 2 (.mv (ci 0))])
 (.seq (.seq (.region [oo 3 (.mv (ci 0))])
 (.block 0 (.loop (.seq (.seq (.region [om 4 3,
 om 5 0,
 oo 6 (.len .sl (.t 5)),
 oo 7 (.bin .lss .num (.t 4) (.t 6))])
 (.cond (.t 7)
 (.skip)
 (.exit 0)))
 (.seq (.block 1 (.seq (.region [om 10 0,
 om 11 3,
 oo 12 (.indexAddr (.sl 1) (.t 10) (.t 11)),
 oo 13 (.load 1 false (.t 12)),
 oo 14 (.bin .neq .num (.t 13) (ci 0))])
 (.cond (.t 14)
 (.seq (.region [om 15 0,
 om 16 3,
 oo 17 (.indexAddr (.sl 1) (.t 15) (.t 16)),
 oo 18 (.load 1 false (.t 17)),
 om 2 18])
 (.ret))
 (.skip))))
 (.region [om 8 3,
 oo 9 (.bin .add .num (.t 8) (ci 1)),
 om 3 9]))))))
 (.seq (.region [oo 2 (.mv (ci 0))])
 (.ret)))⟩

/- codend/codendref03.checkSide -/
def F93 : AFunc := ⟨39, [.tmp 2],
 .seq (.region [oo 2 (.mv (ci 0))])
 (.seq (.seq (.region [om 6 0,
 oo 7 (.len .sl (.t 6)),
 oo 8 (.bin .gtr .num (.t 7) (ci 64))])
 (.cond (.t 8)
 (.seq (.region [oo 2 (.mv (ci 5))])
 (.ret))
 (.skip)))
 (.seq (.region [oo 3 (.mv (ci 0))])
 (.seq (.seq (.region [oo 4 (.mv (ci 0))])
 (.block 0 (.loop (.seq (.seq (.region [om 9 4,
 om 10 0,
 oo 11 (.len .sl (.t 10)),
 oo 12 (.bin .lss .num (.t 9) (.t 11))])
 (.cond (.t 12)
 (.skip)
 (.exit 0)))
 (.seq (.block 1 (.seq (.region [om 15 0,
 om 16 4,
 oo 17 (.indexAddr (.sl 3) (.t 15) (.t 16)),
 oo 18 (.load 3 true (.t 17)),
 oo 19 (.call 57 [(.t 18)]),
 om 5 19])
 (.seq (.seq (.region [om 20 5,
 oo 21 (.bin .neq .num (.t 20) (ci 0))])
 (.cond (.t 21)
 (.seq (.region [om 22 5,
 om 2 22])
 (.ret))
 (.skip)))
 (.regionD [qm 23 3,
 qm 24 0,
 qm 25 4,
 oq 26 (.indexAddr (.sl 3) (.t 24) (.t 25)),
 oq 27 (.fieldAddr 0 (.t 26)),
 oq 28 (.load 1 false (.t 27)),
 oq 29 (.len .str (.t 28)),
 qm 30 0,
 qm 31 4,
 oq 32 (.indexAddr (.sl 3) (.t 30) (.t 31)),
 oq 33 (.fieldAddr 1 (.t 32)),
 oq 34 (.load 1 false (.t 33)),
 oq 35 (.bin .mul .num (.t 29) (.t 34)),
 oq 36 (.bin .add .num (.t 23) (.t 35)),
 qm 3 36]))))
 (.region [om 13 4,
 oo 14 (.bin .add .num (.t 13) (ci 1)),
 om 4 14]))))))
 (.seq (.seq (.region [om 37 3,
 oo 38 (.bin .gtr .num (.t 37) (ci 512))])
 (.cond (.t 38)
 (.seq (.region [oo 2 (.mv (ci 5))])
 (.ret))
 (.skip)))
 (.seq (.region [oo 2 (.mv (ci 0))])
 (.ret))))))⟩

/- codend/codendref03.rise -/
def F94 : AFunc := ⟨28, [.tmp 2],
 .seq (.region [oo 2 (.mv (ci 0))])
 (.seq (.region [oo 3 (.mv (ci 0))])
 (.seq (.seq (.region [oo 4 (.mv (ci 0))])
 (.block 0 (.loop (.seq (.seq (.region [om 5 4,
 om 6 0,
 oo 7 (.len .sl (.t 6)),
 oo 8 (.bin .lss .num (.t 5) (.t 7))])
 (.cond (.t 8)
 (.skip)
 (.exit 0)))
 (.seq (.block 1 (.seq (.seq (.region [om 11 0,
 om 12 4,
 oo 13 (.indexAddr (.sl 2) (.t 11) (.t 12)),
 oo 14 (.fieldAddr 0 (.t 13)),
 oo 15 (.load 1 false (.t 14)),
 oo 16 (.bin .eql .num (.t 15) (.c (.int .u8 78)))])
 (.cond (.t 16)
 (.region [om 17 3,
 oo 18 (.bin .add .num (.t 17) (ci 2)),
 om 3 18])
 (.skip)))
 (.seq (.region [om 19 0,
 om 20 4,
 oo 21 (.indexAddr (.sl 2) (.t 19) (.t 20)),
 oo 22 (.fieldAddr 0 (.t 21)),
 oo 23 (.load 1 false (.t 22)),
 oo 24 (.bin .eql .num (.t 23) (.c (.int .u8 66)))])
 (.cond (.t 24)
 (.region [om 25 3,
 oo 26 (.bin .add .num (.t 25) (ci 1)),
 om 3 26])
 (.skip)))))
 (.region [om 9 4,
 oo 10 (.bin .add .num (.t 9) (ci 1)),
 om 4 10]))))))
 (.seq (.region [om 27 3,
 om 2 27])
 (.ret))))⟩

/- codend/codendref03.Steps -/
def F95 : AFunc := ⟨49, [.tmp 2],
 .seq (.region [oo 2 (.mv (.c (.nilsl)))])
 (.seq (.region [oo 3 (.mv (.c (.nilsl)))])
 (.seq (.seq (.region [oo 4 (.mv (ci 0))])
 (.block 0 (.loop (.seq (.seq (.region [om 7 4,
 om 8 0,
 oo 9 (.len .sl (.t 8)),
 oo 10 (.bin .lss .num (.t 7) (.t 9))])
 (.cond (.t 10)
 (.skip)
 (.exit 0)))
 (.seq (.block 1 (.seq (.region [oo 5 (.mv (ci 0))])
 (.block 2 (.loop (.seq (.seq (.region [om 13 5,
 om 14 0,
 om 15 4,
 oo 16 (.indexAddr (.sl 3) (.t 14) (.t 15)),
 oo 17 (.fieldAddr 1 (.t 16)),
 oo 18 (.load 1 false (.t 17)),
 oo 19 (.bin .lss .num (.t 13) (.t 18))])
 (.cond (.t 19)
 (.skip)
 (.exit 2)))
 (.seq (.block 3 (.seq (.region [oo 6 (.mv (ci 0))])
 (.block 4 (.loop (.seq (.seq (.region [om 22 6,
 om 23 0,
 om 24 4,
 oo 25 (.indexAddr (.sl 3) (.t 23) (.t 24)),
 oo 26 (.fieldAddr 0 (.t 25)),
 oo 27 (.load 1 false (.t 26)),
 oo 28 (.len .str (.t 27)),
 oo 29 (.bin .lss .num (.t 22) (.t 28))])
 (.cond (.t 29)
 (.skip)
 (.exit 4)))
 (.seq (.block 5 (.regionD [qm 32 3,
 qm 33 0,
 qm 34 4,
 oq 35 (.indexAddr (.sl 3) (.t 33) (.t 34)),
 oq 36 (.fieldAddr 0 (.t 35)),
 oq 37 (.load 1 false (.t 36)),
 qm 38 6,
 oq 39 (.index .str (.t 37) (.t 38)),
 qm 40 0,
 qm 41 4,
 oq 42 (.indexAddr (.sl 3) (.t 40) (.t 41)),
 oq 43 (.fieldAddr 2 (.t 42)),
 oq 44 (.load 1 false (.t 43)),
 oq 45 (.build [.int .u8 0, .bool false] [(0, 1, (.t 39)), (1, 1, (.t 44))]),
 oq 46 (.buildSl 2 1 [.int .u8 0, .bool false] [(0, 2, (.t 45))]),
 oq 47 (.append 2 2 none (.t 32) (.t 46)),
 qm 3 47]))
 (.region [om 30 6,
 oo 31 (.bin .add .num (.t 30) (ci 1)),
 om 6 31])))))))
 (.region [om 20 5,
 oo 21 (.bin .add .num (.t 20) (ci 1)),
 om 5 21])))))))
 (.region [om 11 4,
 oo 12 (.bin .add .num (.t 11) (ci 1)),
 om 4 12]))))))
 (.seq (.region [om 48 3,
 om 2 48])
 (.ret))))⟩

/- codend/codendref03.crosses -/
def F96 : AFunc := ⟨23, [.tmp 6],
 .seq (.region [oo 6 (.mv (.c (.bool false)))])
 (.seq (.seq (.region [oo 7 (.mv (ci 0))])
 (.block 0 (.loop (.seq (.seq (.region [om 8 7,
 om 9 2,
 oo 10 (.bin .leq .num (.t 8) (.t 9))])
 (.cond (.t 10)
 (.skip)
 (.exit 0)))
 (.seq (.block 1 (.seq (.region [om 13 1,
 om 14 7,
 oo 15 (.call 163 [(.t 13), (.t 14)]),
 oo 16 (.index (.arr 2 1 false) (.t 15) (ci 0)),
 om 17 0,
 om 18 7,
 oo 19 (.call 163 [(.t 17), (.t 18)]),
 oo 20 (.index (.arr 2 1 false) (.t 19) (ci 1)),
 oo 21 (.bin .sub .num (.t 16) (.t 20)),
 oo 22 (.bin .lss .num (.t 21) (ci 2))])
 (.cond (.t 22)
 (.seq (.region [oo 6 (.mv (.c (.bool true)))])
 (.ret))
 (.skip))))
 (.region [om 11 7,
 oo 12 (.bin .add .num (.t 11) (ci 1)),
 om 7 12]))))))
 (.seq (.region [oo 6 (.mv (.c (.bool false)))])
 (.ret)))⟩

/- (codend/panel.Panel).around -/
def F99 : AFunc :=
 { ntmps := 52, results := [AResVar.cell 2 4 true], body := (ACode.region [{ dst := some 1, op := AOp.box (AOpd.t 0), guard := none }, { dst := some 2, op := AOp.alloc [AVal.int IntKind.i64 0, AVal.int IntKind.i64 0, AVal.int IntKind.i64 0, AVal.int IntKind.i64 0], guard := none }]).seq ((ACode.regionD [{ o := { dst := some 8, op := AOp.load 4 true (AOpd.t 1), guard := none }, strict := false, apart := [] }, { o := { dst := some 9, op := AOp.call 111 [AOpd.t 8, AOpd.c (AVal.bool false)], guard := none }, strict := true, apart := [] }, { o := { dst := some 10, op := AOp.load 4 true (AOpd.t 1), guard := none }, strict := false, apart := [] }, { o := { dst := some 11, op := AOp.call 111 [AOpd.t 10, AOpd.c (AVal.bool true)], guard := none }, strict := false, apart := [] }, { o := { dst := some 12, op := AOp.buildSl 1 2 [AVal.nilsl, AVal.nilsl] [(0, 1, AOpd.t 9), (1, 1, AOpd.t 11)], guard := none }, strict := false, apart := [] }, { o := { dst := some 13, op := AOp.call 166 [AOpd.t 12], guard := none }, strict := false, apart := [] }, { o := { dst := some 3, op := AOp.mv (AOpd.t 13), guard := none }, strict := false, apart := [] }]).seq ((ACode.regionD [{ o := { dst := some 14, op := AOp.mv (AOpd.t 3), guard := none }, strict := false, apart := [] }, { o := { dst := some 15, op := AOp.indexAddr (IxK.sl 2) (AOpd.t 14) (AOpd.c (AVal.int IntKind.i64 0)), guard := none }, strict := false, apart := [] }, { o := { dst := some 16, op := AOp.fieldAddr 0 (AOpd.t 15), guard := none }, strict := false, apart := [] }, { o := { dst := some 17, op := AOp.load 1 false (AOpd.t 16), guard := none }, strict := false, apart := [] }, { o := { dst := some 18, op := AOp.mv (AOpd.t 3), guard := none }, strict := false, apart := [] }, { o := { dst := some 19, op := AOp.indexAddr (IxK.sl 2) (AOpd.t 18) (AOpd.c (AVal.int IntKind.i64 0)), guard := none }, strict := false, apart := [] }, { o := { dst := some 20, op := AOp.fieldAddr 0 (AOpd.t 19), guard := none }, strict := false, apart := [] }, { o := { dst := some 21, op := AOp.load 1 false (AOpd.t 20), guard := none }, strict := false, apart := [] }, { o := { dst := some 4, op := AOp.mv (AOpd.t 17), guard := none }, strict := false, apart := [] }, { o := { dst := some 5, op := AOp.mv (AOpd.t 21), guard := none }, strict := false, apart := [] }]).seq (((ACode.region [{ dst := some 22, op := AOp.mv (AOpd.t 3), guard := none }, { dst := some 23, op := AOp.len LenK.sl (AOpd.t 22), guard := none }, { dst := some 24, op := AOp.mv (AOpd.c (AVal.int IntKind.i64 0)), guard := none }]).seq (ACode.block 0 ((ACode.region [{ dst := some 25, op := AOp.bin BinOp.lss BinK.num (AOpd.t 24) (AOpd.t 23), guard := none }]).seq ((ACode.cond (AOpd.t 25) ACode.skip (ACode.exit 0)).seq ((ACode.block 1 ((ACode.region [{ dst := some 26, op := AOp.indexAddr (IxK.sl 2) (AOpd.t 22) (AOpd.t 24), guard := none }, { dst := some 27, op := AOp.load 2 true (AOpd.t 26), guard := none }, { dst := some 7, op := AOp.alloc [AVal.int IntKind.i64 0, AVal.int IntKind.i64 0], guard := none }, { dst := none, op := AOp.store 2 (AOpd.t 7) (AOpd.t 27), guard := none }]).seq (ACode.regionD [{ o := { dst := some 28, op := AOp.mv (AOpd.t 4), guard := none }, strict := false, apart := [] }, { o := { dst := some 29, op := AOp.fieldAddr 0 (AOpd.t 7), guard := none }, strict := false, apart := [] }, { o := { dst := some 30, op := AOp.load 1 false (AOpd.t 29), guard := none }, strict := false, apart := [] }, { o := { dst := some 31, op := AOp.min (AOpd.t 28) (AOpd.t 30), guard := none }, strict := false, apart := [] }, { o := { dst := some 32, op := AOp.mv (AOpd.t 5), guard := none }, strict := false, apart := [] }, { o := { dst := some 33, op := AOp.fieldAddr 0 (AOpd.t 7), guard := none }, strict := false, apart := [] }, { o := { dst := some 34, op := AOp.load 1 false (AOpd.t 33), guard := none }, strict := false, apart := [] }, { o := { dst := some 35, op := AOp.max (AOpd.t 32) (AOpd.t 34), guard := none }, strict := false, apart := [] }, { o := { dst := some 4, op := AOp.mv (AOpd.t 31), guard := none }, strict := false, apart := [] }, { o := { dst := some 5, op := AOp.mv (AOpd.t 35), guard := none }, strict := false, apart := [] }]))).seq (ACode.region [{ dst := some 36, op := AOp.bin BinOp.add BinK.num (AOpd.t 24) (AOpd.c (AVal.int IntKind.i64 1)), guard := none }, { dst := some 24, op := AOp.mv (AOpd.t 36), guard := none }])))).loop)).seq (((ACode.region [{ dst := some 37, op := AOp.mv (AOpd.t 4), guard := none }, { dst := some 38, op := AOp.bin BinOp.rem BinK.num (AOpd.t 37) (AOpd.c (AVal.int IntKind.i64 2)), guard := none }, { dst := some 39, op := AOp.bin BinOp.neq BinK.num (AOpd.t 38) (AOpd.c (AVal.int IntKind.i64 0)), guard := none }]).seq (ACode.cond (AOpd.t 39) (ACode.region [{ dst := some 40, op := AOp.mv (AOpd.t 4), guard := none }, { dst := some 41, op := AOp.bin BinOp.sub BinK.num (AOpd.t 40) (AOpd.c (AVal.int IntKind.i64 1)), guard := none }, { dst := some 4, op := AOp.mv (AOpd.t 41), guard := none }]) ACode.skip)).seq ((ACode.region [{ dst := some 42, op := AOp.mv (AOpd.t 4), guard := none }, { dst := some 43, op := AOp.build [AVal.int IntKind.i64 0, AVal.int IntKind.i64 0] [(0, 1, AOpd.t 42)], guard := none }, { dst := some 44, op := AOp.mv (AOpd.t 5), guard := none }, { dst := some 45, op := AOp.mv (AOpd.t 4), guard := none }, { dst := some 46, op := AOp.bin BinOp.sub BinK.num (AOpd.t 44) (AOpd.t 45), guard := none }, { dst := some 47, op := AOp.bin BinOp.add BinK.num (AOpd.t 46) (AOpd.c (AVal.int IntKind.i64 1)), guard := none }, { dst := some 48, op := AOp.bin BinOp.quo BinK.num (AOpd.t 47) (AOpd.c (AVal.int IntKind.i64 2)), guard := none }, { dst := some 49, op := AOp.load 4 true (AOpd.t 1), guard := none }, { dst := some 50, op := AOp.call 89 [AOpd.t 49], guard := none }, { dst := some 51, op := AOp.build [AVal.int IntKind.i64 0, AVal.int IntKind.i64 0, AVal.int IntKind.i64 0, AVal.int IntKind.i64 0] [(0, 2, AOpd.t 43), (2, 1, AOpd.t 48), (3, 1, AOpd.t 50)], guard := none }, { dst := none, op := AOp.store 4 (AOpd.t 2) (AOpd.t 51), guard := none }]).seq ACode.ret))))) }
/- codend/netting.Sheet -/
def F100 : AFunc := ⟨48, [.tmp 6, .tmp 7],
 .seq (.region [oo 3 (.box (.t 0)),
 oo 6 (.mv (.c (.nilsl))),
 oo 7 (.mv (ci 0))])
 (.seq (.region [oo 10 (.load 2 true (.t 3)),
 oo 11 (.call 152 [(.t 10)]),
 om 12 1,
 oo 13 (.call 167 [(.t 12), (ci 1), (ci 256)]),
 om 14 2,
 oo 15 (.call 167 [(.t 14), (ci 1), (ci 256)]),
 oo 16 (.buildSl 1 3 [.int .i64 0, .int .i64 0, .int .i64 0] [(0, 1, (.t 11)), (1, 1, (.t 13)), (2, 1, (.t 15))]),
 oo 17 (.call 150 [(.t 16)]),
 om 8 17])
 (.seq (.seq (.region [om 18 8,
 oo 19 (.bin .neq .num (.t 18) (ci 0))])
 (.cond (.t 19)
 (.seq (.region [om 20 8,
 oo 6 (.mv (.c (.nilsl))),
 om 7 20])
 (.ret))
 (.skip)))
 (.seq (.seq (.regionD [qm 21 1,
 oq 22 (.bin .mul .num (ci 2) (.t 21)),
 qm 23 2,
 oq 24 (.bin .mul .num (.t 22) (.t 23)),
 oq 25 (.bin .gtr .num (.t 24) (ci 4096)),
 ⟨⟨some 26, .call 168 [(.t 25), (ci 5)], none⟩, true, []⟩,
 oq 27 (.fieldAddr 0 (.t 3)),
 oq 28 (.load 1 false (.t 27)),
 qm 29 1,
 oq 30 (.bin .mul .num (ci 2) (.t 29)),
 oq 31 (.bin .add .num (.t 28) (.t 30)),
 oq 32 (.fieldAddr 1 (.t 3)),
 oq 33 (.load 1 false (.t 32)),
 qm 34 2,
 oq 35 (.bin .add .num (.t 33) (.t 34)),
 oq 36 (.build [.int .i64 0, .int .i64 0] [(0, 1, (.t 31)), (1, 1, (.t 35))]),
 oq 37 (.call 169 [(.t 36)]),
 oq 38 (.buildSl 1 2 [.int .i64 0, .int .i64 0] [(0, 1, (.t 26)), (1, 1, (.t 37))]),
 oq 39 (.call 150 [(.t 38)]),
 qm 9 39])
 (.seq (.region [om 40 9,
 oo 41 (.bin .neq .num (.t 40) (ci 0))])
 (.cond (.t 41)
 (.seq (.region [om 42 9,
 oo 6 (.mv (.c (.nilsl))),
 om 7 42])
 (.ret))
 (.skip))))
 (.seq (.region [oo 43 (.load 2 true (.t 3)),
 om 44 1,
 om 45 2,
 oo 46 (.call 171 [(.t 43), (.t 44), (.t 45)]),
 oo 47 (.call 170 [(.t 46)]),
 om 6 47,
 oo 7 (.mv (ci 0))])
 (.ret)))))⟩

/- codend/netting.Minus -/
def F101 : AFunc := ⟨11, [.tmp 4, .tmp 5],
 .seq (.region [oo 4 (.mv (.c (.nilsl))),
 oo 5 (.mv (ci 0))])
 (.seq (.region [om 6 0,
 om 7 1,
 oo 8 (.call 145 [(.t 6), (.t 7), (.f 172)]),
 oo 9 (.extract 0 (.t 8)),
 oo 10 (.extract 1 (.t 8)),
 om 4 9,
 om 5 10])
 (.ret))⟩

/- (codend/panel.Panel).strips -/
def F104 : AFunc := ⟨18, [.tmp 2],
 .seq (.region [oo 1 (.box (.t 0)),
 oo 2 (.mv (.c (.nilsl)))])
 (.seq (.region [oo 5 (.load 4 true (.t 1)),
 oo 6 (.call 89 [(.t 5)]),
 oo 7 (.mkSl 4 32 [.int .i64 0, .int .i64 0, .int .i64 0, .int .i64 0] (.t 6) (.t 6)),
 oo 3 (.alloc [.nilsl]),
 ⟨none, .store 1 (.t 3) (.t 7), none⟩])
 (.seq (.region [oo 8 (.mkFunc 175 [] [(.t 3)]),
 om 4 8])
 (.seq (.region [om 9 4,
 oo 10 (.load 4 true (.t 1)),
 oo 11 (.call 111 [(.t 10), (.c (.bool false))]),
 oo 12 (.dyn (.t 9) [(.t 11), (ci 0)])])
 (.seq (.region [om 13 4,
 oo 14 (.load 4 true (.t 1)),
 oo 15 (.call 111 [(.t 14), (.c (.bool true))]),
 oo 16 (.dyn (.t 13) [(.t 15), (ci 1)])])
 (.seq (.region [oo 17 (.load 1 false (.t 3)),
 om 2 17])
 (.ret))))))⟩

/- codend/panel.first -/
def F105 : AFunc := ⟨15, [.tmp 2],
 .seq (.region [oo 2 (.mv (ci 0))])
 (.seq (.seq (.region [om 5 0,
 oo 6 (.len .sl (.t 5)),
 oo 7 (.mv (ci 0))])
 (.block 0 (.loop (.seq (.region [oo 8 (.bin .lss .num (.t 7) (.t 6))])
 (.seq (.cond (.t 8)
 (.skip)
 (.exit 0))
 (.seq (.block 1 (.seq (.region [oo 9 (.indexAddr (.sl 1) (.t 5) (.t 7)),
 oo 10 (.load 1 false (.t 9)),
 om 4 10])
 (.seq (.region [om 11 4,
 oo 12 (.bin .neq .num (.t 11) (ci 0))])
 (.cond (.t 12)
 (.seq (.region [om 13 4,
 om 2 13])
 (.ret))
 (.skip)))))
 (.region [oo 14 (.bin .add .num (.t 7) (ci 1)),
 om 7 14])))))))
 (.seq (.region [oo 2 (.mv (ci 0))])
 (.ret)))⟩

/- (codend/panel.Panel).corners -/
def F106 : AFunc := ⟨20, [.cell 2 8 true],
 .seq (.region [oo 1 (.box (.t 0)),
 oo 2 (.alloc [.int .i64 0, .int .i64 0, .int .i64 0, .int .i64 0, .int .i64 0, .int .i64 0, .int .i64 0, .int .i64 0])])
 (.seq (.regionD [oq 5 (.load 4 true (.t 1)),
 ⟨⟨some 6, .call 111 [(.t 5), (.c (.bool false))], none⟩, true, []⟩,
 oq 7 (.load 4 true (.t 1)),
 oq 8 (.call 111 [(.t 7), (.c (.bool true))]),
 qm 3 6,
 qm 4 8])
 (.seq (.regionD [qm 9 3,
 oq 10 (.indexAddr (.sl 2) (.t 9) (ci 0)),
 oq 11 (.load 2 true (.t 10)),
 qm 12 4,
 oq 13 (.indexAddr (.sl 2) (.t 12) (ci 0)),
 oq 14 (.load 2 true (.t 13)),
 qm 15 3,
 ⟨⟨some 16, .call 136 [(.t 15)], none⟩, true, []⟩,
 qm 17 4,
 ⟨⟨some 18, .call 136 [(.t 17)], none⟩, true, []⟩,
 oq 19 (.build [.int .i64 0, .int .i64 0, .int .i64 0, .int .i64 0, .int .i64 0, .int .i64 0, .int .i64 0, .int .i64 0] [(0, 2, (.t 11)), (2, 2, (.t 14)), (4, 2, (.t 16)), (6, 2, (.t 18))]),
 ⟨⟨none, .store 8 (.t 2) (.t 19), none⟩, false, []⟩])
 (.ret)))⟩

/- codend/panel.checked -/
def F107 : AFunc := ⟨12, [.cell 2 4 true, .tmp 3],
 .seq (.region [oo 1 (.box (.t 0)),
 oo 2 (.alloc [.str [], .int .i64 0, .nilsl, .nilsl]),
 oo 3 (.mv (ci 0))])
 (.seq (.seq (.region [oo 5 (.load 4 true (.t 1)),
 oo 6 (.call 58 [(.t 5)]),
 om 4 6])
 (.seq (.region [om 7 4,
 oo 8 (.bin .neq .num (.t 7) (ci 0))])
 (.cond (.t 8)
 (.seq (.region [oo 9 (.build [.str [], .int .i64 0, .nilsl, .nilsl] []),
 om 10 4,
 ⟨none, .store 4 (.t 2) (.t 9), none⟩,
 om 3 10])
 (.ret))
 (.skip))))
 (.seq (.region [oo 11 (.load 4 true (.t 1)),
 ⟨none, .store 4 (.t 2) (.t 11), none⟩,
 oo 3 (.mv (ci 0))])
 (.ret)))⟩

/- codend/panel.joined -/
def F108 : AFunc := ⟨22, [.tmp 4],
 .seq (.region [oo 4 (.mv (.c (.nilsl)))])
 (.seq (.region [om 6 0,
 oo 7 (.len .sl (.t 6)),
 om 8 1,
 oo 9 (.len .sl (.t 8)),
 oo 10 (.bin .add .num (.t 7) (.t 9)),
 oo 11 (.mkSl 3 32 [.str [], .int .i64 0, .bool false] (.t 10) (.t 10)),
 om 5 11])
 (.seq (.region [om 12 5,
 om 13 0,
 oo 14 (.copy 3 (.t 12) (.t 13))])
 (.seq (.region [om 15 5,
 om 16 0,
 oo 17 (.len .sl (.t 16)),
 oo 18 (.slice (.sl 3) (.t 15) (some (.t 17)) none none),
 om 19 1,
 oo 20 (.copy 3 (.t 18) (.t 19))])
 (.seq (.region [om 21 5,
 om 4 21])
 (.ret)))))⟩

/- codend/panel.within -/
def F109 : AFunc := ⟨16, [.tmp 6],
 .seq (.region [oo 6 (.mv (ci 0))])
 (.seq (.region [om 7 0,
 om 8 1,
 oo 9 (.bin .lss .num (.t 7) (.t 8)),
 om 10 9,
 ⟨some 11, .mv (.t 0), some (10, false)⟩,
 ⟨some 12, .mv (.t 2), some (10, false)⟩,
 ⟨some 13, .bin .gtr .num (.t 11) (.t 12), some (10, false)⟩,
 oo 14 (.pick (.t 10) (.c (.bool true)) (.t 13)),
 oo 15 (.call 133 [(.t 14), (ci 3)]),
 om 6 15])
 (.ret))⟩

/- slices.Clone[[]codend/panel.Edge,codend/panel.Edge] -/
def F110 : AFunc := ⟨8, [.tmp 2],
 .seq (.region [oo 2 (.mv (.c (.nilsl)))])
 (.seq (.seq (.region [om 3 0,
 oo 4 (.bin .eql (.nilc .sl) (.t 3) (.c (.nilsl)))])
 (.cond (.t 4)
 (.seq (.region [oo 2 (.mv (.c (.nilsl)))])
 (.ret))
 (.skip)))
 (.seq (.region [oo 5 (.buildSl 3 0 [] []),
 om 6 0,
 oo 7 (.append 3 32 none (.t 5) (.t 6)),
 om 2 7])
 (.ret)))⟩

/- (codend/panel.Panel).outline -/
def F111 : AFunc := ⟨37, [.tmp 4],
 .seq (.region [oo 2 (.box (.t 0)),
 oo 3 (.box (.t 1)),
 oo 4 (.mv (.c (.nilsl)))])
 (.seq (.regionD [oq 9 (.build [.int .i64 0, .int .i64 0] []),
 oq 10 (.fieldAddr 2 (.t 2)),
 oq 11 (.load 1 false (.t 10)),
 oq 5 (.alloc [.int .i64 0, .int .i64 0]),
 ⟨⟨none, .store 2 (.t 5) (.t 9), none⟩, false, [(.t 10)]⟩,
 qm 6 11])
 (.seq (.seq (.region [oo 12 (.load 1 false (.t 3))])
 (.cond (.t 12)
 (.regionD [oq 13 (.fieldAddr 1 (.t 2)),
 oq 14 (.load 1 false (.t 13)),
 oq 15 (.bin .mul .num (ci 2) (.t 14)),
 oq 16 (.build [.int .i64 0, .int .i64 0] [(0, 1, (.t 15))]),
 oq 17 (.fieldAddr 3 (.t 2)),
 oq 18 (.load 1 false (.t 17)),
 ⟨⟨none, .store 2 (.t 5) (.t 16), none⟩, false, [(.t 17)]⟩,
 qm 6 18])
 (.skip)))
 (.seq (.region [oo 19 (.load 2 true (.t 5)),
 oo 20 (.buildSl 2 1 [.int .i64 0, .int .i64 0] [(0, 2, (.t 19))]),
 oo 7 (.alloc [.nilsl]),
 ⟨none, .store 1 (.t 7) (.t 20), none⟩])
 (.seq (.seq (.region [om 21 6,
 oo 22 (.call 114 [(.t 21)])])
 (.block 0 (.rangeFunc (.t 22) [23] (.region [oo 8 (.alloc [.int .u8 0, .bool false]),
 ⟨none, .store 2 (.t 8) (.t 23), none⟩])
 (.block 1 (.seq (.region [oo 24 (.load 2 true (.t 5)),
 oo 25 (.fieldAddr 0 (.t 8)),
 oo 26 (.load 1 false (.t 25)),
 oo 27 (.fieldAddr 1 (.t 8)),
 oo 28 (.load 1 false (.t 27)),
 oo 29 (.load 1 false (.t 3)),
 ⟨some 30, .bin .eql (.eq ⟨false, [.b]⟩) (.t 28) (.t 29), none⟩,
 oo 31 (.call 176 [(.t 24), (.t 26), (.t 30)]),
 ⟨none, .store 2 (.t 5) (.t 31), none⟩])
 (.region [oo 32 (.load 1 false (.t 7)),
 oo 33 (.load 2 true (.t 5)),
 oo 34 (.buildSl 2 1 [.int .i64 0, .int .i64 0] [(0, 2, (.t 33))]),
 oo 35 (.append 2 16 none (.t 32) (.t 34)),
 ⟨none, .store 1 (.t 7) (.t 35), none⟩]))))))
 (.seq (.region [oo 36 (.load 1 false (.t 7)),
 om 4 36])
 (.ret))))))⟩

/- codend/panel.split -/
def F112 : AFunc := ⟨8, [.tmp 4],
 .seq (.region [oo 3 (.box (.t 1)),
 oo 4 (.mv (ci 0))])
 (.seq (.region [om 5 0,
 oo 6 (.mkFunc 178 [] [(.t 3)]),
 oo 7 (.call 177 [(.t 5), (.t 6)]),
 om 4 7])
 (.ret))⟩

/- slices.Collect[codend/panel.letter] -/
def F113 : AFunc := ⟨5, [.tmp 2],
 .seq (.region [oo 2 (.mv (.c (.nilsl)))])
 (.seq (.region [om 3 0,
 oo 4 (.call 179 [(.c (.nilsl)), (.t 3)]),
 om 2 4])
 (.ret))⟩

/- codend/panel.letters -/
def F114 : AFunc := ⟨4, [.tmp 2],
 .seq (.region [oo 1 (.box (.t 0)),
 oo 2 (.mv (.c (.nilfunc)))])
 (.seq (.region [oo 3 (.mkFunc 180 [] [(.t 1)]),
 om 2 3])
 (.ret))⟩

/- codend/panel.plain -/
def F115 : AFunc := ⟨45, [.tmp 2],
 .seq (.region [oo 2 (.mv (.c (.nilsl)))])
 (.seq (.region [oo 3 (.alloc [.nilsl])])
 (.seq (.region [oo 4 (.alloc [.str []]),
 oo 5 (.alloc [.int .i64 0]),
 ⟨none, .store 1 (.t 4) (.c (.str [])), none⟩,
 ⟨none, .store 1 (.t 5) (ci 0), none⟩])
 (.seq (.region [oo 10 (.mkFunc 181 [] [(.t 4), (.t 3), (.t 5)]),
 om 6 10])
 (.seq (.seq (.region [om 11 0,
 oo 12 (.len .sl (.t 11)),
 oo 13 (.mv (ci 0))])
 (.block 0 (.loop (.seq (.region [oo 14 (.bin .lss .num (.t 13) (.t 12))])
 (.seq (.cond (.t 14)
 (.skip)
 (.exit 0))
 (.seq (.block 1 (.seq (.region [oo 15 (.indexAddr (.sl 2) (.t 11) (.t 13)),
 oo 16 (.load 2 true (.t 15)),
 oo 8 (.alloc [.int .u8 0, .bool false]),
 ⟨none, .store 2 (.t 8) (.t 16), none⟩])
 (.seq (.region [oo 9 (.mv (ci 0))])
 (.seq (.seq (.region [oo 17 (.fieldAddr 0 (.t 8)),
 oo 18 (.load 1 false (.t 17)),
 oo 19 (.bin .neq .num (.t 18) (.c (.int .u8 78)))])
 (.cond (.t 19)
 (.seq (.region [oo 9 (.mv (ci (-1)))])
 (.seq (.region [oo 20 (.fieldAddr 1 (.t 8)),
 oo 21 (.load 1 false (.t 20))])
 (.cond (.t 21)
 (.region [oo 9 (.mv (ci 1))])
 (.skip))))
 (.skip)))
 (.seq (.seq (.region [oo 22 (.load 1 false (.t 4)),
 oo 23 (.len .str (.t 22)),
 oo 24 (.bin .eql .num (.t 23) (ci 64)),
 om 25 24,
 ⟨some 26, .mv (.t 9), some (25, false)⟩,
 ⟨some 27, .load 1 false (.t 5), some (25, false)⟩,
 ⟨some 28, .bin .mul .num (.t 26) (.t 27), some (25, false)⟩,
 ⟨some 29, .bin .lss .num (.t 28) (ci 0), some (25, false)⟩,
 oo 30 (.pick (.t 25) (.c (.bool true)) (.t 29))])
 (.cond (.t 30)
 (.region [om 31 6,
 oo 32 (.dyn (.t 31) [])])
 (.skip)))
 (.seq (.region [oo 33 (.load 1 false (.t 4)),
 oo 34 (.fieldAddr 0 (.t 8)),
 oo 35 (.load 1 false (.t 34)),
 oo 36 (.conv .intStr (.t 35)),
 oo 37 (.bin .add .strs (.t 33) (.t 36)),
 ⟨none, .store 1 (.t 4) (.t 37), none⟩])
 (.seq (.region [om 38 9,
 oo 39 (.bin .neq .num (.t 38) (ci 0))])
 (.cond (.t 39)
 (.region [om 40 9,
 ⟨none, .store 1 (.t 5) (.t 40), none⟩])
 (.skip)))))))))
 (.region [oo 41 (.bin .add .num (.t 13) (ci 1)),
 om 13 41])))))))
 (.seq (.region [om 42 6,
 oo 43 (.dyn (.t 42) [])])
 (.seq (.region [oo 44 (.load 1 false (.t 3)),
 om 2 44])
 (.ret)))))))⟩

/- codend/codendref03.SameEdges -/
def F118 : AFunc := ⟨26, [.tmp 4],
 .seq (.region [oo 4 (.mv (.c (.bool false)))])
 (.seq (.seq (.region [om 6 0,
 oo 7 (.len .sl (.t 6)),
 om 8 1,
 oo 9 (.len .sl (.t 8)),
 oo 10 (.bin .neq .num (.t 7) (.t 9))])
 (.cond (.t 10)
 (.seq (.region [oo 4 (.mv (.c (.bool false)))])
 (.ret))
 (.skip)))
 (.seq (.seq (.region [oo 5 (.mv (ci 0))])
 (.block 0 (.loop (.seq (.seq (.region [om 11 5,
 om 12 0,
 oo 13 (.len .sl (.t 12)),
 oo 14 (.bin .lss .num (.t 11) (.t 13))])
 (.cond (.t 14)
 (.skip)
 (.exit 0)))
 (.seq (.block 1 (.seq (.regionD [qm 17 0,
 qm 18 5,
 oq 19 (.indexAddr (.sl 3) (.t 17) (.t 18)),
 oq 20 (.load 3 true (.t 19)),
 qm 21 1,
 qm 22 5,
 oq 23 (.indexAddr (.sl 3) (.t 21) (.t 22)),
 oq 24 (.load 3 true (.t 23)),
 ⟨⟨some 25, .bin .neq (.eq ⟨true, [.s, .i, .b]⟩) (.t 20) (.t 24), none⟩, false, []⟩])
 (.cond (.t 25)
 (.seq (.region [oo 4 (.mv (.c (.bool false)))])
 (.ret))
 (.skip))))
 (.region [om 15 5,
 oo 16 (.bin .add .num (.t 15) (ci 1)),
 om 5 16]))))))
 (.seq (.region [oo 4 (.mv (.c (.bool true)))])
 (.ret))))⟩

/- codend/codendlaw03.edges -/
def F119 : AFunc := ⟨19, [.tmp 2],
 .seq (.region [oo 2 (.mv (.c (.nilsl)))])
 (.seq (.region [oo 3 (.mv (.c (.nilsl)))])
 (.seq (.seq (.region [om 5 0,
 oo 6 (.len .sl (.t 5)),
 oo 7 (.mv (ci 0))])
 (.block 0 (.loop (.seq (.region [oo 8 (.bin .lss .num (.t 7) (.t 6))])
 (.seq (.cond (.t 8)
 (.skip)
 (.exit 0))
 (.seq (.block 1 (.seq (.region [om 9 7,
 om 4 9])
 (.region [om 10 3,
 om 11 0,
 om 12 4,
 oo 13 (.indexAddr (.sl 3) (.t 11) (.t 12)),
 oo 14 (.load 3 true (.t 13)),
 oo 15 (.buildSl 3 1 [.str [], .int .i64 0, .bool false] [(0, 3, (.t 14))]),
 oo 16 (.append 3 32 none (.t 10) (.t 15)),
 om 3 16])))
 (.region [oo 17 (.bin .add .num (.t 7) (ci 1)),
 om 7 17])))))))
 (.seq (.region [om 18 3,
 om 2 18])
 (.ret))))⟩

/- codend/panel.checkAll -/
def F120 : AFunc := ⟨30, [.tmp 2],
 .seq (.region [oo 2 (.mv (ci 0))])
 (.seq (.seq (.region [om 6 0,
 oo 7 (.len .sl (.t 6)),
 oo 8 (.bin .gtr .num (.t 7) (ci 16))])
 (.cond (.t 8)
 (.seq (.region [oo 2 (.mv (ci 5))])
 (.ret))
 (.skip)))
 (.seq (.seq (.region [om 9 0,
 oo 10 (.len .sl (.t 9)),
 oo 11 (.mv (ci 0))])
 (.block 0 (.loop (.seq (.region [oo 12 (.bin .lss .num (.t 11) (.t 10))])
 (.seq (.cond (.t 12)
 (.skip)
 (.exit 0))
 (.seq (.block 1 (.seq (.region [om 13 11,
 oo 14 (.indexAddr (.sl 4) (.t 9) (.t 11)),
 oo 15 (.load 4 true (.t 14)),
 oo 4 (.alloc [.str [], .int .i64 0, .nilsl, .nilsl]),
 om 3 13,
 ⟨none, .store 4 (.t 4) (.t 15), none⟩])
 (.seq (.regionD [oq 16 (.load 4 true (.t 4)),
 ⟨⟨some 17, .call 58 [(.t 16)], none⟩, true, []⟩,
 qm 18 0,
 qm 19 3,
 oq 20 (.slice (.sl 4) (.t 18) none (some (.t 19)) none),
 oq 21 (.load 4 true (.t 4)),
 oq 22 (.call 182 [(.t 20), (.t 21)]),
 oq 23 (.call 133 [(.t 22), (ci 9)]),
 oq 24 (.buildSl 1 2 [.int .i64 0, .int .i64 0] [(0, 1, (.t 17)), (1, 1, (.t 23))]),
 oq 25 (.call 105 [(.t 24)]),
 qm 5 25])
 (.seq (.region [om 26 5,
 oo 27 (.bin .neq .num (.t 26) (ci 0))])
 (.cond (.t 27)
 (.seq (.region [om 28 5,
 om 2 28])
 (.ret))
 (.skip))))))
 (.region [oo 29 (.bin .add .num (.t 11) (ci 1)),
 om 11 29])))))))
 (.seq (.region [oo 2 (.mv (ci 0))])
 (.ret))))⟩

/- strconv.Itoa -/
def F122 : AFunc := ⟨5, [.tmp 2],
 .seq (.region [oo 2 (.mv (.c (.str [])))])
 (.seq (.region [om 3 0,
 oo 4 (.call 184 [(.t 3)]),
 om 2 4])
 (.ret))⟩

/- (codend/panel.Edge).line -/
def F123 : AFunc := ⟨18, [.tmp 4],
 .seq (.region [oo 2 (.box (.t 0)),
 oo 4 (.mv (.c (.str [])))])
 (.seq (.region [oo 5 (.mv (.c (.str [105, 110])))])
 (.seq (.seq (.region [oo 6 (.fieldAddr 2 (.t 2)),
 oo 7 (.load 1 false (.t 6))])
 (.cond (.t 7)
 (.region [oo 5 (.mv (.c (.str [111, 117, 116])))])
 (.skip)))
 (.seq (.regionD [qm 8 1,
 oq 9 (.fieldAddr 0 (.t 2)),
 oq 10 (.load 1 false (.t 9)),
 oq 11 (.fieldAddr 1 (.t 2)),
 oq 12 (.load 1 false (.t 11)),
 ⟨⟨some 13, .call 122 [(.t 12)], none⟩, true, []⟩,
 qm 14 5,
 oq 15 (.buildSl 1 4 [.str [], .str [], .str [], .str []] [(0, 1, (.t 8)), (1, 1, (.t 10)), (2, 1, (.t 13)), (3, 1, (.t 14))]),
 oq 16 (.call 185 [(.t 15), (.c (.str [32]))]),
 oq 17 (.bin .add .strs (.t 16) (.c (.str [10]))),
 qm 4 17])
 (.ret))))⟩

/- (*strings.Builder).Len -/
def F124 : AFunc := ⟨8, [.tmp 2],
 .seq (.region [oo 2 (.mv (ci 0))])
 (.seq (.region [om 3 0,
 oo 4 (.nilChk (.t 3)),
 oo 5 (.fieldAddr 1 (.t 4)),
 oo 6 (.load 1 false (.t 5)),
 oo 7 (.len .sl (.t 6)),
 om 2 7])
 (.ret))⟩

/- (*codend/panel.reader).read -/
def F126 : AFunc := ⟨59, [.tmp 4],
 .seq (.region [oo 4 (.mv (ci 0))])
 (.seq (.region [om 10 1,
 oo 11 (.call 186 [(.t 10), (.c (.str [10]))]),
 om 9 11,
 oo 12 (.extract 0 (.t 9)),
 oo 13 (.extract 1 (.t 9)),
 om 5 12,
 om 6 13])
 (.seq (.region [om 14 5,
 oo 15 (.call 187 [(.t 14), (.c (.str [32]))]),
 om 7 15])
 (.seq (.region [oo 16 (.mkMap),
 oo 17 (.buildSl 1 2 [.str [], .str []] [(0, 1, (.c (.str []))), (1, 1, (.c (.str [101, 110, 100])))]),
 ⟨none, .mapUpd ⟨false, [.s]⟩ (.t 16) (.c (.str [112, 97, 110, 101, 108])) (.t 17), none⟩,
 oo 18 (.buildSl 1 2 [.str [], .str []] [(0, 1, (.c (.str [112, 97, 110, 101, 108]))), (1, 1, (.c (.str [108, 101, 102, 116])))]),
 ⟨none, .mapUpd ⟨false, [.s]⟩ (.t 16) (.c (.str [108, 101, 102, 116])) (.t 18), none⟩,
 oo 19 (.buildSl 1 3 [.str [], .str [], .str []] [(0, 1, (.c (.str [112, 97, 110, 101, 108]))), (1, 1, (.c (.str [108, 101, 102, 116]))), (2, 1, (.c (.str [114, 105, 103, 104, 116])))]),
 ⟨none, .mapUpd ⟨false, [.s]⟩ (.t 16) (.c (.str [114, 105, 103, 104, 116])) (.t 19), none⟩,
 oo 20 (.buildSl 1 3 [.str [], .str [], .str []] [(0, 1, (.c (.str [112, 97, 110, 101, 108]))), (1, 1, (.c (.str [108, 101, 102, 116]))), (2, 1, (.c (.str [114, 105, 103, 104, 116])))]),
 ⟨none, .mapUpd ⟨false, [.s]⟩ (.t 16) (.c (.str [101, 110, 100])) (.t 20), none⟩,
 om 21 16,
 om 8 21])
 (.seq (.seq (.regionD [qm 22 6,
 oq 23 (.un .not (.t 22)),
 qm 24 23,
 ⟨⟨some 25, .mv (.t 8), some (24, false)⟩, false, []⟩,
 ⟨⟨some 26, .mv (.t 7), some (24, false)⟩, false, []⟩,
 ⟨⟨some 27, .indexAddr (.sl 1) (.t 26) (ci 0), some (24, false)⟩, false, []⟩,
 ⟨⟨some 28, .load 1 false (.t 27), some (24, false)⟩, false, []⟩,
 ⟨⟨some 29, .lookup ⟨false, [.s]⟩ (.nilsl) false (.t 25) (.t 28), some (24, false)⟩, false, []⟩,
 ⟨⟨some 30, .mv (.t 0), some (24, false)⟩, false, []⟩,
 ⟨⟨some 31, .nilChk (.t 30), some (24, false)⟩, false, []⟩,
 ⟨⟨some 32, .fieldAddr 5 (.t 31), some (24, false)⟩, false, []⟩,
 ⟨⟨some 33, .load 1 false (.t 32), some (24, false)⟩, false, []⟩,
 ⟨⟨some 34, .call 188 [(.t 29), (.t 33)], some (24, false)⟩, false, []⟩,
 ⟨⟨some 35, .un .not (.t 34), some (24, false)⟩, false, []⟩,
 oq 36 (.pick (.t 24) (.c (.bool true)) (.t 35))])
 (.cond (.t 36)
 (.seq (.region [oo 4 (.mv (ci 25))])
 (.ret))
 (.skip)))
 (.seq (.region [om 37 0,
 om 38 7,
 oo 39 (.indexAddr (.sl 1) (.t 38) (ci 0)),
 oo 40 (.load 1 false (.t 39)),
 oo 41 (.nilChk (.t 37)),
 oo 42 (.fieldAddr 5 (.t 41)),
 ⟨none, .store 1 (.t 42) (.t 40), none⟩])
 (.seq (.seq (.region [om 43 7,
 oo 44 (.indexAddr (.sl 1) (.t 43) (ci 0)),
 oo 45 (.load 1 false (.t 44))])
 (.block 0 (.seq (.region [oo 47 (.bin .eql .strs (.t 45) (.c (.str [112, 97, 110, 101, 108]))),
 om 46 47])
 (.cond (.t 46)
 (.seq (.region [om 48 0,
 om 49 7,
 oo 50 (.call 189 [(.t 48), (.t 49)]),
 om 4 50])
 (.ret))
 (.seq (.region [oo 52 (.bin .eql .strs (.t 45) (.c (.str [101, 110, 100]))),
 om 51 52])
 (.cond (.t 51)
 (.seq (.region [om 53 0,
 om 54 7,
 oo 55 (.call 190 [(.t 53), (.t 54)]),
 om 4 55])
 (.ret))
 (.skip)))))))
 (.seq (.region [om 56 0,
 om 57 7,
 oo 58 (.call 191 [(.t 56), (.t 57)]),
 om 4 58])
 (.ret))))))))⟩

/- strings.Lines -/
def F127 : AFunc := ⟨4, [.tmp 2],
 .seq (.region [oo 1 (.box (.t 0)),
 oo 2 (.mv (.c (.nilfunc)))])
 (.seq (.region [oo 3 (.mkFunc 192 [] [(.t 1)]),
 om 2 3])
 (.ret))⟩

/- codend/panel.when -/
def F133 : AFunc := ⟨7, [.tmp 4],
 .seq (.region [oo 4 (.mv (ci 0))])
 (.seq (.seq (.region [om 5 0])
 (.cond (.t 5)
 (.seq (.region [om 6 1,
 om 4 6])
 (.ret))
 (.skip)))
 (.seq (.region [oo 4 (.mv (ci 0))])
 (.ret)))⟩

/- codend/netting.IsName -/
def F134 : AFunc := ⟨52, [.tmp 2],
 .seq (.region [oo 2 (.mv (.c (.bool false)))])
 (.seq (.seq (.region [om 6 0,
 oo 7 (.len .str (.t 6)),
 oo 8 (.bin .eql .num (.t 7) (ci 0)),
 om 9 8,
 ⟨some 10, .mv (.t 0), some (9, false)⟩,
 ⟨some 11, .len .str (.t 10), some (9, false)⟩,
 ⟨some 12, .bin .gtr .num (.t 11) (ci 24), some (9, false)⟩,
 oo 13 (.pick (.t 9) (.c (.bool true)) (.t 12))])
 (.cond (.t 13)
 (.seq (.region [oo 2 (.mv (.c (.bool false)))])
 (.ret))
 (.skip)))
 (.seq (.seq (.region [om 14 0,
 oo 15 (.range (.t 14))])
 (.block 0 (.loop (.seq (.region [oo 16 (.next (.t 15)),
 oo 17 (.extract 0 (.t 16))])
 (.seq (.cond (.t 17)
 (.skip)
 (.exit 0))
 (.block 1 (.seq (.region [oo 18 (.extract 1 (.t 16)),
 oo 19 (.extract 2 (.t 16)),
 om 3 18,
 om 4 19])
 (.seq (.region [om 20 4,
 oo 21 (.bin .geq .num (.t 20) (.c (.int .i32 65))),
 om 22 21,
 ⟨some 23, .mv (.t 4), some (22, true)⟩,
 ⟨some 24, .bin .leq .num (.t 23) (.c (.int .i32 90)), some (22, true)⟩,
 oo 25 (.pick (.t 22) (.t 24) (.c (.bool false))),
 om 26 25,
 ⟨some 27, .mv (.t 4), some (26, false)⟩,
 ⟨some 28, .bin .geq .num (.t 27) (.c (.int .i32 97)), some (26, false)⟩,
 ⟨some 29, .mv (.t 28), some (26, false)⟩,
 ⟨some 30, .mv (.t 4), some (29, true)⟩,
 ⟨some 31, .bin .leq .num (.t 30) (.c (.int .i32 122)), some (29, true)⟩,
 ⟨some 32, .pick (.t 29) (.t 31) (.c (.bool false)), some (26, false)⟩,
 oo 33 (.pick (.t 26) (.c (.bool true)) (.t 32)),
 om 5 33])
 (.seq (.region [om 34 5,
 oo 35 (.un .not (.t 34)),
 om 36 35,
 ⟨some 37, .mv (.t 3), some (36, true)⟩,
 ⟨some 38, .bin .eql .num (.t 37) (ci 0), some (36, true)⟩,
 ⟨some 39, .mv (.t 38), some (36, true)⟩,
 ⟨some 40, .mv (.t 4), some (39, false)⟩,
 ⟨some 41, .bin .neq .num (.t 40) (.c (.int .i32 95)), some (39, false)⟩,
 ⟨some 42, .mv (.t 41), some (39, false)⟩,
 ⟨some 43, .mv (.t 4), some (42, true)⟩,
 ⟨some 44, .bin .lss .num (.t 43) (.c (.int .i32 48)), some (42, true)⟩,
 ⟨some 45, .mv (.t 44), some (42, true)⟩,
 ⟨some 46, .mv (.t 4), some (45, false)⟩,
 ⟨some 47, .bin .gtr .num (.t 46) (.c (.int .i32 57)), some (45, false)⟩,
 ⟨some 48, .pick (.t 45) (.c (.bool true)) (.t 47), some (42, true)⟩,
 ⟨some 49, .pick (.t 42) (.t 48) (.c (.bool false)), some (39, false)⟩,
 ⟨some 50, .pick (.t 39) (.c (.bool true)) (.t 49), some (36, true)⟩,
 oo 51 (.pick (.t 36) (.t 50) (.c (.bool false)))])
 (.cond (.t 51)
 (.seq (.region [oo 2 (.mv (.c (.bool false)))])
 (.ret))
 (.skip)))))))))))
 (.seq (.region [oo 2 (.mv (.c (.bool true)))])
 (.ret))))⟩

/- codend/panel.checkSide -/
def F135 : AFunc := ⟨33, [.tmp 2],
 .seq (.region [oo 2 (.mv (ci 0))])
 (.seq (.seq (.region [om 7 0,
 oo 8 (.len .sl (.t 7)),
 oo 9 (.bin .gtr .num (.t 8) (ci 64))])
 (.cond (.t 9)
 (.seq (.region [oo 2 (.mv (ci 5))])
 (.ret))
 (.skip)))
 (.seq (.region [oo 3 (.mv (ci 0))])
 (.seq (.seq (.region [om 10 0,
 oo 11 (.len .sl (.t 10)),
 oo 12 (.mv (ci 0))])
 (.block 0 (.loop (.seq (.region [oo 13 (.bin .lss .num (.t 12) (.t 11))])
 (.seq (.cond (.t 13)
 (.skip)
 (.exit 0))
 (.seq (.block 1 (.seq (.region [oo 14 (.indexAddr (.sl 3) (.t 10) (.t 12)),
 oo 15 (.load 3 true (.t 14)),
 oo 5 (.alloc [.str [], .int .i64 0, .bool false]),
 ⟨none, .store 3 (.t 5) (.t 15), none⟩])
 (.seq (.seq (.region [oo 16 (.load 3 true (.t 5)),
 oo 17 (.call 56 [(.t 16)]),
 om 6 17])
 (.seq (.region [om 18 6,
 oo 19 (.bin .neq .num (.t 18) (ci 0))])
 (.cond (.t 19)
 (.seq (.region [om 20 6,
 om 2 20])
 (.ret))
 (.skip))))
 (.region [om 21 3,
 oo 22 (.fieldAddr 0 (.t 5)),
 oo 23 (.load 1 false (.t 22)),
 oo 24 (.len .str (.t 23)),
 oo 25 (.fieldAddr 1 (.t 5)),
 oo 26 (.load 1 false (.t 25)),
 oo 27 (.bin .mul .num (.t 24) (.t 26)),
 oo 28 (.bin .add .num (.t 21) (.t 27)),
 om 3 28]))))
 (.region [oo 29 (.bin .add .num (.t 12) (ci 1)),
 om 12 29])))))))
 (.seq (.region [om 30 3,
 oo 31 (.bin .gtr .num (.t 30) (ci 512)),
 oo 32 (.call 133 [(.t 31), (ci 5)]),
 om 2 32])
 (.ret)))))⟩

/- codend/panel.top -/
def F136 : AFunc := ⟨9, [.cell 2 2 true],
 .seq (.region [oo 2 (.alloc [.int .i64 0, .int .i64 0])])
 (.seq (.region [om 3 0,
 om 4 0,
 oo 5 (.len .sl (.t 4)),
 oo 6 (.bin .sub .num (.t 5) (ci 1)),
 oo 7 (.indexAddr (.sl 2) (.t 3) (.t 6)),
 oo 8 (.load 2 true (.t 7)),
 ⟨none, .store 2 (.t 2) (.t 8), none⟩])
 (.ret))⟩

/- slices.ContainsFunc[[]codend/api.Knot,codend/api.Knot] -/
def F137 : AFunc := ⟨9, [.tmp 4],
 .seq (.region [oo 4 (.mv (.c (.bool false)))])
 (.seq (.region [om 5 0,
 om 6 1,
 oo 7 (.call 177 [(.t 5), (.t 6)]),
 oo 8 (.bin .geq .num (.t 7) (ci 0)),
 om 4 8])
 (.ret))⟩

/- codend/panel.far -/
def F138 : AFunc := ⟨11, [.tmp 2],
 .seq (.region [oo 1 (.box (.t 0)),
 oo 2 (.mv (.c (.bool false)))])
 (.seq (.region [oo 3 (.fieldAddr 0 (.t 1)),
 oo 4 (.load 1 false (.t 3)),
 oo 5 (.bin .lss .num (.t 4) (ci (-4096))),
 om 6 5,
 ⟨some 7, .fieldAddr 0 (.t 1), some (6, false)⟩,
 ⟨some 8, .load 1 false (.t 7), some (6, false)⟩,
 ⟨some 9, .bin .gtr .num (.t 8) (ci 4096), some (6, false)⟩,
 oo 10 (.pick (.t 6) (.c (.bool true)) (.t 9)),
 om 2 10])
 (.ret))⟩

/- codend/panel.reach -/
def F139 : AFunc := ⟨53, [.tmp 2],
 .seq (.region [oo 2 (.mv (.c (.nilsl)))])
 (.seq (.region [om 8 0,
 oo 9 (.call 136 [(.t 8)]),
 oo 10 (.field 1 1 false (.t 9)),
 oo 11 (.bin .add .num (.t 10) (ci 1)),
 oo 12 (.mkSl 2 16 [.int .i64 0, .int .i64 0] (.t 11) (.t 11)),
 oo 3 (.alloc [.nilsl]),
 ⟨none, .store 1 (.t 3) (.t 12), none⟩])
 (.seq (.region [oo 13 (.mkFunc 194 [] [(.t 3)]),
 om 4 13])
 (.seq (.region [om 14 4,
 om 15 0,
 oo 16 (.indexAddr (.sl 2) (.t 15) (ci 0)),
 oo 17 (.fieldAddr 0 (.t 16)),
 oo 18 (.load 1 false (.t 17)),
 oo 19 (.dyn (.t 14) [(ci 0), (.t 18), (.c (.bool true))])])
 (.seq (.seq (.region [om 20 0,
 oo 21 (.slice (.sl 2) (.t 20) (some (ci 1)) none none),
 oo 22 (.len .sl (.t 21)),
 oo 23 (.mv (ci 0))])
 (.block 0 (.loop (.seq (.region [oo 24 (.bin .lss .num (.t 23) (.t 22))])
 (.seq (.cond (.t 24)
 (.skip)
 (.exit 0))
 (.seq (.block 1 (.seq (.region [om 25 23,
 oo 26 (.indexAddr (.sl 2) (.t 21) (.t 23)),
 oo 27 (.load 2 true (.t 26)),
 oo 6 (.alloc [.int .i64 0, .int .i64 0]),
 om 5 25,
 ⟨none, .store 2 (.t 6) (.t 27), none⟩])
 (.seq (.seq (.region [om 28 0,
 om 29 5,
 oo 30 (.indexAddr (.sl 2) (.t 28) (.t 29)),
 oo 31 (.fieldAddr 1 (.t 30)),
 oo 32 (.load 1 false (.t 31)),
 oo 33 (.bin .add .num (.t 32) (ci 1)),
 om 7 33])
 (.block 2 (.loop (.seq (.seq (.region [om 34 7,
 oo 35 (.fieldAddr 1 (.t 6)),
 oo 36 (.load 1 false (.t 35)),
 oo 37 (.bin .leq .num (.t 34) (.t 36))])
 (.cond (.t 37)
 (.skip)
 (.exit 2)))
 (.seq (.block 3 (.region [om 40 4,
 om 41 7,
 oo 42 (.fieldAddr 0 (.t 6)),
 oo 43 (.load 1 false (.t 42)),
 oo 44 (.dyn (.t 40) [(.t 41), (.t 43), (.c (.bool true))])]))
 (.region [om 38 7,
 oo 39 (.bin .add .num (.t 38) (ci 1)),
 om 7 39]))))))
 (.region [om 45 4,
 oo 46 (.fieldAddr 1 (.t 6)),
 oo 47 (.load 1 false (.t 46)),
 oo 48 (.fieldAddr 0 (.t 6)),
 oo 49 (.load 1 false (.t 48)),
 oo 50 (.dyn (.t 45) [(.t 47), (.t 49), (.c (.bool false))])]))))
 (.region [oo 51 (.bin .add .num (.t 23) (ci 1)),
 om 23 51])))))))
 (.seq (.region [oo 52 (.load 1 false (.t 3)),
 om 2 52])
 (.ret))))))⟩

/- codend/codendref03.walk -/
def F140 : AFunc := ⟨57, [.tmp 6],
 .seq (.region [oo 3 (.box (.t 0)),
 oo 6 (.mv (.c (.nilsl)))])
 (.seq (.region [oo 10 (.load 2 true (.t 3)),
 oo 11 (.buildSl 2 1 [.int .i64 0, .int .i64 0] [(0, 2, (.t 10))]),
 om 7 11])
 (.seq (.seq (.region [oo 8 (.mv (ci 0))])
 (.block 0 (.loop (.seq (.seq (.region [om 12 8,
 om 13 1,
 oo 14 (.len .sl (.t 13)),
 oo 15 (.bin .lss .num (.t 12) (.t 14))])
 (.cond (.t 15)
 (.skip)
 (.exit 0)))
 (.seq (.block 1 (.seq (.region [oo 9 (.mv (ci 1))])
 (.seq (.seq (.region [om 18 1,
 om 19 8,
 oo 20 (.indexAddr (.sl 2) (.t 18) (.t 19)),
 oo 21 (.fieldAddr 1 (.t 20)),
 oo 22 (.load 1 false (.t 21)),
 om 23 2,
 ⟨some 24, .bin .neq (.eq ⟨false, [.b]⟩) (.t 22) (.t 23), none⟩])
 (.cond (.t 24)
 (.region [oo 9 (.mv (ci (-1)))])
 (.skip)))
 (.seq (.seq (.region [om 25 1,
 om 26 8,
 oo 27 (.indexAddr (.sl 2) (.t 25) (.t 26)),
 oo 28 (.fieldAddr 0 (.t 27)),
 oo 29 (.load 1 false (.t 28))])
 (.block 2 (.seq (.region [oo 37 (.bin .eql .num (.t 29) (.c (.int .u8 78))),
 om 36 37])
 (.cond (.t 36)
 (.region [oo 38 (.fieldAddr 1 (.t 3)),
 oo 39 (.load 1 false (.t 38)),
 oo 40 (.bin .add .num (.t 39) (ci 2)),
 oo 41 (.fieldAddr 1 (.t 3)),
 ⟨none, .store 1 (.t 41) (.t 40), none⟩])
 (.seq (.region [oo 43 (.bin .eql .num (.t 29) (.c (.int .u8 66))),
 om 42 43])
 (.cond (.t 42)
 (.region [oo 44 (.fieldAddr 0 (.t 3)),
 oo 45 (.load 1 false (.t 44)),
 om 46 9,
 oo 47 (.bin .add .num (.t 45) (.t 46)),
 oo 48 (.fieldAddr 1 (.t 3)),
 oo 49 (.load 1 false (.t 48)),
 oo 50 (.bin .add .num (.t 49) (ci 1)),
 oo 51 (.build [.int .i64 0, .int .i64 0] [(0, 1, (.t 47)), (1, 1, (.t 50))]),
 ⟨none, .store 2 (.t 3) (.t 51), none⟩])
 (.region [oo 30 (.fieldAddr 0 (.t 3)),
 oo 31 (.load 1 false (.t 30)),
 om 32 9,
 oo 33 (.bin .mul .num (ci 2) (.t 32)),
 oo 34 (.bin .add .num (.t 31) (.t 33)),
 oo 35 (.fieldAddr 0 (.t 3)),
 ⟨none, .store 1 (.t 35) (.t 34), none⟩])))))))
 (.region [om 52 7,
 oo 53 (.load 2 true (.t 3)),
 oo 54 (.buildSl 2 1 [.int .i64 0, .int .i64 0] [(0, 2, (.t 53))]),
 oo 55 (.append 2 16 none (.t 52) (.t 54)),
 om 7 55])))))
 (.region [om 16 8,
 oo 17 (.bin .add .num (.t 16) (ci 1)),
 om 8 17]))))))
 (.seq (.region [om 56 7,
 om 6 56])
 (.ret))))⟩

/- codend/netting.put -/
def F145 : AFunc := ⟨27, [.tmp 6, .tmp 7],
 .seq (.region [oo 6 (.mv (.c (.nilsl))),
 oo 7 (.mv (ci 0))])
 (.seq (.seq (.region [om 10 0,
 oo 11 (.call 151 [(.t 10)]),
 om 12 1,
 oo 13 (.call 151 [(.t 12)]),
 oo 14 (.buildSl 1 2 [.int .i64 0, .int .i64 0] [(0, 1, (.t 11)), (1, 1, (.t 13))]),
 oo 15 (.call 150 [(.t 14)]),
 om 8 15])
 (.seq (.region [om 16 8,
 oo 17 (.bin .neq .num (.t 16) (ci 0))])
 (.cond (.t 17)
 (.seq (.region [om 18 8,
 oo 6 (.mv (.c (.nilsl))),
 om 7 18])
 (.ret))
 (.skip))))
 (.seq (.region [om 19 0,
 om 20 1,
 om 21 2,
 oo 22 (.call 197 [(.t 19), (.t 20), (.f 198), (.t 21)]),
 om 9 22])
 (.seq (.seq (.region [om 23 9,
 oo 24 (.len .sl (.t 23)),
 oo 25 (.bin .gtr .num (.t 24) (ci 4096))])
 (.cond (.t 25)
 (.seq (.region [oo 6 (.mv (.c (.nilsl))),
 oo 7 (.mv (ci 5))])
 (.ret))
 (.skip)))
 (.seq (.region [om 26 9,
 om 6 26,
 oo 7 (.mv (ci 0))])
 (.ret)))))⟩

/- codend/panel.opposite -/
def F148 : AFunc := ⟨31, [.tmp 2],
 .seq (.region [oo 2 (.mv (.c (.nilsl)))])
 (.seq (.region [om 6 0,
 oo 7 (.call 199 [(.t 6)]),
 om 3 7])
 (.seq (.seq (.region [om 8 3,
 oo 9 (.len .sl (.t 8)),
 oo 10 (.mv (ci 0))])
 (.block 0 (.loop (.seq (.region [oo 11 (.bin .lss .num (.t 10) (.t 9))])
 (.seq (.cond (.t 11)
 (.skip)
 (.exit 0))
 (.seq (.block 1 (.seq (.region [om 12 10,
 oo 13 (.indexAddr (.sl 3) (.t 8) (.t 10)),
 oo 14 (.load 3 true (.t 13)),
 oo 5 (.alloc [.str [], .int .i64 0, .bool false]),
 om 4 12,
 ⟨none, .store 3 (.t 5) (.t 14), none⟩])
 (.regionD [qm 15 3,
 qm 16 4,
 oq 17 (.fieldAddr 0 (.t 5)),
 oq 18 (.load 1 false (.t 17)),
 oq 19 (.conv .strBytes (.t 18)),
 ⟨⟨some 20, .call 200 [(.t 19)], none⟩, true, []⟩,
 oq 21 (.conv .bytesStr (.t 20)),
 oq 22 (.fieldAddr 1 (.t 5)),
 oq 23 (.load 1 false (.t 22)),
 oq 24 (.fieldAddr 2 (.t 5)),
 oq 25 (.load 1 false (.t 24)),
 oq 26 (.un .not (.t 25)),
 oq 27 (.build [.str [], .int .i64 0, .bool false] [(0, 1, (.t 21)), (1, 1, (.t 23)), (2, 1, (.t 26))]),
 oq 28 (.indexAddr (.sl 3) (.t 15) (.t 16)),
 ⟨⟨none, .store 3 (.t 28) (.t 27), none⟩, false, []⟩])))
 (.region [oo 29 (.bin .add .num (.t 10) (ci 1)),
 om 10 29])))))))
 (.seq (.region [om 30 3,
 om 2 30])
 (.ret))))⟩

/- codend/netting.first -/
def F150 : AFunc := ⟨15, [.tmp 2],
 .seq (.region [oo 2 (.mv (ci 0))])
 (.seq (.seq (.region [om 5 0,
 oo 6 (.len .sl (.t 5)),
 oo 7 (.mv (ci 0))])
 (.block 0 (.loop (.seq (.region [oo 8 (.bin .lss .num (.t 7) (.t 6))])
 (.seq (.cond (.t 8)
 (.skip)
 (.exit 0))
 (.seq (.block 1 (.seq (.region [oo 9 (.indexAddr (.sl 1) (.t 5) (.t 7)),
 oo 10 (.load 1 false (.t 9)),
 om 4 10])
 (.seq (.region [om 11 4,
 oo 12 (.bin .neq .num (.t 11) (ci 0))])
 (.cond (.t 12)
 (.seq (.region [om 13 4,
 om 2 13])
 (.ret))
 (.skip)))))
 (.region [oo 14 (.bin .add .num (.t 7) (ci 1)),
 om 7 14])))))))
 (.seq (.region [oo 2 (.mv (ci 0))])
 (.ret)))⟩

/- codend/netting.CheckNet -/
def F151 : AFunc := ⟨38, [.tmp 2],
 .seq (.region [oo 2 (.mv (ci 0))])
 (.seq (.seq (.region [om 6 0,
 oo 7 (.len .sl (.t 6)),
 oo 8 (.bin .gtr .num (.t 7) (ci 4096))])
 (.cond (.t 8)
 (.seq (.region [oo 2 (.mv (ci 5))])
 (.ret))
 (.skip)))
 (.seq (.seq (.region [om 9 0,
 oo 10 (.len .sl (.t 9)),
 oo 11 (.mv (ci 0))])
 (.block 0 (.loop (.seq (.region [oo 12 (.bin .lss .num (.t 11) (.t 10))])
 (.seq (.cond (.t 12)
 (.skip)
 (.exit 0))
 (.seq (.block 1 (.seq (.region [om 13 11,
 oo 14 (.indexAddr (.sl 3) (.t 9) (.t 11)),
 oo 15 (.load 3 true (.t 14)),
 oo 4 (.alloc [.int .i64 0, .int .i64 0, .int .i64 0]),
 om 3 13,
 ⟨none, .store 3 (.t 4) (.t 15), none⟩])
 (.seq (.regionD [oq 16 (.load 3 true (.t 4)),
 oq 17 (.call 201 [(.t 16)]),
 qm 18 3,
 oq 19 (.bin .gtr .num (.t 18) (ci 0)),
 qm 20 19,
 ⟨⟨some 21, .mv (.t 0), some (20, true)⟩, false, []⟩,
 ⟨⟨some 22, .mv (.t 3), some (20, true)⟩, false, []⟩,
 ⟨⟨some 23, .bin .sub .num (.t 22) (ci 1), some (20, true)⟩, false, []⟩,
 ⟨⟨some 24, .max (ci 0) (.t 23), some (20, true)⟩, false, []⟩,
 ⟨⟨some 25, .indexAddr (.sl 3) (.t 21) (.t 24), some (20, true)⟩, false, []⟩,
 ⟨⟨some 26, .load 3 true (.t 25), some (20, true)⟩, false, []⟩,
 ⟨⟨some 27, .load 3 true (.t 4), some (20, true)⟩, false, []⟩,
 ⟨⟨some 28, .call 198 [(.t 26), (.t 27)], some (20, true)⟩, false, []⟩,
 ⟨⟨some 29, .bin .geq .num (.t 28) (ci 0), some (20, true)⟩, false, []⟩,
 oq 30 (.pick (.t 20) (.t 29) (.c (.bool false))),
 oq 31 (.call 168 [(.t 30), (ci 11)]),
 oq 32 (.buildSl 1 2 [.int .i64 0, .int .i64 0] [(0, 1, (.t 17)), (1, 1, (.t 31))]),
 oq 33 (.call 150 [(.t 32)]),
 qm 5 33])
 (.seq (.region [om 34 5,
 oo 35 (.bin .neq .num (.t 34) (ci 0))])
 (.cond (.t 35)
 (.seq (.region [om 36 5,
 om 2 36])
 (.ret))
 (.skip))))))
 (.region [oo 37 (.bin .add .num (.t 11) (ci 1)),
 om 11 37])))))))
 (.seq (.region [oo 2 (.mv (ci 0))])
 (.ret))))⟩

/- codend/netting.CheckKnot -/
def F152 : AFunc := ⟨15, [.tmp 2],
 .seq (.region [oo 1 (.box (.t 0)),
 oo 2 (.mv (ci 0))])
 (.seq (.regionD [oq 3 (.load 2 true (.t 1)),
 ⟨⟨some 4, .call 169 [(.t 3)], none⟩, true, []⟩,
 oq 5 (.fieldAddr 0 (.t 1)),
 oq 6 (.load 1 false (.t 5)),
 oq 7 (.fieldAddr 1 (.t 1)),
 oq 8 (.load 1 false (.t 7)),
 oq 9 (.bin .xor .num (.t 6) (.t 8)),
 oq 10 (.bin .and .num (.t 9) (ci 1)),
 oq 11 (.bin .neq .num (.t 10) (ci 0)),
 oq 12 (.call 168 [(.t 11), (ci 14)]),
 oq 13 (.buildSl 1 2 [.int .i64 0, .int .i64 0] [(0, 1, (.t 4)), (1, 1, (.t 12))]),
 oq 14 (.call 150 [(.t 13)]),
 qm 2 14])
 (.ret))⟩

/- (codend/panel.Strip).bars -/
def F162 : AFunc := ⟨53, [.tmp 4],
 .seq (.region [oo 2 (.box (.t 0)),
 oo 4 (.mv (.c (.nilsl)))])
 (.seq (.region [oo 5 (.mv (.c (.nilsl)))])
 (.seq (.seq (.region [oo 9 (.fieldAddr 0 (.t 2)),
 oo 10 (.indexAddr (.arr 2 1) (.t 9) (ci 0)),
 oo 11 (.load 1 false (.t 10)),
 om 6 11])
 (.block 0 (.loop (.seq (.seq (.region [om 12 6,
 oo 13 (.fieldAddr 0 (.t 2)),
 oo 14 (.indexAddr (.arr 2 1) (.t 13) (ci 1)),
 oo 15 (.load 1 false (.t 14)),
 oo 16 (.bin .leq .num (.t 12) (.t 15))])
 (.cond (.t 16)
 (.skip)
 (.exit 0)))
 (.seq (.block 1 (.seq (.seq (.region [om 19 6,
 om 20 1,
 oo 21 (.bin .add .num (.t 19) (.t 20)),
 oo 22 (.bin .rem .num (.t 21) (ci 2)),
 oo 23 (.bin .neq .num (.t 22) (ci 0))])
 (.cond (.t 23)
 (.exit 1)
 (.skip)))
 (.seq (.region [oo 24 (.build [.int .i64 0, .int .i64 0] [(0, 1, (ci (-1))), (1, 1, (ci 1))]),
 oo 25 (.mv (ci 0))])
 (.block 2 (.loop (.seq (.region [oo 26 (.bin .lss .num (.t 25) (ci 2))])
 (.seq (.cond (.t 26)
 (.skip)
 (.exit 2))
 (.seq (.block 3 (.seq (.region [oo 27 (.index (.arr 2 1 false) (.t 24) (.t 25)),
 om 8 27])
 (.seq (.region [oo 28 (.fieldAddr 2 (.t 2)),
 oo 29 (.indexAddr (.arr 2 1) (.t 28) (ci 0)),
 oo 30 (.load 1 false (.t 29)),
 om 31 6,
 om 32 8,
 oo 33 (.bin .add .num (.t 31) (.t 32)),
 oo 34 (.bin .leq .num (.t 30) (.t 33)),
 om 35 34,
 ⟨some 36, .mv (.t 6), some (35, true)⟩,
 ⟨some 37, .mv (.t 8), some (35, true)⟩,
 ⟨some 38, .bin .add .num (.t 36) (.t 37), some (35, true)⟩,
 ⟨some 39, .fieldAddr 2 (.t 2), some (35, true)⟩,
 ⟨some 40, .indexAddr (.arr 2 1) (.t 39) (ci 1), some (35, true)⟩,
 ⟨some 41, .load 1 false (.t 40), some (35, true)⟩,
 ⟨some 42, .bin .leq .num (.t 38) (.t 41), some (35, true)⟩,
 oo 43 (.pick (.t 35) (.t 42) (.c (.bool false)))])
 (.cond (.t 43)
 (.region [om 44 5,
 om 45 6,
 om 46 1,
 om 47 8,
 oo 48 (.build [.int .i64 0, .int .i64 0, .int .i64 0] [(0, 1, (.t 45)), (1, 1, (.t 46)), (2, 1, (.t 47))]),
 oo 49 (.buildSl 3 1 [.int .i64 0, .int .i64 0, .int .i64 0] [(0, 3, (.t 48))]),
 oo 50 (.append 3 24 none (.t 44) (.t 49)),
 om 5 50])
 (.skip)))))
 (.region [oo 51 (.bin .add .num (.t 25) (ci 1)),
 om 25 51])))))))))
 (.region [om 17 6,
 oo 18 (.bin .add .num (.t 17) (ci 1)),
 om 6 18]))))))
 (.seq (.region [om 52 5,
 om 4 52])
 (.ret))))⟩

/- codend/codendref03.reach -/
def F163 : AFunc := ⟨61, [.cell 4 2 true],
 .seq (.region [oo 4 (.alloc [.int .i64 0, .int .i64 0])])
 (.seq (.region [oo 5 (.mv (ci 999999999)),
 oo 6 (.mv (ci (-999999999)))])
 (.seq (.seq (.region [oo 7 (.mv (ci 0))])
 (.block 0 (.loop (.seq (.seq (.region [om 8 7,
 om 9 0,
 oo 10 (.len .sl (.t 9)),
 oo 11 (.bin .lss .num (.t 8) (.t 10))])
 (.cond (.t 11)
 (.skip)
 (.exit 0)))
 (.seq (.block 1 (.seq (.region [om 14 0,
 om 15 7,
 oo 16 (.indexAddr (.sl 2) (.t 14) (.t 15)),
 oo 17 (.fieldAddr 1 (.t 16)),
 oo 18 (.load 1 false (.t 17)),
 om 19 1,
 oo 20 (.bin .eql .num (.t 18) (.t 19)),
 om 21 20,
 ⟨some 22, .mv (.t 7), some (21, false)⟩,
 ⟨some 23, .bin .gtr .num (.t 22) (ci 0), some (21, false)⟩,
 ⟨some 24, .mv (.t 23), some (21, false)⟩,
 ⟨some 25, .mv (.t 0), some (24, true)⟩,
 ⟨some 26, .mv (.t 7), some (24, true)⟩,
 ⟨some 27, .bin .sub .num (.t 26) (ci 1), some (24, true)⟩,
 ⟨some 28, .indexAddr (.sl 2) (.t 25) (.t 27), some (24, true)⟩,
 ⟨some 29, .fieldAddr 1 (.t 28), some (24, true)⟩,
 ⟨some 30, .load 1 false (.t 29), some (24, true)⟩,
 ⟨some 31, .mv (.t 1), some (24, true)⟩,
 ⟨some 32, .bin .lss .num (.t 30) (.t 31), some (24, true)⟩,
 ⟨some 33, .pick (.t 24) (.t 32) (.c (.bool false)), some (21, false)⟩,
 ⟨some 34, .mv (.t 33), some (21, false)⟩,
 ⟨some 35, .mv (.t 0), some (34, true)⟩,
 ⟨some 36, .mv (.t 7), some (34, true)⟩,
 ⟨some 37, .indexAddr (.sl 2) (.t 35) (.t 36), some (34, true)⟩,
 ⟨some 38, .fieldAddr 1 (.t 37), some (34, true)⟩,
 ⟨some 39, .load 1 false (.t 38), some (34, true)⟩,
 ⟨some 40, .mv (.t 1), some (34, true)⟩,
 ⟨some 41, .bin .gtr .num (.t 39) (.t 40), some (34, true)⟩,
 ⟨some 42, .pick (.t 34) (.t 41) (.c (.bool false)), some (21, false)⟩,
 oo 43 (.pick (.t 21) (.c (.bool true)) (.t 42))])
 (.cond (.t 43)
 (.regionD [qm 44 5,
 qm 45 0,
 qm 46 7,
 oq 47 (.indexAddr (.sl 2) (.t 45) (.t 46)),
 oq 48 (.fieldAddr 0 (.t 47)),
 oq 49 (.load 1 false (.t 48)),
 oq 50 (.min (.t 44) (.t 49)),
 qm 51 6,
 qm 52 0,
 qm 53 7,
 oq 54 (.indexAddr (.sl 2) (.t 52) (.t 53)),
 oq 55 (.fieldAddr 0 (.t 54)),
 oq 56 (.load 1 false (.t 55)),
 oq 57 (.max (.t 51) (.t 56)),
 qm 5 50,
 qm 6 57])
 (.skip))))
 (.region [om 12 7,
 oo 13 (.bin .add .num (.t 12) (ci 1)),
 om 7 13]))))))
 (.seq (.region [om 58 5,
 om 59 6,
 oo 60 (.build [.int .i64 0, .int .i64 0] [(0, 1, (.t 58)), (1, 1, (.t 59))]),
 ⟨none, .store 2 (.t 4) (.t 60), none⟩])
 (.ret))))⟩

/- slices.Concat[[]codend/api.Knot,codend/api.Knot] -/
def F166 : AFunc := ⟨36, [.tmp 2],
 .seq (.region [oo 2 (.mv (.c (.nilsl)))])
 (.seq (.region [oo 3 (.mv (ci 0))])
 (.seq (.seq (.region [om 9 0,
 oo 10 (.len .sl (.t 9)),
 oo 11 (.mv (ci 0))])
 (.block 0 (.loop (.seq (.region [oo 12 (.bin .lss .num (.t 11) (.t 10))])
 (.seq (.cond (.t 12)
 (.skip)
 (.exit 0))
 (.seq (.block 1 (.seq (.region [oo 13 (.indexAddr (.sl 1) (.t 9) (.t 11)),
 oo 14 (.load 1 false (.t 13)),
 om 5 14])
 (.seq (.region [om 15 3,
 om 16 5,
 oo 17 (.len .sl (.t 16)),
 oo 18 (.bin .add .num (.t 15) (.t 17)),
 om 3 18])
 (.seq (.region [om 19 3,
 oo 20 (.bin .lss .num (.t 19) (ci 0))])
 (.cond (.t 20)
 (.region [oo 21 (.mkIface 9 (.c (.str [108, 101, 110, 32, 111, 117, 116, 32, 111, 102, 32, 114, 97, 110, 103, 101]))),
 ⟨none, .stuck, none⟩])
 (.skip))))))
 (.region [oo 22 (.bin .add .num (.t 11) (ci 1)),
 om 11 22])))))))
 (.seq (.region [om 23 3,
 oo 24 (.call 213 [(.c (.nilsl)), (.t 23)]),
 om 6 24])
 (.seq (.seq (.region [om 25 0,
 oo 26 (.len .sl (.t 25)),
 oo 27 (.mv (ci 0))])
 (.block 2 (.loop (.seq (.region [oo 28 (.bin .lss .num (.t 27) (.t 26))])
 (.seq (.cond (.t 28)
 (.skip)
 (.exit 2))
 (.seq (.block 3 (.seq (.region [oo 29 (.indexAddr (.sl 1) (.t 25) (.t 27)),
 oo 30 (.load 1 false (.t 29)),
 om 8 30])
 (.region [om 31 6,
 om 32 8,
 oo 33 (.append 2 16 none (.t 31) (.t 32)),
 om 6 33])))
 (.region [oo 34 (.bin .add .num (.t 27) (ci 1)),
 om 27 34])))))))
 (.seq (.region [om 35 6,
 om 2 35])
 (.ret))))))⟩

/- codend/netting.within -/
def F167 : AFunc := ⟨16, [.tmp 6],
 .seq (.region [oo 6 (.mv (ci 0))])
 (.seq (.region [om 7 0,
 om 8 1,
 oo 9 (.bin .lss .num (.t 7) (.t 8)),
 om 10 9,
 ⟨some 11, .mv (.t 0), some (10, false)⟩,
 ⟨some 12, .mv (.t 2), some (10, false)⟩,
 ⟨some 13, .bin .gtr .num (.t 11) (.t 12), some (10, false)⟩,
 oo 14 (.pick (.t 10) (.c (.bool true)) (.t 13)),
 oo 15 (.call 168 [(.t 14), (ci 3)]),
 om 6 15])
 (.ret))⟩

/- codend/netting.when -/
def F168 : AFunc := ⟨7, [.tmp 4],
 .seq (.region [oo 4 (.mv (ci 0))])
 (.seq (.seq (.region [om 5 0])
 (.cond (.t 5)
 (.seq (.region [om 6 1,
 om 4 6])
 (.ret))
 (.skip)))
 (.seq (.region [oo 4 (.mv (ci 0))])
 (.ret)))⟩

/- codend/netting.reach -/
def F169 : AFunc := ⟨11, [.tmp 2],
 .seq (.region [oo 1 (.box (.t 0)),
 oo 2 (.mv (ci 0))])
 (.seq (.regionD [oq 3 (.fieldAddr 0 (.t 1)),
 oq 4 (.load 1 false (.t 3)),
 ⟨⟨some 5, .call 167 [(.t 4), (ci (-100000)), (ci 100000)], none⟩, true, []⟩,
 oq 6 (.fieldAddr 1 (.t 1)),
 oq 7 (.load 1 false (.t 6)),
 oq 8 (.call 167 [(.t 7), (ci (-100000)), (ci 100000)]),
 oq 9 (.buildSl 1 2 [.int .i64 0, .int .i64 0] [(0, 1, (.t 5)), (1, 1, (.t 8))]),
 oq 10 (.call 150 [(.t 9)]),
 qm 2 10])
 (.ret))⟩

/- slices.Collect[codend/api.Bar] -/
def F170 : AFunc := ⟨5, [.tmp 2],
 .seq (.region [oo 2 (.mv (.c (.nilsl)))])
 (.seq (.region [om 3 0,
 oo 4 (.call 214 [(.c (.nilsl)), (.t 3)]),
 om 2 4])
 (.ret))⟩

/- codend/netting.sheet -/
def F171 : AFunc := ⟨8, [.tmp 6],
 .seq (.region [oo 3 (.box (.t 0)),
 oo 4 (.box (.t 1)),
 oo 5 (.box (.t 2)),
 oo 6 (.mv (.c (.nilfunc)))])
 (.seq (.region [oo 7 (.mkFunc 215 [] [(.t 5), (.t 3), (.t 4)]),
 om 6 7])
 (.ret))⟩

/- codend/netting.Minus$1 -/
def F172 : AFunc := ⟨10, [.tmp 4],
 .seq (.region [oo 4 (.mv (.c (.bool false)))])
 (.seq (.region [om 5 0,
 om 6 5,
 ⟨some 7, .mv (.t 1), some (6, true)⟩,
 ⟨some 8, .un .not (.t 7), some (6, true)⟩,
 oo 9 (.pick (.t 6) (.t 8) (.c (.bool false))),
 om 4 9])
 (.ret))⟩


end Go.Proofs.YtndlfkibcelhmaaGreatDoor.Ai
end
section
set_option maxRecDepth 100000
namespace Go.Proofs.YtndlfkibcelhmaaGreatDoor.Ai
open Go
/- (codend/panel.Panel).strips$1 -/
def F175 : AFunc := ⟨47, [],
 .seq (.region [om 8 0,
 oo 9 (.slice (.sl 2) (.t 8) (some (ci 1)) none none),
 oo 10 (.len .sl (.t 9)),
 oo 11 (.mv (ci 0))])
 (.block 0 (.loop (.seq (.region [oo 12 (.bin .lss .num (.t 11) (.t 10))])
 (.seq (.cond (.t 12)
 (.skip)
 (.exit 0))
 (.seq (.block 1 (.seq (.region [om 13 11,
 oo 14 (.indexAddr (.sl 2) (.t 9) (.t 11)),
 oo 15 (.load 2 true (.t 14)),
 oo 6 (.alloc [.int .i64 0, .int .i64 0]),
 om 5 13,
 ⟨none, .store 2 (.t 6) (.t 15), none⟩])
 (.seq (.region [om 16 0,
 om 17 5,
 oo 18 (.indexAddr (.sl 2) (.t 16) (.t 17)),
 oo 19 (.fieldAddr 1 (.t 18)),
 oo 20 (.load 1 false (.t 19)),
 om 7 20])
 (.block 2 (.loop (.seq (.seq (.region [om 21 7,
 oo 22 (.fieldAddr 1 (.t 6)),
 oo 23 (.load 1 false (.t 22)),
 oo 24 (.bin .lss .num (.t 21) (.t 23))])
 (.cond (.t 24)
 (.skip)
 (.exit 2)))
 (.seq (.block 3 (.regionD [oq 27 (.load 1 false (.t 2)),
 qm 28 7,
 qm 29 1,
 oq 30 (.load 1 false (.t 2)),
 qm 31 7,
 qm 32 1,
 qm 33 0,
 qm 34 5,
 oq 35 (.indexAddr (.sl 2) (.t 33) (.t 34)),
 oq 36 (.fieldAddr 0 (.t 35)),
 oq 37 (.load 1 false (.t 36)),
 oq 38 (.fieldAddr 0 (.t 6)),
 oq 39 (.load 1 false (.t 38)),
 oq 40 (.indexAddr (.sl 4) (.t 27) (.t 28)),
 oq 41 (.fieldAddr 0 (.t 40)),
 oq 42 (.indexAddr (.arr 2 1) (.t 41) (.t 29)),
 ⟨⟨none, .store 1 (.t 42) (.t 37), none⟩, false, [(.t 2), (.t 38)]⟩,
 oq 43 (.indexAddr (.sl 4) (.t 30) (.t 31)),
 oq 44 (.fieldAddr 2 (.t 43)),
 oq 45 (.indexAddr (.arr 2 1) (.t 44) (.t 32)),
 ⟨⟨none, .store 1 (.t 45) (.t 39), none⟩, false, []⟩]))
 (.region [om 25 7,
 oo 26 (.bin .add .num (.t 25) (ci 1)),
 om 7 26]))))))))
 (.region [oo 46 (.bin .add .num (.t 11) (ci 1)),
 om 11 46]))))))⟩

/- codend/panel.after -/
def F176 : AFunc := ⟨36, [.cell 6 2 true],
 .seq (.region [oo 3 (.box (.t 0)),
 oo 6 (.alloc [.int .i64 0, .int .i64 0])])
 (.seq (.region [oo 7 (.mv (ci (-1)))])
 (.seq (.seq (.region [om 8 2])
 (.cond (.t 8)
 (.region [oo 7 (.mv (ci 1))])
 (.skip)))
 (.seq (.seq (.region [om 9 1])
 (.block 0 (.seq (.region [oo 11 (.bin .eql .num (.t 9) (.c (.int .u8 78))),
 om 10 11])
 (.cond (.t 10)
 (.seq (.region [oo 12 (.fieldAddr 0 (.t 3)),
 oo 13 (.load 1 false (.t 12)),
 oo 14 (.fieldAddr 1 (.t 3)),
 oo 15 (.load 1 false (.t 14)),
 oo 16 (.bin .add .num (.t 15) (ci 2)),
 oo 17 (.build [.int .i64 0, .int .i64 0] [(0, 1, (.t 13)), (1, 1, (.t 16))]),
 ⟨none, .store 2 (.t 6) (.t 17), none⟩])
 (.ret))
 (.seq (.region [oo 19 (.bin .eql .num (.t 9) (.c (.int .u8 66))),
 om 18 19])
 (.cond (.t 18)
 (.seq (.region [oo 20 (.fieldAddr 0 (.t 3)),
 oo 21 (.load 1 false (.t 20)),
 om 22 7,
 oo 23 (.bin .add .num (.t 21) (.t 22)),
 oo 24 (.fieldAddr 1 (.t 3)),
 oo 25 (.load 1 false (.t 24)),
 oo 26 (.bin .add .num (.t 25) (ci 1)),
 oo 27 (.build [.int .i64 0, .int .i64 0] [(0, 1, (.t 23)), (1, 1, (.t 26))]),
 ⟨none, .store 2 (.t 6) (.t 27), none⟩])
 (.ret))
 (.skip)))))))
 (.seq (.region [oo 28 (.fieldAddr 0 (.t 3)),
 oo 29 (.load 1 false (.t 28)),
 om 30 7,
 oo 31 (.bin .mul .num (ci 2) (.t 30)),
 oo 32 (.bin .add .num (.t 29) (.t 31)),
 oo 33 (.fieldAddr 1 (.t 3)),
 oo 34 (.load 1 false (.t 33)),
 oo 35 (.build [.int .i64 0, .int .i64 0] [(0, 1, (.t 32)), (1, 1, (.t 34))]),
 ⟨none, .store 2 (.t 6) (.t 35), none⟩])
 (.ret)))))⟩

/- slices.IndexFunc[[]codend/api.Knot,codend/api.Knot] -/
def F177 : AFunc := ⟨19, [.tmp 4],
 .seq (.region [oo 4 (.mv (ci 0))])
 (.seq (.seq (.region [om 6 0,
 oo 7 (.len .sl (.t 6)),
 oo 8 (.mv (ci 0))])
 (.block 0 (.loop (.seq (.region [oo 9 (.bin .lss .num (.t 8) (.t 7))])
 (.seq (.cond (.t 9)
 (.skip)
 (.exit 0))
 (.seq (.block 1 (.seq (.region [om 10 8,
 om 5 10])
 (.seq (.region [om 11 1,
 om 12 0,
 om 13 5,
 oo 14 (.indexAddr (.sl 2) (.t 12) (.t 13)),
 oo 15 (.load 2 true (.t 14)),
 oo 16 (.dyn (.t 11) [(.t 15)])])
 (.cond (.t 16)
 (.seq (.region [om 17 5,
 om 4 17])
 (.ret))
 (.skip)))))
 (.region [oo 18 (.bin .add .num (.t 8) (ci 1)),
 om 8 18])))))))
 (.seq (.region [oo 4 (.mv (ci (-1)))])
 (.ret)))⟩

/- codend/panel.split$1 -/
def F178 : AFunc := ⟨8, [.tmp 3],
 .seq (.region [oo 2 (.box (.t 0)),
 oo 3 (.mv (.c (.bool false)))])
 (.seq (.region [oo 4 (.fieldAddr 1 (.t 2)),
 oo 5 (.load 1 false (.t 4)),
 oo 6 (.load 1 false (.t 1)),
 oo 7 (.bin .eql .num (.t 5) (.t 6)),
 om 3 7])
 (.ret))⟩

/- slices.AppendSeq[[]codend/panel.letter,codend/panel.letter] -/
def F179 : AFunc := ⟨13, [.tmp 4],
 .seq (.region [oo 2 (.box (.t 0)),
 oo 4 (.mv (.c (.nilsl)))])
 (.seq (.seq (.region [om 6 1])
 (.block 0 (.rangeFunc (.t 6) [7] (.region [oo 5 (.alloc [.int .u8 0, .bool false]),
 ⟨none, .store 2 (.t 5) (.t 7), none⟩])
 (.block 1 (.region [oo 8 (.load 1 false (.t 2)),
 oo 9 (.load 2 true (.t 5)),
 oo 10 (.buildSl 2 1 [.int .u8 0, .bool false] [(0, 2, (.t 9))]),
 oo 11 (.append 2 2 none (.t 8) (.t 10)),
 ⟨none, .store 1 (.t 2) (.t 11), none⟩])))))
 (.seq (.region [oo 12 (.load 1 false (.t 2)),
 om 4 12])
 (.ret)))⟩

/- codend/panel.letters$1 -/
def F180 : AFunc := ⟨35, [],
 .seq (.region [oo 6 (.load 1 false (.t 1)),
 oo 7 (.len .sl (.t 6)),
 oo 8 (.mv (ci 0))])
 (.block 0 (.loop (.seq (.region [oo 9 (.bin .lss .num (.t 8) (.t 7))])
 (.seq (.cond (.t 9)
 (.skip)
 (.exit 0))
 (.seq (.block 1 (.seq (.region [oo 10 (.indexAddr (.sl 3) (.t 6) (.t 8)),
 oo 11 (.load 3 true (.t 10)),
 oo 4 (.alloc [.str [], .int .i64 0, .bool false]),
 ⟨none, .store 3 (.t 4) (.t 11), none⟩])
 (.seq (.region [oo 12 (.fieldAddr 1 (.t 4)),
 oo 13 (.load 1 false (.t 12)),
 oo 14 (.mv (ci 0))])
 (.block 2 (.loop (.seq (.region [oo 15 (.bin .lss .num (.t 14) (.t 13))])
 (.seq (.cond (.t 15)
 (.skip)
 (.exit 2))
 (.seq (.block 3 (.seq (.region [oo 16 (.fieldAddr 0 (.t 4)),
 oo 17 (.load 1 false (.t 16)),
 oo 18 (.len .str (.t 17)),
 oo 19 (.mv (ci 0))])
 (.block 4 (.loop (.seq (.region [oo 20 (.bin .lss .num (.t 19) (.t 18))])
 (.seq (.cond (.t 20)
 (.skip)
 (.exit 4))
 (.seq (.block 5 (.seq (.region [om 21 19,
 om 5 21])
 (.seq (.regionD [qm 22 0,
 oq 23 (.fieldAddr 0 (.t 4)),
 oq 24 (.load 1 false (.t 23)),
 qm 25 5,
 oq 26 (.index .str (.t 24) (.t 25)),
 oq 27 (.fieldAddr 2 (.t 4)),
 oq 28 (.load 1 false (.t 27)),
 oq 29 (.build [.int .u8 0, .bool false] [(0, 1, (.t 26)), (1, 1, (.t 28))]),
 oq 30 (.dyn (.t 22) [(.t 29)]),
 oq 31 (.un .not (.t 30))])
 (.cond (.t 31)
 (.ret)
 (.skip)))))
 (.region [oo 32 (.bin .add .num (.t 19) (ci 1)),
 om 19 32]))))))))
 (.region [oo 33 (.bin .add .num (.t 14) (ci 1)),
 om 14 33])))))))))
 (.region [oo 34 (.bin .add .num (.t 8) (ci 1)),
 om 8 34]))))))⟩

/- codend/panel.plain$1 -/
def F181 : AFunc := ⟨12, [],
 .seq (.seq (.region [oo 3 (.load 1 false (.t 0)),
 oo 4 (.bin .neq .strs (.t 3) (.c (.str [])))])
 (.cond (.t 4)
 (.region [oo 5 (.load 1 false (.t 1)),
 oo 6 (.load 1 false (.t 0)),
 oo 7 (.load 1 false (.t 2)),
 oo 8 (.bin .gtr .num (.t 7) (ci 0)),
 oo 9 (.build [.str [], .int .i64 0, .bool false] [(0, 1, (.t 6)), (1, 1, (ci 1)), (2, 1, (.t 8))]),
 oo 10 (.buildSl 3 1 [.str [], .int .i64 0, .bool false] [(0, 3, (.t 9))]),
 oo 11 (.append 3 32 none (.t 5) (.t 10)),
 ⟨none, .store 1 (.t 1) (.t 11), none⟩])
 (.skip)))
 (.region [⟨none, .store 1 (.t 0) (.c (.str [])), none⟩,
 ⟨none, .store 1 (.t 2) (ci 0), none⟩])⟩

/- codend/panel.again -/
def F182 : AFunc := ⟨8, [.tmp 4],
 .seq (.region [oo 3 (.box (.t 1)),
 oo 4 (.mv (.c (.bool false)))])
 (.seq (.region [om 5 0,
 oo 6 (.mkFunc 217 [] [(.t 3)]),
 oo 7 (.call 216 [(.t 5), (.t 6)]),
 om 4 7])
 (.ret))⟩

/- internal/strconv.Itoa -/
def F184 : AFunc := ⟨5, [.tmp 2],
 .seq (.region [oo 2 (.mv (.c (.str [])))])
 (.seq (.region [om 3 0,
 oo 4 (.call 219 [(.t 3), (ci 10)]),
 om 2 4])
 (.ret))⟩

/- strings.Join -/
def F185 : AFunc := ⟨75, [.tmp 4],
 .seq (.region [oo 4 (.mv (.c (.str [])))])
 (.seq (.seq (.region [om 11 0,
 oo 12 (.len .sl (.t 11))])
 (.block 0 (.seq (.region [oo 14 (.bin .eql .num (.t 12) (ci 0)),
 om 13 14])
 (.cond (.t 13)
 (.seq (.region [oo 4 (.mv (.c (.str [])))])
 (.ret))
 (.seq (.region [oo 16 (.bin .eql .num (.t 12) (ci 1)),
 om 15 16])
 (.cond (.t 15)
 (.seq (.region [om 17 0,
 oo 18 (.indexAddr (.sl 1) (.t 17) (ci 0)),
 oo 19 (.load 1 false (.t 18)),
 om 4 19])
 (.ret))
 (.skip)))))))
 (.seq (.region [oo 5 (.mv (ci 0))])
 (.seq (.seq (.region [om 20 1,
 oo 21 (.len .str (.t 20)),
 oo 22 (.bin .gtr .num (.t 21) (ci 0))])
 (.cond (.t 22)
 (.seq (.seq (.region [om 23 1,
 oo 24 (.len .str (.t 23)),
 om 25 0,
 oo 26 (.len .sl (.t 25)),
 oo 27 (.bin .sub .num (.t 26) (ci 1)),
 oo 28 (.bin .quo .num (ci 9223372036854775807) (.t 27)),
 oo 29 (.bin .geq .num (.t 24) (.t 28))])
 (.cond (.t 29)
 (.region [oo 30 (.mkIface 9 (.c (.str [115, 116, 114, 105, 110, 103, 115, 58, 32, 74, 111, 105, 110, 32, 111, 117, 116, 112, 117, 116, 32, 108, 101, 110, 103, 116, 104, 32, 111, 118, 101, 114, 102, 108, 111, 119]))),
 ⟨none, .stuck, none⟩])
 (.skip)))
 (.region [om 31 5,
 om 32 1,
 oo 33 (.len .str (.t 32)),
 om 34 0,
 oo 35 (.len .sl (.t 34)),
 oo 36 (.bin .sub .num (.t 35) (ci 1)),
 oo 37 (.bin .mul .num (.t 33) (.t 36)),
 oo 38 (.bin .add .num (.t 31) (.t 37)),
 om 5 38]))
 (.skip)))
 (.seq (.seq (.region [om 39 0,
 oo 40 (.len .sl (.t 39)),
 oo 41 (.mv (ci 0))])
 (.block 1 (.loop (.seq (.region [oo 42 (.bin .lss .num (.t 41) (.t 40))])
 (.seq (.cond (.t 42)
 (.skip)
 (.exit 1))
 (.seq (.block 2 (.seq (.region [oo 43 (.indexAddr (.sl 1) (.t 39) (.t 41)),
 oo 44 (.load 1 false (.t 43)),
 om 7 44])
 (.seq (.seq (.region [om 45 7,
 oo 46 (.len .str (.t 45)),
 om 47 5,
 oo 48 (.bin .sub .num (ci 9223372036854775807) (.t 47)),
 oo 49 (.bin .gtr .num (.t 46) (.t 48))])
 (.cond (.t 49)
 (.region [oo 50 (.mkIface 9 (.c (.str [115, 116, 114, 105, 110, 103, 115, 58, 32, 74, 111, 105, 110, 32, 111, 117, 116, 112, 117, 116, 32, 108, 101, 110, 103, 116, 104, 32, 111, 118, 101, 114, 102, 108, 111, 119]))),
 ⟨none, .stuck, none⟩])
 (.skip)))
 (.region [om 51 5,
 om 52 7,
 oo 53 (.len .str (.t 52)),
 oo 54 (.bin .add .num (.t 51) (.t 53)),
 om 5 54]))))
 (.region [oo 55 (.bin .add .num (.t 41) (ci 1)),
 om 41 55])))))))
 (.seq (.region [oo 8 (.allocT 180 [.nilptr, .nilsl])])
 (.seq (.region [om 56 5,
 oo 57 (.call 220 [(.t 8), (.t 56)])])
 (.seq (.region [om 58 0,
 oo 59 (.indexAddr (.sl 1) (.t 58) (ci 0)),
 oo 60 (.load 1 false (.t 59)),
 oo 61 (.call 121 [(.t 8), (.t 60)])])
 (.seq (.seq (.region [om 62 0,
 oo 63 (.slice (.sl 1) (.t 62) (some (ci 1)) none none),
 oo 64 (.len .sl (.t 63)),
 oo 65 (.mv (ci 0))])
 (.block 3 (.loop (.seq (.region [oo 66 (.bin .lss .num (.t 65) (.t 64))])
 (.seq (.cond (.t 66)
 (.skip)
 (.exit 3))
 (.seq (.block 4 (.seq (.region [oo 67 (.indexAddr (.sl 1) (.t 63) (.t 65)),
 oo 68 (.load 1 false (.t 67)),
 om 10 68])
 (.seq (.region [om 69 1,
 oo 70 (.call 121 [(.t 8), (.t 69)])])
 (.region [om 71 10,
 oo 72 (.call 121 [(.t 8), (.t 71)])]))))
 (.region [oo 73 (.bin .add .num (.t 65) (ci 1)),
 om 65 73])))))))
 (.seq (.region [oo 74 (.call 125 [(.t 8)]),
 om 4 74])
 (.ret))))))))))⟩

/- strings.CutSuffix -/
def F186 : AFunc := ⟨11, [.tmp 4, .tmp 5],
 .seq (.region [oo 4 (.mv (.c (.str []))),
 oo 5 (.mv (.c (.bool false)))])
 (.seq (.region [om 6 0,
 om 7 1,
 oo 8 (.call 221 [(.t 6), (.t 7)]),
 oo 9 (.extract 0 (.t 8)),
 oo 10 (.extract 1 (.t 8)),
 om 4 9,
 om 5 10])
 (.ret))⟩

/- strings.Split -/
def F187 : AFunc := ⟨8, [.tmp 4],
 .seq (.region [oo 4 (.mv (.c (.nilsl)))])
 (.seq (.region [om 5 0,
 om 6 1,
 oo 7 (.call 222 [(.t 5), (.t 6), (ci 0), (ci (-1))]),
 om 4 7])
 (.ret))⟩

/- slices.Contains[[]string,string] -/
def F188 : AFunc := ⟨9, [.tmp 4],
 .seq (.region [oo 4 (.mv (.c (.bool false)))])
 (.seq (.region [om 5 0,
 om 6 1,
 oo 7 (.call 223 [(.t 5), (.t 6)]),
 oo 8 (.bin .geq .num (.t 7) (ci 0)),
 om 4 8])
 (.ret))⟩

/- (*codend/panel.reader).begin -/
def F189 : AFunc := ⟨43, [.tmp 4],
 .seq (.region [oo 4 (.mv (ci 0))])
 (.seq (.seq (.region [om 7 1,
 oo 8 (.len .sl (.t 7)),
 oo 9 (.bin .neq .num (.t 8) (ci 3)),
 om 10 9,
 ⟨some 11, .mv (.t 1), some (10, false)⟩,
 ⟨some 12, .indexAddr (.sl 1) (.t 11) (ci 1), some (10, false)⟩,
 ⟨some 13, .load 1 false (.t 12), some (10, false)⟩,
 ⟨some 14, .bin .eql .strs (.t 13) (.c (.str [])), some (10, false)⟩,
 oo 15 (.pick (.t 10) (.c (.bool true)) (.t 14))])
 (.cond (.t 15)
 (.seq (.region [oo 4 (.mv (ci 25))])
 (.ret))
 (.skip)))
 (.seq (.region [om 17 1,
 oo 18 (.indexAddr (.sl 1) (.t 17) (ci 2)),
 oo 19 (.load 1 false (.t 18)),
 oo 20 (.call 224 [(.t 19)]),
 om 16 20,
 oo 21 (.extract 0 (.t 16)),
 oo 22 (.extract 1 (.t 16)),
 om 5 21,
 om 6 22])
 (.seq (.region [om 23 0,
 om 24 1,
 oo 25 (.indexAddr (.sl 1) (.t 24) (ci 1)),
 oo 26 (.load 1 false (.t 25)),
 om 27 5,
 oo 28 (.build [.str [], .int .i64 0, .nilsl, .nilsl] [(0, 1, (.t 26)), (1, 1, (.t 27))]),
 oo 29 (.nilChk (.t 23)),
 oo 30 (.fieldAddr 1 (.t 29)),
 ⟨none, .store 4 (.t 30) (.t 28), none⟩])
 (.seq (.regionD [qm 31 6,
 oq 32 (.un .not (.t 31)),
 ⟨⟨some 33, .call 133 [(.t 32), (ci 25)], none⟩, true, []⟩,
 qm 34 0,
 oq 35 (.nilChk (.t 34)),
 oq 36 (.fieldAddr 0 (.t 35)),
 oq 37 (.load 1 false (.t 36)),
 oq 38 (.len .sl (.t 37)),
 oq 39 (.bin .eql .num (.t 38) (ci 16)),
 oq 40 (.call 133 [(.t 39), (ci 5)]),
 oq 41 (.buildSl 1 2 [.int .i64 0, .int .i64 0] [(0, 1, (.t 33)), (1, 1, (.t 40))]),
 oq 42 (.call 105 [(.t 41)]),
 qm 4 42])
 (.ret)))))⟩

/- (*codend/panel.reader).finish -/
def F190 : AFunc := ⟨42, [.tmp 4],
 .seq (.region [oo 4 (.mv (ci 0))])
 (.seq (.seq (.region [om 6 1,
 oo 7 (.len .sl (.t 6)),
 oo 8 (.bin .neq .num (.t 7) (ci 1))])
 (.cond (.t 8)
 (.seq (.region [oo 4 (.mv (ci 25))])
 (.ret))
 (.skip)))
 (.seq (.seq (.regionD [qm 9 0,
 oq 10 (.nilChk (.t 9)),
 oq 11 (.fieldAddr 1 (.t 10)),
 oq 12 (.load 4 true (.t 11)),
 ⟨⟨some 13, .call 58 [(.t 12)], none⟩, true, []⟩,
 qm 14 0,
 oq 15 (.nilChk (.t 14)),
 oq 16 (.fieldAddr 0 (.t 15)),
 oq 17 (.load 1 false (.t 16)),
 qm 18 0,
 oq 19 (.nilChk (.t 18)),
 oq 20 (.fieldAddr 1 (.t 19)),
 oq 21 (.load 4 true (.t 20)),
 oq 22 (.call 182 [(.t 17), (.t 21)]),
 oq 23 (.call 133 [(.t 22), (ci 9)]),
 oq 24 (.buildSl 1 2 [.int .i64 0, .int .i64 0] [(0, 1, (.t 13)), (1, 1, (.t 23))]),
 oq 25 (.call 105 [(.t 24)]),
 qm 5 25])
 (.seq (.region [om 26 5,
 oo 27 (.bin .neq .num (.t 26) (ci 0))])
 (.cond (.t 27)
 (.seq (.region [om 28 5,
 om 4 28])
 (.ret))
 (.skip))))
 (.seq (.regionD [qm 29 0,
 qm 30 0,
 oq 31 (.nilChk (.t 30)),
 oq 32 (.fieldAddr 0 (.t 31)),
 oq 33 (.load 1 false (.t 32)),
 qm 34 0,
 oq 35 (.nilChk (.t 34)),
 oq 36 (.fieldAddr 1 (.t 35)),
 oq 37 (.load 4 true (.t 36)),
 oq 38 (.buildSl 4 1 [.str [], .int .i64 0, .nilsl, .nilsl] [(0, 4, (.t 37))]),
 oq 39 (.append 4 72 none (.t 33) (.t 38)),
 oq 40 (.nilChk (.t 29)),
 oq 41 (.fieldAddr 0 (.t 40)),
 ⟨⟨none, .store 1 (.t 41) (.t 39), none⟩, false, []⟩])
 (.seq (.region [oo 4 (.mv (ci 0))])
 (.ret)))))⟩

/- (*codend/panel.reader).edge -/
def F191 : AFunc := ⟨77, [.tmp 4],
 .seq (.region [oo 4 (.mv (ci 0))])
 (.seq (.seq (.region [om 8 1,
 oo 9 (.len .sl (.t 8)),
 oo 10 (.bin .neq .num (.t 9) (ci 4)),
 om 11 10,
 ⟨some 12, .mv (.t 1), some (11, false)⟩,
 ⟨some 13, .indexAddr (.sl 1) (.t 12) (ci 1), some (11, false)⟩,
 ⟨some 14, .load 1 false (.t 13), some (11, false)⟩,
 ⟨some 15, .bin .eql .strs (.t 14) (.c (.str [])), some (11, false)⟩,
 oo 16 (.pick (.t 11) (.c (.bool true)) (.t 15)),
 om 17 16,
 ⟨some 18, .mv (.t 1), some (17, false)⟩,
 ⟨some 19, .indexAddr (.sl 1) (.t 18) (ci 3), some (17, false)⟩,
 ⟨some 20, .load 1 false (.t 19), some (17, false)⟩,
 ⟨some 21, .bin .neq .strs (.t 20) (.c (.str [111, 117, 116])), some (17, false)⟩,
 ⟨some 22, .mv (.t 21), some (17, false)⟩,
 ⟨some 23, .mv (.t 1), some (22, true)⟩,
 ⟨some 24, .indexAddr (.sl 1) (.t 23) (ci 3), some (22, true)⟩,
 ⟨some 25, .load 1 false (.t 24), some (22, true)⟩,
 ⟨some 26, .bin .neq .strs (.t 25) (.c (.str [105, 110])), some (22, true)⟩,
 ⟨some 27, .pick (.t 22) (.t 26) (.c (.bool false)), some (17, false)⟩,
 oo 28 (.pick (.t 17) (.c (.bool true)) (.t 27))])
 (.cond (.t 28)
 (.seq (.region [oo 4 (.mv (ci 25))])
 (.ret))
 (.skip)))
 (.seq (.region [om 30 1,
 oo 31 (.indexAddr (.sl 1) (.t 30) (ci 2)),
 oo 32 (.load 1 false (.t 31)),
 oo 33 (.call 224 [(.t 32)]),
 om 29 33,
 oo 34 (.extract 0 (.t 29)),
 oo 35 (.extract 1 (.t 29)),
 om 5 34,
 om 6 35])
 (.seq (.seq (.region [om 36 6,
 oo 37 (.un .not (.t 36))])
 (.cond (.t 37)
 (.seq (.region [oo 4 (.mv (ci 25))])
 (.ret))
 (.skip)))
 (.seq (.regionD [qm 38 1,
 oq 39 (.indexAddr (.sl 1) (.t 38) (ci 1)),
 oq 40 (.load 1 false (.t 39)),
 qm 41 5,
 qm 42 1,
 oq 43 (.indexAddr (.sl 1) (.t 42) (ci 3)),
 oq 44 (.load 1 false (.t 43)),
 oq 45 (.bin .eql .strs (.t 44) (.c (.str [111, 117, 116]))),
 oq 46 (.build [.str [], .int .i64 0, .bool false] [(0, 1, (.t 40)), (1, 1, (.t 41)), (2, 1, (.t 45))]),
 oq 7 (.alloc [.str [], .int .i64 0, .bool false]),
 ⟨⟨none, .store 3 (.t 7) (.t 46), none⟩, false, []⟩])
 (.seq (.seq (.region [om 47 1,
 oo 48 (.indexAddr (.sl 1) (.t 47) (ci 0)),
 oo 49 (.load 1 false (.t 48)),
 oo 50 (.bin .eql .strs (.t 49) (.c (.str [108, 101, 102, 116])))])
 (.cond (.t 50)
 (.regionD [qm 51 0,
 qm 52 0,
 oq 53 (.nilChk (.t 52)),
 oq 54 (.fieldAddr 1 (.t 53)),
 oq 55 (.fieldAddr 2 (.t 54)),
 oq 56 (.load 1 false (.t 55)),
 oq 57 (.load 3 true (.t 7)),
 oq 58 (.buildSl 3 1 [.str [], .int .i64 0, .bool false] [(0, 3, (.t 57))]),
 oq 59 (.append 3 32 none (.t 56) (.t 58)),
 oq 60 (.nilChk (.t 51)),
 oq 61 (.fieldAddr 1 (.t 60)),
 oq 62 (.fieldAddr 2 (.t 61)),
 ⟨⟨none, .store 1 (.t 62) (.t 59), none⟩, false, []⟩])
 (.regionD [qm 63 0,
 qm 64 0,
 oq 65 (.nilChk (.t 64)),
 oq 66 (.fieldAddr 1 (.t 65)),
 oq 67 (.fieldAddr 3 (.t 66)),
 oq 68 (.load 1 false (.t 67)),
 oq 69 (.load 3 true (.t 7)),
 oq 70 (.buildSl 3 1 [.str [], .int .i64 0, .bool false] [(0, 3, (.t 69))]),
 oq 71 (.append 3 32 none (.t 68) (.t 70)),
 oq 72 (.nilChk (.t 63)),
 oq 73 (.fieldAddr 1 (.t 72)),
 oq 74 (.fieldAddr 3 (.t 73)),
 ⟨⟨none, .store 1 (.t 74) (.t 71), none⟩, false, []⟩])))
 (.seq (.region [oo 75 (.load 3 true (.t 7)),
 oo 76 (.call 56 [(.t 75)]),
 om 4 76])
 (.ret)))))))⟩

/- strings.Lines$1 -/
def F192 : AFunc := ⟨25, [],
 .block 0 (.loop (.seq (.seq (.region [oo 5 (.load 1 false (.t 1)),
 oo 6 (.len .str (.t 5)),
 oo 7 (.bin .gtr .num (.t 6) (ci 0))])
 (.cond (.t 7)
 (.skip)
 (.exit 0)))
 (.block 1 (.seq (.region [oo 3 (.mv (.c (.str [])))])
 (.seq (.seq (.region [oo 8 (.load 1 false (.t 1)),
 oo 9 (.call 193 [(.t 8), (.c (.int .u8 10))]),
 om 4 9])
 (.seq (.region [om 10 4,
 oo 11 (.bin .geq .num (.t 10) (ci 0))])
 (.cond (.t 11)
 (.regionD [oq 12 (.load 1 false (.t 1)),
 qm 13 4,
 oq 14 (.bin .add .num (.t 13) (ci 1)),
 oq 15 (.slice .str (.t 12) none (some (.t 14)) none),
 oq 16 (.load 1 false (.t 1)),
 qm 17 4,
 oq 18 (.bin .add .num (.t 17) (ci 1)),
 oq 19 (.slice .str (.t 16) (some (.t 18)) none none),
 qm 3 15,
 ⟨⟨none, .store 1 (.t 1) (.t 19), none⟩, false, []⟩])
 (.region [oo 20 (.load 1 false (.t 1)),
 om 3 20,
 ⟨none, .store 1 (.t 1) (.c (.str [])), none⟩]))))
 (.seq (.region [om 21 0,
 om 22 3,
 oo 23 (.dyn (.t 21) [(.t 22)]),
 oo 24 (.un .not (.t 23))])
 (.cond (.t 24)
 (.ret)
 (.skip))))))))⟩

/- strings.IndexByte -/
def F193 : AFunc := ⟨8, [.tmp 4],
 .seq (.region [oo 4 (.mv (ci 0))])
 (.seq (.region [om 5 0,
 om 6 1,
 oo 7 (.call 225 [(.t 5), (.t 6)]),
 om 4 7])
 (.ret))⟩

/- codend/panel.reach$1 -/
def F194 : AFunc := ⟨32, [],
 .seq (.seq (.region [om 7 2])
 (.cond (.t 7)
 (.region [oo 8 (.load 1 false (.t 3)),
 om 9 0,
 om 10 1,
 om 11 1,
 oo 12 (.build [.int .i64 0, .int .i64 0] [(0, 1, (.t 10)), (1, 1, (.t 11))]),
 oo 13 (.indexAddr (.sl 2) (.t 8) (.t 9)),
 ⟨none, .store 2 (.t 13) (.t 12), none⟩])
 (.skip)))
 (.regionD [oq 14 (.load 1 false (.t 3)),
 qm 15 0,
 oq 16 (.load 1 false (.t 3)),
 qm 17 0,
 oq 18 (.indexAddr (.sl 2) (.t 16) (.t 17)),
 oq 19 (.indexAddr (.arr 2 1) (.t 18) (ci 0)),
 oq 20 (.load 1 false (.t 19)),
 qm 21 1,
 oq 22 (.min (.t 20) (.t 21)),
 oq 23 (.load 1 false (.t 3)),
 qm 24 0,
 oq 25 (.indexAddr (.sl 2) (.t 23) (.t 24)),
 oq 26 (.indexAddr (.arr 2 1) (.t 25) (ci 1)),
 oq 27 (.load 1 false (.t 26)),
 qm 28 1,
 oq 29 (.max (.t 27) (.t 28)),
 oq 30 (.build [.int .i64 0, .int .i64 0] [(0, 1, (.t 22)), (1, 1, (.t 29))]),
 oq 31 (.indexAddr (.sl 2) (.t 14) (.t 15)),
 ⟨⟨none, .store 2 (.t 31) (.t 30), none⟩, false, []⟩])⟩

/- codend/netting.merged[codend/api.Bar] -/
def F197 : AFunc := ⟨59, [.tmp 8],
 .seq (.region [oo 8 (.mv (.c (.nilsl)))])
 (.seq (.region [oo 9 (.mv (.c (.nilsl)))])
 (.seq (.block 0 (.loop (.seq (.seq (.region [om 12 0,
 oo 13 (.len .sl (.t 12)),
 om 14 1,
 oo 15 (.len .sl (.t 14)),
 oo 16 (.bin .add .num (.t 13) (.t 15)),
 oo 17 (.bin .gtr .num (.t 16) (ci 0))])
 (.cond (.t 17)
 (.skip)
 (.exit 0)))
 (.block 1 (.seq (.region [oo 10 (.mv (ci 0))])
 (.seq (.block 2 (.seq (.region [om 27 1,
 oo 28 (.len .sl (.t 27)),
 oo 29 (.bin .eql .num (.t 28) (ci 0)),
 om 26 29])
 (.cond (.t 26)
 (.region [oo 10 (.mv (ci (-1)))])
 (.seq (.region [om 31 0,
 oo 32 (.len .sl (.t 31)),
 oo 33 (.bin .eql .num (.t 32) (ci 0)),
 om 30 33])
 (.cond (.t 30)
 (.region [oo 10 (.mv (ci 1))])
 (.regionD [qm 18 2,
 qm 19 0,
 oq 20 (.indexAddr (.sl 3) (.t 19) (ci 0)),
 oq 21 (.load 3 true (.t 20)),
 qm 22 1,
 oq 23 (.indexAddr (.sl 3) (.t 22) (ci 0)),
 oq 24 (.load 3 true (.t 23)),
 oq 25 (.dyn (.t 18) [(.t 21), (.t 24)]),
 qm 10 25]))))))
 (.seq (.region [oo 11 (.alloc [.int .i64 0, .int .i64 0, .int .i64 0])])
 (.seq (.seq (.region [om 34 10,
 oo 35 (.bin .leq .num (.t 34) (ci 0))])
 (.cond (.t 35)
 (.regionD [qm 36 0,
 oq 37 (.indexAddr (.sl 3) (.t 36) (ci 0)),
 oq 38 (.load 3 true (.t 37)),
 qm 39 0,
 oq 40 (.slice (.sl 3) (.t 39) (some (ci 1)) none none),
 ⟨⟨none, .store 3 (.t 11) (.t 38), none⟩, false, []⟩,
 qm 0 40])
 (.skip)))
 (.seq (.seq (.region [om 41 10,
 oo 42 (.bin .geq .num (.t 41) (ci 0))])
 (.cond (.t 42)
 (.regionD [qm 43 1,
 oq 44 (.indexAddr (.sl 3) (.t 43) (ci 0)),
 oq 45 (.load 3 true (.t 44)),
 qm 46 1,
 oq 47 (.slice (.sl 3) (.t 46) (some (ci 1)) none none),
 ⟨⟨none, .store 3 (.t 11) (.t 45), none⟩, false, []⟩,
 qm 1 47])
 (.skip)))
 (.seq (.region [om 48 3,
 om 49 10,
 oo 50 (.bin .leq .num (.t 49) (ci 0)),
 om 51 10,
 oo 52 (.bin .geq .num (.t 51) (ci 0)),
 oo 53 (.dyn (.t 48) [(.t 50), (.t 52)])])
 (.cond (.t 53)
 (.region [om 54 9,
 oo 55 (.load 3 true (.t 11)),
 oo 56 (.buildSl 3 1 [.int .i64 0, .int .i64 0, .int .i64 0] [(0, 3, (.t 55))]),
 oo 57 (.append 3 24 none (.t 54) (.t 56)),
 om 9 57])
 (.skip))))))))))))
 (.seq (.region [om 58 9,
 om 8 58])
 (.ret))))⟩

/- codend/netting.compare -/
def F198 : AFunc := ⟨22, [.tmp 4],
 .seq (.region [oo 2 (.box (.t 0)),
 oo 3 (.box (.t 1)),
 oo 4 (.mv (ci 0))])
 (.seq (.regionD [oq 5 (.fieldAddr 1 (.t 2)),
 oq 6 (.load 1 false (.t 5)),
 oq 7 (.fieldAddr 1 (.t 3)),
 oq 8 (.load 1 false (.t 7)),
 ⟨⟨some 9, .call 207 [(.t 6), (.t 8)], none⟩, true, []⟩,
 oq 10 (.fieldAddr 0 (.t 2)),
 oq 11 (.load 1 false (.t 10)),
 oq 12 (.fieldAddr 0 (.t 3)),
 oq 13 (.load 1 false (.t 12)),
 ⟨⟨some 14, .call 207 [(.t 11), (.t 13)], none⟩, true, []⟩,
 oq 15 (.fieldAddr 2 (.t 2)),
 oq 16 (.load 1 false (.t 15)),
 oq 17 (.fieldAddr 2 (.t 3)),
 oq 18 (.load 1 false (.t 17)),
 oq 19 (.call 207 [(.t 16), (.t 18)]),
 oq 20 (.buildSl 1 3 [.int .i64 0, .int .i64 0, .int .i64 0] [(0, 1, (.t 9)), (1, 1, (.t 14)), (2, 1, (.t 19))]),
 oq 21 (.call 206 [(.t 20)]),
 qm 4 21])
 (.ret))⟩

/- codend/panel.reversed[codend/panel.Edge] -/
def F199 : AFunc := ⟨9, [.tmp 2],
 .seq (.region [oo 2 (.mv (.c (.nilsl)))])
 (.seq (.region [om 4 0,
 oo 5 (.call 110 [(.t 4)]),
 om 3 5])
 (.seq (.region [om 6 3,
 oo 7 (.call 226 [(.t 6)])])
 (.seq (.region [om 8 3,
 om 2 8])
 (.ret))))⟩

/- codend/panel.reversed[byte] -/
def F200 : AFunc := ⟨9, [.tmp 2],
 .seq (.region [oo 2 (.mv (.c (.nilsl)))])
 (.seq (.region [om 4 0,
 oo 5 (.call 227 [(.t 4)]),
 om 3 5])
 (.seq (.region [om 6 3,
 oo 7 (.call 228 [(.t 6)])])
 (.seq (.region [om 8 3,
 om 2 8])
 (.ret))))⟩

/- codend/netting.CheckBar -/
def F201 : AFunc := ⟨28, [.tmp 2],
 .seq (.region [oo 1 (.box (.t 0)),
 oo 2 (.mv (ci 0))])
 (.seq (.seq (.regionD [oq 4 (.fieldAddr 0 (.t 1)),
 oq 5 (.load 1 false (.t 4)),
 oq 6 (.fieldAddr 1 (.t 1)),
 oq 7 (.load 1 false (.t 6)),
 oq 8 (.build [.int .i64 0, .int .i64 0] [(0, 1, (.t 5)), (1, 1, (.t 7))]),
 ⟨⟨some 9, .call 152 [(.t 8)], none⟩, true, []⟩,
 oq 10 (.fieldAddr 2 (.t 1)),
 oq 11 (.load 1 false (.t 10)),
 oq 12 (.bin .neq .num (.t 11) (ci (-1))),
 qm 13 12,
 ⟨⟨some 14, .fieldAddr 2 (.t 1), some (13, true)⟩, false, []⟩,
 ⟨⟨some 15, .load 1 false (.t 14), some (13, true)⟩, false, []⟩,
 ⟨⟨some 16, .bin .neq .num (.t 15) (ci 1), some (13, true)⟩, false, []⟩,
 oq 17 (.pick (.t 13) (.t 16) (.c (.bool false))),
 oq 18 (.call 168 [(.t 17), (ci 13)]),
 oq 19 (.buildSl 1 2 [.int .i64 0, .int .i64 0] [(0, 1, (.t 9)), (1, 1, (.t 18))]),
 oq 20 (.call 150 [(.t 19)]),
 qm 3 20])
 (.seq (.region [om 21 3,
 oo 22 (.bin .neq .num (.t 21) (ci 0))])
 (.cond (.t 22)
 (.seq (.region [om 23 3,
 om 2 23])
 (.ret))
 (.skip))))
 (.seq (.region [oo 24 (.load 3 true (.t 1)),
 oo 25 (.call 202 [(.t 24)]),
 oo 26 (.index (.arr 2 2 true) (.t 25) (ci 1)),
 oo 27 (.call 169 [(.t 26)]),
 om 2 27])
 (.ret)))⟩

/- codend/netting.ends -/
def F202 : AFunc := ⟨18, [.cell 2 4 true],
 .seq (.region [oo 1 (.box (.t 0)),
 oo 2 (.alloc [.int .i64 0, .int .i64 0, .int .i64 0, .int .i64 0])])
 (.seq (.region [oo 3 (.fieldAddr 0 (.t 1)),
 oo 4 (.load 1 false (.t 3)),
 oo 5 (.fieldAddr 1 (.t 1)),
 oo 6 (.load 1 false (.t 5)),
 oo 7 (.build [.int .i64 0, .int .i64 0] [(0, 1, (.t 4)), (1, 1, (.t 6))]),
 oo 8 (.fieldAddr 0 (.t 1)),
 oo 9 (.load 1 false (.t 8)),
 oo 10 (.fieldAddr 2 (.t 1)),
 oo 11 (.load 1 false (.t 10)),
 oo 12 (.bin .add .num (.t 9) (.t 11)),
 oo 13 (.fieldAddr 1 (.t 1)),
 oo 14 (.load 1 false (.t 13)),
 oo 15 (.bin .add .num (.t 14) (ci 1)),
 oo 16 (.build [.int .i64 0, .int .i64 0] [(0, 1, (.t 12)), (1, 1, (.t 15))]),
 oo 17 (.build [.int .i64 0, .int .i64 0, .int .i64 0, .int .i64 0] [(0, 2, (.t 7)), (2, 2, (.t 16))]),
 ⟨none, .store 4 (.t 2) (.t 17), none⟩])
 (.ret))⟩

/- cmp.Or[int] -/
def F206 : AFunc := ⟨18, [.tmp 2],
 .seq (.region [oo 2 (.mv (ci 0))])
 (.seq (.region [oo 3 (.mv (ci 0))])
 (.seq (.seq (.region [om 6 0,
 oo 7 (.len .sl (.t 6)),
 oo 8 (.mv (ci 0))])
 (.block 0 (.loop (.seq (.region [oo 9 (.bin .lss .num (.t 8) (.t 7))])
 (.seq (.cond (.t 9)
 (.skip)
 (.exit 0))
 (.seq (.block 1 (.seq (.region [oo 10 (.indexAddr (.sl 1) (.t 6) (.t 8)),
 oo 11 (.load 1 false (.t 10)),
 om 5 11])
 (.seq (.region [om 12 5,
 om 13 3,
 oo 14 (.bin .neq .num (.t 12) (.t 13))])
 (.cond (.t 14)
 (.seq (.region [om 15 5,
 om 2 15])
 (.ret))
 (.skip)))))
 (.region [oo 16 (.bin .add .num (.t 8) (ci 1)),
 om 8 16])))))))
 (.seq (.region [om 17 3,
 om 2 17])
 (.ret))))⟩

/- cmp.Compare[int] -/
def F207 : AFunc := ⟨20, [.tmp 4],
 .seq (.region [oo 4 (.mv (ci 0))])
 (.seq (.region [om 7 0,
 oo 8 (.call 232 [(.t 7)]),
 om 5 8])
 (.seq (.region [om 9 1,
 oo 10 (.call 232 [(.t 9)]),
 om 6 10])
 (.seq (.seq (.region [om 11 5])
 (.cond (.t 11)
 (.seq (.seq (.region [om 12 6])
 (.cond (.t 12)
 (.seq (.region [oo 4 (.mv (ci 0))])
 (.ret))
 (.skip)))
 (.seq (.region [oo 4 (.mv (ci (-1)))])
 (.ret)))
 (.skip)))
 (.seq (.seq (.region [om 13 6])
 (.cond (.t 13)
 (.seq (.region [oo 4 (.mv (ci 1))])
 (.ret))
 (.skip)))
 (.seq (.seq (.region [om 14 0,
 om 15 1,
 oo 16 (.bin .lss .num (.t 14) (.t 15))])
 (.cond (.t 16)
 (.seq (.region [oo 4 (.mv (ci (-1)))])
 (.ret))
 (.skip)))
 (.seq (.seq (.region [om 17 0,
 om 18 1,
 oo 19 (.bin .gtr .num (.t 17) (.t 18))])
 (.cond (.t 19)
 (.seq (.region [oo 4 (.mv (ci 1))])
 (.ret))
 (.skip)))
 (.seq (.region [oo 4 (.mv (ci 0))])
 (.ret))))))))⟩

/- slices.Grow[[]codend/api.Knot,codend/api.Knot] -/
def F213 : AFunc := ⟨27, [.tmp 4],
 .seq (.region [oo 4 (.mv (.c (.nilsl)))])
 (.seq (.seq (.region [om 5 1,
 oo 6 (.bin .lss .num (.t 5) (ci 0))])
 (.cond (.t 6)
 (.region [oo 7 (.mkIface 9 (.c (.str [99, 97, 110, 110, 111, 116, 32, 98, 101, 32, 110, 101, 103, 97, 116, 105, 118, 101]))),
 ⟨none, .stuck, none⟩])
 (.skip)))
 (.seq (.seq (.region [om 8 1,
 om 9 0,
 oo 10 (.cap (.t 9)),
 om 11 0,
 oo 12 (.len .sl (.t 11)),
 oo 13 (.bin .sub .num (.t 10) (.t 12)),
 oo 14 (.bin .sub .num (.t 8) (.t 13)),
 om 1 14])
 (.seq (.region [om 15 1,
 oo 16 (.bin .gtr .num (.t 15) (ci 0))])
 (.cond (.t 16)
 (.region [om 17 0,
 om 18 0,
 oo 19 (.cap (.t 18)),
 oo 20 (.slice (.sl 2) (.t 17) none (some (.t 19)) none),
 om 21 1,
 oo 22 (.append 2 16 (some [.int .i64 0, .int .i64 0]) (.t 20) (.t 21)),
 om 23 0,
 oo 24 (.len .sl (.t 23)),
 oo 25 (.slice (.sl 2) (.t 22) none (some (.t 24)) none),
 om 0 25])
 (.skip))))
 (.seq (.region [om 26 0,
 om 4 26])
 (.ret))))⟩

/- slices.AppendSeq[[]codend/api.Bar,codend/api.Bar] -/
def F214 : AFunc := ⟨13, [.tmp 4],
 .seq (.region [oo 2 (.box (.t 0)),
 oo 4 (.mv (.c (.nilsl)))])
 (.seq (.seq (.region [om 6 1])
 (.block 0 (.rangeFunc (.t 6) [7] (.region [oo 5 (.alloc [.int .i64 0, .int .i64 0, .int .i64 0]),
 ⟨none, .store 3 (.t 5) (.t 7), none⟩])
 (.block 1 (.region [oo 8 (.load 1 false (.t 2)),
 oo 9 (.load 3 true (.t 5)),
 oo 10 (.buildSl 3 1 [.int .i64 0, .int .i64 0, .int .i64 0] [(0, 3, (.t 9))]),
 oo 11 (.append 3 24 none (.t 8) (.t 10)),
 ⟨none, .store 1 (.t 2) (.t 11), none⟩])))))
 (.seq (.region [oo 12 (.load 1 false (.t 2)),
 om 4 12])
 (.ret)))⟩

/- codend/netting.sheet$1 -/
def F215 : AFunc := ⟨64, [],
 .seq (.region [oo 10 (.load 1 false (.t 1)),
 oo 11 (.mv (ci 0))])
 (.block 0 (.loop (.seq (.region [oo 12 (.bin .lss .num (.t 11) (.t 10))])
 (.seq (.cond (.t 12)
 (.skip)
 (.exit 0))
 (.seq (.block 1 (.seq (.region [om 13 11,
 om 5 13])
 (.seq (.region [oo 14 (.fieldAddr 0 (.t 2)),
 oo 15 (.load 1 false (.t 14)),
 om 16 5,
 oo 17 (.bin .rem .num (.t 16) (ci 2)),
 oo 18 (.bin .add .num (.t 15) (.t 17)),
 om 6 18])
 (.block 2 (.loop (.seq (.seq (.region [om 19 6,
 oo 20 (.fieldAddr 0 (.t 2)),
 oo 21 (.load 1 false (.t 20)),
 oo 22 (.load 1 false (.t 3)),
 oo 23 (.bin .mul .num (ci 2) (.t 22)),
 oo 24 (.bin .add .num (.t 21) (.t 23)),
 oo 25 (.bin .leq .num (.t 19) (.t 24))])
 (.cond (.t 25)
 (.skip)
 (.exit 2)))
 (.seq (.block 3 (.seq (.region [oo 28 (.build [.int .i64 0, .int .i64 0] [(0, 1, (ci (-1))), (1, 1, (ci 1))]),
 oo 29 (.mv (ci 0))])
 (.block 4 (.loop (.seq (.region [oo 30 (.bin .lss .num (.t 29) (ci 2))])
 (.seq (.cond (.t 30)
 (.skip)
 (.exit 4))
 (.seq (.block 5 (.seq (.region [oo 31 (.index (.arr 2 1 false) (.t 28) (.t 29)),
 om 8 31])
 (.seq (.region [om 32 6,
 oo 33 (.fieldAddr 1 (.t 2)),
 oo 34 (.load 1 false (.t 33)),
 om 35 5,
 oo 36 (.bin .add .num (.t 34) (.t 35)),
 om 37 8,
 oo 38 (.build [.int .i64 0, .int .i64 0, .int .i64 0] [(0, 1, (.t 32)), (1, 1, (.t 36)), (2, 1, (.t 37))]),
 oo 9 (.alloc [.int .i64 0, .int .i64 0, .int .i64 0]),
 ⟨none, .store 3 (.t 9) (.t 38), none⟩])
 (.seq (.region [om 39 6,
 om 40 8,
 oo 41 (.bin .add .num (.t 39) (.t 40)),
 oo 42 (.fieldAddr 0 (.t 2)),
 oo 43 (.load 1 false (.t 42)),
 oo 44 (.bin .geq .num (.t 41) (.t 43)),
 om 45 44,
 ⟨some 46, .mv (.t 6), some (45, true)⟩,
 ⟨some 47, .mv (.t 8), some (45, true)⟩,
 ⟨some 48, .bin .add .num (.t 46) (.t 47), some (45, true)⟩,
 ⟨some 49, .fieldAddr 0 (.t 2), some (45, true)⟩,
 ⟨some 50, .load 1 false (.t 49), some (45, true)⟩,
 ⟨some 51, .load 1 false (.t 3), some (45, true)⟩,
 ⟨some 52, .bin .mul .num (ci 2) (.t 51), some (45, true)⟩,
 ⟨some 53, .bin .add .num (.t 50) (.t 52), some (45, true)⟩,
 ⟨some 54, .bin .leq .num (.t 48) (.t 53), some (45, true)⟩,
 oo 55 (.pick (.t 45) (.t 54) (.c (.bool false))),
 om 56 55,
 ⟨some 57, .mv (.t 0), some (56, true)⟩,
 ⟨some 58, .load 3 true (.t 9), some (56, true)⟩,
 ⟨some 59, .dyn (.t 57) [(.t 58)], some (56, true)⟩,
 ⟨some 60, .un .not (.t 59), some (56, true)⟩,
 oo 61 (.pick (.t 56) (.t 60) (.c (.bool false)))])
 (.cond (.t 61)
 (.ret)
 (.skip))))))
 (.region [oo 62 (.bin .add .num (.t 29) (ci 1)),
 om 29 62]))))))))
 (.region [om 26 6,
 oo 27 (.bin .add .num (.t 26) (ci 2)),
 om 6 27]))))))))
 (.region [oo 63 (.bin .add .num (.t 11) (ci 1)),
 om 11 63]))))))⟩

/- slices.ContainsFunc[[]codend/panel.Panel,codend/panel.Panel] -/
def F216 : AFunc := ⟨9, [.tmp 4],
 .seq (.region [oo 4 (.mv (.c (.bool false)))])
 (.seq (.region [om 5 0,
 om 6 1,
 oo 7 (.call 234 [(.t 5), (.t 6)]),
 oo 8 (.bin .geq .num (.t 7) (ci 0)),
 om 4 8])
 (.ret))⟩

/- codend/panel.again$1 -/
def F217 : AFunc := ⟨9, [.tmp 3],
 .seq (.region [oo 2 (.box (.t 0)),
 oo 3 (.mv (.c (.bool false)))])
 (.seq (.region [oo 4 (.fieldAddr 0 (.t 2)),
 oo 5 (.load 1 false (.t 4)),
 oo 6 (.fieldAddr 0 (.t 1)),
 oo 7 (.load 1 false (.t 6)),
 oo 8 (.bin .eql .strs (.t 5) (.t 7)),
 om 3 8])
 (.ret))⟩

/- internal/strconv.FormatInt -/
def F219 : AFunc := ⟨54, [.tmp 4],
 .seq (.region [oo 4 (.mv (.c (.str [])))])
 (.seq (.seq (.region [om 10 1,
 oo 11 (.bin .eql .num (.t 10) (ci 10))])
 (.cond (.t 11)
 (.seq (.seq (.region [om 12 0,
 oo 13 (.bin .leq .num (ci 0) (.t 12)),
 om 14 13,
 ⟨some 15, .mv (.t 0), some (14, true)⟩,
 ⟨some 16, .bin .lss .num (.t 15) (ci 100), some (14, true)⟩,
 oo 17 (.pick (.t 14) (.t 16) (.c (.bool false)))])
 (.cond (.t 17)
 (.seq (.region [om 18 0,
 oo 19 (.call 235 [(.t 18)]),
 om 4 19])
 (.ret))
 (.skip)))
 (.seq (.region [oo 5 (.alloc [.int .u8 0, .int .u8 0, .int .u8 0, .int .u8 0, .int .u8 0, .int .u8 0, .int .u8 0, .int .u8 0, .int .u8 0, .int .u8 0, .int .u8 0, .int .u8 0, .int .u8 0, .int .u8 0, .int .u8 0, .int .u8 0, .int .u8 0, .int .u8 0, .int .u8 0, .int .u8 0, .int .u8 0, .int .u8 0, .int .u8 0, .int .u8 0])])
 (.seq (.region [om 20 0,
 oo 21 (.conv (.int .u64) (.t 20)),
 om 6 21])
 (.seq (.seq (.region [om 22 0,
 oo 23 (.bin .lss .num (.t 22) (ci 0))])
 (.cond (.t 23)
 (.region [om 24 6,
 oo 25 (.un .neg (.t 24)),
 om 6 25])
 (.skip)))
 (.seq (.region [om 26 6,
 oo 27 (.call 236 [(.t 26)]),
 om 7 27])
 (.seq (.region [om 28 7,
 oo 29 (.bin .add .num (ci 1) (.t 28)),
 oo 30 (.slice (.arr 24 1) (.t 5) (some (ci 1)) (some (.t 29)) none),
 om 31 6,
 oo 32 (.call 237 [(.t 30), (.t 31)])])
 (.seq (.seq (.region [om 33 0,
 oo 34 (.bin .lss .num (.t 33) (ci 0))])
 (.cond (.t 34)
 (.seq (.region [oo 35 (.indexAddr (.arr 24 1) (.t 5) (ci 0)),
 ⟨none, .store 1 (.t 35) (.c (.int .u8 45)), none⟩])
 (.seq (.region [om 36 7,
 oo 37 (.bin .add .num (ci 1) (.t 36)),
 oo 38 (.slice (.arr 24 1) (.t 5) none (some (.t 37)) none),
 oo 39 (.conv .bytesStr (.t 38)),
 om 4 39])
 (.ret)))
 (.skip)))
 (.seq (.region [om 40 7,
 oo 41 (.bin .add .num (ci 1) (.t 40)),
 oo 42 (.slice (.arr 24 1) (.t 5) (some (ci 1)) (some (.t 41)) none),
 oo 43 (.conv .bytesStr (.t 42)),
 om 4 43])
 (.ret)))))))))
 (.skip)))
 (.seq (.region [om 45 0,
 oo 46 (.conv (.int .u64) (.t 45)),
 om 47 1,
 om 48 0,
 oo 49 (.bin .lss .num (.t 48) (ci 0)),
 oo 50 (.call 238 [(.c (.nilsl)), (.t 46), (.t 47), (.t 49), (.c (.bool false))]),
 om 44 50,
 oo 51 (.extract 0 (.t 44)),
 oo 52 (.extract 1 (.t 44)),
 om 8 51,
 om 9 52])
 (.seq (.region [om 53 9,
 om 4 53])
 (.ret))))⟩

/- internal/stringslite.CutSuffix -/
def F221 : AFunc := ⟨18, [.tmp 4, .tmp 5],
 .seq (.region [oo 4 (.mv (.c (.str []))),
 oo 5 (.mv (.c (.bool false)))])
 (.seq (.seq (.region [om 6 0,
 om 7 1,
 oo 8 (.call 240 [(.t 6), (.t 7)]),
 oo 9 (.un .not (.t 8))])
 (.cond (.t 9)
 (.seq (.region [om 10 0,
 om 4 10,
 oo 5 (.mv (.c (.bool false)))])
 (.ret))
 (.skip)))
 (.seq (.region [om 11 0,
 om 12 0,
 oo 13 (.len .str (.t 12)),
 om 14 1,
 oo 15 (.len .str (.t 14)),
 oo 16 (.bin .sub .num (.t 13) (.t 15)),
 oo 17 (.slice .str (.t 11) none (some (.t 16)) none),
 om 4 17,
 oo 5 (.mv (.c (.bool true)))])
 (.ret)))⟩

/- strings.genSplit -/
def F222 : AFunc := ⟨66, [.tmp 8],
 .seq (.region [oo 8 (.mv (.c (.nilsl)))])
 (.seq (.seq (.region [om 12 3,
 oo 13 (.bin .eql .num (.t 12) (ci 0))])
 (.cond (.t 13)
 (.seq (.region [oo 8 (.mv (.c (.nilsl)))])
 (.ret))
 (.skip)))
 (.seq (.seq (.region [om 14 1,
 oo 15 (.bin .eql .strs (.t 14) (.c (.str [])))])
 (.cond (.t 15)
 (.seq (.region [om 16 0,
 om 17 3,
 oo 18 (.call 241 [(.t 16), (.t 17)]),
 om 8 18])
 (.ret))
 (.skip)))
 (.seq (.seq (.region [om 19 3,
 oo 20 (.bin .lss .num (.t 19) (ci 0))])
 (.cond (.t 20)
 (.region [om 21 0,
 om 22 1,
 oo 23 (.call 242 [(.t 21), (.t 22)]),
 oo 24 (.bin .add .num (.t 23) (ci 1)),
 om 3 24])
 (.skip)))
 (.seq (.region [om 25 3,
 om 26 0,
 oo 27 (.len .str (.t 26)),
 oo 28 (.bin .add .num (.t 27) (ci 1)),
 oo 29 (.min (.t 25) (.t 28)),
 om 3 29])
 (.seq (.region [om 30 3,
 oo 31 (.mkSl 1 16 [.str []] (.t 30) (.t 30)),
 om 9 31])
 (.seq (.region [om 32 3,
 oo 33 (.bin .sub .num (.t 32) (ci 1)),
 om 3 33])
 (.seq (.region [oo 10 (.mv (ci 0))])
 (.seq (.block 0 (.loop (.seq (.seq (.region [om 34 10,
 om 35 3,
 oo 36 (.bin .lss .num (.t 34) (.t 35))])
 (.cond (.t 36)
 (.skip)
 (.exit 0)))
 (.block 1 (.seq (.region [om 37 0,
 om 38 1,
 oo 39 (.call 243 [(.t 37), (.t 38)]),
 om 11 39])
 (.seq (.seq (.region [om 40 11,
 oo 41 (.bin .lss .num (.t 40) (ci 0))])
 (.cond (.t 41)
 (.exit 0)
 (.skip)))
 (.seq (.region [om 42 9,
 om 43 10,
 om 44 0,
 om 45 11,
 om 46 2,
 oo 47 (.bin .add .num (.t 45) (.t 46)),
 oo 48 (.slice .str (.t 44) none (some (.t 47)) none),
 oo 49 (.indexAddr (.sl 1) (.t 42) (.t 43)),
 ⟨none, .store 1 (.t 49) (.t 48), none⟩])
 (.seq (.region [om 50 0,
 om 51 11,
 om 52 1,
 oo 53 (.len .str (.t 52)),
 oo 54 (.bin .add .num (.t 51) (.t 53)),
 oo 55 (.slice .str (.t 50) (some (.t 54)) none none),
 om 0 55])
 (.region [om 56 10,
 oo 57 (.bin .add .num (.t 56) (ci 1)),
 om 10 57])))))))))
 (.seq (.region [om 58 9,
 om 59 10,
 om 60 0,
 oo 61 (.indexAddr (.sl 1) (.t 58) (.t 59)),
 ⟨none, .store 1 (.t 61) (.t 60), none⟩])
 (.seq (.region [om 62 9,
 om 63 10,
 oo 64 (.bin .add .num (.t 63) (ci 1)),
 oo 65 (.slice (.sl 1) (.t 62) none (some (.t 64)) none),
 om 8 65])
 (.ret)))))))))))⟩

/- slices.Index[[]string,string] -/
def F223 : AFunc := ⟨19, [.tmp 4],
 .seq (.region [oo 4 (.mv (ci 0))])
 (.seq (.seq (.region [om 6 0,
 oo 7 (.len .sl (.t 6)),
 oo 8 (.mv (ci 0))])
 (.block 0 (.loop (.seq (.region [oo 9 (.bin .lss .num (.t 8) (.t 7))])
 (.seq (.cond (.t 9)
 (.skip)
 (.exit 0))
 (.seq (.block 1 (.seq (.region [om 10 8,
 om 5 10])
 (.seq (.region [om 11 1,
 om 12 0,
 om 13 5,
 oo 14 (.indexAddr (.sl 1) (.t 12) (.t 13)),
 oo 15 (.load 1 false (.t 14)),
 oo 16 (.bin .eql .strs (.t 11) (.t 15))])
 (.cond (.t 16)
 (.seq (.region [om 17 5,
 om 4 17])
 (.ret))
 (.skip)))))
 (.region [oo 18 (.bin .add .num (.t 8) (ci 1)),
 om 8 18])))))))
 (.seq (.region [oo 4 (.mv (ci (-1)))])
 (.ret)))⟩

/- codend/panel.decimal -/
def F224 : AFunc := ⟨29, [.tmp 2, .tmp 3],
 .seq (.region [oo 2 (.mv (ci 0)),
 oo 3 (.mv (.c (.bool false)))])
 (.seq (.region [om 7 0,
 oo 8 (.call 244 [(.t 7)]),
 om 6 8,
 oo 9 (.extract 0 (.t 6)),
 oo 10 (.extract 1 (.t 6)),
 om 4 9,
 om 5 10])
 (.seq (.region [om 11 4,
 om 12 5,
 oo 13 (.bin .eql (.nilc .ifc) (.t 12) (.c (.niliface))),
 om 14 13,
 ⟨some 15, .mv (.t 0), some (14, true)⟩,
 ⟨some 16, .len .str (.t 15), some (14, true)⟩,
 ⟨some 17, .bin .leq .num (.t 16) (ci 9), some (14, true)⟩,
 oo 18 (.pick (.t 14) (.t 17) (.c (.bool false))),
 om 19 18,
 ⟨some 20, .mv (.t 4), some (19, true)⟩,
 ⟨some 21, .bin .geq .num (.t 20) (ci 0), some (19, true)⟩,
 oo 22 (.pick (.t 19) (.t 21) (.c (.bool false))),
 om 23 22,
 ⟨some 24, .mv (.t 4), some (23, true)⟩,
 ⟨some 25, .call 122 [(.t 24)], some (23, true)⟩,
 ⟨some 26, .mv (.t 0), some (23, true)⟩,
 ⟨some 27, .bin .eql .strs (.t 25) (.t 26), some (23, true)⟩,
 oo 28 (.pick (.t 23) (.t 27) (.c (.bool false))),
 om 2 11,
 om 3 28])
 (.ret)))⟩

/- internal/stringslite.IndexByte -/
def F225 : AFunc := ⟨8, [.tmp 4],
 .seq (.region [oo 4 (.mv (ci 0))])
 (.seq (.region [om 5 0,
 om 6 1,
 oo 7 (.call 245 [(.t 5), (.t 6)]),
 om 4 7])
 (.ret))⟩

/- slices.Reverse[[]codend/panel.Edge,codend/panel.Edge] -/
def F226 : AFunc := ⟨28, [],
 .seq (.region [om 4 0,
 oo 5 (.len .sl (.t 4)),
 oo 6 (.bin .sub .num (.t 5) (ci 1)),
 oo 2 (.mv (ci 0)),
 om 3 6])
 (.block 0 (.loop (.seq (.seq (.region [om 7 2,
 om 8 3,
 oo 9 (.bin .lss .num (.t 7) (.t 8))])
 (.cond (.t 9)
 (.skip)
 (.exit 0)))
 (.seq (.block 1 (.regionD [qm 14 0,
 qm 15 2,
 qm 16 0,
 qm 17 3,
 qm 18 0,
 qm 19 3,
 oq 20 (.indexAddr (.sl 3) (.t 18) (.t 19)),
 oq 21 (.load 3 true (.t 20)),
 qm 22 0,
 qm 23 2,
 oq 24 (.indexAddr (.sl 3) (.t 22) (.t 23)),
 oq 25 (.load 3 true (.t 24)),
 oq 26 (.indexAddr (.sl 3) (.t 14) (.t 15)),
 ⟨⟨none, .store 3 (.t 26) (.t 21), none⟩, false, []⟩,
 oq 27 (.indexAddr (.sl 3) (.t 16) (.t 17)),
 ⟨⟨none, .store 3 (.t 27) (.t 25), none⟩, false, []⟩]))
 (.region [om 10 2,
 oo 11 (.bin .add .num (.t 10) (ci 1)),
 om 12 3,
 oo 13 (.bin .sub .num (.t 12) (ci 1)),
 om 2 11,
 om 3 13])))))⟩

/- slices.Clone[[]byte,byte] -/
def F227 : AFunc := ⟨8, [.tmp 2],
 .seq (.region [oo 2 (.mv (.c (.nilsl)))])
 (.seq (.seq (.region [om 3 0,
 oo 4 (.bin .eql (.nilc .sl) (.t 3) (.c (.nilsl)))])
 (.cond (.t 4)
 (.seq (.region [oo 2 (.mv (.c (.nilsl)))])
 (.ret))
 (.skip)))
 (.seq (.region [oo 5 (.buildSl 1 0 [] []),
 om 6 0,
 oo 7 (.append 1 1 none (.t 5) (.t 6)),
 om 2 7])
 (.ret)))⟩

/- slices.Reverse[[]byte,byte] -/
def F228 : AFunc := ⟨28, [],
 .seq (.region [om 4 0,
 oo 5 (.len .sl (.t 4)),
 oo 6 (.bin .sub .num (.t 5) (ci 1)),
 oo 2 (.mv (ci 0)),
 om 3 6])
 (.block 0 (.loop (.seq (.seq (.region [om 7 2,
 om 8 3,
 oo 9 (.bin .lss .num (.t 7) (.t 8))])
 (.cond (.t 9)
 (.skip)
 (.exit 0)))
 (.seq (.block 1 (.regionD [qm 14 0,
 qm 15 2,
 qm 16 0,
 qm 17 3,
 qm 18 0,
 qm 19 3,
 oq 20 (.indexAddr (.sl 1) (.t 18) (.t 19)),
 oq 21 (.load 1 false (.t 20)),
 qm 22 0,
 qm 23 2,
 oq 24 (.indexAddr (.sl 1) (.t 22) (.t 23)),
 oq 25 (.load 1 false (.t 24)),
 oq 26 (.indexAddr (.sl 1) (.t 14) (.t 15)),
 ⟨⟨none, .store 1 (.t 26) (.t 21), none⟩, false, []⟩,
 oq 27 (.indexAddr (.sl 1) (.t 16) (.t 17)),
 ⟨⟨none, .store 1 (.t 27) (.t 25), none⟩, false, []⟩]))
 (.region [om 10 2,
 oo 11 (.bin .add .num (.t 10) (ci 1)),
 om 12 3,
 oo 13 (.bin .sub .num (.t 12) (ci 1)),
 om 2 11,
 om 3 13])))))⟩

/- cmp.isNaN[int] -/
def F232 : AFunc := ⟨6, [.tmp 2],
 .seq (.region [oo 2 (.mv (.c (.bool false)))])
 (.seq (.region [om 3 0,
 om 4 0,
 oo 5 (.bin .neq .num (.t 3) (.t 4)),
 om 2 5])
 (.ret))⟩

/- slices.IndexFunc[[]codend/panel.Panel,codend/panel.Panel] -/
def F234 : AFunc := ⟨19, [.tmp 4],
 .seq (.region [oo 4 (.mv (ci 0))])
 (.seq (.seq (.region [om 6 0,
 oo 7 (.len .sl (.t 6)),
 oo 8 (.mv (ci 0))])
 (.block 0 (.loop (.seq (.region [oo 9 (.bin .lss .num (.t 8) (.t 7))])
 (.seq (.cond (.t 9)
 (.skip)
 (.exit 0))
 (.seq (.block 1 (.seq (.region [om 10 8,
 om 5 10])
 (.seq (.region [om 11 1,
 om 12 0,
 om 13 5,
 oo 14 (.indexAddr (.sl 4) (.t 12) (.t 13)),
 oo 15 (.load 4 true (.t 14)),
 oo 16 (.dyn (.t 11) [(.t 15)])])
 (.cond (.t 16)
 (.seq (.region [om 17 5,
 om 4 17])
 (.ret))
 (.skip)))))
 (.region [oo 18 (.bin .add .num (.t 8) (ci 1)),
 om 8 18])))))))
 (.seq (.region [oo 4 (.mv (ci (-1)))])
 (.ret)))⟩

/- internal/strconv.small -/
def F235 : AFunc := ⟨15, [.tmp 2],
 .seq (.region [oo 2 (.mv (.c (.str [])))])
 (.seq (.seq (.region [om 3 0,
 oo 4 (.bin .lss .num (.t 3) (ci 10))])
 (.cond (.t 4)
 (.seq (.region [om 5 0,
 om 6 0,
 oo 7 (.bin .add .num (.t 6) (ci 1)),
 oo 8 (.slice .str (.c (.str [48, 49, 50, 51, 52, 53, 54, 55, 56, 57, 97, 98, 99, 100, 101, 102, 103, 104, 105, 106, 107, 108, 109, 110, 111, 112, 113, 114, 115, 116, 117, 118, 119, 120, 121, 122])) (some (.t 5)) (some (.t 7)) none),
 om 2 8])
 (.ret))
 (.skip)))
 (.seq (.region [om 9 0,
 oo 10 (.bin .mul .num (.t 9) (ci 2)),
 om 11 0,
 oo 12 (.bin .mul .num (.t 11) (ci 2)),
 oo 13 (.bin .add .num (.t 12) (ci 2)),
 oo 14 (.slice .str (.c (.str [48, 48, 48, 49, 48, 50, 48, 51, 48, 52, 48, 53, 48, 54, 48, 55, 48, 56, 48, 57, 49, 48, 49, 49, 49, 50, 49, 51, 49, 52, 49, 53, 49, 54, 49, 55, 49, 56, 49, 57, 50, 48, 50, 49, 50, 50, 50, 51, 50, 52, 50, 53, 50, 54, 50, 55, 50, 56, 50, 57, 51, 48, 51, 49, 51, 50, 51, 51, 51, 52, 51, 53, 51, 54, 51, 55, 51, 56, 51, 57, 52, 48, 52, 49, 52, 50, 52, 51, 52, 52, 52, 53, 52, 54, 52, 55, 52, 56, 52, 57, 53, 48, 53, 49, 53, 50, 53, 51, 53, 52, 53, 53, 53, 54, 53, 55, 53, 56, 53, 57, 54, 48, 54, 49, 54, 50, 54, 51, 54, 52, 54, 53, 54, 54, 54, 55, 54, 56, 54, 57, 55, 48, 55, 49, 55, 50, 55, 51, 55, 52, 55, 53, 55, 54, 55, 55, 55, 56, 55, 57, 56, 48, 56, 49, 56, 50, 56, 51, 56, 52, 56, 53, 56, 54, 56, 55, 56, 56, 56, 57, 57, 48, 57, 49, 57, 50, 57, 51, 57, 52, 57, 53, 57, 54, 57, 55, 57, 56, 57, 57])) (some (.t 10)) (some (.t 13)) none),
 om 2 14])
 (.ret)))⟩

/- internal/strconv.numDigits -/
def F236 : AFunc := ⟨15, [.tmp 2],
 .seq (.region [oo 2 (.mv (ci 0))])
 (.seq (.region [om 4 0,
 oo 5 (.call 255 [(.t 4)]),
 oo 6 (.call 264 [(.t 5)]),
 om 3 6])
 (.seq (.region [om 7 3,
 om 8 0,
 om 9 3,
 oo 10 (.indexAddr (.arr 20 1) (.g 0) (.t 9)),
 oo 11 (.load 1 false (.t 10)),
 oo 12 (.bin .geq .num (.t 8) (.t 11)),
 oo 13 (.call 265 [(.t 12)]),
 oo 14 (.bin .add .num (.t 7) (.t 13)),
 om 2 14])
 (.ret)))⟩

/- internal/strconv.formatBase10 -/
def F237 : AFunc := ⟨167, [],
 .seq (.region [om 17 0,
 oo 18 (.len .sl (.t 17)),
 om 4 18])
 (.seq (.block 0 (.loop (.seq (.seq (.region [om 19 4,
 oo 20 (.bin .geq .num (.t 19) (ci 8))])
 (.cond (.t 20)
 (.skip)
 (.exit 0)))
 (.block 1 (.seq (.region [om 21 1,
 oo 22 (.bin .rem .num (.t 21) (.c (.int .u64 100000000))),
 oo 23 (.conv (.int .u32) (.t 22)),
 om 5 23])
 (.seq (.region [om 24 1,
 oo 25 (.bin .quo .num (.t 24) (.c (.int .u64 100000000))),
 om 1 25])
 (.seq (.region [om 26 5,
 oo 27 (.bin .quo .num (.t 26) (.c (.int .u32 10000))),
 om 28 5,
 oo 29 (.bin .rem .num (.t 28) (.c (.int .u32 10000))),
 om 6 27,
 om 7 29])
 (.seq (.region [om 30 7,
 oo 31 (.bin .quo .num (.t 30) (.c (.int .u32 100))),
 oo 32 (.bin .mul .num (.t 31) (.c (.int .u32 2))),
 om 33 7,
 oo 34 (.bin .rem .num (.t 33) (.c (.int .u32 100))),
 oo 35 (.bin .mul .num (.t 34) (.c (.int .u32 2))),
 om 8 32,
 om 9 35])
 (.seq (.region [om 36 6,
 oo 37 (.bin .quo .num (.t 36) (.c (.int .u32 100))),
 oo 38 (.bin .mul .num (.t 37) (.c (.int .u32 2))),
 om 39 6,
 oo 40 (.bin .rem .num (.t 39) (.c (.int .u32 100))),
 oo 41 (.bin .mul .num (.t 40) (.c (.int .u32 2))),
 om 10 38,
 om 11 41])
 (.seq (.regionD [qm 42 0,
 qm 43 4,
 oq 44 (.bin .sub .num (.t 43) (ci 1)),
 qm 45 0,
 qm 46 4,
 oq 47 (.bin .sub .num (.t 46) (ci 2)),
 qm 48 9,
 oq 49 (.bin .add .num (.t 48) (.c (.int .u32 1))),
 oq 50 (.index .str (.c (.str [48, 48, 48, 49, 48, 50, 48, 51, 48, 52, 48, 53, 48, 54, 48, 55, 48, 56, 48, 57, 49, 48, 49, 49, 49, 50, 49, 51, 49, 52, 49, 53, 49, 54, 49, 55, 49, 56, 49, 57, 50, 48, 50, 49, 50, 50, 50, 51, 50, 52, 50, 53, 50, 54, 50, 55, 50, 56, 50, 57, 51, 48, 51, 49, 51, 50, 51, 51, 51, 52, 51, 53, 51, 54, 51, 55, 51, 56, 51, 57, 52, 48, 52, 49, 52, 50, 52, 51, 52, 52, 52, 53, 52, 54, 52, 55, 52, 56, 52, 57, 53, 48, 53, 49, 53, 50, 53, 51, 53, 52, 53, 53, 53, 54, 53, 55, 53, 56, 53, 57, 54, 48, 54, 49, 54, 50, 54, 51, 54, 52, 54, 53, 54, 54, 54, 55, 54, 56, 54, 57, 55, 48, 55, 49, 55, 50, 55, 51, 55, 52, 55, 53, 55, 54, 55, 55, 55, 56, 55, 57, 56, 48, 56, 49, 56, 50, 56, 51, 56, 52, 56, 53, 56, 54, 56, 55, 56, 56, 56, 57, 57, 48, 57, 49, 57, 50, 57, 51, 57, 52, 57, 53, 57, 54, 57, 55, 57, 56, 57, 57])) (.t 49)),
 qm 51 9,
 oq 52 (.index .str (.c (.str [48, 48, 48, 49, 48, 50, 48, 51, 48, 52, 48, 53, 48, 54, 48, 55, 48, 56, 48, 57, 49, 48, 49, 49, 49, 50, 49, 51, 49, 52, 49, 53, 49, 54, 49, 55, 49, 56, 49, 57, 50, 48, 50, 49, 50, 50, 50, 51, 50, 52, 50, 53, 50, 54, 50, 55, 50, 56, 50, 57, 51, 48, 51, 49, 51, 50, 51, 51, 51, 52, 51, 53, 51, 54, 51, 55, 51, 56, 51, 57, 52, 48, 52, 49, 52, 50, 52, 51, 52, 52, 52, 53, 52, 54, 52, 55, 52, 56, 52, 57, 53, 48, 53, 49, 53, 50, 53, 51, 53, 52, 53, 53, 53, 54, 53, 55, 53, 56, 53, 57, 54, 48, 54, 49, 54, 50, 54, 51, 54, 52, 54, 53, 54, 54, 54, 55, 54, 56, 54, 57, 55, 48, 55, 49, 55, 50, 55, 51, 55, 52, 55, 53, 55, 54, 55, 55, 55, 56, 55, 57, 56, 48, 56, 49, 56, 50, 56, 51, 56, 52, 56, 53, 56, 54, 56, 55, 56, 56, 56, 57, 57, 48, 57, 49, 57, 50, 57, 51, 57, 52, 57, 53, 57, 54, 57, 55, 57, 56, 57, 57])) (.t 51)),
 oq 53 (.indexAddr (.sl 1) (.t 42) (.t 44)),
 ⟨⟨none, .store 1 (.t 53) (.t 50), none⟩, false, []⟩,
 oq 54 (.indexAddr (.sl 1) (.t 45) (.t 47)),
 ⟨⟨none, .store 1 (.t 54) (.t 52), none⟩, false, []⟩])
 (.seq (.regionD [qm 55 0,
 qm 56 4,
 oq 57 (.bin .sub .num (.t 56) (ci 3)),
 qm 58 0,
 qm 59 4,
 oq 60 (.bin .sub .num (.t 59) (ci 4)),
 qm 61 8,
 oq 62 (.bin .add .num (.t 61) (.c (.int .u32 1))),
 oq 63 (.index .str (.c (.str [48, 48, 48, 49, 48, 50, 48, 51, 48, 52, 48, 53, 48, 54, 48, 55, 48, 56, 48, 57, 49, 48, 49, 49, 49, 50, 49, 51, 49, 52, 49, 53, 49, 54, 49, 55, 49, 56, 49, 57, 50, 48, 50, 49, 50, 50, 50, 51, 50, 52, 50, 53, 50, 54, 50, 55, 50, 56, 50, 57, 51, 48, 51, 49, 51, 50, 51, 51, 51, 52, 51, 53, 51, 54, 51, 55, 51, 56, 51, 57, 52, 48, 52, 49, 52, 50, 52, 51, 52, 52, 52, 53, 52, 54, 52, 55, 52, 56, 52, 57, 53, 48, 53, 49, 53, 50, 53, 51, 53, 52, 53, 53, 53, 54, 53, 55, 53, 56, 53, 57, 54, 48, 54, 49, 54, 50, 54, 51, 54, 52, 54, 53, 54, 54, 54, 55, 54, 56, 54, 57, 55, 48, 55, 49, 55, 50, 55, 51, 55, 52, 55, 53, 55, 54, 55, 55, 55, 56, 55, 57, 56, 48, 56, 49, 56, 50, 56, 51, 56, 52, 56, 53, 56, 54, 56, 55, 56, 56, 56, 57, 57, 48, 57, 49, 57, 50, 57, 51, 57, 52, 57, 53, 57, 54, 57, 55, 57, 56, 57, 57])) (.t 62)),
 qm 64 8,
 oq 65 (.index .str (.c (.str [48, 48, 48, 49, 48, 50, 48, 51, 48, 52, 48, 53, 48, 54, 48, 55, 48, 56, 48, 57, 49, 48, 49, 49, 49, 50, 49, 51, 49, 52, 49, 53, 49, 54, 49, 55, 49, 56, 49, 57, 50, 48, 50, 49, 50, 50, 50, 51, 50, 52, 50, 53, 50, 54, 50, 55, 50, 56, 50, 57, 51, 48, 51, 49, 51, 50, 51, 51, 51, 52, 51, 53, 51, 54, 51, 55, 51, 56, 51, 57, 52, 48, 52, 49, 52, 50, 52, 51, 52, 52, 52, 53, 52, 54, 52, 55, 52, 56, 52, 57, 53, 48, 53, 49, 53, 50, 53, 51, 53, 52, 53, 53, 53, 54, 53, 55, 53, 56, 53, 57, 54, 48, 54, 49, 54, 50, 54, 51, 54, 52, 54, 53, 54, 54, 54, 55, 54, 56, 54, 57, 55, 48, 55, 49, 55, 50, 55, 51, 55, 52, 55, 53, 55, 54, 55, 55, 55, 56, 55, 57, 56, 48, 56, 49, 56, 50, 56, 51, 56, 52, 56, 53, 56, 54, 56, 55, 56, 56, 56, 57, 57, 48, 57, 49, 57, 50, 57, 51, 57, 52, 57, 53, 57, 54, 57, 55, 57, 56, 57, 57])) (.t 64)),
 oq 66 (.indexAddr (.sl 1) (.t 55) (.t 57)),
 ⟨⟨none, .store 1 (.t 66) (.t 63), none⟩, false, []⟩,
 oq 67 (.indexAddr (.sl 1) (.t 58) (.t 60)),
 ⟨⟨none, .store 1 (.t 67) (.t 65), none⟩, false, []⟩])
 (.seq (.regionD [qm 68 0,
 qm 69 4,
 oq 70 (.bin .sub .num (.t 69) (ci 5)),
 qm 71 0,
 qm 72 4,
 oq 73 (.bin .sub .num (.t 72) (ci 6)),
 qm 74 11,
 oq 75 (.bin .add .num (.t 74) (.c (.int .u32 1))),
 oq 76 (.index .str (.c (.str [48, 48, 48, 49, 48, 50, 48, 51, 48, 52, 48, 53, 48, 54, 48, 55, 48, 56, 48, 57, 49, 48, 49, 49, 49, 50, 49, 51, 49, 52, 49, 53, 49, 54, 49, 55, 49, 56, 49, 57, 50, 48, 50, 49, 50, 50, 50, 51, 50, 52, 50, 53, 50, 54, 50, 55, 50, 56, 50, 57, 51, 48, 51, 49, 51, 50, 51, 51, 51, 52, 51, 53, 51, 54, 51, 55, 51, 56, 51, 57, 52, 48, 52, 49, 52, 50, 52, 51, 52, 52, 52, 53, 52, 54, 52, 55, 52, 56, 52, 57, 53, 48, 53, 49, 53, 50, 53, 51, 53, 52, 53, 53, 53, 54, 53, 55, 53, 56, 53, 57, 54, 48, 54, 49, 54, 50, 54, 51, 54, 52, 54, 53, 54, 54, 54, 55, 54, 56, 54, 57, 55, 48, 55, 49, 55, 50, 55, 51, 55, 52, 55, 53, 55, 54, 55, 55, 55, 56, 55, 57, 56, 48, 56, 49, 56, 50, 56, 51, 56, 52, 56, 53, 56, 54, 56, 55, 56, 56, 56, 57, 57, 48, 57, 49, 57, 50, 57, 51, 57, 52, 57, 53, 57, 54, 57, 55, 57, 56, 57, 57])) (.t 75)),
 qm 77 11,
 oq 78 (.index .str (.c (.str [48, 48, 48, 49, 48, 50, 48, 51, 48, 52, 48, 53, 48, 54, 48, 55, 48, 56, 48, 57, 49, 48, 49, 49, 49, 50, 49, 51, 49, 52, 49, 53, 49, 54, 49, 55, 49, 56, 49, 57, 50, 48, 50, 49, 50, 50, 50, 51, 50, 52, 50, 53, 50, 54, 50, 55, 50, 56, 50, 57, 51, 48, 51, 49, 51, 50, 51, 51, 51, 52, 51, 53, 51, 54, 51, 55, 51, 56, 51, 57, 52, 48, 52, 49, 52, 50, 52, 51, 52, 52, 52, 53, 52, 54, 52, 55, 52, 56, 52, 57, 53, 48, 53, 49, 53, 50, 53, 51, 53, 52, 53, 53, 53, 54, 53, 55, 53, 56, 53, 57, 54, 48, 54, 49, 54, 50, 54, 51, 54, 52, 54, 53, 54, 54, 54, 55, 54, 56, 54, 57, 55, 48, 55, 49, 55, 50, 55, 51, 55, 52, 55, 53, 55, 54, 55, 55, 55, 56, 55, 57, 56, 48, 56, 49, 56, 50, 56, 51, 56, 52, 56, 53, 56, 54, 56, 55, 56, 56, 56, 57, 57, 48, 57, 49, 57, 50, 57, 51, 57, 52, 57, 53, 57, 54, 57, 55, 57, 56, 57, 57])) (.t 77)),
 oq 79 (.indexAddr (.sl 1) (.t 68) (.t 70)),
 ⟨⟨none, .store 1 (.t 79) (.t 76), none⟩, false, []⟩,
 oq 80 (.indexAddr (.sl 1) (.t 71) (.t 73)),
 ⟨⟨none, .store 1 (.t 80) (.t 78), none⟩, false, []⟩])
 (.seq (.regionD [qm 81 0,
 qm 82 4,
 oq 83 (.bin .sub .num (.t 82) (ci 7)),
 qm 84 0,
 qm 85 4,
 oq 86 (.bin .sub .num (.t 85) (ci 8)),
 qm 87 10,
 oq 88 (.bin .add .num (.t 87) (.c (.int .u32 1))),
 oq 89 (.index .str (.c (.str [48, 48, 48, 49, 48, 50, 48, 51, 48, 52, 48, 53, 48, 54, 48, 55, 48, 56, 48, 57, 49, 48, 49, 49, 49, 50, 49, 51, 49, 52, 49, 53, 49, 54, 49, 55, 49, 56, 49, 57, 50, 48, 50, 49, 50, 50, 50, 51, 50, 52, 50, 53, 50, 54, 50, 55, 50, 56, 50, 57, 51, 48, 51, 49, 51, 50, 51, 51, 51, 52, 51, 53, 51, 54, 51, 55, 51, 56, 51, 57, 52, 48, 52, 49, 52, 50, 52, 51, 52, 52, 52, 53, 52, 54, 52, 55, 52, 56, 52, 57, 53, 48, 53, 49, 53, 50, 53, 51, 53, 52, 53, 53, 53, 54, 53, 55, 53, 56, 53, 57, 54, 48, 54, 49, 54, 50, 54, 51, 54, 52, 54, 53, 54, 54, 54, 55, 54, 56, 54, 57, 55, 48, 55, 49, 55, 50, 55, 51, 55, 52, 55, 53, 55, 54, 55, 55, 55, 56, 55, 57, 56, 48, 56, 49, 56, 50, 56, 51, 56, 52, 56, 53, 56, 54, 56, 55, 56, 56, 56, 57, 57, 48, 57, 49, 57, 50, 57, 51, 57, 52, 57, 53, 57, 54, 57, 55, 57, 56, 57, 57])) (.t 88)),
 qm 90 10,
 oq 91 (.index .str (.c (.str [48, 48, 48, 49, 48, 50, 48, 51, 48, 52, 48, 53, 48, 54, 48, 55, 48, 56, 48, 57, 49, 48, 49, 49, 49, 50, 49, 51, 49, 52, 49, 53, 49, 54, 49, 55, 49, 56, 49, 57, 50, 48, 50, 49, 50, 50, 50, 51, 50, 52, 50, 53, 50, 54, 50, 55, 50, 56, 50, 57, 51, 48, 51, 49, 51, 50, 51, 51, 51, 52, 51, 53, 51, 54, 51, 55, 51, 56, 51, 57, 52, 48, 52, 49, 52, 50, 52, 51, 52, 52, 52, 53, 52, 54, 52, 55, 52, 56, 52, 57, 53, 48, 53, 49, 53, 50, 53, 51, 53, 52, 53, 53, 53, 54, 53, 55, 53, 56, 53, 57, 54, 48, 54, 49, 54, 50, 54, 51, 54, 52, 54, 53, 54, 54, 54, 55, 54, 56, 54, 57, 55, 48, 55, 49, 55, 50, 55, 51, 55, 52, 55, 53, 55, 54, 55, 55, 55, 56, 55, 57, 56, 48, 56, 49, 56, 50, 56, 51, 56, 52, 56, 53, 56, 54, 56, 55, 56, 56, 56, 57, 57, 48, 57, 49, 57, 50, 57, 51, 57, 52, 57, 53, 57, 54, 57, 55, 57, 56, 57, 57])) (.t 90)),
 oq 92 (.indexAddr (.sl 1) (.t 81) (.t 83)),
 ⟨⟨none, .store 1 (.t 92) (.t 89), none⟩, false, []⟩,
 oq 93 (.indexAddr (.sl 1) (.t 84) (.t 86)),
 ⟨⟨none, .store 1 (.t 93) (.t 91), none⟩, false, []⟩])
 (.region [om 94 4,
 oo 95 (.bin .sub .num (.t 94) (ci 8)),
 om 4 95]))))))))))))))
 (.seq (.region [om 96 1,
 oo 97 (.conv (.int .u32) (.t 96)),
 om 12 97])
 (.seq (.seq (.region [om 98 4,
 oo 99 (.bin .geq .num (.t 98) (ci 4))])
 (.cond (.t 99)
 (.seq (.region [om 100 12,
 oo 101 (.bin .rem .num (.t 100) (.c (.int .u32 10000))),
 om 13 101])
 (.seq (.region [om 102 12,
 oo 103 (.bin .quo .num (.t 102) (.c (.int .u32 10000))),
 om 12 103])
 (.seq (.region [om 104 13,
 oo 105 (.bin .quo .num (.t 104) (.c (.int .u32 100))),
 oo 106 (.bin .mul .num (.t 105) (.c (.int .u32 2))),
 om 107 13,
 oo 108 (.bin .rem .num (.t 107) (.c (.int .u32 100))),
 oo 109 (.bin .mul .num (.t 108) (.c (.int .u32 2))),
 om 14 106,
 om 15 109])
 (.seq (.regionD [qm 110 0,
 qm 111 4,
 oq 112 (.bin .sub .num (.t 111) (ci 1)),
 qm 113 0,
 qm 114 4,
 oq 115 (.bin .sub .num (.t 114) (ci 2)),
 qm 116 15,
 oq 117 (.bin .add .num (.t 116) (.c (.int .u32 1))),
 oq 118 (.index .str (.c (.str [48, 48, 48, 49, 48, 50, 48, 51, 48, 52, 48, 53, 48, 54, 48, 55, 48, 56, 48, 57, 49, 48, 49, 49, 49, 50, 49, 51, 49, 52, 49, 53, 49, 54, 49, 55, 49, 56, 49, 57, 50, 48, 50, 49, 50, 50, 50, 51, 50, 52, 50, 53, 50, 54, 50, 55, 50, 56, 50, 57, 51, 48, 51, 49, 51, 50, 51, 51, 51, 52, 51, 53, 51, 54, 51, 55, 51, 56, 51, 57, 52, 48, 52, 49, 52, 50, 52, 51, 52, 52, 52, 53, 52, 54, 52, 55, 52, 56, 52, 57, 53, 48, 53, 49, 53, 50, 53, 51, 53, 52, 53, 53, 53, 54, 53, 55, 53, 56, 53, 57, 54, 48, 54, 49, 54, 50, 54, 51, 54, 52, 54, 53, 54, 54, 54, 55, 54, 56, 54, 57, 55, 48, 55, 49, 55, 50, 55, 51, 55, 52, 55, 53, 55, 54, 55, 55, 55, 56, 55, 57, 56, 48, 56, 49, 56, 50, 56, 51, 56, 52, 56, 53, 56, 54, 56, 55, 56, 56, 56, 57, 57, 48, 57, 49, 57, 50, 57, 51, 57, 52, 57, 53, 57, 54, 57, 55, 57, 56, 57, 57])) (.t 117)),
 qm 119 15,
 oq 120 (.index .str (.c (.str [48, 48, 48, 49, 48, 50, 48, 51, 48, 52, 48, 53, 48, 54, 48, 55, 48, 56, 48, 57, 49, 48, 49, 49, 49, 50, 49, 51, 49, 52, 49, 53, 49, 54, 49, 55, 49, 56, 49, 57, 50, 48, 50, 49, 50, 50, 50, 51, 50, 52, 50, 53, 50, 54, 50, 55, 50, 56, 50, 57, 51, 48, 51, 49, 51, 50, 51, 51, 51, 52, 51, 53, 51, 54, 51, 55, 51, 56, 51, 57, 52, 48, 52, 49, 52, 50, 52, 51, 52, 52, 52, 53, 52, 54, 52, 55, 52, 56, 52, 57, 53, 48, 53, 49, 53, 50, 53, 51, 53, 52, 53, 53, 53, 54, 53, 55, 53, 56, 53, 57, 54, 48, 54, 49, 54, 50, 54, 51, 54, 52, 54, 53, 54, 54, 54, 55, 54, 56, 54, 57, 55, 48, 55, 49, 55, 50, 55, 51, 55, 52, 55, 53, 55, 54, 55, 55, 55, 56, 55, 57, 56, 48, 56, 49, 56, 50, 56, 51, 56, 52, 56, 53, 56, 54, 56, 55, 56, 56, 56, 57, 57, 48, 57, 49, 57, 50, 57, 51, 57, 52, 57, 53, 57, 54, 57, 55, 57, 56, 57, 57])) (.t 119)),
 oq 121 (.indexAddr (.sl 1) (.t 110) (.t 112)),
 ⟨⟨none, .store 1 (.t 121) (.t 118), none⟩, false, []⟩,
 oq 122 (.indexAddr (.sl 1) (.t 113) (.t 115)),
 ⟨⟨none, .store 1 (.t 122) (.t 120), none⟩, false, []⟩])
 (.seq (.regionD [qm 123 0,
 qm 124 4,
 oq 125 (.bin .sub .num (.t 124) (ci 3)),
 qm 126 0,
 qm 127 4,
 oq 128 (.bin .sub .num (.t 127) (ci 4)),
 qm 129 14,
 oq 130 (.bin .add .num (.t 129) (.c (.int .u32 1))),
 oq 131 (.index .str (.c (.str [48, 48, 48, 49, 48, 50, 48, 51, 48, 52, 48, 53, 48, 54, 48, 55, 48, 56, 48, 57, 49, 48, 49, 49, 49, 50, 49, 51, 49, 52, 49, 53, 49, 54, 49, 55, 49, 56, 49, 57, 50, 48, 50, 49, 50, 50, 50, 51, 50, 52, 50, 53, 50, 54, 50, 55, 50, 56, 50, 57, 51, 48, 51, 49, 51, 50, 51, 51, 51, 52, 51, 53, 51, 54, 51, 55, 51, 56, 51, 57, 52, 48, 52, 49, 52, 50, 52, 51, 52, 52, 52, 53, 52, 54, 52, 55, 52, 56, 52, 57, 53, 48, 53, 49, 53, 50, 53, 51, 53, 52, 53, 53, 53, 54, 53, 55, 53, 56, 53, 57, 54, 48, 54, 49, 54, 50, 54, 51, 54, 52, 54, 53, 54, 54, 54, 55, 54, 56, 54, 57, 55, 48, 55, 49, 55, 50, 55, 51, 55, 52, 55, 53, 55, 54, 55, 55, 55, 56, 55, 57, 56, 48, 56, 49, 56, 50, 56, 51, 56, 52, 56, 53, 56, 54, 56, 55, 56, 56, 56, 57, 57, 48, 57, 49, 57, 50, 57, 51, 57, 52, 57, 53, 57, 54, 57, 55, 57, 56, 57, 57])) (.t 130)),
 qm 132 14,
 oq 133 (.index .str (.c (.str [48, 48, 48, 49, 48, 50, 48, 51, 48, 52, 48, 53, 48, 54, 48, 55, 48, 56, 48, 57, 49, 48, 49, 49, 49, 50, 49, 51, 49, 52, 49, 53, 49, 54, 49, 55, 49, 56, 49, 57, 50, 48, 50, 49, 50, 50, 50, 51, 50, 52, 50, 53, 50, 54, 50, 55, 50, 56, 50, 57, 51, 48, 51, 49, 51, 50, 51, 51, 51, 52, 51, 53, 51, 54, 51, 55, 51, 56, 51, 57, 52, 48, 52, 49, 52, 50, 52, 51, 52, 52, 52, 53, 52, 54, 52, 55, 52, 56, 52, 57, 53, 48, 53, 49, 53, 50, 53, 51, 53, 52, 53, 53, 53, 54, 53, 55, 53, 56, 53, 57, 54, 48, 54, 49, 54, 50, 54, 51, 54, 52, 54, 53, 54, 54, 54, 55, 54, 56, 54, 57, 55, 48, 55, 49, 55, 50, 55, 51, 55, 52, 55, 53, 55, 54, 55, 55, 55, 56, 55, 57, 56, 48, 56, 49, 56, 50, 56, 51, 56, 52, 56, 53, 56, 54, 56, 55, 56, 56, 56, 57, 57, 48, 57, 49, 57, 50, 57, 51, 57, 52, 57, 53, 57, 54, 57, 55, 57, 56, 57, 57])) (.t 132)),
 oq 134 (.indexAddr (.sl 1) (.t 123) (.t 125)),
 ⟨⟨none, .store 1 (.t 134) (.t 131), none⟩, false, []⟩,
 oq 135 (.indexAddr (.sl 1) (.t 126) (.t 128)),
 ⟨⟨none, .store 1 (.t 135) (.t 133), none⟩, false, []⟩])
 (.region [om 136 4,
 oo 137 (.bin .sub .num (.t 136) (ci 4)),
 om 4 137]))))))
 (.skip)))
 (.seq (.seq (.region [om 138 4,
 oo 139 (.bin .geq .num (.t 138) (ci 2))])
 (.cond (.t 139)
 (.seq (.region [om 140 12,
 oo 141 (.bin .rem .num (.t 140) (.c (.int .u32 100))),
 oo 142 (.bin .mul .num (.t 141) (.c (.int .u32 2))),
 om 16 142])
 (.seq (.region [om 143 12,
 oo 144 (.bin .quo .num (.t 143) (.c (.int .u32 100))),
 om 12 144])
 (.seq (.regionD [qm 145 0,
 qm 146 4,
 oq 147 (.bin .sub .num (.t 146) (ci 1)),
 qm 148 0,
 qm 149 4,
 oq 150 (.bin .sub .num (.t 149) (ci 2)),
 qm 151 16,
 oq 152 (.bin .add .num (.t 151) (.c (.int .u32 1))),
 oq 153 (.index .str (.c (.str [48, 48, 48, 49, 48, 50, 48, 51, 48, 52, 48, 53, 48, 54, 48, 55, 48, 56, 48, 57, 49, 48, 49, 49, 49, 50, 49, 51, 49, 52, 49, 53, 49, 54, 49, 55, 49, 56, 49, 57, 50, 48, 50, 49, 50, 50, 50, 51, 50, 52, 50, 53, 50, 54, 50, 55, 50, 56, 50, 57, 51, 48, 51, 49, 51, 50, 51, 51, 51, 52, 51, 53, 51, 54, 51, 55, 51, 56, 51, 57, 52, 48, 52, 49, 52, 50, 52, 51, 52, 52, 52, 53, 52, 54, 52, 55, 52, 56, 52, 57, 53, 48, 53, 49, 53, 50, 53, 51, 53, 52, 53, 53, 53, 54, 53, 55, 53, 56, 53, 57, 54, 48, 54, 49, 54, 50, 54, 51, 54, 52, 54, 53, 54, 54, 54, 55, 54, 56, 54, 57, 55, 48, 55, 49, 55, 50, 55, 51, 55, 52, 55, 53, 55, 54, 55, 55, 55, 56, 55, 57, 56, 48, 56, 49, 56, 50, 56, 51, 56, 52, 56, 53, 56, 54, 56, 55, 56, 56, 56, 57, 57, 48, 57, 49, 57, 50, 57, 51, 57, 52, 57, 53, 57, 54, 57, 55, 57, 56, 57, 57])) (.t 152)),
 qm 154 16,
 oq 155 (.index .str (.c (.str [48, 48, 48, 49, 48, 50, 48, 51, 48, 52, 48, 53, 48, 54, 48, 55, 48, 56, 48, 57, 49, 48, 49, 49, 49, 50, 49, 51, 49, 52, 49, 53, 49, 54, 49, 55, 49, 56, 49, 57, 50, 48, 50, 49, 50, 50, 50, 51, 50, 52, 50, 53, 50, 54, 50, 55, 50, 56, 50, 57, 51, 48, 51, 49, 51, 50, 51, 51, 51, 52, 51, 53, 51, 54, 51, 55, 51, 56, 51, 57, 52, 48, 52, 49, 52, 50, 52, 51, 52, 52, 52, 53, 52, 54, 52, 55, 52, 56, 52, 57, 53, 48, 53, 49, 53, 50, 53, 51, 53, 52, 53, 53, 53, 54, 53, 55, 53, 56, 53, 57, 54, 48, 54, 49, 54, 50, 54, 51, 54, 52, 54, 53, 54, 54, 54, 55, 54, 56, 54, 57, 55, 48, 55, 49, 55, 50, 55, 51, 55, 52, 55, 53, 55, 54, 55, 55, 55, 56, 55, 57, 56, 48, 56, 49, 56, 50, 56, 51, 56, 52, 56, 53, 56, 54, 56, 55, 56, 56, 56, 57, 57, 48, 57, 49, 57, 50, 57, 51, 57, 52, 57, 53, 57, 54, 57, 55, 57, 56, 57, 57])) (.t 154)),
 oq 156 (.indexAddr (.sl 1) (.t 145) (.t 147)),
 ⟨⟨none, .store 1 (.t 156) (.t 153), none⟩, false, []⟩,
 oq 157 (.indexAddr (.sl 1) (.t 148) (.t 150)),
 ⟨⟨none, .store 1 (.t 157) (.t 155), none⟩, false, []⟩])
 (.region [om 158 4,
 oo 159 (.bin .sub .num (.t 158) (ci 2)),
 om 4 159]))))
 (.skip)))
 (.seq (.region [om 160 4,
 oo 161 (.bin .gtr .num (.t 160) (ci 0))])
 (.cond (.t 161)
 (.region [om 162 0,
 om 163 12,
 oo 164 (.bin .add .num (.c (.int .u32 48)) (.t 163)),
 oo 165 (.conv (.int .u8) (.t 164)),
 oo 166 (.indexAddr (.sl 1) (.t 162) (ci 0)),
 ⟨none, .store 1 (.t 166) (.t 165), none⟩])
 (.skip)))))))⟩

/- internal/strconv.formatBits -/
def F238 : AFunc := ⟨102, [.tmp 10, .tmp 11],
 .seq (.region [oo 10 (.mv (.c (.nilsl))),
 oo 11 (.mv (.c (.str [])))])
 (.seq (.seq (.region [om 19 2,
 oo 20 (.bin .lss .num (.t 19) (ci 2)),
 om 21 20,
 ⟨some 22, .mv (.t 2), some (21, false)⟩,
 ⟨some 23, .bin .eql .num (.t 22) (ci 10), some (21, false)⟩,
 oo 24 (.pick (.t 21) (.c (.bool true)) (.t 23)),
 om 25 24,
 ⟨some 26, .mv (.t 2), some (25, false)⟩,
 ⟨some 27, .bin .gtr .num (.t 26) (ci 36), some (25, false)⟩,
 oo 28 (.pick (.t 25) (.c (.bool true)) (.t 27))])
 (.cond (.t 28)
 (.region [oo 29 (.mkIface 9 (.c (.str [115, 116, 114, 99, 111, 110, 118, 58, 32, 105, 108, 108, 101, 103, 97, 108, 32, 65, 112, 112, 101, 110, 100, 73, 110, 116, 47, 70, 111, 114, 109, 97, 116, 73, 110, 116, 32, 98, 97, 115, 101]))),
 ⟨none, .stuck, none⟩])
 (.skip)))
 (.seq (.region [oo 12 (.alloc [.int .u8 0, .int .u8 0, .int .u8 0, .int .u8 0, .int .u8 0, .int .u8 0, .int .u8 0, .int .u8 0, .int .u8 0, .int .u8 0, .int .u8 0, .int .u8 0, .int .u8 0, .int .u8 0, .int .u8 0, .int .u8 0, .int .u8 0, .int .u8 0, .int .u8 0, .int .u8 0, .int .u8 0, .int .u8 0, .int .u8 0, .int .u8 0, .int .u8 0, .int .u8 0, .int .u8 0, .int .u8 0, .int .u8 0, .int .u8 0, .int .u8 0, .int .u8 0, .int .u8 0, .int .u8 0, .int .u8 0, .int .u8 0, .int .u8 0, .int .u8 0, .int .u8 0, .int .u8 0, .int .u8 0, .int .u8 0, .int .u8 0, .int .u8 0, .int .u8 0, .int .u8 0, .int .u8 0, .int .u8 0, .int .u8 0, .int .u8 0, .int .u8 0, .int .u8 0, .int .u8 0, .int .u8 0, .int .u8 0, .int .u8 0, .int .u8 0, .int .u8 0, .int .u8 0, .int .u8 0, .int .u8 0, .int .u8 0, .int .u8 0, .int .u8 0, .int .u8 0])])
 (.seq (.region [oo 13 (.mv (ci 65))])
 (.seq (.seq (.region [om 30 3])
 (.cond (.t 30)
 (.region [om 31 1,
 oo 32 (.un .neg (.t 31)),
 om 1 32])
 (.skip)))
 (.seq (.seq (.region [om 33 2,
 oo 34 (.call 266 [(.t 33)])])
 (.cond (.t 34)
 (.seq (.region [om 35 2,
 oo 36 (.conv (.int .u64) (.t 35)),
 oo 37 (.call 267 [(.t 36)]),
 oo 38 (.conv (.int .u64) (.t 37)),
 om 14 38])
 (.seq (.region [om 39 2,
 oo 40 (.conv (.int .u64) (.t 39)),
 om 15 40])
 (.seq (.region [om 41 2,
 oo 42 (.conv (.int .u64) (.t 41)),
 oo 43 (.bin .sub .num (.t 42) (.c (.int .u64 1))),
 om 16 43])
 (.seq (.block 0 (.loop (.seq (.seq (.region [om 44 1,
 om 45 15,
 oo 46 (.bin .geq .num (.t 44) (.t 45))])
 (.cond (.t 46)
 (.skip)
 (.exit 0)))
 (.block 1 (.seq (.region [om 47 13,
 oo 48 (.bin .sub .num (.t 47) (ci 1)),
 om 13 48])
 (.seq (.region [om 49 13,
 om 50 1,
 om 51 16,
 oo 52 (.bin .and .num (.t 50) (.t 51)),
 oo 53 (.index .str (.c (.str [48, 49, 50, 51, 52, 53, 54, 55, 56, 57, 97, 98, 99, 100, 101, 102, 103, 104, 105, 106, 107, 108, 109, 110, 111, 112, 113, 114, 115, 116, 117, 118, 119, 120, 121, 122])) (.t 52)),
 oo 54 (.indexAddr (.arr 65 1) (.t 12) (.t 49)),
 ⟨none, .store 1 (.t 54) (.t 53), none⟩])
 (.region [om 55 1,
 om 56 14,
 oo 57 (.bin .shr .num (.t 55) (.t 56)),
 om 1 57])))))))
 (.seq (.region [om 58 13,
 oo 59 (.bin .sub .num (.t 58) (ci 1)),
 om 13 59])
 (.region [om 60 13,
 om 61 1,
 oo 62 (.index .str (.c (.str [48, 49, 50, 51, 52, 53, 54, 55, 56, 57, 97, 98, 99, 100, 101, 102, 103, 104, 105, 106, 107, 108, 109, 110, 111, 112, 113, 114, 115, 116, 117, 118, 119, 120, 121, 122])) (.t 61)),
 oo 63 (.indexAddr (.arr 65 1) (.t 12) (.t 60)),
 ⟨none, .store 1 (.t 63) (.t 62), none⟩]))))))
 (.seq (.region [om 64 2,
 oo 65 (.conv (.int .u64) (.t 64)),
 om 17 65])
 (.seq (.block 2 (.loop (.seq (.seq (.region [om 66 1,
 om 67 17,
 oo 68 (.bin .geq .num (.t 66) (.t 67))])
 (.cond (.t 68)
 (.skip)
 (.exit 2)))
 (.block 3 (.seq (.region [om 69 13,
 oo 70 (.bin .sub .num (.t 69) (ci 1)),
 om 13 70])
 (.seq (.region [om 71 1,
 om 72 17,
 oo 73 (.bin .quo .num (.t 71) (.t 72)),
 om 18 73])
 (.seq (.region [om 74 13,
 om 75 1,
 om 76 18,
 om 77 17,
 oo 78 (.bin .mul .num (.t 76) (.t 77)),
 oo 79 (.bin .sub .num (.t 75) (.t 78)),
 oo 80 (.index .str (.c (.str [48, 49, 50, 51, 52, 53, 54, 55, 56, 57, 97, 98, 99, 100, 101, 102, 103, 104, 105, 106, 107, 108, 109, 110, 111, 112, 113, 114, 115, 116, 117, 118, 119, 120, 121, 122])) (.t 79)),
 oo 81 (.indexAddr (.arr 65 1) (.t 12) (.t 74)),
 ⟨none, .store 1 (.t 81) (.t 80), none⟩])
 (.region [om 82 18,
 om 1 82]))))))))
 (.seq (.region [om 83 13,
 oo 84 (.bin .sub .num (.t 83) (ci 1)),
 om 13 84])
 (.region [om 85 13,
 om 86 1,
 oo 87 (.index .str (.c (.str [48, 49, 50, 51, 52, 53, 54, 55, 56, 57, 97, 98, 99, 100, 101, 102, 103, 104, 105, 106, 107, 108, 109, 110, 111, 112, 113, 114, 115, 116, 117, 118, 119, 120, 121, 122])) (.t 86)),
 oo 88 (.indexAddr (.arr 65 1) (.t 12) (.t 85)),
 ⟨none, .store 1 (.t 88) (.t 87), none⟩]))))))
 (.seq (.seq (.region [om 89 3])
 (.cond (.t 89)
 (.seq (.region [om 90 13,
 oo 91 (.bin .sub .num (.t 90) (ci 1)),
 om 13 91])
 (.region [om 92 13,
 oo 93 (.indexAddr (.arr 65 1) (.t 12) (.t 92)),
 ⟨none, .store 1 (.t 93) (.c (.int .u8 45)), none⟩]))
 (.skip)))
 (.seq (.seq (.region [om 94 4])
 (.cond (.t 94)
 (.seq (.region [om 95 0,
 om 96 13,
 oo 97 (.slice (.arr 65 1) (.t 12) (some (.t 96)) none none),
 oo 98 (.append 1 1 none (.t 95) (.t 97)),
 om 10 98])
 (.ret))
 (.skip)))
 (.seq (.region [om 99 13,
 oo 100 (.slice (.arr 65 1) (.t 12) (some (.t 99)) none none),
 oo 101 (.conv .bytesStr (.t 100)),
 om 11 101])
 (.ret)))))))))⟩

/- internal/stringslite.HasSuffix -/
def F240 : AFunc := ⟨21, [.tmp 4],
 .seq (.region [oo 4 (.mv (.c (.bool false)))])
 (.seq (.region [om 5 0,
 oo 6 (.len .str (.t 5)),
 om 7 1,
 oo 8 (.len .str (.t 7)),
 oo 9 (.bin .geq .num (.t 6) (.t 8)),
 om 10 9,
 ⟨some 11, .mv (.t 0), some (10, true)⟩,
 ⟨some 12, .mv (.t 0), some (10, true)⟩,
 ⟨some 13, .len .str (.t 12), some (10, true)⟩,
 ⟨some 14, .mv (.t 1), some (10, true)⟩,
 ⟨some 15, .len .str (.t 14), some (10, true)⟩,
 ⟨some 16, .bin .sub .num (.t 13) (.t 15), some (10, true)⟩,
 ⟨some 17, .slice .str (.t 11) (some (.t 16)) none none, some (10, true)⟩,
 ⟨some 18, .mv (.t 1), some (10, true)⟩,
 ⟨some 19, .bin .eql .strs (.t 17) (.t 18), some (10, true)⟩,
 oo 20 (.pick (.t 10) (.t 19) (.c (.bool false))),
 om 4 20])
 (.ret))⟩

/- strings.explode -/
def F241 : AFunc := ⟨50, [.tmp 4],
 .seq (.region [oo 4 (.mv (.c (.nilsl)))])
 (.seq (.region [om 10 0,
 oo 11 (.call 269 [(.t 10)]),
 om 5 11])
 (.seq (.seq (.region [om 12 1,
 oo 13 (.bin .lss .num (.t 12) (ci 0)),
 om 14 13,
 ⟨some 15, .mv (.t 1), some (14, false)⟩,
 ⟨some 16, .mv (.t 5), some (14, false)⟩,
 ⟨some 17, .bin .gtr .num (.t 15) (.t 16), some (14, false)⟩,
 oo 18 (.pick (.t 14) (.c (.bool true)) (.t 17))])
 (.cond (.t 18)
 (.region [om 19 5,
 om 1 19])
 (.skip)))
 (.seq (.region [om 20 1,
 oo 21 (.mkSl 1 16 [.str []] (.t 20) (.t 20)),
 om 6 21])
 (.seq (.seq (.region [oo 7 (.mv (ci 0))])
 (.block 0 (.loop (.seq (.seq (.region [om 22 7,
 om 23 1,
 oo 24 (.bin .sub .num (.t 23) (ci 1)),
 oo 25 (.bin .lss .num (.t 22) (.t 24))])
 (.cond (.t 25)
 (.skip)
 (.exit 0)))
 (.seq (.block 1 (.seq (.region [om 29 0,
 oo 30 (.call 270 [(.t 29)]),
 om 28 30,
 oo 31 (.extract 0 (.t 28)),
 oo 32 (.extract 1 (.t 28)),
 om 8 31,
 om 9 32])
 (.seq (.region [om 33 6,
 om 34 7,
 om 35 0,
 om 36 9,
 oo 37 (.slice .str (.t 35) none (some (.t 36)) none),
 oo 38 (.indexAddr (.sl 1) (.t 33) (.t 34)),
 ⟨none, .store 1 (.t 38) (.t 37), none⟩])
 (.region [om 39 0,
 om 40 9,
 oo 41 (.slice .str (.t 39) (some (.t 40)) none none),
 om 0 41]))))
 (.region [om 26 7,
 oo 27 (.bin .add .num (.t 26) (ci 1)),
 om 7 27]))))))
 (.seq (.seq (.region [om 42 1,
 oo 43 (.bin .gtr .num (.t 42) (ci 0))])
 (.cond (.t 43)
 (.region [om 44 6,
 om 45 1,
 oo 46 (.bin .sub .num (.t 45) (ci 1)),
 om 47 0,
 oo 48 (.indexAddr (.sl 1) (.t 44) (.t 46)),
 ⟨none, .store 1 (.t 48) (.t 47), none⟩])
 (.skip)))
 (.seq (.region [om 49 6,
 om 4 49])
 (.ret)))))))⟩

/- strings.Count -/
def F242 : AFunc := ⟨34, [.tmp 4],
 .seq (.region [oo 4 (.mv (ci 0))])
 (.seq (.seq (.region [om 7 1,
 oo 8 (.len .str (.t 7)),
 oo 9 (.bin .eql .num (.t 8) (ci 0))])
 (.cond (.t 9)
 (.seq (.region [om 10 0,
 oo 11 (.call 269 [(.t 10)]),
 oo 12 (.bin .add .num (.t 11) (ci 1)),
 om 4 12])
 (.ret))
 (.skip)))
 (.seq (.seq (.region [om 13 1,
 oo 14 (.len .str (.t 13)),
 oo 15 (.bin .eql .num (.t 14) (ci 1))])
 (.cond (.t 15)
 (.seq (.region [om 16 0,
 om 17 1,
 oo 18 (.index .str (.t 17) (ci 0)),
 oo 19 (.call 271 [(.t 16), (.t 18)]),
 om 4 19])
 (.ret))
 (.skip)))
 (.seq (.region [oo 5 (.mv (ci 0))])
 (.block 0 (.loop (.block 1 (.seq (.region [om 20 0,
 om 21 1,
 oo 22 (.call 243 [(.t 20), (.t 21)]),
 om 6 22])
 (.seq (.seq (.region [om 23 6,
 oo 24 (.bin .eql .num (.t 23) (ci (-1)))])
 (.cond (.t 24)
 (.seq (.region [om 25 5,
 om 4 25])
 (.ret))
 (.skip)))
 (.seq (.region [om 26 5,
 oo 27 (.bin .add .num (.t 26) (ci 1)),
 om 5 27])
 (.region [om 28 0,
 om 29 6,
 om 30 1,
 oo 31 (.len .str (.t 30)),
 oo 32 (.bin .add .num (.t 29) (.t 31)),
 oo 33 (.slice .str (.t 28) (some (.t 32)) none none),
 om 0 33]))))))))))⟩

/- strings.Index -/
def F243 : AFunc := ⟨8, [.tmp 4],
 .seq (.region [oo 4 (.mv (ci 0))])
 (.seq (.region [om 5 0,
 om 6 1,
 oo 7 (.call 272 [(.t 5), (.t 6)]),
 om 4 7])
 (.ret))⟩

/- strconv.Atoi -/
def F244 : AFunc := ⟨18, [.tmp 2, .tmp 3],
 .seq (.region [oo 2 (.mv (ci 0)),
 oo 3 (.mv (.c (.niliface)))])
 (.seq (.region [om 7 0,
 oo 8 (.call 273 [(.t 7)]),
 om 6 8,
 oo 9 (.extract 0 (.t 6)),
 oo 10 (.extract 1 (.t 6)),
 om 4 9,
 om 5 10])
 (.seq (.seq (.region [om 11 5,
 oo 12 (.bin .neq (.nilc .ifc) (.t 11) (.c (.niliface)))])
 (.cond (.t 12)
 (.seq (.region [om 13 4,
 om 14 0,
 om 15 5,
 oo 16 (.call 274 [(.c (.str [65, 116, 111, 105])), (.t 14), (ci 0), (ci 0), (.t 15)]),
 om 2 13,
 om 3 16])
 (.ret))
 (.skip)))
 (.seq (.region [om 17 4,
 om 2 17,
 oo 3 (.mv (.c (.niliface)))])
 (.ret))))⟩

/- math/bits.Len64 -/
def F255 : AFunc := ⟨25, [.tmp 2],
 .seq (.region [oo 2 (.mv (ci 0))])
 (.seq (.seq (.region [om 3 0,
 oo 4 (.bin .geq .num (.t 3) (.c (.int .u64 4294967296)))])
 (.cond (.t 4)
 (.seq (.region [om 5 0,
 oo 6 (.bin .shr .num (.t 5) (.c (.int .u64 32))),
 om 0 6])
 (.region [oo 2 (.mv (ci 32))]))
 (.skip)))
 (.seq (.seq (.region [om 7 0,
 oo 8 (.bin .geq .num (.t 7) (.c (.int .u64 65536)))])
 (.cond (.t 8)
 (.seq (.region [om 9 0,
 oo 10 (.bin .shr .num (.t 9) (.c (.int .u64 16))),
 om 0 10])
 (.region [om 11 2,
 oo 12 (.bin .add .num (.t 11) (ci 16)),
 om 2 12]))
 (.skip)))
 (.seq (.seq (.region [om 13 0,
 oo 14 (.bin .geq .num (.t 13) (.c (.int .u64 256)))])
 (.cond (.t 14)
 (.seq (.region [om 15 0,
 oo 16 (.bin .shr .num (.t 15) (.c (.int .u64 8))),
 om 0 16])
 (.region [om 17 2,
 oo 18 (.bin .add .num (.t 17) (ci 8)),
 om 2 18]))
 (.skip)))
 (.seq (.region [om 19 2,
 om 20 0,
 oo 21 (.conv (.int .u8) (.t 20)),
 oo 22 (.index .str (.c (.str [0, 1, 2, 2, 3, 3, 3, 3, 4, 4, 4, 4, 4, 4, 4, 4, 5, 5, 5, 5, 5, 5, 5, 5, 5, 5, 5, 5, 5, 5, 5, 5, 6, 6, 6, 6, 6, 6, 6, 6, 6, 6, 6, 6, 6, 6, 6, 6, 6, 6, 6, 6, 6, 6, 6, 6, 6, 6, 6, 6, 6, 6, 6, 6, 7, 7, 7, 7, 7, 7, 7, 7, 7, 7, 7, 7, 7, 7, 7, 7, 7, 7, 7, 7, 7, 7, 7, 7, 7, 7, 7, 7, 7, 7, 7, 7, 7, 7, 7, 7, 7, 7, 7, 7, 7, 7, 7, 7, 7, 7, 7, 7, 7, 7, 7, 7, 7, 7, 7, 7, 7, 7, 7, 7, 7, 7, 7, 7, 8, 8, 8, 8, 8, 8, 8, 8, 8, 8, 8, 8, 8, 8, 8, 8, 8, 8, 8, 8, 8, 8, 8, 8, 8, 8, 8, 8, 8, 8, 8, 8, 8, 8, 8, 8, 8, 8, 8, 8, 8, 8, 8, 8, 8, 8, 8, 8, 8, 8, 8, 8, 8, 8, 8, 8, 8, 8, 8, 8, 8, 8, 8, 8, 8, 8, 8, 8, 8, 8, 8, 8, 8, 8, 8, 8, 8, 8, 8, 8, 8, 8, 8, 8, 8, 8, 8, 8, 8, 8, 8, 8, 8, 8, 8, 8, 8, 8, 8, 8, 8, 8, 8, 8, 8, 8, 8, 8, 8, 8, 8, 8, 8, 8, 8, 8, 8, 8, 8, 8, 8, 8, 8, 8, 8, 8, 8, 8])) (.t 21)),
 oo 23 (.conv (.int .i64) (.t 22)),
 oo 24 (.bin .add .num (.t 19) (.t 23)),
 om 2 24])
 (.ret)))))⟩

/- internal/strconv.log10Pow2 -/
def F264 : AFunc := ⟨6, [.tmp 2],
 .seq (.region [oo 2 (.mv (ci 0))])
 (.seq (.region [om 3 0,
 oo 4 (.bin .mul .num (.t 3) (ci 78913)),
 oo 5 (.bin .shr .num (.t 4) (.c (.int .u64 18))),
 om 2 5])
 (.ret))⟩

/- internal/strconv.bool2[int] -/
def F265 : AFunc := ⟨4, [.tmp 2],
 .seq (.region [oo 2 (.mv (ci 0))])
 (.seq (.seq (.region [om 3 0])
 (.cond (.t 3)
 (.seq (.region [oo 2 (.mv (ci 1))])
 (.ret))
 (.skip)))
 (.seq (.region [oo 2 (.mv (ci 0))])
 (.ret)))⟩

/- internal/strconv.isPowerOfTwo -/
def F266 : AFunc := ⟨8, [.tmp 2],
 .seq (.region [oo 2 (.mv (.c (.bool false)))])
 (.seq (.region [om 3 0,
 om 4 0,
 oo 5 (.bin .sub .num (.t 4) (ci 1)),
 oo 6 (.bin .and .num (.t 3) (.t 5)),
 oo 7 (.bin .eql .num (.t 6) (ci 0)),
 om 2 7])
 (.ret))⟩

/- math/bits.TrailingZeros -/
def F267 : AFunc := ⟨8, [.tmp 2],
 .seq (.region [oo 2 (.mv (ci 0))])
 (.seq (.cond (.c (.bool false))
 (.seq (.region [om 3 0,
 oo 4 (.conv (.int .u32) (.t 3)),
 oo 5 (.call 283 [(.t 4)]),
 om 2 5])
 (.ret))
 (.skip))
 (.seq (.region [om 6 0,
 oo 7 (.call 284 [(.t 6)]),
 om 2 7])
 (.ret)))⟩

/- unicode/utf8.RuneCountInString -/
def F269 : AFunc := ⟨10, [.tmp 2],
 .seq (.region [oo 2 (.mv (ci 0))])
 (.seq (.seq (.region [om 3 0,
 oo 4 (.range (.t 3))])
 (.block 0 (.loop (.seq (.region [oo 5 (.next (.t 4)),
 oo 6 (.extract 0 (.t 5))])
 (.seq (.cond (.t 6)
 (.skip)
 (.exit 0))
 (.block 1 (.region [om 7 2,
 oo 8 (.bin .add .num (.t 7) (ci 1)),
 om 2 8])))))))
 (.seq (.region [om 9 2,
 om 2 9])
 (.ret)))⟩

/- unicode/utf8.DecodeRuneInString -/
def F270 : AFunc := ⟨19, [.tmp 2, .tmp 3],
 .seq (.region [oo 2 (.mv (.c (.int .i32 0))),
 oo 3 (.mv (ci 0))])
 (.seq (.seq (.region [om 4 0,
 oo 5 (.bin .neq .strs (.t 4) (.c (.str []))),
 om 6 5,
 ⟨some 7, .mv (.t 0), some (6, true)⟩,
 ⟨some 8, .index .str (.t 7) (ci 0), some (6, true)⟩,
 ⟨some 9, .bin .lss .num (.t 8) (.c (.int .u8 128)), some (6, true)⟩,
 oo 10 (.pick (.t 6) (.t 9) (.c (.bool false)))])
 (.cond (.t 10)
 (.seq (.region [om 11 0,
 oo 12 (.index .str (.t 11) (ci 0)),
 oo 13 (.conv (.int .i32) (.t 12)),
 om 2 13,
 oo 3 (.mv (ci 1))])
 (.ret))
 (.region [om 15 0,
 oo 16 (.call 285 [(.t 15)]),
 om 14 16,
 oo 17 (.extract 0 (.t 14)),
 oo 18 (.extract 1 (.t 14)),
 om 2 17,
 om 3 18])))
 (.ret))⟩

/- internal/stringslite.Index -/
def F272 : AFunc := ⟨143, [.tmp 4],
 .seq (.region [oo 4 (.mv (ci 0))])
 (.seq (.region [om 14 1,
 oo 15 (.len .str (.t 14)),
 om 5 15])
 (.seq (.block 0 (.seq (.region [om 17 5,
 oo 18 (.bin .eql .num (.t 17) (ci 0)),
 om 19 18,
 ⟨some 20, .mv (.t 1), some (19, false)⟩,
 ⟨some 21, .mv (.t 0), some (19, false)⟩,
 ⟨some 22, .bin .eql .strs (.t 20) (.t 21), some (19, false)⟩,
 oo 23 (.pick (.t 19) (.c (.bool true)) (.t 22)),
 om 16 23])
 (.cond (.t 16)
 (.seq (.region [oo 4 (.mv (ci 0))])
 (.ret))
 (.seq (.region [om 25 5,
 oo 26 (.bin .eql .num (.t 25) (ci 1)),
 om 24 26])
 (.cond (.t 24)
 (.seq (.region [om 27 0,
 om 28 1,
 oo 29 (.index .str (.t 28) (ci 0)),
 oo 30 (.call 225 [(.t 27), (.t 29)]),
 om 4 30])
 (.ret))
 (.seq (.region [om 32 5,
 om 33 0,
 oo 34 (.len .str (.t 33)),
 oo 35 (.bin .geq .num (.t 32) (.t 34)),
 om 31 35])
 (.cond (.t 31)
 (.seq (.region [oo 4 (.mv (ci (-1)))])
 (.ret))
 (.seq (.region [om 37 5,
 oo 38 (.load 1 false (.g 1)),
 oo 39 (.bin .leq .num (.t 37) (.t 38)),
 om 40 39,
 ⟨some 41, .mv (.t 0), some (40, true)⟩,
 ⟨some 42, .len .str (.t 41), some (40, true)⟩,
 ⟨some 43, .bin .leq .num (.t 42) (ci 64), some (40, true)⟩,
 oo 44 (.pick (.t 40) (.t 43) (.c (.bool false))),
 om 36 44])
 (.cond (.t 36)
 (.seq (.region [om 45 0,
 om 46 1,
 oo 47 (.call 286 [(.t 45), (.t 46)]),
 om 4 47])
 (.ret))
 (.skip))))))))))
 (.seq (.region [om 48 1,
 oo 49 (.index .str (.t 48) (ci 0)),
 om 6 49])
 (.seq (.region [om 50 1,
 oo 51 (.index .str (.t 50) (ci 1)),
 om 7 51])
 (.seq (.region [oo 8 (.mv (ci 0))])
 (.seq (.region [om 52 0,
 oo 53 (.len .str (.t 52)),
 om 54 5,
 oo 55 (.bin .sub .num (.t 53) (.t 54)),
 oo 56 (.bin .add .num (.t 55) (ci 1)),
 om 9 56])
 (.seq (.region [oo 10 (.mv (ci 0))])
 (.seq (.block 1 (.loop (.seq (.seq (.region [om 57 8,
 om 58 9,
 oo 59 (.bin .lss .num (.t 57) (.t 58))])
 (.cond (.t 59)
 (.skip)
 (.exit 1)))
 (.block 2 (.seq (.seq (.region [om 60 0,
 om 61 8,
 oo 62 (.index .str (.t 60) (.t 61)),
 om 63 6,
 oo 64 (.bin .neq .num (.t 62) (.t 63))])
 (.cond (.t 64)
 (.seq (.region [om 65 0,
 om 66 8,
 oo 67 (.bin .add .num (.t 66) (ci 1)),
 om 68 9,
 oo 69 (.slice .str (.t 65) (some (.t 67)) (some (.t 68)) none),
 om 70 6,
 oo 71 (.call 225 [(.t 69), (.t 70)]),
 om 11 71])
 (.seq (.seq (.region [om 72 11,
 oo 73 (.bin .lss .num (.t 72) (ci 0))])
 (.cond (.t 73)
 (.seq (.region [oo 4 (.mv (ci (-1)))])
 (.ret))
 (.skip)))
 (.region [om 74 8,
 om 75 11,
 oo 76 (.bin .add .num (.t 75) (ci 1)),
 oo 77 (.bin .add .num (.t 74) (.t 76)),
 om 8 77])))
 (.skip)))
 (.seq (.seq (.region [om 78 0,
 om 79 8,
 oo 80 (.bin .add .num (.t 79) (ci 1)),
 oo 81 (.index .str (.t 78) (.t 80)),
 om 82 7,
 oo 83 (.bin .eql .num (.t 81) (.t 82)),
 om 84 83,
 ⟨some 85, .mv (.t 0), some (84, true)⟩,
 ⟨some 86, .mv (.t 8), some (84, true)⟩,
 ⟨some 87, .mv (.t 8), some (84, true)⟩,
 ⟨some 88, .mv (.t 5), some (84, true)⟩,
 ⟨some 89, .bin .add .num (.t 87) (.t 88), some (84, true)⟩,
 ⟨some 90, .slice .str (.t 85) (some (.t 86)) (some (.t 89)) none, some (84, true)⟩,
 ⟨some 91, .mv (.t 1), some (84, true)⟩,
 ⟨some 92, .bin .eql .strs (.t 90) (.t 91), some (84, true)⟩,
 oo 93 (.pick (.t 84) (.t 92) (.c (.bool false)))])
 (.cond (.t 93)
 (.seq (.region [om 94 8,
 om 4 94])
 (.ret))
 (.skip)))
 (.seq (.region [om 95 8,
 oo 96 (.bin .add .num (.t 95) (ci 1)),
 om 8 96])
 (.seq (.region [om 97 10,
 oo 98 (.bin .add .num (.t 97) (ci 1)),
 om 10 98])
 (.seq (.region [om 99 5,
 oo 100 (.load 1 false (.g 1)),
 oo 101 (.bin .leq .num (.t 99) (.t 100)),
 om 102 101,
 ⟨some 103, .mv (.t 10), some (102, true)⟩,
 ⟨some 104, .mv (.t 8), some (102, true)⟩,
 ⟨some 105, .call 287 [(.t 104)], some (102, true)⟩,
 ⟨some 106, .bin .gtr .num (.t 103) (.t 105), some (102, true)⟩,
 oo 107 (.pick (.t 102) (.t 106) (.c (.bool false)))])
 (.cond (.t 107)
 (.seq (.region [om 108 0,
 om 109 8,
 oo 110 (.slice .str (.t 108) (some (.t 109)) none none),
 om 111 1,
 oo 112 (.call 286 [(.t 110), (.t 111)]),
 om 12 112])
 (.seq (.seq (.region [om 113 12,
 oo 114 (.bin .geq .num (.t 113) (ci 0))])
 (.cond (.t 114)
 (.seq (.region [om 115 12,
 om 116 8,
 oo 117 (.bin .add .num (.t 115) (.t 116)),
 om 4 117])
 (.ret))
 (.skip)))
 (.seq (.region [oo 4 (.mv (ci (-1)))])
 (.ret))))
 (.seq (.region [om 118 5,
 oo 119 (.load 1 false (.g 1)),
 oo 120 (.bin .gtr .num (.t 118) (.t 119)),
 om 121 120,
 ⟨some 122, .mv (.t 10), some (121, true)⟩,
 ⟨some 123, .mv (.t 8), some (121, true)⟩,
 ⟨some 124, .bin .shr .num (.t 123) (.c (.int .u64 4)), some (121, true)⟩,
 ⟨some 125, .bin .add .num (ci 4) (.t 124), some (121, true)⟩,
 ⟨some 126, .bin .geq .num (.t 122) (.t 125), some (121, true)⟩,
 oo 127 (.pick (.t 121) (.t 126) (.c (.bool false))),
 om 128 127,
 ⟨some 129, .mv (.t 8), some (128, true)⟩,
 ⟨some 130, .mv (.t 9), some (128, true)⟩,
 ⟨some 131, .bin .lss .num (.t 129) (.t 130), some (128, true)⟩,
 oo 132 (.pick (.t 128) (.t 131) (.c (.bool false)))])
 (.cond (.t 132)
 (.seq (.region [om 133 0,
 om 134 8,
 oo 135 (.slice .str (.t 133) (some (.t 134)) none none),
 om 136 1,
 oo 137 (.call 288 [(.t 135), (.t 136)]),
 om 13 137])
 (.seq (.seq (.region [om 138 13,
 oo 139 (.bin .lss .num (.t 138) (ci 0))])
 (.cond (.t 139)
 (.seq (.region [oo 4 (.mv (ci (-1)))])
 (.ret))
 (.skip)))
 (.seq (.region [om 140 8,
 om 141 13,
 oo 142 (.bin .add .num (.t 140) (.t 141)),
 om 4 142])
 (.ret))))
 (.skip)))))))))))))
 (.seq (.region [oo 4 (.mv (ci (-1)))])
 (.ret))))))))))⟩

/- internal/strconv.Atoi -/
def F273 : AFunc := ⟨77, [.tmp 2, .tmp 3],
 .seq (.region [oo 2 (.mv (ci 0)),
 oo 3 (.mv (.c (.niliface)))])
 (.seq (.region [om 11 0,
 oo 12 (.len .str (.t 11)),
 om 4 12])
 (.seq (.seq (.region [oo 13 (.mv (.c (.bool false))),
 ⟨some 14, .mv (.t 4), some (13, true)⟩,
 ⟨some 15, .bin .lss .num (ci 0) (.t 14), some (13, true)⟩,
 ⟨some 16, .mv (.t 15), some (13, true)⟩,
 ⟨some 17, .mv (.t 4), some (16, true)⟩,
 ⟨some 18, .bin .lss .num (.t 17) (ci 10), some (16, true)⟩,
 ⟨some 19, .pick (.t 16) (.t 18) (.c (.bool false)), some (13, true)⟩,
 oo 20 (.pick (.t 13) (.t 19) (.c (.bool false))),
 om 21 20,
 ⟨some 22, .mv (.c (.bool true)), some (21, false)⟩,
 ⟨some 23, .mv (.t 4), some (22, true)⟩,
 ⟨some 24, .bin .lss .num (ci 0) (.t 23), some (22, true)⟩,
 ⟨some 25, .mv (.t 24), some (22, true)⟩,
 ⟨some 26, .mv (.t 4), some (25, true)⟩,
 ⟨some 27, .bin .lss .num (.t 26) (ci 19), some (25, true)⟩,
 ⟨some 28, .pick (.t 25) (.t 27) (.c (.bool false)), some (22, true)⟩,
 ⟨some 29, .pick (.t 22) (.t 28) (.c (.bool false)), some (21, false)⟩,
 oo 30 (.pick (.t 21) (.c (.bool true)) (.t 29))])
 (.cond (.t 30)
 (.seq (.region [om 31 0,
 om 5 31])
 (.seq (.seq (.region [om 32 0,
 oo 33 (.index .str (.t 32) (ci 0)),
 oo 34 (.bin .eql .num (.t 33) (.c (.int .u8 45))),
 om 35 34,
 ⟨some 36, .mv (.t 0), some (35, false)⟩,
 ⟨some 37, .index .str (.t 36) (ci 0), some (35, false)⟩,
 ⟨some 38, .bin .eql .num (.t 37) (.c (.int .u8 43)), some (35, false)⟩,
 oo 39 (.pick (.t 35) (.c (.bool true)) (.t 38))])
 (.cond (.t 39)
 (.seq (.region [om 40 0,
 oo 41 (.slice .str (.t 40) (some (ci 1)) none none),
 om 0 41])
 (.seq (.region [om 42 0,
 oo 43 (.len .str (.t 42)),
 oo 44 (.bin .lss .num (.t 43) (ci 1))])
 (.cond (.t 44)
 (.seq (.region [oo 45 (.mkIface 331 (ci 2)),
 oo 2 (.mv (ci 0)),
 om 3 45])
 (.ret))
 (.skip))))
 (.skip)))
 (.seq (.region [oo 6 (.mv (ci 0))])
 (.seq (.seq (.region [om 46 0,
 oo 47 (.conv .strBytes (.t 46)),
 oo 48 (.len .sl (.t 47)),
 oo 49 (.mv (ci 0))])
 (.block 0 (.loop (.seq (.region [oo 50 (.bin .lss .num (.t 49) (.t 48))])
 (.seq (.cond (.t 50)
 (.skip)
 (.exit 0))
 (.seq (.block 1 (.seq (.region [oo 51 (.indexAddr (.sl 1) (.t 47) (.t 49)),
 oo 52 (.load 1 false (.t 51)),
 om 8 52])
 (.seq (.region [om 53 8,
 oo 54 (.bin .sub .num (.t 53) (.c (.int .u8 48))),
 om 8 54])
 (.seq (.seq (.region [om 55 8,
 oo 56 (.bin .gtr .num (.t 55) (.c (.int .u8 9)))])
 (.cond (.t 56)
 (.seq (.region [oo 57 (.mkIface 331 (ci 2)),
 oo 2 (.mv (ci 0)),
 om 3 57])
 (.ret))
 (.skip)))
 (.region [om 58 6,
 oo 59 (.bin .mul .num (.t 58) (ci 10)),
 om 60 8,
 oo 61 (.conv (.int .i64) (.t 60)),
 oo 62 (.bin .add .num (.t 59) (.t 61)),
 om 6 62])))))
 (.region [oo 63 (.bin .add .num (.t 49) (ci 1)),
 om 49 63])))))))
 (.seq (.seq (.region [om 64 5,
 oo 65 (.index .str (.t 64) (ci 0)),
 oo 66 (.bin .eql .num (.t 65) (.c (.int .u8 45)))])
 (.cond (.t 66)
 (.region [om 67 6,
 oo 68 (.un .neg (.t 67)),
 om 6 68])
 (.skip)))
 (.seq (.region [om 69 6,
 om 2 69,
 oo 3 (.mv (.c (.niliface)))])
 (.ret)))))))
 (.skip)))
 (.seq (.region [om 71 0,
 oo 72 (.call 289 [(.t 71), (ci 10), (ci 0)]),
 om 70 72,
 oo 73 (.extract 0 (.t 70)),
 oo 74 (.extract 1 (.t 70)),
 om 9 73,
 om 10 74])
 (.seq (.region [om 75 9,
 om 76 10,
 om 2 75,
 om 3 76])
 (.ret)))))⟩

/- strconv.toError -/
def F274 : AFunc := ⟨43, [.tmp 10],
 .seq (.region [oo 10 (.mv (.c (.niliface)))])
 (.seq (.seq (.region [om 11 4])
 (.block 0 (.seq (.region [oo 13 (.mkIface 331 (ci 2)),
 oo 14 (.stuck),
 om 12 14])
 (.cond (.t 12)
 (.seq (.region [om 15 0,
 om 16 1,
 oo 17 (.call 290 [(.t 15), (.t 16)]),
 oo 18 (.mkIface 334 (.t 17)),
 om 10 18])
 (.ret))
 (.seq (.region [oo 20 (.mkIface 331 (ci 1)),
 oo 21 (.stuck),
 om 19 21])
 (.cond (.t 19)
 (.seq (.region [om 22 0,
 om 23 1,
 oo 24 (.call 291 [(.t 22), (.t 23)]),
 oo 25 (.mkIface 334 (.t 24)),
 om 10 25])
 (.ret))
 (.seq (.region [oo 27 (.mkIface 331 (ci 3)),
 oo 28 (.stuck),
 om 26 28])
 (.cond (.t 26)
 (.seq (.region [om 29 0,
 om 30 1,
 om 31 2,
 oo 32 (.call 292 [(.t 29), (.t 30), (.t 31)]),
 oo 33 (.mkIface 334 (.t 32)),
 om 10 33])
 (.ret))
 (.seq (.region [oo 35 (.mkIface 331 (ci 4)),
 oo 36 (.stuck),
 om 34 36])
 (.cond (.t 34)
 (.seq (.region [om 37 0,
 om 38 1,
 om 39 3,
 oo 40 (.call 293 [(.t 37), (.t 38), (.t 39)]),
 oo 41 (.mkIface 334 (.t 40)),
 om 10 41])
 (.ret))
 (.skip)))))))))))
 (.seq (.region [om 42 4,
 om 10 42])
 (.ret)))⟩

/- math/bits.TrailingZeros32 -/
def F283 : AFunc := ⟨14, [.tmp 2],
 .seq (.region [oo 2 (.mv (ci 0))])
 (.seq (.seq (.region [om 3 0,
 oo 4 (.bin .eql .num (.t 3) (.c (.int .u32 0)))])
 (.cond (.t 4)
 (.seq (.region [oo 2 (.mv (ci 32))])
 (.ret))
 (.skip)))
 (.seq (.region [om 5 0,
 om 6 0,
 oo 7 (.un .neg (.t 6)),
 oo 8 (.bin .and .num (.t 5) (.t 7)),
 oo 9 (.bin .mul .num (.t 8) (.c (.int .u32 125613361))),
 oo 10 (.bin .shr .num (.t 9) (.c (.int .u64 27))),
 oo 11 (.indexAddr (.arr 32 1) (.g 2) (.t 10)),
 oo 12 (.load 1 false (.t 11)),
 oo 13 (.conv (.int .i64) (.t 12)),
 om 2 13])
 (.ret)))⟩

/- math/bits.TrailingZeros64 -/
def F284 : AFunc := ⟨14, [.tmp 2],
 .seq (.region [oo 2 (.mv (ci 0))])
 (.seq (.seq (.region [om 3 0,
 oo 4 (.bin .eql .num (.t 3) (.c (.int .u64 0)))])
 (.cond (.t 4)
 (.seq (.region [oo 2 (.mv (ci 64))])
 (.ret))
 (.skip)))
 (.seq (.region [om 5 0,
 om 6 0,
 oo 7 (.un .neg (.t 6)),
 oo 8 (.bin .and .num (.t 5) (.t 7)),
 oo 9 (.bin .mul .num (.t 8) (.c (.int .u64 285870213051353865))),
 oo 10 (.bin .shr .num (.t 9) (.c (.int .u64 58))),
 oo 11 (.indexAddr (.arr 64 1) (.g 3) (.t 10)),
 oo 12 (.load 1 false (.t 11)),
 oo 13 (.conv (.int .i64) (.t 12)),
 om 2 13])
 (.ret)))⟩

/- unicode/utf8.decodeRuneInStringSlow -/
def F285 : AFunc := ⟨117, [.tmp 2, .tmp 3],
 .seq (.region [oo 2 (.mv (.c (.int .i32 0))),
 oo 3 (.mv (ci 0))])
 (.seq (.region [om 13 0,
 oo 14 (.len .str (.t 13)),
 om 4 14])
 (.seq (.seq (.region [om 15 4,
 oo 16 (.bin .lss .num (.t 15) (ci 1))])
 (.cond (.t 16)
 (.seq (.region [oo 2 (.mv (.c (.int .i32 65533))),
 oo 3 (.mv (ci 0))])
 (.ret))
 (.skip)))
 (.seq (.region [om 17 0,
 oo 18 (.index .str (.t 17) (ci 0)),
 om 5 18])
 (.seq (.region [om 19 5,
 oo 20 (.indexAddr (.arr 256 1) (.g 4) (.t 19)),
 oo 21 (.load 1 false (.t 20)),
 om 6 21])
 (.seq (.seq (.region [om 22 6,
 oo 23 (.bin .geq .num (.t 22) (.c (.int .u8 240)))])
 (.cond (.t 23)
 (.seq (.region [om 24 6,
 oo 25 (.conv (.int .i32) (.t 24)),
 oo 26 (.bin .shl .num (.t 25) (.c (.int .u64 31))),
 oo 27 (.bin .shr .num (.t 26) (.c (.int .u64 31))),
 om 7 27])
 (.seq (.region [om 28 0,
 oo 29 (.index .str (.t 28) (ci 0)),
 oo 30 (.conv (.int .i32) (.t 29)),
 om 31 7,
 oo 32 (.bin .andNot .num (.t 30) (.t 31)),
 om 33 7,
 oo 34 (.bin .and .num (.c (.int .i32 65533)) (.t 33)),
 oo 35 (.bin .or .num (.t 32) (.t 34)),
 om 2 35,
 oo 3 (.mv (ci 1))])
 (.ret)))
 (.skip)))
 (.seq (.region [om 36 6,
 oo 37 (.bin .and .num (.t 36) (.c (.int .u8 7))),
 oo 38 (.conv (.int .i64) (.t 37)),
 om 8 38])
 (.seq (.region [om 39 6,
 oo 40 (.bin .shr .num (.t 39) (.c (.int .u64 4))),
 oo 41 (.indexAddr (.arr 16 2) (.g 5) (.t 40)),
 oo 42 (.load 2 true (.t 41)),
 oo 9 (.alloc [.int .u8 0, .int .u8 0]),
 ⟨none, .store 2 (.t 9) (.t 42), none⟩])
 (.seq (.seq (.region [om 43 4,
 om 44 8,
 oo 45 (.bin .lss .num (.t 43) (.t 44))])
 (.cond (.t 45)
 (.seq (.region [oo 2 (.mv (.c (.int .i32 65533))),
 oo 3 (.mv (ci 1))])
 (.ret))
 (.skip)))
 (.seq (.region [om 46 0,
 oo 47 (.index .str (.t 46) (ci 1)),
 om 10 47])
 (.seq (.seq (.region [om 48 10,
 oo 49 (.fieldAddr 0 (.t 9)),
 oo 50 (.load 1 false (.t 49)),
 oo 51 (.bin .lss .num (.t 48) (.t 50)),
 om 52 51,
 ⟨some 53, .fieldAddr 1 (.t 9), some (52, false)⟩,
 ⟨some 54, .load 1 false (.t 53), some (52, false)⟩,
 ⟨some 55, .mv (.t 10), some (52, false)⟩,
 ⟨some 56, .bin .lss .num (.t 54) (.t 55), some (52, false)⟩,
 oo 57 (.pick (.t 52) (.c (.bool true)) (.t 56))])
 (.cond (.t 57)
 (.seq (.region [oo 2 (.mv (.c (.int .i32 65533))),
 oo 3 (.mv (ci 1))])
 (.ret))
 (.skip)))
 (.seq (.seq (.region [om 58 8,
 oo 59 (.bin .leq .num (.t 58) (ci 2))])
 (.cond (.t 59)
 (.seq (.region [om 60 5,
 oo 61 (.bin .and .num (.t 60) (.c (.int .u8 31))),
 oo 62 (.conv (.int .i32) (.t 61)),
 oo 63 (.bin .shl .num (.t 62) (.c (.int .u64 6))),
 om 64 10,
 oo 65 (.bin .and .num (.t 64) (.c (.int .u8 63))),
 oo 66 (.conv (.int .i32) (.t 65)),
 oo 67 (.bin .or .num (.t 63) (.t 66)),
 om 2 67,
 oo 3 (.mv (ci 2))])
 (.ret))
 (.skip)))
 (.seq (.region [om 68 0,
 oo 69 (.index .str (.t 68) (ci 2)),
 om 11 69])
 (.seq (.seq (.region [om 70 11,
 oo 71 (.bin .lss .num (.t 70) (.c (.int .u8 128))),
 om 72 71,
 ⟨some 73, .mv (.t 11), some (72, false)⟩,
 ⟨some 74, .bin .lss .num (.c (.int .u8 191)) (.t 73), some (72, false)⟩,
 oo 75 (.pick (.t 72) (.c (.bool true)) (.t 74))])
 (.cond (.t 75)
 (.seq (.region [oo 2 (.mv (.c (.int .i32 65533))),
 oo 3 (.mv (ci 1))])
 (.ret))
 (.skip)))
 (.seq (.seq (.region [om 76 8,
 oo 77 (.bin .leq .num (.t 76) (ci 3))])
 (.cond (.t 77)
 (.seq (.region [om 78 5,
 oo 79 (.bin .and .num (.t 78) (.c (.int .u8 15))),
 oo 80 (.conv (.int .i32) (.t 79)),
 oo 81 (.bin .shl .num (.t 80) (.c (.int .u64 12))),
 om 82 10,
 oo 83 (.bin .and .num (.t 82) (.c (.int .u8 63))),
 oo 84 (.conv (.int .i32) (.t 83)),
 oo 85 (.bin .shl .num (.t 84) (.c (.int .u64 6))),
 oo 86 (.bin .or .num (.t 81) (.t 85)),
 om 87 11,
 oo 88 (.bin .and .num (.t 87) (.c (.int .u8 63))),
 oo 89 (.conv (.int .i32) (.t 88)),
 oo 90 (.bin .or .num (.t 86) (.t 89)),
 om 2 90,
 oo 3 (.mv (ci 3))])
 (.ret))
 (.skip)))
 (.seq (.region [om 91 0,
 oo 92 (.index .str (.t 91) (ci 3)),
 om 12 92])
 (.seq (.seq (.region [om 93 12,
 oo 94 (.bin .lss .num (.t 93) (.c (.int .u8 128))),
 om 95 94,
 ⟨some 96, .mv (.t 12), some (95, false)⟩,
 ⟨some 97, .bin .lss .num (.c (.int .u8 191)) (.t 96), some (95, false)⟩,
 oo 98 (.pick (.t 95) (.c (.bool true)) (.t 97))])
 (.cond (.t 98)
 (.seq (.region [oo 2 (.mv (.c (.int .i32 65533))),
 oo 3 (.mv (ci 1))])
 (.ret))
 (.skip)))
 (.seq (.region [om 99 5,
 oo 100 (.bin .and .num (.t 99) (.c (.int .u8 7))),
 oo 101 (.conv (.int .i32) (.t 100)),
 oo 102 (.bin .shl .num (.t 101) (.c (.int .u64 18))),
 om 103 10,
 oo 104 (.bin .and .num (.t 103) (.c (.int .u8 63))),
 oo 105 (.conv (.int .i32) (.t 104)),
 oo 106 (.bin .shl .num (.t 105) (.c (.int .u64 12))),
 oo 107 (.bin .or .num (.t 102) (.t 106)),
 om 108 11,
 oo 109 (.bin .and .num (.t 108) (.c (.int .u8 63))),
 oo 110 (.conv (.int .i32) (.t 109)),
 oo 111 (.bin .shl .num (.t 110) (.c (.int .u64 6))),
 oo 112 (.bin .or .num (.t 107) (.t 111)),
 om 113 12,
 oo 114 (.bin .and .num (.t 113) (.c (.int .u8 63))),
 oo 115 (.conv (.int .i32) (.t 114)),
 oo 116 (.bin .or .num (.t 112) (.t 115)),
 om 2 116,
 oo 3 (.mv (ci 4))])
 (.ret))))))))))))))))))⟩

/- internal/bytealg.Cutover -/
def F287 : AFunc := ⟨6, [.tmp 2],
 .seq (.region [oo 2 (.mv (ci 0))])
 (.seq (.region [om 3 0,
 oo 4 (.bin .add .num (.t 3) (ci 16)),
 oo 5 (.bin .quo .num (.t 4) (ci 8)),
 om 2 5])
 (.ret))⟩

/- internal/bytealg.IndexRabinKarp[string] -/
def F288 : AFunc := ⟨81, [.tmp 4],
 .seq (.region [oo 4 (.mv (ci 0))])
 (.seq (.region [om 12 1,
 oo 13 (.call 296 [(.t 12)]),
 om 11 13,
 oo 14 (.extract 0 (.t 11)),
 oo 15 (.extract 1 (.t 11)),
 om 5 14,
 om 6 15])
 (.seq (.region [om 16 1,
 oo 17 (.len .str (.t 16)),
 om 7 17])
 (.seq (.region [oo 8 (.mv (.c (.int .u32 0)))])
 (.seq (.seq (.region [oo 9 (.mv (ci 0))])
 (.block 0 (.loop (.seq (.seq (.region [om 18 9,
 om 19 7,
 oo 20 (.bin .lss .num (.t 18) (.t 19))])
 (.cond (.t 20)
 (.skip)
 (.exit 0)))
 (.seq (.block 1 (.region [om 23 8,
 oo 24 (.bin .mul .num (.t 23) (.c (.int .u32 16777619))),
 om 25 0,
 om 26 9,
 oo 27 (.index .str (.t 25) (.t 26)),
 oo 28 (.conv (.int .u32) (.t 27)),
 oo 29 (.bin .add .num (.t 24) (.t 28)),
 om 8 29]))
 (.region [om 21 9,
 oo 22 (.bin .add .num (.t 21) (ci 1)),
 om 9 22]))))))
 (.seq (.seq (.region [om 30 8,
 om 31 5,
 oo 32 (.bin .eql .num (.t 30) (.t 31)),
 om 33 32,
 ⟨some 34, .mv (.t 0), some (33, true)⟩,
 ⟨some 35, .mv (.t 7), some (33, true)⟩,
 ⟨some 36, .slice .str (.t 34) none (some (.t 35)) none, some (33, true)⟩,
 ⟨some 37, .mv (.t 1), some (33, true)⟩,
 ⟨some 38, .bin .eql .strs (.t 36) (.t 37), some (33, true)⟩,
 oo 39 (.pick (.t 33) (.t 38) (.c (.bool false)))])
 (.cond (.t 39)
 (.seq (.region [oo 4 (.mv (ci 0))])
 (.ret))
 (.skip)))
 (.seq (.seq (.region [om 40 7,
 om 10 40])
 (.block 2 (.loop (.seq (.seq (.region [om 41 10,
 om 42 0,
 oo 43 (.len .str (.t 42)),
 oo 44 (.bin .lss .num (.t 41) (.t 43))])
 (.cond (.t 44)
 (.skip)
 (.exit 2)))
 (.block 3 (.seq (.region [om 45 8,
 oo 46 (.bin .mul .num (.t 45) (.c (.int .u32 16777619))),
 om 8 46])
 (.seq (.region [om 47 8,
 om 48 0,
 om 49 10,
 oo 50 (.index .str (.t 48) (.t 49)),
 oo 51 (.conv (.int .u32) (.t 50)),
 oo 52 (.bin .add .num (.t 47) (.t 51)),
 om 8 52])
 (.seq (.region [om 53 8,
 om 54 6,
 om 55 0,
 om 56 10,
 om 57 7,
 oo 58 (.bin .sub .num (.t 56) (.t 57)),
 oo 59 (.index .str (.t 55) (.t 58)),
 oo 60 (.conv (.int .u32) (.t 59)),
 oo 61 (.bin .mul .num (.t 54) (.t 60)),
 oo 62 (.bin .sub .num (.t 53) (.t 61)),
 om 8 62])
 (.seq (.region [om 63 10,
 oo 64 (.bin .add .num (.t 63) (ci 1)),
 om 10 64])
 (.seq (.region [om 65 8,
 om 66 5,
 oo 67 (.bin .eql .num (.t 65) (.t 66)),
 om 68 67,
 ⟨some 69, .mv (.t 0), some (68, true)⟩,
 ⟨some 70, .mv (.t 10), some (68, true)⟩,
 ⟨some 71, .mv (.t 7), some (68, true)⟩,
 ⟨some 72, .bin .sub .num (.t 70) (.t 71), some (68, true)⟩,
 ⟨some 73, .mv (.t 10), some (68, true)⟩,
 ⟨some 74, .slice .str (.t 69) (some (.t 72)) (some (.t 73)) none, some (68, true)⟩,
 ⟨some 75, .mv (.t 1), some (68, true)⟩,
 ⟨some 76, .bin .eql .strs (.t 74) (.t 75), some (68, true)⟩,
 oo 77 (.pick (.t 68) (.t 76) (.c (.bool false)))])
 (.cond (.t 77)
 (.seq (.region [om 78 10,
 om 79 7,
 oo 80 (.bin .sub .num (.t 78) (.t 79)),
 om 4 80])
 (.ret))
 (.skip))))))))))))
 (.seq (.region [oo 4 (.mv (ci (-1)))])
 (.ret))))))))⟩

/- internal/strconv.ParseInt -/
def F289 : AFunc := ⟨73, [.tmp 6, .tmp 7],
 .seq (.region [oo 6 (.mv (ci 0)),
 oo 7 (.mv (.c (.niliface)))])
 (.seq (.seq (.region [om 12 0,
 oo 13 (.bin .eql .strs (.t 12) (.c (.str [])))])
 (.cond (.t 13)
 (.seq (.region [oo 14 (.mkIface 331 (ci 2)),
 oo 6 (.mv (ci 0)),
 om 7 14])
 (.ret))
 (.skip)))
 (.seq (.region [oo 8 (.mv (.c (.bool false)))])
 (.seq (.seq (.region [om 15 0,
 oo 16 (.index .str (.t 15) (ci 0))])
 (.block 0 (.seq (.region [oo 18 (.bin .eql .num (.t 16) (.c (.int .u8 43))),
 om 17 18])
 (.cond (.t 17)
 (.region [om 19 0,
 oo 20 (.slice .str (.t 19) (some (ci 1)) none none),
 om 0 20])
 (.seq (.region [oo 22 (.bin .eql .num (.t 16) (.c (.int .u8 45))),
 om 21 22])
 (.cond (.t 21)
 (.seq (.region [om 23 0,
 oo 24 (.slice .str (.t 23) (some (ci 1)) none none),
 om 0 24])
 (.region [oo 8 (.mv (.c (.bool true)))]))
 (.skip)))))))
 (.seq (.region [oo 9 (.mv (.c (.int .u64 0)))])
 (.seq (.region [om 26 0,
 om 27 1,
 om 28 2,
 oo 29 (.call 297 [(.t 26), (.t 27), (.t 28)]),
 om 25 29,
 oo 30 (.extract 0 (.t 25)),
 oo 31 (.extract 1 (.t 25)),
 om 9 30,
 om 7 31])
 (.seq (.seq (.region [om 32 7,
 oo 33 (.bin .neq (.nilc .ifc) (.t 32) (.c (.niliface))),
 om 34 33,
 ⟨some 35, .mv (.t 7), some (34, true)⟩,
 ⟨some 36, .mkIface 331 (ci 1), some (34, true)⟩,
 ⟨some 37, .stuck, some (34, true)⟩,
 oo 38 (.pick (.t 34) (.t 37) (.c (.bool false)))])
 (.cond (.t 38)
 (.seq (.region [om 39 7,
 oo 6 (.mv (ci 0)),
 om 7 39])
 (.ret))
 (.skip)))
 (.seq (.seq (.region [om 40 2,
 oo 41 (.bin .eql .num (.t 40) (ci 0))])
 (.cond (.t 41)
 (.region [oo 2 (.mv (ci 64))])
 (.skip)))
 (.seq (.region [om 42 2,
 oo 43 (.bin .sub .num (.t 42) (ci 1)),
 oo 44 (.conv (.int .u64) (.t 43)),
 oo 45 (.bin .shl .num (.c (.int .u64 1)) (.t 44)),
 om 10 45])
 (.seq (.seq (.region [om 46 8,
 oo 47 (.un .not (.t 46)),
 om 48 47,
 ⟨some 49, .mv (.t 9), some (48, true)⟩,
 ⟨some 50, .mv (.t 10), some (48, true)⟩,
 ⟨some 51, .bin .geq .num (.t 49) (.t 50), some (48, true)⟩,
 oo 52 (.pick (.t 48) (.t 51) (.c (.bool false)))])
 (.cond (.t 52)
 (.seq (.region [om 53 10,
 oo 54 (.bin .sub .num (.t 53) (.c (.int .u64 1))),
 oo 55 (.conv (.int .i64) (.t 54)),
 oo 56 (.mkIface 331 (ci 1)),
 om 6 55,
 om 7 56])
 (.ret))
 (.skip)))
 (.seq (.seq (.region [om 57 8,
 om 58 57,
 ⟨some 59, .mv (.t 9), some (58, true)⟩,
 ⟨some 60, .mv (.t 10), some (58, true)⟩,
 ⟨some 61, .bin .gtr .num (.t 59) (.t 60), some (58, true)⟩,
 oo 62 (.pick (.t 58) (.t 61) (.c (.bool false)))])
 (.cond (.t 62)
 (.seq (.region [om 63 10,
 oo 64 (.conv (.int .i64) (.t 63)),
 oo 65 (.un .neg (.t 64)),
 oo 66 (.mkIface 331 (ci 1)),
 om 6 65,
 om 7 66])
 (.ret))
 (.skip)))
 (.seq (.region [om 67 9,
 oo 68 (.conv (.int .i64) (.t 67)),
 om 11 68])
 (.seq (.seq (.region [om 69 8])
 (.cond (.t 69)
 (.region [om 70 11,
 oo 71 (.un .neg (.t 70)),
 om 11 71])
 (.skip)))
 (.seq (.region [om 72 11,
 om 6 72,
 oo 7 (.mv (.c (.niliface)))])
 (.ret))))))))))))))⟩

/- strconv.syntaxError -/
def F290 : AFunc := ⟨11, [.tmp 4],
 .seq (.region [oo 4 (.mv (.c (.nilptr)))])
 (.seq (.regionD [qm 5 0,
 qm 6 1,
 ⟨⟨some 7, .call 298 [(.t 6)], none⟩, true, []⟩,
 oq 8 (.load 1 false (.g 6)),
 oq 9 (.build [.str [], .str [], .niliface] [(0, 1, (.t 5)), (1, 1, (.t 7)), (2, 1, (.t 8))]),
 oq 10 (.box (.t 9)),
 qm 4 10])
 (.ret))⟩

/- strconv.rangeError -/
def F291 : AFunc := ⟨11, [.tmp 4],
 .seq (.region [oo 4 (.mv (.c (.nilptr)))])
 (.seq (.regionD [qm 5 0,
 qm 6 1,
 ⟨⟨some 7, .call 298 [(.t 6)], none⟩, true, []⟩,
 oq 8 (.load 1 false (.g 7)),
 oq 9 (.build [.str [], .str [], .niliface] [(0, 1, (.t 5)), (1, 1, (.t 7)), (2, 1, (.t 8))]),
 oq 10 (.box (.t 9)),
 qm 4 10])
 (.ret))⟩

/- strconv.baseError -/
def F292 : AFunc := ⟨16, [.tmp 6],
 .seq (.region [oo 6 (.mv (.c (.nilptr)))])
 (.seq (.region [om 7 0,
 om 8 1,
 oo 9 (.call 298 [(.t 8)]),
 om 10 2,
 oo 11 (.call 122 [(.t 10)]),
 oo 12 (.bin .add .strs (.c (.str [105, 110, 118, 97, 108, 105, 100, 32, 98, 97, 115, 101, 32])) (.t 11)),
 oo 13 (.call 299 [(.t 12)]),
 oo 14 (.build [.str [], .str [], .niliface] [(0, 1, (.t 7)), (1, 1, (.t 9)), (2, 1, (.t 13))]),
 oo 15 (.box (.t 14)),
 om 6 15])
 (.ret))⟩

/- strconv.bitSizeError -/
def F293 : AFunc := ⟨16, [.tmp 6],
 .seq (.region [oo 6 (.mv (.c (.nilptr)))])
 (.seq (.region [om 7 0,
 om 8 1,
 oo 9 (.call 298 [(.t 8)]),
 om 10 2,
 oo 11 (.call 122 [(.t 10)]),
 oo 12 (.bin .add .strs (.c (.str [105, 110, 118, 97, 108, 105, 100, 32, 98, 105, 116, 32, 115, 105, 122, 101, 32])) (.t 11)),
 oo 13 (.call 299 [(.t 12)]),
 oo 14 (.build [.str [], .str [], .niliface] [(0, 1, (.t 7)), (1, 1, (.t 9)), (2, 1, (.t 13))]),
 oo 15 (.box (.t 14)),
 om 6 15])
 (.ret))⟩

/- internal/bytealg.hashStr[string] -/
def F296 : AFunc := ⟨39, [.tmp 2, .tmp 3],
 .seq (.region [oo 2 (.mv (.c (.int .u32 0))),
 oo 3 (.mv (.c (.int .u32 0)))])
 (.seq (.region [oo 4 (.mv (.c (.int .u32 0)))])
 (.seq (.seq (.region [oo 5 (.mv (ci 0))])
 (.block 0 (.loop (.seq (.seq (.region [om 9 5,
 om 10 0,
 oo 11 (.len .str (.t 10)),
 oo 12 (.bin .lss .num (.t 9) (.t 11))])
 (.cond (.t 12)
 (.skip)
 (.exit 0)))
 (.seq (.block 1 (.region [om 15 4,
 oo 16 (.bin .mul .num (.t 15) (.c (.int .u32 16777619))),
 om 17 0,
 om 18 5,
 oo 19 (.index .str (.t 17) (.t 18)),
 oo 20 (.conv (.int .u32) (.t 19)),
 oo 21 (.bin .add .num (.t 16) (.t 20)),
 om 4 21]))
 (.region [om 13 5,
 oo 14 (.bin .add .num (.t 13) (ci 1)),
 om 5 14]))))))
 (.seq (.region [oo 6 (.mv (.c (.int .u32 1))),
 oo 7 (.mv (.c (.int .u32 16777619)))])
 (.seq (.seq (.region [om 22 0,
 oo 23 (.len .str (.t 22)),
 om 8 23])
 (.block 2 (.loop (.seq (.seq (.region [om 24 8,
 oo 25 (.bin .gtr .num (.t 24) (ci 0))])
 (.cond (.t 25)
 (.skip)
 (.exit 2)))
 (.seq (.block 3 (.seq (.seq (.region [om 28 8,
 oo 29 (.bin .and .num (.t 28) (ci 1)),
 oo 30 (.bin .neq .num (.t 29) (ci 0))])
 (.cond (.t 30)
 (.region [om 31 6,
 om 32 7,
 oo 33 (.bin .mul .num (.t 31) (.t 32)),
 om 6 33])
 (.skip)))
 (.region [om 34 7,
 om 35 7,
 oo 36 (.bin .mul .num (.t 34) (.t 35)),
 om 7 36])))
 (.region [om 26 8,
 oo 27 (.bin .shr .num (.t 26) (.c (.int .u64 1))),
 om 8 27]))))))
 (.seq (.region [om 37 4,
 om 38 6,
 om 2 37,
 om 3 38])
 (.ret))))))⟩

/- internal/strconv.ParseUint -/
def F297 : AFunc := ⟨172, [.tmp 6, .tmp 7],
 .seq (.region [oo 6 (.mv (.c (.int .u64 0))),
 oo 7 (.mv (.c (.niliface)))])
 (.seq (.seq (.region [om 18 0,
 oo 19 (.bin .eql .strs (.t 18) (.c (.str [])))])
 (.cond (.t 19)
 (.seq (.region [oo 20 (.mkIface 331 (ci 2)),
 oo 6 (.mv (.c (.int .u64 0))),
 om 7 20])
 (.ret))
 (.skip)))
 (.seq (.region [om 21 1,
 oo 22 (.bin .eql .num (.t 21) (ci 0)),
 om 8 22])
 (.seq (.region [om 23 0,
 om 9 23])
 (.seq (.block 0 (.seq (.region [om 26 1,
 oo 27 (.bin .leq .num (ci 2) (.t 26)),
 om 28 27,
 ⟨some 29, .mv (.t 1), some (28, true)⟩,
 ⟨some 30, .bin .leq .num (.t 29) (ci 36), some (28, true)⟩,
 oo 31 (.pick (.t 28) (.t 30) (.c (.bool false))),
 om 25 31])
 (.cond (.t 25)
 (.skip)
 (.seq (.region [om 33 1,
 oo 34 (.bin .eql .num (.t 33) (ci 0)),
 om 32 34])
 (.cond (.t 32)
 (.seq (.region [oo 1 (.mv (ci 10))])
 (.seq (.region [om 35 0,
 oo 36 (.index .str (.t 35) (ci 0)),
 oo 37 (.bin .eql .num (.t 36) (.c (.int .u8 48)))])
 (.cond (.t 37)
 (.block 1 (.seq (.region [om 41 0,
 oo 42 (.len .str (.t 41)),
 oo 43 (.bin .geq .num (.t 42) (ci 3)),
 om 44 43,
 ⟨some 45, .mv (.t 0), some (44, true)⟩,
 ⟨some 46, .index .str (.t 45) (ci 1), some (44, true)⟩,
 ⟨some 47, .call 300 [(.t 46)], some (44, true)⟩,
 ⟨some 48, .bin .eql .num (.t 47) (.c (.int .u8 98)), some (44, true)⟩,
 oo 49 (.pick (.t 44) (.t 48) (.c (.bool false))),
 om 40 49])
 (.cond (.t 40)
 (.seq (.region [oo 1 (.mv (ci 2))])
 (.region [om 50 0,
 oo 51 (.slice .str (.t 50) (some (ci 2)) none none),
 om 0 51]))
 (.seq (.region [om 53 0,
 oo 54 (.len .str (.t 53)),
 oo 55 (.bin .geq .num (.t 54) (ci 3)),
 om 56 55,
 ⟨some 57, .mv (.t 0), some (56, true)⟩,
 ⟨some 58, .index .str (.t 57) (ci 1), some (56, true)⟩,
 ⟨some 59, .call 300 [(.t 58)], some (56, true)⟩,
 ⟨some 60, .bin .eql .num (.t 59) (.c (.int .u8 111)), some (56, true)⟩,
 oo 61 (.pick (.t 56) (.t 60) (.c (.bool false))),
 om 52 61])
 (.cond (.t 52)
 (.seq (.region [oo 1 (.mv (ci 8))])
 (.region [om 62 0,
 oo 63 (.slice .str (.t 62) (some (ci 2)) none none),
 om 0 63]))
 (.seq (.region [om 65 0,
 oo 66 (.len .str (.t 65)),
 oo 67 (.bin .geq .num (.t 66) (ci 3)),
 om 68 67,
 ⟨some 69, .mv (.t 0), some (68, true)⟩,
 ⟨some 70, .index .str (.t 69) (ci 1), some (68, true)⟩,
 ⟨some 71, .call 300 [(.t 70)], some (68, true)⟩,
 ⟨some 72, .bin .eql .num (.t 71) (.c (.int .u8 120)), some (68, true)⟩,
 oo 73 (.pick (.t 68) (.t 72) (.c (.bool false))),
 om 64 73])
 (.cond (.t 64)
 (.seq (.region [oo 1 (.mv (ci 16))])
 (.region [om 74 0,
 oo 75 (.slice .str (.t 74) (some (ci 2)) none none),
 om 0 75]))
 (.seq (.region [oo 1 (.mv (ci 8))])
 (.region [om 38 0,
 oo 39 (.slice .str (.t 38) (some (ci 1)) none none),
 om 0 39])))))))))
 (.skip))))
 (.seq (.region [oo 24 (.mkIface 331 (ci 3)),
 oo 6 (.mv (.c (.int .u64 0))),
 om 7 24])
 (.ret)))))))
 (.seq (.seq (.region [om 76 2,
 oo 77 (.bin .eql .num (.t 76) (ci 0))])
 (.cond (.t 77)
 (.region [oo 2 (.mv (ci 64))])
 (.seq (.region [om 78 2,
 oo 79 (.bin .lss .num (.t 78) (ci 0)),
 om 80 79,
 ⟨some 81, .mv (.t 2), some (80, false)⟩,
 ⟨some 82, .bin .gtr .num (.t 81) (ci 64), some (80, false)⟩,
 oo 83 (.pick (.t 80) (.c (.bool true)) (.t 82))])
 (.cond (.t 83)
 (.seq (.region [oo 84 (.mkIface 331 (ci 4)),
 oo 6 (.mv (.c (.int .u64 0))),
 om 7 84])
 (.ret))
 (.skip)))))
 (.seq (.region [oo 10 (.mv (.c (.int .u64 0)))])
 (.seq (.seq (.region [om 85 1])
 (.block 2 (.seq (.region [oo 91 (.bin .eql .num (.t 85) (ci 10)),
 om 90 91])
 (.cond (.t 90)
 (.region [oo 10 (.mv (.c (.int .u64 1844674407370955162)))])
 (.seq (.region [oo 93 (.bin .eql .num (.t 85) (ci 16)),
 om 92 93])
 (.cond (.t 92)
 (.region [oo 10 (.mv (.c (.int .u64 1152921504606846976)))])
 (.region [om 86 1,
 oo 87 (.conv (.int .u64) (.t 86)),
 oo 88 (.bin .quo .num (.c (.int .u64 18446744073709551615)) (.t 87)),
 oo 89 (.bin .add .num (.t 88) (.c (.int .u64 1))),
 om 10 89])))))))
 (.seq (.region [om 94 2,
 oo 95 (.conv (.int .u64) (.t 94)),
 oo 96 (.bin .shl .num (.c (.int .u64 1)) (.t 95)),
 oo 97 (.bin .sub .num (.t 96) (.c (.int .u64 1))),
 om 11 97])
 (.seq (.region [oo 12 (.mv (.c (.bool false)))])
 (.seq (.region [oo 13 (.mv (.c (.int .u64 0)))])
 (.seq (.seq (.region [om 98 0,
 oo 99 (.conv .strBytes (.t 98)),
 oo 100 (.len .sl (.t 99)),
 oo 101 (.mv (ci 0))])
 (.block 3 (.loop (.seq (.region [oo 102 (.bin .lss .num (.t 101) (.t 100))])
 (.seq (.cond (.t 102)
 (.skip)
 (.exit 3))
 (.seq (.block 4 (.seq (.region [oo 103 (.indexAddr (.sl 1) (.t 99) (.t 101)),
 oo 104 (.load 1 false (.t 103)),
 om 15 104])
 (.seq (.region [oo 16 (.mv (.c (.int .u8 0)))])
 (.seq (.block 5 (.seq (.region [om 107 15,
 oo 108 (.bin .eql .num (.t 107) (.c (.int .u8 95))),
 om 109 108,
 ⟨some 110, .mv (.t 8), some (109, true)⟩,
 oo 111 (.pick (.t 109) (.t 110) (.c (.bool false))),
 om 106 111])
 (.cond (.t 106)
 (.seq (.region [oo 12 (.mv (.c (.bool true)))])
 (.exit 4))
 (.seq (.region [om 113 15,
 oo 114 (.bin .leq .num (.c (.int .u8 48)) (.t 113)),
 om 115 114,
 ⟨some 116, .mv (.t 15), some (115, true)⟩,
 ⟨some 117, .bin .leq .num (.t 116) (.c (.int .u8 57)), some (115, true)⟩,
 oo 118 (.pick (.t 115) (.t 117) (.c (.bool false))),
 om 112 118])
 (.cond (.t 112)
 (.region [om 119 15,
 oo 120 (.bin .sub .num (.t 119) (.c (.int .u8 48))),
 om 16 120])
 (.seq (.region [om 122 15,
 oo 123 (.call 300 [(.t 122)]),
 oo 124 (.bin .leq .num (.c (.int .u8 97)) (.t 123)),
 om 125 124,
 ⟨some 126, .mv (.t 15), some (125, true)⟩,
 ⟨some 127, .call 300 [(.t 126)], some (125, true)⟩,
 ⟨some 128, .bin .leq .num (.t 127) (.c (.int .u8 122)), some (125, true)⟩,
 oo 129 (.pick (.t 125) (.t 128) (.c (.bool false))),
 om 121 129])
 (.cond (.t 121)
 (.region [om 130 15,
 oo 131 (.call 300 [(.t 130)]),
 oo 132 (.bin .sub .num (.t 131) (.c (.int .u8 97))),
 oo 133 (.bin .add .num (.t 132) (.c (.int .u8 10))),
 om 16 133])
 (.seq (.region [oo 105 (.mkIface 331 (ci 2)),
 oo 6 (.mv (.c (.int .u64 0))),
 om 7 105])
 (.ret)))))))))
 (.seq (.seq (.region [om 134 16,
 om 135 1,
 oo 136 (.conv (.int .u8) (.t 135)),
 oo 137 (.bin .geq .num (.t 134) (.t 136))])
 (.cond (.t 137)
 (.seq (.region [oo 138 (.mkIface 331 (ci 2)),
 oo 6 (.mv (.c (.int .u64 0))),
 om 7 138])
 (.ret))
 (.skip)))
 (.seq (.seq (.region [om 139 13,
 om 140 10,
 oo 141 (.bin .geq .num (.t 139) (.t 140))])
 (.cond (.t 141)
 (.seq (.region [om 142 11,
 oo 143 (.mkIface 331 (ci 1)),
 om 6 142,
 om 7 143])
 (.ret))
 (.skip)))
 (.seq (.region [om 144 13,
 om 145 1,
 oo 146 (.conv (.int .u64) (.t 145)),
 oo 147 (.bin .mul .num (.t 144) (.t 146)),
 om 13 147])
 (.seq (.region [om 148 13,
 om 149 16,
 oo 150 (.conv (.int .u64) (.t 149)),
 oo 151 (.bin .add .num (.t 148) (.t 150)),
 om 17 151])
 (.seq (.seq (.region [om 152 17,
 om 153 13,
 oo 154 (.bin .lss .num (.t 152) (.t 153)),
 om 155 154,
 ⟨some 156, .mv (.t 17), some (155, false)⟩,
 ⟨some 157, .mv (.t 11), some (155, false)⟩,
 ⟨some 158, .bin .gtr .num (.t 156) (.t 157), some (155, false)⟩,
 oo 159 (.pick (.t 155) (.c (.bool true)) (.t 158))])
 (.cond (.t 159)
 (.seq (.region [om 160 11,
 oo 161 (.mkIface 331 (ci 1)),
 om 6 160,
 om 7 161])
 (.ret))
 (.skip)))
 (.region [om 162 17,
 om 13 162]))))))))))
 (.region [oo 163 (.bin .add .num (.t 101) (ci 1)),
 om 101 163])))))))
 (.seq (.seq (.region [om 164 12,
 om 165 164,
 ⟨some 166, .mv (.t 9), some (165, true)⟩,
 ⟨some 167, .call 301 [(.t 166)], some (165, true)⟩,
 ⟨some 168, .un .not (.t 167), some (165, true)⟩,
 oo 169 (.pick (.t 165) (.t 168) (.c (.bool false)))])
 (.cond (.t 169)
 (.seq (.region [oo 170 (.mkIface 331 (ci 2)),
 oo 6 (.mv (.c (.int .u64 0))),
 om 7 170])
 (.ret))
 (.skip)))
 (.seq (.region [om 171 13,
 om 6 171,
 oo 7 (.mv (.c (.niliface)))])
 (.ret))))))))))))))⟩

/- internal/stringslite.Clone -/
def F298 : AFunc := ⟨18, [.tmp 2],
 .seq (.region [oo 2 (.mv (.c (.str [])))])
 (.seq (.seq (.region [om 4 0,
 oo 5 (.len .str (.t 4)),
 oo 6 (.bin .eql .num (.t 5) (ci 0))])
 (.cond (.t 6)
 (.seq (.region [oo 2 (.mv (.c (.str [])))])
 (.ret))
 (.skip)))
 (.seq (.region [om 7 0,
 oo 8 (.len .str (.t 7)),
 oo 9 (.mkSl 1 1 [.int .u8 0] (.t 8) (.t 8)),
 om 3 9])
 (.seq (.region [om 10 3,
 om 11 0,
 oo 12 (.copy 1 (.t 10) (.t 11))])
 (.seq (.region [om 13 3,
 oo 14 (.indexAddr (.sl 1) (.t 13) (ci 0)),
 om 15 3,
 oo 16 (.len .sl (.t 15)),
 oo 17 (.stuck),
 om 2 17])
 (.ret)))))⟩

/- errors.New -/
def F299 : AFunc := ⟨7, [.tmp 2],
 .seq (.region [oo 2 (.mv (.c (.niliface)))])
 (.seq (.region [om 3 0,
 oo 4 (.build [.str []] [(0, 1, (.t 3))]),
 oo 5 (.box (.t 4)),
 oo 6 (.mkIface 355 (.t 5)),
 om 2 6])
 (.ret))⟩

/- internal/strconv.lower -/
def F300 : AFunc := ⟨5, [.tmp 2],
 .seq (.region [oo 2 (.mv (.c (.int .u8 0)))])
 (.seq (.region [om 3 0,
 oo 4 (.bin .or .num (.t 3) (.c (.int .u8 32))),
 om 2 4])
 (.ret))⟩

/- internal/strconv.underscoreOK -/
def F301 : AFunc := ⟨94, [.tmp 2],
 .seq (.region [oo 2 (.mv (.c (.bool false)))])
 (.seq (.region [oo 3 (.mv (.c (.int .i32 94)))])
 (.seq (.region [oo 4 (.mv (ci 0))])
 (.seq (.seq (.region [om 6 0,
 oo 7 (.len .str (.t 6)),
 oo 8 (.bin .geq .num (.t 7) (ci 1)),
 om 9 8,
 ⟨some 10, .mv (.t 0), some (9, true)⟩,
 ⟨some 11, .index .str (.t 10) (ci 0), some (9, true)⟩,
 ⟨some 12, .bin .eql .num (.t 11) (.c (.int .u8 45)), some (9, true)⟩,
 ⟨some 13, .mv (.t 12), some (9, true)⟩,
 ⟨some 14, .mv (.t 0), some (13, false)⟩,
 ⟨some 15, .index .str (.t 14) (ci 0), some (13, false)⟩,
 ⟨some 16, .bin .eql .num (.t 15) (.c (.int .u8 43)), some (13, false)⟩,
 ⟨some 17, .pick (.t 13) (.c (.bool true)) (.t 16), some (9, true)⟩,
 oo 18 (.pick (.t 9) (.t 17) (.c (.bool false)))])
 (.cond (.t 18)
 (.region [om 19 0,
 oo 20 (.slice .str (.t 19) (some (ci 1)) none none),
 om 0 20])
 (.skip)))
 (.seq (.region [oo 5 (.mv (.c (.bool false)))])
 (.seq (.seq (.region [om 21 0,
 oo 22 (.len .str (.t 21)),
 oo 23 (.bin .geq .num (.t 22) (ci 2)),
 om 24 23,
 ⟨some 25, .mv (.t 0), some (24, true)⟩,
 ⟨some 26, .index .str (.t 25) (ci 0), some (24, true)⟩,
 ⟨some 27, .bin .eql .num (.t 26) (.c (.int .u8 48)), some (24, true)⟩,
 oo 28 (.pick (.t 24) (.t 27) (.c (.bool false))),
 om 29 28,
 ⟨some 30, .mv (.t 0), some (29, true)⟩,
 ⟨some 31, .index .str (.t 30) (ci 1), some (29, true)⟩,
 ⟨some 32, .call 300 [(.t 31)], some (29, true)⟩,
 ⟨some 33, .bin .eql .num (.t 32) (.c (.int .u8 98)), some (29, true)⟩,
 ⟨some 34, .mv (.t 33), some (29, true)⟩,
 ⟨some 35, .mv (.t 0), some (34, false)⟩,
 ⟨some 36, .index .str (.t 35) (ci 1), some (34, false)⟩,
 ⟨some 37, .call 300 [(.t 36)], some (34, false)⟩,
 ⟨some 38, .bin .eql .num (.t 37) (.c (.int .u8 111)), some (34, false)⟩,
 ⟨some 39, .pick (.t 34) (.c (.bool true)) (.t 38), some (29, true)⟩,
 ⟨some 40, .mv (.t 39), some (29, true)⟩,
 ⟨some 41, .mv (.t 0), some (40, false)⟩,
 ⟨some 42, .index .str (.t 41) (ci 1), some (40, false)⟩,
 ⟨some 43, .call 300 [(.t 42)], some (40, false)⟩,
 ⟨some 44, .bin .eql .num (.t 43) (.c (.int .u8 120)), some (40, false)⟩,
 ⟨some 45, .pick (.t 40) (.c (.bool true)) (.t 44), some (29, true)⟩,
 oo 46 (.pick (.t 29) (.t 45) (.c (.bool false)))])
 (.cond (.t 46)
 (.seq (.region [oo 4 (.mv (ci 2))])
 (.seq (.region [oo 3 (.mv (.c (.int .i32 48)))])
 (.region [om 47 0,
 oo 48 (.index .str (.t 47) (ci 1)),
 oo 49 (.call 300 [(.t 48)]),
 oo 50 (.bin .eql .num (.t 49) (.c (.int .u8 120))),
 om 5 50])))
 (.skip)))
 (.seq (.block 0 (.loop (.seq (.seq (.region [om 51 4,
 om 52 0,
 oo 53 (.len .str (.t 52)),
 oo 54 (.bin .lss .num (.t 51) (.t 53))])
 (.cond (.t 54)
 (.skip)
 (.exit 0)))
 (.seq (.block 1 (.seq (.seq (.region [om 57 0,
 om 58 4,
 oo 59 (.index .str (.t 57) (.t 58)),
 oo 60 (.bin .leq .num (.c (.int .u8 48)) (.t 59)),
 om 61 60,
 ⟨some 62, .mv (.t 0), some (61, true)⟩,
 ⟨some 63, .mv (.t 4), some (61, true)⟩,
 ⟨some 64, .index .str (.t 62) (.t 63), some (61, true)⟩,
 ⟨some 65, .bin .leq .num (.t 64) (.c (.int .u8 57)), some (61, true)⟩,
 oo 66 (.pick (.t 61) (.t 65) (.c (.bool false))),
 om 67 66,
 ⟨some 68, .mv (.t 5), some (67, false)⟩,
 ⟨some 69, .mv (.t 68), some (67, false)⟩,
 ⟨some 70, .mv (.t 0), some (69, true)⟩,
 ⟨some 71, .mv (.t 4), some (69, true)⟩,
 ⟨some 72, .index .str (.t 70) (.t 71), some (69, true)⟩,
 ⟨some 73, .call 300 [(.t 72)], some (69, true)⟩,
 ⟨some 74, .bin .leq .num (.c (.int .u8 97)) (.t 73), some (69, true)⟩,
 ⟨some 75, .pick (.t 69) (.t 74) (.c (.bool false)), some (67, false)⟩,
 ⟨some 76, .mv (.t 75), some (67, false)⟩,
 ⟨some 77, .mv (.t 0), some (76, true)⟩,
 ⟨some 78, .mv (.t 4), some (76, true)⟩,
 ⟨some 79, .index .str (.t 77) (.t 78), some (76, true)⟩,
 ⟨some 80, .call 300 [(.t 79)], some (76, true)⟩,
 ⟨some 81, .bin .leq .num (.t 80) (.c (.int .u8 102)), some (76, true)⟩,
 ⟨some 82, .pick (.t 76) (.t 81) (.c (.bool false)), some (67, false)⟩,
 oo 83 (.pick (.t 67) (.c (.bool true)) (.t 82))])
 (.cond (.t 83)
 (.seq (.region [oo 3 (.mv (.c (.int .i32 48)))])
 (.exit 1))
 (.skip)))
 (.seq (.seq (.region [om 84 0,
 om 85 4,
 oo 86 (.index .str (.t 84) (.t 85)),
 oo 87 (.bin .eql .num (.t 86) (.c (.int .u8 95)))])
 (.cond (.t 87)
 (.seq (.seq (.region [om 88 3,
 oo 89 (.bin .neq .num (.t 88) (.c (.int .i32 48)))])
 (.cond (.t 89)
 (.seq (.region [oo 2 (.mv (.c (.bool false)))])
 (.ret))
 (.skip)))
 (.seq (.region [oo 3 (.mv (.c (.int .i32 95)))])
 (.exit 1)))
 (.skip)))
 (.seq (.seq (.region [om 90 3,
 oo 91 (.bin .eql .num (.t 90) (.c (.int .i32 95)))])
 (.cond (.t 91)
 (.seq (.region [oo 2 (.mv (.c (.bool false)))])
 (.ret))
 (.skip)))
 (.region [oo 3 (.mv (.c (.int .i32 33)))])))))
 (.region [om 55 4,
 oo 56 (.bin .add .num (.t 55) (ci 1)),
 om 4 56])))))
 (.seq (.region [om 92 3,
 oo 93 (.bin .neq .num (.t 92) (.c (.int .i32 95))),
 om 2 93])
 (.ret))))))))⟩

end Go.Proofs.YtndlfkibcelhmaaGreatDoor.Ai
end
section
set_option maxRecDepth 100000
namespace Go.Proofs.YtndlfkibcelhmaaGreatDoor.Ai
open Go
def fnsT : Tr AFunc :=
  (.node (.node (.node (.node (.node (.node (.node (.node (.node .leaf (some F255) .leaf) (some F127) .leaf) (some F63) (.node .leaf (some F191) .leaf)) (some F31) (.node (.node (.node .leaf (some F287) .leaf) none .leaf) (some F95) (.node .leaf (some F223) .leaf))) none (.node (.node .leaf none (.node .leaf (some F207) .leaf)) (some F47) (.node (.node .leaf (some F175) .leaf) (some F111) .leaf))) none (.node (.node (.node (.node .leaf (some F135) .leaf) none (.node .leaf (some F199) .leaf)) (some F39) (.node (.node .leaf (some F167) .leaf) none .leaf)) none (.node (.node (.node .leaf (some F151) .leaf) (some F87) (.node .leaf (some F215) .leaf)) none (.node .leaf (some F119) .leaf)))) none (.node (.node (.node .leaf (some F35) (.node (.node (.node .leaf (some F291) .leaf) (some F163) .leaf) (some F99) (.node .leaf (some F227) .leaf))) (some F19) (.node .leaf none (.node (.node .leaf (some F179) .leaf) (some F115) (.node .leaf (some F243) .leaf)))) none (.node (.node (.node (.node (.node .leaf (some F267) .leaf) (some F139) .leaf) none .leaf) none (.node (.node (.node .leaf (some F299) .leaf) (some F171) .leaf) (some F107) (.node .leaf (some F235) .leaf))) (some F27) (.node (.node (.node (.node .leaf (some F283) .leaf) none .leaf) (some F91) (.node .leaf (some F219) .leaf)) (some F59) (.node (.node .leaf (some F187) .leaf) (some F123) .leaf))))) none (.node (.node (.node (.node (.node .leaf (some F65) (.node .leaf (some F193) .leaf)) none (.node (.node (.node .leaf (some F289) .leaf) none .leaf) none (.node .leaf (some F225) .leaf))) (some F17) (.node (.node (.node (.node .leaf (some F273) .leaf) (some F145) .leaf) none .leaf) (some F49) (.node (.node .leaf (some F177) .leaf) (some F113) (.node .leaf (some F241) .leaf)))) none (.node (.node (.node (.node (.node .leaf (some F265) .leaf) (some F137) .leaf) (some F73) (.node .leaf (some F201) .leaf)) (some F41) (.node (.node (.node .leaf (some F297) .leaf) (some F169) .leaf) (some F105) .leaf)) (some F25) (.node (.node .leaf (some F89) (.node .leaf (some F217) .leaf)) (some F57) (.node (.node .leaf (some F185) .leaf) none .leaf)))) none (.node (.node (.node (.node (.node .leaf (some F133) .leaf) none (.node .leaf (some F197) .leaf)) (some F37) (.node (.node (.node .leaf (some F293) .leaf) none .leaf) (some F101) .leaf)) (some F21) (.node (.node .leaf none (.node .leaf (some F213) .leaf)) none (.node (.node .leaf (some F181) .leaf) none .leaf))) none (.node (.node (.node (.node (.node .leaf (some F269) .leaf) none .leaf) none .leaf) (some F45) (.node (.node (.node .leaf (some F301) .leaf) none .leaf) (some F109) (.node .leaf (some F237) .leaf))) none (.node (.node (.node (.node .leaf (some F285) .leaf) none .leaf) (some F93) (.node .leaf (some F221) .leaf)) (some F61) (.node (.node .leaf (some F189) .leaf) none .leaf)))))) none (.node (.node (.node (.node (.node (.node .leaf (some F64) (.node .leaf (some F192) .leaf)) none (.node (.node (.node .leaf (some F288) .leaf) none .leaf) (some F96) (.node .leaf (some F224) .leaf))) none (.node (.node (.node (.node .leaf (some F272) .leaf) none .leaf) none .leaf) none (.node (.node .leaf (some F176) .leaf) (some F112) (.node .leaf (some F240) .leaf)))) none (.node (.node (.node (.node (.node .leaf (some F264) .leaf) (some F136) .leaf) none (.node .leaf (some F200) .leaf)) (some F40) (.node (.node (.node .leaf (some F296) .leaf) (some F168) .leaf) (some F104) (.node .leaf (some F232) .leaf))) none (.node (.node (.node .leaf (some F152) .leaf) (some F88) (.node .leaf (some F216) .leaf)) (some F56) (.node (.node .leaf (some F184) .leaf) (some F120) .leaf)))) none (.node (.node (.node .leaf (some F36) (.node (.node (.node .leaf (some F292) .leaf) none .leaf) (some F100) (.node .leaf (some F228) .leaf))) (some F20) (.node (.node (.node .leaf (some F148) .leaf) none .leaf) none (.node (.node .leaf (some F180) .leaf) none (.node .leaf (some F244) .leaf)))) none (.node (.node (.node (.node .leaf (some F140) .leaf) (some F76) .leaf) (some F44) (.node (.node (.node .leaf (some F300) .leaf) (some F172) .leaf) (some F108) (.node .leaf (some F236) .leaf))) (some F28) (.node (.node (.node (.node .leaf (some F284) .leaf) none .leaf) (some F92) .leaf) none (.node (.node .leaf (some F188) .leaf) (some F124) .leaf))))) none (.node (.node (.node (.node (.node .leaf none (.node .leaf (some F194) .leaf)) (some F34) (.node (.node (.node .leaf (some F290) .leaf) (some F162) .leaf) none (.node .leaf (some F226) .leaf))) (some F18) (.node (.node (.node (.node .leaf (some F274) .leaf) none .leaf) none .leaf) none (.node (.node .leaf (some F178) .leaf) (some F114) (.node .leaf (some F242) .leaf)))) none (.node (.node (.node (.node (.node .leaf (some F266) .leaf) (some F138) .leaf) none (.node .leaf (some F202) .leaf)) (some F42) (.node (.node (.node .leaf (some F298) .leaf) (some F170) .leaf) (some F106) (.node .leaf (some F234) .leaf))) none (.node (.node .leaf (some F90) .leaf) (some F58) (.node (.node .leaf (some F186) .leaf) (some F122) .leaf)))) (some F6) (.node (.node (.node (.node (.node .leaf (some F134) .leaf) none (.node .leaf (some F198) .leaf)) (some F38) (.node (.node .leaf (some F166) .leaf) none .leaf)) (some F22) (.node (.node (.node .leaf (some F150) .leaf) (some F86) (.node .leaf (some F214) .leaf)) none (.node (.node .leaf (some F182) .leaf) (some F118) .leaf))) none (.node (.node (.node (.node (.node .leaf (some F270) .leaf) none .leaf) none (.node .leaf (some F206) .leaf)) none (.node .leaf (some F110) (.node .leaf (some F238) .leaf))) none (.node (.node .leaf (some F94) (.node .leaf (some F222) .leaf)) (some F62) (.node (.node .leaf (some F190) .leaf) (some F126) .leaf)))))))
noncomputable def primT0 (f : FuncId) : Option (Nat → List AVal → AH → Option (AVal × AH)) :=
  bif Nat.beq f 124 then some (pBLen 180) else bif Nat.beq f 245 then some pIndexByteString else bif Nat.beq f 271 then some pCountString else bif Nat.beq f 121 then some (pWriteString 180 5) else bif Nat.beq f 220 then some (pGrow 180 5) else bif Nat.beq f 125 then some (pBString 180 5) else none


noncomputable def T0 : Tab := ⟨fnsT, primT0⟩
noncomputable def primT (f : FuncId) : Option (Nat → List AVal → AH → Option (AVal × AH)) :=
  bif Nat.beq f 17 then some pTrue else primT0 f
noncomputable def T : Tab := ⟨fnsT, primT⟩

end Go.Proofs.YtndlfkibcelhmaaGreatDoor.Ai
end
