/- The table is the loaded program. -/
import Derived.Test.YtndlfkibcelhmaaGreatDoorB0
import Derived.Test.YtndlfkibcelhmaaGreatDoorA1
import Derived.Test.YtndlfkibcelhmaaGreatDoorA0
import Derived.Test.YtndlfkibcelhmaaGreatDoorProg
import Derived.KernelRfl
set_option linter.all false
section
set_option maxRecDepth 100000
namespace Go.Proofs.YtndlfkibcelhmaaGreatDoor.Ai
open Go Go.Proofs
theorem g21 : ∃ func, Tryz.prog.funcs[21]? = some func ∧ cFunc Tryz.prog func = some F21 ∧ (func.name == "runtime.NumGoroutine") = false := ⟨Tryz.f21, Tryz.func21, by kernel_rfl, by kernel_rfl⟩
theorem g42 : ∃ func, Tryz.prog.funcs[42]? = some func ∧ cFunc Tryz.prog func = some F42 ∧ (func.name == "runtime.NumGoroutine") = false := ⟨Tryz.f42, Tryz.func42, by kernel_rfl, by kernel_rfl⟩
theorem g47 : ∃ func, Tryz.prog.funcs[47]? = some func ∧ cFunc Tryz.prog func = some F47 ∧ (func.name == "runtime.NumGoroutine") = false := ⟨Tryz.f47, Tryz.func47, by kernel_rfl, by kernel_rfl⟩
theorem g58 : ∃ func, Tryz.prog.funcs[58]? = some func ∧ cFunc Tryz.prog func = some F58 ∧ (func.name == "runtime.NumGoroutine") = false := ⟨Tryz.f58, Tryz.func58, by kernel_rfl, by kernel_rfl⟩
theorem g86 : ∃ func, Tryz.prog.funcs[86]? = some func ∧ cFunc Tryz.prog func = some F86 ∧ (func.name == "runtime.NumGoroutine") = false := ⟨Tryz.f86, Tryz.func86, by kernel_rfl, by kernel_rfl⟩
theorem g100 : ∃ func, Tryz.prog.funcs[100]? = some func ∧ cFunc Tryz.prog func = some F100 ∧ (func.name == "runtime.NumGoroutine") = false := ⟨Tryz.f100, Tryz.func100, by kernel_rfl, by kernel_rfl⟩
theorem g133 : ∃ func, Tryz.prog.funcs[133]? = some func ∧ cFunc Tryz.prog func = some F133 ∧ (func.name == "runtime.NumGoroutine") = false := ⟨Tryz.f133, Tryz.func133, by kernel_rfl, by kernel_rfl⟩
theorem g138 : ∃ func, Tryz.prog.funcs[138]? = some func ∧ cFunc Tryz.prog func = some F138 ∧ (func.name == "runtime.NumGoroutine") = false := ⟨Tryz.f138, Tryz.func138, by kernel_rfl, by kernel_rfl⟩
theorem g140 : ∃ func, Tryz.prog.funcs[140]? = some func ∧ cFunc Tryz.prog func = some F140 ∧ (func.name == "runtime.NumGoroutine") = false := ⟨Tryz.f140, Tryz.func140, by kernel_rfl, by kernel_rfl⟩
theorem g148 : ∃ func, Tryz.prog.funcs[148]? = some func ∧ cFunc Tryz.prog func = some F148 ∧ (func.name == "runtime.NumGoroutine") = false := ⟨Tryz.f148, Tryz.func148, by kernel_rfl, by kernel_rfl⟩
theorem g151 : ∃ func, Tryz.prog.funcs[151]? = some func ∧ cFunc Tryz.prog func = some F151 ∧ (func.name == "runtime.NumGoroutine") = false := ⟨Tryz.f151, Tryz.func151, by kernel_rfl, by kernel_rfl⟩
theorem g170 : ∃ func, Tryz.prog.funcs[170]? = some func ∧ cFunc Tryz.prog func = some F170 ∧ (func.name == "runtime.NumGoroutine") = false := ⟨Tryz.f170, Tryz.func170, by kernel_rfl, by kernel_rfl⟩
theorem g181 : ∃ func, Tryz.prog.funcs[181]? = some func ∧ cFunc Tryz.prog func = some F181 ∧ (func.name == "runtime.NumGoroutine") = false := ⟨Tryz.f181, Tryz.func181, by kernel_rfl, by kernel_rfl⟩
theorem g186 : ∃ func, Tryz.prog.funcs[186]? = some func ∧ cFunc Tryz.prog func = some F186 ∧ (func.name == "runtime.NumGoroutine") = false := ⟨Tryz.f186, Tryz.func186, by kernel_rfl, by kernel_rfl⟩
theorem g198 : ∃ func, Tryz.prog.funcs[198]? = some func ∧ cFunc Tryz.prog func = some F198 ∧ (func.name == "runtime.NumGoroutine") = false := ⟨Tryz.f198, Tryz.func198, by kernel_rfl, by kernel_rfl⟩
theorem g226 : ∃ func, Tryz.prog.funcs[226]? = some func ∧ cFunc Tryz.prog func = some F226 ∧ (func.name == "runtime.NumGoroutine") = false := ⟨Tryz.f226, Tryz.func226, by kernel_rfl, by kernel_rfl⟩
theorem g235 : ∃ func, Tryz.prog.funcs[235]? = some func ∧ cFunc Tryz.prog func = some F235 ∧ (func.name == "runtime.NumGoroutine") = false := ⟨Tryz.f235, Tryz.func235, by kernel_rfl, by kernel_rfl⟩
theorem g242 : ∃ func, Tryz.prog.funcs[242]? = some func ∧ cFunc Tryz.prog func = some F242 ∧ (func.name == "runtime.NumGoroutine") = false := ⟨Tryz.f242, Tryz.func242, by kernel_rfl, by kernel_rfl⟩
theorem g243 : ∃ func, Tryz.prog.funcs[243]? = some func ∧ cFunc Tryz.prog func = some F243 ∧ (func.name == "runtime.NumGoroutine") = false := ⟨Tryz.f243, Tryz.func243, by kernel_rfl, by kernel_rfl⟩
theorem g269 : ∃ func, Tryz.prog.funcs[269]? = some func ∧ cFunc Tryz.prog func = some F269 ∧ (func.name == "runtime.NumGoroutine") = false := ⟨Tryz.f269, Tryz.func269, by kernel_rfl, by kernel_rfl⟩
theorem g272 : ∃ func, Tryz.prog.funcs[272]? = some func ∧ cFunc Tryz.prog func = some F272 ∧ (func.name == "runtime.NumGoroutine") = false := ⟨Tryz.f272, Tryz.func272, by kernel_rfl, by kernel_rfl⟩
theorem g284 : ∃ func, Tryz.prog.funcs[284]? = some func ∧ cFunc Tryz.prog func = some F284 ∧ (func.name == "runtime.NumGoroutine") = false := ⟨Tryz.f284, Tryz.func284, by kernel_rfl, by kernel_rfl⟩
end Go.Proofs.YtndlfkibcelhmaaGreatDoor.Ai
end
