/- The table is the loaded program. -/
import Derived.Test.YtndlfkibcelhmaaGreatDoorB0
import Derived.Test.YtndlfkibcelhmaaGreatDoorA1
import Derived.Test.YtndlfkibcelhmaaGreatDoorA0
import Derived.Test.YtndlfkibcelhmaaGreatDoorProg
import Derived.KernelRfl
set_option linter.all false
section
set_option maxRecDepth 100000
namespace Go.Proofs.YtndlfkibcelhmaaGreatDoor.Ai
open Go Go.Proofs
theorem g20 : ∃ func, Tryz.prog.funcs[20]? = some func ∧ cFunc Tryz.prog func = some F20 ∧ (func.name == "runtime.NumGoroutine") = false := ⟨Tryz.f20, Tryz.func20, by kernel_rfl, by kernel_rfl⟩
theorem g22 : ∃ func, Tryz.prog.funcs[22]? = some func ∧ cFunc Tryz.prog func = some F22 ∧ (func.name == "runtime.NumGoroutine") = false := ⟨Tryz.f22, Tryz.func22, by kernel_rfl, by kernel_rfl⟩
theorem g36 : ∃ func, Tryz.prog.funcs[36]? = some func ∧ cFunc Tryz.prog func = some F36 ∧ (func.name == "runtime.NumGoroutine") = false := ⟨Tryz.f36, Tryz.func36, by kernel_rfl, by kernel_rfl⟩
theorem g45 : ∃ func, Tryz.prog.funcs[45]? = some func ∧ cFunc Tryz.prog func = some F45 ∧ (func.name == "runtime.NumGoroutine") = false := ⟨Tryz.f45, Tryz.func45, by kernel_rfl, by kernel_rfl⟩
theorem g61 : ∃ func, Tryz.prog.funcs[61]? = some func ∧ cFunc Tryz.prog func = some F61 ∧ (func.name == "runtime.NumGoroutine") = false := ⟨Tryz.f61, Tryz.func61, by kernel_rfl, by kernel_rfl⟩
theorem g76 : ∃ func, Tryz.prog.funcs[76]? = some func ∧ cFunc Tryz.prog func = some F76 ∧ (func.name == "runtime.NumGoroutine") = false := ⟨Tryz.f76, Tryz.func76, by kernel_rfl, by kernel_rfl⟩
theorem g87 : ∃ func, Tryz.prog.funcs[87]? = some func ∧ cFunc Tryz.prog func = some F87 ∧ (func.name == "runtime.NumGoroutine") = false := ⟨Tryz.f87, Tryz.func87, by kernel_rfl, by kernel_rfl⟩
theorem g89 : ∃ func, Tryz.prog.funcs[89]? = some func ∧ cFunc Tryz.prog func = some F89 ∧ (func.name == "runtime.NumGoroutine") = false := ⟨Tryz.f89, Tryz.func89, by kernel_rfl, by kernel_rfl⟩
theorem g95 : ∃ func, Tryz.prog.funcs[95]? = some func ∧ cFunc Tryz.prog func = some F95 ∧ (func.name == "runtime.NumGoroutine") = false := ⟨Tryz.f95, Tryz.func95, by kernel_rfl, by kernel_rfl⟩
theorem g135 : ∃ func, Tryz.prog.funcs[135]? = some func ∧ cFunc Tryz.prog func = some F135 ∧ (func.name == "runtime.NumGoroutine") = false := ⟨Tryz.f135, Tryz.func135, by kernel_rfl, by kernel_rfl⟩
theorem g152 : ∃ func, Tryz.prog.funcs[152]? = some func ∧ cFunc Tryz.prog func = some F152 ∧ (func.name == "runtime.NumGoroutine") = false := ⟨Tryz.f152, Tryz.func152, by kernel_rfl, by kernel_rfl⟩
theorem g168 : ∃ func, Tryz.prog.funcs[168]? = some func ∧ cFunc Tryz.prog func = some F168 ∧ (func.name == "runtime.NumGoroutine") = false := ⟨Tryz.f168, Tryz.func168, by kernel_rfl, by kernel_rfl⟩
theorem g202 : ∃ func, Tryz.prog.funcs[202]? = some func ∧ cFunc Tryz.prog func = some F202 ∧ (func.name == "runtime.NumGoroutine") = false := ⟨Tryz.f202, Tryz.func202, by kernel_rfl, by kernel_rfl⟩
theorem g216 : ∃ func, Tryz.prog.funcs[216]? = some func ∧ cFunc Tryz.prog func = some F216 ∧ (func.name == "runtime.NumGoroutine") = false := ⟨Tryz.f216, Tryz.func216, by kernel_rfl, by kernel_rfl⟩
theorem g226 : ∃ func, Tryz.prog.funcs[226]? = some func ∧ cFunc Tryz.prog func = some F226 ∧ (func.name == "runtime.NumGoroutine") = false := ⟨Tryz.f226, Tryz.func226, by kernel_rfl, by kernel_rfl⟩
theorem g234 : ∃ func, Tryz.prog.funcs[234]? = some func ∧ cFunc Tryz.prog func = some F234 ∧ (func.name == "runtime.NumGoroutine") = false := ⟨Tryz.f234, Tryz.func234, by kernel_rfl, by kernel_rfl⟩
theorem g238 : ∃ func, Tryz.prog.funcs[238]? = some func ∧ cFunc Tryz.prog func = some F238 ∧ (func.name == "runtime.NumGoroutine") = false := ⟨Tryz.f238, Tryz.func238, by kernel_rfl, by kernel_rfl⟩
theorem g273 : ∃ func, Tryz.prog.funcs[273]? = some func ∧ cFunc Tryz.prog func = some F273 ∧ (func.name == "runtime.NumGoroutine") = false := ⟨Tryz.f273, Tryz.func273, by kernel_rfl, by kernel_rfl⟩
theorem g274 : ∃ func, Tryz.prog.funcs[274]? = some func ∧ cFunc Tryz.prog func = some F274 ∧ (func.name == "runtime.NumGoroutine") = false := ⟨Tryz.f274, Tryz.func274, by kernel_rfl, by kernel_rfl⟩
theorem g287 : ∃ func, Tryz.prog.funcs[287]? = some func ∧ cFunc Tryz.prog func = some F287 ∧ (func.name == "runtime.NumGoroutine") = false := ⟨Tryz.f287, Tryz.func287, by kernel_rfl, by kernel_rfl⟩
theorem g291 : ∃ func, Tryz.prog.funcs[291]? = some func ∧ cFunc Tryz.prog func = some F291 ∧ (func.name == "runtime.NumGoroutine") = false := ⟨Tryz.f291, Tryz.func291, by kernel_rfl, by kernel_rfl⟩
theorem g292 : ∃ func, Tryz.prog.funcs[292]? = some func ∧ cFunc Tryz.prog func = some F292 ∧ (func.name == "runtime.NumGoroutine") = false := ⟨Tryz.f292, Tryz.func292, by kernel_rfl, by kernel_rfl⟩
end Go.Proofs.YtndlfkibcelhmaaGreatDoor.Ai
end
