/- The table is the loaded program. -/
import Derived.Test.YtndlfkibcelhmaaGreatDoorB0
import Derived.Test.YtndlfkibcelhmaaGreatDoorA1
import Derived.Test.YtndlfkibcelhmaaGreatDoorA0
import Derived.Test.YtndlfkibcelhmaaGreatDoorProg
import Derived.KernelRfl
set_option linter.all false
section
set_option maxRecDepth 100000
namespace Go.Proofs.YtndlfkibcelhmaaGreatDoor.Ai
open Go Go.Proofs
theorem g37 : ∃ func, Tryz.prog.funcs[37]? = some func ∧ cFunc Tryz.prog func = some F37 ∧ (func.name == "runtime.NumGoroutine") = false := ⟨Tryz.f37, Tryz.func37, by kernel_rfl, by kernel_rfl⟩
theorem g38 : ∃ func, Tryz.prog.funcs[38]? = some func ∧ cFunc Tryz.prog func = some F38 ∧ (func.name == "runtime.NumGoroutine") = false := ⟨Tryz.f38, Tryz.func38, by kernel_rfl, by kernel_rfl⟩
theorem g47 : ∃ func, Tryz.prog.funcs[47]? = some func ∧ cFunc Tryz.prog func = some F47 ∧ (func.name == "runtime.NumGoroutine") = false := ⟨Tryz.f47, Tryz.func47, by kernel_rfl, by kernel_rfl⟩
theorem g91 : ∃ func, Tryz.prog.funcs[91]? = some func ∧ cFunc Tryz.prog func = some F91 ∧ (func.name == "runtime.NumGoroutine") = false := ⟨Tryz.f91, Tryz.func91, by kernel_rfl, by kernel_rfl⟩
theorem g99 : ∃ func, Tryz.prog.funcs[99]? = some func ∧ cFunc Tryz.prog func = some F99 ∧ (func.name == "runtime.NumGoroutine") = false := ⟨Tryz.f99, Tryz.func99, by kernel_rfl, by kernel_rfl⟩
theorem g111 : ∃ func, Tryz.prog.funcs[111]? = some func ∧ cFunc Tryz.prog func = some F111 ∧ (func.name == "runtime.NumGoroutine") = false := ⟨Tryz.f111, Tryz.func111, by kernel_rfl, by kernel_rfl⟩
theorem g115 : ∃ func, Tryz.prog.funcs[115]? = some func ∧ cFunc Tryz.prog func = some F115 ∧ (func.name == "runtime.NumGoroutine") = false := ⟨Tryz.f115, Tryz.func115, by kernel_rfl, by kernel_rfl⟩
theorem g127 : ∃ func, Tryz.prog.funcs[127]? = some func ∧ cFunc Tryz.prog func = some F127 ∧ (func.name == "runtime.NumGoroutine") = false := ⟨Tryz.f127, Tryz.func127, by kernel_rfl, by kernel_rfl⟩
theorem g137 : ∃ func, Tryz.prog.funcs[137]? = some func ∧ cFunc Tryz.prog func = some F137 ∧ (func.name == "runtime.NumGoroutine") = false := ⟨Tryz.f137, Tryz.func137, by kernel_rfl, by kernel_rfl⟩
theorem g162 : ∃ func, Tryz.prog.funcs[162]? = some func ∧ cFunc Tryz.prog func = some F162 ∧ (func.name == "runtime.NumGoroutine") = false := ⟨Tryz.f162, Tryz.func162, by kernel_rfl, by kernel_rfl⟩
theorem g165 : ∃ func, Tryz.prog.funcs[165]? = some func ∧ cFunc Tryz.prog func = some F165 ∧ (func.name == "runtime.NumGoroutine") = false := ⟨Tryz.f165, Tryz.func165, by kernel_rfl, by kernel_rfl⟩
theorem g172 : ∃ func, Tryz.prog.funcs[172]? = some func ∧ cFunc Tryz.prog func = some F172 ∧ (func.name == "runtime.NumGoroutine") = false := ⟨Tryz.f172, Tryz.func172, by kernel_rfl, by kernel_rfl⟩
theorem g177 : ∃ func, Tryz.prog.funcs[177]? = some func ∧ cFunc Tryz.prog func = some F177 ∧ (func.name == "runtime.NumGoroutine") = false := ⟨Tryz.f177, Tryz.func177, by kernel_rfl, by kernel_rfl⟩
theorem g180 : ∃ func, Tryz.prog.funcs[180]? = some func ∧ cFunc Tryz.prog func = some F180 ∧ (func.name == "runtime.NumGoroutine") = false := ⟨Tryz.f180, Tryz.func180, by kernel_rfl, by kernel_rfl⟩
theorem g181 : ∃ func, Tryz.prog.funcs[181]? = some func ∧ cFunc Tryz.prog func = some F181 ∧ (func.name == "runtime.NumGoroutine") = false := ⟨Tryz.f181, Tryz.func181, by kernel_rfl, by kernel_rfl⟩
theorem g185 : ∃ func, Tryz.prog.funcs[185]? = some func ∧ cFunc Tryz.prog func = some F185 ∧ (func.name == "runtime.NumGoroutine") = false := ⟨Tryz.f185, Tryz.func185, by kernel_rfl, by kernel_rfl⟩
theorem g201 : ∃ func, Tryz.prog.funcs[201]? = some func ∧ cFunc Tryz.prog func = some F201 ∧ (func.name == "runtime.NumGoroutine") = false := ⟨Tryz.f201, Tryz.func201, by kernel_rfl, by kernel_rfl⟩
theorem g207 : ∃ func, Tryz.prog.funcs[207]? = some func ∧ cFunc Tryz.prog func = some F207 ∧ (func.name == "runtime.NumGoroutine") = false := ⟨Tryz.f207, Tryz.func207, by kernel_rfl, by kernel_rfl⟩
theorem g214 : ∃ func, Tryz.prog.funcs[214]? = some func ∧ cFunc Tryz.prog func = some F214 ∧ (func.name == "runtime.NumGoroutine") = false := ⟨Tryz.f214, Tryz.func214, by kernel_rfl, by kernel_rfl⟩
theorem g227 : ∃ func, Tryz.prog.funcs[227]? = some func ∧ cFunc Tryz.prog func = some F227 ∧ (func.name == "runtime.NumGoroutine") = false := ⟨Tryz.f227, Tryz.func227, by kernel_rfl, by kernel_rfl⟩
theorem g228 : ∃ func, Tryz.prog.funcs[228]? = some func ∧ cFunc Tryz.prog func = some F228 ∧ (func.name == "runtime.NumGoroutine") = false := ⟨Tryz.f228, Tryz.func228, by kernel_rfl, by kernel_rfl⟩
theorem g232 : ∃ func, Tryz.prog.funcs[232]? = some func ∧ cFunc Tryz.prog func = some F232 ∧ (func.name == "runtime.NumGoroutine") = false := ⟨Tryz.f232, Tryz.func232, by kernel_rfl, by kernel_rfl⟩
theorem g299 : ∃ func, Tryz.prog.funcs[299]? = some func ∧ cFunc Tryz.prog func = some F299 ∧ (func.name == "runtime.NumGoroutine") = false := ⟨Tryz.f299, Tryz.func299, by kernel_rfl, by kernel_rfl⟩
end Go.Proofs.YtndlfkibcelhmaaGreatDoor.Ai
end
