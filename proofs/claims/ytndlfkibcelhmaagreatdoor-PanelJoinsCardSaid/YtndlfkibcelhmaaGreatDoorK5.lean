/- The table is the loaded program. -/
import Derived.Test.YtndlfkibcelhmaaGreatDoorB0
import Derived.Test.YtndlfkibcelhmaaGreatDoorA1
import Derived.Test.YtndlfkibcelhmaaGreatDoorA0
import Derived.Test.YtndlfkibcelhmaaGreatDoorProg
import Derived.KernelRfl
set_option linter.all false
section
set_option maxRecDepth 100000
namespace Go.Proofs.YtndlfkibcelhmaaGreatDoor.Ai
open Go Go.Proofs
theorem g18 : ∃ func, Tryz.prog.funcs[18]? = some func ∧ cFunc Tryz.prog func = some F18 ∧ (func.name == "runtime.NumGoroutine") = false := ⟨Tryz.f18, Tryz.func18, by kernel_rfl, by kernel_rfl⟩
theorem g27 : ∃ func, Tryz.prog.funcs[27]? = some func ∧ cFunc Tryz.prog func = some F27 ∧ (func.name == "runtime.NumGoroutine") = false := ⟨Tryz.f27, Tryz.func27, by kernel_rfl, by kernel_rfl⟩
theorem g34 : ∃ func, Tryz.prog.funcs[34]? = some func ∧ cFunc Tryz.prog func = some F34 ∧ (func.name == "runtime.NumGoroutine") = false := ⟨Tryz.f34, Tryz.func34, by kernel_rfl, by kernel_rfl⟩
theorem g57 : ∃ func, Tryz.prog.funcs[57]? = some func ∧ cFunc Tryz.prog func = some F57 ∧ (func.name == "runtime.NumGoroutine") = false := ⟨Tryz.f57, Tryz.func57, by kernel_rfl, by kernel_rfl⟩
theorem g89 : ∃ func, Tryz.prog.funcs[89]? = some func ∧ cFunc Tryz.prog func = some F89 ∧ (func.name == "runtime.NumGoroutine") = false := ⟨Tryz.f89, Tryz.func89, by kernel_rfl, by kernel_rfl⟩
theorem g91 : ∃ func, Tryz.prog.funcs[91]? = some func ∧ cFunc Tryz.prog func = some F91 ∧ (func.name == "runtime.NumGoroutine") = false := ⟨Tryz.f91, Tryz.func91, by kernel_rfl, by kernel_rfl⟩
theorem g93 : ∃ func, Tryz.prog.funcs[93]? = some func ∧ cFunc Tryz.prog func = some F93 ∧ (func.name == "runtime.NumGoroutine") = false := ⟨Tryz.f93, Tryz.func93, by kernel_rfl, by kernel_rfl⟩
theorem g94 : ∃ func, Tryz.prog.funcs[94]? = some func ∧ cFunc Tryz.prog func = some F94 ∧ (func.name == "runtime.NumGoroutine") = false := ⟨Tryz.f94, Tryz.func94, by kernel_rfl, by kernel_rfl⟩
theorem g110 : ∃ func, Tryz.prog.funcs[110]? = some func ∧ cFunc Tryz.prog func = some F110 ∧ (func.name == "runtime.NumGoroutine") = false := ⟨Tryz.f110, Tryz.func110, by kernel_rfl, by kernel_rfl⟩
theorem g123 : ∃ func, Tryz.prog.funcs[123]? = some func ∧ cFunc Tryz.prog func = some F123 ∧ (func.name == "runtime.NumGoroutine") = false := ⟨Tryz.f123, Tryz.func123, by kernel_rfl, by kernel_rfl⟩
theorem g126 : ∃ func, Tryz.prog.funcs[126]? = some func ∧ cFunc Tryz.prog func = some F126 ∧ (func.name == "runtime.NumGoroutine") = false := ⟨Tryz.f126, Tryz.func126, by kernel_rfl, by kernel_rfl⟩
theorem g137 : ∃ func, Tryz.prog.funcs[137]? = some func ∧ cFunc Tryz.prog func = some F137 ∧ (func.name == "runtime.NumGoroutine") = false := ⟨Tryz.f137, Tryz.func137, by kernel_rfl, by kernel_rfl⟩
theorem g175 : ∃ func, Tryz.prog.funcs[175]? = some func ∧ cFunc Tryz.prog func = some F175 ∧ (func.name == "runtime.NumGoroutine") = false := ⟨Tryz.f175, Tryz.func175, by kernel_rfl, by kernel_rfl⟩
theorem g197 : ∃ func, Tryz.prog.funcs[197]? = some func ∧ cFunc Tryz.prog func = some F197 ∧ (func.name == "runtime.NumGoroutine") = false := ⟨Tryz.f197, Tryz.func197, by kernel_rfl, by kernel_rfl⟩
theorem g213 : ∃ func, Tryz.prog.funcs[213]? = some func ∧ cFunc Tryz.prog func = some F213 ∧ (func.name == "runtime.NumGoroutine") = false := ⟨Tryz.f213, Tryz.func213, by kernel_rfl, by kernel_rfl⟩
theorem g232 : ∃ func, Tryz.prog.funcs[232]? = some func ∧ cFunc Tryz.prog func = some F232 ∧ (func.name == "runtime.NumGoroutine") = false := ⟨Tryz.f232, Tryz.func232, by kernel_rfl, by kernel_rfl⟩
theorem g234 : ∃ func, Tryz.prog.funcs[234]? = some func ∧ cFunc Tryz.prog func = some F234 ∧ (func.name == "runtime.NumGoroutine") = false := ⟨Tryz.f234, Tryz.func234, by kernel_rfl, by kernel_rfl⟩
theorem g238 : ∃ func, Tryz.prog.funcs[238]? = some func ∧ cFunc Tryz.prog func = some F238 ∧ (func.name == "runtime.NumGoroutine") = false := ⟨Tryz.f238, Tryz.func238, by kernel_rfl, by kernel_rfl⟩
theorem g264 : ∃ func, Tryz.prog.funcs[264]? = some func ∧ cFunc Tryz.prog func = some F264 ∧ (func.name == "runtime.NumGoroutine") = false := ⟨Tryz.f264, Tryz.func264, by kernel_rfl, by kernel_rfl⟩
theorem g273 : ∃ func, Tryz.prog.funcs[273]? = some func ∧ cFunc Tryz.prog func = some F273 ∧ (func.name == "runtime.NumGoroutine") = false := ⟨Tryz.f273, Tryz.func273, by kernel_rfl, by kernel_rfl⟩
theorem g293 : ∃ func, Tryz.prog.funcs[293]? = some func ∧ cFunc Tryz.prog func = some F293 ∧ (func.name == "runtime.NumGoroutine") = false := ⟨Tryz.f293, Tryz.func293, by kernel_rfl, by kernel_rfl⟩
theorem g298 : ∃ func, Tryz.prog.funcs[298]? = some func ∧ cFunc Tryz.prog func = some F298 ∧ (func.name == "runtime.NumGoroutine") = false := ⟨Tryz.f298, Tryz.func298, by kernel_rfl, by kernel_rfl⟩
end Go.Proofs.YtndlfkibcelhmaaGreatDoor.Ai
end
