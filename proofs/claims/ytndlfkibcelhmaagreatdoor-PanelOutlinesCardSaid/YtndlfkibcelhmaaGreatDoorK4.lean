/- The table is the loaded program. -/
import Derived.Test.YtndlfkibcelhmaaGreatDoorB0
import Derived.Test.YtndlfkibcelhmaaGreatDoorA1
import Derived.Test.YtndlfkibcelhmaaGreatDoorA0
import Derived.Test.YtndlfkibcelhmaaGreatDoorProg
import Derived.KernelRfl
set_option linter.all false
section
set_option maxRecDepth 100000
namespace Go.Proofs.YtndlfkibcelhmaaGreatDoor.Ai
open Go Go.Proofs
theorem g28 : ∃ func, Tryz.prog.funcs[28]? = some func ∧ cFunc Tryz.prog func = some F28 ∧ (func.name == "runtime.NumGoroutine") = false := ⟨Tryz.f28, Tryz.func28, by kernel_rfl, by kernel_rfl⟩
theorem g45 : ∃ func, Tryz.prog.funcs[45]? = some func ∧ cFunc Tryz.prog func = some F45 ∧ (func.name == "runtime.NumGoroutine") = false := ⟨Tryz.f45, Tryz.func45, by kernel_rfl, by kernel_rfl⟩
theorem g58 : ∃ func, Tryz.prog.funcs[58]? = some func ∧ cFunc Tryz.prog func = some F58 ∧ (func.name == "runtime.NumGoroutine") = false := ⟨Tryz.f58, Tryz.func58, by kernel_rfl, by kernel_rfl⟩
theorem g66 : ∃ func, Tryz.prog.funcs[66]? = some func ∧ cFunc Tryz.prog func = some F66 ∧ (func.name == "runtime.NumGoroutine") = false := ⟨Tryz.f66, Tryz.func66, by kernel_rfl, by kernel_rfl⟩
theorem g67 : ∃ func, Tryz.prog.funcs[67]? = some func ∧ cFunc Tryz.prog func = some F67 ∧ (func.name == "runtime.NumGoroutine") = false := ⟨Tryz.f67, Tryz.func67, by kernel_rfl, by kernel_rfl⟩
theorem g88 : ∃ func, Tryz.prog.funcs[88]? = some func ∧ cFunc Tryz.prog func = some F88 ∧ (func.name == "runtime.NumGoroutine") = false := ⟨Tryz.f88, Tryz.func88, by kernel_rfl, by kernel_rfl⟩
theorem g91 : ∃ func, Tryz.prog.funcs[91]? = some func ∧ cFunc Tryz.prog func = some F91 ∧ (func.name == "runtime.NumGoroutine") = false := ⟨Tryz.f91, Tryz.func91, by kernel_rfl, by kernel_rfl⟩
theorem g96 : ∃ func, Tryz.prog.funcs[96]? = some func ∧ cFunc Tryz.prog func = some F96 ∧ (func.name == "runtime.NumGoroutine") = false := ⟨Tryz.f96, Tryz.func96, by kernel_rfl, by kernel_rfl⟩
theorem g99 : ∃ func, Tryz.prog.funcs[99]? = some func ∧ cFunc Tryz.prog func = some F99 ∧ (func.name == "runtime.NumGoroutine") = false := ⟨Tryz.f99, Tryz.func99, by kernel_rfl, by kernel_rfl⟩
theorem g107 : ∃ func, Tryz.prog.funcs[107]? = some func ∧ cFunc Tryz.prog func = some F107 ∧ (func.name == "runtime.NumGoroutine") = false := ⟨Tryz.f107, Tryz.func107, by kernel_rfl, by kernel_rfl⟩
theorem g111 : ∃ func, Tryz.prog.funcs[111]? = some func ∧ cFunc Tryz.prog func = some F111 ∧ (func.name == "runtime.NumGoroutine") = false := ⟨Tryz.f111, Tryz.func111, by kernel_rfl, by kernel_rfl⟩
theorem g126 : ∃ func, Tryz.prog.funcs[126]? = some func ∧ cFunc Tryz.prog func = some F126 ∧ (func.name == "runtime.NumGoroutine") = false := ⟨Tryz.f126, Tryz.func126, by kernel_rfl, by kernel_rfl⟩
theorem g162 : ∃ func, Tryz.prog.funcs[162]? = some func ∧ cFunc Tryz.prog func = some F162 ∧ (func.name == "runtime.NumGoroutine") = false := ⟨Tryz.f162, Tryz.func162, by kernel_rfl, by kernel_rfl⟩
theorem g168 : ∃ func, Tryz.prog.funcs[168]? = some func ∧ cFunc Tryz.prog func = some F168 ∧ (func.name == "runtime.NumGoroutine") = false := ⟨Tryz.f168, Tryz.func168, by kernel_rfl, by kernel_rfl⟩
theorem g169 : ∃ func, Tryz.prog.funcs[169]? = some func ∧ cFunc Tryz.prog func = some F169 ∧ (func.name == "runtime.NumGoroutine") = false := ⟨Tryz.f169, Tryz.func169, by kernel_rfl, by kernel_rfl⟩
theorem g172 : ∃ func, Tryz.prog.funcs[172]? = some func ∧ cFunc Tryz.prog func = some F172 ∧ (func.name == "runtime.NumGoroutine") = false := ⟨Tryz.f172, Tryz.func172, by kernel_rfl, by kernel_rfl⟩
theorem g180 : ∃ func, Tryz.prog.funcs[180]? = some func ∧ cFunc Tryz.prog func = some F180 ∧ (func.name == "runtime.NumGoroutine") = false := ⟨Tryz.f180, Tryz.func180, by kernel_rfl, by kernel_rfl⟩
theorem g192 : ∃ func, Tryz.prog.funcs[192]? = some func ∧ cFunc Tryz.prog func = some F192 ∧ (func.name == "runtime.NumGoroutine") = false := ⟨Tryz.f192, Tryz.func192, by kernel_rfl, by kernel_rfl⟩
theorem g193 : ∃ func, Tryz.prog.funcs[193]? = some func ∧ cFunc Tryz.prog func = some F193 ∧ (func.name == "runtime.NumGoroutine") = false := ⟨Tryz.f193, Tryz.func193, by kernel_rfl, by kernel_rfl⟩
theorem g267 : ∃ func, Tryz.prog.funcs[267]? = some func ∧ cFunc Tryz.prog func = some F267 ∧ (func.name == "runtime.NumGoroutine") = false := ⟨Tryz.f267, Tryz.func267, by kernel_rfl, by kernel_rfl⟩
theorem g292 : ∃ func, Tryz.prog.funcs[292]? = some func ∧ cFunc Tryz.prog func = some F292 ∧ (func.name == "runtime.NumGoroutine") = false := ⟨Tryz.f292, Tryz.func292, by kernel_rfl, by kernel_rfl⟩
theorem g299 : ∃ func, Tryz.prog.funcs[299]? = some func ∧ cFunc Tryz.prog func = some F299 ∧ (func.name == "runtime.NumGoroutine") = false := ⟨Tryz.f299, Tryz.func299, by kernel_rfl, by kernel_rfl⟩
end Go.Proofs.YtndlfkibcelhmaaGreatDoor.Ai
end
