/- The table is the loaded program. -/
import Derived.Test.YtndlfkibcelhmaaGreatDoorB1
import Derived.Test.YtndlfkibcelhmaaGreatDoorA1
import Derived.Test.YtndlfkibcelhmaaGreatDoorA0
import Derived.Test.YtndlfkibcelhmaaGreatDoorProg
import Derived.KernelRfl
set_option linter.all false
section
set_option maxRecDepth 100000
namespace Go.Proofs.YtndlfkibcelhmaaGreatDoor.Ai
open Go Go.Proofs
theorem g25 : ∃ func, Tryz.prog.funcs[25]? = some func ∧ cFunc Tryz.prog func = some F25 ∧ (func.name == "runtime.NumGoroutine") = false := ⟨Tryz.f25, Tryz.func25, by kernel_rfl, by kernel_rfl⟩
theorem g42 : ∃ func, Tryz.prog.funcs[42]? = some func ∧ cFunc Tryz.prog func = some F42 ∧ (func.name == "runtime.NumGoroutine") = false := ⟨Tryz.f42, Tryz.func42, by kernel_rfl, by kernel_rfl⟩
theorem g76 : ∃ func, Tryz.prog.funcs[76]? = some func ∧ cFunc Tryz.prog func = some F76 ∧ (func.name == "runtime.NumGoroutine") = false := ⟨Tryz.f76, Tryz.func76, by kernel_rfl, by kernel_rfl⟩
theorem g89 : ∃ func, Tryz.prog.funcs[89]? = some func ∧ cFunc Tryz.prog func = some F89 ∧ (func.name == "runtime.NumGoroutine") = false := ⟨Tryz.f89, Tryz.func89, by kernel_rfl, by kernel_rfl⟩
theorem g92 : ∃ func, Tryz.prog.funcs[92]? = some func ∧ cFunc Tryz.prog func = some F92 ∧ (func.name == "runtime.NumGoroutine") = false := ⟨Tryz.f92, Tryz.func92, by kernel_rfl, by kernel_rfl⟩
theorem g95 : ∃ func, Tryz.prog.funcs[95]? = some func ∧ cFunc Tryz.prog func = some F95 ∧ (func.name == "runtime.NumGoroutine") = false := ⟨Tryz.f95, Tryz.func95, by kernel_rfl, by kernel_rfl⟩
theorem g107 : ∃ func, Tryz.prog.funcs[107]? = some func ∧ cFunc Tryz.prog func = some F107 ∧ (func.name == "runtime.NumGoroutine") = false := ⟨Tryz.f107, Tryz.func107, by kernel_rfl, by kernel_rfl⟩
theorem g110 : ∃ func, Tryz.prog.funcs[110]? = some func ∧ cFunc Tryz.prog func = some F110 ∧ (func.name == "runtime.NumGoroutine") = false := ⟨Tryz.f110, Tryz.func110, by kernel_rfl, by kernel_rfl⟩
theorem g120 : ∃ func, Tryz.prog.funcs[120]? = some func ∧ cFunc Tryz.prog func = some F120 ∧ (func.name == "runtime.NumGoroutine") = false := ⟨Tryz.f120, Tryz.func120, by kernel_rfl, by kernel_rfl⟩
theorem g152 : ∃ func, Tryz.prog.funcs[152]? = some func ∧ cFunc Tryz.prog func = some F152 ∧ (func.name == "runtime.NumGoroutine") = false := ⟨Tryz.f152, Tryz.func152, by kernel_rfl, by kernel_rfl⟩
theorem g170 : ∃ func, Tryz.prog.funcs[170]? = some func ∧ cFunc Tryz.prog func = some F170 ∧ (func.name == "runtime.NumGoroutine") = false := ⟨Tryz.f170, Tryz.func170, by kernel_rfl, by kernel_rfl⟩
theorem g194 : ∃ func, Tryz.prog.funcs[194]? = some func ∧ cFunc Tryz.prog func = some F194 ∧ (func.name == "runtime.NumGoroutine") = false := ⟨Tryz.f194, Tryz.func194, by kernel_rfl, by kernel_rfl⟩
theorem g198 : ∃ func, Tryz.prog.funcs[198]? = some func ∧ cFunc Tryz.prog func = some F198 ∧ (func.name == "runtime.NumGoroutine") = false := ⟨Tryz.f198, Tryz.func198, by kernel_rfl, by kernel_rfl⟩
theorem g237 : ∃ func, Tryz.prog.funcs[237]? = some func ∧ cFunc Tryz.prog func = some F237 ∧ (func.name == "runtime.NumGoroutine") = false := ⟨Tryz.f237, Tryz.func237, by kernel_rfl, by kernel_rfl⟩
theorem g241 : ∃ func, Tryz.prog.funcs[241]? = some func ∧ cFunc Tryz.prog func = some F241 ∧ (func.name == "runtime.NumGoroutine") = false := ⟨Tryz.f241, Tryz.func241, by kernel_rfl, by kernel_rfl⟩
theorem g269 : ∃ func, Tryz.prog.funcs[269]? = some func ∧ cFunc Tryz.prog func = some F269 ∧ (func.name == "runtime.NumGoroutine") = false := ⟨Tryz.f269, Tryz.func269, by kernel_rfl, by kernel_rfl⟩
theorem g283 : ∃ func, Tryz.prog.funcs[283]? = some func ∧ cFunc Tryz.prog func = some F283 ∧ (func.name == "runtime.NumGoroutine") = false := ⟨Tryz.f283, Tryz.func283, by kernel_rfl, by kernel_rfl⟩
theorem g299 : ∃ func, Tryz.prog.funcs[299]? = some func ∧ cFunc Tryz.prog func = some F299 ∧ (func.name == "runtime.NumGoroutine") = false := ⟨Tryz.f299, Tryz.func299, by kernel_rfl, by kernel_rfl⟩
end Go.Proofs.YtndlfkibcelhmaaGreatDoor.Ai
end
