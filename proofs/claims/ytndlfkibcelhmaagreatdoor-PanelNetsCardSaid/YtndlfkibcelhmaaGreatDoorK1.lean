/- The table is the loaded program. -/
import Derived.Test.YtndlfkibcelhmaaGreatDoorB0
import Derived.Test.YtndlfkibcelhmaaGreatDoorA1
import Derived.Test.YtndlfkibcelhmaaGreatDoorA0
import Derived.Test.YtndlfkibcelhmaaGreatDoorProg
import Derived.KernelRfl
set_option linter.all false
section
set_option maxRecDepth 100000
namespace Go.Proofs.YtndlfkibcelhmaaGreatDoor.Ai
open Go Go.Proofs
theorem g17 : ∃ func, Tryz.prog.funcs[17]? = some func ∧ cFunc Tryz.prog func = some F17 ∧ (func.name == "runtime.NumGoroutine") = false := ⟨Tryz.f17, Tryz.func17, by kernel_rfl, by kernel_rfl⟩
theorem g19 : ∃ func, Tryz.prog.funcs[19]? = some func ∧ cFunc Tryz.prog func = some F19 ∧ (func.name == "runtime.NumGoroutine") = false := ⟨Tryz.f19, Tryz.func19, by kernel_rfl, by kernel_rfl⟩
theorem g24 : ∃ func, Tryz.prog.funcs[24]? = some func ∧ cFunc Tryz.prog func = some F24 ∧ (func.name == "runtime.NumGoroutine") = false := ⟨Tryz.f24, Tryz.func24, by kernel_rfl, by kernel_rfl⟩
theorem g44 : ∃ func, Tryz.prog.funcs[44]? = some func ∧ cFunc Tryz.prog func = some F44 ∧ (func.name == "runtime.NumGoroutine") = false := ⟨Tryz.f44, Tryz.func44, by kernel_rfl, by kernel_rfl⟩
theorem g57 : ∃ func, Tryz.prog.funcs[57]? = some func ∧ cFunc Tryz.prog func = some F57 ∧ (func.name == "runtime.NumGoroutine") = false := ⟨Tryz.f57, Tryz.func57, by kernel_rfl, by kernel_rfl⟩
theorem g73 : ∃ func, Tryz.prog.funcs[73]? = some func ∧ cFunc Tryz.prog func = some F73 ∧ (func.name == "runtime.NumGoroutine") = false := ⟨Tryz.f73, Tryz.func73, by kernel_rfl, by kernel_rfl⟩
theorem g90 : ∃ func, Tryz.prog.funcs[90]? = some func ∧ cFunc Tryz.prog func = some F90 ∧ (func.name == "runtime.NumGoroutine") = false := ⟨Tryz.f90, Tryz.func90, by kernel_rfl, by kernel_rfl⟩
theorem g92 : ∃ func, Tryz.prog.funcs[92]? = some func ∧ cFunc Tryz.prog func = some F92 ∧ (func.name == "runtime.NumGoroutine") = false := ⟨Tryz.f92, Tryz.func92, by kernel_rfl, by kernel_rfl⟩
theorem g93 : ∃ func, Tryz.prog.funcs[93]? = some func ∧ cFunc Tryz.prog func = some F93 ∧ (func.name == "runtime.NumGoroutine") = false := ⟨Tryz.f93, Tryz.func93, by kernel_rfl, by kernel_rfl⟩
theorem g136 : ∃ func, Tryz.prog.funcs[136]? = some func ∧ cFunc Tryz.prog func = some F136 ∧ (func.name == "runtime.NumGoroutine") = false := ⟨Tryz.f136, Tryz.func136, by kernel_rfl, by kernel_rfl⟩
theorem g163 : ∃ func, Tryz.prog.funcs[163]? = some func ∧ cFunc Tryz.prog func = some F163 ∧ (func.name == "runtime.NumGoroutine") = false := ⟨Tryz.f163, Tryz.func163, by kernel_rfl, by kernel_rfl⟩
theorem g164 : ∃ func, Tryz.prog.funcs[164]? = some func ∧ cFunc Tryz.prog func = some F164 ∧ (func.name == "runtime.NumGoroutine") = false := ⟨Tryz.f164, Tryz.func164, by kernel_rfl, by kernel_rfl⟩
theorem g170 : ∃ func, Tryz.prog.funcs[170]? = some func ∧ cFunc Tryz.prog func = some F170 ∧ (func.name == "runtime.NumGoroutine") = false := ⟨Tryz.f170, Tryz.func170, by kernel_rfl, by kernel_rfl⟩
theorem g179 : ∃ func, Tryz.prog.funcs[179]? = some func ∧ cFunc Tryz.prog func = some F179 ∧ (func.name == "runtime.NumGoroutine") = false := ⟨Tryz.f179, Tryz.func179, by kernel_rfl, by kernel_rfl⟩
theorem g193 : ∃ func, Tryz.prog.funcs[193]? = some func ∧ cFunc Tryz.prog func = some F193 ∧ (func.name == "runtime.NumGoroutine") = false := ⟨Tryz.f193, Tryz.func193, by kernel_rfl, by kernel_rfl⟩
theorem g197 : ∃ func, Tryz.prog.funcs[197]? = some func ∧ cFunc Tryz.prog func = some F197 ∧ (func.name == "runtime.NumGoroutine") = false := ⟨Tryz.f197, Tryz.func197, by kernel_rfl, by kernel_rfl⟩
theorem g213 : ∃ func, Tryz.prog.funcs[213]? = some func ∧ cFunc Tryz.prog func = some F213 ∧ (func.name == "runtime.NumGoroutine") = false := ⟨Tryz.f213, Tryz.func213, by kernel_rfl, by kernel_rfl⟩
theorem g241 : ∃ func, Tryz.prog.funcs[241]? = some func ∧ cFunc Tryz.prog func = some F241 ∧ (func.name == "runtime.NumGoroutine") = false := ⟨Tryz.f241, Tryz.func241, by kernel_rfl, by kernel_rfl⟩
theorem g264 : ∃ func, Tryz.prog.funcs[264]? = some func ∧ cFunc Tryz.prog func = some F264 ∧ (func.name == "runtime.NumGoroutine") = false := ⟨Tryz.f264, Tryz.func264, by kernel_rfl, by kernel_rfl⟩
theorem g266 : ∃ func, Tryz.prog.funcs[266]? = some func ∧ cFunc Tryz.prog func = some F266 ∧ (func.name == "runtime.NumGoroutine") = false := ⟨Tryz.f266, Tryz.func266, by kernel_rfl, by kernel_rfl⟩
theorem g269 : ∃ func, Tryz.prog.funcs[269]? = some func ∧ cFunc Tryz.prog func = some F269 ∧ (func.name == "runtime.NumGoroutine") = false := ⟨Tryz.f269, Tryz.func269, by kernel_rfl, by kernel_rfl⟩
theorem g283 : ∃ func, Tryz.prog.funcs[283]? = some func ∧ cFunc Tryz.prog func = some F283 ∧ (func.name == "runtime.NumGoroutine") = false := ⟨Tryz.f283, Tryz.func283, by kernel_rfl, by kernel_rfl⟩
end Go.Proofs.YtndlfkibcelhmaaGreatDoor.Ai
end
