/- The table is the loaded program. -/
import Derived.Test.YtndlfkibcelhmaaGreatDoorB0
import Derived.Test.YtndlfkibcelhmaaGreatDoorA1
import Derived.Test.YtndlfkibcelhmaaGreatDoorA0
import Derived.Test.YtndlfkibcelhmaaGreatDoorProg
import Derived.KernelRfl
set_option linter.all false
section
set_option maxRecDepth 100000
namespace Go.Proofs.YtndlfkibcelhmaaGreatDoor.Ai
open Go Go.Proofs
theorem g17 : ∃ func, Tryz.prog.funcs[17]? = some func ∧ cFunc Tryz.prog func = some F17 ∧ (func.name == "runtime.NumGoroutine") = false := ⟨Tryz.f17, Tryz.func17, by kernel_rfl, by kernel_rfl⟩
theorem g20 : ∃ func, Tryz.prog.funcs[20]? = some func ∧ cFunc Tryz.prog func = some F20 ∧ (func.name == "runtime.NumGoroutine") = false := ⟨Tryz.f20, Tryz.func20, by kernel_rfl, by kernel_rfl⟩
theorem g25 : ∃ func, Tryz.prog.funcs[25]? = some func ∧ cFunc Tryz.prog func = some F25 ∧ (func.name == "runtime.NumGoroutine") = false := ⟨Tryz.f25, Tryz.func25, by kernel_rfl, by kernel_rfl⟩
theorem g36 : ∃ func, Tryz.prog.funcs[36]? = some func ∧ cFunc Tryz.prog func = some F36 ∧ (func.name == "runtime.NumGoroutine") = false := ⟨Tryz.f36, Tryz.func36, by kernel_rfl, by kernel_rfl⟩
theorem g45 : ∃ func, Tryz.prog.funcs[45]? = some func ∧ cFunc Tryz.prog func = some F45 ∧ (func.name == "runtime.NumGoroutine") = false := ⟨Tryz.f45, Tryz.func45, by kernel_rfl, by kernel_rfl⟩
theorem g108 : ∃ func, Tryz.prog.funcs[108]? = some func ∧ cFunc Tryz.prog func = some F108 ∧ (func.name == "runtime.NumGoroutine") = false := ⟨Tryz.f108, Tryz.func108, by kernel_rfl, by kernel_rfl⟩
theorem g114 : ∃ func, Tryz.prog.funcs[114]? = some func ∧ cFunc Tryz.prog func = some F114 ∧ (func.name == "runtime.NumGoroutine") = false := ⟨Tryz.f114, Tryz.func114, by kernel_rfl, by kernel_rfl⟩
theorem g124 : ∃ func, Tryz.prog.funcs[124]? = some func ∧ cFunc Tryz.prog func = some F124 ∧ (func.name == "runtime.NumGoroutine") = false := ⟨Tryz.f124, Tryz.func124, by kernel_rfl, by kernel_rfl⟩
theorem g145 : ∃ func, Tryz.prog.funcs[145]? = some func ∧ cFunc Tryz.prog func = some F145 ∧ (func.name == "runtime.NumGoroutine") = false := ⟨Tryz.f145, Tryz.func145, by kernel_rfl, by kernel_rfl⟩
theorem g166 : ∃ func, Tryz.prog.funcs[166]? = some func ∧ cFunc Tryz.prog func = some F166 ∧ (func.name == "runtime.NumGoroutine") = false := ⟨Tryz.f166, Tryz.func166, by kernel_rfl, by kernel_rfl⟩
theorem g176 : ∃ func, Tryz.prog.funcs[176]? = some func ∧ cFunc Tryz.prog func = some F176 ∧ (func.name == "runtime.NumGoroutine") = false := ⟨Tryz.f176, Tryz.func176, by kernel_rfl, by kernel_rfl⟩
theorem g178 : ∃ func, Tryz.prog.funcs[178]? = some func ∧ cFunc Tryz.prog func = some F178 ∧ (func.name == "runtime.NumGoroutine") = false := ⟨Tryz.f178, Tryz.func178, by kernel_rfl, by kernel_rfl⟩
theorem g182 : ∃ func, Tryz.prog.funcs[182]? = some func ∧ cFunc Tryz.prog func = some F182 ∧ (func.name == "runtime.NumGoroutine") = false := ⟨Tryz.f182, Tryz.func182, by kernel_rfl, by kernel_rfl⟩
theorem g201 : ∃ func, Tryz.prog.funcs[201]? = some func ∧ cFunc Tryz.prog func = some F201 ∧ (func.name == "runtime.NumGoroutine") = false := ⟨Tryz.f201, Tryz.func201, by kernel_rfl, by kernel_rfl⟩
theorem g214 : ∃ func, Tryz.prog.funcs[214]? = some func ∧ cFunc Tryz.prog func = some F214 ∧ (func.name == "runtime.NumGoroutine") = false := ⟨Tryz.f214, Tryz.func214, by kernel_rfl, by kernel_rfl⟩
theorem g215 : ∃ func, Tryz.prog.funcs[215]? = some func ∧ cFunc Tryz.prog func = some F215 ∧ (func.name == "runtime.NumGoroutine") = false := ⟨Tryz.f215, Tryz.func215, by kernel_rfl, by kernel_rfl⟩
theorem g240 : ∃ func, Tryz.prog.funcs[240]? = some func ∧ cFunc Tryz.prog func = some F240 ∧ (func.name == "runtime.NumGoroutine") = false := ⟨Tryz.f240, Tryz.func240, by kernel_rfl, by kernel_rfl⟩
theorem g255 : ∃ func, Tryz.prog.funcs[255]? = some func ∧ cFunc Tryz.prog func = some F255 ∧ (func.name == "runtime.NumGoroutine") = false := ⟨Tryz.f255, Tryz.func255, by kernel_rfl, by kernel_rfl⟩
theorem g267 : ∃ func, Tryz.prog.funcs[267]? = some func ∧ cFunc Tryz.prog func = some F267 ∧ (func.name == "runtime.NumGoroutine") = false := ⟨Tryz.f267, Tryz.func267, by kernel_rfl, by kernel_rfl⟩
theorem g292 : ∃ func, Tryz.prog.funcs[292]? = some func ∧ cFunc Tryz.prog func = some F292 ∧ (func.name == "runtime.NumGoroutine") = false := ⟨Tryz.f292, Tryz.func292, by kernel_rfl, by kernel_rfl⟩
end Go.Proofs.YtndlfkibcelhmaaGreatDoor.Ai
end
