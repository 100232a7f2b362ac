/- The table is the loaded program. -/
import Derived.Test.YtndlfkibcelhmaaGreatDoorB1
import Derived.Test.YtndlfkibcelhmaaGreatDoorA1
import Derived.Test.YtndlfkibcelhmaaGreatDoorA0
import Derived.Test.YtndlfkibcelhmaaGreatDoorProg
import Derived.KernelRfl
set_option linter.all false
section
set_option maxRecDepth 100000
namespace Go.Proofs.YtndlfkibcelhmaaGreatDoor.Ai
open Go Go.Proofs
theorem g37 : ∃ func, Tryz.prog.funcs[37]? = some func ∧ cFunc Tryz.prog func = some F37 ∧ (func.name == "runtime.NumGoroutine") = false := ⟨Tryz.f37, Tryz.func37, by kernel_rfl, by kernel_rfl⟩
theorem g47 : ∃ func, Tryz.prog.funcs[47]? = some func ∧ cFunc Tryz.prog func = some F47 ∧ (func.name == "runtime.NumGoroutine") = false := ⟨Tryz.f47, Tryz.func47, by kernel_rfl, by kernel_rfl⟩
theorem g73 : ∃ func, Tryz.prog.funcs[73]? = some func ∧ cFunc Tryz.prog func = some F73 ∧ (func.name == "runtime.NumGoroutine") = false := ⟨Tryz.f73, Tryz.func73, by kernel_rfl, by kernel_rfl⟩
theorem g93 : ∃ func, Tryz.prog.funcs[93]? = some func ∧ cFunc Tryz.prog func = some F93 ∧ (func.name == "runtime.NumGoroutine") = false := ⟨Tryz.f93, Tryz.func93, by kernel_rfl, by kernel_rfl⟩
theorem g112 : ∃ func, Tryz.prog.funcs[112]? = some func ∧ cFunc Tryz.prog func = some F112 ∧ (func.name == "runtime.NumGoroutine") = false := ⟨Tryz.f112, Tryz.func112, by kernel_rfl, by kernel_rfl⟩
theorem g136 : ∃ func, Tryz.prog.funcs[136]? = some func ∧ cFunc Tryz.prog func = some F136 ∧ (func.name == "runtime.NumGoroutine") = false := ⟨Tryz.f136, Tryz.func136, by kernel_rfl, by kernel_rfl⟩
theorem g145 : ∃ func, Tryz.prog.funcs[145]? = some func ∧ cFunc Tryz.prog func = some F145 ∧ (func.name == "runtime.NumGoroutine") = false := ⟨Tryz.f145, Tryz.func145, by kernel_rfl, by kernel_rfl⟩
theorem g162 : ∃ func, Tryz.prog.funcs[162]? = some func ∧ cFunc Tryz.prog func = some F162 ∧ (func.name == "runtime.NumGoroutine") = false := ⟨Tryz.f162, Tryz.func162, by kernel_rfl, by kernel_rfl⟩
theorem g175 : ∃ func, Tryz.prog.funcs[175]? = some func ∧ cFunc Tryz.prog func = some F175 ∧ (func.name == "runtime.NumGoroutine") = false := ⟨Tryz.f175, Tryz.func175, by kernel_rfl, by kernel_rfl⟩
theorem g177 : ∃ func, Tryz.prog.funcs[177]? = some func ∧ cFunc Tryz.prog func = some F177 ∧ (func.name == "runtime.NumGoroutine") = false := ⟨Tryz.f177, Tryz.func177, by kernel_rfl, by kernel_rfl⟩
theorem g179 : ∃ func, Tryz.prog.funcs[179]? = some func ∧ cFunc Tryz.prog func = some F179 ∧ (func.name == "runtime.NumGoroutine") = false := ⟨Tryz.f179, Tryz.func179, by kernel_rfl, by kernel_rfl⟩
theorem g188 : ∃ func, Tryz.prog.funcs[188]? = some func ∧ cFunc Tryz.prog func = some F188 ∧ (func.name == "runtime.NumGoroutine") = false := ⟨Tryz.f188, Tryz.func188, by kernel_rfl, by kernel_rfl⟩
theorem g199 : ∃ func, Tryz.prog.funcs[199]? = some func ∧ cFunc Tryz.prog func = some F199 ∧ (func.name == "runtime.NumGoroutine") = false := ⟨Tryz.f199, Tryz.func199, by kernel_rfl, by kernel_rfl⟩
theorem g219 : ∃ func, Tryz.prog.funcs[219]? = some func ∧ cFunc Tryz.prog func = some F219 ∧ (func.name == "runtime.NumGoroutine") = false := ⟨Tryz.f219, Tryz.func219, by kernel_rfl, by kernel_rfl⟩
theorem g236 : ∃ func, Tryz.prog.funcs[236]? = some func ∧ cFunc Tryz.prog func = some F236 ∧ (func.name == "runtime.NumGoroutine") = false := ⟨Tryz.f236, Tryz.func236, by kernel_rfl, by kernel_rfl⟩
theorem g238 : ∃ func, Tryz.prog.funcs[238]? = some func ∧ cFunc Tryz.prog func = some F238 ∧ (func.name == "runtime.NumGoroutine") = false := ⟨Tryz.f238, Tryz.func238, by kernel_rfl, by kernel_rfl⟩
theorem g240 : ∃ func, Tryz.prog.funcs[240]? = some func ∧ cFunc Tryz.prog func = some F240 ∧ (func.name == "runtime.NumGoroutine") = false := ⟨Tryz.f240, Tryz.func240, by kernel_rfl, by kernel_rfl⟩
theorem g242 : ∃ func, Tryz.prog.funcs[242]? = some func ∧ cFunc Tryz.prog func = some F242 ∧ (func.name == "runtime.NumGoroutine") = false := ⟨Tryz.f242, Tryz.func242, by kernel_rfl, by kernel_rfl⟩
theorem g243 : ∃ func, Tryz.prog.funcs[243]? = some func ∧ cFunc Tryz.prog func = some F243 ∧ (func.name == "runtime.NumGoroutine") = false := ⟨Tryz.f243, Tryz.func243, by kernel_rfl, by kernel_rfl⟩
theorem g273 : ∃ func, Tryz.prog.funcs[273]? = some func ∧ cFunc Tryz.prog func = some F273 ∧ (func.name == "runtime.NumGoroutine") = false := ⟨Tryz.f273, Tryz.func273, by kernel_rfl, by kernel_rfl⟩
theorem g298 : ∃ func, Tryz.prog.funcs[298]? = some func ∧ cFunc Tryz.prog func = some F298 ∧ (func.name == "runtime.NumGoroutine") = false := ⟨Tryz.f298, Tryz.func298, by kernel_rfl, by kernel_rfl⟩
end Go.Proofs.YtndlfkibcelhmaaGreatDoor.Ai
end
