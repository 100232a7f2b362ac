/- The table is the loaded program. -/
import Derived.Test.YtndlfkibcelhmaaGreatDoorB0
import Derived.Test.YtndlfkibcelhmaaGreatDoorA1
import Derived.Test.YtndlfkibcelhmaaGreatDoorA0
import Derived.Test.YtndlfkibcelhmaaGreatDoorProg
import Derived.KernelRfl
set_option linter.all false
section
set_option maxRecDepth 100000
namespace Go.Proofs.YtndlfkibcelhmaaGreatDoor.Ai
open Go Go.Proofs
theorem g32 : ∃ func, Tryz.prog.funcs[32]? = some func ∧ cFunc Tryz.prog func = some F32 ∧ (func.name == "runtime.NumGoroutine") = false := ⟨Tryz.f32, Tryz.func32, by kernel_rfl, by kernel_rfl⟩
theorem g36 : ∃ func, Tryz.prog.funcs[36]? = some func ∧ cFunc Tryz.prog func = some F36 ∧ (func.name == "runtime.NumGoroutine") = false := ⟨Tryz.f36, Tryz.func36, by kernel_rfl, by kernel_rfl⟩
theorem g42 : ∃ func, Tryz.prog.funcs[42]? = some func ∧ cFunc Tryz.prog func = some F42 ∧ (func.name == "runtime.NumGoroutine") = false := ⟨Tryz.f42, Tryz.func42, by kernel_rfl, by kernel_rfl⟩
theorem g60 : ∃ func, Tryz.prog.funcs[60]? = some func ∧ cFunc Tryz.prog func = some F60 ∧ (func.name == "runtime.NumGoroutine") = false := ⟨Tryz.f60, Tryz.func60, by kernel_rfl, by kernel_rfl⟩
theorem g63 : ∃ func, Tryz.prog.funcs[63]? = some func ∧ cFunc Tryz.prog func = some F63 ∧ (func.name == "runtime.NumGoroutine") = false := ⟨Tryz.f63, Tryz.func63, by kernel_rfl, by kernel_rfl⟩
theorem g87 : ∃ func, Tryz.prog.funcs[87]? = some func ∧ cFunc Tryz.prog func = some F87 ∧ (func.name == "runtime.NumGoroutine") = false := ⟨Tryz.f87, Tryz.func87, by kernel_rfl, by kernel_rfl⟩
theorem g95 : ∃ func, Tryz.prog.funcs[95]? = some func ∧ cFunc Tryz.prog func = some F95 ∧ (func.name == "runtime.NumGoroutine") = false := ⟨Tryz.f95, Tryz.func95, by kernel_rfl, by kernel_rfl⟩
theorem g115 : ∃ func, Tryz.prog.funcs[115]? = some func ∧ cFunc Tryz.prog func = some F115 ∧ (func.name == "runtime.NumGoroutine") = false := ⟨Tryz.f115, Tryz.func115, by kernel_rfl, by kernel_rfl⟩
theorem g122 : ∃ func, Tryz.prog.funcs[122]? = some func ∧ cFunc Tryz.prog func = some F122 ∧ (func.name == "runtime.NumGoroutine") = false := ⟨Tryz.f122, Tryz.func122, by kernel_rfl, by kernel_rfl⟩
theorem g150 : ∃ func, Tryz.prog.funcs[150]? = some func ∧ cFunc Tryz.prog func = some F150 ∧ (func.name == "runtime.NumGoroutine") = false := ⟨Tryz.f150, Tryz.func150, by kernel_rfl, by kernel_rfl⟩
theorem g170 : ∃ func, Tryz.prog.funcs[170]? = some func ∧ cFunc Tryz.prog func = some F170 ∧ (func.name == "runtime.NumGoroutine") = false := ⟨Tryz.f170, Tryz.func170, by kernel_rfl, by kernel_rfl⟩
theorem g176 : ∃ func, Tryz.prog.funcs[176]? = some func ∧ cFunc Tryz.prog func = some F176 ∧ (func.name == "runtime.NumGoroutine") = false := ⟨Tryz.f176, Tryz.func176, by kernel_rfl, by kernel_rfl⟩
theorem g177 : ∃ func, Tryz.prog.funcs[177]? = some func ∧ cFunc Tryz.prog func = some F177 ∧ (func.name == "runtime.NumGoroutine") = false := ⟨Tryz.f177, Tryz.func177, by kernel_rfl, by kernel_rfl⟩
theorem g182 : ∃ func, Tryz.prog.funcs[182]? = some func ∧ cFunc Tryz.prog func = some F182 ∧ (func.name == "runtime.NumGoroutine") = false := ⟨Tryz.f182, Tryz.func182, by kernel_rfl, by kernel_rfl⟩
theorem g186 : ∃ func, Tryz.prog.funcs[186]? = some func ∧ cFunc Tryz.prog func = some F186 ∧ (func.name == "runtime.NumGoroutine") = false := ⟨Tryz.f186, Tryz.func186, by kernel_rfl, by kernel_rfl⟩
theorem g191 : ∃ func, Tryz.prog.funcs[191]? = some func ∧ cFunc Tryz.prog func = some F191 ∧ (func.name == "runtime.NumGoroutine") = false := ⟨Tryz.f191, Tryz.func191, by kernel_rfl, by kernel_rfl⟩
theorem g201 : ∃ func, Tryz.prog.funcs[201]? = some func ∧ cFunc Tryz.prog func = some F201 ∧ (func.name == "runtime.NumGoroutine") = false := ⟨Tryz.f201, Tryz.func201, by kernel_rfl, by kernel_rfl⟩
theorem g227 : ∃ func, Tryz.prog.funcs[227]? = some func ∧ cFunc Tryz.prog func = some F227 ∧ (func.name == "runtime.NumGoroutine") = false := ⟨Tryz.f227, Tryz.func227, by kernel_rfl, by kernel_rfl⟩
theorem g228 : ∃ func, Tryz.prog.funcs[228]? = some func ∧ cFunc Tryz.prog func = some F228 ∧ (func.name == "runtime.NumGoroutine") = false := ⟨Tryz.f228, Tryz.func228, by kernel_rfl, by kernel_rfl⟩
theorem g293 : ∃ func, Tryz.prog.funcs[293]? = some func ∧ cFunc Tryz.prog func = some F293 ∧ (func.name == "runtime.NumGoroutine") = false := ⟨Tryz.f293, Tryz.func293, by kernel_rfl, by kernel_rfl⟩
theorem g297 : ∃ func, Tryz.prog.funcs[297]? = some func ∧ cFunc Tryz.prog func = some F297 ∧ (func.name == "runtime.NumGoroutine") = false := ⟨Tryz.f297, Tryz.func297, by kernel_rfl, by kernel_rfl⟩
theorem g298 : ∃ func, Tryz.prog.funcs[298]? = some func ∧ cFunc Tryz.prog func = some F298 ∧ (func.name == "runtime.NumGoroutine") = false := ⟨Tryz.f298, Tryz.func298, by kernel_rfl, by kernel_rfl⟩
end Go.Proofs.YtndlfkibcelhmaaGreatDoor.Ai
end
