/- The table is the loaded program. -/
import Derived.Test.YtndlfkibcelhmaaGreatDoorB0
import Derived.Test.YtndlfkibcelhmaaGreatDoorA1
import Derived.Test.YtndlfkibcelhmaaGreatDoorA0
import Derived.Test.YtndlfkibcelhmaaGreatDoorProg
import Derived.KernelRfl
set_option linter.all false
section
set_option maxRecDepth 100000
namespace Go.Proofs.YtndlfkibcelhmaaGreatDoor.Ai
open Go Go.Proofs
theorem g19 : ∃ func, Tryz.prog.funcs[19]? = some func ∧ cFunc Tryz.prog func = some F19 ∧ (func.name == "runtime.NumGoroutine") = false := ⟨Tryz.f19, Tryz.func19, by kernel_rfl, by kernel_rfl⟩
theorem g31 : ∃ func, Tryz.prog.funcs[31]? = some func ∧ cFunc Tryz.prog func = some F31 ∧ (func.name == "runtime.NumGoroutine") = false := ⟨Tryz.f31, Tryz.func31, by kernel_rfl, by kernel_rfl⟩
theorem g35 : ∃ func, Tryz.prog.funcs[35]? = some func ∧ cFunc Tryz.prog func = some F35 ∧ (func.name == "runtime.NumGoroutine") = false := ⟨Tryz.f35, Tryz.func35, by kernel_rfl, by kernel_rfl⟩
theorem g44 : ∃ func, Tryz.prog.funcs[44]? = some func ∧ cFunc Tryz.prog func = some F44 ∧ (func.name == "runtime.NumGoroutine") = false := ⟨Tryz.f44, Tryz.func44, by kernel_rfl, by kernel_rfl⟩
theorem g56 : ∃ func, Tryz.prog.funcs[56]? = some func ∧ cFunc Tryz.prog func = some F56 ∧ (func.name == "runtime.NumGoroutine") = false := ⟨Tryz.f56, Tryz.func56, by kernel_rfl, by kernel_rfl⟩
theorem g62 : ∃ func, Tryz.prog.funcs[62]? = some func ∧ cFunc Tryz.prog func = some F62 ∧ (func.name == "runtime.NumGoroutine") = false := ⟨Tryz.f62, Tryz.func62, by kernel_rfl, by kernel_rfl⟩
theorem g96 : ∃ func, Tryz.prog.funcs[96]? = some func ∧ cFunc Tryz.prog func = some F96 ∧ (func.name == "runtime.NumGoroutine") = false := ⟨Tryz.f96, Tryz.func96, by kernel_rfl, by kernel_rfl⟩
theorem g99 : ∃ func, Tryz.prog.funcs[99]? = some func ∧ cFunc Tryz.prog func = some F99 ∧ (func.name == "runtime.NumGoroutine") = false := ⟨Tryz.f99, Tryz.func99, by kernel_rfl, by kernel_rfl⟩
theorem g118 : ∃ func, Tryz.prog.funcs[118]? = some func ∧ cFunc Tryz.prog func = some F118 ∧ (func.name == "runtime.NumGoroutine") = false := ⟨Tryz.f118, Tryz.func118, by kernel_rfl, by kernel_rfl⟩
theorem g150 : ∃ func, Tryz.prog.funcs[150]? = some func ∧ cFunc Tryz.prog func = some F150 ∧ (func.name == "runtime.NumGoroutine") = false := ⟨Tryz.f150, Tryz.func150, by kernel_rfl, by kernel_rfl⟩
theorem g163 : ∃ func, Tryz.prog.funcs[163]? = some func ∧ cFunc Tryz.prog func = some F163 ∧ (func.name == "runtime.NumGoroutine") = false := ⟨Tryz.f163, Tryz.func163, by kernel_rfl, by kernel_rfl⟩
theorem g169 : ∃ func, Tryz.prog.funcs[169]? = some func ∧ cFunc Tryz.prog func = some F169 ∧ (func.name == "runtime.NumGoroutine") = false := ⟨Tryz.f169, Tryz.func169, by kernel_rfl, by kernel_rfl⟩
theorem g177 : ∃ func, Tryz.prog.funcs[177]? = some func ∧ cFunc Tryz.prog func = some F177 ∧ (func.name == "runtime.NumGoroutine") = false := ⟨Tryz.f177, Tryz.func177, by kernel_rfl, by kernel_rfl⟩
theorem g184 : ∃ func, Tryz.prog.funcs[184]? = some func ∧ cFunc Tryz.prog func = some F184 ∧ (func.name == "runtime.NumGoroutine") = false := ⟨Tryz.f184, Tryz.func184, by kernel_rfl, by kernel_rfl⟩
theorem g185 : ∃ func, Tryz.prog.funcs[185]? = some func ∧ cFunc Tryz.prog func = some F185 ∧ (func.name == "runtime.NumGoroutine") = false := ⟨Tryz.f185, Tryz.func185, by kernel_rfl, by kernel_rfl⟩
theorem g187 : ∃ func, Tryz.prog.funcs[187]? = some func ∧ cFunc Tryz.prog func = some F187 ∧ (func.name == "runtime.NumGoroutine") = false := ⟨Tryz.f187, Tryz.func187, by kernel_rfl, by kernel_rfl⟩
theorem g194 : ∃ func, Tryz.prog.funcs[194]? = some func ∧ cFunc Tryz.prog func = some F194 ∧ (func.name == "runtime.NumGoroutine") = false := ⟨Tryz.f194, Tryz.func194, by kernel_rfl, by kernel_rfl⟩
theorem g216 : ∃ func, Tryz.prog.funcs[216]? = some func ∧ cFunc Tryz.prog func = some F216 ∧ (func.name == "runtime.NumGoroutine") = false := ⟨Tryz.f216, Tryz.func216, by kernel_rfl, by kernel_rfl⟩
theorem g221 : ∃ func, Tryz.prog.funcs[221]? = some func ∧ cFunc Tryz.prog func = some F221 ∧ (func.name == "runtime.NumGoroutine") = false := ⟨Tryz.f221, Tryz.func221, by kernel_rfl, by kernel_rfl⟩
theorem g289 : ∃ func, Tryz.prog.funcs[289]? = some func ∧ cFunc Tryz.prog func = some F289 ∧ (func.name == "runtime.NumGoroutine") = false := ⟨Tryz.f289, Tryz.func289, by kernel_rfl, by kernel_rfl⟩
theorem g290 : ∃ func, Tryz.prog.funcs[290]? = some func ∧ cFunc Tryz.prog func = some F290 ∧ (func.name == "runtime.NumGoroutine") = false := ⟨Tryz.f290, Tryz.func290, by kernel_rfl, by kernel_rfl⟩
theorem g296 : ∃ func, Tryz.prog.funcs[296]? = some func ∧ cFunc Tryz.prog func = some F296 ∧ (func.name == "runtime.NumGoroutine") = false := ⟨Tryz.f296, Tryz.func296, by kernel_rfl, by kernel_rfl⟩
end Go.Proofs.YtndlfkibcelhmaaGreatDoor.Ai
end
