/- The table is the loaded program. -/
import Derived.Test.YtndlfkibcelhmaaGreatDoorB1
import Derived.Test.YtndlfkibcelhmaaGreatDoorA1
import Derived.Test.YtndlfkibcelhmaaGreatDoorA0
import Derived.Test.YtndlfkibcelhmaaGreatDoorProg
import Derived.KernelRfl
set_option linter.all false
section
set_option maxRecDepth 100000
namespace Go.Proofs.YtndlfkibcelhmaaGreatDoor.Ai
open Go Go.Proofs
theorem g18 : ∃ func, Tryz.prog.funcs[18]? = some func ∧ cFunc Tryz.prog func = some F18 ∧ (func.name == "runtime.NumGoroutine") = false := ⟨Tryz.f18, Tryz.func18, by kernel_rfl, by kernel_rfl⟩
theorem g19 : ∃ func, Tryz.prog.funcs[19]? = some func ∧ cFunc Tryz.prog func = some F19 ∧ (func.name == "runtime.NumGoroutine") = false := ⟨Tryz.f19, Tryz.func19, by kernel_rfl, by kernel_rfl⟩
theorem g38 : ∃ func, Tryz.prog.funcs[38]? = some func ∧ cFunc Tryz.prog func = some F38 ∧ (func.name == "runtime.NumGoroutine") = false := ⟨Tryz.f38, Tryz.func38, by kernel_rfl, by kernel_rfl⟩
theorem g55 : ∃ func, Tryz.prog.funcs[55]? = some func ∧ cFunc Tryz.prog func = some F55 ∧ (func.name == "runtime.NumGoroutine") = false := ⟨Tryz.f55, Tryz.func55, by kernel_rfl, by kernel_rfl⟩
theorem g62 : ∃ func, Tryz.prog.funcs[62]? = some func ∧ cFunc Tryz.prog func = some F62 ∧ (func.name == "runtime.NumGoroutine") = false := ⟨Tryz.f62, Tryz.func62, by kernel_rfl, by kernel_rfl⟩
theorem g96 : ∃ func, Tryz.prog.funcs[96]? = some func ∧ cFunc Tryz.prog func = some F96 ∧ (func.name == "runtime.NumGoroutine") = false := ⟨Tryz.f96, Tryz.func96, by kernel_rfl, by kernel_rfl⟩
theorem g123 : ∃ func, Tryz.prog.funcs[123]? = some func ∧ cFunc Tryz.prog func = some F123 ∧ (func.name == "runtime.NumGoroutine") = false := ⟨Tryz.f123, Tryz.func123, by kernel_rfl, by kernel_rfl⟩
theorem g126 : ∃ func, Tryz.prog.funcs[126]? = some func ∧ cFunc Tryz.prog func = some F126 ∧ (func.name == "runtime.NumGoroutine") = false := ⟨Tryz.f126, Tryz.func126, by kernel_rfl, by kernel_rfl⟩
theorem g134 : ∃ func, Tryz.prog.funcs[134]? = some func ∧ cFunc Tryz.prog func = some F134 ∧ (func.name == "runtime.NumGoroutine") = false := ⟨Tryz.f134, Tryz.func134, by kernel_rfl, by kernel_rfl⟩
theorem g163 : ∃ func, Tryz.prog.funcs[163]? = some func ∧ cFunc Tryz.prog func = some F163 ∧ (func.name == "runtime.NumGoroutine") = false := ⟨Tryz.f163, Tryz.func163, by kernel_rfl, by kernel_rfl⟩
theorem g176 : ∃ func, Tryz.prog.funcs[176]? = some func ∧ cFunc Tryz.prog func = some F176 ∧ (func.name == "runtime.NumGoroutine") = false := ⟨Tryz.f176, Tryz.func176, by kernel_rfl, by kernel_rfl⟩
theorem g186 : ∃ func, Tryz.prog.funcs[186]? = some func ∧ cFunc Tryz.prog func = some F186 ∧ (func.name == "runtime.NumGoroutine") = false := ⟨Tryz.f186, Tryz.func186, by kernel_rfl, by kernel_rfl⟩
theorem g191 : ∃ func, Tryz.prog.funcs[191]? = some func ∧ cFunc Tryz.prog func = some F191 ∧ (func.name == "runtime.NumGoroutine") = false := ⟨Tryz.f191, Tryz.func191, by kernel_rfl, by kernel_rfl⟩
theorem g221 : ∃ func, Tryz.prog.funcs[221]? = some func ∧ cFunc Tryz.prog func = some F221 ∧ (func.name == "runtime.NumGoroutine") = false := ⟨Tryz.f221, Tryz.func221, by kernel_rfl, by kernel_rfl⟩
theorem g223 : ∃ func, Tryz.prog.funcs[223]? = some func ∧ cFunc Tryz.prog func = some F223 ∧ (func.name == "runtime.NumGoroutine") = false := ⟨Tryz.f223, Tryz.func223, by kernel_rfl, by kernel_rfl⟩
theorem g232 : ∃ func, Tryz.prog.funcs[232]? = some func ∧ cFunc Tryz.prog func = some F232 ∧ (func.name == "runtime.NumGoroutine") = false := ⟨Tryz.f232, Tryz.func232, by kernel_rfl, by kernel_rfl⟩
theorem g235 : ∃ func, Tryz.prog.funcs[235]? = some func ∧ cFunc Tryz.prog func = some F235 ∧ (func.name == "runtime.NumGoroutine") = false := ⟨Tryz.f235, Tryz.func235, by kernel_rfl, by kernel_rfl⟩
theorem g255 : ∃ func, Tryz.prog.funcs[255]? = some func ∧ cFunc Tryz.prog func = some F255 ∧ (func.name == "runtime.NumGoroutine") = false := ⟨Tryz.f255, Tryz.func255, by kernel_rfl, by kernel_rfl⟩
theorem g264 : ∃ func, Tryz.prog.funcs[264]? = some func ∧ cFunc Tryz.prog func = some F264 ∧ (func.name == "runtime.NumGoroutine") = false := ⟨Tryz.f264, Tryz.func264, by kernel_rfl, by kernel_rfl⟩
theorem g265 : ∃ func, Tryz.prog.funcs[265]? = some func ∧ cFunc Tryz.prog func = some F265 ∧ (func.name == "runtime.NumGoroutine") = false := ⟨Tryz.f265, Tryz.func265, by kernel_rfl, by kernel_rfl⟩
theorem g285 : ∃ func, Tryz.prog.funcs[285]? = some func ∧ cFunc Tryz.prog func = some F285 ∧ (func.name == "runtime.NumGoroutine") = false := ⟨Tryz.f285, Tryz.func285, by kernel_rfl, by kernel_rfl⟩
end Go.Proofs.YtndlfkibcelhmaaGreatDoor.Ai
end
