/- The table is the loaded program. -/
import Derived.Test.YtndlfkibcelhmaaGreatDoorB0
import Derived.Test.YtndlfkibcelhmaaGreatDoorA1
import Derived.Test.YtndlfkibcelhmaaGreatDoorA0
import Derived.Test.YtndlfkibcelhmaaGreatDoorProg
import Derived.KernelRfl
set_option linter.all false
section
set_option maxRecDepth 100000
namespace Go.Proofs.YtndlfkibcelhmaaGreatDoor.Ai
open Go Go.Proofs
theorem g37 : ∃ func, Tryz.prog.funcs[37]? = some func ∧ cFunc Tryz.prog func = some F37 ∧ (func.name == "runtime.NumGoroutine") = false := ⟨Tryz.f37, Tryz.func37, by kernel_rfl, by kernel_rfl⟩
theorem g59 : ∃ func, Tryz.prog.funcs[59]? = some func ∧ cFunc Tryz.prog func = some F59 ∧ (func.name == "runtime.NumGoroutine") = false := ⟨Tryz.f59, Tryz.func59, by kernel_rfl, by kernel_rfl⟩
theorem g95 : ∃ func, Tryz.prog.funcs[95]? = some func ∧ cFunc Tryz.prog func = some F95 ∧ (func.name == "runtime.NumGoroutine") = false := ⟨Tryz.f95, Tryz.func95, by kernel_rfl, by kernel_rfl⟩
theorem g107 : ∃ func, Tryz.prog.funcs[107]? = some func ∧ cFunc Tryz.prog func = some F107 ∧ (func.name == "runtime.NumGoroutine") = false := ⟨Tryz.f107, Tryz.func107, by kernel_rfl, by kernel_rfl⟩
theorem g115 : ∃ func, Tryz.prog.funcs[115]? = some func ∧ cFunc Tryz.prog func = some F115 ∧ (func.name == "runtime.NumGoroutine") = false := ⟨Tryz.f115, Tryz.func115, by kernel_rfl, by kernel_rfl⟩
theorem g136 : ∃ func, Tryz.prog.funcs[136]? = some func ∧ cFunc Tryz.prog func = some F136 ∧ (func.name == "runtime.NumGoroutine") = false := ⟨Tryz.f136, Tryz.func136, by kernel_rfl, by kernel_rfl⟩
theorem g167 : ∃ func, Tryz.prog.funcs[167]? = some func ∧ cFunc Tryz.prog func = some F167 ∧ (func.name == "runtime.NumGoroutine") = false := ⟨Tryz.f167, Tryz.func167, by kernel_rfl, by kernel_rfl⟩
theorem g189 : ∃ func, Tryz.prog.funcs[189]? = some func ∧ cFunc Tryz.prog func = some F189 ∧ (func.name == "runtime.NumGoroutine") = false := ⟨Tryz.f189, Tryz.func189, by kernel_rfl, by kernel_rfl⟩
theorem g192 : ∃ func, Tryz.prog.funcs[192]? = some func ∧ cFunc Tryz.prog func = some F192 ∧ (func.name == "runtime.NumGoroutine") = false := ⟨Tryz.f192, Tryz.func192, by kernel_rfl, by kernel_rfl⟩
theorem g193 : ∃ func, Tryz.prog.funcs[193]? = some func ∧ cFunc Tryz.prog func = some F193 ∧ (func.name == "runtime.NumGoroutine") = false := ⟨Tryz.f193, Tryz.func193, by kernel_rfl, by kernel_rfl⟩
theorem g199 : ∃ func, Tryz.prog.funcs[199]? = some func ∧ cFunc Tryz.prog func = some F199 ∧ (func.name == "runtime.NumGoroutine") = false := ⟨Tryz.f199, Tryz.func199, by kernel_rfl, by kernel_rfl⟩
theorem g206 : ∃ func, Tryz.prog.funcs[206]? = some func ∧ cFunc Tryz.prog func = some F206 ∧ (func.name == "runtime.NumGoroutine") = false := ⟨Tryz.f206, Tryz.func206, by kernel_rfl, by kernel_rfl⟩
theorem g207 : ∃ func, Tryz.prog.funcs[207]? = some func ∧ cFunc Tryz.prog func = some F207 ∧ (func.name == "runtime.NumGoroutine") = false := ⟨Tryz.f207, Tryz.func207, by kernel_rfl, by kernel_rfl⟩
theorem g225 : ∃ func, Tryz.prog.funcs[225]? = some func ∧ cFunc Tryz.prog func = some F225 ∧ (func.name == "runtime.NumGoroutine") = false := ⟨Tryz.f225, Tryz.func225, by kernel_rfl, by kernel_rfl⟩
theorem g237 : ∃ func, Tryz.prog.funcs[237]? = some func ∧ cFunc Tryz.prog func = some F237 ∧ (func.name == "runtime.NumGoroutine") = false := ⟨Tryz.f237, Tryz.func237, by kernel_rfl, by kernel_rfl⟩
theorem g265 : ∃ func, Tryz.prog.funcs[265]? = some func ∧ cFunc Tryz.prog func = some F265 ∧ (func.name == "runtime.NumGoroutine") = false := ⟨Tryz.f265, Tryz.func265, by kernel_rfl, by kernel_rfl⟩
theorem g270 : ∃ func, Tryz.prog.funcs[270]? = some func ∧ cFunc Tryz.prog func = some F270 ∧ (func.name == "runtime.NumGoroutine") = false := ⟨Tryz.f270, Tryz.func270, by kernel_rfl, by kernel_rfl⟩
theorem g274 : ∃ func, Tryz.prog.funcs[274]? = some func ∧ cFunc Tryz.prog func = some F274 ∧ (func.name == "runtime.NumGoroutine") = false := ⟨Tryz.f274, Tryz.func274, by kernel_rfl, by kernel_rfl⟩
theorem g299 : ∃ func, Tryz.prog.funcs[299]? = some func ∧ cFunc Tryz.prog func = some F299 ∧ (func.name == "runtime.NumGoroutine") = false := ⟨Tryz.f299, Tryz.func299, by kernel_rfl, by kernel_rfl⟩
end Go.Proofs.YtndlfkibcelhmaaGreatDoor.Ai
end
