/- The table is the loaded program. -/
import Derived.Test.YtndlfkibcelhmaaGreatDoorB0
import Derived.Test.YtndlfkibcelhmaaGreatDoorA1
import Derived.Test.YtndlfkibcelhmaaGreatDoorA0
import Derived.Test.YtndlfkibcelhmaaGreatDoorProg
import Derived.KernelRfl
set_option linter.all false
section
set_option maxRecDepth 100000
namespace Go.Proofs.YtndlfkibcelhmaaGreatDoor.Ai
open Go Go.Proofs
theorem g11 : ∃ func, Tryz.prog.funcs[11]? = some func ∧ cFunc Tryz.prog func = some F11 ∧ (func.name == "runtime.NumGoroutine") = false := ⟨Tryz.f11, Tryz.func11, by kernel_rfl, by kernel_rfl⟩
theorem g47 : ∃ func, Tryz.prog.funcs[47]? = some func ∧ cFunc Tryz.prog func = some F47 ∧ (func.name == "runtime.NumGoroutine") = false := ⟨Tryz.f47, Tryz.func47, by kernel_rfl, by kernel_rfl⟩
theorem g57 : ∃ func, Tryz.prog.funcs[57]? = some func ∧ cFunc Tryz.prog func = some F57 ∧ (func.name == "runtime.NumGoroutine") = false := ⟨Tryz.f57, Tryz.func57, by kernel_rfl, by kernel_rfl⟩
theorem g59 : ∃ func, Tryz.prog.funcs[59]? = some func ∧ cFunc Tryz.prog func = some F59 ∧ (func.name == "runtime.NumGoroutine") = false := ⟨Tryz.f59, Tryz.func59, by kernel_rfl, by kernel_rfl⟩
theorem g73 : ∃ func, Tryz.prog.funcs[73]? = some func ∧ cFunc Tryz.prog func = some F73 ∧ (func.name == "runtime.NumGoroutine") = false := ⟨Tryz.f73, Tryz.func73, by kernel_rfl, by kernel_rfl⟩
theorem g90 : ∃ func, Tryz.prog.funcs[90]? = some func ∧ cFunc Tryz.prog func = some F90 ∧ (func.name == "runtime.NumGoroutine") = false := ⟨Tryz.f90, Tryz.func90, by kernel_rfl, by kernel_rfl⟩
theorem g92 : ∃ func, Tryz.prog.funcs[92]? = some func ∧ cFunc Tryz.prog func = some F92 ∧ (func.name == "runtime.NumGoroutine") = false := ⟨Tryz.f92, Tryz.func92, by kernel_rfl, by kernel_rfl⟩
theorem g100 : ∃ func, Tryz.prog.funcs[100]? = some func ∧ cFunc Tryz.prog func = some F100 ∧ (func.name == "runtime.NumGoroutine") = false := ⟨Tryz.f100, Tryz.func100, by kernel_rfl, by kernel_rfl⟩
theorem g112 : ∃ func, Tryz.prog.funcs[112]? = some func ∧ cFunc Tryz.prog func = some F112 ∧ (func.name == "runtime.NumGoroutine") = false := ⟨Tryz.f112, Tryz.func112, by kernel_rfl, by kernel_rfl⟩
theorem g124 : ∃ func, Tryz.prog.funcs[124]? = some func ∧ cFunc Tryz.prog func = some F124 ∧ (func.name == "runtime.NumGoroutine") = false := ⟨Tryz.f124, Tryz.func124, by kernel_rfl, by kernel_rfl⟩
theorem g134 : ∃ func, Tryz.prog.funcs[134]? = some func ∧ cFunc Tryz.prog func = some F134 ∧ (func.name == "runtime.NumGoroutine") = false := ⟨Tryz.f134, Tryz.func134, by kernel_rfl, by kernel_rfl⟩
theorem g135 : ∃ func, Tryz.prog.funcs[135]? = some func ∧ cFunc Tryz.prog func = some F135 ∧ (func.name == "runtime.NumGoroutine") = false := ⟨Tryz.f135, Tryz.func135, by kernel_rfl, by kernel_rfl⟩
theorem g140 : ∃ func, Tryz.prog.funcs[140]? = some func ∧ cFunc Tryz.prog func = some F140 ∧ (func.name == "runtime.NumGoroutine") = false := ⟨Tryz.f140, Tryz.func140, by kernel_rfl, by kernel_rfl⟩
theorem g152 : ∃ func, Tryz.prog.funcs[152]? = some func ∧ cFunc Tryz.prog func = some F152 ∧ (func.name == "runtime.NumGoroutine") = false := ⟨Tryz.f152, Tryz.func152, by kernel_rfl, by kernel_rfl⟩
theorem g167 : ∃ func, Tryz.prog.funcs[167]? = some func ∧ cFunc Tryz.prog func = some F167 ∧ (func.name == "runtime.NumGoroutine") = false := ⟨Tryz.f167, Tryz.func167, by kernel_rfl, by kernel_rfl⟩
theorem g184 : ∃ func, Tryz.prog.funcs[184]? = some func ∧ cFunc Tryz.prog func = some F184 ∧ (func.name == "runtime.NumGoroutine") = false := ⟨Tryz.f184, Tryz.func184, by kernel_rfl, by kernel_rfl⟩
theorem g185 : ∃ func, Tryz.prog.funcs[185]? = some func ∧ cFunc Tryz.prog func = some F185 ∧ (func.name == "runtime.NumGoroutine") = false := ⟨Tryz.f185, Tryz.func185, by kernel_rfl, by kernel_rfl⟩
theorem g202 : ∃ func, Tryz.prog.funcs[202]? = some func ∧ cFunc Tryz.prog func = some F202 ∧ (func.name == "runtime.NumGoroutine") = false := ⟨Tryz.f202, Tryz.func202, by kernel_rfl, by kernel_rfl⟩
theorem g213 : ∃ func, Tryz.prog.funcs[213]? = some func ∧ cFunc Tryz.prog func = some F213 ∧ (func.name == "runtime.NumGoroutine") = false := ⟨Tryz.f213, Tryz.func213, by kernel_rfl, by kernel_rfl⟩
theorem g216 : ∃ func, Tryz.prog.funcs[216]? = some func ∧ cFunc Tryz.prog func = some F216 ∧ (func.name == "runtime.NumGoroutine") = false := ⟨Tryz.f216, Tryz.func216, by kernel_rfl, by kernel_rfl⟩
theorem g235 : ∃ func, Tryz.prog.funcs[235]? = some func ∧ cFunc Tryz.prog func = some F235 ∧ (func.name == "runtime.NumGoroutine") = false := ⟨Tryz.f235, Tryz.func235, by kernel_rfl, by kernel_rfl⟩
theorem g291 : ∃ func, Tryz.prog.funcs[291]? = some func ∧ cFunc Tryz.prog func = some F291 ∧ (func.name == "runtime.NumGoroutine") = false := ⟨Tryz.f291, Tryz.func291, by kernel_rfl, by kernel_rfl⟩
end Go.Proofs.YtndlfkibcelhmaaGreatDoor.Ai
end
