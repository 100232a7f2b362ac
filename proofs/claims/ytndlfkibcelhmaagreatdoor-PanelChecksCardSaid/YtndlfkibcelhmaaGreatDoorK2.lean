/- The table is the loaded program. -/
import Derived.Test.YtndlfkibcelhmaaGreatDoorB1
import Derived.Test.YtndlfkibcelhmaaGreatDoorA1
import Derived.Test.YtndlfkibcelhmaaGreatDoorA0
import Derived.Test.YtndlfkibcelhmaaGreatDoorProg
import Derived.KernelRfl
set_option linter.all false
section
set_option maxRecDepth 100000
namespace Go.Proofs.YtndlfkibcelhmaaGreatDoor.Ai
open Go Go.Proofs
theorem g57 : ∃ func, Tryz.prog.funcs[57]? = some func ∧ cFunc Tryz.prog func = some F57 ∧ (func.name == "runtime.NumGoroutine") = false := ⟨Tryz.f57, Tryz.func57, by kernel_rfl, by kernel_rfl⟩
theorem g59 : ∃ func, Tryz.prog.funcs[59]? = some func ∧ cFunc Tryz.prog func = some F59 ∧ (func.name == "runtime.NumGoroutine") = false := ⟨Tryz.f59, Tryz.func59, by kernel_rfl, by kernel_rfl⟩
theorem g86 : ∃ func, Tryz.prog.funcs[86]? = some func ∧ cFunc Tryz.prog func = some F86 ∧ (func.name == "runtime.NumGoroutine") = false := ⟨Tryz.f86, Tryz.func86, by kernel_rfl, by kernel_rfl⟩
theorem g94 : ∃ func, Tryz.prog.funcs[94]? = some func ∧ cFunc Tryz.prog func = some F94 ∧ (func.name == "runtime.NumGoroutine") = false := ⟨Tryz.f94, Tryz.func94, by kernel_rfl, by kernel_rfl⟩
theorem g99 : ∃ func, Tryz.prog.funcs[99]? = some func ∧ cFunc Tryz.prog func = some F99 ∧ (func.name == "runtime.NumGoroutine") = false := ⟨Tryz.f99, Tryz.func99, by kernel_rfl, by kernel_rfl⟩
theorem g100 : ∃ func, Tryz.prog.funcs[100]? = some func ∧ cFunc Tryz.prog func = some F100 ∧ (func.name == "runtime.NumGoroutine") = false := ⟨Tryz.f100, Tryz.func100, by kernel_rfl, by kernel_rfl⟩
theorem g113 : ∃ func, Tryz.prog.funcs[113]? = some func ∧ cFunc Tryz.prog func = some F113 ∧ (func.name == "runtime.NumGoroutine") = false := ⟨Tryz.f113, Tryz.func113, by kernel_rfl, by kernel_rfl⟩
theorem g148 : ∃ func, Tryz.prog.funcs[148]? = some func ∧ cFunc Tryz.prog func = some F148 ∧ (func.name == "runtime.NumGoroutine") = false := ⟨Tryz.f148, Tryz.func148, by kernel_rfl, by kernel_rfl⟩
theorem g167 : ∃ func, Tryz.prog.funcs[167]? = some func ∧ cFunc Tryz.prog func = some F167 ∧ (func.name == "runtime.NumGoroutine") = false := ⟨Tryz.f167, Tryz.func167, by kernel_rfl, by kernel_rfl⟩
theorem g168 : ∃ func, Tryz.prog.funcs[168]? = some func ∧ cFunc Tryz.prog func = some F168 ∧ (func.name == "runtime.NumGoroutine") = false := ⟨Tryz.f168, Tryz.func168, by kernel_rfl, by kernel_rfl⟩
theorem g171 : ∃ func, Tryz.prog.funcs[171]? = some func ∧ cFunc Tryz.prog func = some F171 ∧ (func.name == "runtime.NumGoroutine") = false := ⟨Tryz.f171, Tryz.func171, by kernel_rfl, by kernel_rfl⟩
theorem g206 : ∃ func, Tryz.prog.funcs[206]? = some func ∧ cFunc Tryz.prog func = some F206 ∧ (func.name == "runtime.NumGoroutine") = false := ⟨Tryz.f206, Tryz.func206, by kernel_rfl, by kernel_rfl⟩
theorem g213 : ∃ func, Tryz.prog.funcs[213]? = some func ∧ cFunc Tryz.prog func = some F213 ∧ (func.name == "runtime.NumGoroutine") = false := ⟨Tryz.f213, Tryz.func213, by kernel_rfl, by kernel_rfl⟩
theorem g216 : ∃ func, Tryz.prog.funcs[216]? = some func ∧ cFunc Tryz.prog func = some F216 ∧ (func.name == "runtime.NumGoroutine") = false := ⟨Tryz.f216, Tryz.func216, by kernel_rfl, by kernel_rfl⟩
theorem g222 : ∃ func, Tryz.prog.funcs[222]? = some func ∧ cFunc Tryz.prog func = some F222 ∧ (func.name == "runtime.NumGoroutine") = false := ⟨Tryz.f222, Tryz.func222, by kernel_rfl, by kernel_rfl⟩
theorem g270 : ∃ func, Tryz.prog.funcs[270]? = some func ∧ cFunc Tryz.prog func = some F270 ∧ (func.name == "runtime.NumGoroutine") = false := ⟨Tryz.f270, Tryz.func270, by kernel_rfl, by kernel_rfl⟩
theorem g289 : ∃ func, Tryz.prog.funcs[289]? = some func ∧ cFunc Tryz.prog func = some F289 ∧ (func.name == "runtime.NumGoroutine") = false := ⟨Tryz.f289, Tryz.func289, by kernel_rfl, by kernel_rfl⟩
theorem g290 : ∃ func, Tryz.prog.funcs[290]? = some func ∧ cFunc Tryz.prog func = some F290 ∧ (func.name == "runtime.NumGoroutine") = false := ⟨Tryz.f290, Tryz.func290, by kernel_rfl, by kernel_rfl⟩
theorem g296 : ∃ func, Tryz.prog.funcs[296]? = some func ∧ cFunc Tryz.prog func = some F296 ∧ (func.name == "runtime.NumGoroutine") = false := ⟨Tryz.f296, Tryz.func296, by kernel_rfl, by kernel_rfl⟩
theorem g297 : ∃ func, Tryz.prog.funcs[297]? = some func ∧ cFunc Tryz.prog func = some F297 ∧ (func.name == "runtime.NumGoroutine") = false := ⟨Tryz.f297, Tryz.func297, by kernel_rfl, by kernel_rfl⟩
end Go.Proofs.YtndlfkibcelhmaaGreatDoor.Ai
end
