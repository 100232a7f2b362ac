/- The table is the loaded program. -/
import Derived.Test.YtndlfkibcelhmaaGreatDoorB0
import Derived.Test.YtndlfkibcelhmaaGreatDoorA1
import Derived.Test.YtndlfkibcelhmaaGreatDoorA0
import Derived.Test.YtndlfkibcelhmaaGreatDoorProg
import Derived.KernelRfl
set_option linter.all false
section
set_option maxRecDepth 100000
namespace Go.Proofs.YtndlfkibcelhmaaGreatDoor.Ai
open Go Go.Proofs
theorem g17 : ∃ func, Tryz.prog.funcs[17]? = some func ∧ cFunc Tryz.prog func = some F17 ∧ (func.name == "runtime.NumGoroutine") = false := ⟨Tryz.f17, Tryz.func17, by kernel_rfl, by kernel_rfl⟩
theorem g20 : ∃ func, Tryz.prog.funcs[20]? = some func ∧ cFunc Tryz.prog func = some F20 ∧ (func.name == "runtime.NumGoroutine") = false := ⟨Tryz.f20, Tryz.func20, by kernel_rfl, by kernel_rfl⟩
theorem g38 : ∃ func, Tryz.prog.funcs[38]? = some func ∧ cFunc Tryz.prog func = some F38 ∧ (func.name == "runtime.NumGoroutine") = false := ⟨Tryz.f38, Tryz.func38, by kernel_rfl, by kernel_rfl⟩
theorem g49 : ∃ func, Tryz.prog.funcs[49]? = some func ∧ cFunc Tryz.prog func = some F49 ∧ (func.name == "runtime.NumGoroutine") = false := ⟨Tryz.f49, Tryz.func49, by kernel_rfl, by kernel_rfl⟩
theorem g64 : ∃ func, Tryz.prog.funcs[64]? = some func ∧ cFunc Tryz.prog func = some F64 ∧ (func.name == "runtime.NumGoroutine") = false := ⟨Tryz.f64, Tryz.func64, by kernel_rfl, by kernel_rfl⟩
theorem g86 : ∃ func, Tryz.prog.funcs[86]? = some func ∧ cFunc Tryz.prog func = some F86 ∧ (func.name == "runtime.NumGoroutine") = false := ⟨Tryz.f86, Tryz.func86, by kernel_rfl, by kernel_rfl⟩
theorem g104 : ∃ func, Tryz.prog.funcs[104]? = some func ∧ cFunc Tryz.prog func = some F104 ∧ (func.name == "runtime.NumGoroutine") = false := ⟨Tryz.f104, Tryz.func104, by kernel_rfl, by kernel_rfl⟩
theorem g105 : ∃ func, Tryz.prog.funcs[105]? = some func ∧ cFunc Tryz.prog func = some F105 ∧ (func.name == "runtime.NumGoroutine") = false := ⟨Tryz.f105, Tryz.func105, by kernel_rfl, by kernel_rfl⟩
theorem g106 : ∃ func, Tryz.prog.funcs[106]? = some func ∧ cFunc Tryz.prog func = some F106 ∧ (func.name == "runtime.NumGoroutine") = false := ⟨Tryz.f106, Tryz.func106, by kernel_rfl, by kernel_rfl⟩
theorem g114 : ∃ func, Tryz.prog.funcs[114]? = some func ∧ cFunc Tryz.prog func = some F114 ∧ (func.name == "runtime.NumGoroutine") = false := ⟨Tryz.f114, Tryz.func114, by kernel_rfl, by kernel_rfl⟩
theorem g136 : ∃ func, Tryz.prog.funcs[136]? = some func ∧ cFunc Tryz.prog func = some F136 ∧ (func.name == "runtime.NumGoroutine") = false := ⟨Tryz.f136, Tryz.func136, by kernel_rfl, by kernel_rfl⟩
theorem g137 : ∃ func, Tryz.prog.funcs[137]? = some func ∧ cFunc Tryz.prog func = some F137 ∧ (func.name == "runtime.NumGoroutine") = false := ⟨Tryz.f137, Tryz.func137, by kernel_rfl, by kernel_rfl⟩
theorem g138 : ∃ func, Tryz.prog.funcs[138]? = some func ∧ cFunc Tryz.prog func = some F138 ∧ (func.name == "runtime.NumGoroutine") = false := ⟨Tryz.f138, Tryz.func138, by kernel_rfl, by kernel_rfl⟩
theorem g148 : ∃ func, Tryz.prog.funcs[148]? = some func ∧ cFunc Tryz.prog func = some F148 ∧ (func.name == "runtime.NumGoroutine") = false := ⟨Tryz.f148, Tryz.func148, by kernel_rfl, by kernel_rfl⟩
theorem g166 : ∃ func, Tryz.prog.funcs[166]? = some func ∧ cFunc Tryz.prog func = some F166 ∧ (func.name == "runtime.NumGoroutine") = false := ⟨Tryz.f166, Tryz.func166, by kernel_rfl, by kernel_rfl⟩
theorem g200 : ∃ func, Tryz.prog.funcs[200]? = some func ∧ cFunc Tryz.prog func = some F200 ∧ (func.name == "runtime.NumGoroutine") = false := ⟨Tryz.f200, Tryz.func200, by kernel_rfl, by kernel_rfl⟩
theorem g241 : ∃ func, Tryz.prog.funcs[241]? = some func ∧ cFunc Tryz.prog func = some F241 ∧ (func.name == "runtime.NumGoroutine") = false := ⟨Tryz.f241, Tryz.func241, by kernel_rfl, by kernel_rfl⟩
theorem g255 : ∃ func, Tryz.prog.funcs[255]? = some func ∧ cFunc Tryz.prog func = some F255 ∧ (func.name == "runtime.NumGoroutine") = false := ⟨Tryz.f255, Tryz.func255, by kernel_rfl, by kernel_rfl⟩
theorem g274 : ∃ func, Tryz.prog.funcs[274]? = some func ∧ cFunc Tryz.prog func = some F274 ∧ (func.name == "runtime.NumGoroutine") = false := ⟨Tryz.f274, Tryz.func274, by kernel_rfl, by kernel_rfl⟩
theorem g288 : ∃ func, Tryz.prog.funcs[288]? = some func ∧ cFunc Tryz.prog func = some F288 ∧ (func.name == "runtime.NumGoroutine") = false := ⟨Tryz.f288, Tryz.func288, by kernel_rfl, by kernel_rfl⟩
theorem g300 : ∃ func, Tryz.prog.funcs[300]? = some func ∧ cFunc Tryz.prog func = some F300 ∧ (func.name == "runtime.NumGoroutine") = false := ⟨Tryz.f300, Tryz.func300, by kernel_rfl, by kernel_rfl⟩
end Go.Proofs.YtndlfkibcelhmaaGreatDoor.Ai
end
