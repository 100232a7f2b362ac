/- The table is the loaded program. -/
import Derived.Test.YtndlfkibcelhmaaGreatDoorB1
import Derived.Test.YtndlfkibcelhmaaGreatDoorA1
import Derived.Test.YtndlfkibcelhmaaGreatDoorA0
import Derived.Test.YtndlfkibcelhmaaGreatDoorProg
import Derived.KernelRfl
set_option linter.all false
section
set_option maxRecDepth 100000
namespace Go.Proofs.YtndlfkibcelhmaaGreatDoor.Ai
open Go Go.Proofs
theorem g17 : ∃ func, Tryz.prog.funcs[17]? = some func ∧ cFunc Tryz.prog func = some F17 ∧ (func.name == "runtime.NumGoroutine") = false := ⟨Tryz.f17, Tryz.func17, by kernel_rfl, by kernel_rfl⟩
theorem g44 : ∃ func, Tryz.prog.funcs[44]? = some func ∧ cFunc Tryz.prog func = some F44 ∧ (func.name == "runtime.NumGoroutine") = false := ⟨Tryz.f44, Tryz.func44, by kernel_rfl, by kernel_rfl⟩
theorem g56 : ∃ func, Tryz.prog.funcs[56]? = some func ∧ cFunc Tryz.prog func = some F56 ∧ (func.name == "runtime.NumGoroutine") = false := ⟨Tryz.f56, Tryz.func56, by kernel_rfl, by kernel_rfl⟩
theorem g64 : ∃ func, Tryz.prog.funcs[64]? = some func ∧ cFunc Tryz.prog func = some F64 ∧ (func.name == "runtime.NumGoroutine") = false := ⟨Tryz.f64, Tryz.func64, by kernel_rfl, by kernel_rfl⟩
theorem g90 : ∃ func, Tryz.prog.funcs[90]? = some func ∧ cFunc Tryz.prog func = some F90 ∧ (func.name == "runtime.NumGoroutine") = false := ⟨Tryz.f90, Tryz.func90, by kernel_rfl, by kernel_rfl⟩
theorem g91 : ∃ func, Tryz.prog.funcs[91]? = some func ∧ cFunc Tryz.prog func = some F91 ∧ (func.name == "runtime.NumGoroutine") = false := ⟨Tryz.f91, Tryz.func91, by kernel_rfl, by kernel_rfl⟩
theorem g101 : ∃ func, Tryz.prog.funcs[101]? = some func ∧ cFunc Tryz.prog func = some F101 ∧ (func.name == "runtime.NumGoroutine") = false := ⟨Tryz.f101, Tryz.func101, by kernel_rfl, by kernel_rfl⟩
theorem g104 : ∃ func, Tryz.prog.funcs[104]? = some func ∧ cFunc Tryz.prog func = some F104 ∧ (func.name == "runtime.NumGoroutine") = false := ⟨Tryz.f104, Tryz.func104, by kernel_rfl, by kernel_rfl⟩
theorem g108 : ∃ func, Tryz.prog.funcs[108]? = some func ∧ cFunc Tryz.prog func = some F108 ∧ (func.name == "runtime.NumGoroutine") = false := ⟨Tryz.f108, Tryz.func108, by kernel_rfl, by kernel_rfl⟩
theorem g114 : ∃ func, Tryz.prog.funcs[114]? = some func ∧ cFunc Tryz.prog func = some F114 ∧ (func.name == "runtime.NumGoroutine") = false := ⟨Tryz.f114, Tryz.func114, by kernel_rfl, by kernel_rfl⟩
theorem g115 : ∃ func, Tryz.prog.funcs[115]? = some func ∧ cFunc Tryz.prog func = some F115 ∧ (func.name == "runtime.NumGoroutine") = false := ⟨Tryz.f115, Tryz.func115, by kernel_rfl, by kernel_rfl⟩
theorem g127 : ∃ func, Tryz.prog.funcs[127]? = some func ∧ cFunc Tryz.prog func = some F127 ∧ (func.name == "runtime.NumGoroutine") = false := ⟨Tryz.f127, Tryz.func127, by kernel_rfl, by kernel_rfl⟩
theorem g135 : ∃ func, Tryz.prog.funcs[135]? = some func ∧ cFunc Tryz.prog func = some F135 ∧ (func.name == "runtime.NumGoroutine") = false := ⟨Tryz.f135, Tryz.func135, by kernel_rfl, by kernel_rfl⟩
theorem g178 : ∃ func, Tryz.prog.funcs[178]? = some func ∧ cFunc Tryz.prog func = some F178 ∧ (func.name == "runtime.NumGoroutine") = false := ⟨Tryz.f178, Tryz.func178, by kernel_rfl, by kernel_rfl⟩
theorem g187 : ∃ func, Tryz.prog.funcs[187]? = some func ∧ cFunc Tryz.prog func = some F187 ∧ (func.name == "runtime.NumGoroutine") = false := ⟨Tryz.f187, Tryz.func187, by kernel_rfl, by kernel_rfl⟩
theorem g189 : ∃ func, Tryz.prog.funcs[189]? = some func ∧ cFunc Tryz.prog func = some F189 ∧ (func.name == "runtime.NumGoroutine") = false := ⟨Tryz.f189, Tryz.func189, by kernel_rfl, by kernel_rfl⟩
theorem g214 : ∃ func, Tryz.prog.funcs[214]? = some func ∧ cFunc Tryz.prog func = some F214 ∧ (func.name == "runtime.NumGoroutine") = false := ⟨Tryz.f214, Tryz.func214, by kernel_rfl, by kernel_rfl⟩
theorem g215 : ∃ func, Tryz.prog.funcs[215]? = some func ∧ cFunc Tryz.prog func = some F215 ∧ (func.name == "runtime.NumGoroutine") = false := ⟨Tryz.f215, Tryz.func215, by kernel_rfl, by kernel_rfl⟩
theorem g228 : ∃ func, Tryz.prog.funcs[228]? = some func ∧ cFunc Tryz.prog func = some F228 ∧ (func.name == "runtime.NumGoroutine") = false := ⟨Tryz.f228, Tryz.func228, by kernel_rfl, by kernel_rfl⟩
theorem g266 : ∃ func, Tryz.prog.funcs[266]? = some func ∧ cFunc Tryz.prog func = some F266 ∧ (func.name == "runtime.NumGoroutine") = false := ⟨Tryz.f266, Tryz.func266, by kernel_rfl, by kernel_rfl⟩
theorem g293 : ∃ func, Tryz.prog.funcs[293]? = some func ∧ cFunc Tryz.prog func = some F293 ∧ (func.name == "runtime.NumGoroutine") = false := ⟨Tryz.f293, Tryz.func293, by kernel_rfl, by kernel_rfl⟩
end Go.Proofs.YtndlfkibcelhmaaGreatDoor.Ai
end
