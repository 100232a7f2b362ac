/- The table is the loaded program. -/
import Derived.Test.YtndlfkibcelhmaaGreatDoorB0
import Derived.Test.YtndlfkibcelhmaaGreatDoorA1
import Derived.Test.YtndlfkibcelhmaaGreatDoorA0
import Derived.Test.YtndlfkibcelhmaaGreatDoorProg
import Derived.KernelRfl
set_option linter.all false
section
set_option maxRecDepth 100000
namespace Go.Proofs.YtndlfkibcelhmaaGreatDoor.Ai
open Go Go.Proofs
theorem g61 : ∃ func, Tryz.prog.funcs[61]? = some func ∧ cFunc Tryz.prog func = some F61 ∧ (func.name == "runtime.NumGoroutine") = false := ⟨Tryz.f61, Tryz.func61, by kernel_rfl, by kernel_rfl⟩
theorem g65 : ∃ func, Tryz.prog.funcs[65]? = some func ∧ cFunc Tryz.prog func = some F65 ∧ (func.name == "runtime.NumGoroutine") = false := ⟨Tryz.f65, Tryz.func65, by kernel_rfl, by kernel_rfl⟩
theorem g87 : ∃ func, Tryz.prog.funcs[87]? = some func ∧ cFunc Tryz.prog func = some F87 ∧ (func.name == "runtime.NumGoroutine") = false := ⟨Tryz.f87, Tryz.func87, by kernel_rfl, by kernel_rfl⟩
theorem g90 : ∃ func, Tryz.prog.funcs[90]? = some func ∧ cFunc Tryz.prog func = some F90 ∧ (func.name == "runtime.NumGoroutine") = false := ⟨Tryz.f90, Tryz.func90, by kernel_rfl, by kernel_rfl⟩
theorem g92 : ∃ func, Tryz.prog.funcs[92]? = some func ∧ cFunc Tryz.prog func = some F92 ∧ (func.name == "runtime.NumGoroutine") = false := ⟨Tryz.f92, Tryz.func92, by kernel_rfl, by kernel_rfl⟩
theorem g109 : ∃ func, Tryz.prog.funcs[109]? = some func ∧ cFunc Tryz.prog func = some F109 ∧ (func.name == "runtime.NumGoroutine") = false := ⟨Tryz.f109, Tryz.func109, by kernel_rfl, by kernel_rfl⟩
theorem g111 : ∃ func, Tryz.prog.funcs[111]? = some func ∧ cFunc Tryz.prog func = some F111 ∧ (func.name == "runtime.NumGoroutine") = false := ⟨Tryz.f111, Tryz.func111, by kernel_rfl, by kernel_rfl⟩
theorem g127 : ∃ func, Tryz.prog.funcs[127]? = some func ∧ cFunc Tryz.prog func = some F127 ∧ (func.name == "runtime.NumGoroutine") = false := ⟨Tryz.f127, Tryz.func127, by kernel_rfl, by kernel_rfl⟩
theorem g135 : ∃ func, Tryz.prog.funcs[135]? = some func ∧ cFunc Tryz.prog func = some F135 ∧ (func.name == "runtime.NumGoroutine") = false := ⟨Tryz.f135, Tryz.func135, by kernel_rfl, by kernel_rfl⟩
theorem g139 : ∃ func, Tryz.prog.funcs[139]? = some func ∧ cFunc Tryz.prog func = some F139 ∧ (func.name == "runtime.NumGoroutine") = false := ⟨Tryz.f139, Tryz.func139, by kernel_rfl, by kernel_rfl⟩
theorem g152 : ∃ func, Tryz.prog.funcs[152]? = some func ∧ cFunc Tryz.prog func = some F152 ∧ (func.name == "runtime.NumGoroutine") = false := ⟨Tryz.f152, Tryz.func152, by kernel_rfl, by kernel_rfl⟩
theorem g180 : ∃ func, Tryz.prog.funcs[180]? = some func ∧ cFunc Tryz.prog func = some F180 ∧ (func.name == "runtime.NumGoroutine") = false := ⟨Tryz.f180, Tryz.func180, by kernel_rfl, by kernel_rfl⟩
theorem g188 : ∃ func, Tryz.prog.funcs[188]? = some func ∧ cFunc Tryz.prog func = some F188 ∧ (func.name == "runtime.NumGoroutine") = false := ⟨Tryz.f188, Tryz.func188, by kernel_rfl, by kernel_rfl⟩
theorem g191 : ∃ func, Tryz.prog.funcs[191]? = some func ∧ cFunc Tryz.prog func = some F191 ∧ (func.name == "runtime.NumGoroutine") = false := ⟨Tryz.f191, Tryz.func191, by kernel_rfl, by kernel_rfl⟩
theorem g202 : ∃ func, Tryz.prog.funcs[202]? = some func ∧ cFunc Tryz.prog func = some F202 ∧ (func.name == "runtime.NumGoroutine") = false := ⟨Tryz.f202, Tryz.func202, by kernel_rfl, by kernel_rfl⟩
theorem g217 : ∃ func, Tryz.prog.funcs[217]? = some func ∧ cFunc Tryz.prog func = some F217 ∧ (func.name == "runtime.NumGoroutine") = false := ⟨Tryz.f217, Tryz.func217, by kernel_rfl, by kernel_rfl⟩
theorem g219 : ∃ func, Tryz.prog.funcs[219]? = some func ∧ cFunc Tryz.prog func = some F219 ∧ (func.name == "runtime.NumGoroutine") = false := ⟨Tryz.f219, Tryz.func219, by kernel_rfl, by kernel_rfl⟩
theorem g224 : ∃ func, Tryz.prog.funcs[224]? = some func ∧ cFunc Tryz.prog func = some F224 ∧ (func.name == "runtime.NumGoroutine") = false := ⟨Tryz.f224, Tryz.func224, by kernel_rfl, by kernel_rfl⟩
theorem g266 : ∃ func, Tryz.prog.funcs[266]? = some func ∧ cFunc Tryz.prog func = some F266 ∧ (func.name == "runtime.NumGoroutine") = false := ⟨Tryz.f266, Tryz.func266, by kernel_rfl, by kernel_rfl⟩
theorem g287 : ∃ func, Tryz.prog.funcs[287]? = some func ∧ cFunc Tryz.prog func = some F287 ∧ (func.name == "runtime.NumGoroutine") = false := ⟨Tryz.f287, Tryz.func287, by kernel_rfl, by kernel_rfl⟩
theorem g297 : ∃ func, Tryz.prog.funcs[297]? = some func ∧ cFunc Tryz.prog func = some F297 ∧ (func.name == "runtime.NumGoroutine") = false := ⟨Tryz.f297, Tryz.func297, by kernel_rfl, by kernel_rfl⟩
end Go.Proofs.YtndlfkibcelhmaaGreatDoor.Ai
end
