/- The table is the loaded program. -/
import Derived.Test.YtndlfkibcelhmaaGreatDoorB0
import Derived.Test.YtndlfkibcelhmaaGreatDoorA1
import Derived.Test.YtndlfkibcelhmaaGreatDoorA0
import Derived.Test.YtndlfkibcelhmaaGreatDoorProg
import Derived.KernelRfl
set_option linter.all false
section
set_option maxRecDepth 100000
namespace Go.Proofs.YtndlfkibcelhmaaGreatDoor.Ai
open Go Go.Proofs
theorem g25 : ∃ func, Tryz.prog.funcs[25]? = some func ∧ cFunc Tryz.prog func = some F25 ∧ (func.name == "runtime.NumGoroutine") = false := ⟨Tryz.f25, Tryz.func25, by kernel_rfl, by kernel_rfl⟩
theorem g31 : ∃ func, Tryz.prog.funcs[31]? = some func ∧ cFunc Tryz.prog func = some F31 ∧ (func.name == "runtime.NumGoroutine") = false := ⟨Tryz.f31, Tryz.func31, by kernel_rfl, by kernel_rfl⟩
theorem g49 : ∃ func, Tryz.prog.funcs[49]? = some func ∧ cFunc Tryz.prog func = some F49 ∧ (func.name == "runtime.NumGoroutine") = false := ⟨Tryz.f49, Tryz.func49, by kernel_rfl, by kernel_rfl⟩
theorem g56 : ∃ func, Tryz.prog.funcs[56]? = some func ∧ cFunc Tryz.prog func = some F56 ∧ (func.name == "runtime.NumGoroutine") = false := ⟨Tryz.f56, Tryz.func56, by kernel_rfl, by kernel_rfl⟩
theorem g64 : ∃ func, Tryz.prog.funcs[64]? = some func ∧ cFunc Tryz.prog func = some F64 ∧ (func.name == "runtime.NumGoroutine") = false := ⟨Tryz.f64, Tryz.func64, by kernel_rfl, by kernel_rfl⟩
theorem g86 : ∃ func, Tryz.prog.funcs[86]? = some func ∧ cFunc Tryz.prog func = some F86 ∧ (func.name == "runtime.NumGoroutine") = false := ⟨Tryz.f86, Tryz.func86, by kernel_rfl, by kernel_rfl⟩
theorem g105 : ∃ func, Tryz.prog.funcs[105]? = some func ∧ cFunc Tryz.prog func = some F105 ∧ (func.name == "runtime.NumGoroutine") = false := ⟨Tryz.f105, Tryz.func105, by kernel_rfl, by kernel_rfl⟩
theorem g112 : ∃ func, Tryz.prog.funcs[112]? = some func ∧ cFunc Tryz.prog func = some F112 ∧ (func.name == "runtime.NumGoroutine") = false := ⟨Tryz.f112, Tryz.func112, by kernel_rfl, by kernel_rfl⟩
theorem g114 : ∃ func, Tryz.prog.funcs[114]? = some func ∧ cFunc Tryz.prog func = some F114 ∧ (func.name == "runtime.NumGoroutine") = false := ⟨Tryz.f114, Tryz.func114, by kernel_rfl, by kernel_rfl⟩
theorem g145 : ∃ func, Tryz.prog.funcs[145]? = some func ∧ cFunc Tryz.prog func = some F145 ∧ (func.name == "runtime.NumGoroutine") = false := ⟨Tryz.f145, Tryz.func145, by kernel_rfl, by kernel_rfl⟩
theorem g148 : ∃ func, Tryz.prog.funcs[148]? = some func ∧ cFunc Tryz.prog func = some F148 ∧ (func.name == "runtime.NumGoroutine") = false := ⟨Tryz.f148, Tryz.func148, by kernel_rfl, by kernel_rfl⟩
theorem g171 : ∃ func, Tryz.prog.funcs[171]? = some func ∧ cFunc Tryz.prog func = some F171 ∧ (func.name == "runtime.NumGoroutine") = false := ⟨Tryz.f171, Tryz.func171, by kernel_rfl, by kernel_rfl⟩
theorem g190 : ∃ func, Tryz.prog.funcs[190]? = some func ∧ cFunc Tryz.prog func = some F190 ∧ (func.name == "runtime.NumGoroutine") = false := ⟨Tryz.f190, Tryz.func190, by kernel_rfl, by kernel_rfl⟩
theorem g191 : ∃ func, Tryz.prog.funcs[191]? = some func ∧ cFunc Tryz.prog func = some F191 ∧ (func.name == "runtime.NumGoroutine") = false := ⟨Tryz.f191, Tryz.func191, by kernel_rfl, by kernel_rfl⟩
theorem g195 : ∃ func, Tryz.prog.funcs[195]? = some func ∧ cFunc Tryz.prog func = some F195 ∧ (func.name == "runtime.NumGoroutine") = false := ⟨Tryz.f195, Tryz.func195, by kernel_rfl, by kernel_rfl⟩
theorem g199 : ∃ func, Tryz.prog.funcs[199]? = some func ∧ cFunc Tryz.prog func = some F199 ∧ (func.name == "runtime.NumGoroutine") = false := ⟨Tryz.f199, Tryz.func199, by kernel_rfl, by kernel_rfl⟩
theorem g215 : ∃ func, Tryz.prog.funcs[215]? = some func ∧ cFunc Tryz.prog func = some F215 ∧ (func.name == "runtime.NumGoroutine") = false := ⟨Tryz.f215, Tryz.func215, by kernel_rfl, by kernel_rfl⟩
theorem g217 : ∃ func, Tryz.prog.funcs[217]? = some func ∧ cFunc Tryz.prog func = some F217 ∧ (func.name == "runtime.NumGoroutine") = false := ⟨Tryz.f217, Tryz.func217, by kernel_rfl, by kernel_rfl⟩
theorem g222 : ∃ func, Tryz.prog.funcs[222]? = some func ∧ cFunc Tryz.prog func = some F222 ∧ (func.name == "runtime.NumGoroutine") = false := ⟨Tryz.f222, Tryz.func222, by kernel_rfl, by kernel_rfl⟩
theorem g284 : ∃ func, Tryz.prog.funcs[284]? = some func ∧ cFunc Tryz.prog func = some F284 ∧ (func.name == "runtime.NumGoroutine") = false := ⟨Tryz.f284, Tryz.func284, by kernel_rfl, by kernel_rfl⟩
theorem g293 : ∃ func, Tryz.prog.funcs[293]? = some func ∧ cFunc Tryz.prog func = some F293 ∧ (func.name == "runtime.NumGoroutine") = false := ⟨Tryz.f293, Tryz.func293, by kernel_rfl, by kernel_rfl⟩
theorem g297 : ∃ func, Tryz.prog.funcs[297]? = some func ∧ cFunc Tryz.prog func = some F297 ∧ (func.name == "runtime.NumGoroutine") = false := ⟨Tryz.f297, Tryz.func297, by kernel_rfl, by kernel_rfl⟩
end Go.Proofs.YtndlfkibcelhmaaGreatDoor.Ai
end
