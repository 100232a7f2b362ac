/- The table is the loaded program. -/
import Derived.Test.YtndlfkibcelhmaaGreatDoorB1
import Derived.Test.YtndlfkibcelhmaaGreatDoorA1
import Derived.Test.YtndlfkibcelhmaaGreatDoorA0
import Derived.Test.YtndlfkibcelhmaaGreatDoorProg
import Derived.KernelRfl
set_option linter.all false
section
set_option maxRecDepth 100000
namespace Go.Proofs.YtndlfkibcelhmaaGreatDoor.Ai
open Go Go.Proofs
theorem g20 : ∃ func, Tryz.prog.funcs[20]? = some func ∧ cFunc Tryz.prog func = some F20 ∧ (func.name == "runtime.NumGoroutine") = false := ⟨Tryz.f20, Tryz.func20, by kernel_rfl, by kernel_rfl⟩
theorem g22 : ∃ func, Tryz.prog.funcs[22]? = some func ∧ cFunc Tryz.prog func = some F22 ∧ (func.name == "runtime.NumGoroutine") = false := ⟨Tryz.f22, Tryz.func22, by kernel_rfl, by kernel_rfl⟩
theorem g41 : ∃ func, Tryz.prog.funcs[41]? = some func ∧ cFunc Tryz.prog func = some F41 ∧ (func.name == "runtime.NumGoroutine") = false := ⟨Tryz.f41, Tryz.func41, by kernel_rfl, by kernel_rfl⟩
theorem g45 : ∃ func, Tryz.prog.funcs[45]? = some func ∧ cFunc Tryz.prog func = some F45 ∧ (func.name == "runtime.NumGoroutine") = false := ⟨Tryz.f45, Tryz.func45, by kernel_rfl, by kernel_rfl⟩
theorem g49 : ∃ func, Tryz.prog.funcs[49]? = some func ∧ cFunc Tryz.prog func = some F49 ∧ (func.name == "runtime.NumGoroutine") = false := ⟨Tryz.f49, Tryz.func49, by kernel_rfl, by kernel_rfl⟩
theorem g61 : ∃ func, Tryz.prog.funcs[61]? = some func ∧ cFunc Tryz.prog func = some F61 ∧ (func.name == "runtime.NumGoroutine") = false := ⟨Tryz.f61, Tryz.func61, by kernel_rfl, by kernel_rfl⟩
theorem g63 : ∃ func, Tryz.prog.funcs[63]? = some func ∧ cFunc Tryz.prog func = some F63 ∧ (func.name == "runtime.NumGoroutine") = false := ⟨Tryz.f63, Tryz.func63, by kernel_rfl, by kernel_rfl⟩
theorem g87 : ∃ func, Tryz.prog.funcs[87]? = some func ∧ cFunc Tryz.prog func = some F87 ∧ (func.name == "runtime.NumGoroutine") = false := ⟨Tryz.f87, Tryz.func87, by kernel_rfl, by kernel_rfl⟩
theorem g88 : ∃ func, Tryz.prog.funcs[88]? = some func ∧ cFunc Tryz.prog func = some F88 ∧ (func.name == "runtime.NumGoroutine") = false := ⟨Tryz.f88, Tryz.func88, by kernel_rfl, by kernel_rfl⟩
theorem g105 : ∃ func, Tryz.prog.funcs[105]? = some func ∧ cFunc Tryz.prog func = some F105 ∧ (func.name == "runtime.NumGoroutine") = false := ⟨Tryz.f105, Tryz.func105, by kernel_rfl, by kernel_rfl⟩
theorem g111 : ∃ func, Tryz.prog.funcs[111]? = some func ∧ cFunc Tryz.prog func = some F111 ∧ (func.name == "runtime.NumGoroutine") = false := ⟨Tryz.f111, Tryz.func111, by kernel_rfl, by kernel_rfl⟩
theorem g124 : ∃ func, Tryz.prog.funcs[124]? = some func ∧ cFunc Tryz.prog func = some F124 ∧ (func.name == "runtime.NumGoroutine") = false := ⟨Tryz.f124, Tryz.func124, by kernel_rfl, by kernel_rfl⟩
theorem g138 : ∃ func, Tryz.prog.funcs[138]? = some func ∧ cFunc Tryz.prog func = some F138 ∧ (func.name == "runtime.NumGoroutine") = false := ⟨Tryz.f138, Tryz.func138, by kernel_rfl, by kernel_rfl⟩
theorem g140 : ∃ func, Tryz.prog.funcs[140]? = some func ∧ cFunc Tryz.prog func = some F140 ∧ (func.name == "runtime.NumGoroutine") = false := ⟨Tryz.f140, Tryz.func140, by kernel_rfl, by kernel_rfl⟩
theorem g182 : ∃ func, Tryz.prog.funcs[182]? = some func ∧ cFunc Tryz.prog func = some F182 ∧ (func.name == "runtime.NumGoroutine") = false := ⟨Tryz.f182, Tryz.func182, by kernel_rfl, by kernel_rfl⟩
theorem g200 : ∃ func, Tryz.prog.funcs[200]? = some func ∧ cFunc Tryz.prog func = some F200 ∧ (func.name == "runtime.NumGoroutine") = false := ⟨Tryz.f200, Tryz.func200, by kernel_rfl, by kernel_rfl⟩
theorem g201 : ∃ func, Tryz.prog.funcs[201]? = some func ∧ cFunc Tryz.prog func = some F201 ∧ (func.name == "runtime.NumGoroutine") = false := ⟨Tryz.f201, Tryz.func201, by kernel_rfl, by kernel_rfl⟩
theorem g202 : ∃ func, Tryz.prog.funcs[202]? = some func ∧ cFunc Tryz.prog func = some F202 ∧ (func.name == "runtime.NumGoroutine") = false := ⟨Tryz.f202, Tryz.func202, by kernel_rfl, by kernel_rfl⟩
theorem g207 : ∃ func, Tryz.prog.funcs[207]? = some func ∧ cFunc Tryz.prog func = some F207 ∧ (func.name == "runtime.NumGoroutine") = false := ⟨Tryz.f207, Tryz.func207, by kernel_rfl, by kernel_rfl⟩
theorem g227 : ∃ func, Tryz.prog.funcs[227]? = some func ∧ cFunc Tryz.prog func = some F227 ∧ (func.name == "runtime.NumGoroutine") = false := ⟨Tryz.f227, Tryz.func227, by kernel_rfl, by kernel_rfl⟩
theorem g300 : ∃ func, Tryz.prog.funcs[300]? = some func ∧ cFunc Tryz.prog func = some F300 ∧ (func.name == "runtime.NumGoroutine") = false := ⟨Tryz.f300, Tryz.func300, by kernel_rfl, by kernel_rfl⟩
end Go.Proofs.YtndlfkibcelhmaaGreatDoor.Ai
end
