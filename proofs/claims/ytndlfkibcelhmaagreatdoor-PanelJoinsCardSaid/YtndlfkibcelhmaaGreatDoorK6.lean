/- The table is the loaded program. -/
import Derived.Test.YtndlfkibcelhmaaGreatDoorB0
import Derived.Test.YtndlfkibcelhmaaGreatDoorA1
import Derived.Test.YtndlfkibcelhmaaGreatDoorA0
import Derived.Test.YtndlfkibcelhmaaGreatDoorProg
import Derived.KernelRfl
set_option linter.all false
section
set_option maxRecDepth 100000
namespace Go.Proofs.YtndlfkibcelhmaaGreatDoor.Ai
open Go Go.Proofs
theorem g6 : ∃ func, Tryz.prog.funcs[6]? = some func ∧ cFunc Tryz.prog func = some F6 ∧ (func.name == "runtime.NumGoroutine") = false := ⟨Tryz.f6, Tryz.func6, by kernel_rfl, by kernel_rfl⟩
theorem g22 : ∃ func, Tryz.prog.funcs[22]? = some func ∧ cFunc Tryz.prog func = some F22 ∧ (func.name == "runtime.NumGoroutine") = false := ⟨Tryz.f22, Tryz.func22, by kernel_rfl, by kernel_rfl⟩
theorem g28 : ∃ func, Tryz.prog.funcs[28]? = some func ∧ cFunc Tryz.prog func = some F28 ∧ (func.name == "runtime.NumGoroutine") = false := ⟨Tryz.f28, Tryz.func28, by kernel_rfl, by kernel_rfl⟩
theorem g38 : ∃ func, Tryz.prog.funcs[38]? = some func ∧ cFunc Tryz.prog func = some F38 ∧ (func.name == "runtime.NumGoroutine") = false := ⟨Tryz.f38, Tryz.func38, by kernel_rfl, by kernel_rfl⟩
theorem g64 : ∃ func, Tryz.prog.funcs[64]? = some func ∧ cFunc Tryz.prog func = some F64 ∧ (func.name == "runtime.NumGoroutine") = false := ⟨Tryz.f64, Tryz.func64, by kernel_rfl, by kernel_rfl⟩
theorem g73 : ∃ func, Tryz.prog.funcs[73]? = some func ∧ cFunc Tryz.prog func = some F73 ∧ (func.name == "runtime.NumGoroutine") = false := ⟨Tryz.f73, Tryz.func73, by kernel_rfl, by kernel_rfl⟩
theorem g101 : ∃ func, Tryz.prog.funcs[101]? = some func ∧ cFunc Tryz.prog func = some F101 ∧ (func.name == "runtime.NumGoroutine") = false := ⟨Tryz.f101, Tryz.func101, by kernel_rfl, by kernel_rfl⟩
theorem g105 : ∃ func, Tryz.prog.funcs[105]? = some func ∧ cFunc Tryz.prog func = some F105 ∧ (func.name == "runtime.NumGoroutine") = false := ⟨Tryz.f105, Tryz.func105, by kernel_rfl, by kernel_rfl⟩
theorem g106 : ∃ func, Tryz.prog.funcs[106]? = some func ∧ cFunc Tryz.prog func = some F106 ∧ (func.name == "runtime.NumGoroutine") = false := ⟨Tryz.f106, Tryz.func106, by kernel_rfl, by kernel_rfl⟩
theorem g113 : ∃ func, Tryz.prog.funcs[113]? = some func ∧ cFunc Tryz.prog func = some F113 ∧ (func.name == "runtime.NumGoroutine") = false := ⟨Tryz.f113, Tryz.func113, by kernel_rfl, by kernel_rfl⟩
theorem g119 : ∃ func, Tryz.prog.funcs[119]? = some func ∧ cFunc Tryz.prog func = some F119 ∧ (func.name == "runtime.NumGoroutine") = false := ⟨Tryz.f119, Tryz.func119, by kernel_rfl, by kernel_rfl⟩
theorem g120 : ∃ func, Tryz.prog.funcs[120]? = some func ∧ cFunc Tryz.prog func = some F120 ∧ (func.name == "runtime.NumGoroutine") = false := ⟨Tryz.f120, Tryz.func120, by kernel_rfl, by kernel_rfl⟩
theorem g122 : ∃ func, Tryz.prog.funcs[122]? = some func ∧ cFunc Tryz.prog func = some F122 ∧ (func.name == "runtime.NumGoroutine") = false := ⟨Tryz.f122, Tryz.func122, by kernel_rfl, by kernel_rfl⟩
theorem g134 : ∃ func, Tryz.prog.funcs[134]? = some func ∧ cFunc Tryz.prog func = some F134 ∧ (func.name == "runtime.NumGoroutine") = false := ⟨Tryz.f134, Tryz.func134, by kernel_rfl, by kernel_rfl⟩
theorem g162 : ∃ func, Tryz.prog.funcs[162]? = some func ∧ cFunc Tryz.prog func = some F162 ∧ (func.name == "runtime.NumGoroutine") = false := ⟨Tryz.f162, Tryz.func162, by kernel_rfl, by kernel_rfl⟩
theorem g168 : ∃ func, Tryz.prog.funcs[168]? = some func ∧ cFunc Tryz.prog func = some F168 ∧ (func.name == "runtime.NumGoroutine") = false := ⟨Tryz.f168, Tryz.func168, by kernel_rfl, by kernel_rfl⟩
theorem g179 : ∃ func, Tryz.prog.funcs[179]? = some func ∧ cFunc Tryz.prog func = some F179 ∧ (func.name == "runtime.NumGoroutine") = false := ⟨Tryz.f179, Tryz.func179, by kernel_rfl, by kernel_rfl⟩
theorem g190 : ∃ func, Tryz.prog.funcs[190]? = some func ∧ cFunc Tryz.prog func = some F190 ∧ (func.name == "runtime.NumGoroutine") = false := ⟨Tryz.f190, Tryz.func190, by kernel_rfl, by kernel_rfl⟩
theorem g200 : ∃ func, Tryz.prog.funcs[200]? = some func ∧ cFunc Tryz.prog func = some F200 ∧ (func.name == "runtime.NumGoroutine") = false := ⟨Tryz.f200, Tryz.func200, by kernel_rfl, by kernel_rfl⟩
theorem g227 : ∃ func, Tryz.prog.funcs[227]? = some func ∧ cFunc Tryz.prog func = some F227 ∧ (func.name == "runtime.NumGoroutine") = false := ⟨Tryz.f227, Tryz.func227, by kernel_rfl, by kernel_rfl⟩
theorem g241 : ∃ func, Tryz.prog.funcs[241]? = some func ∧ cFunc Tryz.prog func = some F241 ∧ (func.name == "runtime.NumGoroutine") = false := ⟨Tryz.f241, Tryz.func241, by kernel_rfl, by kernel_rfl⟩
theorem g285 : ∃ func, Tryz.prog.funcs[285]? = some func ∧ cFunc Tryz.prog func = some F285 ∧ (func.name == "runtime.NumGoroutine") = false := ⟨Tryz.f285, Tryz.func285, by kernel_rfl, by kernel_rfl⟩
end Go.Proofs.YtndlfkibcelhmaaGreatDoor.Ai
end
