/- The table is the loaded program. -/
import Derived.Test.YtndlfkibcelhmaaGreatDoorB0
import Derived.Test.YtndlfkibcelhmaaGreatDoorA1
import Derived.Test.YtndlfkibcelhmaaGreatDoorA0
import Derived.Test.YtndlfkibcelhmaaGreatDoorProg
import Derived.KernelRfl
set_option linter.all false
section
set_option maxRecDepth 100000
namespace Go.Proofs.YtndlfkibcelhmaaGreatDoor.Ai
open Go Go.Proofs
theorem g27 : ∃ func, Tryz.prog.funcs[27]? = some func ∧ cFunc Tryz.prog func = some F27 ∧ (func.name == "runtime.NumGoroutine") = false := ⟨Tryz.f27, Tryz.func27, by kernel_rfl, by kernel_rfl⟩
theorem g41 : ∃ func, Tryz.prog.funcs[41]? = some func ∧ cFunc Tryz.prog func = some F41 ∧ (func.name == "runtime.NumGoroutine") = false := ⟨Tryz.f41, Tryz.func41, by kernel_rfl, by kernel_rfl⟩
theorem g44 : ∃ func, Tryz.prog.funcs[44]? = some func ∧ cFunc Tryz.prog func = some F44 ∧ (func.name == "runtime.NumGoroutine") = false := ⟨Tryz.f44, Tryz.func44, by kernel_rfl, by kernel_rfl⟩
theorem g56 : ∃ func, Tryz.prog.funcs[56]? = some func ∧ cFunc Tryz.prog func = some F56 ∧ (func.name == "runtime.NumGoroutine") = false := ⟨Tryz.f56, Tryz.func56, by kernel_rfl, by kernel_rfl⟩
theorem g61 : ∃ func, Tryz.prog.funcs[61]? = some func ∧ cFunc Tryz.prog func = some F61 ∧ (func.name == "runtime.NumGoroutine") = false := ⟨Tryz.f61, Tryz.func61, by kernel_rfl, by kernel_rfl⟩
theorem g76 : ∃ func, Tryz.prog.funcs[76]? = some func ∧ cFunc Tryz.prog func = some F76 ∧ (func.name == "runtime.NumGoroutine") = false := ⟨Tryz.f76, Tryz.func76, by kernel_rfl, by kernel_rfl⟩
theorem g94 : ∃ func, Tryz.prog.funcs[94]? = some func ∧ cFunc Tryz.prog func = some F94 ∧ (func.name == "runtime.NumGoroutine") = false := ⟨Tryz.f94, Tryz.func94, by kernel_rfl, by kernel_rfl⟩
theorem g133 : ∃ func, Tryz.prog.funcs[133]? = some func ∧ cFunc Tryz.prog func = some F133 ∧ (func.name == "runtime.NumGoroutine") = false := ⟨Tryz.f133, Tryz.func133, by kernel_rfl, by kernel_rfl⟩
theorem g145 : ∃ func, Tryz.prog.funcs[145]? = some func ∧ cFunc Tryz.prog func = some F145 ∧ (func.name == "runtime.NumGoroutine") = false := ⟨Tryz.f145, Tryz.func145, by kernel_rfl, by kernel_rfl⟩
theorem g163 : ∃ func, Tryz.prog.funcs[163]? = some func ∧ cFunc Tryz.prog func = some F163 ∧ (func.name == "runtime.NumGoroutine") = false := ⟨Tryz.f163, Tryz.func163, by kernel_rfl, by kernel_rfl⟩
theorem g178 : ∃ func, Tryz.prog.funcs[178]? = some func ∧ cFunc Tryz.prog func = some F178 ∧ (func.name == "runtime.NumGoroutine") = false := ⟨Tryz.f178, Tryz.func178, by kernel_rfl, by kernel_rfl⟩
theorem g214 : ∃ func, Tryz.prog.funcs[214]? = some func ∧ cFunc Tryz.prog func = some F214 ∧ (func.name == "runtime.NumGoroutine") = false := ⟨Tryz.f214, Tryz.func214, by kernel_rfl, by kernel_rfl⟩
theorem g222 : ∃ func, Tryz.prog.funcs[222]? = some func ∧ cFunc Tryz.prog func = some F222 ∧ (func.name == "runtime.NumGoroutine") = false := ⟨Tryz.f222, Tryz.func222, by kernel_rfl, by kernel_rfl⟩
theorem g224 : ∃ func, Tryz.prog.funcs[224]? = some func ∧ cFunc Tryz.prog func = some F224 ∧ (func.name == "runtime.NumGoroutine") = false := ⟨Tryz.f224, Tryz.func224, by kernel_rfl, by kernel_rfl⟩
theorem g234 : ∃ func, Tryz.prog.funcs[234]? = some func ∧ cFunc Tryz.prog func = some F234 ∧ (func.name == "runtime.NumGoroutine") = false := ⟨Tryz.f234, Tryz.func234, by kernel_rfl, by kernel_rfl⟩
theorem g236 : ∃ func, Tryz.prog.funcs[236]? = some func ∧ cFunc Tryz.prog func = some F236 ∧ (func.name == "runtime.NumGoroutine") = false := ⟨Tryz.f236, Tryz.func236, by kernel_rfl, by kernel_rfl⟩
theorem g243 : ∃ func, Tryz.prog.funcs[243]? = some func ∧ cFunc Tryz.prog func = some F243 ∧ (func.name == "runtime.NumGoroutine") = false := ⟨Tryz.f243, Tryz.func243, by kernel_rfl, by kernel_rfl⟩
theorem g264 : ∃ func, Tryz.prog.funcs[264]? = some func ∧ cFunc Tryz.prog func = some F264 ∧ (func.name == "runtime.NumGoroutine") = false := ⟨Tryz.f264, Tryz.func264, by kernel_rfl, by kernel_rfl⟩
theorem g285 : ∃ func, Tryz.prog.funcs[285]? = some func ∧ cFunc Tryz.prog func = some F285 ∧ (func.name == "runtime.NumGoroutine") = false := ⟨Tryz.f285, Tryz.func285, by kernel_rfl, by kernel_rfl⟩
theorem g289 : ∃ func, Tryz.prog.funcs[289]? = some func ∧ cFunc Tryz.prog func = some F289 ∧ (func.name == "runtime.NumGoroutine") = false := ⟨Tryz.f289, Tryz.func289, by kernel_rfl, by kernel_rfl⟩
theorem g290 : ∃ func, Tryz.prog.funcs[290]? = some func ∧ cFunc Tryz.prog func = some F290 ∧ (func.name == "runtime.NumGoroutine") = false := ⟨Tryz.f290, Tryz.func290, by kernel_rfl, by kernel_rfl⟩
theorem g296 : ∃ func, Tryz.prog.funcs[296]? = some func ∧ cFunc Tryz.prog func = some F296 ∧ (func.name == "runtime.NumGoroutine") = false := ⟨Tryz.f296, Tryz.func296, by kernel_rfl, by kernel_rfl⟩
end Go.Proofs.YtndlfkibcelhmaaGreatDoor.Ai
end
