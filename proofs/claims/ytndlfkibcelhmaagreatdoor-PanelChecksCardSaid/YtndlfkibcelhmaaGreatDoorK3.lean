/- The table is the loaded program. -/
import Derived.Test.YtndlfkibcelhmaaGreatDoorB1
import Derived.Test.YtndlfkibcelhmaaGreatDoorA1
import Derived.Test.YtndlfkibcelhmaaGreatDoorA0
import Derived.Test.YtndlfkibcelhmaaGreatDoorProg
import Derived.KernelRfl
set_option linter.all false
section
set_option maxRecDepth 100000
namespace Go.Proofs.YtndlfkibcelhmaaGreatDoor.Ai
open Go Go.Proofs
theorem g27 : ∃ func, Tryz.prog.funcs[27]? = some func ∧ cFunc Tryz.prog func = some F27 ∧ (func.name == "runtime.NumGoroutine") = false := ⟨Tryz.f27, Tryz.func27, by kernel_rfl, by kernel_rfl⟩
theorem g31 : ∃ func, Tryz.prog.funcs[31]? = some func ∧ cFunc Tryz.prog func = some F31 ∧ (func.name == "runtime.NumGoroutine") = false := ⟨Tryz.f31, Tryz.func31, by kernel_rfl, by kernel_rfl⟩
theorem g36 : ∃ func, Tryz.prog.funcs[36]? = some func ∧ cFunc Tryz.prog func = some F36 ∧ (func.name == "runtime.NumGoroutine") = false := ⟨Tryz.f36, Tryz.func36, by kernel_rfl, by kernel_rfl⟩
theorem g106 : ∃ func, Tryz.prog.funcs[106]? = some func ∧ cFunc Tryz.prog func = some F106 ∧ (func.name == "runtime.NumGoroutine") = false := ⟨Tryz.f106, Tryz.func106, by kernel_rfl, by kernel_rfl⟩
theorem g109 : ∃ func, Tryz.prog.funcs[109]? = some func ∧ cFunc Tryz.prog func = some F109 ∧ (func.name == "runtime.NumGoroutine") = false := ⟨Tryz.f109, Tryz.func109, by kernel_rfl, by kernel_rfl⟩
theorem g118 : ∃ func, Tryz.prog.funcs[118]? = some func ∧ cFunc Tryz.prog func = some F118 ∧ (func.name == "runtime.NumGoroutine") = false := ⟨Tryz.f118, Tryz.func118, by kernel_rfl, by kernel_rfl⟩
theorem g119 : ∃ func, Tryz.prog.funcs[119]? = some func ∧ cFunc Tryz.prog func = some F119 ∧ (func.name == "runtime.NumGoroutine") = false := ⟨Tryz.f119, Tryz.func119, by kernel_rfl, by kernel_rfl⟩
theorem g133 : ∃ func, Tryz.prog.funcs[133]? = some func ∧ cFunc Tryz.prog func = some F133 ∧ (func.name == "runtime.NumGoroutine") = false := ⟨Tryz.f133, Tryz.func133, by kernel_rfl, by kernel_rfl⟩
theorem g139 : ∃ func, Tryz.prog.funcs[139]? = some func ∧ cFunc Tryz.prog func = some F139 ∧ (func.name == "runtime.NumGoroutine") = false := ⟨Tryz.f139, Tryz.func139, by kernel_rfl, by kernel_rfl⟩
theorem g150 : ∃ func, Tryz.prog.funcs[150]? = some func ∧ cFunc Tryz.prog func = some F150 ∧ (func.name == "runtime.NumGoroutine") = false := ⟨Tryz.f150, Tryz.func150, by kernel_rfl, by kernel_rfl⟩
theorem g151 : ∃ func, Tryz.prog.funcs[151]? = some func ∧ cFunc Tryz.prog func = some F151 ∧ (func.name == "runtime.NumGoroutine") = false := ⟨Tryz.f151, Tryz.func151, by kernel_rfl, by kernel_rfl⟩
theorem g166 : ∃ func, Tryz.prog.funcs[166]? = some func ∧ cFunc Tryz.prog func = some F166 ∧ (func.name == "runtime.NumGoroutine") = false := ⟨Tryz.f166, Tryz.func166, by kernel_rfl, by kernel_rfl⟩
theorem g169 : ∃ func, Tryz.prog.funcs[169]? = some func ∧ cFunc Tryz.prog func = some F169 ∧ (func.name == "runtime.NumGoroutine") = false := ⟨Tryz.f169, Tryz.func169, by kernel_rfl, by kernel_rfl⟩
theorem g172 : ∃ func, Tryz.prog.funcs[172]? = some func ∧ cFunc Tryz.prog func = some F172 ∧ (func.name == "runtime.NumGoroutine") = false := ⟨Tryz.f172, Tryz.func172, by kernel_rfl, by kernel_rfl⟩
theorem g184 : ∃ func, Tryz.prog.funcs[184]? = some func ∧ cFunc Tryz.prog func = some F184 ∧ (func.name == "runtime.NumGoroutine") = false := ⟨Tryz.f184, Tryz.func184, by kernel_rfl, by kernel_rfl⟩
theorem g185 : ∃ func, Tryz.prog.funcs[185]? = some func ∧ cFunc Tryz.prog func = some F185 ∧ (func.name == "runtime.NumGoroutine") = false := ⟨Tryz.f185, Tryz.func185, by kernel_rfl, by kernel_rfl⟩
theorem g197 : ∃ func, Tryz.prog.funcs[197]? = some func ∧ cFunc Tryz.prog func = some F197 ∧ (func.name == "runtime.NumGoroutine") = false := ⟨Tryz.f197, Tryz.func197, by kernel_rfl, by kernel_rfl⟩
theorem g226 : ∃ func, Tryz.prog.funcs[226]? = some func ∧ cFunc Tryz.prog func = some F226 ∧ (func.name == "runtime.NumGoroutine") = false := ⟨Tryz.f226, Tryz.func226, by kernel_rfl, by kernel_rfl⟩
theorem g272 : ∃ func, Tryz.prog.funcs[272]? = some func ∧ cFunc Tryz.prog func = some F272 ∧ (func.name == "runtime.NumGoroutine") = false := ⟨Tryz.f272, Tryz.func272, by kernel_rfl, by kernel_rfl⟩
theorem g287 : ∃ func, Tryz.prog.funcs[287]? = some func ∧ cFunc Tryz.prog func = some F287 ∧ (func.name == "runtime.NumGoroutine") = false := ⟨Tryz.f287, Tryz.func287, by kernel_rfl, by kernel_rfl⟩
theorem g291 : ∃ func, Tryz.prog.funcs[291]? = some func ∧ cFunc Tryz.prog func = some F291 ∧ (func.name == "runtime.NumGoroutine") = false := ⟨Tryz.f291, Tryz.func291, by kernel_rfl, by kernel_rfl⟩
end Go.Proofs.YtndlfkibcelhmaaGreatDoor.Ai
end
