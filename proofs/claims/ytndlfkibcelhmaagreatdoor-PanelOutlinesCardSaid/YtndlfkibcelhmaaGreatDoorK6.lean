/- The table is the loaded program. -/
import Derived.Test.YtndlfkibcelhmaaGreatDoorB0
import Derived.Test.YtndlfkibcelhmaaGreatDoorA1
import Derived.Test.YtndlfkibcelhmaaGreatDoorA0
import Derived.Test.YtndlfkibcelhmaaGreatDoorProg
import Derived.KernelRfl
set_option linter.all false
section
set_option maxRecDepth 100000
namespace Go.Proofs.YtndlfkibcelhmaaGreatDoor.Ai
open Go Go.Proofs
theorem g19 : ∃ func, Tryz.prog.funcs[19]? = some func ∧ cFunc Tryz.prog func = some F19 ∧ (func.name == "runtime.NumGoroutine") = false := ⟨Tryz.f19, Tryz.func19, by kernel_rfl, by kernel_rfl⟩
theorem g21 : ∃ func, Tryz.prog.funcs[21]? = some func ∧ cFunc Tryz.prog func = some F21 ∧ (func.name == "runtime.NumGoroutine") = false := ⟨Tryz.f21, Tryz.func21, by kernel_rfl, by kernel_rfl⟩
theorem g25 : ∃ func, Tryz.prog.funcs[25]? = some func ∧ cFunc Tryz.prog func = some F25 ∧ (func.name == "runtime.NumGoroutine") = false := ⟨Tryz.f25, Tryz.func25, by kernel_rfl, by kernel_rfl⟩
theorem g69 : ∃ func, Tryz.prog.funcs[69]? = some func ∧ cFunc Tryz.prog func = some F69 ∧ (func.name == "runtime.NumGoroutine") = false := ⟨Tryz.f69, Tryz.func69, by kernel_rfl, by kernel_rfl⟩
theorem g89 : ∃ func, Tryz.prog.funcs[89]? = some func ∧ cFunc Tryz.prog func = some F89 ∧ (func.name == "runtime.NumGoroutine") = false := ⟨Tryz.f89, Tryz.func89, by kernel_rfl, by kernel_rfl⟩
theorem g93 : ∃ func, Tryz.prog.funcs[93]? = some func ∧ cFunc Tryz.prog func = some F93 ∧ (func.name == "runtime.NumGoroutine") = false := ⟨Tryz.f93, Tryz.func93, by kernel_rfl, by kernel_rfl⟩
theorem g110 : ∃ func, Tryz.prog.funcs[110]? = some func ∧ cFunc Tryz.prog func = some F110 ∧ (func.name == "runtime.NumGoroutine") = false := ⟨Tryz.f110, Tryz.func110, by kernel_rfl, by kernel_rfl⟩
theorem g118 : ∃ func, Tryz.prog.funcs[118]? = some func ∧ cFunc Tryz.prog func = some F118 ∧ (func.name == "runtime.NumGoroutine") = false := ⟨Tryz.f118, Tryz.func118, by kernel_rfl, by kernel_rfl⟩
theorem g120 : ∃ func, Tryz.prog.funcs[120]? = some func ∧ cFunc Tryz.prog func = some F120 ∧ (func.name == "runtime.NumGoroutine") = false := ⟨Tryz.f120, Tryz.func120, by kernel_rfl, by kernel_rfl⟩
theorem g171 : ∃ func, Tryz.prog.funcs[171]? = some func ∧ cFunc Tryz.prog func = some F171 ∧ (func.name == "runtime.NumGoroutine") = false := ⟨Tryz.f171, Tryz.func171, by kernel_rfl, by kernel_rfl⟩
theorem g175 : ∃ func, Tryz.prog.funcs[175]? = some func ∧ cFunc Tryz.prog func = some F175 ∧ (func.name == "runtime.NumGoroutine") = false := ⟨Tryz.f175, Tryz.func175, by kernel_rfl, by kernel_rfl⟩
theorem g187 : ∃ func, Tryz.prog.funcs[187]? = some func ∧ cFunc Tryz.prog func = some F187 ∧ (func.name == "runtime.NumGoroutine") = false := ⟨Tryz.f187, Tryz.func187, by kernel_rfl, by kernel_rfl⟩
theorem g197 : ∃ func, Tryz.prog.funcs[197]? = some func ∧ cFunc Tryz.prog func = some F197 ∧ (func.name == "runtime.NumGoroutine") = false := ⟨Tryz.f197, Tryz.func197, by kernel_rfl, by kernel_rfl⟩
theorem g198 : ∃ func, Tryz.prog.funcs[198]? = some func ∧ cFunc Tryz.prog func = some F198 ∧ (func.name == "runtime.NumGoroutine") = false := ⟨Tryz.f198, Tryz.func198, by kernel_rfl, by kernel_rfl⟩
theorem g206 : ∃ func, Tryz.prog.funcs[206]? = some func ∧ cFunc Tryz.prog func = some F206 ∧ (func.name == "runtime.NumGoroutine") = false := ⟨Tryz.f206, Tryz.func206, by kernel_rfl, by kernel_rfl⟩
theorem g215 : ∃ func, Tryz.prog.funcs[215]? = some func ∧ cFunc Tryz.prog func = some F215 ∧ (func.name == "runtime.NumGoroutine") = false := ⟨Tryz.f215, Tryz.func215, by kernel_rfl, by kernel_rfl⟩
theorem g221 : ∃ func, Tryz.prog.funcs[221]? = some func ∧ cFunc Tryz.prog func = some F221 ∧ (func.name == "runtime.NumGoroutine") = false := ⟨Tryz.f221, Tryz.func221, by kernel_rfl, by kernel_rfl⟩
theorem g232 : ∃ func, Tryz.prog.funcs[232]? = some func ∧ cFunc Tryz.prog func = some F232 ∧ (func.name == "runtime.NumGoroutine") = false := ⟨Tryz.f232, Tryz.func232, by kernel_rfl, by kernel_rfl⟩
theorem g238 : ∃ func, Tryz.prog.funcs[238]? = some func ∧ cFunc Tryz.prog func = some F238 ∧ (func.name == "runtime.NumGoroutine") = false := ⟨Tryz.f238, Tryz.func238, by kernel_rfl, by kernel_rfl⟩
theorem g270 : ∃ func, Tryz.prog.funcs[270]? = some func ∧ cFunc Tryz.prog func = some F270 ∧ (func.name == "runtime.NumGoroutine") = false := ⟨Tryz.f270, Tryz.func270, by kernel_rfl, by kernel_rfl⟩
theorem g284 : ∃ func, Tryz.prog.funcs[284]? = some func ∧ cFunc Tryz.prog func = some F284 ∧ (func.name == "runtime.NumGoroutine") = false := ⟨Tryz.f284, Tryz.func284, by kernel_rfl, by kernel_rfl⟩
theorem g301 : ∃ func, Tryz.prog.funcs[301]? = some func ∧ cFunc Tryz.prog func = some F301 ∧ (func.name == "runtime.NumGoroutine") = false := ⟨Tryz.f301, Tryz.func301, by kernel_rfl, by kernel_rfl⟩
end Go.Proofs.YtndlfkibcelhmaaGreatDoor.Ai
end
