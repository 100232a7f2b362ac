/- The table is the loaded program. -/
import Derived.Test.YtndlfkibcelhmaaGreatDoorB0
import Derived.Test.YtndlfkibcelhmaaGreatDoorA1
import Derived.Test.YtndlfkibcelhmaaGreatDoorA0
import Derived.Test.YtndlfkibcelhmaaGreatDoorProg
import Derived.KernelRfl
set_option linter.all false
section
set_option maxRecDepth 100000
namespace Go.Proofs.YtndlfkibcelhmaaGreatDoor.Ai
open Go Go.Proofs
theorem g26 : ∃ func, Tryz.prog.funcs[26]? = some func ∧ cFunc Tryz.prog func = some F26 ∧ (func.name == "runtime.NumGoroutine") = false := ⟨Tryz.f26, Tryz.func26, by kernel_rfl, by kernel_rfl⟩
theorem g42 : ∃ func, Tryz.prog.funcs[42]? = some func ∧ cFunc Tryz.prog func = some F42 ∧ (func.name == "runtime.NumGoroutine") = false := ⟨Tryz.f42, Tryz.func42, by kernel_rfl, by kernel_rfl⟩
theorem g58 : ∃ func, Tryz.prog.funcs[58]? = some func ∧ cFunc Tryz.prog func = some F58 ∧ (func.name == "runtime.NumGoroutine") = false := ⟨Tryz.f58, Tryz.func58, by kernel_rfl, by kernel_rfl⟩
theorem g59 : ∃ func, Tryz.prog.funcs[59]? = some func ∧ cFunc Tryz.prog func = some F59 ∧ (func.name == "runtime.NumGoroutine") = false := ⟨Tryz.f59, Tryz.func59, by kernel_rfl, by kernel_rfl⟩
theorem g68 : ∃ func, Tryz.prog.funcs[68]? = some func ∧ cFunc Tryz.prog func = some F68 ∧ (func.name == "runtime.NumGoroutine") = false := ⟨Tryz.f68, Tryz.func68, by kernel_rfl, by kernel_rfl⟩
theorem g88 : ∃ func, Tryz.prog.funcs[88]? = some func ∧ cFunc Tryz.prog func = some F88 ∧ (func.name == "runtime.NumGoroutine") = false := ⟨Tryz.f88, Tryz.func88, by kernel_rfl, by kernel_rfl⟩
theorem g106 : ∃ func, Tryz.prog.funcs[106]? = some func ∧ cFunc Tryz.prog func = some F106 ∧ (func.name == "runtime.NumGoroutine") = false := ⟨Tryz.f106, Tryz.func106, by kernel_rfl, by kernel_rfl⟩
theorem g119 : ∃ func, Tryz.prog.funcs[119]? = some func ∧ cFunc Tryz.prog func = some F119 ∧ (func.name == "runtime.NumGoroutine") = false := ⟨Tryz.f119, Tryz.func119, by kernel_rfl, by kernel_rfl⟩
theorem g126 : ∃ func, Tryz.prog.funcs[126]? = some func ∧ cFunc Tryz.prog func = some F126 ∧ (func.name == "runtime.NumGoroutine") = false := ⟨Tryz.f126, Tryz.func126, by kernel_rfl, by kernel_rfl⟩
theorem g141 : ∃ func, Tryz.prog.funcs[141]? = some func ∧ cFunc Tryz.prog func = some F141 ∧ (func.name == "runtime.NumGoroutine") = false := ⟨Tryz.f141, Tryz.func141, by kernel_rfl, by kernel_rfl⟩
theorem g184 : ∃ func, Tryz.prog.funcs[184]? = some func ∧ cFunc Tryz.prog func = some F184 ∧ (func.name == "runtime.NumGoroutine") = false := ⟨Tryz.f184, Tryz.func184, by kernel_rfl, by kernel_rfl⟩
theorem g186 : ∃ func, Tryz.prog.funcs[186]? = some func ∧ cFunc Tryz.prog func = some F186 ∧ (func.name == "runtime.NumGoroutine") = false := ⟨Tryz.f186, Tryz.func186, by kernel_rfl, by kernel_rfl⟩
theorem g189 : ∃ func, Tryz.prog.funcs[189]? = some func ∧ cFunc Tryz.prog func = some F189 ∧ (func.name == "runtime.NumGoroutine") = false := ⟨Tryz.f189, Tryz.func189, by kernel_rfl, by kernel_rfl⟩
theorem g198 : ∃ func, Tryz.prog.funcs[198]? = some func ∧ cFunc Tryz.prog func = some F198 ∧ (func.name == "runtime.NumGoroutine") = false := ⟨Tryz.f198, Tryz.func198, by kernel_rfl, by kernel_rfl⟩
theorem g206 : ∃ func, Tryz.prog.funcs[206]? = some func ∧ cFunc Tryz.prog func = some F206 ∧ (func.name == "runtime.NumGoroutine") = false := ⟨Tryz.f206, Tryz.func206, by kernel_rfl, by kernel_rfl⟩
theorem g212 : ∃ func, Tryz.prog.funcs[212]? = some func ∧ cFunc Tryz.prog func = some F212 ∧ (func.name == "runtime.NumGoroutine") = false := ⟨Tryz.f212, Tryz.func212, by kernel_rfl, by kernel_rfl⟩
theorem g219 : ∃ func, Tryz.prog.funcs[219]? = some func ∧ cFunc Tryz.prog func = some F219 ∧ (func.name == "runtime.NumGoroutine") = false := ⟨Tryz.f219, Tryz.func219, by kernel_rfl, by kernel_rfl⟩
theorem g225 : ∃ func, Tryz.prog.funcs[225]? = some func ∧ cFunc Tryz.prog func = some F225 ∧ (func.name == "runtime.NumGoroutine") = false := ⟨Tryz.f225, Tryz.func225, by kernel_rfl, by kernel_rfl⟩
theorem g236 : ∃ func, Tryz.prog.funcs[236]? = some func ∧ cFunc Tryz.prog func = some F236 ∧ (func.name == "runtime.NumGoroutine") = false := ⟨Tryz.f236, Tryz.func236, by kernel_rfl, by kernel_rfl⟩
theorem g242 : ∃ func, Tryz.prog.funcs[242]? = some func ∧ cFunc Tryz.prog func = some F242 ∧ (func.name == "runtime.NumGoroutine") = false := ⟨Tryz.f242, Tryz.func242, by kernel_rfl, by kernel_rfl⟩
theorem g265 : ∃ func, Tryz.prog.funcs[265]? = some func ∧ cFunc Tryz.prog func = some F265 ∧ (func.name == "runtime.NumGoroutine") = false := ⟨Tryz.f265, Tryz.func265, by kernel_rfl, by kernel_rfl⟩
theorem g272 : ∃ func, Tryz.prog.funcs[272]? = some func ∧ cFunc Tryz.prog func = some F272 ∧ (func.name == "runtime.NumGoroutine") = false := ⟨Tryz.f272, Tryz.func272, by kernel_rfl, by kernel_rfl⟩
theorem g298 : ∃ func, Tryz.prog.funcs[298]? = some func ∧ cFunc Tryz.prog func = some F298 ∧ (func.name == "runtime.NumGoroutine") = false := ⟨Tryz.f298, Tryz.func298, by kernel_rfl, by kernel_rfl⟩
end Go.Proofs.YtndlfkibcelhmaaGreatDoor.Ai
end
