/- The table is the loaded program. -/
import Derived.Test.YtndlfkibcelhmaaGreatDoorB0
import Derived.Test.YtndlfkibcelhmaaGreatDoorA1
import Derived.Test.YtndlfkibcelhmaaGreatDoorA0
import Derived.Test.YtndlfkibcelhmaaGreatDoorProg
import Derived.KernelRfl
set_option linter.all false
section
set_option maxRecDepth 100000
namespace Go.Proofs.YtndlfkibcelhmaaGreatDoor.Ai
open Go Go.Proofs
theorem g18 : ∃ func, Tryz.prog.funcs[18]? = some func ∧ cFunc Tryz.prog func = some F18 ∧ (func.name == "runtime.NumGoroutine") = false := ⟨Tryz.f18, Tryz.func18, by kernel_rfl, by kernel_rfl⟩
theorem g31 : ∃ func, Tryz.prog.funcs[31]? = some func ∧ cFunc Tryz.prog func = some F31 ∧ (func.name == "runtime.NumGoroutine") = false := ⟨Tryz.f31, Tryz.func31, by kernel_rfl, by kernel_rfl⟩
theorem g62 : ∃ func, Tryz.prog.funcs[62]? = some func ∧ cFunc Tryz.prog func = some F62 ∧ (func.name == "runtime.NumGoroutine") = false := ⟨Tryz.f62, Tryz.func62, by kernel_rfl, by kernel_rfl⟩
theorem g101 : ∃ func, Tryz.prog.funcs[101]? = some func ∧ cFunc Tryz.prog func = some F101 ∧ (func.name == "runtime.NumGoroutine") = false := ⟨Tryz.f101, Tryz.func101, by kernel_rfl, by kernel_rfl⟩
theorem g108 : ∃ func, Tryz.prog.funcs[108]? = some func ∧ cFunc Tryz.prog func = some F108 ∧ (func.name == "runtime.NumGoroutine") = false := ⟨Tryz.f108, Tryz.func108, by kernel_rfl, by kernel_rfl⟩
theorem g109 : ∃ func, Tryz.prog.funcs[109]? = some func ∧ cFunc Tryz.prog func = some F109 ∧ (func.name == "runtime.NumGoroutine") = false := ⟨Tryz.f109, Tryz.func109, by kernel_rfl, by kernel_rfl⟩
theorem g123 : ∃ func, Tryz.prog.funcs[123]? = some func ∧ cFunc Tryz.prog func = some F123 ∧ (func.name == "runtime.NumGoroutine") = false := ⟨Tryz.f123, Tryz.func123, by kernel_rfl, by kernel_rfl⟩
theorem g127 : ∃ func, Tryz.prog.funcs[127]? = some func ∧ cFunc Tryz.prog func = some F127 ∧ (func.name == "runtime.NumGoroutine") = false := ⟨Tryz.f127, Tryz.func127, by kernel_rfl, by kernel_rfl⟩
theorem g151 : ∃ func, Tryz.prog.funcs[151]? = some func ∧ cFunc Tryz.prog func = some F151 ∧ (func.name == "runtime.NumGoroutine") = false := ⟨Tryz.f151, Tryz.func151, by kernel_rfl, by kernel_rfl⟩
theorem g190 : ∃ func, Tryz.prog.funcs[190]? = some func ∧ cFunc Tryz.prog func = some F190 ∧ (func.name == "runtime.NumGoroutine") = false := ⟨Tryz.f190, Tryz.func190, by kernel_rfl, by kernel_rfl⟩
theorem g194 : ∃ func, Tryz.prog.funcs[194]? = some func ∧ cFunc Tryz.prog func = some F194 ∧ (func.name == "runtime.NumGoroutine") = false := ⟨Tryz.f194, Tryz.func194, by kernel_rfl, by kernel_rfl⟩
theorem g199 : ∃ func, Tryz.prog.funcs[199]? = some func ∧ cFunc Tryz.prog func = some F199 ∧ (func.name == "runtime.NumGoroutine") = false := ⟨Tryz.f199, Tryz.func199, by kernel_rfl, by kernel_rfl⟩
theorem g223 : ∃ func, Tryz.prog.funcs[223]? = some func ∧ cFunc Tryz.prog func = some F223 ∧ (func.name == "runtime.NumGoroutine") = false := ⟨Tryz.f223, Tryz.func223, by kernel_rfl, by kernel_rfl⟩
theorem g237 : ∃ func, Tryz.prog.funcs[237]? = some func ∧ cFunc Tryz.prog func = some F237 ∧ (func.name == "runtime.NumGoroutine") = false := ⟨Tryz.f237, Tryz.func237, by kernel_rfl, by kernel_rfl⟩
theorem g240 : ∃ func, Tryz.prog.funcs[240]? = some func ∧ cFunc Tryz.prog func = some F240 ∧ (func.name == "runtime.NumGoroutine") = false := ⟨Tryz.f240, Tryz.func240, by kernel_rfl, by kernel_rfl⟩
theorem g242 : ∃ func, Tryz.prog.funcs[242]? = some func ∧ cFunc Tryz.prog func = some F242 ∧ (func.name == "runtime.NumGoroutine") = false := ⟨Tryz.f242, Tryz.func242, by kernel_rfl, by kernel_rfl⟩
theorem g244 : ∃ func, Tryz.prog.funcs[244]? = some func ∧ cFunc Tryz.prog func = some F244 ∧ (func.name == "runtime.NumGoroutine") = false := ⟨Tryz.f244, Tryz.func244, by kernel_rfl, by kernel_rfl⟩
theorem g265 : ∃ func, Tryz.prog.funcs[265]? = some func ∧ cFunc Tryz.prog func = some F265 ∧ (func.name == "runtime.NumGoroutine") = false := ⟨Tryz.f265, Tryz.func265, by kernel_rfl, by kernel_rfl⟩
theorem g287 : ∃ func, Tryz.prog.funcs[287]? = some func ∧ cFunc Tryz.prog func = some F287 ∧ (func.name == "runtime.NumGoroutine") = false := ⟨Tryz.f287, Tryz.func287, by kernel_rfl, by kernel_rfl⟩
end Go.Proofs.YtndlfkibcelhmaaGreatDoor.Ai
end
