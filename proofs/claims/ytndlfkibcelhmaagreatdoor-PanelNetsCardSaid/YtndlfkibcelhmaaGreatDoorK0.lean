/- The table is the loaded program. -/
import Derived.Test.YtndlfkibcelhmaaGreatDoorB0
import Derived.Test.YtndlfkibcelhmaaGreatDoorA1
import Derived.Test.YtndlfkibcelhmaaGreatDoorA0
import Derived.Test.YtndlfkibcelhmaaGreatDoorProg
import Derived.KernelRfl
set_option linter.all false
section
set_option maxRecDepth 100000
namespace Go.Proofs.YtndlfkibcelhmaaGreatDoor.Ai
open Go Go.Proofs
theorem g18 : ∃ func, Tryz.prog.funcs[18]? = some func ∧ cFunc Tryz.prog func = some F18 ∧ (func.name == "runtime.NumGoroutine") = false := ⟨Tryz.f18, Tryz.func18, by kernel_rfl, by kernel_rfl⟩
theorem g23 : ∃ func, Tryz.prog.funcs[23]? = some func ∧ cFunc Tryz.prog func = some F23 ∧ (func.name == "runtime.NumGoroutine") = false := ⟨Tryz.f23, Tryz.func23, by kernel_rfl, by kernel_rfl⟩
theorem g27 : ∃ func, Tryz.prog.funcs[27]? = some func ∧ cFunc Tryz.prog func = some F27 ∧ (func.name == "runtime.NumGoroutine") = false := ⟨Tryz.f27, Tryz.func27, by kernel_rfl, by kernel_rfl⟩
theorem g62 : ∃ func, Tryz.prog.funcs[62]? = some func ∧ cFunc Tryz.prog func = some F62 ∧ (func.name == "runtime.NumGoroutine") = false := ⟨Tryz.f62, Tryz.func62, by kernel_rfl, by kernel_rfl⟩
theorem g101 : ∃ func, Tryz.prog.funcs[101]? = some func ∧ cFunc Tryz.prog func = some F101 ∧ (func.name == "runtime.NumGoroutine") = false := ⟨Tryz.f101, Tryz.func101, by kernel_rfl, by kernel_rfl⟩
theorem g104 : ∃ func, Tryz.prog.funcs[104]? = some func ∧ cFunc Tryz.prog func = some F104 ∧ (func.name == "runtime.NumGoroutine") = false := ⟨Tryz.f104, Tryz.func104, by kernel_rfl, by kernel_rfl⟩
theorem g107 : ∃ func, Tryz.prog.funcs[107]? = some func ∧ cFunc Tryz.prog func = some F107 ∧ (func.name == "runtime.NumGoroutine") = false := ⟨Tryz.f107, Tryz.func107, by kernel_rfl, by kernel_rfl⟩
theorem g118 : ∃ func, Tryz.prog.funcs[118]? = some func ∧ cFunc Tryz.prog func = some F118 ∧ (func.name == "runtime.NumGoroutine") = false := ⟨Tryz.f118, Tryz.func118, by kernel_rfl, by kernel_rfl⟩
theorem g138 : ∃ func, Tryz.prog.funcs[138]? = some func ∧ cFunc Tryz.prog func = some F138 ∧ (func.name == "runtime.NumGoroutine") = false := ⟨Tryz.f138, Tryz.func138, by kernel_rfl, by kernel_rfl⟩
theorem g151 : ∃ func, Tryz.prog.funcs[151]? = some func ∧ cFunc Tryz.prog func = some F151 ∧ (func.name == "runtime.NumGoroutine") = false := ⟨Tryz.f151, Tryz.func151, by kernel_rfl, by kernel_rfl⟩
theorem g169 : ∃ func, Tryz.prog.funcs[169]? = some func ∧ cFunc Tryz.prog func = some F169 ∧ (func.name == "runtime.NumGoroutine") = false := ⟨Tryz.f169, Tryz.func169, by kernel_rfl, by kernel_rfl⟩
theorem g175 : ∃ func, Tryz.prog.funcs[175]? = some func ∧ cFunc Tryz.prog func = some F175 ∧ (func.name == "runtime.NumGoroutine") = false := ⟨Tryz.f175, Tryz.func175, by kernel_rfl, by kernel_rfl⟩
theorem g188 : ∃ func, Tryz.prog.funcs[188]? = some func ∧ cFunc Tryz.prog func = some F188 ∧ (func.name == "runtime.NumGoroutine") = false := ⟨Tryz.f188, Tryz.func188, by kernel_rfl, by kernel_rfl⟩
theorem g200 : ∃ func, Tryz.prog.funcs[200]? = some func ∧ cFunc Tryz.prog func = some F200 ∧ (func.name == "runtime.NumGoroutine") = false := ⟨Tryz.f200, Tryz.func200, by kernel_rfl, by kernel_rfl⟩
theorem g224 : ∃ func, Tryz.prog.funcs[224]? = some func ∧ cFunc Tryz.prog func = some F224 ∧ (func.name == "runtime.NumGoroutine") = false := ⟨Tryz.f224, Tryz.func224, by kernel_rfl, by kernel_rfl⟩
theorem g237 : ∃ func, Tryz.prog.funcs[237]? = some func ∧ cFunc Tryz.prog func = some F237 ∧ (func.name == "runtime.NumGoroutine") = false := ⟨Tryz.f237, Tryz.func237, by kernel_rfl, by kernel_rfl⟩
theorem g243 : ∃ func, Tryz.prog.funcs[243]? = some func ∧ cFunc Tryz.prog func = some F243 ∧ (func.name == "runtime.NumGoroutine") = false := ⟨Tryz.f243, Tryz.func243, by kernel_rfl, by kernel_rfl⟩
theorem g290 : ∃ func, Tryz.prog.funcs[290]? = some func ∧ cFunc Tryz.prog func = some F290 ∧ (func.name == "runtime.NumGoroutine") = false := ⟨Tryz.f290, Tryz.func290, by kernel_rfl, by kernel_rfl⟩
theorem g296 : ∃ func, Tryz.prog.funcs[296]? = some func ∧ cFunc Tryz.prog func = some F296 ∧ (func.name == "runtime.NumGoroutine") = false := ⟨Tryz.f296, Tryz.func296, by kernel_rfl, by kernel_rfl⟩
theorem g300 : ∃ func, Tryz.prog.funcs[300]? = some func ∧ cFunc Tryz.prog func = some F300 ∧ (func.name == "runtime.NumGoroutine") = false := ⟨Tryz.f300, Tryz.func300, by kernel_rfl, by kernel_rfl⟩
end Go.Proofs.YtndlfkibcelhmaaGreatDoor.Ai
end
