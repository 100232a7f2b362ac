/- The table is the loaded program. -/
import Derived.Test.YtndlfkibcelhmaaGreatDoorB0
import Derived.Test.YtndlfkibcelhmaaGreatDoorA1
import Derived.Test.YtndlfkibcelhmaaGreatDoorA0
import Derived.Test.YtndlfkibcelhmaaGreatDoorProg
import Derived.KernelRfl
set_option linter.all false
section
set_option maxRecDepth 100000
namespace Go.Proofs.YtndlfkibcelhmaaGreatDoor.Ai
open Go Go.Proofs
theorem g3 : ∃ func, Tryz.prog.funcs[3]? = some func ∧ cFunc Tryz.prog func = some F3 ∧ (func.name == "runtime.NumGoroutine") = false := ⟨Tryz.f3, Tryz.func3, by kernel_rfl, by kernel_rfl⟩
theorem g21 : ∃ func, Tryz.prog.funcs[21]? = some func ∧ cFunc Tryz.prog func = some F21 ∧ (func.name == "runtime.NumGoroutine") = false := ⟨Tryz.f21, Tryz.func21, by kernel_rfl, by kernel_rfl⟩
theorem g28 : ∃ func, Tryz.prog.funcs[28]? = some func ∧ cFunc Tryz.prog func = some F28 ∧ (func.name == "runtime.NumGoroutine") = false := ⟨Tryz.f28, Tryz.func28, by kernel_rfl, by kernel_rfl⟩
theorem g41 : ∃ func, Tryz.prog.funcs[41]? = some func ∧ cFunc Tryz.prog func = some F41 ∧ (func.name == "runtime.NumGoroutine") = false := ⟨Tryz.f41, Tryz.func41, by kernel_rfl, by kernel_rfl⟩
theorem g63 : ∃ func, Tryz.prog.funcs[63]? = some func ∧ cFunc Tryz.prog func = some F63 ∧ (func.name == "runtime.NumGoroutine") = false := ⟨Tryz.f63, Tryz.func63, by kernel_rfl, by kernel_rfl⟩
theorem g96 : ∃ func, Tryz.prog.funcs[96]? = some func ∧ cFunc Tryz.prog func = some F96 ∧ (func.name == "runtime.NumGoroutine") = false := ⟨Tryz.f96, Tryz.func96, by kernel_rfl, by kernel_rfl⟩
theorem g97 : ∃ func, Tryz.prog.funcs[97]? = some func ∧ cFunc Tryz.prog func = some F97 ∧ (func.name == "runtime.NumGoroutine") = false := ⟨Tryz.f97, Tryz.func97, by kernel_rfl, by kernel_rfl⟩
theorem g100 : ∃ func, Tryz.prog.funcs[100]? = some func ∧ cFunc Tryz.prog func = some F100 ∧ (func.name == "runtime.NumGoroutine") = false := ⟨Tryz.f100, Tryz.func100, by kernel_rfl, by kernel_rfl⟩
theorem g108 : ∃ func, Tryz.prog.funcs[108]? = some func ∧ cFunc Tryz.prog func = some F108 ∧ (func.name == "runtime.NumGoroutine") = false := ⟨Tryz.f108, Tryz.func108, by kernel_rfl, by kernel_rfl⟩
theorem g109 : ∃ func, Tryz.prog.funcs[109]? = some func ∧ cFunc Tryz.prog func = some F109 ∧ (func.name == "runtime.NumGoroutine") = false := ⟨Tryz.f109, Tryz.func109, by kernel_rfl, by kernel_rfl⟩
theorem g120 : ∃ func, Tryz.prog.funcs[120]? = some func ∧ cFunc Tryz.prog func = some F120 ∧ (func.name == "runtime.NumGoroutine") = false := ⟨Tryz.f120, Tryz.func120, by kernel_rfl, by kernel_rfl⟩
theorem g133 : ∃ func, Tryz.prog.funcs[133]? = some func ∧ cFunc Tryz.prog func = some F133 ∧ (func.name == "runtime.NumGoroutine") = false := ⟨Tryz.f133, Tryz.func133, by kernel_rfl, by kernel_rfl⟩
theorem g150 : ∃ func, Tryz.prog.funcs[150]? = some func ∧ cFunc Tryz.prog func = some F150 ∧ (func.name == "runtime.NumGoroutine") = false := ⟨Tryz.f150, Tryz.func150, by kernel_rfl, by kernel_rfl⟩
theorem g174 : ∃ func, Tryz.prog.funcs[174]? = some func ∧ cFunc Tryz.prog func = some F174 ∧ (func.name == "runtime.NumGoroutine") = false := ⟨Tryz.f174, Tryz.func174, by kernel_rfl, by kernel_rfl⟩
theorem g187 : ∃ func, Tryz.prog.funcs[187]? = some func ∧ cFunc Tryz.prog func = some F187 ∧ (func.name == "runtime.NumGoroutine") = false := ⟨Tryz.f187, Tryz.func187, by kernel_rfl, by kernel_rfl⟩
theorem g194 : ∃ func, Tryz.prog.funcs[194]? = some func ∧ cFunc Tryz.prog func = some F194 ∧ (func.name == "runtime.NumGoroutine") = false := ⟨Tryz.f194, Tryz.func194, by kernel_rfl, by kernel_rfl⟩
theorem g235 : ∃ func, Tryz.prog.funcs[235]? = some func ∧ cFunc Tryz.prog func = some F235 ∧ (func.name == "runtime.NumGoroutine") = false := ⟨Tryz.f235, Tryz.func235, by kernel_rfl, by kernel_rfl⟩
theorem g244 : ∃ func, Tryz.prog.funcs[244]? = some func ∧ cFunc Tryz.prog func = some F244 ∧ (func.name == "runtime.NumGoroutine") = false := ⟨Tryz.f244, Tryz.func244, by kernel_rfl, by kernel_rfl⟩
theorem g267 : ∃ func, Tryz.prog.funcs[267]? = some func ∧ cFunc Tryz.prog func = some F267 ∧ (func.name == "runtime.NumGoroutine") = false := ⟨Tryz.f267, Tryz.func267, by kernel_rfl, by kernel_rfl⟩
theorem g270 : ∃ func, Tryz.prog.funcs[270]? = some func ∧ cFunc Tryz.prog func = some F270 ∧ (func.name == "runtime.NumGoroutine") = false := ⟨Tryz.f270, Tryz.func270, by kernel_rfl, by kernel_rfl⟩
theorem g288 : ∃ func, Tryz.prog.funcs[288]? = some func ∧ cFunc Tryz.prog func = some F288 ∧ (func.name == "runtime.NumGoroutine") = false := ⟨Tryz.f288, Tryz.func288, by kernel_rfl, by kernel_rfl⟩
theorem g301 : ∃ func, Tryz.prog.funcs[301]? = some func ∧ cFunc Tryz.prog func = some F301 ∧ (func.name == "runtime.NumGoroutine") = false := ⟨Tryz.f301, Tryz.func301, by kernel_rfl, by kernel_rfl⟩
end Go.Proofs.YtndlfkibcelhmaaGreatDoor.Ai
end
