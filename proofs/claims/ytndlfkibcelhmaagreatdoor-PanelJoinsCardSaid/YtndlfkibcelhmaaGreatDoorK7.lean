/- The table is the loaded program. -/
import Derived.Test.YtndlfkibcelhmaaGreatDoorB0
import Derived.Test.YtndlfkibcelhmaaGreatDoorA1
import Derived.Test.YtndlfkibcelhmaaGreatDoorA0
import Derived.Test.YtndlfkibcelhmaaGreatDoorProg
import Derived.KernelRfl
set_option linter.all false
section
set_option maxRecDepth 100000
namespace Go.Proofs.YtndlfkibcelhmaaGreatDoor.Ai
open Go Go.Proofs
theorem g39 : ∃ func, Tryz.prog.funcs[39]? = some func ∧ cFunc Tryz.prog func = some F39 ∧ (func.name == "runtime.NumGoroutine") = false := ⟨Tryz.f39, Tryz.func39, by kernel_rfl, by kernel_rfl⟩
theorem g40 : ∃ func, Tryz.prog.funcs[40]? = some func ∧ cFunc Tryz.prog func = some F40 ∧ (func.name == "runtime.NumGoroutine") = false := ⟨Tryz.f40, Tryz.func40, by kernel_rfl, by kernel_rfl⟩
theorem g41 : ∃ func, Tryz.prog.funcs[41]? = some func ∧ cFunc Tryz.prog func = some F41 ∧ (func.name == "runtime.NumGoroutine") = false := ⟨Tryz.f41, Tryz.func41, by kernel_rfl, by kernel_rfl⟩
theorem g49 : ∃ func, Tryz.prog.funcs[49]? = some func ∧ cFunc Tryz.prog func = some F49 ∧ (func.name == "runtime.NumGoroutine") = false := ⟨Tryz.f49, Tryz.func49, by kernel_rfl, by kernel_rfl⟩
theorem g63 : ∃ func, Tryz.prog.funcs[63]? = some func ∧ cFunc Tryz.prog func = some F63 ∧ (func.name == "runtime.NumGoroutine") = false := ⟨Tryz.f63, Tryz.func63, by kernel_rfl, by kernel_rfl⟩
theorem g76 : ∃ func, Tryz.prog.funcs[76]? = some func ∧ cFunc Tryz.prog func = some F76 ∧ (func.name == "runtime.NumGoroutine") = false := ⟨Tryz.f76, Tryz.func76, by kernel_rfl, by kernel_rfl⟩
theorem g88 : ∃ func, Tryz.prog.funcs[88]? = some func ∧ cFunc Tryz.prog func = some F88 ∧ (func.name == "runtime.NumGoroutine") = false := ⟨Tryz.f88, Tryz.func88, by kernel_rfl, by kernel_rfl⟩
theorem g104 : ∃ func, Tryz.prog.funcs[104]? = some func ∧ cFunc Tryz.prog func = some F104 ∧ (func.name == "runtime.NumGoroutine") = false := ⟨Tryz.f104, Tryz.func104, by kernel_rfl, by kernel_rfl⟩
theorem g112 : ∃ func, Tryz.prog.funcs[112]? = some func ∧ cFunc Tryz.prog func = some F112 ∧ (func.name == "runtime.NumGoroutine") = false := ⟨Tryz.f112, Tryz.func112, by kernel_rfl, by kernel_rfl⟩
theorem g171 : ∃ func, Tryz.prog.funcs[171]? = some func ∧ cFunc Tryz.prog func = some F171 ∧ (func.name == "runtime.NumGoroutine") = false := ⟨Tryz.f171, Tryz.func171, by kernel_rfl, by kernel_rfl⟩
theorem g172 : ∃ func, Tryz.prog.funcs[172]? = some func ∧ cFunc Tryz.prog func = some F172 ∧ (func.name == "runtime.NumGoroutine") = false := ⟨Tryz.f172, Tryz.func172, by kernel_rfl, by kernel_rfl⟩
theorem g222 : ∃ func, Tryz.prog.funcs[222]? = some func ∧ cFunc Tryz.prog func = some F222 ∧ (func.name == "runtime.NumGoroutine") = false := ⟨Tryz.f222, Tryz.func222, by kernel_rfl, by kernel_rfl⟩
theorem g223 : ∃ func, Tryz.prog.funcs[223]? = some func ∧ cFunc Tryz.prog func = some F223 ∧ (func.name == "runtime.NumGoroutine") = false := ⟨Tryz.f223, Tryz.func223, by kernel_rfl, by kernel_rfl⟩
theorem g228 : ∃ func, Tryz.prog.funcs[228]? = some func ∧ cFunc Tryz.prog func = some F228 ∧ (func.name == "runtime.NumGoroutine") = false := ⟨Tryz.f228, Tryz.func228, by kernel_rfl, by kernel_rfl⟩
theorem g236 : ∃ func, Tryz.prog.funcs[236]? = some func ∧ cFunc Tryz.prog func = some F236 ∧ (func.name == "runtime.NumGoroutine") = false := ⟨Tryz.f236, Tryz.func236, by kernel_rfl, by kernel_rfl⟩
theorem g244 : ∃ func, Tryz.prog.funcs[244]? = some func ∧ cFunc Tryz.prog func = some F244 ∧ (func.name == "runtime.NumGoroutine") = false := ⟨Tryz.f244, Tryz.func244, by kernel_rfl, by kernel_rfl⟩
theorem g283 : ∃ func, Tryz.prog.funcs[283]? = some func ∧ cFunc Tryz.prog func = some F283 ∧ (func.name == "runtime.NumGoroutine") = false := ⟨Tryz.f283, Tryz.func283, by kernel_rfl, by kernel_rfl⟩
theorem g288 : ∃ func, Tryz.prog.funcs[288]? = some func ∧ cFunc Tryz.prog func = some F288 ∧ (func.name == "runtime.NumGoroutine") = false := ⟨Tryz.f288, Tryz.func288, by kernel_rfl, by kernel_rfl⟩
theorem g291 : ∃ func, Tryz.prog.funcs[291]? = some func ∧ cFunc Tryz.prog func = some F291 ∧ (func.name == "runtime.NumGoroutine") = false := ⟨Tryz.f291, Tryz.func291, by kernel_rfl, by kernel_rfl⟩
theorem g300 : ∃ func, Tryz.prog.funcs[300]? = some func ∧ cFunc Tryz.prog func = some F300 ∧ (func.name == "runtime.NumGoroutine") = false := ⟨Tryz.f300, Tryz.func300, by kernel_rfl, by kernel_rfl⟩
theorem g301 : ∃ func, Tryz.prog.funcs[301]? = some func ∧ cFunc Tryz.prog func = some F301 ∧ (func.name == "runtime.NumGoroutine") = false := ⟨Tryz.f301, Tryz.func301, by kernel_rfl, by kernel_rfl⟩
end Go.Proofs.YtndlfkibcelhmaaGreatDoor.Ai
end
