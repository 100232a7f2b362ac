/- The table is the loaded program. -/
import Derived.Test.YtndlfkibcelhmaaGreatDoorB0
import Derived.Test.YtndlfkibcelhmaaGreatDoorA1
import Derived.Test.YtndlfkibcelhmaaGreatDoorA0
import Derived.Test.YtndlfkibcelhmaaGreatDoorProg
import Derived.KernelRfl
set_option linter.all false
section
set_option maxRecDepth 100000
namespace Go.Proofs.YtndlfkibcelhmaaGreatDoor.Ai
open Go Go.Proofs
theorem g94 : ∃ func, Tryz.prog.funcs[94]? = some func ∧ cFunc Tryz.prog func = some F94 ∧ (func.name == "runtime.NumGoroutine") = false := ⟨Tryz.f94, Tryz.func94, by kernel_rfl, by kernel_rfl⟩
theorem g98 : ∃ func, Tryz.prog.funcs[98]? = some func ∧ cFunc Tryz.prog func = some F98 ∧ (func.name == "runtime.NumGoroutine") = false := ⟨Tryz.f98, Tryz.func98, by kernel_rfl, by kernel_rfl⟩
theorem g110 : ∃ func, Tryz.prog.funcs[110]? = some func ∧ cFunc Tryz.prog func = some F110 ∧ (func.name == "runtime.NumGoroutine") = false := ⟨Tryz.f110, Tryz.func110, by kernel_rfl, by kernel_rfl⟩
theorem g113 : ∃ func, Tryz.prog.funcs[113]? = some func ∧ cFunc Tryz.prog func = some F113 ∧ (func.name == "runtime.NumGoroutine") = false := ⟨Tryz.f113, Tryz.func113, by kernel_rfl, by kernel_rfl⟩
theorem g122 : ∃ func, Tryz.prog.funcs[122]? = some func ∧ cFunc Tryz.prog func = some F122 ∧ (func.name == "runtime.NumGoroutine") = false := ⟨Tryz.f122, Tryz.func122, by kernel_rfl, by kernel_rfl⟩
theorem g123 : ∃ func, Tryz.prog.funcs[123]? = some func ∧ cFunc Tryz.prog func = some F123 ∧ (func.name == "runtime.NumGoroutine") = false := ⟨Tryz.f123, Tryz.func123, by kernel_rfl, by kernel_rfl⟩
theorem g124 : ∃ func, Tryz.prog.funcs[124]? = some func ∧ cFunc Tryz.prog func = some F124 ∧ (func.name == "runtime.NumGoroutine") = false := ⟨Tryz.f124, Tryz.func124, by kernel_rfl, by kernel_rfl⟩
theorem g134 : ∃ func, Tryz.prog.funcs[134]? = some func ∧ cFunc Tryz.prog func = some F134 ∧ (func.name == "runtime.NumGoroutine") = false := ⟨Tryz.f134, Tryz.func134, by kernel_rfl, by kernel_rfl⟩
theorem g139 : ∃ func, Tryz.prog.funcs[139]? = some func ∧ cFunc Tryz.prog func = some F139 ∧ (func.name == "runtime.NumGoroutine") = false := ⟨Tryz.f139, Tryz.func139, by kernel_rfl, by kernel_rfl⟩
theorem g140 : ∃ func, Tryz.prog.funcs[140]? = some func ∧ cFunc Tryz.prog func = some F140 ∧ (func.name == "runtime.NumGoroutine") = false := ⟨Tryz.f140, Tryz.func140, by kernel_rfl, by kernel_rfl⟩
theorem g166 : ∃ func, Tryz.prog.funcs[166]? = some func ∧ cFunc Tryz.prog func = some F166 ∧ (func.name == "runtime.NumGoroutine") = false := ⟨Tryz.f166, Tryz.func166, by kernel_rfl, by kernel_rfl⟩
theorem g167 : ∃ func, Tryz.prog.funcs[167]? = some func ∧ cFunc Tryz.prog func = some F167 ∧ (func.name == "runtime.NumGoroutine") = false := ⟨Tryz.f167, Tryz.func167, by kernel_rfl, by kernel_rfl⟩
theorem g176 : ∃ func, Tryz.prog.funcs[176]? = some func ∧ cFunc Tryz.prog func = some F176 ∧ (func.name == "runtime.NumGoroutine") = false := ⟨Tryz.f176, Tryz.func176, by kernel_rfl, by kernel_rfl⟩
theorem g178 : ∃ func, Tryz.prog.funcs[178]? = some func ∧ cFunc Tryz.prog func = some F178 ∧ (func.name == "runtime.NumGoroutine") = false := ⟨Tryz.f178, Tryz.func178, by kernel_rfl, by kernel_rfl⟩
theorem g182 : ∃ func, Tryz.prog.funcs[182]? = some func ∧ cFunc Tryz.prog func = some F182 ∧ (func.name == "runtime.NumGoroutine") = false := ⟨Tryz.f182, Tryz.func182, by kernel_rfl, by kernel_rfl⟩
theorem g192 : ∃ func, Tryz.prog.funcs[192]? = some func ∧ cFunc Tryz.prog func = some F192 ∧ (func.name == "runtime.NumGoroutine") = false := ⟨Tryz.f192, Tryz.func192, by kernel_rfl, by kernel_rfl⟩
theorem g196 : ∃ func, Tryz.prog.funcs[196]? = some func ∧ cFunc Tryz.prog func = some F196 ∧ (func.name == "runtime.NumGoroutine") = false := ⟨Tryz.f196, Tryz.func196, by kernel_rfl, by kernel_rfl⟩
theorem g221 : ∃ func, Tryz.prog.funcs[221]? = some func ∧ cFunc Tryz.prog func = some F221 ∧ (func.name == "runtime.NumGoroutine") = false := ⟨Tryz.f221, Tryz.func221, by kernel_rfl, by kernel_rfl⟩
theorem g223 : ∃ func, Tryz.prog.funcs[223]? = some func ∧ cFunc Tryz.prog func = some F223 ∧ (func.name == "runtime.NumGoroutine") = false := ⟨Tryz.f223, Tryz.func223, by kernel_rfl, by kernel_rfl⟩
theorem g240 : ∃ func, Tryz.prog.funcs[240]? = some func ∧ cFunc Tryz.prog func = some F240 ∧ (func.name == "runtime.NumGoroutine") = false := ⟨Tryz.f240, Tryz.func240, by kernel_rfl, by kernel_rfl⟩
theorem g255 : ∃ func, Tryz.prog.funcs[255]? = some func ∧ cFunc Tryz.prog func = some F255 ∧ (func.name == "runtime.NumGoroutine") = false := ⟨Tryz.f255, Tryz.func255, by kernel_rfl, by kernel_rfl⟩
theorem g285 : ∃ func, Tryz.prog.funcs[285]? = some func ∧ cFunc Tryz.prog func = some F285 ∧ (func.name == "runtime.NumGoroutine") = false := ⟨Tryz.f285, Tryz.func285, by kernel_rfl, by kernel_rfl⟩
theorem g289 : ∃ func, Tryz.prog.funcs[289]? = some func ∧ cFunc Tryz.prog func = some F289 ∧ (func.name == "runtime.NumGoroutine") = false := ⟨Tryz.f289, Tryz.func289, by kernel_rfl, by kernel_rfl⟩
end Go.Proofs.YtndlfkibcelhmaaGreatDoor.Ai
end
