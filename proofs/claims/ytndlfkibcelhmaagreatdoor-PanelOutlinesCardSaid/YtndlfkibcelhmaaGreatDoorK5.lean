/- The table is the loaded program. -/
import Derived.Test.YtndlfkibcelhmaaGreatDoorB0
import Derived.Test.YtndlfkibcelhmaaGreatDoorA1
import Derived.Test.YtndlfkibcelhmaaGreatDoorA0
import Derived.Test.YtndlfkibcelhmaaGreatDoorProg
import Derived.KernelRfl
set_option linter.all false
section
set_option maxRecDepth 100000
namespace Go.Proofs.YtndlfkibcelhmaaGreatDoor.Ai
open Go Go.Proofs
theorem g22 : ∃ func, Tryz.prog.funcs[22]? = some func ∧ cFunc Tryz.prog func = some F22 ∧ (func.name == "runtime.NumGoroutine") = false := ⟨Tryz.f22, Tryz.func22, by kernel_rfl, by kernel_rfl⟩
theorem g37 : ∃ func, Tryz.prog.funcs[37]? = some func ∧ cFunc Tryz.prog func = some F37 ∧ (func.name == "runtime.NumGoroutine") = false := ⟨Tryz.f37, Tryz.func37, by kernel_rfl, by kernel_rfl⟩
theorem g65 : ∃ func, Tryz.prog.funcs[65]? = some func ∧ cFunc Tryz.prog func = some F65 ∧ (func.name == "runtime.NumGoroutine") = false := ⟨Tryz.f65, Tryz.func65, by kernel_rfl, by kernel_rfl⟩
theorem g68 : ∃ func, Tryz.prog.funcs[68]? = some func ∧ cFunc Tryz.prog func = some F68 ∧ (func.name == "runtime.NumGoroutine") = false := ⟨Tryz.f68, Tryz.func68, by kernel_rfl, by kernel_rfl⟩
theorem g113 : ∃ func, Tryz.prog.funcs[113]? = some func ∧ cFunc Tryz.prog func = some F113 ∧ (func.name == "runtime.NumGoroutine") = false := ⟨Tryz.f113, Tryz.func113, by kernel_rfl, by kernel_rfl⟩
theorem g119 : ∃ func, Tryz.prog.funcs[119]? = some func ∧ cFunc Tryz.prog func = some F119 ∧ (func.name == "runtime.NumGoroutine") = false := ⟨Tryz.f119, Tryz.func119, by kernel_rfl, by kernel_rfl⟩
theorem g139 : ∃ func, Tryz.prog.funcs[139]? = some func ∧ cFunc Tryz.prog func = some F139 ∧ (func.name == "runtime.NumGoroutine") = false := ⟨Tryz.f139, Tryz.func139, by kernel_rfl, by kernel_rfl⟩
theorem g141 : ∃ func, Tryz.prog.funcs[141]? = some func ∧ cFunc Tryz.prog func = some F141 ∧ (func.name == "runtime.NumGoroutine") = false := ⟨Tryz.f141, Tryz.func141, by kernel_rfl, by kernel_rfl⟩
theorem g179 : ∃ func, Tryz.prog.funcs[179]? = some func ∧ cFunc Tryz.prog func = some F179 ∧ (func.name == "runtime.NumGoroutine") = false := ⟨Tryz.f179, Tryz.func179, by kernel_rfl, by kernel_rfl⟩
theorem g181 : ∃ func, Tryz.prog.funcs[181]? = some func ∧ cFunc Tryz.prog func = some F181 ∧ (func.name == "runtime.NumGoroutine") = false := ⟨Tryz.f181, Tryz.func181, by kernel_rfl, by kernel_rfl⟩
theorem g188 : ∃ func, Tryz.prog.funcs[188]? = some func ∧ cFunc Tryz.prog func = some F188 ∧ (func.name == "runtime.NumGoroutine") = false := ⟨Tryz.f188, Tryz.func188, by kernel_rfl, by kernel_rfl⟩
theorem g189 : ∃ func, Tryz.prog.funcs[189]? = some func ∧ cFunc Tryz.prog func = some F189 ∧ (func.name == "runtime.NumGoroutine") = false := ⟨Tryz.f189, Tryz.func189, by kernel_rfl, by kernel_rfl⟩
theorem g207 : ∃ func, Tryz.prog.funcs[207]? = some func ∧ cFunc Tryz.prog func = some F207 ∧ (func.name == "runtime.NumGoroutine") = false := ⟨Tryz.f207, Tryz.func207, by kernel_rfl, by kernel_rfl⟩
theorem g217 : ∃ func, Tryz.prog.funcs[217]? = some func ∧ cFunc Tryz.prog func = some F217 ∧ (func.name == "runtime.NumGoroutine") = false := ⟨Tryz.f217, Tryz.func217, by kernel_rfl, by kernel_rfl⟩
theorem g219 : ∃ func, Tryz.prog.funcs[219]? = some func ∧ cFunc Tryz.prog func = some F219 ∧ (func.name == "runtime.NumGoroutine") = false := ⟨Tryz.f219, Tryz.func219, by kernel_rfl, by kernel_rfl⟩
theorem g225 : ∃ func, Tryz.prog.funcs[225]? = some func ∧ cFunc Tryz.prog func = some F225 ∧ (func.name == "runtime.NumGoroutine") = false := ⟨Tryz.f225, Tryz.func225, by kernel_rfl, by kernel_rfl⟩
theorem g226 : ∃ func, Tryz.prog.funcs[226]? = some func ∧ cFunc Tryz.prog func = some F226 ∧ (func.name == "runtime.NumGoroutine") = false := ⟨Tryz.f226, Tryz.func226, by kernel_rfl, by kernel_rfl⟩
theorem g266 : ∃ func, Tryz.prog.funcs[266]? = some func ∧ cFunc Tryz.prog func = some F266 ∧ (func.name == "runtime.NumGoroutine") = false := ⟨Tryz.f266, Tryz.func266, by kernel_rfl, by kernel_rfl⟩
theorem g269 : ∃ func, Tryz.prog.funcs[269]? = some func ∧ cFunc Tryz.prog func = some F269 ∧ (func.name == "runtime.NumGoroutine") = false := ⟨Tryz.f269, Tryz.func269, by kernel_rfl, by kernel_rfl⟩
theorem g272 : ∃ func, Tryz.prog.funcs[272]? = some func ∧ cFunc Tryz.prog func = some F272 ∧ (func.name == "runtime.NumGoroutine") = false := ⟨Tryz.f272, Tryz.func272, by kernel_rfl, by kernel_rfl⟩
theorem g273 : ∃ func, Tryz.prog.funcs[273]? = some func ∧ cFunc Tryz.prog func = some F273 ∧ (func.name == "runtime.NumGoroutine") = false := ⟨Tryz.f273, Tryz.func273, by kernel_rfl, by kernel_rfl⟩
theorem g283 : ∃ func, Tryz.prog.funcs[283]? = some func ∧ cFunc Tryz.prog func = some F283 ∧ (func.name == "runtime.NumGoroutine") = false := ⟨Tryz.f283, Tryz.func283, by kernel_rfl, by kernel_rfl⟩
end Go.Proofs.YtndlfkibcelhmaaGreatDoor.Ai
end
