/- The table is the loaded program. -/
import Derived.Test.YtndlfkibcelhmaaGreatDoorB1
import Derived.Test.YtndlfkibcelhmaaGreatDoorA1
import Derived.Test.YtndlfkibcelhmaaGreatDoorA0
import Derived.Test.YtndlfkibcelhmaaGreatDoorProg
import Derived.KernelRfl
set_option linter.all false
section
set_option maxRecDepth 100000
namespace Go.Proofs.YtndlfkibcelhmaaGreatDoor.Ai
open Go Go.Proofs
theorem g10 : ∃ func, Tryz.prog.funcs[10]? = some func ∧ cFunc Tryz.prog func = some F10 ∧ (func.name == "runtime.NumGoroutine") = false := ⟨Tryz.f10, Tryz.func10, by kernel_rfl, by kernel_rfl⟩
theorem g21 : ∃ func, Tryz.prog.funcs[21]? = some func ∧ cFunc Tryz.prog func = some F21 ∧ (func.name == "runtime.NumGoroutine") = false := ⟨Tryz.f21, Tryz.func21, by kernel_rfl, by kernel_rfl⟩
theorem g28 : ∃ func, Tryz.prog.funcs[28]? = some func ∧ cFunc Tryz.prog func = some F28 ∧ (func.name == "runtime.NumGoroutine") = false := ⟨Tryz.f28, Tryz.func28, by kernel_rfl, by kernel_rfl⟩
theorem g58 : ∃ func, Tryz.prog.funcs[58]? = some func ∧ cFunc Tryz.prog func = some F58 ∧ (func.name == "runtime.NumGoroutine") = false := ⟨Tryz.f58, Tryz.func58, by kernel_rfl, by kernel_rfl⟩
theorem g122 : ∃ func, Tryz.prog.funcs[122]? = some func ∧ cFunc Tryz.prog func = some F122 ∧ (func.name == "runtime.NumGoroutine") = false := ⟨Tryz.f122, Tryz.func122, by kernel_rfl, by kernel_rfl⟩
theorem g137 : ∃ func, Tryz.prog.funcs[137]? = some func ∧ cFunc Tryz.prog func = some F137 ∧ (func.name == "runtime.NumGoroutine") = false := ⟨Tryz.f137, Tryz.func137, by kernel_rfl, by kernel_rfl⟩
theorem g180 : ∃ func, Tryz.prog.funcs[180]? = some func ∧ cFunc Tryz.prog func = some F180 ∧ (func.name == "runtime.NumGoroutine") = false := ⟨Tryz.f180, Tryz.func180, by kernel_rfl, by kernel_rfl⟩
theorem g181 : ∃ func, Tryz.prog.funcs[181]? = some func ∧ cFunc Tryz.prog func = some F181 ∧ (func.name == "runtime.NumGoroutine") = false := ⟨Tryz.f181, Tryz.func181, by kernel_rfl, by kernel_rfl⟩
theorem g190 : ∃ func, Tryz.prog.funcs[190]? = some func ∧ cFunc Tryz.prog func = some F190 ∧ (func.name == "runtime.NumGoroutine") = false := ⟨Tryz.f190, Tryz.func190, by kernel_rfl, by kernel_rfl⟩
theorem g192 : ∃ func, Tryz.prog.funcs[192]? = some func ∧ cFunc Tryz.prog func = some F192 ∧ (func.name == "runtime.NumGoroutine") = false := ⟨Tryz.f192, Tryz.func192, by kernel_rfl, by kernel_rfl⟩
theorem g193 : ∃ func, Tryz.prog.funcs[193]? = some func ∧ cFunc Tryz.prog func = some F193 ∧ (func.name == "runtime.NumGoroutine") = false := ⟨Tryz.f193, Tryz.func193, by kernel_rfl, by kernel_rfl⟩
theorem g217 : ∃ func, Tryz.prog.funcs[217]? = some func ∧ cFunc Tryz.prog func = some F217 ∧ (func.name == "runtime.NumGoroutine") = false := ⟨Tryz.f217, Tryz.func217, by kernel_rfl, by kernel_rfl⟩
theorem g224 : ∃ func, Tryz.prog.funcs[224]? = some func ∧ cFunc Tryz.prog func = some F224 ∧ (func.name == "runtime.NumGoroutine") = false := ⟨Tryz.f224, Tryz.func224, by kernel_rfl, by kernel_rfl⟩
theorem g225 : ∃ func, Tryz.prog.funcs[225]? = some func ∧ cFunc Tryz.prog func = some F225 ∧ (func.name == "runtime.NumGoroutine") = false := ⟨Tryz.f225, Tryz.func225, by kernel_rfl, by kernel_rfl⟩
theorem g234 : ∃ func, Tryz.prog.funcs[234]? = some func ∧ cFunc Tryz.prog func = some F234 ∧ (func.name == "runtime.NumGoroutine") = false := ⟨Tryz.f234, Tryz.func234, by kernel_rfl, by kernel_rfl⟩
theorem g244 : ∃ func, Tryz.prog.funcs[244]? = some func ∧ cFunc Tryz.prog func = some F244 ∧ (func.name == "runtime.NumGoroutine") = false := ⟨Tryz.f244, Tryz.func244, by kernel_rfl, by kernel_rfl⟩
theorem g267 : ∃ func, Tryz.prog.funcs[267]? = some func ∧ cFunc Tryz.prog func = some F267 ∧ (func.name == "runtime.NumGoroutine") = false := ⟨Tryz.f267, Tryz.func267, by kernel_rfl, by kernel_rfl⟩
theorem g274 : ∃ func, Tryz.prog.funcs[274]? = some func ∧ cFunc Tryz.prog func = some F274 ∧ (func.name == "runtime.NumGoroutine") = false := ⟨Tryz.f274, Tryz.func274, by kernel_rfl, by kernel_rfl⟩
theorem g284 : ∃ func, Tryz.prog.funcs[284]? = some func ∧ cFunc Tryz.prog func = some F284 ∧ (func.name == "runtime.NumGoroutine") = false := ⟨Tryz.f284, Tryz.func284, by kernel_rfl, by kernel_rfl⟩
theorem g288 : ∃ func, Tryz.prog.funcs[288]? = some func ∧ cFunc Tryz.prog func = some F288 ∧ (func.name == "runtime.NumGoroutine") = false := ⟨Tryz.f288, Tryz.func288, by kernel_rfl, by kernel_rfl⟩
theorem g292 : ∃ func, Tryz.prog.funcs[292]? = some func ∧ cFunc Tryz.prog func = some F292 ∧ (func.name == "runtime.NumGoroutine") = false := ⟨Tryz.f292, Tryz.func292, by kernel_rfl, by kernel_rfl⟩
theorem g301 : ∃ func, Tryz.prog.funcs[301]? = some func ∧ cFunc Tryz.prog func = some F301 ∧ (func.name == "runtime.NumGoroutine") = false := ⟨Tryz.f301, Tryz.func301, by kernel_rfl, by kernel_rfl⟩
end Go.Proofs.YtndlfkibcelhmaaGreatDoor.Ai
end
