/- The closed examples: awake. -/
import Derived.Test.YtndlfkibcelhmaaGreatDoorB0
set_option linter.all false
section
namespace Go.Proofs.YtndlfkibcelhmaaGreatDoor.Ai
open Go
set_option maxRecDepth 1000000
def h0 : AH := ⟨8, .leaf⟩
def okT : Option (AVal × AH) → Bool
  | some (.bool b, _) => b
  | _ => false
theorem awake_ok : okT ((aCall T0 300).call 8 17 [] h0) = true := by decide +kernel
theorem okT_spec : ∀ {r : Option (AVal × AH)}, okT r = true → ∃ h1, r = some (.bool true, h1)
  | some (.bool true, h1), _ => ⟨h1, rfl⟩
theorem awake_run0 : ∃ h1, (aCall T0 300).call 8 17 [] h0 = some (.bool true, h1) := okT_spec awake_ok
end Go.Proofs.YtndlfkibcelhmaaGreatDoor.Ai
end
