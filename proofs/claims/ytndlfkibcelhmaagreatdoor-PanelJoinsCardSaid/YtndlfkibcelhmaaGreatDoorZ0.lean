/- The law PanelJoins is proved: its row and its card; no condition beside the statement. -/
import Derived.Test.YtndlfkibcelhmaaGreatDoorR0
import Derived.Test.YtndlfkibcelhmaaGreatDoorF0
import Derived.Test.YtndlfkibcelhmaaGreatDoorRows
import Derived.Test.YtndlfkibcelhmaaGreatDoorCards
import Derived.Test.YtndlfkibcelhmaaGreatDoorTie
import Derived.Test.YtndlfkibcelhmaaGreatDoorChecked
import Derived.SevenTiedAt
import Derived.ProofKit
import Derived.JoinedOf
set_option linter.all false
section
set_option maxRecDepth 100000
namespace Go.Proofs.YtndlfkibcelhmaaGreatDoor
open Go Go.Proofs
theorem panelJoins_holds : Rows.PanelJoinsSaid :=
  OpenClaim.holds_of_wide 6 Tryz.f6 rfl rfl rfl rfl rfl rfl rfl ⟨rfl, rfl, rfl, rfl, rfl⟩ rfl rfl rfl rfl rfl PanelJoinsF.named Tryz.func6 PanelJoinsF.jf PanelJoinsF.inst PanelJoinsF.wrapper
    (fun os started H enc _ => panelJoins_lifted os started H enc)
theorem panelJoins_card : Rows.PanelJoinsCardSaid :=
  Claim7.holds_tied_plain_at .later [] [.data, .data, .data, .data, .sentinel, .sentinel, .pinned] true (true, "8261871f27066581248c53bf4155c8c6b186ed4bae7b381e123a0fa99d1dcc43") true
    panelJoins_holds (fun _ h => by cases h) PanelJoinsF.wf (fun _ h => by cases h) panelJoins_row_tie rfl ⟨rfl, rfl⟩ PanelJoinsF.main rfl
    (fun f fn hf hfn => by
      obtain rfl : f = 6 := Option.some.inj (PanelJoinsF.named.symm.trans hf) |>.symm
      obtain rfl : fn = Tryz.f6 := (Option.some.inj (Tryz.func6.symm.trans hfn)).symm
      exact ⟨PanelJoinsF.looks, fun j t ht => by
        rw [Tryz.params6] at ht
        have h3 : t = 24 ∨ t = 24 ∨ t = 3 := by
          rcases j with _ | _ | _ | j
          · left; simpa using ht.symm
          · right; left; simpa using ht.symm
          · right; right; simpa using ht.symm
          · simp at ht
        rcases h3 with rfl | rfl | rfl
        · exact PanelJoinsF.stand24
        · exact PanelJoinsF.stand24
        · exact PanelJoinsF.stand3
        ⟩)
    PanelJoinsF.goes
#print axioms panelJoins_card
end Go.Proofs.YtndlfkibcelhmaaGreatDoor
end
