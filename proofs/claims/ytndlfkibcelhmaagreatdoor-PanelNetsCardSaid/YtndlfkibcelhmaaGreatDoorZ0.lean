/- The law PanelNets is proved: its row and its card; no condition beside the statement. -/
import Derived.Test.YtndlfkibcelhmaaGreatDoorR0
import Derived.Test.YtndlfkibcelhmaaGreatDoorF0
import Derived.Test.YtndlfkibcelhmaaGreatDoorRows
import Derived.Test.YtndlfkibcelhmaaGreatDoorCards
import Derived.Test.YtndlfkibcelhmaaGreatDoorTie
import Derived.Test.YtndlfkibcelhmaaGreatDoorChecked
import Derived.SevenTiedAt
import Derived.ProofKit
import Derived.JoinedOf
set_option linter.all false
section
set_option maxRecDepth 100000
namespace Go.Proofs.YtndlfkibcelhmaaGreatDoor
open Go Go.Proofs
theorem panelNets_holds : Rows.PanelNetsSaid :=
  OpenClaim.holds_of_wide 3 Tryz.f3 rfl rfl rfl rfl rfl rfl rfl ⟨rfl, rfl, rfl, rfl, rfl⟩ rfl rfl rfl rfl rfl PanelNetsF.named Tryz.func3 PanelNetsF.jf PanelNetsF.inst PanelNetsF.wrapper
    (fun os started H enc _ => panelNets_lifted os started H enc)
theorem panelNets_card : Rows.PanelNetsCardSaid :=
  Claim7.holds_tied_plain_at .later [] [.data, .data, .data, .data, .sentinel, .sentinel, .pinned] true (true, "8261871f27066581248c53bf4155c8c6b186ed4bae7b381e123a0fa99d1dcc43") true
    panelNets_holds (fun _ h => by cases h) PanelNetsF.wf (fun _ h => by cases h) panelNets_row_tie rfl ⟨rfl, rfl⟩ PanelNetsF.main rfl
    (fun f fn hf hfn => by
      obtain rfl : f = 3 := Option.some.inj (PanelNetsF.named.symm.trans hf) |>.symm
      obtain rfl : fn = Tryz.f3 := (Option.some.inj (Tryz.func3.symm.trans hfn)).symm
      exact ⟨PanelNetsF.looks, fun j t ht => by
        rw [Tryz.params3] at ht
        have h3 : t = 24 := by
          rcases j with _ | j
          · simpa using ht.symm
          · simp at ht
        rcases h3 with rfl
        · exact PanelNetsF.stand24
        ⟩)
    PanelNetsF.goes
#print axioms panelNets_card
end Go.Proofs.YtndlfkibcelhmaaGreatDoor
end
