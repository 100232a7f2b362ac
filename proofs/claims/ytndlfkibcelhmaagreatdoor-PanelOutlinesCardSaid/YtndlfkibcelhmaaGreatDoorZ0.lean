/- The law PanelOutlines is proved: its row and its card; no condition beside the statement. -/
import Derived.Test.YtndlfkibcelhmaaGreatDoorR0
import Derived.Test.YtndlfkibcelhmaaGreatDoorF0
import Derived.Test.YtndlfkibcelhmaaGreatDoorRows
import Derived.Test.YtndlfkibcelhmaaGreatDoorCards
import Derived.Test.YtndlfkibcelhmaaGreatDoorTie
import Derived.Test.YtndlfkibcelhmaaGreatDoorChecked
import Derived.SevenTiedAt
import Derived.ProofKit
import Derived.JoinedOf
set_option linter.all false
section
set_option maxRecDepth 100000
namespace Go.Proofs.YtndlfkibcelhmaaGreatDoor
open Go Go.Proofs
theorem panelOutlines_holds : Rows.PanelOutlinesSaid :=
  OpenClaim.holds_of_wide 11 Tryz.f11 rfl rfl rfl rfl rfl rfl rfl ⟨rfl, rfl, rfl, rfl, rfl⟩ rfl rfl rfl rfl rfl PanelOutlinesF.named Tryz.func11 PanelOutlinesF.jf PanelOutlinesF.inst PanelOutlinesF.wrapper
    (fun os started H enc _ => panelOutlines_lifted os started H enc)
theorem panelOutlines_card : Rows.PanelOutlinesCardSaid :=
  Claim7.holds_tied_plain_at .later [] [.data, .data, .data, .data, .sentinel, .sentinel, .pinned] true (true, "8261871f27066581248c53bf4155c8c6b186ed4bae7b381e123a0fa99d1dcc43") true
    panelOutlines_holds (fun _ h => by cases h) PanelOutlinesF.wf (fun _ h => by cases h) panelOutlines_row_tie rfl ⟨rfl, rfl⟩ PanelOutlinesF.main rfl
    (fun f fn hf hfn => by
      obtain rfl : f = 11 := Option.some.inj (PanelOutlinesF.named.symm.trans hf) |>.symm
      obtain rfl : fn = Tryz.f11 := (Option.some.inj (Tryz.func11.symm.trans hfn)).symm
      exact ⟨PanelOutlinesF.looks, fun j t ht => by
        rw [Tryz.params11] at ht
        have h3 : t = 24 ∨ t = 4 := by
          rcases j with _ | _ | j
          · left; simpa using ht.symm
          · right; simpa using ht.symm
          · simp at ht
        rcases h3 with rfl | rfl
        · exact PanelOutlinesF.stand24
        · exact PanelOutlinesF.stand4
        ⟩)
    PanelOutlinesF.goes
#print axioms panelOutlines_card
end Go.Proofs.YtndlfkibcelhmaaGreatDoor
end
