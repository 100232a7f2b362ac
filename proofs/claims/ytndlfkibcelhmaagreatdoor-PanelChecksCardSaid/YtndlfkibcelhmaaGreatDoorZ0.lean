/- The law PanelChecks is proved: its row and its card; no condition beside the statement. -/
import Derived.Test.YtndlfkibcelhmaaGreatDoorR0
import Derived.Test.YtndlfkibcelhmaaGreatDoorF0
import Derived.Test.YtndlfkibcelhmaaGreatDoorRows
import Derived.Test.YtndlfkibcelhmaaGreatDoorCards
import Derived.Test.YtndlfkibcelhmaaGreatDoorTie
import Derived.Test.YtndlfkibcelhmaaGreatDoorChecked
import Derived.SevenTiedAt
import Derived.ProofKit
import Derived.JoinedOf
set_option linter.all false
section
set_option maxRecDepth 100000
namespace Go.Proofs.YtndlfkibcelhmaaGreatDoor
open Go Go.Proofs
theorem panelChecks_holds : Rows.PanelChecksSaid :=
  OpenClaim.holds_of_wide 10 Tryz.f10 rfl rfl rfl rfl rfl rfl rfl ⟨rfl, rfl, rfl, rfl, rfl⟩ rfl rfl rfl rfl rfl PanelChecksF.named Tryz.func10 PanelChecksF.jf PanelChecksF.inst PanelChecksF.wrapper
    (fun os started H enc _ => panelChecks_lifted os started H enc)
theorem panelChecks_card : Rows.PanelChecksCardSaid :=
  Claim7.holds_tied_plain_at .later [] [.data, .data, .data, .data, .sentinel, .sentinel, .pinned] true (true, "8261871f27066581248c53bf4155c8c6b186ed4bae7b381e123a0fa99d1dcc43") true
    panelChecks_holds (fun _ h => by cases h) PanelChecksF.wf (fun _ h => by cases h) panelChecks_row_tie rfl ⟨rfl, rfl⟩ PanelChecksF.main rfl
    (fun f fn hf hfn => by
      obtain rfl : f = 10 := Option.some.inj (PanelChecksF.named.symm.trans hf) |>.symm
      obtain rfl : fn = Tryz.f10 := (Option.some.inj (Tryz.func10.symm.trans hfn)).symm
      exact ⟨PanelChecksF.looks, fun j t ht => by
        rw [Tryz.params10] at ht
        have h3 : t = 24 ∨ t = 53 := by
          rcases j with _ | _ | j
          · left; simpa using ht.symm
          · right; simpa using ht.symm
          · simp at ht
        rcases h3 with rfl | rfl
        · exact PanelChecksF.stand24
        · exact PanelChecksF.stand53
        ⟩)
    PanelChecksF.goes
#print axioms panelChecks_card
end Go.Proofs.YtndlfkibcelhmaaGreatDoor
end
