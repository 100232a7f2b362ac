/- Closed facts of the row. -/
import Derived.Test.YtndlfkibcelhmaaGreatDoorRows
import Derived.Test.YtndlfkibcelhmaaGreatDoorCards
import Derived.Test.YtndlfkibcelhmaaGreatDoorTie
import Derived.Test.YtndlfkibcelhmaaGreatDoorChecked
import Derived.SevenTiedAt
import Derived.ProofKit
import Derived.JoinedOf
set_option linter.all false
section
set_option maxRecDepth 100000
set_option maxHeartbeats 0
namespace Go.Proofs.YtndlfkibcelhmaaGreatDoor.PanelJoinsF
open Go Go.Proofs
theorem jf : joinedFacts Tryz.prog 6 Tryz.f6 Rows.panelJoinsSpec Rows.panelJoinsRow = true := by
  unfold joinedFacts
  simp only [Bool.and_eq_true]
  repeat' refine And.intro ?_ ?_
  all_goals (as_aux_lemma => kernel_rfl)
theorem inst : Func.isInstance Tryz.pinned.checked.prog Tryz.f6 Rows.panelJoinsRow.origin Rows.panelJoinsRow.targs := of_decide_eq_true (by kernel_rfl)
theorem wrapper : Func.isWrapper Tryz.pinned.checked.prog Tryz.f6 Rows.panelJoinsRow.wrapper Rows.panelJoinsRow.mainSum := by unfold Func.isWrapper; rw [if_neg (of_decide_eq_false (by kernel_rfl))]; exact ⟨rfl, rfl⟩
theorem wf : Rows.panelJoinsRow.wfByText (OpenSpec.ofChange Rows.panelJoinsSpec) = true := by kernel_rfl
theorem main : Tryz.prog.mainIs = some (true, "8261871f27066581248c53bf4155c8c6b186ed4bae7b381e123a0fa99d1dcc43".toList) := by kernel_rfl
theorem looks : true = Tryz.prog.looks [] := by kernel_rfl
theorem goes : false = Rows.panelJoinsRow.goesBy Tryz.prog := by kernel_rfl
theorem named : Tryz.prog.funcNamed "codend/codendlaw03.PanelJoins" = some 6 := by kernel_rfl
theorem stand3 : Tryz.prog.wantsStandIn 3 = false := by kernel_rfl
theorem stand24 : Tryz.prog.wantsStandIn 24 = false := by kernel_rfl
end Go.Proofs.YtndlfkibcelhmaaGreatDoor.PanelJoinsF
end
