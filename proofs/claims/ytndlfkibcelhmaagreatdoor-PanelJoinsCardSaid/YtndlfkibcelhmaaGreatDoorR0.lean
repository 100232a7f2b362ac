/- The law at the machine: its row is lifted. -/
import Derived.Test.YtndlfkibcelhmaaGreatDoorS0
import Derived.Test.YtndlfkibcelhmaaGreatDoorO0
import Derived.Test.YtndlfkibcelhmaaGreatDoorC1
import Derived.Test.YtndlfkibcelhmaaGreatDoorRows
import Derived.ProofKit
import Derived.ChangeSame
import Derived.ChangeVars
import Derived.JoinedOf
import Derived.LaidLaws
import Derived.Stop.Joined
import Derived.Carry
import Derived.LaidMore
set_option linter.all false
section
set_option maxRecDepth 100000
set_option linter.all false
namespace Go.Proofs.YtndlfkibcelhmaaGreatDoor
open Go Go.Proofs Go.ChangeShapes Go.WideShapes Go.RowKit Go.Proofs.YtndlfkibcelhmaaGreatDoor.Ai

theorem Tryz.own : ownKnob Tryz.prog.godebug = none := by kernel_rfl
theorem Tryz.laidOut : laidOutB Tryz.prog = true := by kernel_rfl

theorem edges_row {H : Type} {enc : TypeId × Value → H} {W : World} {n : Nat} {cs : List Value} {y : DataW H × List MemPlace} {held : Bool} (h : DataW.trod enc Tryz.prog W 0 (fun _ => true) held n 22 cs = some y) : ∃ v es, cs = [v] ∧ RowAt EdE W.heap v es :=
  edges_open (te := 53) (t1 := 9) (t2 := 3) (t3 := 4) Tryz.underlying22 Tryz.underlying53 (by kernel_rfl) rfl rfl rfl rfl rfl rfl Tryz.underlying9 Tryz.underlying3 Tryz.underlying4 (by kernel_rfl) (by kernel_rfl) (by kernel_rfl) h

theorem list4 {α : Type} {l : List α} (h : l.length = 4) : ∃ a b c d, l = [a, b, c, d] := by
  match l, h with
  | [a, b, c, d], _ => exact ⟨a, b, c, d, rfl⟩
theorem list3 {α : Type} {l : List α} (h : l.length = 3) : ∃ a b c, l = [a, b, c] := by
  match l, h with
  | [a, b, c], _ => exact ⟨a, b, c, rfl⟩
theorem cells24 : Tryz.prog.cellsOf 24 = 4 := by kernel_rfl
theorem cells53 : Tryz.prog.cellsOf 53 = 3 := by kernel_rfl
theorem cells9 : Tryz.prog.cellsOf 9 = 1 := by kernel_rfl
theorem cells3 : Tryz.prog.cellsOf 3 = 1 := by kernel_rfl
theorem cells4 : Tryz.prog.cellsOf 4 = 1 := by kernel_rfl
theorem cells22 : Tryz.prog.cellsOf 22 = 1 := by kernel_rfl

theorem panel_open {H : Type} {enc : TypeId × Value → H} {W : World} {base : Nat} {v : Value} {d : DataW H} {p : List MemPlace} (hv : Value.okWide Tryz.prog W .any base 24 v) (h : DataW.Trod enc Tryz.prog W 0 (fun _ => true) true 24 v d p) :
    ∃ name width lv rv ls rs, v = .agg #[.string name, .int .i64 width, lv, rv] ∧ RowAt EdE W.heap lv ls ∧ RowAt EdE W.heap rv rs := by
  unfold Value.okWide at hv
  rw [Tryz.underlying24] at hv
  obtain ⟨cs, rfl, hsz, _⟩ := hv
  rw [cells24] at hsz
  obtain ⟨n, h⟩ := h
  obtain ⟨x1, x2, x3, x4, hl⟩ := list4 (l := cs.toList) (by simpa using hsz)
  have hcs : cs = #[x1, x2, x3, x4] := by apply Array.ext'; rw [hl]
  subst hcs
  obtain ⟨xs, m, _, _, _, hxl, hf⟩ := DataW.trod_struct Tryz.underlying24 h
  simp at hxl
  have g1 := hf 0 _ rfl
  have g2 := hf 1 _ rfl
  have g3 := hf 2 _ rfl
  have g4 := hf 3 _ rfl
  simp only [cells9, cells3, cells22, Value.cells, List.drop_zero, List.drop_succ_cons, List.take_succ_cons, List.take_zero] at g1 g2 g3 g4
  rw [List.getElem?_eq_getElem (by omega)] at g1 g2 g3 g4
  obtain ⟨s, k1, _⟩ := DataW.trod_string Tryz.underlying9 g1
  obtain ⟨t, k2, _⟩ := DataW.trod_int Tryz.underlying3 g2
  obtain ⟨lv, ls, k3, hls⟩ := edges_row g3
  obtain ⟨rv, rs, k4, hrs⟩ := edges_row g4
  cases k1; cases k2; cases k3; cases k4
  exact ⟨s, t, _, _, ls, rs, rfl, hls, hrs⟩
theorem edge_arg {H : Type} {enc : TypeId × Value → H} {W : World} {base : Nat} {v : Value} {d : DataW H} {p : List MemPlace} (hv : Value.okWide Tryz.prog W .any base 53 v) (h : DataW.Trod enc Tryz.prog W 0 (fun _ => true) true 53 v d p) :
    ∃ word times out, v = .agg #[.string word, .int .i64 times, .bool out] := by
  unfold Value.okWide at hv
  rw [Tryz.underlying53] at hv
  obtain ⟨cs, rfl, hsz, _⟩ := hv
  rw [cells53] at hsz
  obtain ⟨n, h⟩ := h
  obtain ⟨x1, x2, x3, hl⟩ := list3 (l := cs.toList) (by simpa using hsz)
  have hcs : cs = #[x1, x2, x3] := by apply Array.ext'; rw [hl]
  subst hcs
  obtain ⟨xs, m, _, _, _, hxl, hf⟩ := DataW.trod_struct Tryz.underlying53 h
  simp at hxl
  have g1 := hf 0 _ rfl
  have g2 := hf 1 _ rfl
  have g3 := hf 2 _ rfl
  simp only [cells9, cells3, cells4, Value.cells, List.drop_zero, List.drop_succ_cons, List.take_succ_cons, List.take_zero] at g1 g2 g3
  rw [List.getElem?_eq_getElem (by omega)] at g1 g2 g3
  obtain ⟨s, k1, _⟩ := DataW.trod_string Tryz.underlying9 g1
  obtain ⟨t, k2, _⟩ := DataW.trod_int Tryz.underlying3 g2
  obtain ⟨b, k3, _⟩ := DataW.trod_bool Tryz.underlying4 g3
  cases k1; cases k2; cases k3
  exact ⟨s, t, b, rfl⟩

def litCells : DataW Unit → Array Value
  | .agg l => (l.map fun d => match d with | .lit (.int k n) => Value.int k n | _ => Value.bool false).toArray
  | _ => #[]
theorem bool_arg {W : World} {base : Nat} {v : Value} (hv : Value.okWide Tryz.prog W .any base 4 v) : ∃ b, v = .bool b := by
  unfold Value.okWide at hv
  rw [Tryz.underlying4] at hv
  simp only [Cell.okWide, Tryz.underlying4] at hv
  unfold Cell.ok at hv
  rw [Tryz.underlying4] at hv
  cases v <;> first | exact ⟨_, rfl⟩ | exact hv.elim
theorem int_arg {W : World} {base : Nat} {v : Value} (hv : Value.okWide Tryz.prog W .any base 3 v) : ∃ n, v = .int .i64 n ∧ -9223372036854775808 ≤ n ∧ n < 9223372036854775808 := by
  unfold Value.okWide at hv
  rw [Tryz.underlying3] at hv
  simp only [Cell.okWide, Tryz.underlying3] at hv
  unfold Cell.ok at hv
  rw [Tryz.underlying3] at hv
  cases v <;> first | exact hv.elim | skip
  obtain ⟨rfl, h1⟩ := hv
  obtain ⟨h1, h2⟩ := h1
  have e1 : IntKind.min .i64 = -9223372036854775808 := by decide
  have e2 : IntKind.max .i64 = 9223372036854775807 := by decide
  rw [e1] at h1
  rw [e2] at h2
  exact ⟨_, rfl, by omega⟩
theorem goes_calls {P : Program} {f : FuncId} {args : Array Value} {w w' : World} {x : Value} (h : Goes P (callFunc f args) w x w') (he : (callFunc f args).run P w = .ok (.enter f args) w) : CallsTo P f args w x w' := by
  rcases h with (h | ⟨h, _⟩) | ⟨f', args', w1, h, hc⟩ | ⟨_, _, _, _, _, _, h, _⟩
  · rw [he] at h; cases h
  · rw [he] at h; cases h
  · rw [he] at h; cases h; exact hc
  · rw [he] at h; cases h
end Go.Proofs.YtndlfkibcelhmaaGreatDoor
end
section
set_option maxRecDepth 100000
set_option maxHeartbeats 0
set_option linter.all false
namespace Go.Proofs.YtndlfkibcelhmaaGreatDoor
open Go Go.Proofs Go.ChangeShapes Go.WideShapes Go.RowKit Go.Proofs.YtndlfkibcelhmaaGreatDoor.Ai

/-- The law PanelJoins at the machine: true, and nothing old is written. -/
theorem panelJoins_calls {W : World} (hs : 8 ≤ W.heap.size) {name0 : ByteArray} {width0 : Int} {lv0 rv0 : Value} {ls0 rs0 : List Ed} (hl0 : RowAt EdE W.heap lv0 ls0) (hr0 : RowAt EdE W.heap rv0 rs0) {name1 : ByteArray} {width1 : Int} {lv1 rv1 : Value} {ls1 rs1 : List Ed} (hl1 : RowAt EdE W.heap lv1 ls1) (hr1 : RowAt EdE W.heap rv1 rs1) {n2 : Int} (hn2 : -9223372036854775808 ≤ n2 ∧ n2 < 9223372036854775808) :
    ∃ W', Goes Tryz.prog (callFunc 6 #[.agg #[.string name0, .int .i64 width0, lv0, rv0], .agg #[.string name1, .int .i64 width1, lv1, rv1], .int .i64 n2]) W (.bool true) W' ∧ (∀ may, World.keptBut W W' may) ∧ ∀ b, b < W.heap.size → W'.heap[b]? = W.heap[b]? := by
  have hR0 := HR.base (P := Tryz.prog) (H := W.heap) (G := 8) globals8 hs
  obtain ⟨F1, μ1, h1, a1, hR1, hF1, le1, k1, hL1, ra1, va1⟩ := start_row hR0 rfl rfl hl0
  obtain ⟨F2, μ2, h2, a2, hR2, hF2, le2, k2, hL2, ra2, va2⟩ := start_row hR1 hF1 rfl hr0
  obtain ⟨F3, μ3, h3, a3, hR3, hF3, le3, k3, hL3, ra3, va3⟩ := start_row hR2 hF2 rfl hl1
  obtain ⟨F4, μ4, h4, a4, hR4, hF4, le4, k4, hL4, ra4, va4⟩ := start_row hR3 hF3 rfl hr1
  have hcl := panelJoins_cl (fl := F4) (h := h4) (l := a1) (r := a2) (p := ⟨name0.data.toList.map UInt8.toNat, width0, ls0, rs0⟩) (l2 := a3) (r2 := a4) (o := ⟨name1.data.toList.map UInt8.toNat, width1, ls1, rs1⟩) (n2 := n2) (by omega) ⟨(((va1.keep k2).keep k3).keep k4), ((va2.keep k3).keep k4)⟩ ⟨(va3.keep k4), va4⟩ hn2
  obtain ⟨v, h', μ', x, w', hq, hgo, hsame, _, hext, rx⟩ := cl_calls hcl (Nat.le_refl _) (by omega) (μ := μ4) (vs := #[.agg #[.string name0, .int .i64 width0, lv0, rv0], .agg #[.string name1, .int .i64 width1, lv1, rv1], .int .i64 n2]) hR4 (Reps.cons (by
      simp only [Rep]
      refine ⟨_, rfl, Reps.cons ?_ (Reps.cons ?_ (Reps.cons (((ra1.mono le2).mono le3).mono le4) (Reps.cons ((ra2.mono le3).mono le4) Reps.nil)))⟩
      · simp only [Rep]; exact ⟨_, rfl, rfl⟩
      · simp only [Rep]) (Reps.cons (by
      simp only [Rep]
      refine ⟨_, rfl, Reps.cons ?_ (Reps.cons ?_ (Reps.cons (ra3.mono le4) (Reps.cons ra4 Reps.nil)))⟩
      · simp only [Rep]; exact ⟨_, rfl, rfl⟩
      · simp only [Rep]) (Reps.cons (by simp only [Rep]) (Reps.nil))))
  subst hq
  simp only [Rep] at rx
  subst rx
  exact ⟨w', hgo, fun may => kept_of hsame (hext.kept hR4.dom (by omega)), hext.kept hR4.dom (by omega)⟩
theorem panelJoins_size {W : World} (hL : laidMetH Tryz.prog Rows.panelJoinsRow.laid W) : 8 ≤ W.heap.size := by
  have h' : laidMet Tryz.prog Rows.panelJoinsRow.laid W := hL
  obtain ⟨ps, hv, _⟩ := h'
  obtain ⟨_, _, _, _, _, _, _, _, _, _, hv, _⟩ := hv
  obtain ⟨_, _, _, _, _, _, _, _, _, _, hv, _⟩ := hv
  obtain ⟨_, _, _, _, _, _, _, _, _, _, hv, _⟩ := hv
  obtain ⟨_, _, _, _, _, _, _, _, _, _, hv, _⟩ := hv
  obtain ⟨g, t, cs, _, _, _, hg, _, hvar, _⟩ := hv
  have h7 : Tryz.prog.globalNamed "strconv.ErrRange" = some 7 := by kernel_rfl
  unfold World.var? at hvar
  rw [h7] at hvar
  simp only [Option.bind_some] at hvar
  have : (W.heap[7]?).isSome = true := by
    cases hb : W.heap[7]? with
    | none => rw [hb] at hvar; cases hvar
    | some o => rfl
  rcases Nat.lt_or_ge 7 W.heap.size with h | h
  · omega
  · rw [Array.getElem?_eq_none h] at this; cases this

/-- A start that meets the condition: the door's own heap, and the pinned table. -/
noncomputable def panelJoinsWorld (os : Os) : World :=
  { World.doorLaid Tryz.prog 2000 os with heap := (World.doorLaid Tryz.prog 2000 os).heap.modify 4 fun
      | .cells _ t frozen => .cells (litCells Rows.laid_unicode_utf8_first) t frozen
      | o => o }
theorem panelJoins_met (os : Os) (args : Array Value) : laidMetH Tryz.prog Rows.panelJoinsRow.laid ((panelJoinsWorld os).forCall (fun _ _ => 0) ⟨#[], args, []⟩).memory :=
  laidMetH_of_parts (laidMet_of_run' 8 (by kernel_rfl) (by kernel_rfl)) (by kernel_rfl)
theorem panelJoins_lifted (os : Os) (started : os.Started) (H : Type) (enc : TypeId × Value → H) :
    ReturnsInHanded {} Tryz.checked os 6 .any (fun w args => (Rows.panelJoinsSpec.pre enc Tryz.prog Tryz.f6 [] false w args ∧ laidMetH Tryz.prog Rows.panelJoinsRow.laid w) ∧ sizedMet enc Tryz.prog Tryz.f6 (OpenSpec.ofChange Rows.panelJoinsSpec) false w args)
      (Rows.panelJoinsSpec.post enc Tryz.prog Tryz.f6 false true false false) := by
  refine returnsInHanded_of_change_and (C := Tryz.checked) (X := fun w _ => laidMetH Tryz.prog Rows.panelJoinsRow.laid w) (fun _ _ _ hh h => h.of_heap hh) Tryz.own started (by kernel_rfl) Tryz.func6 ?wit ?_
  case wit => exact ChangeSpec.witness_shaped (enc := enc) (C := Tryz.checked) (os := os) (X := fun w _ => laidMetH Tryz.prog Rows.panelJoinsRow.laid w) false (panelJoinsWorld os) #[.agg #[.string .empty, .int .i64 0, .slice none 0 0, .slice none 0 0], .agg #[.string .empty, .int .i64 0, .slice none 0 0, .slice none 0 0], .int .i64 0] 8 rfl (World.shaped_of_RefB (by kernel_rfl) (by kernel_rfl)) (by kernel_rfl) (by kernel_rfl) (by kernel_rfl) (panelJoins_met os _)
  intro W base args ds gs before hval0 hW _ _ hL _
  have hval : ∀ (j : Nat) t v, Tryz.f6.params[j]? = some t → args[j]? = some v → Value.okWide Tryz.prog W .any base t v := hval0
  have hW' := hW
  obtain ⟨p, q, hA0, hV0, rfl, hfz, hnd⟩ := hW
  have hA : DataW.TrodAll enc Tryz.prog W 0 (fun _ => true) true Tryz.f6.params.toList args.toList ds p := hA0
  rw [Tryz.params6] at hA hval
  obtain ⟨v0, v1, v2, d0, d1, d2, p0, p1, p2, rfl, rfl, rfl, h0, h1, h2⟩ := trodAll_three hA
  obtain ⟨name0, width0, lv0, rv0, ls0, rs0, rfl, hl0, hr0⟩ := panel_open (hval 0 24 v0 rfl rfl) h0
  obtain ⟨name1, width1, lv1, rv1, ls1, rs1, rfl, hl1, hr1⟩ := panel_open (hval 1 24 v1 rfl rfl) h1
  obtain ⟨n2, rfl, hn2⟩ := int_arg (hval 2 3 v2 rfl rfl)
  have hsize : 8 ≤ W.heap.size := panelJoins_size hL
  obtain ⟨W', hgo, hkept, hblk⟩ := panelJoins_calls hsize (name0 := name0) (width0 := width0) hl0 hr0 (name1 := name1) (width1 := width1) hl1 hr1 hn2
  have hcall := goes_calls hgo (enters_of Tryz.func6 (by kernel_rfl) rfl _ _)
  have same : ∀ x : MemPlace, x.block < W.heap.size → W.sameAt W' x := fun x hx => by
    cases x with
    | cell b o => exact World.cell?_of_block (w := W) (hblk b hx)
    | map b => exact hblk b hx
  have lt : ∀ x ∈ p0 ++ p1 ++ p2, x.block < W.heap.size := DataW.TrodAll.lt hA
  obtain ⟨rfl, rfl⟩ : gs = [] ∧ q = [] := by
    cases gs with
    | nil => exact ⟨rfl, hV0⟩
    | cons g r => exact absurd hV0 (by intro h; cases h)
  refine Calls.mono hcall fun e W1 ⟨he, hw⟩ => ?_
  subst he; subst hw
  have e1 : Rows.panelJoinsSpec.fn H ([d0, d1, d2] ++ []) = { results := [.lit (.bool true)], args := [d0, d1, d2] } := by simp [Rows.panelJoinsSpec]
  refine ⟨_, rfl, _, _, _, [], p0 ++ (p1 ++ p2), [], hW', ?_, ?_, ?_, hkept _, fun h => by cases h⟩
  · rw [e1]; exact trodAll_mk1 (shut_bool Tryz.underlying4 true)
  · rw [e1]
    exact trodAll_mk3 (WideElems.Trod_stays Tryz.laidOut (by kernel_rfl) (by decide +kernel) h0 (fun x hx => same x (lt x (List.mem_append_left _ (List.mem_append_left _ hx)))) (fun x hx => by simpa using lt x (List.mem_append_left _ (List.mem_append_left _ hx)))) (WideElems.Trod_stays Tryz.laidOut (by kernel_rfl) (by decide +kernel) h1 (fun x hx => same x (lt x (List.mem_append_left _ (List.mem_append_right _ hx)))) (fun x hx => by simpa using lt x (List.mem_append_left _ (List.mem_append_right _ hx)))) (WideElems.Trod_stays Tryz.laidOut (by kernel_rfl) (by decide +kernel) h2 (fun x hx => same x (lt x (List.mem_append_right _ hx))) (fun x hx => by simpa using lt x (List.mem_append_right _ hx)))
  · rw [e1]; rfl
end Go.Proofs.YtndlfkibcelhmaaGreatDoor
end
