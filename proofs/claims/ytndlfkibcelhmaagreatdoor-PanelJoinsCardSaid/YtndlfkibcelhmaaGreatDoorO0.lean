/- The first store of a row: arguments opened. -/
import Derived.Test.YtndlfkibcelhmaaGreatDoorA2
import GoSem.ClaimChange
import Derived.ChangeArms
set_option linter.all false
section
/- The first store of a row: its variables, its arguments' rows, all only read; what a run keeps. -/
set_option linter.unusedVariables false
namespace Go.Proofs.YtndlfkibcelhmaaGreatDoor.Ai
open Go Go.Proofs
variable {P : Program} {F B fl : Nat} {μ : Mu} {h : AH} {H : Array Obj}

theorem ObjRep.ow {ow ow' : Prop} (hw : ow' → ow) {m : MB} {ob : Option Obj} : ∀ {o : AObj}, ObjRep P μ ow m ob o → ObjRep P μ ow' m ob o
  | .cells _, r => by obtain ⟨cs, e, lo, hi, h1, h2, h3, h4⟩ := r; exact ⟨cs, e, lo, hi, h1, h2, h3, fun x => h4 (hw x)⟩
  | .map _, r => r
  | .siter _ _, r => r
  | .loop _, r => r
  | .tcells _ _, r => by obtain ⟨h0, cs, h1, h2, h3, h4⟩ := r; exact ⟨h0, cs, h1, h2, h3, fun x => h4 (hw x)⟩
  | .trow _ _, r => by obtain ⟨cs, lo, hi, h1, h2, h3, h4⟩ := r; exact ⟨cs, lo, hi, h1, h2, h3, fun x => h4 (hw x)⟩
  | .dead, _ => trivial

/-- The variables, of which nothing is known. -/
theorem HR.base {G : Nat} (hG : P.globals.size = G) (hs : G ≤ H.size) : HR P G H.size (fun g => if g < G then some ⟨g, 0, 0⟩ else none) ⟨G, .leaf⟩ H where
  dom id m hm := by
    by_cases e : id < G
    · exact e
    · rw [if_neg e] at hm; cases hm
  obj id m o _ hg := by cases hg
  own id m hm hi := by rw [if_neg (by omega)] at hm; cases hm
  inj id id' m m' hi _ hm _ _ _ _ := by rw [if_neg (by omega)] at hm; cases hm
  ro id m hm hi := by rw [if_pos hi] at hm; cases hm; simp only; omega
  big := Nat.le_refl _
  glob g hg := ⟨0, if_pos (by omega)⟩
  wf id o _ hg := by cases hg

/-- One more row that is only read. -/
theorem HR.ro_push (r : HR P F B μ h H) (hF : F = h.n) (vs : List AVal) (m : MB) (hb : m.b < B) (ho : ∀ ow : Prop, ¬ ow → ObjRep P (μ.put h.n m) ow m H[m.b]? (.cells vs)) :
    HR P (F + 1) B (μ.put h.n m) (h.push (.cells vs)) H where
  dom id m' hm := by
    rw [AH.n_push]
    by_cases e : id = h.n
    · omega
    · rw [Mu.put_ne _ _ e] at hm; have := r.dom id m' hm; omega
  obj id m' o hm hg := by
    rw [AH.get_push] at hg
    by_cases e : id = h.n
    · rw [if_pos e] at hg
      cases hg
      rw [e, Mu.put_same] at hm
      cases hm
      exact ho _ (by omega)
    · rw [if_neg e] at hg
      rw [Mu.put_ne _ _ e] at hm
      exact ((r.obj id m' o hm hg).ow (by omega)).mono (Mu.le_put _ r.unused)
  own id m' hm hi := by
    by_cases e : id = h.n
    · omega
    · rw [Mu.put_ne _ _ e] at hm; have := r.dom id m' hm; omega
  inj id id' m1 m2 hi _ hm _ _ _ _ := by
    by_cases e : id = h.n
    · omega
    · rw [Mu.put_ne _ _ e] at hm; have := r.dom id m1 hm; omega
  ro id m' hm hi := by
    by_cases e : id = h.n
    · rw [e, Mu.put_same] at hm; cases hm; exact hb
    · rw [Mu.put_ne _ _ e] at hm; exact r.ro id m' hm (by have := r.dom id m' hm; omega)
  big := r.big
  glob g hg := by
    obtain ⟨c, hc⟩ := r.glob g hg
    have := r.dom g _ hc
    exact ⟨c, by rw [Mu.put_ne _ _ (by omega)]; exact hc⟩
  wf id o hid hg := by
    rw [AH.n_push] at hid ⊢
    rw [AH.get_push] at hg
    by_cases e : id = h.n
    · rw [if_pos e] at hg
      cases hg
      refine ⟨μ.put h.n m, False, m, H[m.b]?, fun i mi hm => ?_, ho False (fun x => x)⟩
      by_cases e : i = h.n
      · omega
      · rw [Mu.put_ne _ _ e] at hm; have := r.dom i mi hm; omega
    · rw [if_neg e] at hg
      exact ObjBelow.mono P (by omega) (r.wf id o (by omega) hg)

/-- A run that writes nothing old keeps the world. -/
theorem kept_of {w w' : World} {may : MemPlace → Prop} (hs : Same w w') (hf : ∀ b, b < w.heap.size → w'.heap[b]? = w.heap[b]?) : World.keptBut w w' may := by
  refine ⟨hs.os, hs.output, fun i hi => ?_⟩
  rw [hf i hi]
  cases w.heap[i]? with
  | none => rfl
  | some o =>
    cases o <;> first | rfl | exact ⟨rfl, rfl, rfl, fun _ _ => rfl⟩ | exact .inr ⟨rfl, rfl⟩
/-- Where every row is only read, no block that was there is written. -/
theorem Ext.kept {μ' : Mu} {h' : AH} {H' : Array Obj} (e : Ext F fl μ h H μ' h' H') (hd : ∀ id m, μ id = some m → id < h.n) (hfl : h.n ≤ fl) : ∀ b, b < H.size → H'[b]? = H[b]? :=
  fun b hb => e.frame b hb fun id m hi hm _ => by have := hd id m hm; omega
end Go.Proofs.YtndlfkibcelhmaaGreatDoor.Ai
end
section
/- A slice of plain rows, out of the machine's memory. -/
set_option linter.unusedVariables false
namespace Go.Proofs.YtndlfkibcelhmaaGreatDoor.Ai
open Go Go.Proofs
variable {P : Program} {F B fl : Nat} {μ : Mu} {h : AH} {H : Array Obj}

theorem heap_lt' {b : Nat} {o : Obj} (h : H[b]? = some o) : b < H.size := by
  rcases Nat.lt_or_ge b H.size with h' | h'
  · exact h'
  · rw [Array.getElem?_eq_none h'] at h; cases h
/-- A slice in memory, and what it reads as1. -/
def RowAt {α : Type} (E : Enc α) (H : Array Obj) (v : Value) (xs : List α) : Prop :=
  ∃ (ad : Option Addr) (n cap : Nat), v = .slice ad n cap ∧ n = xs.length ∧ n ≤ cap ∧ (cap = 0 ∨ ∃ g o cs e lo hi, ad = some ⟨g, o, none⟩ ∧ H[g]? = some (.cells cs e (lo, hi)) ∧
    ∀ i a, (encs E xs)[i]? = some a → ∃ x, cs[o + i]? = some x ∧ ∀ μ : Mu, Rep μ a x)

theorem start_row {α : Type} {E : Enc α} (r : HR P F B μ h H) (hF : F = h.n) (hB : B = H.size) {v : Value} {xs : List α} (hv : RowAt E H v xs) :
    ∃ F' μ' h' a, HR P F' B μ' h' H ∧ F' = h'.n ∧ μ.le μ' ∧ Keep h h' ∧ F ≤ F' ∧ Rep μ' a v ∧ Vw E h' a xs := by
  obtain ⟨ad, n, cap, rfl, hn, hle, hrow⟩ := hv
  rcases hrow with h0 | ⟨g, o, cs, e, lo, hi, rfl, hg, hc⟩
  · subst h0
    have hn0 : n = 0 := by omega
    subst hn0
    have hx : xs = [] := List.length_eq_zero_iff.1 hn.symm
    subst hx
    cases ad with
    | none => exact ⟨F, μ, h, .nilsl, r, hF, fun _ _ x => x, Keep.refl h, Nat.le_refl _, by simp only [Rep], Vw.nil⟩
    | some ad => exact ⟨F, μ, h, .slz, r, hF, fun _ _ x => x, Keep.refl h, Nat.le_refl _, by simp only [Rep]; exact ⟨ad, rfl⟩, Vw.slz⟩
  · have hgl := heap_lt' hg
    have hr2 := r.ro_push hF (encs E xs) ⟨g, o, cap * E.es + xs.length * E.es⟩ (by simp only; omega) (fun ow how => ⟨cs, e, lo, hi, hg, by rw [encs_length]; simp only; omega, fun i a ha => by
      obtain ⟨x, hx, rx⟩ := hc i a ha
      exact ⟨x, hx, rx _⟩, fun x => absurd x how⟩)
    refine ⟨F + 1, _, _, .sl h.n 0 xs.length E.es, hr2, by rw [AH.n_push]; omega, Mu.le_put _ r.unused, (Keep.refl h).push _, by omega, ?_, Vw.new xs⟩
    simp only [Rep]
    refine ⟨_, o, cap, Mu.put_same _ _ _, by rw [hn], by omega, fun _ => by simp, Nat.le_refl _, by simp only; omega⟩
end Go.Proofs.YtndlfkibcelhmaaGreatDoor.Ai
end
section
/- Arguments opened: a slice of edges. -/
set_option linter.unusedVariables false
namespace Go.Proofs.YtndlfkibcelhmaaGreatDoor.Ai
open Go Go.Proofs

theorem encs_at {α : Type} (E : Enc α) : ∀ (xs : List α) (i : Nat) (a : AVal), (encs E xs)[i]? = some a → ∃ q r, i = q * E.es + r ∧ ∃ hq : q < xs.length, (E.enc xs[q])[r]? = some a
  | [], i, a, h => by simp [encs_nil] at h
  | x :: xs, i, a, h => by
    rw [encs_cons] at h
    by_cases hi : i < E.es
    · rw [List.getElem?_append_left (by rw [E.len]; exact hi)] at h
      exact ⟨0, i, by omega, by simp, by simpa using h⟩
    · rw [List.getElem?_append_right (by rw [E.len]; omega), E.len] at h
      obtain ⟨q, r, h1, h2, h3⟩ := encs_at E xs (i - E.es) a h
      refine ⟨q + 1, r, ?_, by simpa using h2, by simpa using h3⟩
      rw [Nat.add_mul, Nat.one_mul]; omega
theorem pick_list {α : Type} {Q : Nat → α → Prop} : ∀ (n : Nat), (∀ i, i < n → ∃ x, Q i x) → ∃ l : List α, l.length = n ∧ ∀ (i : Nat) (h : i < l.length), Q i l[i]
  | 0, _ => ⟨[], rfl, fun i h => by simp at h⟩
  | n + 1, h => by
    obtain ⟨l, hl, hq⟩ := pick_list n fun i hi => h i (by omega)
    obtain ⟨x, hx⟩ := h n (by omega)
    refine ⟨l ++ [x], by simp [hl], fun i hi => ?_⟩
    by_cases e : i < l.length
    · rw [List.getElem_append_left e]; exact hq i e
    · have : i = l.length := by simp at hi; omega
      subst this
      simp only [List.getElem_append_right (Nat.le_refl _), Nat.sub_self, List.getElem_cons_zero]
      rw [hl]; exact hx

section
variable {H : Type} {enc : TypeId × Value → H} {P : Program} {w : World}
theorem cells3 {a : Addr} {cs : List Value} (h : w.cells? 0 a 3 = some cs) : ∃ x y z, cs = [x, y, z] ∧ w.cell? (a.add 0) = some x ∧ w.cell? (a.add 1) = some y ∧ w.cell? (a.add 2) = some z := by
  unfold World.cells? at h
  rw [if_pos (Nat.zero_le _)] at h
  simp only [List.range_succ, List.range_zero, List.nil_append, List.cons_append, List.mapM_cons, List.mapM_nil] at h
  cases h0 : w.cell? (a.add 0) with
  | none => simp [h0] at h
  | some x =>
    cases h1 : w.cell? (a.add 1) with
    | none => simp [h0, h1] at h
    | some y =>
      cases h2 : w.cell? (a.add 2) with
      | none => simp [h0, h1, h2] at h
      | some z =>
        simp [h0, h1, h2] at h
        exact ⟨x, y, z, h.symm, rfl, rfl, rfl⟩

/-- One edge in memory. -/
theorem edge_open {te t1 t2 t3 : TypeId} {f1 f2 f3 : Field} (ht : P.underlying te = some (.struct #[f1, f2, f3])) (hc : P.cellsOf te = 3) (e1 : f1.type = t1) (e2 : f2.type = t2) (e3 : f3.type = t3) (o1 : f1.offset = 0) (o2 : f2.offset = 1) (o3 : f3.offset = 2)
    (u1 : P.underlying t1 = some .string) (u2 : P.underlying t2 = some (.int .i64)) (u3 : P.underlying t3 = some .bool) (c1 : P.cellsOf t1 = 1) (c2 : P.cellsOf t2 = 1) (c3 : P.cellsOf t3 = 1)
    {a : Addr} {n : Nat} {y : DataW H × List MemPlace} {sp : Nat → Bool} {held : Bool} (h : (w.cells? 0 a 3).bind (DataW.trod enc P w 0 sp held n te) = some y) :
    ∃ (s : ByteArray) (t : Int) (b : Bool), w.cell? (a.add 0) = some (.string s) ∧ w.cell? (a.add 1) = some (.int .i64 t) ∧ w.cell? (a.add 2) = some (.bool b) := by
  simp only [Option.bind_eq_some_iff] at h
  obtain ⟨cs, hcs, h⟩ := h
  obtain ⟨x, y', z, rfl, q0, q1, q2⟩ := cells3 hcs
  obtain ⟨xs, m, _, _, _, hxl, hf⟩ := DataW.trod_struct ht h
  simp at hxl
  have g1 := hf 0 f1 rfl
  have g2 := hf 1 f2 rfl
  have g3 := hf 2 f3 rfl
  rw [e1, o1, c1] at g1
  rw [e2, o2, c2] at g2
  rw [e3, o3, c3] at g3
  simp only [List.drop_zero, List.drop_succ_cons, List.take_succ_cons, List.take_zero] at g1 g2 g3
  have x1 : ∃ r, xs[0]? = some r := ⟨xs[0], List.getElem?_eq_getElem (by omega)⟩
  have x2 : ∃ r, xs[1]? = some r := ⟨xs[1], List.getElem?_eq_getElem (by omega)⟩
  have x3 : ∃ r, xs[2]? = some r := ⟨xs[2], List.getElem?_eq_getElem (by omega)⟩
  obtain ⟨r1, x1⟩ := x1
  obtain ⟨r2, x2⟩ := x2
  obtain ⟨r3, x3⟩ := x3
  rw [x1] at g1; rw [x2] at g2; rw [x3] at g3
  obtain ⟨s, k1, _⟩ := DataW.trod_string u1 g1
  obtain ⟨t, k2, _⟩ := DataW.trod_int u2 g2
  obtain ⟨b, k3, _⟩ := DataW.trod_bool u3 g3
  cases k1; cases k2; cases k3
  exact ⟨s, t, b, q0, q1, q2⟩

theorem cell_block {a : Addr} {x : Value} (h : w.cell? a = some x) : ∃ cs e lo hi, w.heap[a.block]? = some (.cells cs e (lo, hi)) ∧ a.spot = none ∧ cs[a.off]? = some x := by
  unfold World.cell? at h
  split at h
  · rename_i c e f hb
    split at h
    · cases h
    · rename_i hs
      refine ⟨c, e, f.1, f.2, hb, ?_, h⟩
      cases hsp : a.spot with
      | none => rfl
      | some _ => rw [hsp] at hs; simp at hs
  · cases h

/-- A slice of edges. -/
theorem edges_open {ts te t1 t2 t3 : TypeId} {f1 f2 f3 : Field} (hts : P.underlying ts = some (.slice te)) (ht : P.underlying te = some (.struct #[f1, f2, f3])) (hc : P.cellsOf te = 3) (e1 : f1.type = t1) (e2 : f2.type = t2) (e3 : f3.type = t3) (o1 : f1.offset = 0) (o2 : f2.offset = 1) (o3 : f3.offset = 2)
    (u1 : P.underlying t1 = some .string) (u2 : P.underlying t2 = some (.int .i64)) (u3 : P.underlying t3 = some .bool) (c1 : P.cellsOf t1 = 1) (c2 : P.cellsOf t2 = 1) (c3 : P.cellsOf t3 = 1)
    {n : Nat} {cs : List Value} {y : DataW H × List MemPlace} {held : Bool} (h : DataW.trod enc P w 0 (fun _ => true) held n ts cs = some y) :
    ∃ v es, cs = [v] ∧ RowAt EdE w.heap v es := by
  rcases DataW.trod_slice hts h with ⟨rfl, _⟩ | ⟨a, len, cap, elems, rest, m, _, rfl, _, _, hle, _, hel, hE, hR, _⟩
  · exact ⟨_, [], rfl, none, 0, 0, rfl, rfl, Nat.le_refl _, .inl rfl⟩
  · rw [hc] at hE hR
    have opn : ∀ i, i < len → ∃ (s : ByteArray) (t : Int) (b : Bool), w.cell? ((a.add (i * 3)).add 0) = some (.string s) ∧ w.cell? ((a.add (i * 3)).add 1) = some (.int .i64 t) ∧ w.cell? ((a.add (i * 3)).add 2) = some (.bool b) := by
      intro i hi
      have h1 := hE i hi
      rw [List.getElem?_eq_getElem (by omega)] at h1
      exact edge_open ht hc e1 e2 e3 o1 o2 o3 u1 u2 u3 c1 c2 c3 h1
    obtain ⟨es, hes, hq⟩ := pick_list (α := Ed) (Q := fun i e => ∃ (s : ByteArray), s.data.toList.map UInt8.toNat = e.w ∧ w.cell? ((a.add (i * 3)).add 0) = some (.string s) ∧ w.cell? ((a.add (i * 3)).add 1) = some (.int .i64 e.t) ∧ w.cell? ((a.add (i * 3)).add 2) = some (.bool e.o)) len (fun i hi => by
      obtain ⟨s, t, b, p1, p2, p3⟩ := opn i hi
      exact ⟨⟨s.data.toList.map UInt8.toNat, t, b⟩, s, rfl, p1, p2, p3⟩)
    refine ⟨_, es, rfl, some a, len, cap, rfl, hes.symm, hle, ?_⟩
    by_cases hcap : cap = 0
    · exact .inl hcap
    · right
      have first : ∃ x, w.cell? ((a.add 0).add 0) = some x := by
        by_cases hl : 0 < len
        · obtain ⟨s, _, _, p, _⟩ := opn 0 hl
          exact ⟨_, by simpa using p⟩
        · have h1 := (hR rfl).2 0 (by omega)
          rw [List.getElem?_eq_getElem (by have := (hR rfl).1; omega)] at h1
          obtain ⟨s, _, _, p, _⟩ := edge_open ht hc e1 e2 e3 o1 o2 o3 u1 u2 u3 c1 c2 c3 h1
          exact ⟨_, by have : len = 0 := by omega
                       subst this
                       simpa using p⟩
      obtain ⟨x, hx⟩ := first
      have ea : (a.add 0).add 0 = a := by simp [Addr.add]
      rw [ea] at hx
      obtain ⟨cs, e, lo, hi, hb, hsp, _⟩ := cell_block hx
      obtain ⟨g, o, sp⟩ := a
      simp only at hsp hb
      subst hsp
      refine ⟨g, o, cs, e, lo, hi, rfl, hb, fun i v hv => ?_⟩
      obtain ⟨q, r, rfl, hql, hr⟩ := encs_at EdE es i v hv
      obtain ⟨s, hs, p1, p2, p3⟩ := hq q hql
      have ad : ∀ j, ((⟨g, o, none⟩ : Addr).add (q * 3)).add j = ⟨g, o + (q * 3 + j), none⟩ := by
        intro j
        unfold Addr.add
        by_cases h1 : q * 3 = 0 <;> by_cases h2 : j = 0 <;> simp [h1, h2] <;> omega
      rw [ad] at p1 p2 p3
      have rd : ∀ j x, w.cell? ⟨g, o + (q * 3 + j), none⟩ = some x → cs[o + (q * 3 + j)]? = some x := fun j x hx => by
        simp only [World.cell?, hb] at hx; exact hx
      match r, hr with
      | 0, hr => cases hr; exact ⟨_, rd 0 _ p1, fun μ => by simp only [Rep]; exact ⟨s, rfl, hs⟩⟩
      | 1, hr => cases hr; exact ⟨_, rd 1 _ p2, fun μ => by simp only [Rep]⟩
      | 2, hr => cases hr; exact ⟨_, rd 2 _ p3, fun μ => by simp only [Rep]⟩
      | r + 3, hr => simp [EdE] at hr
end
end Go.Proofs.YtndlfkibcelhmaaGreatDoor.Ai
end
