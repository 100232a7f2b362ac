/- What the functions come to, in the evaluator. -/
import Derived.Test.YtndlfkibcelhmaaGreatDoorC0
set_option linter.all false
section
/- The law's own helpers: short panels, copies. -/
namespace Go.Proofs.YtndlfkibcelhmaaGreatDoor.Ai
open Go
set_option maxRecDepth 10000
set_option maxHeartbeats 4000000
set_option linter.all false
set_option pp.maxSteps 1200

/-- The letters that count as short. -/
def shLet : List Ed → Int
  | [] => 0
  | e :: l => (if 0 < e.t ∧ e.t ≤ 64 then (e.w.length : Int) * e.t else 0) + shLet l
theorem shLet_app : ∀ a b : List Ed, shLet (a ++ b) = shLet a + shLet b
  | [], b => by simp [shLet]
  | e :: a, b => by simp only [List.cons_append, shLet, shLet_app a b]; omega
theorem shLet_take {l : List Ed} {k : Nat} (hk : k < l.length) : shLet (l.take (k + 1)) = shLet (l.take k) + (if 0 < l[k].t ∧ l[k].t ≤ 64 then (l[k].w.length : Int) * l[k].t else 0) := by
  rw [List.take_succ_eq_append_getElem hk, shLet_app]; simp [shLet]
theorem shLet_ok : ∀ {l : List Ed}, edgesErr l = 0 → shLet l = lettersOf l
  | [], _ => rfl
  | e :: l, h => by
    have he := edgesErr_all h e (List.mem_cons_self ..)
    obtain ⟨_, _, _, h1, h2⟩ := edgeErr_ok he
    have hl : edgesErr l = 0 := by simpa [edgesErr, he] using h
    rw [shLet, lettersOf, shLet_ok hl, if_pos ⟨by omega, h2⟩]
structure ShortL (n : Int) (l : List Ed) : Prop where
  len : l.length ≤ 66
  words : ∀ e ∈ l, e.w.length ≤ 66
  few : l.length ≤ 64 → shLet l ≤ n
structure PShort (n : Int) (p : Pn) : Prop where
  name : p.name.length ≤ 60
  width : p.width ≤ 8 ∨ 128 < p.width
  left : ShortL n p.left
  right : ShortL n p.right
theorem ShortL.steps {n : Int} {l : List Ed} (s : ShortL n l) (o : SideOk l) : ((stepsOf l).length : Int) ≤ n := by
  rw [stepsOf_len o.edges, ← shLet_ok o.edges]; exact s.few o.len
theorem PShort.small {n : Int} {p : Pn} (s : PShort n p) : PSmall p :=
  ⟨by have := s.name; omega, fun e he => by have := s.left.words e he; omega, fun e he => by have := s.right.words e he; omega⟩

theorem shortSide_cl {fl : Nat} {h : AH} {v : AVal} {l : List Ed} (hf : fl ≤ h.n) (hv : Vw EdE h v l) (n : Int) :
    Cl T fl 87 [v, .int .i64 n] h fun r h' => (∃ b, r = .bool b ∧ (b = true → ShortL n l)) ∧ Keep h h' := by
  refine Cl.code (fn := F87) rfl rfl ?_
  simp only [F87]
  by_cases h1 : 66 < l.length
  · have e1 : (66 : Int) < l.length := by omega
    have e2 : (3 : Int) < l.length := by omega
    have e3 : ¬ (l.length : Int) ≤ 64 := by omega
    simp (maxSteps := 10000000) (disch := first | omega | (simp only [AH.push_n, AH.set_n]; first | done | omega)) only [go_sem, reduceIte, reduceCtorEq, Nat.reduceEqDiff, Nat.reduceAdd, Nat.reduceMul, Nat.reduceSub, Nat.reduceLeDiff, Nat.reduceLT, Int.reduceAdd, Int.reduceMul, Int.reduceSub, Int.reduceNeg, Int.reduceLT, Int.reduceLE, Int.reduceEq, Int.reduceToNat, AH.cells_push_eq, AH.cells_push_lt, AH.cells_set_ne, AH.get_push_eq, AH.get_push_lt, AH.get_set_ne, storeA_ptr, wrapK_i64, natOf_pos, nextA_ptr, nextC_siter, apart1_some, wrapK_u8, wrapK_i32, wrapK_u32, wrapK_u64, hv.len, e1, e2, e3]
    exact ⟨⟨false, rfl, fun h => by cases h⟩, Keep.refl h⟩
  by_cases h2 : 3 < l.length ∧ l.length ≤ 64
  · have e1 : (3 : Int) < l.length := by omega
    have e3 : (l.length : Int) ≤ 64 := by omega
    simp (maxSteps := 10000000) (disch := first | omega | (simp only [AH.push_n, AH.set_n]; first | done | omega)) only [go_sem, reduceIte, reduceCtorEq, Nat.reduceEqDiff, Nat.reduceAdd, Nat.reduceMul, Nat.reduceSub, Nat.reduceLeDiff, Nat.reduceLT, Int.reduceAdd, Int.reduceMul, Int.reduceSub, Int.reduceNeg, Int.reduceLT, Int.reduceLE, Int.reduceEq, Int.reduceToNat, AH.cells_push_eq, AH.cells_push_lt, AH.cells_set_ne, AH.get_push_eq, AH.get_push_lt, AH.get_set_ne, storeA_ptr, wrapK_i64, natOf_pos, nextA_ptr, nextC_siter, apart1_some, wrapK_u8, wrapK_i32, wrapK_u32, wrapK_u64, hv.len, e1, e3]
    exact ⟨⟨false, rfl, fun h => by cases h⟩, Keep.refl h⟩
  by_cases h3 : 3 < l.length
  · have e1 : (3 : Int) < l.length := by omega
    have e3 : ¬ (l.length : Int) ≤ 64 := by omega
    have e4 : ¬ (66 : Int) < l.length := by omega
    simp (maxSteps := 10000000) (disch := first | omega | (simp only [AH.push_n, AH.set_n]; first | done | omega)) only [go_sem, reduceIte, reduceCtorEq, Nat.reduceEqDiff, Nat.reduceAdd, Nat.reduceMul, Nat.reduceSub, Nat.reduceLeDiff, Nat.reduceLT, Int.reduceAdd, Int.reduceMul, Int.reduceSub, Int.reduceNeg, Int.reduceLT, Int.reduceLE, Int.reduceEq, Int.reduceToNat, AH.cells_push_eq, AH.cells_push_lt, AH.cells_set_ne, AH.get_push_eq, AH.get_push_lt, AH.get_set_ne, storeA_ptr, wrapK_i64, natOf_pos, nextA_ptr, nextC_siter, apart1_some, wrapK_u8, wrapK_i32, wrapK_u32, wrapK_u64, hv.len, e1, e3, e4]
    refine wS_loop (fun m ts g => ∃ k acc, k ≤ l.length ∧ m = l.length - k ∧ g = h ∧ tg ts 0 = v ∧ tg ts 1 = .int .i64 n ∧ tg ts 5 = .int .i64 acc ∧ tg ts 6 = .int .i64 k ∧ 0 ≤ acc ∧ acc ≤ (k : Int) * 4224 ∧ (∀ (i : Nat) (h : i < l.length), i < k → l[i].w.length ≤ 66) ∧ acc = shLet (l.take k)) l.length
      ⟨0, 0, by omega, by omega, rfl, by simp, by simp, by simp, by simp, by omega, by omega, fun i _ hi => by omega, rfl⟩ ?_
    rintro m ts g ⟨k, acc, hk, rfl, rfl, t0, t1, t5, t6, a0, a1, hall, ha⟩
    by_cases hlt : k < l.length
    · obtain ⟨id, off, vs, rfl, hid, hc, r0, r1, r2, r3⟩ := hv.ed hlt
      have e5 : (k : Int) < l.length := by omega
      by_cases hw : 66 < l[k].w.length
      · have e6 : (66 : Int) < l[k].w.length := by omega
        simp (maxSteps := 10000000) (disch := first | omega | (simp only [AH.push_n, AH.set_n]; first | done | omega)) only [go_sem, reduceIte, reduceCtorEq, Nat.reduceEqDiff, Nat.reduceAdd, Nat.reduceMul, Nat.reduceSub, Nat.reduceLeDiff, Nat.reduceLT, Int.reduceAdd, Int.reduceMul, Int.reduceSub, Int.reduceNeg, Int.reduceLT, Int.reduceLE, Int.reduceEq, Int.reduceToNat, AH.cells_push_eq, AH.cells_push_lt, AH.cells_set_ne, AH.get_push_eq, AH.get_push_lt, AH.get_set_ne, storeA_ptr, wrapK_i64, natOf_pos, nextA_ptr, nextC_siter, apart1_some, wrapK_u8, wrapK_i32, wrapK_u32, wrapK_u64, t0, t1, t5, t6, e5, hlt, hc, r0, r1, e6]
        exact ⟨⟨false, rfl, fun h => by cases h⟩, Keep.refl g⟩
      have e6 : ¬ (66 : Int) < l[k].w.length := by omega
      have hall2 : ∀ (i : Nat) (h : i < l.length), i < k + 1 → l[i].w.length ≤ 66 := fun i hi hik => by
        by_cases e : i = k
        · subst e; omega
        · exact hall i hi (by omega)
      by_cases ht0 : 0 < l[k].t
      · by_cases ht1 : l[k].t ≤ 64
        · have m1 : (l[k].w.length : Int) * l[k].t ≤ 66 * 64 := Int.mul_le_mul (by omega) ht1 (by omega) (by omega)
          have m0 : 0 ≤ (l[k].w.length : Int) * l[k].t := Int.mul_nonneg (by omega) (by omega)
          have hmul : wrapK .i64 ((l[k].w.length : Int) * l[k].t) = (l[k].w.length : Int) * l[k].t := wrapK_i64 (by omega) (by omega)
          have hadd : wrapK .i64 (acc + (l[k].w.length : Int) * l[k].t) = acc + (l[k].w.length : Int) * l[k].t := wrapK_i64 (by omega) (by omega)
          simp (maxSteps := 10000000) (disch := first | omega | (simp only [AH.push_n, AH.set_n]; first | done | omega)) only [go_sem, reduceIte, reduceCtorEq, Nat.reduceEqDiff, Nat.reduceAdd, Nat.reduceMul, Nat.reduceSub, Nat.reduceLeDiff, Nat.reduceLT, Int.reduceAdd, Int.reduceMul, Int.reduceSub, Int.reduceNeg, Int.reduceLT, Int.reduceLE, Int.reduceEq, Int.reduceToNat, AH.cells_push_eq, AH.cells_push_lt, AH.cells_set_ne, AH.get_push_eq, AH.get_push_lt, AH.get_set_ne, storeA_ptr, wrapK_i64, natOf_pos, nextA_ptr, nextC_siter, apart1_some, wrapK_u8, wrapK_i32, wrapK_u32, wrapK_u64, t0, t1, t5, t6, e5, hlt, hc, r0, r1, e6, ht0, ht1, hmul, hadd]
          refine ⟨_, ?_, k + 1, _, by omega, rfl, rfl, by omega, by omega, by omega, hall2, by rw [shLet_take hlt, if_pos ⟨ht0, ht1⟩, ha]⟩
          omega
        · simp (maxSteps := 10000000) (disch := first | omega | (simp only [AH.push_n, AH.set_n]; first | done | omega)) only [go_sem, reduceIte, reduceCtorEq, Nat.reduceEqDiff, Nat.reduceAdd, Nat.reduceMul, Nat.reduceSub, Nat.reduceLeDiff, Nat.reduceLT, Int.reduceAdd, Int.reduceMul, Int.reduceSub, Int.reduceNeg, Int.reduceLT, Int.reduceLE, Int.reduceEq, Int.reduceToNat, AH.cells_push_eq, AH.cells_push_lt, AH.cells_set_ne, AH.get_push_eq, AH.get_push_lt, AH.get_set_ne, storeA_ptr, wrapK_i64, natOf_pos, nextA_ptr, nextC_siter, apart1_some, wrapK_u8, wrapK_i32, wrapK_u32, wrapK_u64, t0, t1, t5, t6, e5, hlt, hc, r0, r1, e6, ht0, ht1]
          refine ⟨_, ?_, k + 1, acc, by omega, rfl, rfl, by omega, by omega, by omega, hall2, by rw [shLet_take hlt, if_neg (by omega), Int.add_zero]; exact ha⟩
          omega
      · simp (maxSteps := 10000000) (disch := first | omega | (simp only [AH.push_n, AH.set_n]; first | done | omega)) only [go_sem, reduceIte, reduceCtorEq, Nat.reduceEqDiff, Nat.reduceAdd, Nat.reduceMul, Nat.reduceSub, Nat.reduceLeDiff, Nat.reduceLT, Int.reduceAdd, Int.reduceMul, Int.reduceSub, Int.reduceNeg, Int.reduceLT, Int.reduceLE, Int.reduceEq, Int.reduceToNat, AH.cells_push_eq, AH.cells_push_lt, AH.cells_set_ne, AH.get_push_eq, AH.get_push_lt, AH.get_set_ne, storeA_ptr, wrapK_i64, natOf_pos, nextA_ptr, nextC_siter, apart1_some, wrapK_u8, wrapK_i32, wrapK_u32, wrapK_u64, t0, t1, t5, t6, e5, hlt, hc, r0, r1, e6, ht0]
        refine ⟨_, ?_, k + 1, acc, by omega, rfl, rfl, by omega, by omega, by omega, hall2, by rw [shLet_take hlt, if_neg (by omega), Int.add_zero]; exact ha⟩
        omega
    · have : k = l.length := by omega
      subst this
      have e5 : ¬ (l.length : Int) < l.length := by omega
      have hfin : ShortL n l := ⟨by omega, fun e he => by obtain ⟨i, hi, rfl⟩ := List.mem_iff_getElem.1 he; exact hall i hi hi, fun h => by omega⟩
      by_cases hcap : acc ≤ n
      · simp (maxSteps := 10000000) (disch := first | omega | (simp only [AH.push_n, AH.set_n]; first | done | omega)) only [go_sem, reduceIte, reduceCtorEq, Nat.reduceEqDiff, Nat.reduceAdd, Nat.reduceMul, Nat.reduceSub, Nat.reduceLeDiff, Nat.reduceLT, Int.reduceAdd, Int.reduceMul, Int.reduceSub, Int.reduceNeg, Int.reduceLT, Int.reduceLE, Int.reduceEq, Int.reduceToNat, AH.cells_push_eq, AH.cells_push_lt, AH.cells_set_ne, AH.get_push_eq, AH.get_push_lt, AH.get_set_ne, storeA_ptr, wrapK_i64, natOf_pos, nextA_ptr, nextC_siter, apart1_some, wrapK_u8, wrapK_i32, wrapK_u32, wrapK_u64, t0, t1, t5, t6, hv.len, e5, hcap]
        exact ⟨⟨_, rfl, fun _ => hfin⟩, Keep.refl g⟩
      · simp (maxSteps := 10000000) (disch := first | omega | (simp only [AH.push_n, AH.set_n]; first | done | omega)) only [go_sem, reduceIte, reduceCtorEq, Nat.reduceEqDiff, Nat.reduceAdd, Nat.reduceMul, Nat.reduceSub, Nat.reduceLeDiff, Nat.reduceLT, Int.reduceAdd, Int.reduceMul, Int.reduceSub, Int.reduceNeg, Int.reduceLT, Int.reduceLE, Int.reduceEq, Int.reduceToNat, AH.cells_push_eq, AH.cells_push_lt, AH.cells_set_ne, AH.get_push_eq, AH.get_push_lt, AH.get_set_ne, storeA_ptr, wrapK_i64, natOf_pos, nextA_ptr, nextC_siter, apart1_some, wrapK_u8, wrapK_i32, wrapK_u32, wrapK_u64, t0, t1, t5, t6, hv.len, e5, hcap]
        exact ⟨⟨_, rfl, fun _ => hfin⟩, Keep.refl g⟩
  · have e1 : ¬ (3 : Int) < l.length := by omega
    have e4 : ¬ (66 : Int) < l.length := by omega
    simp (maxSteps := 10000000) (disch := first | omega | (simp only [AH.push_n, AH.set_n]; first | done | omega)) only [go_sem, reduceIte, reduceCtorEq, Nat.reduceEqDiff, Nat.reduceAdd, Nat.reduceMul, Nat.reduceSub, Nat.reduceLeDiff, Nat.reduceLT, Int.reduceAdd, Int.reduceMul, Int.reduceSub, Int.reduceNeg, Int.reduceLT, Int.reduceLE, Int.reduceEq, Int.reduceToNat, AH.cells_push_eq, AH.cells_push_lt, AH.cells_set_ne, AH.get_push_eq, AH.get_push_lt, AH.get_set_ne, storeA_ptr, wrapK_i64, natOf_pos, nextA_ptr, nextC_siter, apart1_some, wrapK_u8, wrapK_i32, wrapK_u32, wrapK_u64, hv.len, e1, e4]
    refine wS_loop (fun m ts g => ∃ k acc, k ≤ l.length ∧ m = l.length - k ∧ g = h ∧ tg ts 0 = v ∧ tg ts 1 = .int .i64 n ∧ tg ts 5 = .int .i64 acc ∧ tg ts 6 = .int .i64 k ∧ 0 ≤ acc ∧ acc ≤ (k : Int) * 4224 ∧ (∀ (i : Nat) (h : i < l.length), i < k → l[i].w.length ≤ 66) ∧ acc = shLet (l.take k)) l.length
      ⟨0, 0, by omega, by omega, rfl, by simp, by simp, by simp, by simp, by omega, by omega, fun i _ hi => by omega, rfl⟩ ?_
    rintro m ts g ⟨k, acc, hk, rfl, rfl, t0, t1, t5, t6, a0, a1, hall, ha⟩
    by_cases hlt : k < l.length
    · obtain ⟨id, off, vs, rfl, hid, hc, r0, r1, r2, r3⟩ := hv.ed hlt
      have e5 : (k : Int) < l.length := by omega
      by_cases hw : 66 < l[k].w.length
      · have e6 : (66 : Int) < l[k].w.length := by omega
        simp (maxSteps := 10000000) (disch := first | omega | (simp only [AH.push_n, AH.set_n]; first | done | omega)) only [go_sem, reduceIte, reduceCtorEq, Nat.reduceEqDiff, Nat.reduceAdd, Nat.reduceMul, Nat.reduceSub, Nat.reduceLeDiff, Nat.reduceLT, Int.reduceAdd, Int.reduceMul, Int.reduceSub, Int.reduceNeg, Int.reduceLT, Int.reduceLE, Int.reduceEq, Int.reduceToNat, AH.cells_push_eq, AH.cells_push_lt, AH.cells_set_ne, AH.get_push_eq, AH.get_push_lt, AH.get_set_ne, storeA_ptr, wrapK_i64, natOf_pos, nextA_ptr, nextC_siter, apart1_some, wrapK_u8, wrapK_i32, wrapK_u32, wrapK_u64, t0, t1, t5, t6, e5, hlt, hc, r0, r1, e6]
        exact ⟨⟨false, rfl, fun h => by cases h⟩, Keep.refl g⟩
      have e6 : ¬ (66 : Int) < l[k].w.length := by omega
      have hall2 : ∀ (i : Nat) (h : i < l.length), i < k + 1 → l[i].w.length ≤ 66 := fun i hi hik => by
        by_cases e : i = k
        · subst e; omega
        · exact hall i hi (by omega)
      by_cases ht0 : 0 < l[k].t
      · by_cases ht1 : l[k].t ≤ 64
        · have m1 : (l[k].w.length : Int) * l[k].t ≤ 66 * 64 := Int.mul_le_mul (by omega) ht1 (by omega) (by omega)
          have m0 : 0 ≤ (l[k].w.length : Int) * l[k].t := Int.mul_nonneg (by omega) (by omega)
          have hmul : wrapK .i64 ((l[k].w.length : Int) * l[k].t) = (l[k].w.length : Int) * l[k].t := wrapK_i64 (by omega) (by omega)
          have hadd : wrapK .i64 (acc + (l[k].w.length : Int) * l[k].t) = acc + (l[k].w.length : Int) * l[k].t := wrapK_i64 (by omega) (by omega)
          simp (maxSteps := 10000000) (disch := first | omega | (simp only [AH.push_n, AH.set_n]; first | done | omega)) only [go_sem, reduceIte, reduceCtorEq, Nat.reduceEqDiff, Nat.reduceAdd, Nat.reduceMul, Nat.reduceSub, Nat.reduceLeDiff, Nat.reduceLT, Int.reduceAdd, Int.reduceMul, Int.reduceSub, Int.reduceNeg, Int.reduceLT, Int.reduceLE, Int.reduceEq, Int.reduceToNat, AH.cells_push_eq, AH.cells_push_lt, AH.cells_set_ne, AH.get_push_eq, AH.get_push_lt, AH.get_set_ne, storeA_ptr, wrapK_i64, natOf_pos, nextA_ptr, nextC_siter, apart1_some, wrapK_u8, wrapK_i32, wrapK_u32, wrapK_u64, t0, t1, t5, t6, e5, hlt, hc, r0, r1, e6, ht0, ht1, hmul, hadd]
          refine ⟨_, ?_, k + 1, _, by omega, rfl, rfl, by omega, by omega, by omega, hall2, by rw [shLet_take hlt, if_pos ⟨ht0, ht1⟩, ha]⟩
          omega
        · simp (maxSteps := 10000000) (disch := first | omega | (simp only [AH.push_n, AH.set_n]; first | done | omega)) only [go_sem, reduceIte, reduceCtorEq, Nat.reduceEqDiff, Nat.reduceAdd, Nat.reduceMul, Nat.reduceSub, Nat.reduceLeDiff, Nat.reduceLT, Int.reduceAdd, Int.reduceMul, Int.reduceSub, Int.reduceNeg, Int.reduceLT, Int.reduceLE, Int.reduceEq, Int.reduceToNat, AH.cells_push_eq, AH.cells_push_lt, AH.cells_set_ne, AH.get_push_eq, AH.get_push_lt, AH.get_set_ne, storeA_ptr, wrapK_i64, natOf_pos, nextA_ptr, nextC_siter, apart1_some, wrapK_u8, wrapK_i32, wrapK_u32, wrapK_u64, t0, t1, t5, t6, e5, hlt, hc, r0, r1, e6, ht0, ht1]
          refine ⟨_, ?_, k + 1, acc, by omega, rfl, rfl, by omega, by omega, by omega, hall2, by rw [shLet_take hlt, if_neg (by omega), Int.add_zero]; exact ha⟩
          omega
      · simp (maxSteps := 10000000) (disch := first | omega | (simp only [AH.push_n, AH.set_n]; first | done | omega)) only [go_sem, reduceIte, reduceCtorEq, Nat.reduceEqDiff, Nat.reduceAdd, Nat.reduceMul, Nat.reduceSub, Nat.reduceLeDiff, Nat.reduceLT, Int.reduceAdd, Int.reduceMul, Int.reduceSub, Int.reduceNeg, Int.reduceLT, Int.reduceLE, Int.reduceEq, Int.reduceToNat, AH.cells_push_eq, AH.cells_push_lt, AH.cells_set_ne, AH.get_push_eq, AH.get_push_lt, AH.get_set_ne, storeA_ptr, wrapK_i64, natOf_pos, nextA_ptr, nextC_siter, apart1_some, wrapK_u8, wrapK_i32, wrapK_u32, wrapK_u64, t0, t1, t5, t6, e5, hlt, hc, r0, r1, e6, ht0]
        refine ⟨_, ?_, k + 1, acc, by omega, rfl, rfl, by omega, by omega, by omega, hall2, by rw [shLet_take hlt, if_neg (by omega), Int.add_zero]; exact ha⟩
        omega
    · have : k = l.length := by omega
      subst this
      have e5 : ¬ (l.length : Int) < l.length := by omega
      rw [List.take_length] at ha
      have hfin : acc ≤ n → ShortL n l := fun hn => ⟨by omega, fun e he => by obtain ⟨i, hi, rfl⟩ := List.mem_iff_getElem.1 he; exact hall i hi hi, fun h => by omega⟩
      by_cases hcap : acc ≤ n
      · simp (maxSteps := 10000000) (disch := first | omega | (simp only [AH.push_n, AH.set_n]; first | done | omega)) only [go_sem, reduceIte, reduceCtorEq, Nat.reduceEqDiff, Nat.reduceAdd, Nat.reduceMul, Nat.reduceSub, Nat.reduceLeDiff, Nat.reduceLT, Int.reduceAdd, Int.reduceMul, Int.reduceSub, Int.reduceNeg, Int.reduceLT, Int.reduceLE, Int.reduceEq, Int.reduceToNat, AH.cells_push_eq, AH.cells_push_lt, AH.cells_set_ne, AH.get_push_eq, AH.get_push_lt, AH.get_set_ne, storeA_ptr, wrapK_i64, natOf_pos, nextA_ptr, nextC_siter, apart1_some, wrapK_u8, wrapK_i32, wrapK_u32, wrapK_u64, t0, t1, t5, t6, hv.len, e5, hcap]
        exact ⟨⟨true, rfl, fun _ => hfin hcap⟩, Keep.refl g⟩
      · simp (maxSteps := 10000000) (disch := first | omega | (simp only [AH.push_n, AH.set_n]; first | done | omega)) only [go_sem, reduceIte, reduceCtorEq, Nat.reduceEqDiff, Nat.reduceAdd, Nat.reduceMul, Nat.reduceSub, Nat.reduceLeDiff, Nat.reduceLT, Int.reduceAdd, Int.reduceMul, Int.reduceSub, Int.reduceNeg, Int.reduceLT, Int.reduceLE, Int.reduceEq, Int.reduceToNat, AH.cells_push_eq, AH.cells_push_lt, AH.cells_set_ne, AH.get_push_eq, AH.get_push_lt, AH.get_set_ne, storeA_ptr, wrapK_i64, natOf_pos, nextA_ptr, nextC_siter, apart1_some, wrapK_u8, wrapK_i32, wrapK_u32, wrapK_u64, t0, t1, t5, t6, hv.len, e5, hcap]
        exact ⟨⟨false, by simp; omega, fun h => by cases h⟩, Keep.refl g⟩

theorem short_cl {fl : Nat} {h : AH} {l r : AVal} {p : Pn} (hf : fl ≤ h.n) (hv : PV h l r p) (n : Int) :
    Cl T fl 18 [.agg [.str p.name, .int .i64 p.width, l, r], .int .i64 n] h fun x h' => (∃ b, x = .bool b ∧ (b = true → PShort n p)) ∧ Keep h h' := by
  refine Cl.code (fn := F18) rfl rfl ?_
  simp only [F18]
  have hlc := hv.left.one
  have hrc := hv.right.one
  have k0 : Keep h (h.push (.cells [.str p.name, .int .i64 p.width, l, r])) := (Keep.refl h).push _
  have c0 : (h.push (.cells [.str p.name, .int .i64 p.width, l, r])).cells h.n = some [.str p.name, .int .i64 p.width, l, r] := AH.cells_push_eq rfl
  have n0 : h.n < (h.push (.cells [.str p.name, .int .i64 p.width, l, r])).n := by simp
  by_cases h1 : p.name.length ≤ 60
  case neg =>
    have e1 : ¬ (p.name.length : Int) ≤ 60 := by omega
    simp (maxSteps := 10000000) (disch := first | omega | (simp only [AH.push_n, AH.set_n]; first | done | omega)) only [go_sem, reduceIte, reduceCtorEq, Nat.reduceEqDiff, Nat.reduceAdd, Nat.reduceMul, Nat.reduceSub, Nat.reduceLeDiff, Nat.reduceLT, Int.reduceAdd, Int.reduceMul, Int.reduceSub, Int.reduceNeg, Int.reduceLT, Int.reduceLE, Int.reduceEq, Int.reduceToNat, AH.cells_push_eq, AH.cells_push_lt, AH.cells_set_ne, AH.get_push_eq, AH.get_push_lt, AH.get_set_ne, storeA_ptr, wrapK_i64, natOf_pos, nextA_ptr, nextC_siter, apart1_some, wrapK_u8, wrapK_i32, wrapK_u32, wrapK_u64, hlc.1, hrc.1, e1]
    exact ⟨⟨false, rfl, fun h => by cases h⟩, k0⟩
  have e1 : (p.name.length : Int) ≤ 60 := by omega
  by_cases h2 : p.width ≤ 8
  · simp (maxSteps := 10000000) (disch := first | omega | (simp only [AH.push_n, AH.set_n]; first | done | omega)) only [go_sem, reduceIte, reduceCtorEq, Nat.reduceEqDiff, Nat.reduceAdd, Nat.reduceMul, Nat.reduceSub, Nat.reduceLeDiff, Nat.reduceLT, Int.reduceAdd, Int.reduceMul, Int.reduceSub, Int.reduceNeg, Int.reduceLT, Int.reduceLE, Int.reduceEq, Int.reduceToNat, AH.cells_push_eq, AH.cells_push_lt, AH.cells_set_ne, AH.get_push_eq, AH.get_push_lt, AH.get_set_ne, storeA_ptr, wrapK_i64, natOf_pos, nextA_ptr, nextC_siter, apart1_some, wrapK_u8, wrapK_i32, wrapK_u32, wrapK_u64, hlc.1, hrc.1, e1, h2]
    generalize h.push (.cells [.str p.name, .int .i64 p.width, l, r]) = g0 at *
    refine ClS.by (shortSide_cl (Nat.le_trans hf k0.n) (hv.keep k0).left n) ?_
    rintro x g1 ⟨⟨b, rfl, hb⟩, hk1⟩
    have k1 := k0.trans hk1
    have c1 := (hk1.cells n0).trans c0
    cases b
    · simp (maxSteps := 10000000) (disch := first | omega | (simp only [AH.push_n, AH.set_n]; first | done | omega)) only [go_sem, reduceIte, reduceCtorEq, Nat.reduceEqDiff, Nat.reduceAdd, Nat.reduceMul, Nat.reduceSub, Nat.reduceLeDiff, Nat.reduceLT, Int.reduceAdd, Int.reduceMul, Int.reduceSub, Int.reduceNeg, Int.reduceLT, Int.reduceLE, Int.reduceEq, Int.reduceToNat, AH.cells_push_eq, AH.cells_push_lt, AH.cells_set_ne, AH.get_push_eq, AH.get_push_lt, AH.get_set_ne, storeA_ptr, wrapK_i64, natOf_pos, nextA_ptr, nextC_siter, apart1_some, wrapK_u8, wrapK_i32, wrapK_u32, wrapK_u64]
      exact ⟨⟨false, rfl, fun h => by cases h⟩, k1⟩
    · simp (maxSteps := 10000000) (disch := first | omega | (simp only [AH.push_n, AH.set_n]; first | done | omega)) only [go_sem, reduceIte, reduceCtorEq, Nat.reduceEqDiff, Nat.reduceAdd, Nat.reduceMul, Nat.reduceSub, Nat.reduceLeDiff, Nat.reduceLT, Int.reduceAdd, Int.reduceMul, Int.reduceSub, Int.reduceNeg, Int.reduceLT, Int.reduceLE, Int.reduceEq, Int.reduceToNat, AH.cells_push_eq, AH.cells_push_lt, AH.cells_set_ne, AH.get_push_eq, AH.get_push_lt, AH.get_set_ne, storeA_ptr, wrapK_i64, natOf_pos, nextA_ptr, nextC_siter, apart1_some, wrapK_u8, wrapK_i32, wrapK_u32, wrapK_u64, c1]
      refine ClS.by (shortSide_cl (Nat.le_trans hf k1.n) (hv.keep k1).right n) ?_
      rintro x g2 ⟨⟨b, rfl, hb2⟩, hk2⟩
      simp (maxSteps := 10000000) (disch := first | omega | (simp only [AH.push_n, AH.set_n]; first | done | omega)) only [go_sem, reduceIte, reduceCtorEq, Nat.reduceEqDiff, Nat.reduceAdd, Nat.reduceMul, Nat.reduceSub, Nat.reduceLeDiff, Nat.reduceLT, Int.reduceAdd, Int.reduceMul, Int.reduceSub, Int.reduceNeg, Int.reduceLT, Int.reduceLE, Int.reduceEq, Int.reduceToNat, AH.cells_push_eq, AH.cells_push_lt, AH.cells_set_ne, AH.get_push_eq, AH.get_push_lt, AH.get_set_ne, storeA_ptr, wrapK_i64, natOf_pos, nextA_ptr, nextC_siter, apart1_some, wrapK_u8, wrapK_i32, wrapK_u32, wrapK_u64]
      exact ⟨⟨b, rfl, fun h => ⟨h1, .inl h2, hb rfl, hb2 h⟩⟩, k1.trans hk2⟩
  · by_cases h3 : 128 < p.width
    · simp (maxSteps := 10000000) (disch := first | omega | (simp only [AH.push_n, AH.set_n]; first | done | omega)) only [go_sem, reduceIte, reduceCtorEq, Nat.reduceEqDiff, Nat.reduceAdd, Nat.reduceMul, Nat.reduceSub, Nat.reduceLeDiff, Nat.reduceLT, Int.reduceAdd, Int.reduceMul, Int.reduceSub, Int.reduceNeg, Int.reduceLT, Int.reduceLE, Int.reduceEq, Int.reduceToNat, AH.cells_push_eq, AH.cells_push_lt, AH.cells_set_ne, AH.get_push_eq, AH.get_push_lt, AH.get_set_ne, storeA_ptr, wrapK_i64, natOf_pos, nextA_ptr, nextC_siter, apart1_some, wrapK_u8, wrapK_i32, wrapK_u32, wrapK_u64, hlc.1, hrc.1, e1, h2, h3]
      generalize h.push (.cells [.str p.name, .int .i64 p.width, l, r]) = g0 at *
      refine ClS.by (shortSide_cl (Nat.le_trans hf k0.n) (hv.keep k0).left n) ?_
      rintro x g1 ⟨⟨b, rfl, hb⟩, hk1⟩
      have k1 := k0.trans hk1
      have c1 := (hk1.cells n0).trans c0
      cases b
      · simp (maxSteps := 10000000) (disch := first | omega | (simp only [AH.push_n, AH.set_n]; first | done | omega)) only [go_sem, reduceIte, reduceCtorEq, Nat.reduceEqDiff, Nat.reduceAdd, Nat.reduceMul, Nat.reduceSub, Nat.reduceLeDiff, Nat.reduceLT, Int.reduceAdd, Int.reduceMul, Int.reduceSub, Int.reduceNeg, Int.reduceLT, Int.reduceLE, Int.reduceEq, Int.reduceToNat, AH.cells_push_eq, AH.cells_push_lt, AH.cells_set_ne, AH.get_push_eq, AH.get_push_lt, AH.get_set_ne, storeA_ptr, wrapK_i64, natOf_pos, nextA_ptr, nextC_siter, apart1_some, wrapK_u8, wrapK_i32, wrapK_u32, wrapK_u64]
        exact ⟨⟨false, rfl, fun h => by cases h⟩, k1⟩
      · simp (maxSteps := 10000000) (disch := first | omega | (simp only [AH.push_n, AH.set_n]; first | done | omega)) only [go_sem, reduceIte, reduceCtorEq, Nat.reduceEqDiff, Nat.reduceAdd, Nat.reduceMul, Nat.reduceSub, Nat.reduceLeDiff, Nat.reduceLT, Int.reduceAdd, Int.reduceMul, Int.reduceSub, Int.reduceNeg, Int.reduceLT, Int.reduceLE, Int.reduceEq, Int.reduceToNat, AH.cells_push_eq, AH.cells_push_lt, AH.cells_set_ne, AH.get_push_eq, AH.get_push_lt, AH.get_set_ne, storeA_ptr, wrapK_i64, natOf_pos, nextA_ptr, nextC_siter, apart1_some, wrapK_u8, wrapK_i32, wrapK_u32, wrapK_u64, c1]
        refine ClS.by (shortSide_cl (Nat.le_trans hf k1.n) (hv.keep k1).right n) ?_
        rintro x g2 ⟨⟨b, rfl, hb2⟩, hk2⟩
        simp (maxSteps := 10000000) (disch := first | omega | (simp only [AH.push_n, AH.set_n]; first | done | omega)) only [go_sem, reduceIte, reduceCtorEq, Nat.reduceEqDiff, Nat.reduceAdd, Nat.reduceMul, Nat.reduceSub, Nat.reduceLeDiff, Nat.reduceLT, Int.reduceAdd, Int.reduceMul, Int.reduceSub, Int.reduceNeg, Int.reduceLT, Int.reduceLE, Int.reduceEq, Int.reduceToNat, AH.cells_push_eq, AH.cells_push_lt, AH.cells_set_ne, AH.get_push_eq, AH.get_push_lt, AH.get_set_ne, storeA_ptr, wrapK_i64, natOf_pos, nextA_ptr, nextC_siter, apart1_some, wrapK_u8, wrapK_i32, wrapK_u32, wrapK_u64]
        exact ⟨⟨b, rfl, fun h => ⟨h1, .inr h3, hb rfl, hb2 h⟩⟩, k1.trans hk2⟩
    · simp (maxSteps := 10000000) (disch := first | omega | (simp only [AH.push_n, AH.set_n]; first | done | omega)) only [go_sem, reduceIte, reduceCtorEq, Nat.reduceEqDiff, Nat.reduceAdd, Nat.reduceMul, Nat.reduceSub, Nat.reduceLeDiff, Nat.reduceLT, Int.reduceAdd, Int.reduceMul, Int.reduceSub, Int.reduceNeg, Int.reduceLT, Int.reduceLE, Int.reduceEq, Int.reduceToNat, AH.cells_push_eq, AH.cells_push_lt, AH.cells_set_ne, AH.get_push_eq, AH.get_push_lt, AH.get_set_ne, storeA_ptr, wrapK_i64, natOf_pos, nextA_ptr, nextC_siter, apart1_some, wrapK_u8, wrapK_i32, wrapK_u32, wrapK_u64, hlc.1, hrc.1, e1, h2, h3]
      exact ⟨⟨false, rfl, fun h => by cases h⟩, k0⟩
end Go.Proofs.YtndlfkibcelhmaaGreatDoor.Ai
end
section
/- The law's copy of a panel. -/
namespace Go.Proofs.YtndlfkibcelhmaaGreatDoor.Ai
open Go
set_option maxRecDepth 10000
set_option maxHeartbeats 4000000
set_option linter.all false
set_option pp.maxSteps 1200

theorem Vw.ed1 {g : AH} {e : Ed} : Vw EdE (g.push (.cells [.str e.w, .int .i64 e.t, .bool e.o])) (.sl g.n 0 1 3) [e] := Vw.new (E := EdE) (g := g) [e]

theorem given_cl {fl : Nat} {h : AH} {l r : AVal} {p : Pn} (hf : fl ≤ h.n) (hv : PV h l r p) (sl : p.left.length ≤ 1000) (sr : p.right.length ≤ 1000) :
    Cl T fl 20 [.agg [.str p.name, .int .i64 p.width, l, r]] h fun x h' => (∃ l' r', x = .agg [.str p.name, .int .i64 p.width, l', r'] ∧ PV h' l' r' p ∧ Own h.n l' ∧ Own h.n r') ∧ Keep h h' := by
  refine Cl.code (fn := F20) rfl rfl ?_
  simp only [F20]
  have hlc := hv.left.one
  have hrc := hv.right.one
  simp (maxSteps := 10000000) (disch := first | omega | (simp only [AH.push_n, AH.set_n]; first | done | omega)) only [go_sem, reduceIte, reduceCtorEq, Nat.reduceEqDiff, Nat.reduceAdd, Nat.reduceMul, Nat.reduceSub, Nat.reduceLeDiff, Nat.reduceLT, Int.reduceAdd, Int.reduceMul, Int.reduceSub, Int.reduceNeg, Int.reduceLT, Int.reduceLE, Int.reduceEq, Int.reduceToNat, AH.cells_push_eq, AH.cells_push_lt, AH.cells_set_ne, AH.get_push_eq, AH.get_push_lt, AH.get_set_ne, storeA_ptr, wrapK_i64, natOf_pos, nextA_ptr, nextC_siter, apart1_some, wrapK_u8, wrapK_i32, wrapK_u32, wrapK_u64, hlc.1, hrc.1, hv.left.len]
  refine wS_loop (fun m ts g => ∃ k lv, k ≤ p.left.length ∧ m = p.left.length - k ∧ Keep h g ∧ h.n + 3 ≤ g.n ∧ g.cells h.n = some [.str p.name, .int .i64 p.width, l, r] ∧ g.cells (h.n + 1) = some [.str [], .int .i64 0, .nilsl, .nilsl] ∧ g.cells (h.n + 2) = some [.str p.name, .int .i64 p.width, lv, .nilsl] ∧
    Vw EdE g lv (p.left.take k) ∧ Own (h.n + 3) lv ∧ tg ts 1 = .ptr h.n 0 ∧ tg ts 2 = .ptr (h.n + 1) 0 ∧ tg ts 3 = .ptr (h.n + 2) 0 ∧ tg ts 14 = l ∧ tg ts 15 = .int .i64 p.left.length ∧ tg ts 16 = .int .i64 k) p.left.length
    ⟨0, .nilsl, by omega, by omega, (((Keep.refl h).push _).push _).push _ |>.set (by omega) _, by simp, by simp (maxSteps := 10000000) (disch := first | omega | (simp only [AH.push_n, AH.set_n]; first | done | omega)) only [go_sem, reduceIte, reduceCtorEq, Nat.reduceEqDiff, Nat.reduceAdd, Nat.reduceMul, Nat.reduceSub, Nat.reduceLeDiff, Nat.reduceLT, Int.reduceAdd, Int.reduceMul, Int.reduceSub, Int.reduceNeg, Int.reduceLT, Int.reduceLE, Int.reduceEq, Int.reduceToNat, AH.cells_push_eq, AH.cells_push_lt, AH.cells_set_ne, AH.get_push_eq, AH.get_push_lt, AH.get_set_ne, storeA_ptr, wrapK_i64, natOf_pos, nextA_ptr, nextC_siter, apart1_some, wrapK_u8, wrapK_i32, wrapK_u32, wrapK_u64], by simp (maxSteps := 10000000) (disch := first | omega | (simp only [AH.push_n, AH.set_n]; first | done | omega)) only [go_sem, reduceIte, reduceCtorEq, Nat.reduceEqDiff, Nat.reduceAdd, Nat.reduceMul, Nat.reduceSub, Nat.reduceLeDiff, Nat.reduceLT, Int.reduceAdd, Int.reduceMul, Int.reduceSub, Int.reduceNeg, Int.reduceLT, Int.reduceLE, Int.reduceEq, Int.reduceToNat, AH.cells_push_eq, AH.cells_push_lt, AH.cells_set_ne, AH.get_push_eq, AH.get_push_lt, AH.get_set_ne, storeA_ptr, wrapK_i64, natOf_pos, nextA_ptr, nextC_siter, apart1_some, wrapK_u8, wrapK_i32, wrapK_u32, wrapK_u64], by simp (maxSteps := 10000000) (disch := first | omega | (simp only [AH.push_n, AH.set_n]; first | done | omega)) only [go_sem, reduceIte, reduceCtorEq, Nat.reduceEqDiff, Nat.reduceAdd, Nat.reduceMul, Nat.reduceSub, Nat.reduceLeDiff, Nat.reduceLT, Int.reduceAdd, Int.reduceMul, Int.reduceSub, Int.reduceNeg, Int.reduceLT, Int.reduceLE, Int.reduceEq, Int.reduceToNat, AH.cells_push_eq, AH.cells_push_lt, AH.cells_set_ne, AH.get_push_eq, AH.get_push_lt, AH.get_set_ne, storeA_ptr, wrapK_i64, natOf_pos, nextA_ptr, nextC_siter, apart1_some, wrapK_u8, wrapK_i32, wrapK_u32, wrapK_u64], Vw.nil, Own.of_nil, by simp, by simp, by simp, by simp, by simp, by simp⟩ ?_
  rintro m ts g ⟨k, lv, hk, rfl, hkp, hn, c0, c1, c2, hvl, hown, t1, t2, t3, t14, t15, t16⟩
  have hoff : ∀ i, g.n ≤ i → Off lv i := fun i hi e => by have := hvl.lt e; omega
  by_cases hlt : k < p.left.length
  · obtain ⟨id, off, vs, rfl, hid, hc, r0, r1, r2, r3⟩ := (hv.left.keep hkp).ed hlt
    have e2 : (k : Int) < p.left.length := by omega
    have hone := hvl.one
    simp (maxSteps := 10000000) (disch := first | omega | (simp only [AH.push_n, AH.set_n]; first | done | omega)) only [go_sem, reduceIte, reduceCtorEq, Nat.reduceEqDiff, Nat.reduceAdd, Nat.reduceMul, Nat.reduceSub, Nat.reduceLeDiff, Nat.reduceLT, Int.reduceAdd, Int.reduceMul, Int.reduceSub, Int.reduceNeg, Int.reduceLT, Int.reduceLE, Int.reduceEq, Int.reduceToNat, AH.cells_push_eq, AH.cells_push_lt, AH.cells_set_ne, AH.get_push_eq, AH.get_push_lt, AH.get_set_ne, storeA_ptr, wrapK_i64, natOf_pos, nextA_ptr, nextC_siter, apart1_some, wrapK_u8, wrapK_i32, wrapK_u32, wrapK_u64, t1, t2, t3, t14, t15, t16, e2, hlt, hc, r3, c2]
    refine append_to (E := EdE) (ys := [p.left[k]]) (((hvl.push _).set _ (hoff _ (Nat.le_refl _))).push _) (hown.mono (by omega)) (by simp; omega) Vw.ed1 ?_ ?_
    · simp only [List.length_take, List.length_cons, List.length_nil, maxRow]; omega
    intro x g5 ha
    have hn5 := ha.n
    simp only [AH.push_n, AH.set_n] at hn5
    have hlt2 : g.n < (((g.push (.cells [.str [], .int .i64 0, .bool false])).set g.n (.cells [.str p.left[k].w, .int .i64 p.left[k].t, .bool p.left[k].o])).push (.cells [.str p.left[k].w, .int .i64 p.left[k].t, .bool p.left[k].o])).n := by simp; omega
    have keepc : ∀ j, j < h.n + 3 → g5.cells j = g.cells j := fun j hj => by
      refine (ha.cells (by simp; omega) (fun e => by have := hown j e; omega)).trans ?_
      rw [AH.cells_push_lt (by simp; omega), AH.cells_set_ne (by omega), AH.cells_push_lt (by omega)]
    have d2 := (keepc (h.n + 2) (by omega)).trans c2
    obtain ⟨rid, hr, hrn⟩ := ha.form (by simp)
    simp only [AH.push_n, AH.set_n] at hrn
    have hk5 : Keep h g5 := ha.keep (((hkp.push _).set (by omega) _).push _) (hown.mono (by omega))
    have hvr := ha.vw
    have htk : p.left.take k ++ [p.left[k]] = p.left.take (k + 1) := (List.take_succ_eq_append_getElem hlt).symm
    rw [htk] at hvr
    subst hr
    simp (maxSteps := 10000000) (disch := first | omega | (simp only [AH.push_n, AH.set_n]; first | done | omega)) only [go_sem, reduceIte, reduceCtorEq, Nat.reduceEqDiff, Nat.reduceAdd, Nat.reduceMul, Nat.reduceSub, Nat.reduceLeDiff, Nat.reduceLT, Int.reduceAdd, Int.reduceMul, Int.reduceSub, Int.reduceNeg, Int.reduceLT, Int.reduceLE, Int.reduceEq, Int.reduceToNat, AH.cells_push_eq, AH.cells_push_lt, AH.cells_set_ne, AH.get_push_eq, AH.get_push_lt, AH.get_set_ne, storeA_ptr, wrapK_i64, natOf_pos, nextA_ptr, nextC_siter, apart1_some, wrapK_u8, wrapK_i32, wrapK_u32, wrapK_u64, t1, t2, t3, t14, t15, t16, d2]
    refine ⟨_, ?_, k + 1, _, by omega, rfl, hk5.set (by omega) _, by first | omega | (simp; omega), ?_, ?_, rfl, hvr.set _ (Off.sl (by omega)), Own.sl (by omega), by omega⟩
    · omega
    · exact (keepc _ (by omega)).trans c0
    · exact (keepc _ (by omega)).trans c1
  have hkk : k = p.left.length := by omega
  subst hkk
  have e2 : ¬ (p.left.length : Int) < p.left.length := by omega
  rw [List.take_length] at hvl
  simp (maxSteps := 10000000) (disch := first | omega | (simp only [AH.push_n, AH.set_n]; first | done | omega)) only [go_sem, reduceIte, reduceCtorEq, Nat.reduceEqDiff, Nat.reduceAdd, Nat.reduceMul, Nat.reduceSub, Nat.reduceLeDiff, Nat.reduceLT, Int.reduceAdd, Int.reduceMul, Int.reduceSub, Int.reduceNeg, Int.reduceLT, Int.reduceLE, Int.reduceEq, Int.reduceToNat, AH.cells_push_eq, AH.cells_push_lt, AH.cells_set_ne, AH.get_push_eq, AH.get_push_lt, AH.get_set_ne, storeA_ptr, wrapK_i64, natOf_pos, nextA_ptr, nextC_siter, apart1_some, wrapK_u8, wrapK_i32, wrapK_u32, wrapK_u64, t1, t2, t3, t14, t15, t16, e2, c0, hv.right.len]
  clear t14 t15 t16
  refine wS_loop (fun m ts g => ∃ k rv, k ≤ p.right.length ∧ m = p.right.length - k ∧ Keep h g ∧ h.n + 3 ≤ g.n ∧ g.cells (h.n + 1) = some [.str [], .int .i64 0, .nilsl, .nilsl] ∧ g.cells (h.n + 2) = some [.str p.name, .int .i64 p.width, lv, rv] ∧
    Vw EdE g lv p.left ∧ Vw EdE g rv (p.right.take k) ∧ Own (h.n + 3) rv ∧ (∀ i, addrId lv = some i → Off rv i) ∧ tg ts 2 = .ptr (h.n + 1) 0 ∧ tg ts 3 = .ptr (h.n + 2) 0 ∧ tg ts 28 = r ∧ tg ts 29 = .int .i64 p.right.length ∧ tg ts 30 = .int .i64 k) p.right.length
    ⟨0, .nilsl, by omega, by omega, hkp, hn, c1, c2, hvl, Vw.nil, Own.of_nil, fun _ _ => Off.of_nil, by simp [t2], by simp [t3], by simp, by simp, by simp⟩ ?_
  clear c0 c1 c2 hkp hn t1 t2 t3 hvl hoff
  rintro m ts g ⟨k, rv, hk, rfl, hkp, hn, c1, c2, hvl, hvr, hown2, hoffs, t2, t3, t28, t29, t30⟩
  have hoff : ∀ i, g.n ≤ i → Off rv i := fun i hi e => by have := hvr.lt e; omega
  have hoffl : ∀ i, g.n ≤ i → Off lv i := fun i hi e => by have := hvl.lt e; omega
  by_cases hlt : k < p.right.length
  · obtain ⟨id, off, vs, rfl, hid, hc, r0, r1, r2, r3⟩ := (hv.right.keep hkp).ed hlt
    have e2 : (k : Int) < p.right.length := by omega
    have hone := hvr.one
    simp (maxSteps := 10000000) (disch := first | omega | (simp only [AH.push_n, AH.set_n]; first | done | omega)) only [go_sem, reduceIte, reduceCtorEq, Nat.reduceEqDiff, Nat.reduceAdd, Nat.reduceMul, Nat.reduceSub, Nat.reduceLeDiff, Nat.reduceLT, Int.reduceAdd, Int.reduceMul, Int.reduceSub, Int.reduceNeg, Int.reduceLT, Int.reduceLE, Int.reduceEq, Int.reduceToNat, AH.cells_push_eq, AH.cells_push_lt, AH.cells_set_ne, AH.get_push_eq, AH.get_push_lt, AH.get_set_ne, storeA_ptr, wrapK_i64, natOf_pos, nextA_ptr, nextC_siter, apart1_some, wrapK_u8, wrapK_i32, wrapK_u32, wrapK_u64, t2, t3, t28, t29, t30, e2, hlt, hc, r3, c2]
    refine append_to (E := EdE) (ys := [p.right[k]]) (((hvr.push _).set _ (hoff _ (Nat.le_refl _))).push _) (hown2.mono (by omega)) (by simp; omega) Vw.ed1 ?_ ?_
    · simp only [List.length_take, List.length_cons, List.length_nil, maxRow]; omega
    intro x g5 ha
    have hn5 := ha.n
    simp only [AH.push_n, AH.set_n] at hn5
    have keepc : ∀ j, j < h.n + 3 → g5.cells j = g.cells j := fun j hj => by
      refine (ha.cells (by simp; omega) (fun e => by have := hown2 j e; omega)).trans ?_
      rw [AH.cells_push_lt (by simp; omega), AH.cells_set_ne (by omega), AH.cells_push_lt (by omega)]
    have d2 := (keepc (h.n + 2) (by omega)).trans c2
    obtain ⟨rid, hr, hrn⟩ := ha.form (by simp)
    simp only [AH.push_n, AH.set_n] at hrn
    have hk5 : Keep h g5 := ha.keep (((hkp.push _).set (by omega) _).push _) (hown2.mono (by omega))
    have hvx := ha.vw
    have hvl5 := ha.other (((hvl.push _).set _ (hoffl _ (Nat.le_refl _))).push _) hoffs
    have htk : p.right.take k ++ [p.right[k]] = p.right.take (k + 1) := (List.take_succ_eq_append_getElem hlt).symm
    rw [htk] at hvx
    subst hr
    simp (maxSteps := 10000000) (disch := first | omega | (simp only [AH.push_n, AH.set_n]; first | done | omega)) only [go_sem, reduceIte, reduceCtorEq, Nat.reduceEqDiff, Nat.reduceAdd, Nat.reduceMul, Nat.reduceSub, Nat.reduceLeDiff, Nat.reduceLT, Int.reduceAdd, Int.reduceMul, Int.reduceSub, Int.reduceNeg, Int.reduceLT, Int.reduceLE, Int.reduceEq, Int.reduceToNat, AH.cells_push_eq, AH.cells_push_lt, AH.cells_set_ne, AH.get_push_eq, AH.get_push_lt, AH.get_set_ne, storeA_ptr, wrapK_i64, natOf_pos, nextA_ptr, nextC_siter, apart1_some, wrapK_u8, wrapK_i32, wrapK_u32, wrapK_u64, t2, t3, t28, t29, t30, d2]
    refine ⟨_, ?_, k + 1, _, by omega, rfl, hk5.set (by omega) _, by first | omega | (simp; omega), ?_, rfl, hvl5.set _ (hown.off (by omega)), hvx.set _ (Off.sl (by omega)), Own.sl (by omega), ?_, by omega⟩
    · omega
    · exact (keepc _ (by omega)).trans c1
    · intro i e
      have := hvl.lt e
      exact Off.sl (by omega)
  have hkk : k = p.right.length := by omega
  subst hkk
  have e2 : ¬ (p.right.length : Int) < p.right.length := by omega
  rw [List.take_length] at hvr
  have hl1 := hvl.one
  have hr1 := hvr.one
  simp (maxSteps := 10000000) (disch := first | omega | (simp only [AH.push_n, AH.set_n]; first | done | omega)) only [go_sem, reduceIte, reduceCtorEq, Nat.reduceEqDiff, Nat.reduceAdd, Nat.reduceMul, Nat.reduceSub, Nat.reduceLeDiff, Nat.reduceLT, Int.reduceAdd, Int.reduceMul, Int.reduceSub, Int.reduceNeg, Int.reduceLT, Int.reduceLE, Int.reduceEq, Int.reduceToNat, AH.cells_push_eq, AH.cells_push_lt, AH.cells_set_ne, AH.get_push_eq, AH.get_push_lt, AH.get_set_ne, storeA_ptr, wrapK_i64, natOf_pos, nextA_ptr, nextC_siter, apart1_some, wrapK_u8, wrapK_i32, wrapK_u32, wrapK_u64, t2, t3, t28, t29, t30, e2, c1, c2, hl1.1, hl1.2, hr1.1, hr1.2]
  exact ⟨⟨_, _, ⟨rfl, rfl⟩, ⟨hvl.set _ (hown.off (by omega)), hvr.set _ (hown2.off (by omega))⟩, hown.mono (by omega), hown2.mono (by omega)⟩, hkp.set (by omega) _⟩
end Go.Proofs.YtndlfkibcelhmaaGreatDoor.Ai
end
section
/- The law PanelChecks. -/
namespace Go.Proofs.YtndlfkibcelhmaaGreatDoor.Ai
open Go
set_option maxRecDepth 10000
set_option maxHeartbeats 4000000
set_option linter.all false
set_option pp.maxSteps 1200

structure PanelOk (p : Pn) : Prop where
  width : 1 ≤ p.width ∧ p.width ≤ 128
  left : SideOk p.left
  right : SideOk p.right
theorem panelErr_ok {p : Pn} (h : panelErr p = 0) : PanelOk p := by
  unfold panelErr at h
  split at h
  · omega
  split at h
  · omega
  rename_i he
  have he : firstErr [rangeErr p.width 1 128, sideErr p.left, sideErr p.right] = 0 := by simpa using he
  have hok : rangeErr p.width 1 128 = 0 ∧ sideErr p.left = 0 ∧ sideErr p.right = 0 := by
    simp only [firstErr] at he
    by_cases a : rangeErr p.width 1 128 = 0
    · by_cases b : sideErr p.left = 0
      · by_cases c : sideErr p.right = 0
        · exact ⟨a, b, c⟩
        · simp [a, b, c] at he
      · simp [a, b] at he
    · simp [a] at he
  exact ⟨by have := hok.1; unfold rangeErr at this; split at this <;> omega, sideErr_ok hok.2.1, sideErr_ok hok.2.2⟩

theorem awake_cl {fl : Nat} {h : AH} : Cl T fl 17 [] h fun r h' => r = .bool true ∧ h = h' := Cl.ofPrim (p := pTrue) rfl ⟨rfl, rfl⟩

theorem pHeightF_cl {fl : Nat} {h : AH} {l r : AVal} {p : Pn} (hf : fl ≤ h.n) (hv : PV h l r p) (hs : PSmall p) :
    Cl T fl 55 [.agg [.str p.name, .int .i64 p.width, l, r]] h fun x h' => x = .tuple [.int .i64 (if panelErr p = 0 then heightOf p else 0), .int .i64 (panelErr p)] ∧ Keep h h' := by
  refine Cl.code (fn := F55) rfl rfl ?_
  simp only [F55]
  have hlc := hv.left.one
  have hrc := hv.right.one
  have k0 : Keep h (h.push (.cells [.str p.name, .int .i64 p.width, l, r])) := (Keep.refl h).push _
  have c0 : (h.push (.cells [.str p.name, .int .i64 p.width, l, r])).cells h.n = some [.str p.name, .int .i64 p.width, l, r] := AH.cells_push_eq rfl
  have n0 : h.n < (h.push (.cells [.str p.name, .int .i64 p.width, l, r])).n := by simp
  simp (maxSteps := 10000000) (disch := first | omega | (simp only [AH.push_n, AH.set_n]; first | done | omega)) only [go_sem, reduceIte, reduceCtorEq, Nat.reduceEqDiff, Nat.reduceAdd, Nat.reduceMul, Nat.reduceSub, Nat.reduceLeDiff, Nat.reduceLT, Int.reduceAdd, Int.reduceMul, Int.reduceSub, Int.reduceNeg, Int.reduceLT, Int.reduceLE, Int.reduceEq, Int.reduceToNat, AH.cells_push_eq, AH.cells_push_lt, AH.cells_set_ne, AH.get_push_eq, AH.get_push_lt, AH.get_set_ne, storeA_ptr, wrapK_i64, natOf_pos, nextA_ptr, nextC_siter, apart1_some, wrapK_u8, wrapK_i32, wrapK_u32, wrapK_u64, hlc.1, hrc.1]
  generalize h.push (.cells [.str p.name, .int .i64 p.width, l, r]) = g0 at *
  refine ClS.by (pCheckPanel_cl (Nat.le_trans hf k0.n) (hv.keep k0) hs) ?_
  rintro x g1 ⟨rfl, hk1⟩
  have k1 := k0.trans hk1
  have c1 := (hk1.cells n0).trans c0
  by_cases he : panelErr p = 0
  · have ok := panelErr_ok he
    simp (maxSteps := 10000000) (disch := first | omega | (simp only [AH.push_n, AH.set_n]; first | done | omega)) only [go_sem, reduceIte, reduceCtorEq, Nat.reduceEqDiff, Nat.reduceAdd, Nat.reduceMul, Nat.reduceSub, Nat.reduceLeDiff, Nat.reduceLT, Int.reduceAdd, Int.reduceMul, Int.reduceSub, Int.reduceNeg, Int.reduceLT, Int.reduceLE, Int.reduceEq, Int.reduceToNat, AH.cells_push_eq, AH.cells_push_lt, AH.cells_set_ne, AH.get_push_eq, AH.get_push_lt, AH.get_set_ne, storeA_ptr, wrapK_i64, natOf_pos, nextA_ptr, nextC_siter, apart1_some, wrapK_u8, wrapK_i32, wrapK_u32, wrapK_u64, he, c1]
    refine ClS.by (pHeight_cl (Nat.le_trans hf k1.n) (hv.keep k1) ok.left.fit ok.right.fit ok.width) ?_
    rintro x g2 ⟨rfl, hk2⟩
    simp (maxSteps := 10000000) (disch := first | omega | (simp only [AH.push_n, AH.set_n]; first | done | omega)) only [go_sem, reduceIte, reduceCtorEq, Nat.reduceEqDiff, Nat.reduceAdd, Nat.reduceMul, Nat.reduceSub, Nat.reduceLeDiff, Nat.reduceLT, Int.reduceAdd, Int.reduceMul, Int.reduceSub, Int.reduceNeg, Int.reduceLT, Int.reduceLE, Int.reduceEq, Int.reduceToNat, AH.cells_push_eq, AH.cells_push_lt, AH.cells_set_ne, AH.get_push_eq, AH.get_push_lt, AH.get_set_ne, storeA_ptr, wrapK_i64, natOf_pos, nextA_ptr, nextC_siter, apart1_some, wrapK_u8, wrapK_i32, wrapK_u32, wrapK_u64]
    exact ⟨⟨by rw [if_pos he], he.symm⟩, k1.trans hk2⟩
  · simp (maxSteps := 10000000) (disch := first | omega | (simp only [AH.push_n, AH.set_n]; first | done | omega)) only [go_sem, reduceIte, reduceCtorEq, Nat.reduceEqDiff, Nat.reduceAdd, Nat.reduceMul, Nat.reduceSub, Nat.reduceLeDiff, Nat.reduceLT, Int.reduceAdd, Int.reduceMul, Int.reduceSub, Int.reduceNeg, Int.reduceLT, Int.reduceLE, Int.reduceEq, Int.reduceToNat, AH.cells_push_eq, AH.cells_push_lt, AH.cells_set_ne, AH.get_push_eq, AH.get_push_lt, AH.get_set_ne, storeA_ptr, wrapK_i64, natOf_pos, nextA_ptr, nextC_siter, apart1_some, wrapK_u8, wrapK_i32, wrapK_u32, wrapK_u64, he]
    exact k1

theorem panelChecks_cl {fl : Nat} {h : AH} {l r : AVal} {p : Pn} {e : Ed} (hf : fl ≤ h.n) (hv : PV h l r p) :
    Cl T fl 10 [.agg [.str p.name, .int .i64 p.width, l, r], .agg [.str e.w, .int .i64 e.t, .bool e.o]] h fun x _ => x = .bool true := by
  refine Cl.code (fn := F10) rfl rfl ?_
  simp only [F10]
  have hlc := hv.left.one
  have hrc := hv.right.one
  have k0 : Keep h ((h.push (.cells [.str p.name, .int .i64 p.width, l, r])).push (.cells [.str e.w, .int .i64 e.t, .bool e.o])) := ((Keep.refl h).push _).push _
  have c0 : ((h.push (.cells [.str p.name, .int .i64 p.width, l, r])).push (.cells [.str e.w, .int .i64 e.t, .bool e.o])).cells h.n = some [.str p.name, .int .i64 p.width, l, r] := by simp (maxSteps := 10000000) (disch := first | omega | (simp only [AH.push_n, AH.set_n]; first | done | omega)) only [go_sem, reduceIte, reduceCtorEq, Nat.reduceEqDiff, Nat.reduceAdd, Nat.reduceMul, Nat.reduceSub, Nat.reduceLeDiff, Nat.reduceLT, Int.reduceAdd, Int.reduceMul, Int.reduceSub, Int.reduceNeg, Int.reduceLT, Int.reduceLE, Int.reduceEq, Int.reduceToNat, AH.cells_push_eq, AH.cells_push_lt, AH.cells_set_ne, AH.get_push_eq, AH.get_push_lt, AH.get_set_ne, storeA_ptr, wrapK_i64, natOf_pos, nextA_ptr, nextC_siter, apart1_some, wrapK_u8, wrapK_i32, wrapK_u32, wrapK_u64]
  have d0 : ((h.push (.cells [.str p.name, .int .i64 p.width, l, r])).push (.cells [.str e.w, .int .i64 e.t, .bool e.o])).cells (h.n + 1) = some [.str e.w, .int .i64 e.t, .bool e.o] := by simp (maxSteps := 10000000) (disch := first | omega | (simp only [AH.push_n, AH.set_n]; first | done | omega)) only [go_sem, reduceIte, reduceCtorEq, Nat.reduceEqDiff, Nat.reduceAdd, Nat.reduceMul, Nat.reduceSub, Nat.reduceLeDiff, Nat.reduceLT, Int.reduceAdd, Int.reduceMul, Int.reduceSub, Int.reduceNeg, Int.reduceLT, Int.reduceLE, Int.reduceEq, Int.reduceToNat, AH.cells_push_eq, AH.cells_push_lt, AH.cells_set_ne, AH.get_push_eq, AH.get_push_lt, AH.get_set_ne, storeA_ptr, wrapK_i64, natOf_pos, nextA_ptr, nextC_siter, apart1_some, wrapK_u8, wrapK_i32, wrapK_u32, wrapK_u64]
  have n0 : h.n + 1 < ((h.push (.cells [.str p.name, .int .i64 p.width, l, r])).push (.cells [.str e.w, .int .i64 e.t, .bool e.o])).n := by simp
  simp (maxSteps := 10000000) (disch := first | omega | (simp only [AH.push_n, AH.set_n]; first | done | omega)) only [go_sem, reduceIte, reduceCtorEq, Nat.reduceEqDiff, Nat.reduceAdd, Nat.reduceMul, Nat.reduceSub, Nat.reduceLeDiff, Nat.reduceLT, Int.reduceAdd, Int.reduceMul, Int.reduceSub, Int.reduceNeg, Int.reduceLT, Int.reduceLE, Int.reduceEq, Int.reduceToNat, AH.cells_push_eq, AH.cells_push_lt, AH.cells_set_ne, AH.get_push_eq, AH.get_push_lt, AH.get_set_ne, storeA_ptr, wrapK_i64, natOf_pos, nextA_ptr, nextC_siter, apart1_some, wrapK_u8, wrapK_i32, wrapK_u32, wrapK_u64, hlc.1, hrc.1]
  refine ClS.by awake_cl ?_
  rintro x g ⟨rfl, rfl⟩
  simp (maxSteps := 10000000) (disch := first | omega | (simp only [AH.push_n, AH.set_n]; first | done | omega)) only [go_sem, reduceIte, reduceCtorEq, Nat.reduceEqDiff, Nat.reduceAdd, Nat.reduceMul, Nat.reduceSub, Nat.reduceLeDiff, Nat.reduceLT, Int.reduceAdd, Int.reduceMul, Int.reduceSub, Int.reduceNeg, Int.reduceLT, Int.reduceLE, Int.reduceEq, Int.reduceToNat, AH.cells_push_eq, AH.cells_push_lt, AH.cells_set_ne, AH.get_push_eq, AH.get_push_lt, AH.get_set_ne, storeA_ptr, wrapK_i64, natOf_pos, nextA_ptr, nextC_siter, apart1_some, wrapK_u8, wrapK_i32, wrapK_u32, wrapK_u64]
  generalize (h.push (.cells [.str p.name, .int .i64 p.width, l, r])).push (.cells [.str e.w, .int .i64 e.t, .bool e.o]) = g0 at *
  refine ClS.by (short_cl (Nat.le_trans hf k0.n) (hv.keep k0) 40) ?_
  rintro x g1 ⟨⟨b, rfl, hb⟩, hk1⟩
  have k1 := k0.trans hk1
  have n1 : h.n + 1 < g1.n := Nat.lt_of_lt_of_le n0 hk1.n
  have c1 := (hk1.cells (i := h.n) (by omega)).trans c0
  have d1 := (hk1.cells n0).trans d0
  cases b
  case false =>
    simp (maxSteps := 10000000) (disch := first | omega | (simp only [AH.push_n, AH.set_n]; first | done | omega)) only [go_sem, reduceIte, reduceCtorEq, Nat.reduceEqDiff, Nat.reduceAdd, Nat.reduceMul, Nat.reduceSub, Nat.reduceLeDiff, Nat.reduceLT, Int.reduceAdd, Int.reduceMul, Int.reduceSub, Int.reduceNeg, Int.reduceLT, Int.reduceLE, Int.reduceEq, Int.reduceToNat, AH.cells_push_eq, AH.cells_push_lt, AH.cells_set_ne, AH.get_push_eq, AH.get_push_lt, AH.get_set_ne, storeA_ptr, wrapK_i64, natOf_pos, nextA_ptr, nextC_siter, apart1_some, wrapK_u8, wrapK_i32, wrapK_u32, wrapK_u64]
    refine ClS.by awake_cl ?_
    rintro x g ⟨rfl, rfl⟩
    simp (maxSteps := 10000000) (disch := first | omega | (simp only [AH.push_n, AH.set_n]; first | done | omega)) only [go_sem, reduceIte, reduceCtorEq, Nat.reduceEqDiff, Nat.reduceAdd, Nat.reduceMul, Nat.reduceSub, Nat.reduceLeDiff, Nat.reduceLT, Int.reduceAdd, Int.reduceMul, Int.reduceSub, Int.reduceNeg, Int.reduceLT, Int.reduceLE, Int.reduceEq, Int.reduceToNat, AH.cells_push_eq, AH.cells_push_lt, AH.cells_set_ne, AH.get_push_eq, AH.get_push_lt, AH.get_set_ne, storeA_ptr, wrapK_i64, natOf_pos, nextA_ptr, nextC_siter, apart1_some, wrapK_u8, wrapK_i32, wrapK_u32, wrapK_u64]
  have ps := hb rfl
  by_cases hw : 70 < e.w.length
  · have e1 : (70 : Int) < e.w.length := by omega
    simp (maxSteps := 10000000) (disch := first | omega | (simp only [AH.push_n, AH.set_n]; first | done | omega)) only [go_sem, reduceIte, reduceCtorEq, Nat.reduceEqDiff, Nat.reduceAdd, Nat.reduceMul, Nat.reduceSub, Nat.reduceLeDiff, Nat.reduceLT, Int.reduceAdd, Int.reduceMul, Int.reduceSub, Int.reduceNeg, Int.reduceLT, Int.reduceLE, Int.reduceEq, Int.reduceToNat, AH.cells_push_eq, AH.cells_push_lt, AH.cells_set_ne, AH.get_push_eq, AH.get_push_lt, AH.get_set_ne, storeA_ptr, wrapK_i64, natOf_pos, nextA_ptr, nextC_siter, apart1_some, wrapK_u8, wrapK_i32, wrapK_u32, wrapK_u64, d1, e1]
    refine ClS.by awake_cl ?_
    rintro x g ⟨rfl, rfl⟩
    simp (maxSteps := 10000000) (disch := first | omega | (simp only [AH.push_n, AH.set_n]; first | done | omega)) only [go_sem, reduceIte, reduceCtorEq, Nat.reduceEqDiff, Nat.reduceAdd, Nat.reduceMul, Nat.reduceSub, Nat.reduceLeDiff, Nat.reduceLT, Int.reduceAdd, Int.reduceMul, Int.reduceSub, Int.reduceNeg, Int.reduceLT, Int.reduceLE, Int.reduceEq, Int.reduceToNat, AH.cells_push_eq, AH.cells_push_lt, AH.cells_set_ne, AH.get_push_eq, AH.get_push_lt, AH.get_set_ne, storeA_ptr, wrapK_i64, natOf_pos, nextA_ptr, nextC_siter, apart1_some, wrapK_u8, wrapK_i32, wrapK_u32, wrapK_u64]
  have e1 : ¬ (70 : Int) < e.w.length := by omega
  simp (maxSteps := 10000000) (disch := first | omega | (simp only [AH.push_n, AH.set_n]; first | done | omega)) only [go_sem, reduceIte, reduceCtorEq, Nat.reduceEqDiff, Nat.reduceAdd, Nat.reduceMul, Nat.reduceSub, Nat.reduceLeDiff, Nat.reduceLT, Int.reduceAdd, Int.reduceMul, Int.reduceSub, Int.reduceNeg, Int.reduceLT, Int.reduceLE, Int.reduceEq, Int.reduceToNat, AH.cells_push_eq, AH.cells_push_lt, AH.cells_set_ne, AH.get_push_eq, AH.get_push_lt, AH.get_set_ne, storeA_ptr, wrapK_i64, natOf_pos, nextA_ptr, nextC_siter, apart1_some, wrapK_u8, wrapK_i32, wrapK_u32, wrapK_u64, c1, d1, e1]
  refine ClS.by (given_cl (Nat.le_trans hf k1.n) (hv.keep k1) (by have := ps.left.len; omega) (by have := ps.right.len; omega)) ?_
  rintro x g2 ⟨⟨l', r', rfl, hv2, _, _⟩, hk2⟩
  have k2 := k1.trans hk2
  have n2 : h.n + 1 < g2.n := Nat.lt_of_lt_of_le n1 hk2.n
  have c2 := (hk2.cells (i := h.n) (by omega)).trans c1
  have d2 := (hk2.cells n1).trans d1
  simp (maxSteps := 10000000) (disch := first | omega | (simp only [AH.push_n, AH.set_n]; first | done | omega)) only [go_sem, reduceIte, reduceCtorEq, Nat.reduceEqDiff, Nat.reduceAdd, Nat.reduceMul, Nat.reduceSub, Nat.reduceLeDiff, Nat.reduceLT, Int.reduceAdd, Int.reduceMul, Int.reduceSub, Int.reduceNeg, Int.reduceLT, Int.reduceLE, Int.reduceEq, Int.reduceToNat, AH.cells_push_eq, AH.cells_push_lt, AH.cells_set_ne, AH.get_push_eq, AH.get_push_lt, AH.get_set_ne, storeA_ptr, wrapK_i64, natOf_pos, nextA_ptr, nextC_siter, apart1_some, wrapK_u8, wrapK_i32, wrapK_u32, wrapK_u64]
  refine ClS.by (pHeightF_cl (Nat.le_trans hf k2.n) hv2 ps.small) ?_
  rintro x g3 ⟨rfl, hk3⟩
  have k3 := k2.trans hk3
  have n3 : h.n + 1 < g3.n := Nat.lt_of_lt_of_le n2 hk3.n
  have c3 := (hk3.cells (i := h.n) (by omega)).trans c2
  have d3 := (hk3.cells n2).trans d2
  simp (maxSteps := 10000000) (disch := first | omega | (simp only [AH.push_n, AH.set_n]; first | done | omega)) only [go_sem, reduceIte, reduceCtorEq, Nat.reduceEqDiff, Nat.reduceAdd, Nat.reduceMul, Nat.reduceSub, Nat.reduceLeDiff, Nat.reduceLT, Int.reduceAdd, Int.reduceMul, Int.reduceSub, Int.reduceNeg, Int.reduceLT, Int.reduceLE, Int.reduceEq, Int.reduceToNat, AH.cells_push_eq, AH.cells_push_lt, AH.cells_set_ne, AH.get_push_eq, AH.get_push_lt, AH.get_set_ne, storeA_ptr, wrapK_i64, natOf_pos, nextA_ptr, nextC_siter, apart1_some, wrapK_u8, wrapK_i32, wrapK_u32, wrapK_u64, c3]
  refine ClS.by (refCheckPanel_cl (Nat.le_trans hf k3.n) (hv.keep k3) ps.small) ?_
  rintro x g4 ⟨rfl, hk4⟩
  have k4 := k3.trans hk4
  have n4 : h.n + 1 < g4.n := Nat.lt_of_lt_of_le n3 hk4.n
  have c4 := (hk4.cells (i := h.n) (by omega)).trans c3
  have d4 := (hk4.cells n3).trans d3
  have hwb : e.w.length < 1000000000000000 := by omega
  by_cases he : panelErr p = 0
  · have ok := panelErr_ok he
    simp (maxSteps := 10000000) (disch := first | omega | (simp only [AH.push_n, AH.set_n]; first | done | omega)) only [go_sem, reduceIte, reduceCtorEq, Nat.reduceEqDiff, Nat.reduceAdd, Nat.reduceMul, Nat.reduceSub, Nat.reduceLeDiff, Nat.reduceLT, Int.reduceAdd, Int.reduceMul, Int.reduceSub, Int.reduceNeg, Int.reduceLT, Int.reduceLE, Int.reduceEq, Int.reduceToNat, AH.cells_push_eq, AH.cells_push_lt, AH.cells_set_ne, AH.get_push_eq, AH.get_push_lt, AH.get_set_ne, storeA_ptr, wrapK_i64, natOf_pos, nextA_ptr, nextC_siter, apart1_some, wrapK_u8, wrapK_i32, wrapK_u32, wrapK_u64, he, c4]
    refine ClS.by (height_cl (Nat.le_trans hf k4.n) (hv.keep k4) ok.left) ?_
    rintro x g5 ⟨rfl, hk5⟩
    have k5 := k4.trans hk5
    have n5 : h.n + 1 < g5.n := Nat.lt_of_lt_of_le n4 hk5.n
    have c5 := (hk5.cells (i := h.n) (by omega)).trans c4
    have d5 := (hk5.cells n4).trans d4
    simp (maxSteps := 10000000) (disch := first | omega | (simp only [AH.push_n, AH.set_n]; first | done | omega)) only [go_sem, reduceIte, reduceCtorEq, Nat.reduceEqDiff, Nat.reduceAdd, Nat.reduceMul, Nat.reduceSub, Nat.reduceLeDiff, Nat.reduceLT, Int.reduceAdd, Int.reduceMul, Int.reduceSub, Int.reduceNeg, Int.reduceLT, Int.reduceLE, Int.reduceEq, Int.reduceToNat, AH.cells_push_eq, AH.cells_push_lt, AH.cells_set_ne, AH.get_push_eq, AH.get_push_lt, AH.get_set_ne, storeA_ptr, wrapK_i64, natOf_pos, nextA_ptr, nextC_siter, apart1_some, wrapK_u8, wrapK_i32, wrapK_u32, wrapK_u64, d5]
    refine ClS.by (pCheckEdge_cl e (Nat.le_refl _) hwb) ?_
    rintro x g6 ⟨rfl, hk6⟩
    have k6 := k5.trans hk6
    have n6 : h.n + 1 < g6.n := Nat.lt_of_lt_of_le n5 hk6.n
    have c6 := (hk6.cells (i := h.n) (by omega)).trans c5
    have d6 := (hk6.cells n5).trans d5
    simp (maxSteps := 10000000) (disch := first | omega | (simp only [AH.push_n, AH.set_n]; first | done | omega)) only [go_sem, reduceIte, reduceCtorEq, Nat.reduceEqDiff, Nat.reduceAdd, Nat.reduceMul, Nat.reduceSub, Nat.reduceLeDiff, Nat.reduceLT, Int.reduceAdd, Int.reduceMul, Int.reduceSub, Int.reduceNeg, Int.reduceLT, Int.reduceLE, Int.reduceEq, Int.reduceToNat, AH.cells_push_eq, AH.cells_push_lt, AH.cells_set_ne, AH.get_push_eq, AH.get_push_lt, AH.get_set_ne, storeA_ptr, wrapK_i64, natOf_pos, nextA_ptr, nextC_siter, apart1_some, wrapK_u8, wrapK_i32, wrapK_u32, wrapK_u64, d6]
    refine ClS.by (refCheckEdge_cl e (Nat.le_trans hf k6.n) hwb) ?_
    rintro x g7 ⟨rfl, hk7⟩
    have k7 := k6.trans hk7
    have c7 := (hk7.cells (i := h.n) (by omega)).trans c6
    simp (maxSteps := 10000000) (disch := first | omega | (simp only [AH.push_n, AH.set_n]; first | done | omega)) only [go_sem, reduceIte, reduceCtorEq, Nat.reduceEqDiff, Nat.reduceAdd, Nat.reduceMul, Nat.reduceSub, Nat.reduceLeDiff, Nat.reduceLT, Int.reduceAdd, Int.reduceMul, Int.reduceSub, Int.reduceNeg, Int.reduceLT, Int.reduceLE, Int.reduceEq, Int.reduceToNat, AH.cells_push_eq, AH.cells_push_lt, AH.cells_set_ne, AH.get_push_eq, AH.get_push_lt, AH.get_set_ne, storeA_ptr, wrapK_i64, natOf_pos, nextA_ptr, nextC_siter, apart1_some, wrapK_u8, wrapK_i32, wrapK_u32, wrapK_u64, c7, eq_self, decide_true]
    refine ClS.by (given_cl (Nat.le_trans hf k7.n) (hv.keep k7) (by have := ps.left.len; omega) (by have := ps.right.len; omega)) ?_
    rintro x g8 ⟨⟨l2, r2, rfl, hv8, _, _⟩, hk8⟩
    have k8 := k7.trans hk8
    simp (maxSteps := 10000000) (disch := first | omega | (simp only [AH.push_n, AH.set_n]; first | done | omega)) only [go_sem, reduceIte, reduceCtorEq, Nat.reduceEqDiff, Nat.reduceAdd, Nat.reduceMul, Nat.reduceSub, Nat.reduceLeDiff, Nat.reduceLT, Int.reduceAdd, Int.reduceMul, Int.reduceSub, Int.reduceNeg, Int.reduceLT, Int.reduceLE, Int.reduceEq, Int.reduceToNat, AH.cells_push_eq, AH.cells_push_lt, AH.cells_set_ne, AH.get_push_eq, AH.get_push_lt, AH.get_set_ne, storeA_ptr, wrapK_i64, natOf_pos, nextA_ptr, nextC_siter, apart1_some, wrapK_u8, wrapK_i32, wrapK_u32, wrapK_u64]
    refine ClS.by (pCheckPanel_cl (Nat.le_trans hf k8.n) hv8 ps.small) ?_
    rintro x g9 ⟨rfl, hk9⟩
    simp (maxSteps := 10000000) (disch := first | omega | (simp only [AH.push_n, AH.set_n]; first | done | omega)) only [go_sem, reduceIte, reduceCtorEq, Nat.reduceEqDiff, Nat.reduceAdd, Nat.reduceMul, Nat.reduceSub, Nat.reduceLeDiff, Nat.reduceLT, Int.reduceAdd, Int.reduceMul, Int.reduceSub, Int.reduceNeg, Int.reduceLT, Int.reduceLE, Int.reduceEq, Int.reduceToNat, AH.cells_push_eq, AH.cells_push_lt, AH.cells_set_ne, AH.get_push_eq, AH.get_push_lt, AH.get_set_ne, storeA_ptr, wrapK_i64, natOf_pos, nextA_ptr, nextC_siter, apart1_some, wrapK_u8, wrapK_i32, wrapK_u32, wrapK_u64, he, eq_self, decide_true]
  · simp (maxSteps := 10000000) (disch := first | omega | (simp only [AH.push_n, AH.set_n]; first | done | omega)) only [go_sem, reduceIte, reduceCtorEq, Nat.reduceEqDiff, Nat.reduceAdd, Nat.reduceMul, Nat.reduceSub, Nat.reduceLeDiff, Nat.reduceLT, Int.reduceAdd, Int.reduceMul, Int.reduceSub, Int.reduceNeg, Int.reduceLT, Int.reduceLE, Int.reduceEq, Int.reduceToNat, AH.cells_push_eq, AH.cells_push_lt, AH.cells_set_ne, AH.get_push_eq, AH.get_push_lt, AH.get_set_ne, storeA_ptr, wrapK_i64, natOf_pos, nextA_ptr, nextC_siter, apart1_some, wrapK_u8, wrapK_i32, wrapK_u32, wrapK_u64, he, d4]
    have k5 := k4
    have n5 := n4
    have c5 := c4
    have d5 := d4
    generalize g4 = g5 at *
    refine ClS.by (pCheckEdge_cl e (Nat.le_refl _) hwb) ?_
    rintro x g6 ⟨rfl, hk6⟩
    have k6 := k5.trans hk6
    have n6 : h.n + 1 < g6.n := Nat.lt_of_lt_of_le n5 hk6.n
    have c6 := (hk6.cells (i := h.n) (by omega)).trans c5
    have d6 := (hk6.cells n5).trans d5
    simp (maxSteps := 10000000) (disch := first | omega | (simp only [AH.push_n, AH.set_n]; first | done | omega)) only [go_sem, reduceIte, reduceCtorEq, Nat.reduceEqDiff, Nat.reduceAdd, Nat.reduceMul, Nat.reduceSub, Nat.reduceLeDiff, Nat.reduceLT, Int.reduceAdd, Int.reduceMul, Int.reduceSub, Int.reduceNeg, Int.reduceLT, Int.reduceLE, Int.reduceEq, Int.reduceToNat, AH.cells_push_eq, AH.cells_push_lt, AH.cells_set_ne, AH.get_push_eq, AH.get_push_lt, AH.get_set_ne, storeA_ptr, wrapK_i64, natOf_pos, nextA_ptr, nextC_siter, apart1_some, wrapK_u8, wrapK_i32, wrapK_u32, wrapK_u64, d6]
    refine ClS.by (refCheckEdge_cl e (Nat.le_trans hf k6.n) hwb) ?_
    rintro x g7 ⟨rfl, hk7⟩
    have k7 := k6.trans hk7
    have c7 := (hk7.cells (i := h.n) (by omega)).trans c6
    simp (maxSteps := 10000000) (disch := first | omega | (simp only [AH.push_n, AH.set_n]; first | done | omega)) only [go_sem, reduceIte, reduceCtorEq, Nat.reduceEqDiff, Nat.reduceAdd, Nat.reduceMul, Nat.reduceSub, Nat.reduceLeDiff, Nat.reduceLT, Int.reduceAdd, Int.reduceMul, Int.reduceSub, Int.reduceNeg, Int.reduceLT, Int.reduceLE, Int.reduceEq, Int.reduceToNat, AH.cells_push_eq, AH.cells_push_lt, AH.cells_set_ne, AH.get_push_eq, AH.get_push_lt, AH.get_set_ne, storeA_ptr, wrapK_i64, natOf_pos, nextA_ptr, nextC_siter, apart1_some, wrapK_u8, wrapK_i32, wrapK_u32, wrapK_u64, c7, eq_self, decide_true]
    refine ClS.by (given_cl (Nat.le_trans hf k7.n) (hv.keep k7) (by have := ps.left.len; omega) (by have := ps.right.len; omega)) ?_
    rintro x g8 ⟨⟨l2, r2, rfl, hv8, _, _⟩, hk8⟩
    have k8 := k7.trans hk8
    simp (maxSteps := 10000000) (disch := first | omega | (simp only [AH.push_n, AH.set_n]; first | done | omega)) only [go_sem, reduceIte, reduceCtorEq, Nat.reduceEqDiff, Nat.reduceAdd, Nat.reduceMul, Nat.reduceSub, Nat.reduceLeDiff, Nat.reduceLT, Int.reduceAdd, Int.reduceMul, Int.reduceSub, Int.reduceNeg, Int.reduceLT, Int.reduceLE, Int.reduceEq, Int.reduceToNat, AH.cells_push_eq, AH.cells_push_lt, AH.cells_set_ne, AH.get_push_eq, AH.get_push_lt, AH.get_set_ne, storeA_ptr, wrapK_i64, natOf_pos, nextA_ptr, nextC_siter, apart1_some, wrapK_u8, wrapK_i32, wrapK_u32, wrapK_u64]
    refine ClS.by (pCheckPanel_cl (Nat.le_trans hf k8.n) hv8 ps.small) ?_
    rintro x g9 ⟨rfl, hk9⟩
    simp (maxSteps := 10000000) (disch := first | omega | (simp only [AH.push_n, AH.set_n]; first | done | omega)) only [go_sem, reduceIte, reduceCtorEq, Nat.reduceEqDiff, Nat.reduceAdd, Nat.reduceMul, Nat.reduceSub, Nat.reduceLeDiff, Nat.reduceLT, Int.reduceAdd, Int.reduceMul, Int.reduceSub, Int.reduceNeg, Int.reduceLT, Int.reduceLE, Int.reduceEq, Int.reduceToNat, AH.cells_push_eq, AH.cells_push_lt, AH.cells_set_ne, AH.get_push_eq, AH.get_push_lt, AH.get_set_ne, storeA_ptr, wrapK_i64, natOf_pos, nextA_ptr, nextC_siter, apart1_some, wrapK_u8, wrapK_i32, wrapK_u32, wrapK_u64, he, eq_self, decide_true]
end Go.Proofs.YtndlfkibcelhmaaGreatDoor.Ai
end
