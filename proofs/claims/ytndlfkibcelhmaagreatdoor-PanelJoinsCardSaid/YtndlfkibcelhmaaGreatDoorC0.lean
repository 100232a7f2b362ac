/- What the functions come to, in the evaluator. -/
import Derived.Test.YtndlfkibcelhmaaGreatDoorA2
import Derived.Test.YtndlfkibcelhmaaGreatDoorB0
set_option linter.all false
section
namespace Go.Proofs.YtndlfkibcelhmaaGreatDoor.Ai
open Go
set_option linter.all false

def rangeErr (n lo hi : Int) : Int := if n < lo ∨ n > hi then 3 else 0
def nameC (i c : Nat) : Prop := (97 ≤ c ∧ c ≤ 122) ∨ (65 ≤ c ∧ c ≤ 90) ∨ (i ≠ 0 ∧ (c = 95 ∨ (48 ≤ c ∧ c ≤ 57)))
instance (i c : Nat) : Decidable (nameC i c) := by unfold nameC; infer_instance
def nameOk (s : List Nat) : Bool := decide (s.length ≠ 0 ∧ s.length ≤ 24 ∧ ∀ (i : Nat) (h : i < s.length), nameC i s[i])
theorem nameOk_false {s : List Nat} {i : Nat} (h : i < s.length) (hc : ¬ nameC i s[i]) : nameOk s = false := by
  unfold nameOk; rw [decide_eq_false_iff_not]; exact fun x => hc (x.2.2 i h)
def letterC (c : Nat) : Prop := c = 78 ∨ c = 66 ∨ c = 84
instance (c : Nat) : Decidable (letterC c) := by unfold letterC; infer_instance
def edgeErr (e : Ed) : Int :=
  if e.w = [] then 12 else if 64 < e.w.length then 26 else if ∀ c ∈ e.w, letterC c then rangeErr e.t 1 64 else 1
def firstErr : List Int → Int
  | [] => 0
  | e :: l => if e = 0 then firstErr l else e
def edgesErr : List Ed → Int
  | [] => 0
  | e :: l => if edgeErr e = 0 then edgesErr l else edgeErr e
def lettersOf : List Ed → Int
  | [] => 0
  | e :: l => e.w.length * e.t + lettersOf l
def sideErr (l : List Ed) : Int :=
  if 64 < l.length then 5 else if edgesErr l ≠ 0 then edgesErr l else if 512 < lettersOf l then 5 else 0
theorem edgeErr_ok {e : Ed} (h : edgeErr e = 0) : e.w ≠ [] ∧ e.w.length ≤ 64 ∧ (∀ c ∈ e.w, letterC c) ∧ 1 ≤ e.t ∧ e.t ≤ 64 := by
  unfold edgeErr rangeErr at h
  split at h
  · omega
  split at h
  · omega
  split at h
  · split at h
    · omega
    · exact ⟨by assumption, by omega, by assumption, by omega, by omega⟩
  · omega
theorem edgesErr_take {l : List Ed} : ∀ {k : Nat} (hk : k < l.length), edgesErr (l.take (k + 1)) = if edgesErr (l.take k) = 0 then edgeErr l[k] else edgesErr (l.take k) := by
  induction l with
  | nil => intro k hk; simp at hk
  | cons e l ih =>
    intro k hk
    cases k with
    | zero => simp [edgesErr]; intro h; exact h.symm
    | succ k =>
      have := ih (k := k) (by simpa using hk)
      simp only [List.take_succ_cons, edgesErr, List.getElem_cons_succ]
      by_cases he : edgeErr e = 0
      · simp only [he, if_true]; exact this
      · simp [he]
theorem edgesErr_first {l : List Ed} {k : Nat} (hk : k < l.length) (h0 : edgesErr (l.take k) = 0) (h1 : edgeErr l[k] ≠ 0) : edgesErr l = edgeErr l[k] := by
  induction l generalizing k with
  | nil => simp at hk
  | cons e l ih =>
    cases k with
    | zero => simp at h1; simp [edgesErr, h1]
    | succ k =>
      simp only [List.take_succ_cons, edgesErr] at h0
      by_cases he : edgeErr e = 0
      · simp only [he, if_true] at h0
        simp only [edgesErr, he, if_true, List.getElem_cons_succ] at h1 ⊢
        exact ih (by simpa using hk) h0 h1
      · simp [he] at h0
theorem edgesErr_all : ∀ {l : List Ed}, edgesErr l = 0 → ∀ e ∈ l, edgeErr e = 0
  | [], _, e, he => by cases he
  | a :: l, h, e, he => by
    simp only [edgesErr] at h
    by_cases h0 : edgeErr a = 0
    · simp only [h0, if_true] at h
      cases he with
      | head => exact h0
      | tail _ he => exact edgesErr_all h e he
    · simp [h0] at h
theorem lettersOf_app : ∀ a b : List Ed, lettersOf (a ++ b) = lettersOf a + lettersOf b
  | [], b => by simp [lettersOf]
  | e :: a, b => by simp only [List.cons_append, lettersOf, lettersOf_app a b]; omega
theorem lettersOf_take {l : List Ed} {k : Nat} (hk : k < l.length) : lettersOf (l.take (k + 1)) = lettersOf (l.take k) + l[k].w.length * l[k].t := by
  rw [List.take_succ_eq_append_getElem hk, lettersOf_app]; simp [lettersOf]
theorem edge_bd {e : Ed} (h : edgeErr e = 0) : 0 ≤ (e.w.length : Int) * e.t ∧ (e.w.length : Int) * e.t ≤ 4096 := by
  obtain ⟨_, h1, _, h2, h3⟩ := edgeErr_ok h
  refine ⟨Int.mul_nonneg (by omega) (by omega), ?_⟩
  have : (e.w.length : Int) * e.t ≤ 64 * 64 := Int.mul_le_mul (by omega) (by omega) (by omega) (by omega)
  omega
theorem letters_bd : ∀ {l : List Ed}, edgesErr l = 0 → 0 ≤ lettersOf l ∧ lettersOf l ≤ 4096 * l.length
  | [], _ => by simp [lettersOf]
  | e :: l, h => by
    have h0 := edge_bd (edgesErr_all h e (List.mem_cons_self ..))
    have h1 := letters_bd (l := l) (by
      have := edgesErr_all h e (List.mem_cons_self ..)
      simpa [edgesErr, this] using h)
    simp only [lettersOf, List.length_cons]; omega

end Go.Proofs.YtndlfkibcelhmaaGreatDoor.Ai
end
section
namespace Go.Proofs.YtndlfkibcelhmaaGreatDoor.Ai
open Go
set_option linter.all false

theorem firstErr_at {l : List Int} {k : Nat} (hk : k < l.length) (h0 : ∀ (i : Nat) (h : i < l.length), i < k → l[i] = 0) (h1 : l[k] ≠ 0) : firstErr l = l[k] := by
  induction l generalizing k with
  | nil => simp at hk
  | cons e l ih =>
    cases k with
    | zero => simp at h1; simp [firstErr, h1]
    | succ k =>
      have he : e = 0 := h0 0 (by simp) (by omega)
      simp only [firstErr, he, if_true, List.getElem_cons_succ] at h1 ⊢
      exact ih (by simpa using hk) (fun i hi hik => by have := h0 (i + 1) (by simpa using hi) (by omega); simpa using this) h1
theorem firstErr_none {l : List Int} (h0 : ∀ (i : Nat) (h : i < l.length), l[i] = 0) : firstErr l = 0 := by
  induction l with
  | nil => rfl
  | cons e l ih =>
    have he : e = 0 := h0 0 (by simp)
    simp only [firstErr, he, if_true]
    exact ih fun i hi => by have := h0 (i + 1) (by simpa using hi); simpa using this

def up1 (s : Sp) : Int := if s.c = 78 then 2 else if s.c = 66 then 1 else 0
def riseOf : List Sp → Int
  | [] => 0
  | s :: l => up1 s + riseOf l
theorem up1_bd (s : Sp) : 0 ≤ up1 s ∧ up1 s ≤ 2 := by unfold up1; split <;> first | omega | (split <;> omega)
theorem rise_bd : ∀ l : List Sp, 0 ≤ riseOf l ∧ riseOf l ≤ 2 * l.length
  | [] => by simp [riseOf]
  | s :: l => by have := rise_bd l; have := up1_bd s; simp only [riseOf, List.length_cons]; omega
theorem rise_app : ∀ l m : List Sp, riseOf (l ++ m) = riseOf l + riseOf m
  | [], m => by simp [riseOf]
  | s :: l, m => by simp only [List.cons_append, riseOf, rise_app l m]; omega
theorem rise_snoc (l : List Sp) (k : Nat) (hk : k < l.length) : riseOf (l.take (k + 1)) = riseOf (l.take k) + up1 l[k] := by
  rw [List.take_succ_eq_append_getElem hk, rise_app]; simp [riseOf]

def wordSteps (w : List Nat) (o : Bool) : List Sp := w.map fun c => ⟨c, o⟩
def repSteps : Nat → List Nat → Bool → List Sp
  | 0, _, _ => []
  | n + 1, w, o => repSteps n w o ++ wordSteps w o
def edgeSteps (e : Ed) : List Sp := repSteps e.t.toNat e.w e.o
def stepsOf : List Ed → List Sp
  | [] => []
  | e :: l => edgeSteps e ++ stepsOf l
theorem stepsOf_app : ∀ a b : List Ed, stepsOf (a ++ b) = stepsOf a ++ stepsOf b
  | [], b => rfl
  | e :: a, b => by simp [stepsOf, stepsOf_app a b]
theorem stepsOf_snoc {l : List Ed} {k : Nat} (hk : k < l.length) : stepsOf (l.take (k + 1)) = stepsOf (l.take k) ++ edgeSteps l[k] := by
  rw [List.take_succ_eq_append_getElem hk, stepsOf_app]; simp [stepsOf]
theorem repSteps_len (n : Nat) (w : List Nat) (o : Bool) : (repSteps n w o).length = n * w.length := by
  induction n with
  | zero => simp [repSteps]
  | succ n ih => simp [repSteps, ih, wordSteps, Nat.add_mul]
theorem stepsOf_len : ∀ {l : List Ed}, edgesErr l = 0 → ((stepsOf l).length : Int) = lettersOf l
  | [], _ => rfl
  | e :: l, h => by
    have he := edgesErr_all h e (List.mem_cons_self ..)
    obtain ⟨_, _, _, h1, h2⟩ := edgeErr_ok he
    have hl : edgesErr l = 0 := by simpa [edgesErr, he] using h
    simp only [stepsOf, List.length_append, edgeSteps, repSteps_len, lettersOf, Int.natCast_add, Int.natCast_mul, stepsOf_len hl]
    rw [Int.toNat_of_nonneg (by omega), Int.mul_comm]
theorem edgesErr_pre {a b : List Ed} (h : edgesErr (a ++ b) = 0) : edgesErr a = 0 := by
  induction a with
  | nil => rfl
  | cons e a ih =>
    simp only [List.cons_append, edgesErr] at h ⊢
    by_cases he : edgeErr e = 0
    · simp only [he, if_true] at h ⊢; exact ih h
    · simp [he] at h
theorem edgesErr_of : ∀ {l : List Ed}, (∀ e ∈ l, edgeErr e = 0) → edgesErr l = 0
  | [], _ => rfl
  | e :: l, h => by
    simp only [edgesErr, h e (List.mem_cons_self ..), if_true]
    exact edgesErr_of fun x hx => h x (List.mem_cons_of_mem _ hx)
theorem letters_le {l : List Ed} (h : edgesErr l = 0) (k : Nat) : lettersOf (l.take k) ≤ lettersOf l := by
  have h1 : l.take k ++ l.drop k = l := List.take_append_drop k l
  have h2 : lettersOf l = lettersOf (l.take k) + lettersOf (l.drop k) := by rw [← lettersOf_app, h1]
  have h3 : edgesErr (l.drop k) = 0 := edgesErr_of fun e he => edgesErr_all h e (List.mem_of_mem_drop he)
  have := (letters_bd h3).1
  omega

def stepK (right : Bool) (k : Kn) (s : Sp) : Kn :=
  if s.c = 78 then ⟨k.x, k.y + 2⟩ else if s.c = 66 then ⟨k.x + (if s.o = right then 1 else -1), k.y + 1⟩ else ⟨k.x + 2 * (if s.o = right then 1 else -1), k.y⟩
def walkOf (right : Bool) : Kn → List Sp → List Kn
  | k, [] => [k]
  | k, s :: l => k :: walkOf right (stepK right k s) l
def lastOf (right : Bool) (k : Kn) (l : List Sp) : Kn := l.foldl (stepK right) k
theorem walkOf_snoc (right : Bool) : ∀ (k : Kn) (l : List Sp) (s : Sp), walkOf right k (l ++ [s]) = walkOf right k l ++ [stepK right (lastOf right k l) s]
  | k, [], s => rfl
  | k, a :: l, s => by simp only [List.cons_append, walkOf, walkOf_snoc right _ l s, lastOf, List.foldl_cons]
theorem walkOf_len (right : Bool) : ∀ (k : Kn) (l : List Sp), (walkOf right k l).length = l.length + 1
  | k, [] => rfl
  | k, a :: l => by simp only [walkOf, List.length_cons, walkOf_len right _ l]
theorem lastOf_snoc (right : Bool) (k : Kn) (l : List Sp) (s : Sp) : lastOf right k (l ++ [s]) = stepK right (lastOf right k l) s := by
  unfold lastOf; rw [List.foldl_append]; rfl
theorem stepK_bd (right : Bool) (k : Kn) (s : Sp) : k.x - 2 ≤ (stepK right k s).x ∧ (stepK right k s).x ≤ k.x + 2 ∧ (stepK right k s).y = k.y + up1 s := by
  unfold stepK up1
  by_cases h1 : s.c = 78
  · refine ⟨?_, ?_, ?_⟩ <;> simp [h1] <;> omega
  · by_cases h2 : s.c = 66 <;> by_cases h3 : s.o = right <;> simp [h1, h2, h3] <;> omega
theorem lastOf_bd (right : Bool) : ∀ (l : List Sp) (k : Kn), k.x - 2 * l.length ≤ (lastOf right k l).x ∧ (lastOf right k l).x ≤ k.x + 2 * l.length ∧ (lastOf right k l).y = k.y + riseOf l
  | [], k => by simp [lastOf, riseOf]
  | s :: l, k => by
    have h1 := stepK_bd right k s
    have h2 := lastOf_bd right l (stepK right k s)
    simp only [lastOf, List.foldl_cons, riseOf, List.length_cons] at h2 ⊢
    simp only [Int.natCast_add]
    omega
structure Pn where
  name : List Nat
  width : Int
  left : List Ed
  right : List Ed
def outlineOf (p : Pn) (right : Bool) : List Kn :=
  if right then walkOf true ⟨2 * p.width, 0⟩ (stepsOf p.right) else walkOf false ⟨0, 0⟩ (stepsOf p.left)
def heightOf (p : Pn) : Int := riseOf (stepsOf p.left)

def inRow (l : List Kn) (i : Nat) (row : Int) : Prop := (l.getD i ⟨0, 0⟩).y = row ∨ (0 < i ∧ (l.getD (i - 1) ⟨0, 0⟩).y < row ∧ row < (l.getD i ⟨0, 0⟩).y)
instance (l : List Kn) (i : Nat) (row : Int) : Decidable (inRow l i row) := by unfold inRow; infer_instance
def reachTo (l : List Kn) (row : Int) : Nat → Int × Int
  | 0 => (999999999, -999999999)
  | i + 1 => if inRow l i row then (min (reachTo l row i).1 (l.getD i ⟨0, 0⟩).x, max (reachTo l row i).2 (l.getD i ⟨0, 0⟩).x) else reachTo l row i
def reachOf (l : List Kn) (row : Int) : Int × Int := reachTo l row l.length
def crossAt (left right : List Kn) (row : Int) : Prop := (reachOf right row).1 - (reachOf left row).2 < 2
instance (l r : List Kn) (row : Int) : Decidable (crossAt l r row) := by unfold crossAt; infer_instance
def crossTo (left right : List Kn) : Nat → Bool
  | 0 => false
  | n + 1 => crossTo left right n || decide (crossAt left right n)
theorem crossTo_mono {l r : List Kn} {k : Nat} : ∀ {n : Nat}, k ≤ n → crossTo l r k = true → crossTo l r n = true
  | 0, h, hk => by rw [show k = 0 by omega] at hk; exact hk
  | n + 1, h, hk => by
    by_cases e : k = n + 1
    · rw [← e]; exact hk
    · simp only [crossTo, crossTo_mono (n := n) (by omega) hk, Bool.true_or]
def farK (k : Kn) : Bool := decide (k.x < -4096 ∨ k.x > 4096)

def panelErr (p : Pn) : Int :=
  if nameOk p.name = false then 8
  else if firstErr [rangeErr p.width 1 128, sideErr p.left, sideErr p.right] ≠ 0 then firstErr [rangeErr p.width 1 128, sideErr p.left, sideErr p.right]
  else if heightOf p ≠ riseOf (stepsOf p.right) then 2
  else if heightOf p = 0 then 12
  else if 256 < heightOf p then 4
  else if (outlineOf p false ++ outlineOf p true).any farK then 4
  else if crossTo (outlineOf p false) (outlineOf p true) (heightOf p + 1).toNat then 16
  else 0
end Go.Proofs.YtndlfkibcelhmaaGreatDoor.Ai
end
section
namespace Go.Proofs.YtndlfkibcelhmaaGreatDoor.Ai
open Go
set_option linter.all false

theorem repSteps_get (w : List Nat) (o : Bool) : ∀ (N n k : Nat), n < N → (hk : k < w.length) → (repSteps N w o)[n * w.length + k]? = some ⟨w[k], o⟩
  | 0, n, k, h, _ => absurd h (Nat.not_lt_zero n)
  | N + 1, n, k, h, hk => by
    simp only [repSteps]
    by_cases e : n < N
    · have h1 : n * w.length + k < (repSteps N w o).length := by
        rw [repSteps_len]
        have : (n + 1) * w.length ≤ N * w.length := Nat.mul_le_mul_right _ e
        rw [Nat.add_mul, Nat.one_mul] at this; omega
      rw [List.getElem?_append_left h1]
      exact repSteps_get w o N n k e hk
    · have : n = N := by omega
      subst this
      rw [List.getElem?_append_right (by rw [repSteps_len]; omega), repSteps_len, show n * w.length + k - n * w.length = k by omega]
      simp [wordSteps, hk]
theorem steps_get {es : List Ed} {i n k : Nat} (hi : i < es.length) (hn : n < es[i].t.toNat) (hk : k < es[i].w.length) :
    (stepsOf es)[(stepsOf (es.take i)).length + n * es[i].w.length + k]? = some ⟨es[i].w[k], es[i].o⟩ := by
  have h1 : es = es.take i ++ (es[i] :: es.drop (i + 1)) := by
    rw [← List.drop_eq_getElem_cons hi, List.take_append_drop]
  have h2 : stepsOf es = stepsOf (es.take i) ++ (edgeSteps es[i] ++ stepsOf (es.drop (i + 1))) := by
    conv => lhs; rw [h1]
    rw [stepsOf_app]; rfl
  rw [h2, List.getElem?_append_right (by omega), show (stepsOf (es.take i)).length + n * es[i].w.length + k - (stepsOf (es.take i)).length = n * es[i].w.length + k by omega]
  have h3 : n * es[i].w.length + k < (edgeSteps es[i]).length := by
    unfold edgeSteps
    rw [repSteps_len]
    have : (n + 1) * es[i].w.length ≤ es[i].t.toNat * es[i].w.length := Nat.mul_le_mul_right _ hn
    rw [Nat.add_mul, Nat.one_mul] at this; omega
  rw [List.getElem?_append_left h3]
  exact repSteps_get _ _ _ n k hn hk
end Go.Proofs.YtndlfkibcelhmaaGreatDoor.Ai
end
section
namespace Go.Proofs.YtndlfkibcelhmaaGreatDoor.Ai
open Go
set_option linter.all false

structure St where
  l0 : Int
  l1 : Int
  u0 : Int
  u1 : Int
  deriving DecidableEq
def k0 : Kn := ⟨0, 0⟩
def hitAt (l : List Kn) (y : Int) (i : Nat) : Prop := (l.getD i ⟨0, 0⟩).y ≤ y ∧ y < (l.getD (i + 1) ⟨0, 0⟩).y
instance (l : List Kn) (y : Int) (i : Nat) : Decidable (hitAt l y i) := by unfold hitAt; infer_instance
def placeAt (l : List Kn) (i : Nat) : Kn :=
  if (l.getD (i + 1) ⟨0, 0⟩).y = (l.getD i ⟨0, 0⟩).y + 1 then ⟨(l.getD i ⟨0, 0⟩).x, (l.getD (i + 1) ⟨0, 0⟩).x⟩ else ⟨(l.getD (i + 1) ⟨0, 0⟩).x, (l.getD (i + 1) ⟨0, 0⟩).x⟩
def placeTo (l : List Kn) (y : Int) : Nat → Kn
  | 0 => ⟨0, 0⟩
  | n + 1 => if hitAt l y n then placeAt l n else placeTo l y n
def placesOf (l : List Kn) (y : Int) : Kn := placeTo l y (l.length - 1)
end Go.Proofs.YtndlfkibcelhmaaGreatDoor.Ai
end
section
namespace Go.Proofs.YtndlfkibcelhmaaGreatDoor.Ai
open Go
set_option maxRecDepth 10000
set_option maxHeartbeats 4000000
set_option linter.all false
set_option pp.maxSteps 1200

theorem checkRange_cl {fl : Nat} {h : AH} (n lo hi : Int) :
    Cl T fl 38 [.int .i64 n, .int .i64 lo, .int .i64 hi] h fun r h' => r = .int .i64 (rangeErr n lo hi) ∧ h = h' := by
  refine Cl.code (fn := F38) rfl rfl ?_
  simp only [F38]
  (simp (maxSteps := 10000000) (disch := first | omega | (simp only [AH.push_n, AH.set_n]; first | done | omega)) only [go_sem, reduceCtorEq, Nat.reduceEqDiff, Nat.reduceAdd]); repeat' (refine condS_pick (fun b hb => ?_); rw [hb]; (cases b <;> simp only [decide_eq_true_eq, decide_eq_false_iff_not] at hb) <;> first | (exfalso; omega) | simp (maxSteps := 10000000) (disch := first | omega | (simp only [AH.push_n, AH.set_n]; first | done | omega)) only [go_sem, reduceCtorEq, Nat.reduceEqDiff])
  all_goals (unfold rangeErr; split <;> omega)

theorem isName_cl {fl : Nat} {h : AH} (s : List Nat) (hs : s.length < 1000000000000000) :
    Cl T fl 91 [.str s] h fun r h' => r = .bool (nameOk s) ∧ h = h' := by
  refine Cl.code (fn := F91) rfl rfl ?_
  simp only [F91]
  by_cases h0 : s.length = 0
  · have : nameOk s = false := decide_eq_false (by omega)
    simp only [go_sem, reduceCtorEq, Nat.reduceEqDiff, h0, this, Int.natCast_zero]
  by_cases h1 : 24 < s.length
  · have : nameOk s = false := decide_eq_false (by omega)
    have e1 : ¬ ((s.length : Int) = 0) := by omega
    have e2 : (24 : Int) < s.length := by omega
    simp only [go_sem, reduceCtorEq, Nat.reduceEqDiff, e1, e2, this]
  have e1 : ¬ ((s.length : Int) = 0) := by omega
  have e2 : ¬ (24 : Int) < s.length := by omega
  simp only [go_sem, reduceCtorEq, Nat.reduceEqDiff, e1, e2]
  refine wS_loop (fun m ts h' => ∃ k, k ≤ s.length ∧ m = s.length - k ∧ h' = h ∧ tg ts 0 = .str s ∧ tg ts 3 = .int .i64 k ∧ ∀ (i : Nat) (hi : i < s.length), i < k → nameC i s[i]) s.length ⟨0, by omega, by omega, rfl, by simp, by simp, fun i _ hi => by omega⟩ ?_
  rintro m ts h' ⟨k, hk, rfl, rfl, t0, t3, hall⟩
  simp only [go_sem, reduceCtorEq, Nat.reduceEqDiff, t0, t3]
  refine condS_dec (fun hlt => ?_) (fun hge => ?_)
  · have hno : ¬ nameC k s[k] → nameOk s = false := fun hc => nameOk_false (by omega) hc
    have hyes : nameC k s[k] → ∃ j, j < s.length - k ∧ ∃ k1, k1 ≤ s.length ∧ j = s.length - k1 ∧ (k : Int) + 1 = k1 ∧ ∀ (i : Nat) (hi : i < s.length), i < k1 → nameC i s[i] := fun hc =>
      ⟨s.length - (k + 1), by omega, k + 1, by omega, rfl, by omega, fun i hi hik => by
        by_cases he : i = k
        · subst he; exact hc
        · exact hall i hi (by omega)⟩
    have hk2 : s[k]? = some s[k] := List.getElem?_eq_getElem (by omega)
    clear hall e1 e2 h0 h1
    (simp (maxSteps := 10000000) (disch := first | omega | (simp only [AH.push_n, AH.set_n]; first | done | omega)) only [go_sem, reduceCtorEq, Nat.reduceEqDiff, t0, t3, hk2]); repeat' (refine condS_pick (fun b hb => ?_); rw [hb]; (cases b <;> simp only [decide_eq_true_eq, decide_eq_false_iff_not] at hb) <;> first | (exfalso; omega) | simp (maxSteps := 10000000) (disch := first | omega | (simp only [AH.push_n, AH.set_n]; first | done | omega)) only [go_sem, reduceCtorEq, Nat.reduceEqDiff, t0, t3, wrapK_i64])
    all_goals first
      | exact hyes (by unfold nameC; omega)
      | exact (hno (by unfold nameC; omega)).symm
  · have : k = s.length := by omega
    subst this
    simp only [go_sem]
    exact (decide_eq_true ⟨h0, by omega, fun i hi => hall i hi hi⟩).symm
end Go.Proofs.YtndlfkibcelhmaaGreatDoor.Ai
end
section
namespace Go.Proofs.YtndlfkibcelhmaaGreatDoor.Ai
open Go
set_option maxRecDepth 10000
set_option maxHeartbeats 4000000
set_option linter.all false
set_option pp.maxSteps 1200

theorem first_cl {fl : Nat} {h : AH} {v : AVal} {l : List Int} (hv : Vw IntE h v l) (hb : l.length < 1000000) :
    Cl T fl 92 [v] h fun r h' => r = .int .i64 (firstErr l) ∧ h = h' := by
  refine Cl.code (fn := F92) rfl rfl ?_
  simp only [F92]
  simp (maxSteps := 10000000) (disch := first | omega | (simp only [AH.push_n, AH.set_n]; first | done | omega)) only [go_sem]
  refine wS_loop (fun m ts h' => ∃ k, k ≤ l.length ∧ m = l.length - k ∧ h' = h ∧ tg ts 0 = v ∧ tg ts 3 = .int .i64 k ∧ ∀ (i : Nat) (h : i < l.length), i < k → l[i] = 0) l.length ⟨0, by omega, by omega, rfl, by simp, by simp, fun i _ hi => by omega⟩ ?_
  rintro m ts h' ⟨k, hk, rfl, rfl, t0, t3, hall⟩
  by_cases hlt : k < l.length
  · obtain ⟨id, off, vs, rfl, hid, hc, r0, r1⟩ := hv.int hlt
    have e1 : (k : Int) < l.length := by omega
    have hk2 := firstErr_at hlt hall
    (simp (maxSteps := 10000000) (disch := first | omega | (simp only [AH.push_n, AH.set_n]; first | done | omega)) only [go_sem, reduceCtorEq, Nat.reduceEqDiff, t0, t3, e1, hlt, hc, r0]); repeat' (refine condS_pick (fun b hb => ?_); rw [hb]; (cases b <;> simp only [decide_eq_true_eq, decide_eq_false_iff_not] at hb) <;> first | (exfalso; omega) | simp (maxSteps := 10000000) (disch := first | omega | (simp only [AH.push_n, AH.set_n]; first | done | omega)) only [go_sem, reduceCtorEq, Nat.reduceEqDiff, t0, t3, hlt, hc, r0])
    · exact (hk2 hb).symm
    · exact ⟨_, by omega, k + 1, by omega, rfl, by omega, fun i hi hik => by
        by_cases he : i = k
        · subst he; exact hb
        · exact hall i hi (by omega)⟩
  · have : k = l.length := by omega
    subst this
    have e1 : ¬ (l.length : Int) < l.length := by omega
    simp (maxSteps := 10000000) (disch := first | omega | (simp only [AH.push_n, AH.set_n]; first | done | omega)) only [go_sem, reduceCtorEq, Nat.reduceEqDiff, t0, t3, hv.len, e1]
    rw [firstErr_none fun i hi => hall i hi hi]

theorem refCheckEdge_cl {fl : Nat} {h : AH} (e : Ed) (hf : fl ≤ h.n) (hb : e.w.length < 1000000000000000) :
    Cl T fl 57 [.agg [.str e.w, .int .i64 e.t, .bool e.o]] h fun r h' => r = .int .i64 (edgeErr e) ∧ Keep h h' := by
  refine Cl.code (fn := F57) rfl rfl ?_
  simp only [F57]
  by_cases h0 : e.w = []
  · have : edgeErr e = 12 := by unfold edgeErr; rw [if_pos h0]
    simp (maxSteps := 10000000) (disch := first | omega | (simp only [AH.push_n, AH.set_n]; first | done | omega)) only [go_sem, Nat.reduceEqDiff, h0, this]
    exact (Keep.refl h).push _
  by_cases h1 : 64 < e.w.length
  · have : edgeErr e = 26 := by unfold edgeErr; rw [if_neg h0, if_pos h1]
    have e1 : (64 : Int) < e.w.length := by omega
    simp (maxSteps := 10000000) (disch := first | omega | (simp only [AH.push_n, AH.set_n]; first | done | omega)) only [go_sem, Nat.reduceEqDiff, h0, e1, this]
    exact (Keep.refl h).push _
  have e1 : ¬ (64 : Int) < e.w.length := by omega
  simp (maxSteps := 10000000) (disch := first | omega | (simp only [AH.push_n, AH.set_n]; first | done | omega)) only [go_sem, Nat.reduceEqDiff, h0, e1]
  refine wS_loop (fun m ts h' => ∃ k, k ≤ e.w.length ∧ m = e.w.length - k ∧ h' = h.push (.cells [.str e.w, .int .i64 e.t, .bool e.o]) ∧ tg ts 1 = .ptr h.n 0 ∧ tg ts 3 = .int .i64 k ∧ ∀ (i : Nat) (h : i < e.w.length), i < k → letterC e.w[i]) e.w.length ⟨0, by omega, by omega, rfl, by simp, by simp, fun i _ hi => by omega⟩ ?_
  rintro m ts h' ⟨k, hk, rfl, rfl, t1, t3, hall⟩
  by_cases hlt : k < e.w.length
  · have e2 : (k : Int) < e.w.length := by omega
    have hk2 : e.w[k]? = some e.w[k] := List.getElem?_eq_getElem hlt
    (simp (maxSteps := 10000000) (disch := first | omega | (simp only [AH.push_n, AH.set_n]; first | done | omega)) only [go_sem, Nat.reduceEqDiff, t1, t3, e2, hk2]); repeat' (refine condS_pick (fun b hb => ?_); rw [hb]; (cases b <;> simp only [decide_eq_true_eq, decide_eq_false_iff_not] at hb) <;> first | (exfalso; omega) | simp (maxSteps := 10000000) (disch := first | omega | (simp only [AH.push_n, AH.set_n]; first | done | omega)) only [go_sem, Nat.reduceEqDiff, t1, t3, hk2])
    · have : edgeErr e = 1 := by
        unfold edgeErr; rw [if_neg h0, if_neg h1, if_neg]
        intro hx; have := hx _ (List.getElem_mem hlt); unfold letterC at this; omega
      exact ⟨this.symm, (Keep.refl h).push _⟩
    all_goals
      refine ⟨_, ?_, k + 1, by omega, rfl, by omega, fun i hi hik => ?_⟩
      · omega
      · by_cases he : i = k
        · subst he; unfold letterC; omega
        · exact hall i hi (by omega)
  · have : k = e.w.length := by omega
    subst this
    have e2 : ¬ (e.w.length : Int) < e.w.length := by omega
    simp (maxSteps := 10000000) (disch := first | omega | (simp only [AH.push_n, AH.set_n]; first | done | omega)) only [go_sem, Nat.reduceEqDiff, t1, t3, e2]
    refine ClS.by (checkRange_cl e.t 1 64) ?_
    rintro r h1 ⟨rfl, rfl⟩
    simp (maxSteps := 10000000) (disch := first | omega | (simp only [AH.push_n, AH.set_n]; first | done | omega)) only [go_sem]
    refine ⟨?_, (Keep.refl h).push _⟩
    unfold edgeErr
    rw [if_neg h0, if_neg h1, if_pos]
    intro c hc
    obtain ⟨i, hi, rfl⟩ := List.mem_iff_getElem.1 hc
    exact hall i hi hi

theorem refCheckSide_cl {fl : Nat} {h : AH} {v : AVal} {l : List Ed} (hf : fl ≤ h.n) (hv : Vw EdE h v l) (hw : ∀ e ∈ l, e.w.length < 1000000000000000) :
    Cl T fl 93 [v] h fun r h' => r = .int .i64 (sideErr l) ∧ Keep h h' := by
  refine Cl.code (fn := F93) rfl rfl ?_
  simp only [F93]
  by_cases h1 : 64 < l.length
  · have : sideErr l = 5 := by unfold sideErr; rw [if_pos h1]
    have e1 : (64 : Int) < l.length := by omega
    simp (maxSteps := 10000000) (disch := first | omega | (simp only [AH.push_n, AH.set_n]; first | done | omega)) only [go_sem, reduceCtorEq, hv.len, e1, this]
    exact Keep.refl h
  have e1 : ¬ (64 : Int) < l.length := by omega
  simp (maxSteps := 10000000) (disch := first | omega | (simp only [AH.push_n, AH.set_n]; first | done | omega)) only [go_sem, reduceCtorEq, hv.len, e1]
  refine wS_loop (fun m ts h' => ∃ k, k ≤ l.length ∧ m = l.length - k ∧ Keep h h' ∧ tg ts 0 = v ∧ tg ts 3 = .int .i64 (lettersOf (l.take k)) ∧ tg ts 4 = .int .i64 k ∧ edgesErr (l.take k) = 0) l.length ⟨0, by omega, by omega, Keep.refl h, by simp, by simp [lettersOf], by simp, rfl⟩ ?_
  rintro m ts h' ⟨k, hk, rfl, hkp, t0, t3, t4, hz⟩
  have hbd := letters_bd hz
  rw [List.length_take] at hbd
  by_cases hlt : k < l.length
  · have e2 : (k : Int) < l.length := by omega
    have hv' := hv.keep hkp
    obtain ⟨id, off, vs, rfl, hid, hc, r0, r1, r2, r3⟩ := hv'.ed hlt
    simp (maxSteps := 10000000) (disch := first | omega | (simp only [AH.push_n, AH.set_n]; first | done | omega)) only [go_sem, reduceCtorEq, Nat.reduceEqDiff, t0, t4, hv'.len, e2, hlt, hc, r3]
    refine ClS.by (refCheckEdge_cl l[k] (Nat.le_trans hf hkp.n) (hw _ (List.getElem_mem hlt))) ?_
    rintro r h2 ⟨rfl, hk2⟩
    have hc2 : h2.cells id = some vs := (hk2.cells hid).trans hc
    by_cases he : edgeErr l[k] = 0
    · have hbk := edge_bd he
      have hmul : wrapK .i64 ((l[k].w.length : Int) * l[k].t) = (l[k].w.length : Int) * l[k].t := wrapK_i64 (by omega) (by omega)
      have hst := lettersOf_take hlt
      have hadd : wrapK .i64 (lettersOf (l.take k) + (l[k].w.length : Int) * l[k].t) = lettersOf (l.take (k + 1)) := by rw [hst]; exact wrapK_i64 (by omega) (by omega)
      simp (maxSteps := 10000000) (disch := first | omega | (simp only [AH.push_n, AH.set_n]; first | done | omega)) only [go_sem, reduceCtorEq, Nat.reduceEqDiff, t0, t3, t4, hlt, hc2, r0, r1, he, hmul, hadd]
      refine ⟨_, ?_, k + 1, by omega, rfl, hkp.trans hk2, rfl, by omega, ?_⟩
      · omega
      · rw [edgesErr_take hlt, if_pos hz]; exact he
    · simp (maxSteps := 10000000) (disch := first | omega | (simp only [AH.push_n, AH.set_n]; first | done | omega)) only [go_sem, Nat.reduceEqDiff, he]
      refine ⟨?_, hkp.trans hk2⟩
      have h5 := edgesErr_first hlt hz he
      unfold sideErr
      rw [if_neg h1, h5, if_pos he]
  · have : k = l.length := by omega
    subst this
    have e2 : ¬ (l.length : Int) < l.length := by omega
    rw [List.take_length] at t3 hz
    have hv' := hv.keep hkp
    by_cases h5 : 512 < lettersOf l
    · have : sideErr l = 5 := by unfold sideErr; rw [if_neg h1, if_neg (by omega), if_pos h5]
      simp (maxSteps := 10000000) (disch := first | omega | (simp only [AH.push_n, AH.set_n]; first | done | omega)) only [go_sem, reduceCtorEq, Nat.reduceEqDiff, t0, t3, t4, hv'.len, e2, h5, this]
      exact hkp
    · have : sideErr l = 0 := by unfold sideErr; rw [if_neg h1, if_neg (by omega), if_neg h5]
      simp (maxSteps := 10000000) (disch := first | omega | (simp only [AH.push_n, AH.set_n]; first | done | omega)) only [go_sem, reduceCtorEq, Nat.reduceEqDiff, t0, t3, t4, hv'.len, e2, h5, this]
      exact hkp
end Go.Proofs.YtndlfkibcelhmaaGreatDoor.Ai
end
section
namespace Go.Proofs.YtndlfkibcelhmaaGreatDoor.Ai
open Go
set_option maxRecDepth 10000
set_option maxHeartbeats 4000000
set_option linter.all false
set_option pp.maxSteps 1200

def whenErr (b : Bool) (e : Int) : Int := if b then e else 0
theorem pFirst_cl {fl : Nat} {h : AH} {v : AVal} {l : List Int} (hv : Vw IntE h v l) (hb : l.length < 1000000) :
    Cl T fl 105 [v] h fun r h' => r = .int .i64 (firstErr l) ∧ h = h' := by
  refine Cl.code (fn := F105) rfl rfl ?_
  simp only [F105]
  simp (maxSteps := 10000000) (disch := first | omega | (simp only [AH.push_n, AH.set_n]; first | done | omega)) only [go_sem, reduceCtorEq, hv.len]
  refine wS_loop (fun m ts h' => ∃ k, k ≤ l.length ∧ m = l.length - k ∧ h' = h ∧ tg ts 5 = v ∧ tg ts 6 = .int .i64 l.length ∧ tg ts 7 = .int .i64 k ∧ ∀ (i : Nat) (h : i < l.length), i < k → l[i] = 0) l.length ⟨0, by omega, by omega, rfl, by simp, by simp, by simp, fun i _ hi => by omega⟩ ?_
  rintro m ts h' ⟨k, hk, rfl, rfl, t5, t6, t7, hall⟩
  by_cases hlt : k < l.length
  · obtain ⟨id, off, vs, rfl, hid, hc, r0, r1⟩ := hv.int hlt
    have e1 : (k : Int) < l.length := by omega
    have hk2 := firstErr_at hlt hall
    (simp (maxSteps := 10000000) (disch := first | omega | (simp only [AH.push_n, AH.set_n]; first | done | omega)) only [go_sem, Nat.reduceEqDiff, t5, t6, t7, e1, hlt, hc, r0]); repeat' (refine condS_pick (fun b hb => ?_); rw [hb]; (cases b <;> simp only [decide_eq_true_eq, decide_eq_false_iff_not] at hb) <;> first | (exfalso; omega) | simp (maxSteps := 10000000) (disch := first | omega | (simp only [AH.push_n, AH.set_n]; first | done | omega)) only [go_sem, Nat.reduceEqDiff, t5, t6, t7])
    · exact (hk2 hb).symm
    · exact ⟨_, by omega, k + 1, by omega, rfl, by omega, fun i hi hik => by
        by_cases he : i = k
        · subst he; exact hb
        · exact hall i hi (by omega)⟩
  · have : k = l.length := by omega
    subst this
    have e1 : ¬ (l.length : Int) < l.length := by omega
    simp (maxSteps := 10000000) (disch := first | omega | (simp only [AH.push_n, AH.set_n]; first | done | omega)) only [go_sem, t6, t7, e1]
    rw [firstErr_none fun i hi => hall i hi hi]

theorem pWhen_cl {fl : Nat} {h : AH} (b : Bool) (e : Int) :
    Cl T fl 133 [.bool b, .int .i64 e] h fun r h' => r = .int .i64 (whenErr b e) ∧ h = h' := by
  refine Cl.code (fn := F133) rfl rfl ?_
  simp only [F133]
  cases b <;> (simp (maxSteps := 10000000) (disch := first | omega | (simp only [AH.push_n, AH.set_n]; first | done | omega)) only [go_sem, reduceCtorEq, Nat.reduceEqDiff, Nat.reduceAdd]; rfl)

theorem pWithin_cl {fl : Nat} {h : AH} (n lo hi : Int) :
    Cl T fl 109 [.int .i64 n, .int .i64 lo, .int .i64 hi] h fun r h' => r = .int .i64 (rangeErr n lo hi) ∧ h = h' := by
  refine Cl.code (fn := F109) rfl rfl ?_
  simp only [F109]
  by_cases h1 : n < lo
  · simp (maxSteps := 10000000) (disch := first | omega | (simp only [AH.push_n, AH.set_n]; first | done | omega)) only [go_sem, reduceCtorEq, Nat.reduceEqDiff, Nat.reduceAdd, h1]
    refine ClS.by (pWhen_cl true 3) ?_
    rintro r h' ⟨rfl, rfl⟩
    simp (maxSteps := 10000000) (disch := first | omega | (simp only [AH.push_n, AH.set_n]; first | done | omega)) only [go_sem]
    unfold rangeErr whenErr; simp [h1]
  · by_cases h2 : hi < n
    · simp (maxSteps := 10000000) (disch := first | omega | (simp only [AH.push_n, AH.set_n]; first | done | omega)) only [go_sem, reduceCtorEq, Nat.reduceEqDiff, Nat.reduceAdd, h1, h2]
      refine ClS.by (pWhen_cl true 3) ?_
      rintro r h' ⟨rfl, rfl⟩
      simp (maxSteps := 10000000) (disch := first | omega | (simp only [AH.push_n, AH.set_n]; first | done | omega)) only [go_sem]
      unfold rangeErr whenErr; simp [h1, h2]
    · simp (maxSteps := 10000000) (disch := first | omega | (simp only [AH.push_n, AH.set_n]; first | done | omega)) only [go_sem, reduceCtorEq, Nat.reduceEqDiff, Nat.reduceAdd, h1, h2]
      refine ClS.by (pWhen_cl false 3) ?_
      rintro r h' ⟨rfl, rfl⟩
      simp (maxSteps := 10000000) (disch := first | omega | (simp only [AH.push_n, AH.set_n]; first | done | omega)) only [go_sem]
      unfold rangeErr whenErr; simp [h1, h2]

theorem far_cl {fl : Nat} {h : AH} (k : Kn) :
    Cl T fl 138 [.agg [.int .i64 k.x, .int .i64 k.y]] h fun r h' => r = .bool (farK k) ∧ Keep h h' := by
  refine Cl.code (fn := F138) rfl rfl ?_
  simp only [F138]
  (simp (maxSteps := 10000000) (disch := first | omega | (simp only [AH.push_n, AH.set_n]; first | done | omega)) only [go_sem, Nat.reduceEqDiff, Int.reduceNeg]); repeat' (refine condS_pick (fun b hb => ?_); rw [hb]; (cases b <;> simp only [decide_eq_true_eq, decide_eq_false_iff_not] at hb) <;> first | (exfalso; omega) | simp (maxSteps := 10000000) (disch := first | omega | (simp only [AH.push_n, AH.set_n]; first | done | omega)) only [go_sem, Nat.reduceEqDiff])
  · by_cases h2 : 4096 < k.x
    · refine ⟨?_, (Keep.refl h).push _⟩
      unfold farK; simp [h2]
    · refine ⟨?_, (Keep.refl h).push _⟩
      unfold farK; simp [hb, h2]
  · refine ⟨?_, (Keep.refl h).push _⟩
    unfold farK; simp [hb]

theorem top_cl {fl : Nat} {h : AH} {v : AVal} {l : List Kn} (hf : fl ≤ h.n) (hv : Vw KnE h v l) (hl : 0 < l.length) (hb : l.length < 1000000) :
    Cl T fl 136 [v] h fun r h' => r = .agg [.int .i64 (l.getD (l.length - 1) ⟨0, 0⟩).x, .int .i64 (l.getD (l.length - 1) ⟨0, 0⟩).y] ∧ Keep h h' := by
  refine Cl.code (fn := F136) rfl rfl ?_
  simp only [F136]
  have hlt : l.length - 1 < l.length := by omega
  obtain ⟨id, off, vs, rfl, hid, hc, r0, r1, r2⟩ := hv.kn hlt
  have e1 : ((l.length : Int) - 1).toNat = l.length - 1 := by omega
  simp (maxSteps := 10000000) (disch := first | omega | (simp only [AH.push_n, AH.set_n]; first | done | omega)) only [go_sem, reduceCtorEq, Nat.reduceEqDiff, Nat.reduceAdd, e1, hlt, hc, r2]
  refine ⟨?_, ((Keep.refl h).push _).set (Nat.le_refl _) _⟩
  rw [List.getD_eq_getElem?_getD, List.getElem?_eq_getElem hlt]; exact ⟨rfl, rfl⟩

theorem pIsName_cl {fl : Nat} {h : AH} (hf : fl ≤ h.n) (s : List Nat) (hs : s.length < 1000000000000000) :
    Cl T fl 134 [.str s] h fun r h' => r = .bool (nameOk s) ∧ Keep h h' := by
  refine Cl.code (fn := F134) rfl rfl ?_
  simp only [F134]
  by_cases h0 : s.length = 0
  · have : nameOk s = false := decide_eq_false (by omega)
    simp (maxSteps := 10000000) (disch := first | omega | (simp only [AH.push_n, AH.set_n]; first | done | omega)) only [go_sem, reduceCtorEq, Nat.reduceEqDiff, h0, this, Int.natCast_zero]
    exact Keep.refl h
  by_cases h1 : 24 < s.length
  · have : nameOk s = false := decide_eq_false (by omega)
    have e1 : ¬ ((s.length : Int) = 0) := by omega
    have e2 : (24 : Int) < s.length := by omega
    simp (maxSteps := 10000000) (disch := first | omega | (simp only [AH.push_n, AH.set_n]; first | done | omega)) only [go_sem, reduceCtorEq, Nat.reduceEqDiff, e1, e2, this]
    exact Keep.refl h
  have e1 : ¬ ((s.length : Int) = 0) := by omega
  have e2 : ¬ (24 : Int) < s.length := by omega
  simp (maxSteps := 10000000) (disch := first | omega | (simp only [AH.push_n, AH.set_n]; first | done | omega)) only [go_sem, reduceCtorEq, Nat.reduceEqDiff, e1, e2]
  refine wS_loop (fun m ts h' => ∃ k, k ≤ s.length ∧ m = s.length - k ∧ Keep h h' ∧ h.n < h'.n ∧ h'.get h.n = some (.siter s k) ∧ tg ts 15 = .ptr h.n 0 ∧ ∀ (i : Nat) (hi : i < s.length), i < k → nameC i s[i]) s.length
    ⟨0, by omega, by omega, (Keep.refl h).push _, by simp, AH.get_push_eq rfl, by simp, fun i _ hi => by omega⟩ ?_
  rintro m ts h' ⟨k, hk, rfl, hkp, hn, hg, t15, hall⟩
  by_cases hlt : k < s.length
  · have hdec : (s[k] < 128 ∧ decodeL s k = (s[k], 1)) ∨ (128 ≤ s[k] ∧ 128 ≤ (decodeL s k).1) := by
      by_cases hb : s[k] < 128
      · exact .inl ⟨hb, decodeL_ascii hlt hb⟩
      · exact .inr ⟨by omega, (decodeL_hi hlt (by omega)).1⟩
    have hno : ¬ nameC k s[k] → nameOk s = false := fun hc => nameOk_false hlt hc
    have hkk : Keep h (h'.set h.n (.siter s (k + (decodeL s k).2))) := hkp.set (Nat.le_refl _) _
    have hall2 : nameC k s[k] → ∀ (i : Nat) (hi : i < s.length), i < k + 1 → nameC i s[i] := fun hc i hi hik => by
      by_cases e : i = k
      · subst e; exact hc
      · exact hall i hi (by omega)
    clear hall
    rcases hdec with ⟨hb, hd⟩ | ⟨hb1, hb2⟩
    · rw [hd] at hkk
      (simp (maxSteps := 10000000) (disch := first | omega | (simp only [AH.push_n, AH.set_n]; first | done | omega)) only [go_sem, Nat.reduceEqDiff, t15, hg, hlt, hd]); repeat' (refine condS_pick (fun b hb => ?_); rw [hb]; (cases b <;> simp only [decide_eq_true_eq, decide_eq_false_iff_not] at hb) <;> first | (exfalso; omega) | simp (maxSteps := 10000000) (disch := first | omega | (simp only [AH.push_n, AH.set_n]; first | done | omega)) only [go_sem, Nat.reduceEqDiff, t15])
      all_goals first
        | exact ⟨(hno (by unfold nameC; omega)).symm, hkk⟩
        | exact ⟨_, by omega, k + 1, by omega, rfl, hkk, hn, rfl, hall2 (by unfold nameC; omega)⟩
    · obtain ⟨c, w, hd⟩ : ∃ c w, decodeL s k = (c, w) := ⟨_, _, rfl⟩
      rw [hd] at hb2 hkk
      dsimp only at hb2 hkk
      have q1 : (65 : Int) ≤ c := by omega
      have q2 : ¬ (c : Int) ≤ 90 := by omega
      have q3 : (97 : Int) ≤ c := by omega
      have q4 : ¬ (c : Int) ≤ 122 := by omega
      have q5 : ¬ (c : Int) = 95 := by omega
      have q6 : ¬ (c : Int) < 48 := by omega
      have q7 : (57 : Int) < c := by omega
      (simp (maxSteps := 10000000) (disch := first | omega | (simp only [AH.push_n, AH.set_n]; first | done | omega)) only [go_sem, Nat.reduceEqDiff, t15, hg, hlt, hd, q1, q2, q3, q4]); repeat' (refine condS_pick (fun b hb => ?_); rw [hb]; (cases b <;> simp only [decide_eq_true_eq, decide_eq_false_iff_not] at hb) <;> first | (exfalso; omega) | simp (maxSteps := 10000000) (disch := first | omega | (simp only [AH.push_n, AH.set_n]; first | done | omega)) only [go_sem, Nat.reduceEqDiff, q5, q6, q7])
      all_goals exact ⟨(hno (by unfold nameC; omega)).symm, hkk⟩
  · have : k = s.length := by omega
    subst this
    have e3 : ¬ s.length < s.length := by omega
    simp (maxSteps := 10000000) (disch := first | omega | (simp only [AH.push_n, AH.set_n]; first | done | omega)) only [go_sem, t15, hg, e3]
    exact ⟨(decide_eq_true ⟨h0, by omega, fun i hi => hall i hi hi⟩).symm, hkp⟩

theorem pCheckEdge_cl {fl : Nat} {h : AH} (e : Ed) (hf : fl ≤ h.n) (hb : e.w.length < 1000000000000000) :
    Cl T fl 56 [.agg [.str e.w, .int .i64 e.t, .bool e.o]] h fun r h' => r = .int .i64 (edgeErr e) ∧ Keep h h' := by
  refine Cl.code (fn := F56) rfl rfl ?_
  simp only [F56]
  simp (maxSteps := 10000000) (disch := first | omega | (simp only [AH.push_n, AH.set_n]; first | done | omega)) only [go_sem, Nat.reduceEqDiff]
  have hcell : ∀ h', Keep (h.push (.cells [.str e.w, .int .i64 e.t, .bool e.o])) h' → h'.cells h.n = some [.str e.w, .int .i64 e.t, .bool e.o] := fun h' hk => (hk.cells (by simp)).trans (AH.cells_push_eq rfl)
  refine wS_loop (fun m ts h' => ∃ p b, m = e.w.length - p ∧ Keep (h.push (.cells [.str e.w, .int .i64 e.t, .bool e.o])) h' ∧ h.n + 1 < h'.n ∧ h'.get (h.n + 1) = some (.siter e.w p) ∧ tg ts 1 = .ptr h.n 0 ∧ tg ts 3 = .bool b ∧ tg ts 8 = .ptr (h.n + 1) 0 ∧
    (b = false → p ≤ e.w.length ∧ ∀ (i : Nat) (h : i < e.w.length), i < p → letterC e.w[i]) ∧ (b = true → ¬ ∀ c ∈ e.w, letterC c)) e.w.length
    ⟨0, false, by omega, (Keep.refl _).push _, by simp, AH.get_push_eq (by simp), by simp, by simp, by simp, fun _ => ⟨by omega, fun i _ hi => by omega⟩, fun h => by cases h⟩ ?_
  rintro m ts h' ⟨p, b, rfl, hkp, hn, hg, t1, t3, t8, hF, hT⟩
  have hc := hcell h' hkp
  have hpn : (h.push (.cells [.str e.w, .int .i64 e.t, .bool e.o])).n = h.n + 1 := rfl
  by_cases hlt : p < e.w.length
  · have hkk : Keep (h.push (.cells [.str e.w, .int .i64 e.t, .bool e.o])) (h'.set (h.n + 1) (.siter e.w (p + (decodeL e.w p).2))) := hkp.set (by rw [hpn]; exact Nat.le_refl _) _
    have hw1 := decodeL_pos hlt
    have hmem : e.w[p] ∈ e.w := List.getElem_mem hlt
    have hdec : (e.w[p] < 128 ∧ decodeL e.w p = (e.w[p], 1)) ∨ (128 ≤ e.w[p] ∧ 128 ≤ (decodeL e.w p).1) := by
      by_cases hb : e.w[p] < 128
      · exact .inl ⟨hb, decodeL_ascii hlt hb⟩
      · exact .inr ⟨by omega, (decodeL_hi hlt (by omega)).1⟩
    obtain ⟨c, w, hd⟩ : ∃ c w, decodeL e.w p = (c, w) := ⟨_, _, rfl⟩
    rw [hd] at hkk hw1 hdec
    dsimp only at hkk hw1 hdec
    cases b with
    | true =>
      simp (maxSteps := 10000000) (disch := first | omega | (simp only [AH.push_n, AH.set_n]; first | done | omega)) only [go_sem, Nat.reduceEqDiff, t1, t3, t8, hg, hlt, hd]
      exact ⟨_, by omega, p + w, true, rfl, hkk, hn, rfl, rfl, by simp, fun _ => hT rfl⟩
    | false =>
      obtain ⟨_, hall⟩ := hF rfl
      have hbad : ¬ (c = 78 ∨ c = 66 ∨ c = 84) → ¬ ∀ c ∈ e.w, letterC c := fun hc hx => by
        have := hx _ hmem
        unfold letterC at this
        rcases hdec with ⟨_, h2⟩ | ⟨h1, _⟩
        · simp only [Prod.mk.injEq] at h2; omega
        · omega
      have hgood : (c = 78 ∨ c = 66 ∨ c = 84) → w = 1 ∧ ∀ (i : Nat) (h : i < e.w.length), i < p + 1 → letterC e.w[i] := fun hc => by
        rcases hdec with ⟨_, h2⟩ | ⟨_, h2⟩
        · simp only [Prod.mk.injEq] at h2
          refine ⟨h2.2, fun i hi hip => ?_⟩
          by_cases ei : i = p
          · subst ei; unfold letterC; omega
          · exact hall i hi (by omega)
        · omega
      by_cases q84 : (c : Int) = 84
      all_goals ((simp (maxSteps := 10000000) (disch := first | omega | (simp only [AH.push_n, AH.set_n]; first | done | omega)) only [go_sem, Nat.reduceEqDiff, Int.reduceEq, t1, t3, t8, hg, hlt, hd, q84]); repeat' (refine condS_pick (fun b hb => ?_); rw [hb]; (cases b <;> simp only [decide_eq_true_eq, decide_eq_false_iff_not] at hb) <;> first | (exfalso; omega) | simp (maxSteps := 10000000) (disch := first | omega | (simp only [AH.push_n, AH.set_n]; first | done | omega)) only [go_sem, Nat.reduceEqDiff, t1, t8, q84]))
      all_goals first
        | exact ⟨_, by omega, p + w, true, rfl, hkk, hn, rfl, rfl, by simp, fun _ => hbad (by omega)⟩
        | (obtain ⟨rfl, hg2⟩ := hgood (by omega)
           exact ⟨_, by omega, p + 1, false, rfl, hkk, hn, rfl, rfl, fun _ => ⟨by omega, hg2⟩, by simp⟩)
  · have e3 : ¬ p < e.w.length := hlt
    have hE : edgeErr e = firstErr [whenErr (decide (e.w = [])) 12, whenErr (decide ((64 : Int) < e.w.length)) 26, whenErr b 1, rangeErr e.t 1 64] := by
      have hq : b = true ↔ ¬ ∀ c ∈ e.w, letterC c := by
        refine ⟨hT, fun hx => ?_⟩
        cases hb2 : b with
        | true => rfl
        | false =>
          exfalso; apply hx
          obtain ⟨h1, h2⟩ := hF hb2
          intro c hc
          obtain ⟨i, hi, rfl⟩ := List.mem_iff_getElem.1 hc
          exact h2 i hi (by omega)
      have hfst : ∀ x, firstErr [x] = x := fun x => by simp only [firstErr]; split <;> simp_all
      have hcons : ∀ x l, firstErr (x :: l) = if x = 0 then firstErr l else x := fun _ _ => rfl
      by_cases a1 : e.w = []
      · unfold edgeErr; rw [if_pos a1, hcons, show whenErr (decide (e.w = [])) 12 = 12 by simp [whenErr, a1], if_neg (by decide)]
      · have b1 : whenErr (decide (e.w = [])) 12 = 0 := by simp [whenErr, a1]
        by_cases a2 : 64 < e.w.length
        · have b2 : whenErr (decide ((64 : Int) < e.w.length)) 26 = 26 := by simp [whenErr, show (64 : Int) < e.w.length by omega]
          unfold edgeErr; rw [if_neg a1, if_pos a2, hcons, b1, if_pos rfl, hcons, b2, if_neg (by decide)]
        · have b2 : whenErr (decide ((64 : Int) < e.w.length)) 26 = 0 := by simp [whenErr, show ¬ (64 : Int) < e.w.length by omega]
          cases b with
          | true =>
            have := hq.1 rfl
            unfold edgeErr; rw [if_neg a1, if_neg a2, if_neg this, hcons, b1, if_pos rfl, hcons, b2, if_pos rfl, hcons]
            rfl
          | false =>
            have h4 : ∀ c ∈ e.w, letterC c := Classical.byContradiction fun hx => by have := hq.2 hx; cases this
            unfold edgeErr; rw [if_neg a1, if_neg a2, if_pos h4, hcons, b1, if_pos rfl, hcons, b2, if_pos rfl, hcons, hfst]
            rfl
    have hkh : Keep h h' := ((Keep.refl h).push _).trans hkp
    simp (maxSteps := 10000000) (disch := first | omega | (simp only [AH.push_n, AH.set_n]; first | done | omega)) only [go_sem, Nat.reduceEqDiff, t1, t8, hg, e3, hc]
    refine ClS.by (pWhen_cl _ 12) ?_
    rintro r h2 ⟨rfl, rfl⟩
    simp (maxSteps := 10000000) (disch := first | omega | (simp only [AH.push_n, AH.set_n]; first | done | omega)) only [go_sem, Nat.reduceEqDiff, t1, hc]
    refine ClS.by (pWhen_cl _ 26) ?_
    rintro r h2 ⟨rfl, rfl⟩
    simp (maxSteps := 10000000) (disch := first | omega | (simp only [AH.push_n, AH.set_n]; first | done | omega)) only [go_sem, Nat.reduceEqDiff, t3]
    refine ClS.by (pWhen_cl _ 1) ?_
    rintro r h2 ⟨rfl, rfl⟩
    simp (maxSteps := 10000000) (disch := first | omega | (simp only [AH.push_n, AH.set_n]; first | done | omega)) only [go_sem, Nat.reduceEqDiff, t1, hc]
    refine ClS.by (pWithin_cl _ 1 64) ?_
    rintro r h2 ⟨rfl, rfl⟩
    simp (maxSteps := 10000000) (disch := first | omega | (simp only [AH.push_n, AH.set_n]; first | done | omega)) only [go_sem, Nat.reduceEqDiff, Nat.reduceAdd, Nat.reduceLeDiff]
    refine ClS.by (pFirst_cl (Vw.new (E := IntE) (g := h') [_, _, _, _]) (by simp)) ?_
    rintro r h2 ⟨rfl, rfl⟩
    simp (maxSteps := 10000000) (disch := first | omega | (simp only [AH.push_n, AH.set_n]; first | done | omega)) only [go_sem]
    exact ⟨hE.symm, hkh.push _⟩
end Go.Proofs.YtndlfkibcelhmaaGreatDoor.Ai
end
section
namespace Go.Proofs.YtndlfkibcelhmaaGreatDoor.Ai
open Go
set_option maxRecDepth 10000
set_option maxHeartbeats 4000000
set_option linter.all false
set_option pp.maxSteps 1200

theorem pCheckSide_cl {fl : Nat} {h : AH} {v : AVal} {l : List Ed} (hf : fl ≤ h.n) (hv : Vw EdE h v l) (hw : ∀ e ∈ l, e.w.length < 1000000000000000) :
    Cl T fl 135 [v] h fun r h' => r = .int .i64 (sideErr l) ∧ Keep h h' := by
  refine Cl.code (fn := F135) rfl rfl ?_
  simp only [F135]
  by_cases h1 : 64 < l.length
  · have : sideErr l = 5 := by unfold sideErr; rw [if_pos h1]
    have e1 : (64 : Int) < l.length := by omega
    simp (maxSteps := 10000000) (disch := first | omega | (simp only [AH.push_n, AH.set_n]; first | done | omega)) only [go_sem, reduceCtorEq, hv.len, e1, this]
    exact Keep.refl h
  have e1 : ¬ (64 : Int) < l.length := by omega
  simp (maxSteps := 10000000) (disch := first | omega | (simp only [AH.push_n, AH.set_n]; first | done | omega)) only [go_sem, reduceCtorEq, hv.len, e1]
  refine wS_loop (fun m ts h' => ∃ k, k ≤ l.length ∧ m = l.length - k ∧ Keep h h' ∧ tg ts 3 = .int .i64 (lettersOf (l.take k)) ∧ tg ts 10 = v ∧ tg ts 11 = .int .i64 l.length ∧ tg ts 12 = .int .i64 k ∧ edgesErr (l.take k) = 0) l.length ⟨0, by omega, by omega, Keep.refl h, by simp [lettersOf], by simp, by simp, by simp, rfl⟩ ?_
  rintro m ts h' ⟨k, hk, rfl, hkp, t3, t10, t11, t12, hz⟩
  have hbd := letters_bd hz
  rw [List.length_take] at hbd
  by_cases hlt : k < l.length
  · have e2 : (k : Int) < l.length := by omega
    have hv' := hv.keep hkp
    obtain ⟨id, off, vs, rfl, hid, hc, r0, r1, r2, r3⟩ := hv'.ed hlt
    have hf' : fl ≤ h'.n := Nat.le_trans hf hkp.n
    simp (maxSteps := 10000000) (disch := first | omega | (simp only [AH.push_n, AH.set_n]; first | done | omega)) only [go_sem, Nat.reduceEqDiff, Nat.reduceAdd, t10, t11, t12, e2, hlt, hc, r3]
    refine ClS.by (pCheckEdge_cl l[k] (by simp; omega) (hw _ (List.getElem_mem hlt))) ?_
    rintro r h2 ⟨rfl, hk2⟩
    have hkk : Keep h h2 := ((hkp.push _).set hkp.n _).trans hk2
    have hc2 : h2.cells h'.n = some [.str l[k].w, .int .i64 l[k].t, .bool l[k].o] := (hk2.cells (by simp)).trans AH.cells_set_eq
    by_cases he : edgeErr l[k] = 0
    · have hbk := edge_bd he
      have hmul : wrapK .i64 ((l[k].w.length : Int) * l[k].t) = (l[k].w.length : Int) * l[k].t := wrapK_i64 (by omega) (by omega)
      have hst := lettersOf_take hlt
      have hadd : wrapK .i64 (lettersOf (l.take k) + (l[k].w.length : Int) * l[k].t) = lettersOf (l.take (k + 1)) := by rw [hst]; exact wrapK_i64 (by omega) (by omega)
      simp (maxSteps := 10000000) (disch := first | omega | (simp only [AH.push_n, AH.set_n]; first | done | omega)) only [go_sem, Nat.reduceEqDiff, t3, t10, t11, t12, hc2, he, hmul, hadd]
      refine ⟨_, ?_, k + 1, by omega, rfl, hkk, rfl, by omega, ?_⟩
      · omega
      · rw [edgesErr_take hlt, if_pos hz]; exact he
    · simp (maxSteps := 10000000) (disch := first | omega | (simp only [AH.push_n, AH.set_n]; first | done | omega)) only [go_sem, Nat.reduceEqDiff, he]
      refine ⟨?_, hkk⟩
      have h5 := edgesErr_first hlt hz he
      unfold sideErr
      rw [if_neg h1, h5, if_pos he]
  · have : k = l.length := by omega
    subst this
    have e2 : ¬ (l.length : Int) < l.length := by omega
    rw [List.take_length] at t3 hz
    simp (maxSteps := 10000000) (disch := first | omega | (simp only [AH.push_n, AH.set_n]; first | done | omega)) only [go_sem, Nat.reduceEqDiff, t3, t11, t12, e2]
    refine ClS.by (pWhen_cl _ 5) ?_
    rintro r h2 ⟨rfl, rfl⟩
    simp (maxSteps := 10000000) (disch := first | omega | (simp only [AH.push_n, AH.set_n]; first | done | omega)) only [go_sem]
    refine ⟨?_, hkp⟩
    unfold sideErr whenErr
    rw [if_neg h1]
    by_cases h5 : 512 < lettersOf l <;> simp [h5, hz]

structure Visits (fl id : Nat) (S : List Sp) (I : Nat → AH → Prop) (Fr : AH → Nat → Prop) : Prop where
  step : ∀ k h', I k h' → (hk : k < S.length) → Yl T fl id [.agg [.int .u8 S[k].c, .bool S[k].o]] h' fun r h'' => r = .bool true ∧ I (k + 1) h'' ∧ h'.n ≤ h''.n ∧ ∀ j, j < h'.n → ¬ Fr h' j → h''.get j = h'.get j ∧ ¬ Fr h'' j
  keep : ∀ k h' h'', I k h' → Keep h' h'' → I k h''
  frame : ∀ k h' h'', I k h' → Keep h' h'' → ∀ j, Fr h'' j → j < h'.n ∧ Fr h' j
  fl : ∀ k h', I k h' → fl ≤ h'.n
structure Apart (Fr : AH → Nat → Prop) (h h' : AH) : Prop where
  n : h.n ≤ h'.n
  get : ∀ j, j < h.n → ¬ Fr h j → h'.get j = h.get j ∧ ¬ Fr h' j
theorem Apart.refl (Fr : AH → Nat → Prop) (h : AH) : Apart Fr h h := ⟨Nat.le_refl _, fun _ _ x => ⟨rfl, x⟩⟩
theorem Apart.trans {Fr : AH → Nat → Prop} {a b c : AH} (x : Apart Fr a b) (y : Apart Fr b c) : Apart Fr a c :=
  ⟨Nat.le_trans x.n y.n, fun j hj hf => by
    obtain ⟨h1, h2⟩ := x.get j hj hf
    obtain ⟨h3, h4⟩ := y.get j (Nat.lt_of_lt_of_le hj x.n) h2
    exact ⟨h3.trans h1, h4⟩⟩
theorem Apart.cells {Fr : AH → Nat → Prop} {a b : AH} (x : Apart Fr a b) {j : Nat} (hj : j < a.n) (hf : ¬ Fr a j) : b.cells j = a.cells j := AH.cells_congr (x.get j hj hf).1
theorem Visits.apart {fl id : Nat} {S : List Sp} {I : Nat → AH → Prop} {Fr : AH → Nat → Prop} (v : Visits fl id S I Fr) {k : Nat} {h h' : AH} (hi : I k h) (hk : Keep h h') : Apart Fr h h' :=
  ⟨hk.n, fun j hj hf => ⟨hk.get j hj, fun hx => hf (v.frame k h h' hi hk j hx).2⟩⟩

theorem lettersVisit_cl {fl id b : Nat} {h : AH} {l : AVal} {es : List Ed} {I : Nat → AH → Prop} {Fr : AH → Nat → Prop} (vis : Visits fl id (stepsOf es) I Fr) (h0 : I 0 h) (hv : Vw EdE h l es) (hb : h.cells b = some [l]) (hbn : b < h.n) (hbf : ¬ Fr h b)
    (hlf : ∀ i, addrId l = some i → ¬ Fr h i) (hes : es.length ≤ 64) (ht : ∀ e ∈ es, 1 ≤ e.t ∧ e.t ≤ 64) (hw : ∀ e ∈ es, e.w.length ≤ 64) :
    Cl T fl 180 [.yld id, .ptr b 0] h fun _ h' => I (stepsOf es).length h' ∧ Apart Fr h h' := by
  refine Cl.code (fn := F180) rfl rfl ?_
  simp only [F180]
  simp (maxSteps := 10000000) (disch := first | omega | (simp only [AH.push_n, AH.set_n]; first | done | omega)) only [go_sem, Nat.reduceAdd, hb, hv.len]
  refine wS_loop (fun m ts h' => ∃ i, i ≤ es.length ∧ m = es.length - i ∧ Apart Fr h h' ∧ I (stepsOf (es.take i)).length h' ∧ tg ts 0 = .yld id ∧ tg ts 6 = l ∧ tg ts 7 = .int .i64 es.length ∧ tg ts 8 = .int .i64 i) es.length ⟨0, by omega, by omega, Apart.refl Fr h, by simpa [stepsOf] using h0, by simp, by simp, by simp, by simp⟩ ?_
  rintro m ts h' ⟨i, hi, rfl, hap, hI, t0, t6, t7, t8⟩
  have hv' : Vw EdE h' l es := hv.congr hap.n fun j e => (hap.get j (hv.lt e) (hlf j e)).1
  by_cases hlt : i < es.length
  · obtain ⟨ht1, ht2⟩ := ht _ (List.getElem_mem hlt)
    have hwl := hw _ (List.getElem_mem hlt)
    have e2 : (i : Int) < es.length := by omega
    have hfl := vis.fl _ _ hI
    obtain ⟨lid, loff, vs, hle, hid, hc, r0, r1, r2, r3⟩ := hv'.ed hlt
    rw [hle] at t6
    simp (maxSteps := 10000000) (disch := first | omega | (simp only [AH.push_n, AH.set_n]; first | done | omega)) only [go_sem, Nat.reduceEqDiff, Nat.reduceAdd, t6, t7, t8, e2, hlt, hc, r3]
    have hkp : Keep h' ((h'.push (.cells [.str [], .int .i64 0, .bool false])).set h'.n (.cells [.str es[i].w, .int .i64 es[i].t, .bool es[i].o])) := ((Keep.refl h').push _).set (Nat.le_refl _) _
    have hI1 := vis.keep _ _ _ hI hkp
    have hap1 := hap.trans (vis.apart hI hkp)
    have hcell : ((h'.push (.cells [.str [], .int .i64 0, .bool false])).set h'.n (.cells [.str es[i].w, .int .i64 es[i].t, .bool es[i].o])).cells h'.n = some [.str es[i].w, .int .i64 es[i].t, .bool es[i].o] := AH.cells_set_eq
    have hnf : ¬ Fr ((h'.push (.cells [.str [], .int .i64 0, .bool false])).set h'.n (.cells [.str es[i].w, .int .i64 es[i].t, .bool es[i].o])) h'.n := fun hx => by have := (vis.frame _ _ _ hI hkp _ hx).1; omega
    have hbn2 : h'.n < ((h'.push (.cells [.str [], .int .i64 0, .bool false])).set h'.n (.cells [.str es[i].w, .int .i64 es[i].t, .bool es[i].o])).n := by simp
    generalize hB : h'.n = B at *
    generalize (h'.push (.cells [.str [], .int .i64 0, .bool false])).set B (.cells [.str es[i].w, .int .i64 es[i].t, .bool es[i].o]) = g at *
    have hTn : ((es[i].t.toNat : Nat) : Int) = es[i].t := Int.toNat_of_nonneg (by omega)
    refine wS_loop (fun m ts h' => ∃ n, n ≤ es[i].t.toNat ∧ m = es[i].t.toNat - n ∧ Apart Fr h h' ∧ I ((stepsOf (es.take i)).length + n * es[i].w.length) h' ∧ h'.cells B = some [.str es[i].w, .int .i64 es[i].t, .bool es[i].o] ∧ ¬ Fr h' B ∧ B < h'.n ∧
      tg ts 0 = .yld id ∧ tg ts 4 = .ptr B 0 ∧ tg ts 6 = l ∧ tg ts 7 = .int .i64 es.length ∧ tg ts 8 = .int .i64 i ∧ tg ts 13 = .int .i64 es[i].t ∧ tg ts 14 = .int .i64 n) es[i].t.toNat
      ⟨0, by omega, by omega, hap1, by simpa using hI1, hcell, hnf, hbn2, by simp [t0], by simp, by simp [t6, hle], by simp [t7], by simp [t8], by simp, by simp⟩ ?_
    clear t0 t6 t7 t8 hI1 hap1 hcell hnf hbn2
    rintro m ts g1 ⟨n, hn, rfl, hap1, hI1, hcell, hnf, hbn2, t0, t4, t6, t7, t8, t13, t14⟩
    by_cases hn2 : n < es[i].t.toNat
    · have e3 : (n : Int) < es[i].t := by omega
      simp (maxSteps := 10000000) (disch := first | omega | (simp only [AH.push_n, AH.set_n]; first | done | omega)) only [go_sem, Nat.reduceEqDiff, t4, t13, t14, e3, hcell]
      refine wS_loop (fun m ts h' => ∃ k, k ≤ es[i].w.length ∧ m = es[i].w.length - k ∧ Apart Fr h h' ∧ I ((stepsOf (es.take i)).length + n * es[i].w.length + k) h' ∧ h'.cells B = some [.str es[i].w, .int .i64 es[i].t, .bool es[i].o] ∧ ¬ Fr h' B ∧ B < h'.n ∧
        tg ts 0 = .yld id ∧ tg ts 4 = .ptr B 0 ∧ tg ts 6 = l ∧ tg ts 7 = .int .i64 es.length ∧ tg ts 8 = .int .i64 i ∧ tg ts 13 = .int .i64 es[i].t ∧ tg ts 14 = .int .i64 n ∧ tg ts 18 = .int .i64 es[i].w.length ∧ tg ts 19 = .int .i64 k) es[i].w.length
        ⟨0, by omega, by omega, hap1, hI1, hcell, hnf, hbn2, by simp [t0], by simp [t4], by simp [t6], by simp [t7], by simp [t8], by simp [t13], by simp [t14], by simp, by simp⟩ ?_
      clear t0 t4 t6 t7 t8 t13 t14 hI1 hap1 hcell hnf hbn2
      rintro m ts g2 ⟨k, hk, rfl, hap1, hI1, hcell, hnf, hbn2, t0, t4, t6, t7, t8, t13, t14, t18, t19⟩
      by_cases hk2 : k < es[i].w.length
      · have e4 : (k : Int) < es[i].w.length := by omega
        have hget : es[i].w[k]? = some es[i].w[k] := List.getElem?_eq_getElem hk2
        obtain ⟨hS, hSg⟩ := List.getElem?_eq_some_iff.1 (steps_get hlt hn2 hk2)
        have hy := vis.step _ g2 hI1 hS
        rw [hSg] at hy
        simp (maxSteps := 10000000) (disch := first | omega | (simp only [AH.push_n, AH.set_n]; first | done | omega)) only [go_sem, reduceCtorEq, Nat.reduceEqDiff, Nat.reduceAdd, Nat.reduceLeDiff, t0, t4, t18, t19, e4, hcell, hget]
        refine YlS.by hy ?_
        rintro r g3 ⟨rfl, hI3, hn3, hfr3⟩
        obtain ⟨q1, q2⟩ := hfr3 B hbn2 hnf
        simp (maxSteps := 10000000) (disch := first | omega | (simp only [AH.push_n, AH.set_n]; first | done | omega)) only [go_sem, reduceCtorEq, Nat.reduceEqDiff, t0, t4, t6, t7, t8, t13, t14, t18, t19]
        refine ⟨_, ?_, k + 1, by omega, rfl, hap1.trans ⟨hn3, hfr3⟩, hI3, (AH.cells_congr q1).trans hcell, q2, Nat.lt_of_lt_of_le hbn2 hn3, by omega⟩
        omega
      · have : k = es[i].w.length := by omega
        subst this
        have e4 : ¬ (es[i].w.length : Int) < es[i].w.length := by omega
        simp (maxSteps := 10000000) (disch := first | omega | (simp only [AH.push_n, AH.set_n]; first | done | omega)) only [go_sem, reduceCtorEq, Nat.reduceEqDiff, t0, t4, t6, t7, t8, t13, t14, t18, t19, e4]
        refine ⟨_, ?_, n + 1, by omega, rfl, hap1, ?_, hcell, hnf, hbn2, by omega⟩
        · omega
        · rw [Nat.add_mul, Nat.one_mul, ← Nat.add_assoc]; exact hI1
    · have : n = es[i].t.toNat := by omega
      subst this
      have e3 : ¬ ((es[i].t.toNat : Int) < es[i].t) := by omega
      simp (maxSteps := 10000000) (disch := first | omega | (simp only [AH.push_n, AH.set_n]; first | done | omega)) only [go_sem, reduceCtorEq, Nat.reduceEqDiff, t0, t6, t7, t8, t13, t14, e3]
      refine ⟨_, ?_, i + 1, by omega, rfl, hap1, ?_, by omega⟩
      · omega
      · rw [stepsOf_snoc hlt, List.length_append]
        unfold edgeSteps; rw [repSteps_len]; exact hI1
  · have : i = es.length := by omega
    subst this
    have e2 : ¬ (es.length : Int) < es.length := by omega
    rw [List.take_length] at hI
    simp (maxSteps := 10000000) (disch := first | omega | (simp only [AH.push_n, AH.set_n]; first | done | omega)) only [go_sem, t7, t8, e2]
    exact ⟨hI, hap⟩
end Go.Proofs.YtndlfkibcelhmaaGreatDoor.Ai
end
section
namespace Go.Proofs.YtndlfkibcelhmaaGreatDoor.Ai
open Go
set_option maxRecDepth 10000
set_option maxHeartbeats 4000000
set_option linter.all false
set_option pp.maxSteps 1200

theorem rise_cl {fl : Nat} {h : AH} {v : AVal} {l : List Sp} (hv : Vw SpE h v l) (hb : l.length < 1000000) :
    Cl T fl 94 [v] h fun r h' => r = .int .i64 (riseOf l) ∧ h = h' := by
  refine Cl.code (fn := F94) rfl rfl ?_
  simp only [F94]
  simp (maxSteps := 10000000) (disch := first | omega | (simp only [AH.push_n, AH.set_n]; first | done | omega)) only [go_sem]
  refine wS_loop (fun m ts h' => ∃ k, k ≤ l.length ∧ m = l.length - k ∧ h' = h ∧ tg ts 0 = v ∧ tg ts 3 = .int .i64 (riseOf (l.take k)) ∧ tg ts 4 = .int .i64 k) l.length ⟨0, by omega, by omega, rfl, by simp, by simp [riseOf], by simp⟩ ?_
  rintro m ts h' ⟨k, hk, rfl, rfl, t0, t3, t4⟩
  have hr := rise_bd (l.take k)
  rw [List.length_take] at hr
  by_cases hlt : k < l.length
  · obtain ⟨id, off, vs, rfl, hid, hc, r0, r1, r2⟩ := hv.sp hlt
    have e2 : (k : Int) < l.length := by omega
    have hs := rise_snoc l k hlt
    unfold up1 at hs
    (simp (maxSteps := 10000000) (disch := first | omega | (simp only [AH.push_n, AH.set_n]; first | done | omega)) only [go_sem, reduceCtorEq, Nat.reduceEqDiff, t0, t4, e2, hlt, hc, r0]); repeat' (refine condS_pick (fun b hb => ?_); rw [hb]; (cases b <;> simp only [decide_eq_true_eq, decide_eq_false_iff_not] at hb) <;> first | (exfalso; omega) | simp (maxSteps := 10000000) (disch := first | omega | (simp only [AH.push_n, AH.set_n]; first | done | omega)) only [go_sem, reduceCtorEq, Nat.reduceEqDiff, t0, t3, t4, hlt, hc, r0])
    all_goals
      refine ⟨_, ?_, k + 1, by omega, rfl, ?_, by omega⟩
      · omega
      · rw [hs]; split <;> first | omega | (split <;> omega)
  · have : k = l.length := by omega
    subst this
    have e2 : ¬ (l.length : Int) < l.length := by omega
    rw [List.take_length] at t3
    simp (maxSteps := 10000000) (disch := first | omega | (simp only [AH.push_n, AH.set_n]; first | done | omega)) only [go_sem, reduceCtorEq, Nat.reduceEqDiff, t0, t3, t4, hv.len, e2]

theorem steps_cl {fl : Nat} {h : AH} {v : AVal} {l : List Ed} (hf : fl ≤ h.n) (hv : Vw EdE h v l) (he : edgesErr l = 0) (hl : l.length ≤ 64) :
    Cl T fl 95 [v] h fun r h' => Vw SpE h' r (stepsOf l) ∧ Keep h h' ∧ Own h.n r := by
  refine Cl.code (fn := F95) rfl rfl ?_
  simp only [F95]
  simp (maxSteps := 10000000) (disch := first | omega | (simp only [AH.push_n, AH.set_n]; first | done | omega)) only [go_sem]
  have hall := letters_bd he
  refine wS_loop (fun m ts h' => ∃ k out, k ≤ l.length ∧ m = l.length - k ∧ Keep h h' ∧ tg ts 0 = v ∧ tg ts 3 = out ∧ tg ts 4 = .int .i64 k ∧ Vw SpE h' out (stepsOf (l.take k)) ∧ Own h.n out) l.length ⟨0, .nilsl, by omega, by omega, Keep.refl h, by simp, by simp, by simp, Vw.nil, Own.of_nil⟩ ?_
  rintro m ts h' ⟨k, out, hk, rfl, hkp, t0, t3, t4, ho, hown⟩
  have hv' := hv.keep hkp
  by_cases hlt : k < l.length
  · obtain ⟨_, hlet1, hlet, ht1, ht2⟩ := edgeErr_ok (edgesErr_all he _ (List.getElem_mem hlt))
    have e2 : (k : Int) < l.length := by omega
    simp (maxSteps := 10000000) (disch := first | omega | (simp only [AH.push_n, AH.set_n]; first | done | omega)) only [go_sem, reduceCtorEq, Nat.reduceEqDiff, t0, t4, hv'.len, e2]
    refine wS_loop (fun m ts h' => ∃ n out, n ≤ l[k].t.toNat ∧ m = l[k].t.toNat - n ∧ Keep h h' ∧ tg ts 0 = v ∧ tg ts 3 = out ∧ tg ts 4 = .int .i64 k ∧ tg ts 5 = .int .i64 n ∧ Vw SpE h' out (stepsOf (l.take k) ++ repSteps n l[k].w l[k].o) ∧ Own h.n out) l[k].t.toNat
      ⟨0, out, by omega, by omega, hkp, by simp [t0], by simp [t3], by simp [t4], by simp, by simpa [repSteps] using ho, hown⟩ ?_
    clear t0 t3 t4 ho hown hv' hkp
    rintro m ts h' ⟨n, out, hn, rfl, hkp, t0, t3, t4, t5, ho, hown⟩
    have hv' := hv.keep hkp
    obtain ⟨id, off, vs, hve, hid, hc, r0, r1, r2, r3⟩ := hv'.ed hlt
    rw [hve] at t0
    by_cases hn2 : n < l[k].t.toNat
    · have e3 : (n : Int) < l[k].t := by omega
      simp (maxSteps := 10000000) (disch := first | omega | (simp only [AH.push_n, AH.set_n]; first | done | omega)) only [go_sem, reduceCtorEq, Nat.reduceEqDiff, t0, t4, t5, hlt, hc, r1, e3]
      refine wS_loop (fun m ts h' => ∃ i out, i ≤ l[k].w.length ∧ m = l[k].w.length - i ∧ Keep h h' ∧ tg ts 0 = v ∧ tg ts 3 = out ∧ tg ts 4 = .int .i64 k ∧ tg ts 5 = .int .i64 n ∧ tg ts 6 = .int .i64 i ∧ Vw SpE h' out (stepsOf (l.take k) ++ repSteps n l[k].w l[k].o ++ (wordSteps l[k].w l[k].o).take i) ∧ Own h.n out) l[k].w.length
        ⟨0, out, by omega, by omega, hkp, by simp [t0, hve], by simp [t3], by simp [t4], by simp [t5], by simp, by simpa using ho, hown⟩ ?_
      clear t0 t3 t4 t5 ho hown hv' hkp hc r0 r1 r2 r3 hid
      rintro m ts h' ⟨i, out, hi, rfl, hkp, t0, t3, t4, t5, t6, ho, hown⟩
      have hv' := hv.keep hkp
      obtain ⟨id, off, vs, hve, hid, hc, r0, r1, r2, r3⟩ := hv'.ed hlt
      rw [hve] at t0
      by_cases hi2 : i < l[k].w.length
      · have e4 : (i : Int) < l[k].w.length := by omega
        have hget : l[k].w[i]? = some l[k].w[i] := List.getElem?_eq_getElem hi2
        simp (maxSteps := 10000000) (disch := first | omega | (simp only [AH.push_n, AH.set_n]; first | done | omega)) only [go_sem, reduceCtorEq, Nat.reduceEqDiff, Nat.reduceAdd, Nat.reduceLeDiff, t0, t3, t4, t6, hlt, hc, r0, r2, e4, hget]
        refine append_to (E := SpE) (ys := [⟨l[k].w[i], l[k].o⟩]) (ho.push _) (hown.mono hf) (by simp; exact Nat.le_trans hf (Nat.le_succ_of_le hkp.n)) (Vw.new (E := SpE) (g := h') [⟨l[k].w[i], l[k].o⟩]) ?_ ?_
        · have h1 := stepsOf_len (edgesErr_pre (a := l.take k) (b := l.drop k) (by rw [List.take_append_drop]; exact he))
          have h2 := letters_le he k
          have h3 : n * l[k].w.length ≤ 64 * 64 := Nat.mul_le_mul (by omega) hlet1
          simp only [List.length_append, repSteps_len, List.length_take, wordSteps, List.length_map, List.length_cons, List.length_nil, maxRow]
          omega
        · intro r h2 ha
          simp (maxSteps := 10000000) (disch := first | omega | (simp only [AH.push_n, AH.set_n]; first | done | omega)) only [go_sem, reduceCtorEq, Nat.reduceEqDiff, t0, t4, t5, t6]
          refine ⟨_, ?_, i + 1, r, by omega, rfl, ha.keep (hkp.push _) hown, hve.symm, rfl, by omega, ?_, ha.own _ (Nat.le_succ_of_le hkp.n) hown⟩
          · omega
          · have hv3 := ha.vw
            have : (wordSteps l[k].w l[k].o).take (i + 1) = (wordSteps l[k].w l[k].o).take i ++ [⟨l[k].w[i], l[k].o⟩] := by
              rw [List.take_succ_eq_append_getElem (by simpa [wordSteps] using hi2)]; simp [wordSteps]
            rw [this, ← List.append_assoc]; exact hv3
      · have : i = l[k].w.length := by omega
        subst this
        have e4 : ¬ (l[k].w.length : Int) < l[k].w.length := by omega
        have hwl : wordSteps l[k].w l[k].o = (wordSteps l[k].w l[k].o).take l[k].w.length := by rw [List.take_of_length_le (by simp [wordSteps])]
        rw [← hwl] at ho
        simp (maxSteps := 10000000) (disch := first | omega | (simp only [AH.push_n, AH.set_n]; first | done | omega)) only [go_sem, reduceCtorEq, Nat.reduceEqDiff, t0, t3, t4, t5, t6, hlt, hc, r0, e4]
        refine ⟨_, ?_, n + 1, out, by omega, rfl, hkp, hve.symm, rfl, by omega, ?_, hown⟩
        · omega
        · rw [repSteps, ← List.append_assoc]; exact ho
    · have : n = l[k].t.toNat := by omega
      subst this
      have e3 : ¬ ((l[k].t.toNat : Int) < l[k].t) := by omega
      simp (maxSteps := 10000000) (disch := first | omega | (simp only [AH.push_n, AH.set_n]; first | done | omega)) only [go_sem, reduceCtorEq, Nat.reduceEqDiff, t0, t3, t4, t5, hlt, hc, r1, e3]
      refine ⟨_, ?_, k + 1, out, by omega, rfl, hkp, hve.symm, rfl, by omega, ?_, hown⟩
      · omega
      · rw [stepsOf_snoc hlt]; exact ho
  · have : k = l.length := by omega
    subst this
    have e2 : ¬ (l.length : Int) < l.length := by omega
    rw [List.take_length] at ho
    simp (maxSteps := 10000000) (disch := first | omega | (simp only [AH.push_n, AH.set_n]; first | done | omega)) only [go_sem, reduceCtorEq, Nat.reduceEqDiff, t0, t3, t4, hv'.len, e2]
    exact ⟨ho, hkp, hown⟩
end Go.Proofs.YtndlfkibcelhmaaGreatDoor.Ai
end
section
namespace Go.Proofs.YtndlfkibcelhmaaGreatDoor.Ai
open Go
set_option maxRecDepth 10000
set_option maxHeartbeats 4000000
set_option linter.all false
set_option pp.maxSteps 1200

structure PV (h : AH) (l r : AVal) (p : Pn) : Prop where
  left : Vw EdE h l p.left
  right : Vw EdE h r p.right
theorem PV.keep {h h' : AH} {l r : AVal} {p : Pn} (v : PV h l r p) (k : Keep h h') : PV h' l r p := ⟨v.left.keep k, v.right.keep k⟩
structure SideOk (l : List Ed) : Prop where
  len : l.length ≤ 64
  edges : edgesErr l = 0
  letters : lettersOf l ≤ 512
theorem sideErr_ok {l : List Ed} (h : sideErr l = 0) : SideOk l := by
  unfold sideErr at h
  split at h
  · omega
  split at h
  · omega
  split at h
  · omega
  · exact ⟨by omega, by omega, by omega⟩
theorem SideOk.steps {l : List Ed} (s : SideOk l) : (stepsOf l).length ≤ 512 := by have := stepsOf_len s.edges; have := s.letters; omega

theorem height_cl {fl : Nat} {h : AH} {l r : AVal} {p : Pn} (hf : fl ≤ h.n) (hv : PV h l r p) (so : SideOk p.left) :
    Cl T fl 42 [.agg [.str p.name, .int .i64 p.width, l, r]] h fun x h' => x = .int .i64 (heightOf p) ∧ Keep h h' := by
  refine Cl.code (fn := F42) rfl rfl ?_
  simp only [F42]
  simp (maxSteps := 10000000) (disch := first | omega | (simp only [AH.push_n, AH.set_n]; first | done | omega)) only [go_sem, Nat.reduceEqDiff]
  refine ClS.by (steps_cl (by simp; omega) (hv.left.push _) so.edges so.len) ?_
  rintro x h1 ⟨hx, hk, ho⟩
  simp (maxSteps := 10000000) (disch := first | omega | (simp only [AH.push_n, AH.set_n]; first | done | omega)) only [go_sem]
  refine ClS.by (rise_cl hx (by have := so.steps; omega)) ?_
  rintro x2 h2 ⟨rfl, rfl⟩
  simp (maxSteps := 10000000) (disch := first | omega | (simp only [AH.push_n, AH.set_n]; first | done | omega)) only [go_sem]
  exact ⟨rfl, ((Keep.refl h).push _).trans hk⟩

theorem walk_cl {fl : Nat} {h : AH} {v : AVal} {l : List Sp} (hf : fl ≤ h.n) (right : Bool) (x y : Int) (hv : Vw SpE h v l) (hl : l.length ≤ 1000) (hx : -100000 ≤ x ∧ x ≤ 100000) (hy : -100000 ≤ y ∧ y ≤ 100000) :
    Cl T fl 140 [.agg [.int .i64 x, .int .i64 y], v, .bool right] h fun r h' => Vw KnE h' r (walkOf right ⟨x, y⟩ l) ∧ Keep h h' ∧ Own h.n r := by
  refine Cl.code (fn := F140) rfl rfl ?_
  simp only [F140]
  simp (maxSteps := 10000000) (disch := first | omega | (simp only [AH.push_n, AH.set_n]; first | done | omega)) only [go_sem, reduceCtorEq, Nat.reduceEqDiff, Nat.reduceAdd]
  refine wS_loop (fun m ts h' => ∃ k out, k ≤ l.length ∧ m = l.length - k ∧ Keep h h' ∧ h.n < h'.n ∧ h'.cells h.n = some [.int .i64 (lastOf right ⟨x, y⟩ (l.take k)).x, .int .i64 (lastOf right ⟨x, y⟩ (l.take k)).y] ∧ tg ts 1 = v ∧ tg ts 2 = .bool right ∧ tg ts 3 = .ptr h.n 0 ∧ tg ts 7 = out ∧ tg ts 8 = .int .i64 k ∧
    Vw KnE h' out (walkOf right ⟨x, y⟩ (l.take k)) ∧ Own h.n out ∧ Off out h.n) l.length ⟨0, .sl (h.n + 1) 0 1 2, by omega, by omega, ((Keep.refl h).push _).push _, by simp; omega, ?_, by simp, by simp, by simp, by simp, by simp, ?_, Own.sl (by omega), Off.sl (by omega)⟩ ?_
  · rw [AH.cells_push_lt (by simp), AH.cells_push_eq rfl]; rfl
  · exact Vw.new (E := KnE) (g := h.push _) [⟨x, y⟩]
  rintro m ts h' ⟨k, out, hk, rfl, hkp, hn, hcell, t1, t2, t3, t7, t8, ho, hown, hoff⟩
  have hv' := hv.keep hkp
  have hlb := lastOf_bd right (l.take k) ⟨x, y⟩
  have hrb := rise_bd (l.take k)
  rw [List.length_take] at hlb hrb
  dsimp only at hlb
  generalize hK : lastOf right ⟨x, y⟩ (l.take k) = K at *
  by_cases hlt : k < l.length
  · obtain ⟨id, off, vs, hve, hid, hc, r0, r1, r2⟩ := hv'.sp hlt
    rw [hve] at t1
    have e2 : (k : Int) < l.length := by omega
    have hsn := walkOf_snoc right ⟨x, y⟩ (l.take k) l[k]
    have hln := lastOf_snoc right ⟨x, y⟩ (l.take k) l[k]
    rw [← List.take_succ_eq_append_getElem hlt, hK] at hsn hln
    have hx3 : wrapK .i64 (K.x + 1) = K.x + 1 := wrapK_i64 (by omega) (by omega)
    have hx4 : wrapK .i64 (K.x + -1) = K.x + -1 := wrapK_i64 (by omega) (by omega)
    have hy3 : wrapK .i64 (K.y + 1) = K.y + 1 := wrapK_i64 (by omega) (by omega)
    have hy4 : wrapK .i64 (K.y + 2) = K.y + 2 := wrapK_i64 (by omega) (by omega)
    have c78 : (l[k].c = 78) = ((l[k].c : Int) = 78) := propext ⟨fun h => by omega, fun h => by omega⟩
    have c66 : (l[k].c = 66) = ((l[k].c : Int) = 66) := propext ⟨fun h => by omega, fun h => by omega⟩
    by_cases hor : l[k].o = right
    · have e3 : (l[k].o == right) = true := by simp [hor]
      (simp (maxSteps := 10000000) (disch := first | omega | (simp only [AH.push_n, AH.set_n]; first | done | omega)) only [go_sem, Nat.reduceEqDiff, t1, t2, t8, e2, hlt, hc, r0, r1, e3]); repeat' (refine condS_pick (fun b hb => ?_); rw [hb]; (cases b <;> simp only [decide_eq_true_eq, decide_eq_false_iff_not] at hb) <;> first | (exfalso; omega) | simp (maxSteps := 10000000) (disch := first | omega | (simp only [AH.push_n, AH.set_n]; first | done | omega)) only [go_sem, Nat.reduceEqDiff, Nat.reduceAdd, Nat.reduceLeDiff, Int.reduceMul, t3, t7, hcell])
      all_goals
        refine append_to (E := KnE) ((ho.set _ hoff).push _) (hown.mono hf) (by simp; omega) Vw.kn1 ?_ ?_
        · simp only [walkOf_len, List.length_take, List.length_cons, List.length_nil, maxRow]; omega
        · intro r h2 ha
          simp (maxSteps := 10000000) (disch := first | omega | (simp only [AH.push_n, AH.set_n]; first | done | omega)) only [go_sem, Nat.reduceEqDiff, t1, t2, t3, t8]
          refine ⟨_, ?_, k + 1, r, by omega, rfl, ha.keep ((hkp.set (Nat.le_refl _) _).push _) hown, ?_, ?_, hve.symm, rfl, by omega, ha.vw.cast ?_, ha.own _ (by simp; omega) hown, (ha.old _ (by simp; omega) hoff).2⟩
          · omega
          · have := ha.n; simp at this; omega
          · rw [ha.cells (by simp; omega) hoff, AH.cells_push_lt (by simp; omega), AH.cells_set_eq, hln]; simp [stepK, *]
          · rw [hsn]; simp [stepK, *]
    · have e3 : (l[k].o == right) = false := by simp [hor]
      (simp (maxSteps := 10000000) (disch := first | omega | (simp only [AH.push_n, AH.set_n]; first | done | omega)) only [go_sem, Nat.reduceEqDiff, Int.reduceNeg, t1, t2, t8, e2, hlt, hc, r0, r1, e3]); repeat' (refine condS_pick (fun b hb => ?_); rw [hb]; (cases b <;> simp only [decide_eq_true_eq, decide_eq_false_iff_not] at hb) <;> first | (exfalso; omega) | simp (maxSteps := 10000000) (disch := first | omega | (simp only [AH.push_n, AH.set_n]; first | done | omega)) only [go_sem, Nat.reduceEqDiff, Nat.reduceAdd, Nat.reduceLeDiff, Int.reduceMul, Int.reduceNeg, t3, t7, hcell])
      all_goals
        refine append_to (E := KnE) ((ho.set _ hoff).push _) (hown.mono hf) (by simp; omega) Vw.kn1 ?_ ?_
        · simp only [walkOf_len, List.length_take, List.length_cons, List.length_nil, maxRow]; omega
        · intro r h2 ha
          simp (maxSteps := 10000000) (disch := first | omega | (simp only [AH.push_n, AH.set_n]; first | done | omega)) only [go_sem, Nat.reduceEqDiff, Int.reduceNeg, t1, t2, t3, t8]
          refine ⟨_, ?_, k + 1, r, by omega, rfl, ha.keep ((hkp.set (Nat.le_refl _) _).push _) hown, ?_, ?_, hve.symm, rfl, by omega, ha.vw.cast ?_, ha.own _ (by simp; omega) hown, (ha.old _ (by simp; omega) hoff).2⟩
          · omega
          · have := ha.n; simp at this; omega
          · rw [ha.cells (by simp; omega) hoff, AH.cells_push_lt (by simp; omega), AH.cells_set_eq, hln]; simp [stepK, *]
          · rw [hsn]; simp [stepK, *]
  · have : k = l.length := by omega
    subst this
    have e2 : ¬ (l.length : Int) < l.length := by omega
    rw [List.take_length] at ho
    simp (maxSteps := 10000000) (disch := first | omega | (simp only [AH.push_n, AH.set_n]; first | done | omega)) only [go_sem, Nat.reduceEqDiff, t1, t7, t8, hv'.len, e2]
    exact ⟨ho, hkp, hown⟩

theorem outline_cl {fl : Nat} {h : AH} {l r : AVal} {p : Pn} (hf : fl ≤ h.n) (hv : PV h l r p) (sl : SideOk p.left) (sr : SideOk p.right) (hw : 1 ≤ p.width ∧ p.width ≤ 128) (right : Bool) :
    Cl T fl 64 [.agg [.str p.name, .int .i64 p.width, l, r], .bool right] h fun x h' => Vw KnE h' x (outlineOf p right) ∧ Keep h h' ∧ Own h.n x := by
  refine Cl.code (fn := F64) rfl rfl ?_
  simp only [F64]
  cases right
  · simp (maxSteps := 10000000) (disch := first | omega | (simp only [AH.push_n, AH.set_n]; first | done | omega)) only [go_sem, reduceCtorEq, Nat.reduceEqDiff, Nat.reduceAdd]
    refine ClS.by (steps_cl (by simp; omega) (hv.left.push _) sl.edges sl.len) ?_
    rintro x h1 ⟨hx, hk, ho⟩
    simp (maxSteps := 10000000) (disch := first | omega | (simp only [AH.push_n, AH.set_n]; first | done | omega)) only [go_sem, Nat.reduceEqDiff]
    refine ClS.by (walk_cl (by have := hk.n; simp at this; omega) false 0 0 hx (by have := sl.steps; omega) (by omega) (by omega)) ?_
    rintro x2 h2 ⟨hx2, hk2, ho2⟩
    simp (maxSteps := 10000000) (disch := first | omega | (simp only [AH.push_n, AH.set_n]; first | done | omega)) only [go_sem]
    exact ⟨hx2, (((Keep.refl h).push _).trans hk).trans hk2, ho2.mono (by have := hk.n; simp at this; omega)⟩
  · simp (maxSteps := 10000000) (disch := first | omega | (simp only [AH.push_n, AH.set_n]; first | done | omega)) only [go_sem, reduceCtorEq, Nat.reduceEqDiff, Nat.reduceAdd, Nat.reduceLeDiff]
    refine ClS.by (steps_cl (by simp) (hv.right.push _) sr.edges sr.len) ?_
    rintro x h1 ⟨hx, hk, ho⟩
    simp (maxSteps := 10000000) (disch := first | omega | (simp only [AH.push_n, AH.set_n]; first | done | omega)) only [go_sem, Nat.reduceEqDiff]
    refine ClS.by (walk_cl (by have := hk.n; simp at this; omega) true (2 * p.width) 0 hx (by have := sr.steps; omega) (by omega) (by omega)) ?_
    rintro x2 h2 ⟨hx2, hk2, ho2⟩
    simp (maxSteps := 10000000) (disch := first | omega | (simp only [AH.push_n, AH.set_n]; first | done | omega)) only [go_sem]
    exact ⟨hx2, (((Keep.refl h).push _).trans hk).trans hk2, ho2.mono (by have := hk.n; simp at this; omega)⟩
end Go.Proofs.YtndlfkibcelhmaaGreatDoor.Ai
end
section
namespace Go.Proofs.YtndlfkibcelhmaaGreatDoor.Ai
open Go
set_option maxRecDepth 10000
set_option maxHeartbeats 4000000
set_option linter.all false
set_option pp.maxSteps 1200

def afterK (b : Bool) (k : Kn) (c : Nat) : Kn :=
  if c = 78 then ⟨k.x, k.y + 2⟩ else if c = 66 then ⟨k.x + (if b then 1 else -1), k.y + 1⟩ else ⟨k.x + 2 * (if b then 1 else -1), k.y⟩
theorem afterK_eq (right : Bool) (k : Kn) (s : Sp) : afterK (s.o == right) k s.c = stepK right k s := by
  unfold afterK stepK
  by_cases h : s.o = right <;> simp [h]
theorem after_cl {fl : Nat} {h : AH} (hf : fl ≤ h.n) (k : Kn) (c : Nat) (b : Bool) (hx : -1000000 ≤ k.x ∧ k.x ≤ 1000000) (hy : -1000000 ≤ k.y ∧ k.y ≤ 1000000) :
    Cl T fl 176 [.agg [.int .i64 k.x, .int .i64 k.y], .int .u8 c, .bool b] h fun r h' => r = .agg [.int .i64 (afterK b k c).x, .int .i64 (afterK b k c).y] ∧ Keep h h' := by
  refine Cl.code (fn := F176) rfl rfl ?_
  simp only [F176]
  have hkk : ∀ o, Keep h (((h.push (.cells [.int .i64 k.x, .int .i64 k.y])).push (.cells [.int .i64 0, .int .i64 0])).set (h.n + 1) o) := fun o => (((Keep.refl h).push _).push _).set (by omega) o
  have c78 : (c = 78) = ((c : Int) = 78) := propext ⟨fun h => by omega, fun h => by omega⟩
  have c66 : (c = 66) = ((c : Int) = 66) := propext ⟨fun h => by omega, fun h => by omega⟩
  cases b
  all_goals ((simp (maxSteps := 10000000) (disch := first | omega | (simp only [AH.push_n, AH.set_n]; first | done | omega)) only [go_sem, reduceCtorEq, Nat.reduceEqDiff, Nat.reduceAdd, Int.reduceNeg]); repeat' (refine condS_pick (fun b hb => ?_); rw [hb]; (cases b <;> simp only [decide_eq_true_eq, decide_eq_false_iff_not] at hb) <;> first | (exfalso; omega) | simp (maxSteps := 10000000) (disch := first | omega | (simp only [AH.push_n, AH.set_n]; first | done | omega)) only [go_sem, Nat.reduceEqDiff, Nat.reduceAdd, Nat.reduceLeDiff, Int.reduceMul, Int.reduceNeg]))
  all_goals
    refine ⟨?_, hkk _⟩
    unfold afterK
    simp only [if_true, if_false, *]
    try simp

theorem letters_cl {fl : Nat} {h : AH} (v : AVal) (hc : v.cells = [v]) :
    Cl T fl 114 [v] h fun r h' => r = .func 180 [] [.ptr h.n 0] ∧ h' = h.push (.cells [v]) := by
  refine Cl.code (fn := F114) rfl rfl ?_
  simp only [F114]
  simp (maxSteps := 10000000) (disch := first | omega | (simp only [AH.push_n, AH.set_n]; first | done | omega)) only [go_sem, Nat.reduceEqDiff, hc]

structure OutI (base : AH) (l0 : ALoop) (right : Bool) (k0 : Kn) (S : List Sp) (k : Nat) (g : AH) : Prop where
  n : base.n + 7 ≤ g.n
  keep : Keep base g
  loop : g.get (base.n + 6) = some (.loop l0)
  way : g.cells (base.n + 1) = some [.bool right]
  place : g.cells (base.n + 2) = some [.int .i64 (lastOf right k0 (S.take k)).x, .int .i64 (lastOf right k0 (S.take k)).y]
  out : ∃ out, g.cells (base.n + 4) = some [out] ∧ Vw KnE g out (walkOf right k0 (S.take k)) ∧ Own base.n out ∧ Off out (base.n + 1) ∧ Off out (base.n + 2) ∧ Off out (base.n + 4) ∧ Off out (base.n + 6)
def OutF (base : AH) (g : AH) (j : Nat) : Prop := j = base.n + 2 ∨ j = base.n + 4 ∨ j = base.n + 6 ∨ ∃ out, g.cells (base.n + 4) = some [out] ∧ addrId out = some j
theorem OutI.keeps {base : AH} {l0 : ALoop} {right : Bool} {k0 : Kn} {S : List Sp} {k : Nat} {g g' : AH} (x : OutI base l0 right k0 S k g) (hk : Keep g g') : OutI base l0 right k0 S k g' := by
  have hn := x.n
  obtain ⟨out, h1, h2, h3⟩ := x.out
  exact { n := Nat.le_trans hn hk.n, keep := x.keep.trans hk, loop := (hk.get _ (by omega)).trans x.loop, way := (hk.cells (by omega)).trans x.way, place := (hk.cells (by omega)).trans x.place
          out := ⟨out, (hk.cells (by omega)).trans h1, h2.keep hk, h3⟩ }

theorem outline_visits {fl : Nat} {base : AH} {tm : Tm} {right : Bool} {k0 : Kn} {S : List Sp} (hf : fl ≤ base.n) (t3 : tg tm 3 = .ptr (base.n + 1) 0) (t5 : tg tm 5 = .ptr (base.n + 2) 0) (t7 : tg tm 7 = .ptr (base.n + 4) 0)
    (hS : S.length ≤ 1000) (hx : -100000 ≤ k0.x ∧ k0.x ≤ 100000) (hy : -100000 ≤ k0.y ∧ k0.y ≤ 100000) :
    Visits fl (base.n + 6) S (OutI base ⟨.ready, .none, tm, [23], (.region [oo 8 (.alloc [.int .u8 0, .bool false]), ⟨none, .store 2 (.t 8) (.t 23), none⟩]), (.block 1 (.seq (.region [oo 24 (.load 2 true (.t 5)), oo 25 (.fieldAddr 0 (.t 8)), oo 26 (.load 1 false (.t 25)), oo 27 (.fieldAddr 1 (.t 8)), oo 28 (.load 1 false (.t 27)), oo 29 (.load 1 false (.t 3)), ⟨some 30, .bin .eql (.eq ⟨false, [.b]⟩) (.t 28) (.t 29), none⟩, oo 31 (.call 176 [(.t 24), (.t 26), (.t 30)]), ⟨none, .store 2 (.t 5) (.t 31), none⟩]) (.region [oo 32 (.load 1 false (.t 7)), oo 33 (.load 2 true (.t 5)), oo 34 (.buildSl 2 1 [.int .i64 0, .int .i64 0] [(0, 2, (.t 33))]), oo 35 (.append 2 16 none (.t 32) (.t 34)), ⟨none, .store 1 (.t 7) (.t 35), none⟩])))⟩ right k0 S) (OutF base) where
  keep k h' h'' x hk := x.keeps hk
  fl k h' x := by have := x.n; omega
  frame k h' h'' x hk j hj := by
    have hn := x.n
    obtain ⟨out, h1, h2, h3⟩ := x.out
    rcases hj with h | h | h | ⟨o, h4, h5⟩
    · exact ⟨by omega, .inl h⟩
    · exact ⟨by omega, .inr (.inl h)⟩
    · exact ⟨by omega, .inr (.inr (.inl h))⟩
    · rw [hk.cells (by omega), h1] at h4
      simp only [Option.some.injEq, List.cons.injEq, and_true] at h4
      subst h4
      exact ⟨h2.lt h5, .inr (.inr (.inr ⟨out, h1, h5⟩))⟩
  step k g x hk := by
    have hn := x.n
    have hloop := x.loop
    have hway := x.way
    have hplace := x.place
    obtain ⟨out, hout, hvo, hown, o1, o2, o4, o6⟩ := x.out
    have hlb := lastOf_bd right (S.take k) k0
    have hrb := rise_bd (S.take k)
    have hsn := walkOf_snoc right k0 (S.take k) S[k]
    have hln := lastOf_snoc right k0 (S.take k) S[k]
    rw [← List.take_succ_eq_append_getElem hk] at hsn hln
    rw [List.length_take] at hlb hrb
    generalize hK : lastOf right k0 (S.take k) = K at *
    refine Yl.code (by omega) hloop rfl ?_
    simp (maxSteps := 10000000) (disch := first | omega | (simp only [AH.push_n, AH.set_n]; first | done | omega)) only [go_sem, Nat.reduceEqDiff, Nat.reduceAdd, t3, t5, hloop, hway, hplace]
    generalize hL : (⟨.busy, .none, tm, [23], (.region [oo 8 (.alloc [.int .u8 0, .bool false]), ⟨none, .store 2 (.t 8) (.t 23), none⟩]), (.block 1 (.seq (.region [oo 24 (.load 2 true (.t 5)), oo 25 (.fieldAddr 0 (.t 8)), oo 26 (.load 1 false (.t 25)), oo 27 (.fieldAddr 1 (.t 8)), oo 28 (.load 1 false (.t 27)), oo 29 (.load 1 false (.t 3)), ⟨some 30, .bin .eql (.eq ⟨false, [.b]⟩) (.t 28) (.t 29), none⟩, oo 31 (.call 176 [(.t 24), (.t 26), (.t 30)]), ⟨none, .store 2 (.t 5) (.t 31), none⟩]) (.region [oo 32 (.load 1 false (.t 7)), oo 33 (.load 2 true (.t 5)), oo 34 (.buildSl 2 1 [.int .i64 0, .int .i64 0] [(0, 2, (.t 33))]), oo 35 (.append 2 16 none (.t 32) (.t 34)), ⟨none, .store 1 (.t 7) (.t 35), none⟩])))⟩ : ALoop) = lb at *
    have n1 : (((g.push (.cells [.int .u8 0, .bool false])).set g.n (.cells [.int .u8 S[k].c, .bool S[k].o])).set (base.n + 6) (.loop lb)).n = g.n + 1 := rfl
    have k1 : Keep base (((g.push (.cells [.int .u8 0, .bool false])).set g.n (.cells [.int .u8 S[k].c, .bool S[k].o])).set (base.n + 6) (.loop lb)) := ((x.keep.push _).set (by omega) _).set (by omega) _
    have w1 : (((g.push (.cells [.int .u8 0, .bool false])).set g.n (.cells [.int .u8 S[k].c, .bool S[k].o])).set (base.n + 6) (.loop lb)).cells (base.n + 1) = some [.bool right] := by simp (maxSteps := 10000000) (disch := first | omega | (simp only [AH.push_n, AH.set_n]; first | done | omega)) only [go_sem, hway]
    have p1 : (((g.push (.cells [.int .u8 0, .bool false])).set g.n (.cells [.int .u8 S[k].c, .bool S[k].o])).set (base.n + 6) (.loop lb)).cells (base.n + 2) = some [.int .i64 K.x, .int .i64 K.y] := by simp (maxSteps := 10000000) (disch := first | omega | (simp only [AH.push_n, AH.set_n]; first | done | omega)) only [go_sem, hplace]
    have u1 : (((g.push (.cells [.int .u8 0, .bool false])).set g.n (.cells [.int .u8 S[k].c, .bool S[k].o])).set (base.n + 6) (.loop lb)).cells (base.n + 4) = some [out] := by simp (maxSteps := 10000000) (disch := first | omega | (simp only [AH.push_n, AH.set_n]; first | done | omega)) only [go_sem, hout]
    have l1 : (((g.push (.cells [.int .u8 0, .bool false])).set g.n (.cells [.int .u8 S[k].c, .bool S[k].o])).set (base.n + 6) (.loop lb)).get (base.n + 6) = some (.loop lb) := AH.get_set_eq
    have v1 : Vw KnE (((g.push (.cells [.int .u8 0, .bool false])).set g.n (.cells [.int .u8 S[k].c, .bool S[k].o])).set (base.n + 6) (.loop lb)) out (walkOf right k0 (S.take k)) :=
      (hvo.congr (h' := (g.push (.cells [.int .u8 0, .bool false])).set g.n (.cells [.int .u8 S[k].c, .bool S[k].o])) (by simp) fun i e => by
        have := hvo.lt e
        rw [AH.get_set_ne (by omega), AH.get_push_lt this]).set _ o6
    have fr1 : ∀ j, j < g.n → j ≠ base.n + 6 → (((g.push (.cells [.int .u8 0, .bool false])).set g.n (.cells [.int .u8 S[k].c, .bool S[k].o])).set (base.n + 6) (.loop lb)).get j = g.get j := fun j hj hne => by
      rw [AH.get_set_ne hne, AH.get_set_ne (by omega), AH.get_push_lt hj]
    generalize ((g.push (.cells [.int .u8 0, .bool false])).set g.n (.cells [.int .u8 S[k].c, .bool S[k].o])).set (base.n + 6) (.loop lb) = g1 at *
    refine ClS.by (after_cl (by omega) K S[k].c (S[k].o == right) (by omega) (by omega)) ?_
    rintro r g2 ⟨rfl, hk2⟩
    rw [afterK_eq]
    have hn2 := hk2.n
    have p2 := (hk2.cells (i := base.n + 2) (by omega)).trans p1
    have u2 := (hk2.cells (i := base.n + 4) (by omega)).trans u1
    have w2 := (hk2.cells (i := base.n + 1) (by omega)).trans w1
    have l2 := (hk2.get (base.n + 6) (by omega)).trans l1
    have v2 := v1.keep hk2
    simp (maxSteps := 10000000) (disch := first | omega | (simp only [AH.push_n, AH.set_n]; first | done | omega)) only [go_sem, Nat.reduceEqDiff, Nat.reduceAdd, t5, t7, p2, u2]
    refine append_to (E := KnE) ((v2.set _ o2).push _) (hown.mono hf) (by simp; omega) Vw.kn1 ?_ ?_
    · simp only [walkOf_len, List.length_take, List.length_cons, List.length_nil, maxRow]; omega
    intro r g5 ha
    have hn5 := ha.n
    simp only [AH.push_n, AH.set_n] at hn5
    have u5 : g5.cells (base.n + 4) = some [out] := (ha.cells (by simp; omega) o4).trans (by simp (maxSteps := 10000000) (disch := first | omega | (simp only [AH.push_n, AH.set_n]; first | done | omega)) only [go_sem, u2])
    have w5 : g5.cells (base.n + 1) = some [.bool right] := (ha.cells (by simp; omega) o1).trans (by simp (maxSteps := 10000000) (disch := first | omega | (simp only [AH.push_n, AH.set_n]; first | done | omega)) only [go_sem, w2])
    have p5 : g5.cells (base.n + 2) = some [.int .i64 (stepK right K S[k]).x, .int .i64 (stepK right K S[k]).y] := (ha.cells (by simp; omega) o2).trans (by simp (maxSteps := 10000000) (disch := first | omega | (simp only [AH.push_n, AH.set_n]; first | done | omega)) only [go_sem])
    have l5 : g5.get (base.n + 6) = some (.loop lb) := (ha.old _ (by simp; omega) o6).1.trans (by simp (maxSteps := 10000000) (disch := first | omega | (simp only [AH.push_n, AH.set_n]; first | done | omega)) only [go_sem, l2])
    obtain ⟨rid, hr, hrn⟩ := ha.form (by simp)
    have hrn' : g2.n ≤ rid := by simp at hrn; omega
    subst hr
    subst hL
    simp (maxSteps := 10000000) (disch := first | omega | (simp only [AH.push_n, AH.set_n]; first | done | omega)) only [go_sem, Nat.reduceEqDiff, t7, u5, l5]
    have hor : Own base.n (.sl rid 0 ((walkOf right k0 (S.take k)).length + 1) KnE.es) := Own.sl (by omega)
    have hvr := ha.vw
    rw [← hsn] at hvr
    have off : ∀ i, i < g2.n → Off (.sl rid 0 ((walkOf right k0 (S.take k)).length + 1) KnE.es) i := fun i hi => Off.sl (by omega)
    refine ⟨{ n := by simp; omega, keep := ?_, loop := AH.get_set_eq, way := ?_, place := ?_, out := ⟨_, ?_, (hvr.set _ (off _ (by omega))).set _ (off _ (by omega)), hor, off _ (by omega), off _ (by omega), off _ (by omega), off _ (by omega)⟩ }, by omega, ?_⟩
    · exact ((ha.keep (((k1.trans hk2).set (by omega) _).push _) hown).set (by omega) _).set (by omega) _
    · simp (maxSteps := 10000000) (disch := first | omega | (simp only [AH.push_n, AH.set_n]; first | done | omega)) only [go_sem, w5]
    · rw [hln]; simp (maxSteps := 10000000) (disch := first | omega | (simp only [AH.push_n, AH.set_n]; first | done | omega)) only [go_sem, p5]
    · simp (maxSteps := 10000000) (disch := first | omega | (simp only [AH.push_n, AH.set_n]; first | done | omega)) only [go_sem]
    · intro j hj hf
      have f2 : j ≠ base.n + 2 := fun e => hf (.inl e)
      have f4 : j ≠ base.n + 4 := fun e => hf (.inr (.inl e))
      have f6 : j ≠ base.n + 6 := fun e => hf (.inr (.inr (.inl e)))
      have fo : Off out j := fun e => hf (.inr (.inr (.inr ⟨out, hout, e⟩)))
      refine ⟨?_, ?_⟩
      · rw [AH.get_set_ne f6, AH.get_set_ne f4, (ha.old j (by simp; omega) fo).1, AH.get_push_lt (by simp; omega), AH.get_set_ne f2, hk2.get j (by omega), fr1 j hj f6]
      · rintro (e | e | e | ⟨o, e1, e2⟩)
        · exact f2 e
        · exact f4 e
        · exact f6 e
        · rw [AH.cells_set_ne (by omega), AH.cells_set_eq] at e1
          simp only [Option.some.injEq, List.cons.injEq, and_true] at e1
          subst e1
          simp only [addrId, Option.some.injEq] at e2
          omega

structure SideFit (l : List Ed) : Prop where
  len : l.length ≤ 64
  times : ∀ e ∈ l, 1 ≤ e.t ∧ e.t ≤ 64
  words : ∀ e ∈ l, e.w.length ≤ 64
  steps : (stepsOf l).length ≤ 512
theorem SideOk.fit {l : List Ed} (s : SideOk l) : SideFit l :=
  ⟨s.len, fun e he => by obtain ⟨_, _, _, h⟩ := edgeErr_ok (edgesErr_all s.edges e he); exact h, fun e he => (edgeErr_ok (edgesErr_all s.edges e he)).2.1, s.steps⟩

theorem outlineLoop_cl {fl : Nat} {base g : AH} {tm : Tm} {l out : AVal} {es : List Ed} {right : Bool} {k0 : Kn} (hf : fl ≤ base.n) (hgn : g.n = base.n + 6) (hkg : Keep base g)
    (hway : g.cells (base.n + 1) = some [.bool right]) (hplace : g.cells (base.n + 2) = some [.int .i64 k0.x, .int .i64 k0.y]) (hout : g.cells (base.n + 4) = some [out]) (hb : g.cells (base.n + 5) = some [l])
    (hvo : Vw KnE g out [k0]) (hao : addrId out = some (base.n + 3)) (hvl : Vw EdE base l es) (fit : SideFit es)
    (t3 : tg tm 3 = .ptr (base.n + 1) 0) (t5 : tg tm 5 = .ptr (base.n + 2) 0) (t7 : tg tm 7 = .ptr (base.n + 4) 0) (hx : -100000 ≤ k0.x ∧ k0.x ≤ 100000) (hy : -100000 ≤ k0.y ∧ k0.y ≤ 100000) :
    Cl T fl 180 [.yld (base.n + 6), .ptr (base.n + 5) 0] (g.push (.loop ⟨.ready, .none, tm, [23], (.region [oo 8 (.alloc [.int .u8 0, .bool false]), ⟨none, .store 2 (.t 8) (.t 23), none⟩]), (.block 1 (.seq (.region [oo 24 (.load 2 true (.t 5)), oo 25 (.fieldAddr 0 (.t 8)), oo 26 (.load 1 false (.t 25)), oo 27 (.fieldAddr 1 (.t 8)), oo 28 (.load 1 false (.t 27)), oo 29 (.load 1 false (.t 3)), ⟨some 30, .bin .eql (.eq ⟨false, [.b]⟩) (.t 28) (.t 29), none⟩, oo 31 (.call 176 [(.t 24), (.t 26), (.t 30)]), ⟨none, .store 2 (.t 5) (.t 31), none⟩]) (.region [oo 32 (.load 1 false (.t 7)), oo 33 (.load 2 true (.t 5)), oo 34 (.buildSl 2 1 [.int .i64 0, .int .i64 0] [(0, 2, (.t 33))]), oo 35 (.append 2 16 none (.t 32) (.t 34)), ⟨none, .store 1 (.t 7) (.t 35), none⟩])))⟩)) fun _ h' =>
      OutI base ⟨.ready, .none, tm, [23], (.region [oo 8 (.alloc [.int .u8 0, .bool false]), ⟨none, .store 2 (.t 8) (.t 23), none⟩]), (.block 1 (.seq (.region [oo 24 (.load 2 true (.t 5)), oo 25 (.fieldAddr 0 (.t 8)), oo 26 (.load 1 false (.t 25)), oo 27 (.fieldAddr 1 (.t 8)), oo 28 (.load 1 false (.t 27)), oo 29 (.load 1 false (.t 3)), ⟨some 30, .bin .eql (.eq ⟨false, [.b]⟩) (.t 28) (.t 29), none⟩, oo 31 (.call 176 [(.t 24), (.t 26), (.t 30)]), ⟨none, .store 2 (.t 5) (.t 31), none⟩]) (.region [oo 32 (.load 1 false (.t 7)), oo 33 (.load 2 true (.t 5)), oo 34 (.buildSl 2 1 [.int .i64 0, .int .i64 0] [(0, 2, (.t 33))]), oo 35 (.append 2 16 none (.t 32) (.t 34)), ⟨none, .store 1 (.t 7) (.t 35), none⟩])))⟩ right k0 (stepsOf es) (stepsOf es).length h' := by
  have hof : ∀ i, i ≠ base.n + 3 → Off out i := fun i hi e => hi (by rw [hao] at e; simp at e; omega)
  have hown : Own base.n out := fun i e => by rw [hao] at e; simp at e; omega
  have hF : ∀ j, OutF base (g.push (.loop ⟨.ready, .none, tm, [23], (.region [oo 8 (.alloc [.int .u8 0, .bool false]), ⟨none, .store 2 (.t 8) (.t 23), none⟩]), (.block 1 (.seq (.region [oo 24 (.load 2 true (.t 5)), oo 25 (.fieldAddr 0 (.t 8)), oo 26 (.load 1 false (.t 25)), oo 27 (.fieldAddr 1 (.t 8)), oo 28 (.load 1 false (.t 27)), oo 29 (.load 1 false (.t 3)), ⟨some 30, .bin .eql (.eq ⟨false, [.b]⟩) (.t 28) (.t 29), none⟩, oo 31 (.call 176 [(.t 24), (.t 26), (.t 30)]), ⟨none, .store 2 (.t 5) (.t 31), none⟩]) (.region [oo 32 (.load 1 false (.t 7)), oo 33 (.load 2 true (.t 5)), oo 34 (.buildSl 2 1 [.int .i64 0, .int .i64 0] [(0, 2, (.t 33))]), oo 35 (.append 2 16 none (.t 32) (.t 34)), ⟨none, .store 1 (.t 7) (.t 35), none⟩])))⟩)) j → j = base.n + 2 ∨ j = base.n + 4 ∨ j = base.n + 6 ∨ j = base.n + 3 := by
    rintro j (e | e | e | ⟨o, e1, e2⟩)
    · exact .inl e
    · exact .inr (.inl e)
    · exact .inr (.inr (.inl e))
    · rw [AH.cells_push_lt (by omega), hout] at e1
      simp only [Option.some.injEq, List.cons.injEq, and_true] at e1
      subst e1
      rw [hao] at e2
      simp at e2
      omega
  refine Cl.mono (lettersVisit_cl (outline_visits (base := base) hf t3 t5 t7 (by have := fit.steps; omega) hx hy) ?_ (hvl.keep (hkg.push _)) (by rw [AH.cells_push_lt (by omega)]; exact hb) (by simp; omega) ?_ ?_ fit.len fit.times fit.words) fun _ _ x => x.1
  · exact { n := by simp; omega, keep := hkg.push _, loop := AH.get_push_eq (by omega), way := by rw [AH.cells_push_lt (by omega)]; exact hway, place := by rw [AH.cells_push_lt (by omega)]; exact hplace
            out := ⟨out, by rw [AH.cells_push_lt (by omega)]; exact hout, hvo.push _, hown, hof _ (by omega), hof _ (by omega), hof _ (by omega), hof _ (by omega)⟩ }
  · intro e
    rcases hF _ e with e | e | e | e <;> omega
  · intro i e
    have := hvl.lt e
    intro e
    rcases hF _ e with e | e | e | e <;> omega

theorem pOutline_cl {fl : Nat} {h : AH} {l r : AVal} {p : Pn} (hf : fl ≤ h.n) (hv : PV h l r p) (sl : SideFit p.left) (sr : SideFit p.right) (hw : 1 ≤ p.width ∧ p.width ≤ 128) (right : Bool) :
    Cl T fl 111 [.agg [.str p.name, .int .i64 p.width, l, r], .bool right] h fun x h' => Vw KnE h' x (outlineOf p right) ∧ Keep h h' ∧ Own h.n x := by
  refine Cl.code (fn := F111) rfl rfl ?_
  simp only [F111]
  have hlc := hv.left.one
  have hrc := hv.right.one
  have hwm : wrapK .i64 (2 * p.width) = 2 * p.width := wrapK_i64 (by omega) (by omega)
  cases right
  · simp (maxSteps := 10000000) (disch := first | omega | (simp only [AH.push_n, AH.set_n]; first | done | omega)) only [go_sem, reduceCtorEq, Nat.reduceEqDiff, Nat.reduceAdd]
    refine ClS.by (letters_cl l hlc.1) ?_
    rintro x g ⟨rfl, rfl⟩
    simp (maxSteps := 10000000) (disch := first | omega | (simp only [AH.push_n, AH.set_n]; first | done | omega)) only [go_sem]
    refine ClS.by (outlineLoop_cl (base := h) (right := false) (k0 := ⟨0, 0⟩) (es := p.left) (out := .sl (h.n + 3) 0 1 2) hf ?_ ?_ ?_ ?_ ?_ ?_ ?_ rfl hv.left sl ?_ ?_ ?_ ?_ ?_) ?_
    · simp
    · exact (((((((Keep.refl h).push _).push _).push _).set (by omega) _).push _).push _).set (by omega) _ |>.push _
    · simp (maxSteps := 10000000) (disch := first | omega | (simp only [AH.push_n, AH.set_n]; first | done | omega)) only [go_sem]
    · simp (maxSteps := 10000000) (disch := first | omega | (simp only [AH.push_n, AH.set_n]; first | done | omega)) only [go_sem]
    · simp (maxSteps := 10000000) (disch := first | omega | (simp only [AH.push_n, AH.set_n]; first | done | omega)) only [go_sem]
    · simp (maxSteps := 10000000) (disch := first | omega | (simp only [AH.push_n, AH.set_n]; first | done | omega)) only [go_sem]
    · exact (((Vw.kn1.push _).set _ (Off.sl (by simp; try omega))).push _)
    · simp (maxSteps := 10000000) (disch := first | omega | (simp only [AH.push_n, AH.set_n]; first | done | omega)) only [go_sem, Nat.reduceEqDiff]
    · simp (maxSteps := 10000000) (disch := first | omega | (simp only [AH.push_n, AH.set_n]; first | done | omega)) only [go_sem, Nat.reduceEqDiff]
    · simp (maxSteps := 10000000) (disch := first | omega | (simp only [AH.push_n, AH.set_n]; first | done | omega)) only [go_sem, Nat.reduceEqDiff]
    · simp; try omega
    · simp
    rintro x g hI
    have hloop := hI.loop
    have hn := hI.n
    obtain ⟨out, hout, hvo, hown, _, _, _, o6⟩ := hI.out
    simp (maxSteps := 10000000) (disch := first | omega | (simp only [AH.push_n, AH.set_n]; first | done | omega)) only [go_sem, Nat.reduceEqDiff, hloop, hout]
    rw [List.take_length] at hvo
    exact ⟨hvo.set _ o6, hI.keep.set (by omega) _, hown⟩
  · simp (maxSteps := 10000000) (disch := first | omega | (simp only [AH.push_n, AH.set_n]; first | done | omega)) only [go_sem, reduceCtorEq, Nat.reduceEqDiff, Nat.reduceAdd, Nat.reduceLeDiff, hwm]
    refine ClS.by (letters_cl r hrc.1) ?_
    rintro x g ⟨rfl, rfl⟩
    simp (maxSteps := 10000000) (disch := first | omega | (simp only [AH.push_n, AH.set_n]; first | done | omega)) only [go_sem]
    refine ClS.by (outlineLoop_cl (base := h) (right := true) (k0 := ⟨2 * p.width, 0⟩) (es := p.right) (out := .sl (h.n + 3) 0 1 2) hf ?_ ?_ ?_ ?_ ?_ ?_ ?_ rfl hv.right sr ?_ ?_ ?_ ?_ ?_) ?_
    · simp
    · exact ((((((((Keep.refl h).push _).push _).push _).set (by omega) _).set (by omega) _).push _).push _).set (by omega) _ |>.push _
    · simp (maxSteps := 10000000) (disch := first | omega | (simp only [AH.push_n, AH.set_n]; first | done | omega)) only [go_sem]
    · simp (maxSteps := 10000000) (disch := first | omega | (simp only [AH.push_n, AH.set_n]; first | done | omega)) only [go_sem]
    · simp (maxSteps := 10000000) (disch := first | omega | (simp only [AH.push_n, AH.set_n]; first | done | omega)) only [go_sem]
    · simp (maxSteps := 10000000) (disch := first | omega | (simp only [AH.push_n, AH.set_n]; first | done | omega)) only [go_sem]
    · exact (((Vw.kn1.push _).set _ (Off.sl (by simp; try omega))).push _)
    · simp (maxSteps := 10000000) (disch := first | omega | (simp only [AH.push_n, AH.set_n]; first | done | omega)) only [go_sem, Nat.reduceEqDiff]
    · simp (maxSteps := 10000000) (disch := first | omega | (simp only [AH.push_n, AH.set_n]; first | done | omega)) only [go_sem, Nat.reduceEqDiff]
    · simp (maxSteps := 10000000) (disch := first | omega | (simp only [AH.push_n, AH.set_n]; first | done | omega)) only [go_sem, Nat.reduceEqDiff]
    · simp; try omega
    · simp
    rintro x g hI
    have hloop := hI.loop
    have hn := hI.n
    obtain ⟨out, hout, hvo, hown, _, _, _, o6⟩ := hI.out
    simp (maxSteps := 10000000) (disch := first | omega | (simp only [AH.push_n, AH.set_n]; first | done | omega)) only [go_sem, Nat.reduceEqDiff, hloop, hout]
    rw [List.take_length] at hvo
    exact ⟨hvo.set _ o6, hI.keep.set (by omega) _, hown⟩
end Go.Proofs.YtndlfkibcelhmaaGreatDoor.Ai
end
section
namespace Go.Proofs.YtndlfkibcelhmaaGreatDoor.Ai
open Go
set_option maxRecDepth 10000
set_option maxHeartbeats 4000000
set_option linter.all false
set_option pp.maxSteps 1200

theorem refReach_cl {fl : Nat} {h : AH} {v : AVal} {l : List Kn} (hf : fl ≤ h.n) (row : Int) (hv : Vw KnE h v l) (hl : l.length ≤ 100000) :
    Cl T fl 163 [v, .int .i64 row] h fun r h' => r = .agg [.int .i64 (reachOf l row).1, .int .i64 (reachOf l row).2] ∧ Keep h h' := by
  refine Cl.code (fn := F163) rfl rfl ?_
  simp only [F163]
  simp (maxSteps := 10000000) (disch := first | omega | (simp only [AH.push_n, AH.set_n]; first | done | omega)) only [go_sem, Nat.reduceAdd, Int.reduceNeg]
  refine wS_loop (fun m ts h' => ∃ k, k ≤ l.length ∧ m = l.length - k ∧ h' = h.push (.cells [.int .i64 0, .int .i64 0]) ∧ tg ts 0 = v ∧ tg ts 1 = .int .i64 row ∧ tg ts 4 = .ptr h.n 0 ∧ tg ts 5 = .int .i64 (reachTo l row k).1 ∧ tg ts 6 = .int .i64 (reachTo l row k).2 ∧ tg ts 7 = .int .i64 k) l.length
    ⟨0, by omega, by omega, rfl, by simp, by simp, by simp, by simp [reachTo], by simp [reachTo], by simp⟩ ?_
  rintro m ts h' ⟨k, hk, rfl, rfl, t0, t1, t4, t5, t6, t7⟩
  have hv' := hv.push (.cells [.int .i64 0, .int .i64 0])
  by_cases hlt : k < l.length
  · obtain ⟨id, off, vs, rfl, hid, hc, r0, r1, r2⟩ := hv.kn hlt
    have e2 : (k : Int) < l.length := by omega
    have e20 : (0 : Int) < l.length := by omega
    have hg : l.getD k ⟨0, 0⟩ = l[k] := by simp [List.getD_eq_getElem?_getD, List.getElem?_eq_getElem hlt]
    have hstep : reachTo l row (k + 1) = if inRow l k row then (min (reachTo l row k).1 l[k].x, max (reachTo l row k).2 l[k].x) else reachTo l row k := by rw [reachTo, hg]
    generalize reachTo l row k = R at *
    by_cases hk0 : k = 0
    · subst hk0
      have hin : inRow l 0 row ↔ l[0].y = row := by unfold inRow; rw [hg]; simp
      simp only [hin] at hstep
      simp only [Nat.zero_mul, Nat.add_zero] at r0 r1
      (simp (maxSteps := 10000000) (disch := first | omega | (simp only [AH.push_n, AH.set_n]; first | done | omega)) only [go_sem, reduceCtorEq, Nat.reduceEqDiff, Int.reduceToNat, t0, t1, t7, e20, hlt, hc, r1, Int.natCast_zero]); repeat' (refine condS_pick (fun b hb => ?_); rw [hb]; (cases b <;> simp only [decide_eq_true_eq, decide_eq_false_iff_not] at hb) <;> first | (exfalso; omega) | simp (maxSteps := 10000000) (disch := first | omega | (simp only [AH.push_n, AH.set_n]; first | done | omega)) only [go_sem, reduceCtorEq, Nat.reduceEqDiff, Int.reduceAdd, Int.reduceLT, Int.reduceToNat, t0, t1, t4, t5, t6, t7, hlt, hc, r0, Int.natCast_zero])
      all_goals
        refine ⟨_, ?_, 0 + 1, by omega, rfl, ?_⟩
        · omega
        · rw [hstep]; simp [hb]
    · have e5 : ((k : Int) - 1).toNat = k - 1 := by omega
      have e6 : (0 : Int) < k := by omega
      have e7 : k - 1 < l.length := by omega
      obtain ⟨q0, q1⟩ := hv.kn2 hc e7
      have hg2 : l.getD (k - 1) ⟨0, 0⟩ = l[k - 1] := by simp [List.getD_eq_getElem?_getD, List.getElem?_eq_getElem e7]
      have hin : inRow l k row ↔ l[k].y = row ∨ (l[k - 1].y < row ∧ row < l[k].y) := by unfold inRow; rw [hg, hg2]; simp [show 0 < k by omega]
      simp only [hin] at hstep
      (simp (maxSteps := 10000000) (disch := first | omega | (simp only [AH.push_n, AH.set_n]; first | done | omega)) only [go_sem, reduceCtorEq, Nat.reduceEqDiff, t0, t1, t7, e2, hlt, hc, r1]); repeat' (refine condS_pick (fun b hb => ?_); rw [hb]; (cases b <;> simp only [decide_eq_true_eq, decide_eq_false_iff_not] at hb) <;> first | (exfalso; omega) | simp (maxSteps := 10000000) (disch := first | omega | (simp only [AH.push_n, AH.set_n]; first | done | omega)) only [go_sem, reduceCtorEq, Nat.reduceEqDiff, t0, t1, t4, t5, t6, t7, hlt, hc, r0, r1, e5, e6, e7, q1])
      all_goals
        refine ⟨_, ?_, k + 1, by omega, rfl, ?_⟩
        · omega
        · rw [hstep]
          first
            | (rw [if_pos (by omega)]; exact ⟨rfl, rfl, by omega⟩)
            | (rw [if_neg (by omega)]; exact ⟨rfl, rfl, by omega⟩)
  · have : k = l.length := by omega
    subst this
    have e2 : ¬ (l.length : Int) < l.length := by omega
    simp (maxSteps := 10000000) (disch := first | omega | (simp only [AH.push_n, AH.set_n]; first | done | omega)) only [go_sem, reduceCtorEq, Nat.reduceEqDiff, Nat.reduceAdd, Nat.reduceLeDiff, t0, t4, t5, t6, t7, hv.len, e2]
    exact ⟨⟨rfl, rfl⟩, ((Keep.refl h).push _).set (Nat.le_refl _) _⟩

theorem crosses_cl {fl : Nat} {h : AH} {v u : AVal} {l r : List Kn} (hf : fl ≤ h.n) (n : Nat) (hv : Vw KnE h v l) (hu : Vw KnE h u r) (hl : l.length ≤ 100000) (hr : r.length ≤ 100000) (hn : n ≤ 100000)
    (hbl : ∀ row, -1000000000 ≤ (reachOf l row).2 ∧ (reachOf l row).2 ≤ 1000000000) (hbr : ∀ row, -1000000000 ≤ (reachOf r row).1 ∧ (reachOf r row).1 ≤ 1000000000) :
    Cl T fl 96 [v, u, .int .i64 n] h fun x h' => x = .bool (crossTo l r (n + 1)) ∧ Keep h h' := by
  refine Cl.code (fn := F96) rfl rfl ?_
  simp only [F96]
  simp (maxSteps := 10000000) (disch := first | omega | (simp only [AH.push_n, AH.set_n]; first | done | omega)) only [go_sem, Nat.reduceAdd]
  refine wS_loop (fun m ts h' => ∃ k, k ≤ n + 1 ∧ m = n + 1 - k ∧ Keep h h' ∧ tg ts 0 = v ∧ tg ts 1 = u ∧ tg ts 2 = .int .i64 n ∧ tg ts 7 = .int .i64 k ∧ crossTo l r k = false) (n + 1) ⟨0, by omega, by omega, Keep.refl h, by simp, by simp, by simp, by simp, rfl⟩ ?_
  rintro m ts h' ⟨k, hk, rfl, hkp, t0, t1, t2, t7, hz⟩
  by_cases hlt : k ≤ n
  · have e2 : (k : Int) ≤ n := by omega
    simp (maxSteps := 10000000) (disch := first | omega | (simp only [AH.push_n, AH.set_n]; first | done | omega)) only [go_sem, Nat.reduceEqDiff, t1, t2, t7, e2]
    refine ClS.by (refReach_cl (Nat.le_trans hf hkp.n) k (hu.keep hkp) hr) ?_
    rintro x h2 ⟨rfl, hk2⟩
    simp (maxSteps := 10000000) (disch := first | omega | (simp only [AH.push_n, AH.set_n]; first | done | omega)) only [go_sem, reduceCtorEq, Nat.reduceEqDiff, Nat.reduceLT, Int.reduceToNat, t0, t7]
    refine ClS.by (refReach_cl (Nat.le_trans hf (hkp.trans hk2).n) k (hv.keep (hkp.trans hk2)) hl) ?_
    rintro x h3 ⟨rfl, hk3⟩
    have := hbl k
    have := hbr k
    (simp (maxSteps := 10000000) (disch := first | omega | (simp only [AH.push_n, AH.set_n]; first | done | omega)) only [go_sem, Nat.reduceEqDiff, Nat.reduceLT, Int.reduceToNat]); repeat' (refine condS_pick (fun b hb => ?_); rw [hb]; (cases b <;> simp only [decide_eq_true_eq, decide_eq_false_iff_not] at hb) <;> first | (exfalso; omega) | simp (maxSteps := 10000000) (disch := first | omega | (simp only [AH.push_n, AH.set_n]; first | done | omega)) only [go_sem, reduceCtorEq, Nat.reduceEqDiff, t0, t1, t2, t7])
    · refine ⟨_, ?_, k + 1, by omega, rfl, (hkp.trans hk2).trans hk3, by omega, ?_⟩
      · omega
      · simp only [crossTo, hz, Bool.false_or]; exact decide_eq_false hb
    · refine ⟨?_, (hkp.trans hk2).trans hk3⟩
      have : crossTo l r (k + 1) = true := by simp only [crossTo]; rw [show decide (crossAt l r k) = true from decide_eq_true hb]; simp
      exact (crossTo_mono (by omega) this).symm
  · have : k = n + 1 := by omega
    subst this
    have e2 : ¬ ((n + 1 : Nat) : Int) ≤ n := by omega
    simp (maxSteps := 10000000) (disch := first | omega | (simp only [AH.push_n, AH.set_n]; first | done | omega)) only [go_sem, Nat.reduceEqDiff, t2, t7]
    first
      | exact ⟨hz.symm, hkp⟩
      | (have e3 : ¬ ((n : Int) + 1 ≤ n) := by omega
         simp (maxSteps := 10000000) (disch := first | omega | (simp only [AH.push_n, AH.set_n]; first | done | omega)) only [go_sem, e3]
         exact ⟨hz.symm, hkp⟩)
end Go.Proofs.YtndlfkibcelhmaaGreatDoor.Ai
end
section
namespace Go.Proofs.YtndlfkibcelhmaaGreatDoor.Ai
open Go
set_option maxRecDepth 10000
set_option maxHeartbeats 4000000
set_option linter.all false
set_option pp.maxSteps 1200

structure PSmall (p : Pn) : Prop where
  name : p.name.length < 1000000
  left : ∀ e ∈ p.left, e.w.length < 1000000
  right : ∀ e ∈ p.right, e.w.length < 1000000

theorem walkOf_bd (right : Bool) : ∀ (l : List Sp) (k : Kn), ∀ q ∈ walkOf right k l, k.x - 2 * l.length ≤ q.x ∧ q.x ≤ k.x + 2 * l.length
  | [], k, q, hq => by simp only [walkOf, List.mem_singleton] at hq; subst hq; simp
  | s :: l, k, q, hq => by
    simp only [walkOf, List.mem_cons] at hq
    simp only [List.length_cons, Int.natCast_add, Int.natCast_one]
    rcases hq with rfl | hq
    · omega
    · have := walkOf_bd right l _ q hq
      have := stepK_bd right k s
      omega
theorem reachTo_bd {l : List Kn} (h : ∀ q ∈ l, -100000 ≤ q.x ∧ q.x ≤ 100000) (row : Int) : ∀ n, -1000000000 ≤ (reachTo l row n).1 ∧ (reachTo l row n).1 ≤ 1000000000 ∧ -1000000000 ≤ (reachTo l row n).2 ∧ (reachTo l row n).2 ≤ 1000000000
  | 0 => by simp [reachTo]
  | n + 1 => by
    have ih := reachTo_bd h row n
    have hx : -100000 ≤ (l.getD n ⟨0, 0⟩).x ∧ (l.getD n ⟨0, 0⟩).x ≤ 100000 := by
      rw [List.getD_eq_getElem?_getD]
      cases e : l[n]? with
      | none => simp
      | some q => exact h q (List.mem_of_getElem? e)
    simp only [reachTo]
    split
    · simp only; omega
    · exact ih
theorem outlineOf_bd {p : Pn} (sl : SideOk p.left) (sr : SideOk p.right) (hw : 1 ≤ p.width ∧ p.width ≤ 128) (right : Bool) : ∀ q ∈ outlineOf p right, -100000 ≤ q.x ∧ q.x ≤ 100000 := by
  intro q hq
  have h1 := sl.steps
  have h2 := sr.steps
  cases right
  · have := walkOf_bd false (stepsOf p.left) ⟨0, 0⟩ q hq
    dsimp only at this; omega
  · have := walkOf_bd true (stepsOf p.right) ⟨2 * p.width, 0⟩ q hq
    dsimp only at this; omega
theorem outlineOf_len {p : Pn} (sl : SideOk p.left) (sr : SideOk p.right) (right : Bool) : (outlineOf p right).length ≤ 513 := by
  have h1 := sl.steps
  have h2 := sr.steps
  cases right <;> simp only [outlineOf, walkOf_len, if_true, Bool.false_eq_true, if_false] <;> omega

theorem refCheckPanel_cl {fl : Nat} {h : AH} {l r : AVal} {p : Pn} (hf : fl ≤ h.n) (hv : PV h l r p) (hs : PSmall p) :
    Cl T fl 22 [.agg [.str p.name, .int .i64 p.width, l, r]] h fun x h' => x = .int .i64 (panelErr p) ∧ Keep h h' := by
  refine Cl.code (fn := F22) rfl rfl ?_
  simp only [F22]
  simp (maxSteps := 10000000) (disch := first | omega | (simp only [AH.push_n, AH.set_n]; first | done | omega)) only [go_sem, Nat.reduceEqDiff]
  have hk0 : Keep h (h.push (.cells [.str p.name, .int .i64 p.width, l, r])) := (Keep.refl h).push _
  have hn0 : h.n < (h.push (.cells [.str p.name, .int .i64 p.width, l, r])).n := by simp
  have hc0 : (h.push (.cells [.str p.name, .int .i64 p.width, l, r])).cells h.n = some [.str p.name, .int .i64 p.width, l, r] := AH.cells_push_eq rfl
  generalize h.push (.cells [.str p.name, .int .i64 p.width, l, r]) = g at *
  refine ClS.by (isName_cl p.name (by have := hs.name; omega)) ?_
  rintro x h1 ⟨rfl, rfl⟩
  cases hname : nameOk p.name with
  | false =>
    simp (maxSteps := 10000000) (disch := first | omega | (simp only [AH.push_n, AH.set_n]; first | done | omega)) only [go_sem]
    exact ⟨by unfold panelErr; rw [if_pos hname], hk0⟩
  | true =>
  simp (maxSteps := 10000000) (disch := first | omega | (simp only [AH.push_n, AH.set_n]; first | done | omega)) only [go_sem, Nat.reduceEqDiff, hc0]
  refine ClS.by (checkRange_cl p.width 1 128) ?_
  rintro x h2 ⟨rfl, rfl⟩
  simp (maxSteps := 10000000) (disch := first | omega | (simp only [AH.push_n, AH.set_n]; first | done | omega)) only [go_sem, Nat.reduceEqDiff, hc0]
  refine ClS.by (refCheckSide_cl (Nat.le_refl _) (hv.left.keep hk0) fun e he => by have := hs.left e he; omega) ?_
  rintro x h3 ⟨rfl, hk3⟩
  have hc3 := (hk3.cells hn0).trans hc0
  have hkk3 := hk0.trans hk3
  simp (maxSteps := 10000000) (disch := first | omega | (simp only [AH.push_n, AH.set_n]; first | done | omega)) only [go_sem, Nat.reduceEqDiff, hc3]
  refine ClS.by (refCheckSide_cl (Nat.le_trans hf hkk3.n) (hv.right.keep hkk3) fun e he => by have := hs.right e he; omega) ?_
  rintro x h4 ⟨rfl, hk4⟩
  have hkk4 := hkk3.trans hk4
  have hn4 : h.n < h4.n := Nat.lt_of_lt_of_le hn0 (hk3.trans hk4).n
  have hc4 := (hk4.cells (Nat.lt_of_lt_of_le hn0 hk3.n)).trans hc3
  simp (maxSteps := 10000000) (disch := first | omega | (simp only [AH.push_n, AH.set_n]; first | done | omega)) only [go_sem, Nat.reduceEqDiff, Nat.reduceAdd, Nat.reduceLeDiff]
  refine ClS.by (first_cl (Vw.new (E := IntE) (g := h4) [rangeErr p.width 1 128, sideErr p.left, sideErr p.right]) (by simp)) ?_
  rintro x h5 ⟨rfl, rfl⟩
  simp (maxSteps := 10000000) (disch := first | omega | (simp only [AH.push_n, AH.set_n]; first | done | omega)) only [go_sem]
  by_cases he : firstErr [rangeErr p.width 1 128, sideErr p.left, sideErr p.right] = 0
  case neg =>
    simp (maxSteps := 10000000) (disch := first | omega | (simp only [AH.push_n, AH.set_n]; first | done | omega)) only [go_sem, Nat.reduceEqDiff, he]
    exact ⟨by unfold panelErr; rw [if_neg (by rw [hname]; simp), if_pos he], hkk4.push _⟩
  have hkk5 := hkk4.push (.cells (encs IntE [rangeErr p.width 1 128, sideErr p.left, sideErr p.right]))
  have hn5 : h.n < (h4.push (.cells (encs IntE [rangeErr p.width 1 128, sideErr p.left, sideErr p.right]))).n := by simp; omega
  have hc5 : (h4.push (.cells (encs IntE [rangeErr p.width 1 128, sideErr p.left, sideErr p.right]))).cells h.n = some [.str p.name, .int .i64 p.width, l, r] := by rw [AH.cells_push_lt hn4]; exact hc4
  have hE : encs IntE [rangeErr p.width 1 128, sideErr p.left, sideErr p.right] = [.int .i64 (rangeErr p.width 1 128), .int .i64 (sideErr p.left), .int .i64 (sideErr p.right)] := rfl
  rw [hE] at hkk5 hn5 hc5
  have hok : rangeErr p.width 1 128 = 0 ∧ sideErr p.left = 0 ∧ sideErr p.right = 0 := by
    simp only [firstErr] at he
    by_cases a : rangeErr p.width 1 128 = 0
    · by_cases b : sideErr p.left = 0
      · by_cases c : sideErr p.right = 0
        · exact ⟨a, b, c⟩
        · simp [a, b, c] at he
      · simp [a, b] at he
    · simp [a] at he
  have hw : 1 ≤ p.width ∧ p.width ≤ 128 := by have := hok.1; unfold rangeErr at this; split at this <;> omega
  have sl := sideErr_ok hok.2.1
  have sr := sideErr_ok hok.2.2
  have hp1 : panelErr p = if heightOf p ≠ riseOf (stepsOf p.right) then 2 else if heightOf p = 0 then 12 else if 256 < heightOf p then 4 else if (outlineOf p false ++ outlineOf p true).any farK then 4
      else if crossTo (outlineOf p false) (outlineOf p true) (heightOf p + 1).toNat then 16 else 0 := by
    unfold panelErr; rw [if_neg (by rw [hname]; simp), if_neg (by simpa using he)]
  simp (maxSteps := 10000000) (disch := first | omega | (simp only [AH.push_n, AH.set_n]; first | done | omega)) only [go_sem, Nat.reduceEqDiff, Nat.reduceAdd, he, hc4]
  generalize h4.push (.cells [.int .i64 (rangeErr p.width 1 128), .int .i64 (sideErr p.left), .int .i64 (sideErr p.right)]) = g5 at *
  refine ClS.by (height_cl (Nat.le_trans hf hkk5.n) (hv.keep hkk5) sl) ?_
  rintro x h6 ⟨rfl, hk6⟩
  have hkk6 := hkk5.trans hk6
  have hc6 := (hk6.cells hn5).trans hc5
  have hn6 : h.n < h6.n := Nat.lt_of_lt_of_le hn5 hk6.n
  simp (maxSteps := 10000000) (disch := first | omega | (simp only [AH.push_n, AH.set_n]; first | done | omega)) only [go_sem, Nat.reduceEqDiff, hc6]
  refine ClS.by (steps_cl (Nat.le_trans hf hkk6.n) (hv.keep hkk6).right sr.edges sr.len) ?_
  rintro x h7 ⟨hx7, hk7, _⟩
  simp (maxSteps := 10000000) (disch := first | omega | (simp only [AH.push_n, AH.set_n]; first | done | omega)) only [go_sem]
  refine ClS.by (rise_cl hx7 (by have := sr.steps; omega)) ?_
  rintro x h8 ⟨rfl, rfl⟩
  have hkk7 := hkk6.trans hk7
  have hc7 := (hk7.cells hn6).trans hc6
  have hn7 : h.n < h7.n := Nat.lt_of_lt_of_le hn6 hk7.n
  by_cases q1 : heightOf p = riseOf (stepsOf p.right)
  case neg =>
    simp (maxSteps := 10000000) (disch := first | omega | (simp only [AH.push_n, AH.set_n]; first | done | omega)) only [go_sem, Nat.reduceEqDiff, q1]
    exact ⟨by rw [hp1, if_pos q1], hkk7⟩
  by_cases q2 : heightOf p = 0
  · rw [q2] at q1
    simp (maxSteps := 10000000) (disch := first | omega | (simp only [AH.push_n, AH.set_n]; first | done | omega)) only [go_sem, Nat.reduceEqDiff, ← q1, q2]
    exact ⟨by rw [hp1, if_neg (by rw [q2, ← q1]; simp), if_pos q2], hkk7⟩
  by_cases q3 : 256 < heightOf p
  · simp (maxSteps := 10000000) (disch := first | omega | (simp only [AH.push_n, AH.set_n]; first | done | omega)) only [go_sem, Nat.reduceEqDiff, ← q1, q2, q3]
    exact ⟨by rw [hp1, if_neg (by simp [q1]), if_neg q2, if_pos q3], hkk7⟩
  rw [if_neg (by simp [q1]), if_neg q2, if_neg q3] at hp1
  simp (maxSteps := 10000000) (disch := first | omega | (simp only [AH.push_n, AH.set_n]; first | done | omega)) only [go_sem, Nat.reduceEqDiff, Nat.reduceAdd, ← q1, q2, q3, hc7]
  refine ClS.by (outline_cl (Nat.le_refl _) (hv.keep hkk7) sl sr hw false) ?_
  rintro xl h9 ⟨hx9, hk9, ho9⟩
  have hkk9 := hkk7.trans hk9
  have hc9 := (hk9.cells hn7).trans hc7
  simp (maxSteps := 10000000) (disch := first | omega | (simp only [AH.push_n, AH.set_n]; first | done | omega)) only [go_sem, Nat.reduceEqDiff, Nat.reduceAdd, hc9]
  refine ClS.by (outline_cl (Nat.le_trans hf hkk9.n) (hv.keep hkk9) sl sr hw true) ?_
  rintro xr h10 ⟨hx10, hk10, ho10⟩
  have hkk10 := hkk9.trans hk10
  simp (maxSteps := 10000000) (disch := first | omega | (simp only [AH.push_n, AH.set_n]; first | done | omega)) only [go_sem, Nat.reduceEqDiff]
  have hx9' := hx9.keep hk10
  have hlb := outlineOf_len sl sr false
  have hrb := outlineOf_len sl sr true
  refine append_to (E := KnE) (xs := []) Vw.slz Own.of_slz (Nat.le_trans hf hkk10.n) hx9' (by simp [maxRow]; omega) ?_
  intro r1 h11 ha11
  have hv11 : Vw KnE h11 r1 (outlineOf p false) := ha11.vw
  have hfh : h.n ≤ h10.n := hkk10.n
  have hown1 : Own h.n r1 := ha11.own _ hfh Own.of_slz
  have hkk11 : Keep h h11 := ha11.keep hkk10 Own.of_slz
  simp (maxSteps := 10000000) (disch := first | omega | (simp only [AH.push_n, AH.set_n]; first | done | omega)) only [go_sem, Nat.reduceEqDiff]
  refine append_to (E := KnE) hv11 (hown1.mono hf) (Nat.le_trans hf hkk11.n) (ha11.other hx10 fun _ _ => Off.of_slz) (by simp [maxRow]; omega) ?_
  intro r2 h12 ha12
  have hkk12 : Keep h h12 := ha12.keep hkk11 hown1
  have hv12 := ha12.vw
  simp (maxSteps := 10000000) (disch := first | omega | (simp only [AH.push_n, AH.set_n]; first | done | omega)) only [go_sem]
  have hLlen : (outlineOf p false ++ outlineOf p true).length ≤ 1026 := by rw [List.length_append]; omega
  have hxl12 : Vw KnE h12 xl (outlineOf p false) := (hx9.keep hk10).congr (Nat.le_trans ha11.n ha12.n) fun i e => by
    have hi := (hx9.keep hk10).lt e
    have q1 := (ha11.old i hi Off.of_slz)
    exact ((ha12.old i (Nat.lt_of_lt_of_le hi ha11.n) q1.2).1).trans q1.1
  have hxr12 : Vw KnE h12 xr (outlineOf p true) := hx10.congr (Nat.le_trans ha11.n ha12.n) fun i e => by
    have hi := hx10.lt e
    have q1 := (ha11.old i hi Off.of_slz)
    exact ((ha12.old i (Nat.lt_of_lt_of_le hi ha11.n) q1.2).1).trans q1.1
  generalize hL : outlineOf p false ++ outlineOf p true = L at *
  refine wS_loop (fun m ts h' => ∃ k, k ≤ L.length ∧ m = L.length - k ∧ h' = h12 ∧ tg ts 4 = .int .i64 (heightOf p) ∧ tg ts 5 = xl ∧ tg ts 6 = xr ∧ tg ts 7 = r2 ∧ tg ts 8 = .int .i64 k ∧ ∀ (i : Nat) (h : i < L.length), i < k → farK L[i] = false) L.length
    ⟨0, by omega, by omega, rfl, by simp, by simp, by simp, by simp, by simp, fun i _ hi => by omega⟩ ?_
  rintro m ts h' ⟨k, hk, rfl, rfl, t4, t5, t6, t7, t8, hall⟩
  by_cases hlt : k < L.length
  · obtain ⟨id, off, vs, hre, hid, hc, r0, _, _⟩ := hv12.kn hlt
    rw [hre] at t7
    have e2 : (k : Int) < L.length := by omega
    have hfar : farK L[k] = true → panelErr p = 4 := fun hfk => by
      rw [hp1, if_pos]
      rw [List.any_eq_true]
      exact ⟨L[k], List.getElem_mem hlt, hfk⟩
    have hnf : farK L[k] = false → ∀ (i : Nat) (h : i < L.length), i < k + 1 → farK L[i] = false := fun hfk i hi hik => by
      by_cases e : i = k
      · subst e; exact hfk
      · exact hall i hi (by omega)
    (simp (maxSteps := 10000000) (disch := first | omega | (simp only [AH.push_n, AH.set_n]; first | done | omega)) only [go_sem, Nat.reduceEqDiff, Int.reduceNeg, t7, t8, e2, hlt, hc, r0]); repeat' (refine condS_pick (fun b hb => ?_); rw [hb]; (cases b <;> simp only [decide_eq_true_eq, decide_eq_false_iff_not] at hb) <;> first | (exfalso; omega) | simp (maxSteps := 10000000) (disch := first | omega | (simp only [AH.push_n, AH.set_n]; first | done | omega)) only [go_sem, Nat.reduceEqDiff, t4, t5, t6, t7, t8, hlt, hc, r0])
    · refine ⟨_, ?_, k + 1, by omega, rfl, by rw [hre], by omega, hnf ?_⟩
      · omega
      · exact decide_eq_false (by omega)
    · exact ⟨(hfar (decide_eq_true (by omega))).symm, hkk12⟩
    · exact ⟨(hfar (decide_eq_true (by omega))).symm, hkk12⟩
  · have : k = L.length := by omega
    subst this
    have e2 : ¬ (L.length : Int) < L.length := by omega
    have hno : ¬ (L.any farK = true) := by
      rw [List.any_eq_true]
      rintro ⟨q, hq, hqf⟩
      obtain ⟨i, hi, rfl⟩ := List.mem_iff_getElem.1 hq
      rw [hall i hi hi] at hqf; cases hqf
    rw [if_neg hno] at hp1
    simp (maxSteps := 10000000) (disch := first | omega | (simp only [AH.push_n, AH.set_n]; first | done | omega)) only [go_sem, Nat.reduceEqDiff, t4, t5, t6, t7, t8, hv12.len, e2]
    have hh0 : 0 ≤ heightOf p := (rise_bd _).1
    obtain ⟨n, hn⟩ : ∃ n : Nat, heightOf p = n := ⟨(heightOf p).toNat, by omega⟩
    rw [hn] at hp1 q3 ⊢
    have hbl := fun row => reachTo_bd (outlineOf_bd sl sr hw false) row (outlineOf p false).length
    have hbr := fun row => reachTo_bd (outlineOf_bd sl sr hw true) row (outlineOf p true).length
    refine ClS.by (crosses_cl (Nat.le_trans hf hkk12.n) n hxl12 hxr12 (by omega) (by omega) (by omega) (fun row => (hbl row).2.2) fun row => ⟨(hbr row).1, (hbr row).2.1⟩) ?_
    rintro x h13 ⟨rfl, hk13⟩
    rw [show (((n : Int) + 1).toNat) = n + 1 by omega] at hp1
    cases hcr : crossTo (outlineOf p false) (outlineOf p true) (n + 1) with
    | false =>
      simp (maxSteps := 10000000) (disch := first | omega | (simp only [AH.push_n, AH.set_n]; first | done | omega)) only [go_sem]
      rw [hcr] at hp1
      exact ⟨by rw [hp1]; rfl, hkk12.trans hk13⟩
    | true =>
      simp (maxSteps := 10000000) (disch := first | omega | (simp only [AH.push_n, AH.set_n]; first | done | omega)) only [go_sem]
      rw [hcr] at hp1
      exact ⟨by rw [hp1]; rfl, hkk12.trans hk13⟩
end Go.Proofs.YtndlfkibcelhmaaGreatDoor.Ai
end
section
namespace Go.Proofs.YtndlfkibcelhmaaGreatDoor.Ai
open Go
set_option maxRecDepth 10000
set_option maxHeartbeats 4000000
set_option linter.all false
set_option pp.maxSteps 1200

theorem encs_set {α : Type} (E : Enc α) (rows : List α) {i : Nat} (hi : i < rows.length) (y : α) {n : Nat} (hn : n = E.es) : storeC (encs E rows) (i * n) n (.agg (E.enc y)) = some (encs E (rows.set i y)) := by
  subst hn
  unfold storeC
  have hm : (i + 1) * E.es ≤ rows.length * E.es := Nat.mul_le_mul_right _ hi
  rw [Nat.add_mul, Nat.one_mul] at hm
  rw [if_pos ⟨E.len y, E.one y, by rw [encs_length]; simp only [cells_agg, E.len]; exact hm⟩]
  simp only [cells_agg, E.len]
  rw [List.set_eq_take_append_cons_drop, if_pos hi, encs_append, encs_cons, encs_take, show i * E.es + E.es = (i + 1) * E.es by rw [Nat.add_mul, Nat.one_mul], encs_drop, List.append_assoc]
theorem encs_rd {α : Type} (E : Enc α) (rows : List α) {i : Nat} (hi : i < rows.length) {f : Nat} (hf : f < E.es) : readC (encs E rows) (i * E.es + f) 1 false = (E.enc rows[i])[f]? := by
  have := read_cell (E := E) (xs := rows) (vs := encs E rows) (off := 0) (by rw [encs_length]; omega) (by rw [List.drop_zero, List.take_of_length_le (by rw [encs_length]; omega)]) hi hf
  rwa [Nat.zero_add] at this
theorem encs_kn (rows : List Kn) {i : Nat} (hi : i < rows.length) : readC (encs KnE rows) (i * 2) 1 false = some (.int .i64 rows[i].x) ∧ readC (encs KnE rows) (i * 2 + 1) 1 false = some (.int .i64 rows[i].y) :=
  ⟨encs_rd KnE rows hi (f := 0) (by decide), encs_rd KnE rows hi (f := 1) (by decide)⟩
theorem rep_encs : ∀ n : Nat, rep n [AVal.int .i64 0, .int .i64 0] = encs KnE (List.replicate n ⟨0, 0⟩)
  | 0 => rfl
  | n + 1 => by rw [List.replicate_succ, encs_cons, ← rep_encs n]; rfl

@[simp, go_sem] theorem ixArr (n es id off : Nat) (i : AVal) : indexAddrA (.arr n es) (.ptr id off) i = (natOf i).bind fun j => if j < n then some (.ptr id (off + j * es)) else none := indexAddrA_arr n es id off .i64 i
def putK (first : Bool) (k : Kn) (x : Int) : Kn := if first then ⟨x, x⟩ else ⟨min k.x x, max k.y x⟩

theorem Keep.put {h0 g g' : AH} {A : Nat} (x : Keep h0 g) (hn : g'.n = g.n) (he : ∀ j, j ≠ A → g'.get j = g.get j) (hA : h0.n ≤ A) : Keep h0 g' := ⟨by have := x.n; omega, fun i hi => (he i (by omega)).trans (x.get i hi)⟩
theorem put_cl {fl : Nat} {h : AH} {b A n : Nat} {rows : List Kn} {i : Nat} {ii x : Int} {first : Bool} (hii : ii = i) (hb : h.cells b = some [.sl A 0 n 2]) (hA : h.cells A = some (encs KnE rows)) (hn : rows.length = n) (hfl : fl ≤ A) (hbA : b ≠ A) (hi : i < n) :
    Cl T fl 194 [.int .i64 ii, .int .i64 x, .bool first, .ptr b 0] h fun _ h' => h'.n = h.n ∧ h'.cells A = some (encs KnE (rows.set i (putK first (rows.getD i ⟨0, 0⟩) x))) ∧ ∀ j, j ≠ A → h'.get j = h.get j := by
  refine Cl.code (fn := F194) rfl rfl ?_
  simp only [F194]
  subst hn
  subst hii
  obtain ⟨r0, r1⟩ := encs_kn rows hi
  have hg : rows.getD i ⟨0, 0⟩ = rows[i] := by simp [List.getD_eq_getElem?_getD, List.getElem?_eq_getElem hi]
  have sc : ∀ u v, storeC (encs KnE rows) (i * 2) 2 (.agg [.int .i64 u, .int .i64 v]) = some (encs KnE (rows.set i ⟨u, v⟩)) := fun u v => encs_set KnE rows hi ⟨u, v⟩ rfl
  rw [hg]
  cases first
  · simp (maxSteps := 10000000) (disch := first | omega | (simp only [AH.push_n, AH.set_n]; first | done | omega)) only [go_sem, reduceCtorEq, Nat.reduceEqDiff, Nat.reduceAdd, Nat.reduceLeDiff, Nat.reduceLT, Int.reduceToNat, hb, hA, hi, r0, r1, sc, Nat.zero_add, Nat.add_zero, Int.toNat_natCast]
    exact ⟨by simp [putK], fun j hj => AH.get_set_ne hj⟩
  · have hi1 : i < (rows.set i ⟨x, x⟩).length := by simpa using hi
    obtain ⟨q0, q1⟩ := encs_kn (rows.set i ⟨x, x⟩) hi1
    simp only [List.getElem_set_self] at q0 q1
    have sc1 : ∀ u v, storeC (encs KnE (rows.set i ⟨x, x⟩)) (i * 2) 2 (.agg [.int .i64 u, .int .i64 v]) = some (encs KnE (rows.set i ⟨u, v⟩)) := fun u v => by
      have := encs_set KnE (rows.set i ⟨x, x⟩) hi1 ⟨u, v⟩ (n := 2) rfl
      rw [List.set_set] at this
      exact this
    simp (maxSteps := 10000000) (disch := first | omega | (simp only [AH.push_n, AH.set_n]; first | done | omega)) only [go_sem, reduceCtorEq, Nat.reduceEqDiff, Nat.reduceAdd, Nat.reduceLeDiff, Nat.reduceLT, Int.reduceToNat, hb, hA, hi, q0, q1, sc, sc1, Nat.zero_add, Nat.add_zero, Int.toNat_natCast]
    refine ⟨?_, fun j hj => ?_⟩
    · simp [putK]
    · rw [AH.get_set_ne hj, AH.get_set_ne hj]

def knOf (p : Int × Int) : Kn := ⟨p.1, p.2⟩
structure Rising (l : List Kn) : Prop where
  len : 0 < l.length ∧ l.length ≤ 100000
  low : (l.getD 0 ⟨0, 0⟩).y = 0
  up : ∀ j, j + 1 < l.length → (l.getD j ⟨0, 0⟩).y ≤ (l.getD (j + 1) ⟨0, 0⟩).y ∧ (l.getD (j + 1) ⟨0, 0⟩).y ≤ (l.getD j ⟨0, 0⟩).y + 2
  bd : ∀ q ∈ l, -100000 ≤ q.x ∧ q.x ≤ 100000
theorem Rising.mono {l : List Kn} (r : Rising l) {i : Nat} : ∀ {j}, i ≤ j → j < l.length → (l.getD i ⟨0, 0⟩).y ≤ (l.getD j ⟨0, 0⟩).y
  | 0, h, _ => by rw [show i = 0 by omega]; exact Int.le_refl _
  | j + 1, h, hj => by
    by_cases e : i = j + 1
    · rw [e]; exact Int.le_refl _
    · exact Int.le_trans (r.mono (j := j) (by omega) (by omega)) (r.up j hj).1
theorem Rising.yb {l : List Kn} (r : Rising l) : ∀ {j}, j < l.length → 0 ≤ (l.getD j ⟨0, 0⟩).y ∧ (l.getD j ⟨0, 0⟩).y ≤ 2 * j
  | 0, h => by rw [r.low]; simp
  | j + 1, h => by have := r.yb (j := j) (by omega); have := r.up j h; omega
theorem Rising.high {l : List Kn} (r : Rising l) {row : Int} : ∀ {n : Nat}, n < l.length → (l.getD n ⟨0, 0⟩).y < row → reachTo l row (n + 1) = (999999999, -999999999)
  | 0, h, hr => by
    rw [reachTo, if_neg, reachTo]
    unfold inRow; omega
  | n + 1, h, hr => by
    have := r.mono (i := n) (j := n + 1) (by omega) h
    rw [reachTo, if_neg, r.high (n := n) (by omega) (by omega)]
    unfold inRow; omega
theorem getD_set {rows : List Kn} {y : Nat} (hy : y < rows.length) (v : Kn) (r : Nat) : (rows.set y v).getD r ⟨0, 0⟩ = if r = y then v else rows.getD r ⟨0, 0⟩ := by
  simp only [List.getD_eq_getElem?_getD, List.getElem?_set]
  by_cases e : y = r
  · subst e; simp [hy]
  · rw [if_neg e, if_neg (by omega)]
theorem Rising.first {l : List Kn} (r : Rising l) (y : Nat) (hy : (y : Int) ≤ (l.getD 0 ⟨0, 0⟩).y) : knOf (reachTo l y 1) = ⟨(l.getD 0 ⟨0, 0⟩).x, (l.getD 0 ⟨0, 0⟩).x⟩ := by
  have h0 := r.low
  have hb := r.bd _ (List.getElem_mem r.len.1)
  have hg : l.getD 0 ⟨0, 0⟩ = l[0]'r.len.1 := by simp [List.getD_eq_getElem?_getD, List.getElem?_eq_getElem r.len.1]
  rw [← hg] at hb
  rw [show reachTo l y 1 = if inRow l 0 y then (min (reachTo l y 0).1 (l.getD 0 ⟨0, 0⟩).x, max (reachTo l y 0).2 (l.getD 0 ⟨0, 0⟩).x) else reachTo l y 0 from rfl, if_pos (show inRow l 0 y from Or.inl (by omega))]
  simp only [reachTo, knOf, Kn.mk.injEq]
  omega
theorem Rising.next {l : List Kn} (r : Rising l) {j : Nat} (hj : j + 1 < l.length) {rows : List Kn} (h1 : ∀ q : Nat, (q : Int) ≤ (l.getD j ⟨0, 0⟩).y → rows.getD q ⟨0, 0⟩ = knOf (reachTo l q (j + 1)))
    (h2 : ∀ q : Nat, (l.getD j ⟨0, 0⟩).y < q → (q : Int) ≤ (l.getD (j + 1) ⟨0, 0⟩).y → rows.getD q ⟨0, 0⟩ = ⟨(l.getD (j + 1) ⟨0, 0⟩).x, (l.getD (j + 1) ⟨0, 0⟩).x⟩)
    {y : Nat} (hy : (l.getD (j + 1) ⟨0, 0⟩).y = y) (hyl : y < rows.length) (q : Nat) (hq : (q : Int) ≤ (l.getD (j + 1) ⟨0, 0⟩).y) :
    (rows.set y (putK false (rows.getD y ⟨0, 0⟩) (l.getD (j + 1) ⟨0, 0⟩).x)).getD q ⟨0, 0⟩ = knOf (reachTo l q (j + 2)) := by
  have hup := r.up j hj
  have hb := r.bd _ (List.getElem_mem hj)
  have hg : l.getD (j + 1) ⟨0, 0⟩ = l[j + 1] := by simp [List.getD_eq_getElem?_getD, List.getElem?_eq_getElem hj]
  rw [← hg] at hb
  rw [getD_set hyl]
  have hR : reachTo l q (j + 2) = if inRow l (j + 1) q then (min (reachTo l q (j + 1)).1 (l.getD (j + 1) ⟨0, 0⟩).x, max (reachTo l q (j + 1)).2 (l.getD (j + 1) ⟨0, 0⟩).x) else reachTo l q (j + 1) := rfl
  have hin : inRow l (j + 1) q ↔ (l.getD (j + 1) ⟨0, 0⟩).y = q ∨ ((l.getD j ⟨0, 0⟩).y < q ∧ q < (l.getD (j + 1) ⟨0, 0⟩).y) := by unfold inRow; simp
  by_cases hlow : (q : Int) ≤ (l.getD j ⟨0, 0⟩).y
  · have e1 := h1 q hlow
    by_cases e : q = y
    · subst e
      rw [if_pos rfl, hR, if_pos (hin.2 (.inl hy)), e1]
      simp only [putK, knOf, Bool.false_eq_true, if_false]
    · rw [if_neg e, hR, if_neg (by rw [hin]; omega), e1]
  · have e1 := h2 q (by omega) hq
    have e2 := r.high (row := q) (n := j) (by omega) (by omega)
    rw [hR, if_pos (hin.2 (by omega)), e2]
    by_cases e : q = y
    · subst e
      rw [if_pos rfl, e1]
      simp only [putK, knOf, Bool.false_eq_true, if_false, Kn.mk.injEq]
      omega
    · rw [if_neg e, e1]
      simp only [knOf, Kn.mk.injEq]
      omega

@[simp, go_sem] theorem sliceA_from (h : AH) (id off len es : Nat) : sliceA (.sl es) h (.sl id off len es) (some (.int .i64 1)) none none = if 1 ≤ len then some (.sl id (off + 1 * es) (len - 1) es) else none := by
  simp only [sliceA, nbeq, decide_true, cond_true, bounds, forceN_eq']
  by_cases hl : 1 ≤ len
  · simp [hl, natOf, nble]
  · simp [hl, natOf, nble]

theorem pReach_cl {fl : Nat} {h : AH} {v : AVal} {l : List Kn} (hf : fl ≤ h.n) (hv : Vw KnE h v l) (hr : Rising l) {top : Nat} (ht : (l.getD (l.length - 1) ⟨0, 0⟩).y = top) :
    Cl T fl 139 [v] h fun x h' => Keep h h' ∧ ∃ rows, Vw KnE h' x rows ∧ rows.length = top + 1 ∧ ∀ q, q ≤ top → rows.getD q ⟨0, 0⟩ = knOf (reachOf l q) := by
  refine Cl.code (fn := F139) rfl rfl ?_
  simp only [F139]
  have hln := hr.len
  simp (maxSteps := 10000000) (disch := first | omega | (simp only [AH.push_n, AH.set_n]; first | done | omega)) only [go_sem, reduceCtorEq]
  refine ClS.by (top_cl hf hv hr.len.1 (by omega)) ?_
  rintro x h2 ⟨rfl, hk2⟩
  have hn2 := hk2.n
  rw [ht]
  obtain ⟨id, off, vs, rfl, hid, hc, r0, _, _⟩ := (hv.keep hk2).kn hr.len.1
  have hyt := hr.yb (j := l.length - 1) (by omega)
  have hmk : mkSlA h2 2 16 [.int .i64 0, .int .i64 0] (.int .i64 ((top : Int) + 1)) (.int .i64 ((top : Int) + 1)) = some (.sl h2.n 0 (top + 1) 2, h2.push (.cells (encs KnE (List.replicate (top + 1) ⟨0, 0⟩)))) := by
    have e : natOf (.int .i64 ((top : Int) + 1)) = some (top + 1) := natOf_cast .i64 (top + 1)
    simp only [mkSlA, e, rep_encs, nble, Nat.le_refl, decide_true, Bool.true_and]
    rw [decide_eq_true (by simp only [maxRow]; omega)]; rfl
  have hG : ∀ g : AH, g = ((h2.push (.cells (encs KnE (List.replicate (top + 1) ⟨0, 0⟩)))).push (.cells [.nilsl])).set (h2.n + 1) (.cells [.sl h2.n 0 (top + 1) 2]) →
      g.n = h2.n + 2 ∧ Keep h2 g ∧ g.cells h2.n = some (encs KnE (List.replicate (top + 1) ⟨0, 0⟩)) ∧ g.cells (h2.n + 1) = some [.sl h2.n 0 (top + 1) 2] := by
    rintro g rfl
    refine ⟨rfl, (((Keep.refl h2).push _).push _).set (by omega) _, ?_, AH.cells_set_eq⟩
    rw [AH.cells_set_ne (by omega), AH.cells_push_lt (by simp), AH.cells_push_eq rfl]
  simp only [Nat.zero_mul, Nat.add_zero] at r0
  simp (maxSteps := 10000000) (disch := first | omega | (simp only [AH.push_n, AH.set_n]; first | done | omega)) only [go_sem, reduceCtorEq, Nat.reduceEqDiff, Int.reduceToNat, hmk, hc, r0, hln.1]
  generalize hg0 : ((h2.push (.cells (encs KnE (List.replicate (top + 1) ⟨0, 0⟩)))).push (.cells [.nilsl])).set (h2.n + 1) (.cells [.sl h2.n 0 (top + 1) 2]) = g0
  obtain ⟨gn0, gk0, gA0, gb0⟩ := hG g0 hg0.symm
  clear hG hg0
  have hfl2 : fl ≤ h2.n := by omega
  have hl0 : l.getD 0 ⟨0, 0⟩ = l[0] := by simp [List.getD_eq_getElem?_getD, List.getElem?_eq_getElem hln.1]
  refine ClS.by (put_cl (i := 0) rfl gb0 gA0 (by simp) hfl2 (by omega) (by omega)) ?_
  rintro x g1 ⟨hn1, hA1, he1⟩
  have hk1 := gk0.put hn1 he1 (Nat.le_refl _)
  have hb1 := (AH.cells_congr (he1 (h2.n + 1) (by omega))).trans gb0
  have hs1 : ∀ q : Nat, (q : Int) ≤ (l.getD 0 ⟨0, 0⟩).y → ((List.replicate (top + 1) (⟨0, 0⟩ : Kn)).set 0 (putK true ((List.replicate (top + 1) (⟨0, 0⟩ : Kn)).getD 0 ⟨0, 0⟩) l[0].x)).getD q ⟨0, 0⟩ = knOf (reachTo l q (0 + 1)) := by
    intro q hq
    rw [getD_set (by simp), hr.first q hq, hl0]
    rw [hr.low] at hq
    rw [if_pos (by omega)]; rfl
  have hlen1 : ((List.replicate (top + 1) (⟨0, 0⟩ : Kn)).set 0 (putK true ((List.replicate (top + 1) (⟨0, 0⟩ : Kn)).getD 0 ⟨0, 0⟩) l[0].x)).length = top + 1 := by simp
  generalize (List.replicate (top + 1) (⟨0, 0⟩ : Kn)).set 0 (putK true ((List.replicate (top + 1) (⟨0, 0⟩ : Kn)).getD 0 ⟨0, 0⟩) l[0].x) = rows1 at *
  have hL1 : 1 ≤ l.length := hln.1
  simp (maxSteps := 10000000) (disch := first | omega | (simp only [AH.push_n, AH.set_n]; first | done | omega)) only [go_sem, reduceCtorEq, hL1]
  refine wS_loop (fun m ts g => ∃ j rows, j + 1 ≤ l.length ∧ m = l.length - (j + 1) ∧ Keep h2 g ∧ h2.n + 2 ≤ g.n ∧ g.cells h2.n = some (encs KnE rows) ∧ rows.length = top + 1 ∧ g.cells (h2.n + 1) = some [.sl h2.n 0 (top + 1) 2] ∧ (∀ q : Nat, (q : Int) ≤ (l.getD j ⟨0, 0⟩).y → rows.getD q ⟨0, 0⟩ = knOf (reachTo l q (j + 1))) ∧
    tg ts 0 = .sl id off l.length 2 ∧ tg ts 3 = .ptr (h2.n + 1) 0 ∧ tg ts 4 = .func 194 [] [.ptr (h2.n + 1) 0] ∧ tg ts 21 = .sl id (off + 2) (l.length - 1) 2 ∧ tg ts 22 = .int .i64 ((l.length - 1 : Nat) : Int) ∧ tg ts 23 = .int .i64 j) (l.length - 1)
    ⟨0, rows1, by omega, by omega, hk1, by omega, hA1, hlen1, hb1, hs1, by simp, by simp, by simp, by simp, by simp, by simp⟩ ?_
  clear hA1 hlen1 hb1 hs1 hk1 he1 hn1 gA0 gb0 gk0 gn0
  rintro m ts g ⟨j, rows, hj, rfl, hk, hn, hA, hlen, hb, hs, t0, t3, t4, t21, t22, t23⟩
  by_cases hlt : j + 1 < l.length
  · have e2 : (j : Int) < ((l.length - 1 : Nat) : Int) := by omega
    have e3 : j < l.length - 1 := by omega
    have e4 : j < l.length := by omega
    have hvv : Vw KnE h2 (.sl id off l.length 2) l := hv.keep hk2
    obtain ⟨q0, q1⟩ := hvv.kn2 hc e4
    obtain ⟨u0, u1⟩ := hvv.kn2 hc hlt
    have u2 : readC vs (off + 2 + j * 2) 2 true = some (.agg [.int .i64 l[j + 1].x, .int .i64 l[j + 1].y]) := by
      obtain ⟨i2, o2, v2, ee, _, hc2, _, _, ww⟩ := hvv.kn hlt
      cases ee
      rw [hc] at hc2; cases hc2
      rw [show off + 2 + j * 2 = off + (j + 1) * 2 by omega]; exact ww
    have hcg := (hk.cells hid).trans hc
    have hgj : l.getD j ⟨0, 0⟩ = l[j] := by simp [List.getD_eq_getElem?_getD, List.getElem?_eq_getElem e4]
    have hgk : l.getD (j + 1) ⟨0, 0⟩ = l[j + 1] := by simp [List.getD_eq_getElem?_getD, List.getElem?_eq_getElem hlt]
    have y0b := hr.yb e4
    have y1b := hr.yb hlt
    have hup := hr.up j hlt
    have htop := hr.mono (i := j + 1) (j := l.length - 1) (by omega) (by omega)
    rw [ht] at htop
    rw [hgk] at htop y1b hup
    rw [hgj] at y0b hup
    obtain ⟨y0, hy0⟩ : ∃ y : Nat, l[j].y = y := ⟨l[j].y.toNat, by omega⟩
    obtain ⟨y1, hy1⟩ : ∃ y : Nat, l[j + 1].y = y := ⟨l[j + 1].y.toNat, by omega⟩
    rw [hy0] at q1
    have hs' := fun q hq => hs q (by rw [hgj, hy0]; exact hq)
    simp (maxSteps := 10000000) (disch := first | omega | (simp only [AH.push_n, AH.set_n]; first | done | omega)) only [go_sem, reduceCtorEq, Nat.reduceEqDiff, Nat.reduceAdd, t0, t21, t22, t23, e2, e3, e4, hcg, u2, q1]
    have k5 : Keep h2 ((g.push (.cells [.int .i64 0, .int .i64 0])).set g.n (.cells [.int .i64 l[j + 1].x, .int .i64 l[j + 1].y])) := (hk.push _).set (by omega) _
    have A5 : ((g.push (.cells [.int .i64 0, .int .i64 0])).set g.n (.cells [.int .i64 l[j + 1].x, .int .i64 l[j + 1].y])).cells h2.n = some (encs KnE rows) := by rw [AH.cells_set_ne (by omega), AH.cells_push_lt (by omega)]; exact hA
    have b5 : ((g.push (.cells [.int .i64 0, .int .i64 0])).set g.n (.cells [.int .i64 l[j + 1].x, .int .i64 l[j + 1].y])).cells (h2.n + 1) = some [.sl h2.n 0 (top + 1) 2] := by rw [AH.cells_set_ne (by omega), AH.cells_push_lt (by omega)]; exact hb
    have c5 : ((g.push (.cells [.int .i64 0, .int .i64 0])).set g.n (.cells [.int .i64 l[j + 1].x, .int .i64 l[j + 1].y])).cells g.n = some [.int .i64 l[j + 1].x, .int .i64 l[j + 1].y] := AH.cells_set_eq
    have n5 : ((g.push (.cells [.int .i64 0, .int .i64 0])).set g.n (.cells [.int .i64 l[j + 1].x, .int .i64 l[j + 1].y])).n = g.n + 1 := rfl
    generalize hC : g.n = C at *
    generalize (g.push (.cells [.int .i64 0, .int .i64 0])).set C (.cells [.int .i64 l[j + 1].x, .int .i64 l[j + 1].y]) = g5 at *
    rw [hy1] at c5
    refine wS_loop (fun m ts g => ∃ R rows, y0 + 1 ≤ R ∧ R ≤ y1 + 1 ∧ m = y1 + 1 - R ∧ Keep h2 g ∧ C < g.n ∧ g.cells h2.n = some (encs KnE rows) ∧ rows.length = top + 1 ∧ g.cells (h2.n + 1) = some [.sl h2.n 0 (top + 1) 2] ∧ g.cells C = some [.int .i64 l[j + 1].x, .int .i64 y1] ∧
      (∀ q : Nat, (q : Int) ≤ y0 → rows.getD q ⟨0, 0⟩ = knOf (reachTo l q (j + 1))) ∧ (∀ q : Nat, y0 < q → q < R → rows.getD q ⟨0, 0⟩ = ⟨l[j + 1].x, l[j + 1].x⟩) ∧
      tg ts 0 = .sl id off l.length 2 ∧ tg ts 3 = .ptr (h2.n + 1) 0 ∧ tg ts 4 = .func 194 [] [.ptr (h2.n + 1) 0] ∧ tg ts 6 = .ptr C 0 ∧ tg ts 7 = .int .i64 R ∧ tg ts 21 = .sl id (off + 2) (l.length - 1) 2 ∧ tg ts 22 = .int .i64 ((l.length - 1 : Nat) : Int) ∧ tg ts 23 = .int .i64 j) (y1 - y0)
      ⟨y0 + 1, rows, by omega, by omega, by omega, k5, by omega, A5, hlen, b5, c5, hs', fun q h1 h2 => by omega, by simp [t0], by simp [t3], by simp [t4], by simp, by simp, by simp [t21], by simp [t22], by simp [t23]⟩ ?_
    clear t0 t3 t4 t21 t22 t23 hs hs' hlen hb hA A5 b5 c5 k5
    rintro m ts g6 ⟨R, rows, hR0, hR1, rfl, hk, hn6, hA, hlen, hb, hcc, hs, hs2, t0, t3, t4, t6, t7, t21, t22, t23⟩
    by_cases hlt2 : R ≤ y1
    · have e5 : (R : Int) ≤ y1 := by omega
      simp (maxSteps := 10000000) (disch := first | omega | (simp only [AH.push_n, AH.set_n]; first | done | omega)) only [go_sem, Nat.reduceEqDiff, t4, t6, t7, e5, hcc]
      refine ClS.by (put_cl (i := R) rfl hb hA hlen hfl2 (by omega) (by omega)) ?_
      rintro x g7 ⟨hn7, hA7, he7⟩
      simp (maxSteps := 10000000) (disch := first | omega | (simp only [AH.push_n, AH.set_n]; first | done | omega)) only [go_sem, reduceCtorEq, Nat.reduceEqDiff, t0, t3, t4, t6, t7, t21, t22, t23]
      refine ⟨_, ?_, R + 1, _, by omega, by omega, rfl, hk.put hn7 he7 (Nat.le_refl _), by omega, hA7, by rw [List.length_set]; exact hlen, (AH.cells_congr (he7 _ (by omega))).trans hb, (AH.cells_congr (he7 _ (by omega))).trans hcc, ?_, ?_, ?_⟩
      · omega
      · intro q hq
        rw [getD_set (by omega), if_neg (by omega)]
        exact hs q hq
      · intro q hq hq2
        rw [getD_set (by omega)]
        by_cases e : q = R
        · rw [if_pos e]; rfl
        · rw [if_neg e]; exact hs2 q hq (by omega)
      · omega
    · have e5 : ¬ (R : Int) ≤ y1 := by omega
      have e6 : R = y1 + 1 := by omega
      simp (maxSteps := 10000000) (disch := first | omega | (simp only [AH.push_n, AH.set_n]; first | done | omega)) only [go_sem, reduceCtorEq, Nat.reduceEqDiff, t0, t3, t4, t6, t7, t21, t22, t23, e5, hcc]
      refine ClS.by (put_cl (i := y1) rfl hb hA hlen hfl2 (by omega) (by omega)) ?_
      rintro x g7 ⟨hn7, hA7, he7⟩
      simp (maxSteps := 10000000) (disch := first | omega | (simp only [AH.push_n, AH.set_n]; first | done | omega)) only [go_sem, reduceCtorEq, Nat.reduceEqDiff, t0, t3, t4, t21, t22, t23]
      refine ⟨_, ?_, j + 1, _, by omega, rfl, hk.put hn7 he7 (Nat.le_refl _), by omega, hA7, by rw [List.length_set]; exact hlen, (AH.cells_congr (he7 _ (by omega))).trans hb, ?_, ?_⟩
      · omega
      · intro q hq
        have := hr.next hlt (rows := rows) (fun q hq => hs q (by rw [hgj, hy0] at hq; exact hq)) (fun q h1 h2 => by rw [hgk]; rw [hgj, hy0] at h1; rw [hgk, hy1] at h2; exact hs2 q (by omega) (by omega)) (y := y1) (by rw [hgk]; exact hy1) (by omega) q hq
        rw [hgk] at this
        exact this
      · omega
  · have : j + 1 = l.length := by omega
    have e2 : ¬ (j : Int) < ((l.length - 1 : Nat) : Int) := by omega
    simp (maxSteps := 10000000) (disch := first | omega | (simp only [AH.push_n, AH.set_n]; first | done | omega)) only [go_sem, Nat.reduceEqDiff, t3, t22, t23, e2, hb]
    refine ⟨hk2.trans hk, rows, ⟨rfl, hlen.symm, by omega, encs KnE rows, hA, ?_, ?_⟩, hlen, ?_⟩
    · rw [encs_length, hlen]; simp [KnE]
    · rw [List.drop_zero, List.take_of_length_le (by rw [encs_length, hlen]; simp [KnE])]
    · intro q hq
      have := hs q (by rw [show j = l.length - 1 by omega, ht]; omega)
      rw [this, reachOf]
      congr 2
end Go.Proofs.YtndlfkibcelhmaaGreatDoor.Ai
end
section
namespace Go.Proofs.YtndlfkibcelhmaaGreatDoor.Ai
open Go
set_option maxRecDepth 10000
set_option maxHeartbeats 4000000
set_option linter.all false
set_option pp.maxSteps 1200

theorem walkOf_getD (right : Bool) : ∀ (k : Kn) (l : List Sp) (j : Nat), j ≤ l.length → (walkOf right k l).getD j ⟨0, 0⟩ = lastOf right k (l.take j)
  | k, [], j, hj => by
    have : j = 0 := by simpa using hj
    subst this; rfl
  | k, s :: l, 0, _ => rfl
  | k, s :: l, j + 1, hj => by
    have := walkOf_getD right (stepK right k s) l j (by simpa using hj)
    simpa [walkOf, lastOf] using this
theorem walk_rising (right : Bool) (k : Kn) (l : List Sp) (hy : k.y = 0) (hl : l.length ≤ 512) (hx : -10000 ≤ k.x ∧ k.x ≤ 10000) : Rising (walkOf right k l) where
  len := by rw [walkOf_len]; omega
  low := by rw [walkOf_getD right k l 0 (by omega)]; exact hy
  up j hj := by
    rw [walkOf_len] at hj
    have hj' : j < l.length := by omega
    rw [walkOf_getD right k l j (by omega), walkOf_getD right k l (j + 1) (by omega), List.take_succ_eq_append_getElem hj', lastOf_snoc]
    have h1 := stepK_bd right (lastOf right k (l.take j)) l[j]
    have h2 := up1_bd l[j]
    omega
  bd q hq := by have := walkOf_bd right l k q hq; omega
theorem walk_top (right : Bool) (k : Kn) (l : List Sp) (hy : k.y = 0) : ((walkOf right k l).getD ((walkOf right k l).length - 1) ⟨0, 0⟩).y = riseOf l := by
  rw [walkOf_len, Nat.add_sub_cancel, walkOf_getD right k l l.length (by omega), List.take_length, (lastOf_bd right l k).2.2, hy]; omega

theorem indexFar_cl {fl : Nat} {h : AH} {v : AVal} {l : List Kn} (hf : fl ≤ h.n) (hv : Vw KnE h v l) (hl : l.length < 1000000) :
    Cl T fl 177 [v, .func 138 [] []] h fun r h' => (∃ i : Int, r = .int .i64 i ∧ ((0 ≤ i) ↔ (l.any farK = true))) ∧ Keep h h' := by
  refine Cl.code (fn := F177) rfl rfl ?_
  simp only [F177]
  simp (maxSteps := 10000000) (disch := first | omega | (simp only [AH.push_n, AH.set_n]; first | done | omega)) only [go_sem, reduceCtorEq, Nat.reduceAdd, hv.len]
  refine wS_loop (fun m ts g => ∃ k, k ≤ l.length ∧ m = l.length - k ∧ Keep h g ∧ tg ts 0 = v ∧ tg ts 1 = .func 138 [] [] ∧ tg ts 7 = .int .i64 l.length ∧ tg ts 8 = .int .i64 k ∧ ∀ (i : Nat) (h : i < l.length), i < k → farK l[i] = false) l.length
    ⟨0, by omega, by omega, Keep.refl h, by simp, by simp, by simp, by simp, fun i _ hi => by omega⟩ ?_
  rintro m ts g ⟨k, hk, rfl, hkp, t0, t1, t7, t8, hall⟩
  by_cases hlt : k < l.length
  · obtain ⟨id, off, vs, rfl, hid, hc, r0, r1, r2⟩ := (hv.keep hkp).kn hlt
    have e2 : (k : Int) < l.length := by omega
    simp (maxSteps := 10000000) (disch := first | omega | (simp only [AH.push_n, AH.set_n]; first | done | omega)) only [go_sem, reduceCtorEq, Nat.reduceEqDiff, t0, t1, t7, t8, e2, hlt, hc, r2]
    refine ClS.by (far_cl l[k]) ?_
    rintro x g2 ⟨rfl, hk2⟩
    cases hfk : farK l[k]
    · simp (maxSteps := 10000000) (disch := first | omega | (simp only [AH.push_n, AH.set_n]; first | done | omega)) only [go_sem, reduceCtorEq, Nat.reduceEqDiff, t0, t1, t7, t8]
      refine ⟨_, ?_, k + 1, by omega, rfl, hkp.trans hk2, by omega, ?_⟩
      · omega
      · intro i hi hik
        by_cases e : i = k
        · subst e; exact hfk
        · exact hall i hi (by omega)
    · simp (maxSteps := 10000000) (disch := first | omega | (simp only [AH.push_n, AH.set_n]; first | done | omega)) only [go_sem, Nat.reduceEqDiff]
      refine ⟨⟨_, rfl, ?_⟩, hkp.trans hk2⟩
      rw [List.any_eq_true]
      exact ⟨fun _ => ⟨l[k], List.getElem_mem hlt, hfk⟩, fun _ => by omega⟩
  · have : k = l.length := by omega
    subst this
    have e2 : ¬ (l.length : Int) < l.length := by omega
    simp (maxSteps := 10000000) (disch := first | omega | (simp only [AH.push_n, AH.set_n]; first | done | omega)) only [go_sem, Int.reduceNeg, t7, t8, e2]
    refine ⟨⟨_, rfl, ?_⟩, hkp⟩
    rw [List.any_eq_true]
    refine ⟨fun h => by omega, ?_⟩
    rintro ⟨q, hq, hqf⟩
    obtain ⟨i, hi, rfl⟩ := List.mem_iff_getElem.1 hq
    rw [hall i hi hi] at hqf; cases hqf

theorem containsFar_cl {fl : Nat} {h : AH} {v : AVal} {l : List Kn} (hf : fl ≤ h.n) (hv : Vw KnE h v l) (hl : l.length < 1000000) :
    Cl T fl 137 [v, .func 138 [] []] h fun r h' => r = .bool (l.any farK) ∧ Keep h h' := by
  refine Cl.code (fn := F137) rfl rfl ?_
  simp only [F137]
  simp (maxSteps := 10000000) (disch := first | omega | (simp only [AH.push_n, AH.set_n]; first | done | omega)) only [go_sem, reduceCtorEq, Nat.reduceEqDiff, Nat.reduceAdd]
  refine ClS.by (indexFar_cl hf hv hl) ?_
  rintro x g ⟨⟨i, rfl, hi⟩, hk⟩
  simp (maxSteps := 10000000) (disch := first | omega | (simp only [AH.push_n, AH.set_n]; first | done | omega)) only [go_sem]
  refine ⟨?_, hk⟩
  cases hb : l.any farK
  · rw [hb] at hi; simp at hi; simp; omega
  · rw [hb] at hi; simp at hi; simp; omega
end Go.Proofs.YtndlfkibcelhmaaGreatDoor.Ai
end
section
namespace Go.Proofs.YtndlfkibcelhmaaGreatDoor.Ai
open Go
set_option maxRecDepth 10000
set_option maxHeartbeats 4000000
set_option linter.all false
set_option pp.maxSteps 1200

theorem firstErr_cons (a : Int) (l : List Int) : firstErr (a :: l) = if a = 0 then firstErr l else a := rfl

theorem pCheckPanel_cl {fl : Nat} {h : AH} {l r : AVal} {p : Pn} (hf : fl ≤ h.n) (hv : PV h l r p) (hs : PSmall p) :
    Cl T fl 58 [.agg [.str p.name, .int .i64 p.width, l, r]] h fun x h' => x = .int .i64 (panelErr p) ∧ Keep h h' := by
  refine Cl.code (fn := F58) rfl rfl ?_
  simp only [F58]
  have hlc := hv.left.one
  have hrc := hv.right.one
  have k0 : Keep h (h.push (.cells [.str p.name, .int .i64 p.width, l, r])) := (Keep.refl h).push _
  have n0 : h.n < (h.push (.cells [.str p.name, .int .i64 p.width, l, r])).n := by simp
  have c0 : (h.push (.cells [.str p.name, .int .i64 p.width, l, r])).cells h.n = some [.str p.name, .int .i64 p.width, l, r] := AH.cells_push_eq rfl
  simp (maxSteps := 10000000) (disch := first | omega | (simp only [AH.push_n, AH.set_n]; first | done | omega)) only [go_sem, Nat.reduceEqDiff]
  rw [show h.n + 1 = (h.push (.cells [.str p.name, .int .i64 p.width, l, r])).n from rfl]
  generalize h.push (.cells [.str p.name, .int .i64 p.width, l, r]) = g0 at *
  refine ClS.by (pIsName_cl (Nat.le_refl _) p.name (by have := hs.name; omega)) ?_
  rintro x g1 ⟨rfl, hk1⟩
  have k1 := k0.trans hk1
  have n1 : h.n < g1.n := Nat.lt_of_lt_of_le n0 hk1.n
  have c1 := (hk1.cells n0).trans c0
  simp (maxSteps := 10000000) (disch := first | omega | (simp only [AH.push_n, AH.set_n]; first | done | omega)) only [go_sem]
  refine ClS.by (pWhen_cl (!nameOk p.name) 8) ?_
  rintro x g2 ⟨rfl, rfl⟩
  simp (maxSteps := 10000000) (disch := first | omega | (simp only [AH.push_n, AH.set_n]; first | done | omega)) only [go_sem, Nat.reduceEqDiff, c1]
  refine ClS.by (pWithin_cl p.width 1 128) ?_
  rintro x g2 ⟨rfl, rfl⟩
  simp (maxSteps := 10000000) (disch := first | omega | (simp only [AH.push_n, AH.set_n]; first | done | omega)) only [go_sem, Nat.reduceEqDiff, c1]
  refine ClS.by (pCheckSide_cl (Nat.le_refl _) (hv.keep k1).left fun e he => by have := hs.left e he; omega) ?_
  rintro x g3 ⟨rfl, hk3⟩
  have k3 := k1.trans hk3
  have n3 : h.n < g3.n := Nat.lt_of_lt_of_le n1 hk3.n
  have c3 := (hk3.cells n1).trans c1
  simp (maxSteps := 10000000) (disch := first | omega | (simp only [AH.push_n, AH.set_n]; first | done | omega)) only [go_sem, Nat.reduceEqDiff, c3]
  refine ClS.by (pCheckSide_cl (Nat.le_trans hf k3.n) (hv.keep k3).right fun e he => by have := hs.right e he; omega) ?_
  rintro x g4 ⟨rfl, hk4⟩
  have k4 := k3.trans hk4
  have n4 : h.n < g4.n := Nat.lt_of_lt_of_le n3 hk4.n
  have c4 := (hk4.cells n3).trans c3
  simp (maxSteps := 10000000) (disch := first | omega | (simp only [AH.push_n, AH.set_n]; first | done | omega)) only [go_sem, Nat.reduceEqDiff, Nat.reduceAdd, Nat.reduceLeDiff]
  refine ClS.by (pFirst_cl (Vw.new (E := IntE) (g := g4) [whenErr (!nameOk p.name) 8, rangeErr p.width 1 128, sideErr p.left, sideErr p.right]) (by simp)) ?_
  rintro x g5 ⟨rfl, rfl⟩
  simp (maxSteps := 10000000) (disch := first | omega | (simp only [AH.push_n, AH.set_n]; first | done | omega)) only [go_sem]
  have k5 := k4.push (.cells (encs IntE [whenErr (!nameOk p.name) 8, rangeErr p.width 1 128, sideErr p.left, sideErr p.right]))
  have n5 : h.n < (g4.push (.cells (encs IntE [whenErr (!nameOk p.name) 8, rangeErr p.width 1 128, sideErr p.left, sideErr p.right]))).n := by simp; omega
  have c5 : (g4.push (.cells (encs IntE [whenErr (!nameOk p.name) 8, rangeErr p.width 1 128, sideErr p.left, sideErr p.right]))).cells h.n = some [.str p.name, .int .i64 p.width, l, r] := by rw [AH.cells_push_lt n4]; exact c4
  have hE : encs IntE [whenErr (!nameOk p.name) 8, rangeErr p.width 1 128, sideErr p.left, sideErr p.right] = [.int .i64 (whenErr (!nameOk p.name) 8), .int .i64 (rangeErr p.width 1 128), .int .i64 (sideErr p.left), .int .i64 (sideErr p.right)] := rfl
  rw [hE] at k5 n5 c5
  by_cases he : firstErr [whenErr (!nameOk p.name) 8, rangeErr p.width 1 128, sideErr p.left, sideErr p.right] = 0
  case neg =>
    simp (maxSteps := 10000000) (disch := first | omega | (simp only [AH.push_n, AH.set_n]; first | done | omega)) only [go_sem, Nat.reduceEqDiff, he]
    refine ⟨?_, k5⟩
    unfold panelErr
    cases hn : nameOk p.name
    · simp [whenErr, firstErr]
    · rw [hn] at he
      simp only [whenErr, Bool.not_true, Bool.false_eq_true, if_false, firstErr_cons (0 : Int), if_true] at he ⊢
      rw [if_neg (by simp), if_pos he]
  have hname : nameOk p.name = true := by
    cases hn : nameOk p.name
    · rw [hn] at he; simp [whenErr, firstErr] at he
    · rfl
  have he' : firstErr [rangeErr p.width 1 128, sideErr p.left, sideErr p.right] = 0 := by
    rw [hname] at he
    simpa only [whenErr, Bool.not_true, Bool.false_eq_true, if_false, firstErr_cons (0 : Int), if_true] using he
  have hok : rangeErr p.width 1 128 = 0 ∧ sideErr p.left = 0 ∧ sideErr p.right = 0 := by
    have he := he'
    simp only [firstErr] at he
    by_cases a : rangeErr p.width 1 128 = 0
    · by_cases b : sideErr p.left = 0
      · by_cases c : sideErr p.right = 0
        · exact ⟨a, b, c⟩
        · simp [a, b, c] at he
      · simp [a, b] at he
    · simp [a] at he
  have hw : 1 ≤ p.width ∧ p.width ≤ 128 := by have := hok.1; unfold rangeErr at this; split at this <;> omega
  have sl := sideErr_ok hok.2.1
  have sr := sideErr_ok hok.2.2
  have fL := sl.fit
  have fR := sr.fit
  have hp1 : panelErr p = if heightOf p ≠ riseOf (stepsOf p.right) then 2 else if heightOf p = 0 then 12 else if 256 < heightOf p then 4 else if (outlineOf p false ++ outlineOf p true).any farK then 4
      else if crossTo (outlineOf p false) (outlineOf p true) (heightOf p + 1).toNat then 16 else 0 := by
    unfold panelErr; rw [if_neg (by rw [hname]; simp), if_neg (by simpa using he')]
  have hRL := walk_rising false ⟨0, 0⟩ (stepsOf p.left) rfl fL.steps (by decide)
  have hTL := walk_top false ⟨0, 0⟩ (stepsOf p.left) rfl
  have hRR := walk_rising true ⟨2 * p.width, 0⟩ (stepsOf p.right) rfl fR.steps (by simp; omega)
  have hTR := walk_top true ⟨2 * p.width, 0⟩ (stepsOf p.right) rfl
  change Rising (outlineOf p false) at hRL
  change Rising (outlineOf p true) at hRR
  change ((outlineOf p false).getD ((outlineOf p false).length - 1) ⟨0, 0⟩).y = heightOf p at hTL
  change ((outlineOf p true).getD ((outlineOf p true).length - 1) ⟨0, 0⟩).y = riseOf (stepsOf p.right) at hTR
  simp (maxSteps := 10000000) (disch := first | omega | (simp only [AH.push_n, AH.set_n]; first | done | omega)) only [go_sem, Nat.reduceEqDiff, Nat.reduceAdd, he, c5]
  rw [show g4.n + 1 = (g4.push (.cells [.int .i64 (whenErr (!nameOk p.name) 8), .int .i64 (rangeErr p.width 1 128), .int .i64 (sideErr p.left), .int .i64 (sideErr p.right)])).n from rfl]
  generalize g4.push (.cells [.int .i64 (whenErr (!nameOk p.name) 8), .int .i64 (rangeErr p.width 1 128), .int .i64 (sideErr p.left), .int .i64 (sideErr p.right)]) = g5 at *
  refine ClS.by (pOutline_cl (Nat.le_refl _) (hv.keep k5) fL fR hw false) ?_
  rintro xl g6 ⟨hx6, hk6, ho6⟩
  have k6 := k5.trans hk6
  have n6 : h.n < g6.n := Nat.lt_of_lt_of_le n5 hk6.n
  have c6 := (hk6.cells n5).trans c5
  simp (maxSteps := 10000000) (disch := first | omega | (simp only [AH.push_n, AH.set_n]; first | done | omega)) only [go_sem, Nat.reduceEqDiff, Nat.reduceAdd, c6]
  refine ClS.by (pOutline_cl (Nat.le_trans hf k6.n) (hv.keep k6) fL fR hw true) ?_
  rintro xr g7 ⟨hx7, hk7, ho7⟩
  have k7 := k6.trans hk7
  have hxl := hx6.keep hk7
  simp (maxSteps := 10000000) (disch := first | omega | (simp only [AH.push_n, AH.set_n]; first | done | omega)) only [go_sem, Nat.reduceEqDiff]
  have bL := hRL.len.2
  have bR := hRR.len.2
  refine ClS.by (top_cl (Nat.le_trans hf k7.n) hxl hRL.len.1 (by omega)) ?_
  rintro x g8 ⟨rfl, hk8⟩
  rw [hTL]
  have k8 := k7.trans hk8
  have hxl := hxl.keep hk8
  have hxr := hx7.keep hk8
  simp (maxSteps := 10000000) (disch := first | omega | (simp only [AH.push_n, AH.set_n]; first | done | omega)) only [go_sem, Nat.reduceEqDiff]
  refine ClS.by (containsFar_cl (Nat.le_trans hf k8.n) hxl (by omega)) ?_
  rintro x g9 ⟨rfl, hk9⟩
  have k9 := k8.trans hk9
  have hxl := hxl.keep hk9
  have hxr := hxr.keep hk9
  have hh0 : 0 ≤ heightOf p := (rise_bd _).1
  cases hfl : (outlineOf p false).any farK
  · simp (maxSteps := 10000000) (disch := first | omega | (simp only [AH.push_n, AH.set_n]; first | done | omega)) only [go_sem, Nat.reduceEqDiff]
    refine ClS.by (containsFar_cl (Nat.le_trans hf k9.n) hxr (by omega)) ?_
    rintro x g10 ⟨rfl, hk10⟩
    have k10 := k9.trans hk10
    have hxl := hxl.keep hk10
    have hxr := hxr.keep hk10
    simp (maxSteps := 10000000) (disch := first | omega | (simp only [AH.push_n, AH.set_n]; first | done | omega)) only [go_sem, Nat.reduceEqDiff]
    refine ClS.by (top_cl (Nat.le_trans hf k10.n) hxr hRR.len.1 (by omega)) ?_
    rintro x g11 ⟨rfl, hk11⟩
    rw [hTR]
    have k11 := k10.trans hk11
    have hxl := hxl.keep hk11
    have hxr := hxr.keep hk11
    simp (maxSteps := 10000000) (disch := first | omega | (simp only [AH.push_n, AH.set_n]; first | done | omega)) only [go_sem, Nat.reduceEqDiff]
    refine ClS.by (pWhen_cl _ 2) ?_
    rintro x g12 ⟨rfl, rfl⟩
    simp (maxSteps := 10000000) (disch := first | omega | (simp only [AH.push_n, AH.set_n]; first | done | omega)) only [go_sem, Nat.reduceEqDiff]
    refine ClS.by (pWhen_cl _ 12) ?_
    rintro x g12 ⟨rfl, rfl⟩
    by_cases q3 : 256 < heightOf p
    · simp (maxSteps := 10000000) (disch := first | omega | (simp only [AH.push_n, AH.set_n]; first | done | omega)) only [go_sem, Nat.reduceEqDiff, q3]
      refine ClS.by (pWhen_cl true 4) ?_
      rintro x g12 ⟨rfl, rfl⟩
      simp (maxSteps := 10000000) (disch := first | omega | (simp only [AH.push_n, AH.set_n]; first | done | omega)) only [go_sem, Nat.reduceEqDiff, Nat.reduceAdd, Nat.reduceLeDiff]
      refine ClS.by (pFirst_cl (Vw.new (E := IntE) (g := g11) [whenErr (!decide (heightOf p = riseOf (stepsOf p.right))) 2, whenErr (decide (heightOf p = 0)) 12, whenErr true 4]) (by simp)) ?_
      rintro x g13 ⟨rfl, rfl⟩
      have hE2 : panelErr p = firstErr [whenErr (!decide (heightOf p = riseOf (stepsOf p.right))) 2, whenErr (decide (heightOf p = 0)) 12, whenErr true 4] ∧ ¬ firstErr [whenErr (!decide (heightOf p = riseOf (stepsOf p.right))) 2, whenErr (decide (heightOf p = 0)) 12, whenErr true 4] = 0 := by
        rw [hp1]
        by_cases q1 : heightOf p = riseOf (stepsOf p.right)
        · by_cases q2 : heightOf p = 0
          · have q1' : riseOf (stepsOf p.right) = 0 := by rw [← q1]; exact q2
            simp [q2, q1', whenErr, firstErr]
          · simp [← q1, q2, whenErr, firstErr, q3]
        · simp [q1, whenErr, firstErr]
      obtain ⟨hE2, hE3⟩ := hE2
      simp (maxSteps := 10000000) (disch := first | omega | (simp only [AH.push_n, AH.set_n]; first | done | omega)) only [go_sem, Nat.reduceEqDiff, hE3]
      exact ⟨hE2.symm, k11.push _⟩
    · simp (maxSteps := 10000000) (disch := first | omega | (simp only [AH.push_n, AH.set_n]; first | done | omega)) only [go_sem, Nat.reduceEqDiff, q3]
      refine ClS.by (pWhen_cl _ 4) ?_
      rintro x g12 ⟨rfl, rfl⟩
      simp (maxSteps := 10000000) (disch := first | omega | (simp only [AH.push_n, AH.set_n]; first | done | omega)) only [go_sem, Nat.reduceEqDiff, Nat.reduceAdd, Nat.reduceLeDiff]
      refine ClS.by (pFirst_cl (Vw.new (E := IntE) (g := g11) [whenErr (!decide (heightOf p = riseOf (stepsOf p.right))) 2, whenErr (decide (heightOf p = 0)) 12, whenErr ((outlineOf p true).any farK) 4]) (by simp)) ?_
      rintro x g13 ⟨rfl, rfl⟩
      have hE2 : ∀ e, e = firstErr [whenErr (!decide (heightOf p = riseOf (stepsOf p.right))) 2, whenErr (decide (heightOf p = 0)) 12, whenErr ((outlineOf p true).any farK) 4] → (e ≠ 0 → panelErr p = e) ∧ (e = 0 → heightOf p = riseOf (stepsOf p.right) ∧ panelErr p = if crossTo (outlineOf p false) (outlineOf p true) (heightOf p + 1).toNat then 16 else 0) := by
        rintro e rfl
        rw [hp1]
        by_cases q1 : heightOf p = riseOf (stepsOf p.right)
        · by_cases q2 : heightOf p = 0
          · have q1' : riseOf (stepsOf p.right) = 0 := by rw [← q1]; exact q2
            simp [q2, q1', whenErr, firstErr]
          · cases hb : (outlineOf p true).any farK <;> simp [← q1, q2, q3, hfl, hb, whenErr, firstErr]
        · simp [q1, whenErr, firstErr]
      obtain ⟨hE2, hE3⟩ := hE2 _ rfl
      by_cases he2 : firstErr [whenErr (!decide (heightOf p = riseOf (stepsOf p.right))) 2, whenErr (decide (heightOf p = 0)) 12, whenErr ((outlineOf p true).any farK) 4] = 0
      case neg =>
        simp (maxSteps := 10000000) (disch := first | omega | (simp only [AH.push_n, AH.set_n]; first | done | omega)) only [go_sem, Nat.reduceEqDiff, he2]
        exact ⟨(hE2 he2).symm, k11.push _⟩
      obtain ⟨q1, hp2⟩ := hE3 he2
      simp (maxSteps := 10000000) (disch := first | omega | (simp only [AH.push_n, AH.set_n]; first | done | omega)) only [go_sem, Nat.reduceEqDiff, he2]
      have k13 := k11.push (.cells [.int .i64 (whenErr (!decide (heightOf p = riseOf (stepsOf p.right))) 2), .int .i64 (whenErr (decide (heightOf p = 0)) 12), .int .i64 (whenErr ((outlineOf p true).any farK) 4)])
      have hxl := hxl.push (.cells [.int .i64 (whenErr (!decide (heightOf p = riseOf (stepsOf p.right))) 2), .int .i64 (whenErr (decide (heightOf p = 0)) 12), .int .i64 (whenErr ((outlineOf p true).any farK) 4)])
      have hxr := hxr.push (.cells [.int .i64 (whenErr (!decide (heightOf p = riseOf (stepsOf p.right))) 2), .int .i64 (whenErr (decide (heightOf p = 0)) 12), .int .i64 (whenErr ((outlineOf p true).any farK) 4)])
      generalize g11.push (.cells [.int .i64 (whenErr (!decide (heightOf p = riseOf (stepsOf p.right))) 2), .int .i64 (whenErr (decide (heightOf p = 0)) 12), .int .i64 (whenErr ((outlineOf p true).any farK) 4)]) = g13 at *
      obtain ⟨top, htop⟩ : ∃ n : Nat, heightOf p = n := ⟨(heightOf p).toNat, by omega⟩
      refine ClS.by (pReach_cl (Nat.le_trans hf k13.n) hxl hRL (hTL.trans htop)) ?_
      rintro vl g14 ⟨hk14, rowsL, hvl, hll, hsl⟩
      have k14 := k13.trans hk14
      have hxr := hxr.keep hk14
      simp (maxSteps := 10000000) (disch := first | omega | (simp only [AH.push_n, AH.set_n]; first | done | omega)) only [go_sem, Nat.reduceEqDiff]
      refine ClS.by (pReach_cl (Nat.le_trans hf k14.n) hxr hRR (hTR.trans (q1.symm.trans htop))) ?_
      rintro vr g15 ⟨hk15, rowsR, hvr, hlr, hsr⟩
      have k15 := k14.trans hk15
      have hvl := hvl.keep hk15
      simp (maxSteps := 10000000) (disch := first | omega | (simp only [AH.push_n, AH.set_n]; first | done | omega)) only [go_sem, Nat.reduceEqDiff, hvl.len]
      rw [htop, show (((top : Int) + 1).toNat) = top + 1 by omega] at hp2
      refine wS_loop (fun m ts g => ∃ k, k ≤ top + 1 ∧ m = top + 1 - k ∧ g = g15 ∧ tg ts 9 = vl ∧ tg ts 10 = vr ∧ tg ts 69 = .int .i64 rowsL.length ∧ tg ts 70 = .int .i64 k ∧ crossTo (outlineOf p false) (outlineOf p true) k = false) (top + 1)
        ⟨0, by omega, by omega, rfl, by simp, by simp, by simp, by simp, rfl⟩ ?_
      rintro m ts g ⟨k, hk, rfl, rfl, t9, t10, t69, t70, hz⟩
      by_cases hlt : k ≤ top
      · have hlL : k < rowsL.length := by omega
        have hlR : k < rowsR.length := by omega
        obtain ⟨id1, off1, vs1, rfl, _, hc1, r0, r1, _⟩ := hvl.kn hlL
        obtain ⟨id2, off2, vs2, rfl, _, hc2, u0, u1, _⟩ := hvr.kn hlR
        have hgl : rowsL[k] = knOf (reachOf (outlineOf p false) k) := by rw [← hsl k hlt]; simp [List.getD_eq_getElem?_getD, List.getElem?_eq_getElem hlL]
        have hgr : rowsR[k] = knOf (reachOf (outlineOf p true) k) := by rw [← hsr k hlt]; simp [List.getD_eq_getElem?_getD, List.getElem?_eq_getElem hlR]
        have hbl := reachTo_bd (outlineOf_bd sl sr hw false) k (outlineOf p false).length
        have hbr := reachTo_bd (outlineOf_bd sl sr hw true) k (outlineOf p true).length
        rw [hgl] at r0 r1
        rw [hgr] at u0 u1
        simp only [knOf] at r0 r1 u0 u1
        have hcr : crossAt (outlineOf p false) (outlineOf p true) k ↔ (reachOf (outlineOf p true) k).1 < (reachOf (outlineOf p false) k).2 + 2 := by unfold crossAt; omega
        change (_ ∧ _ ∧ -1000000000 ≤ (reachOf (outlineOf p false) k).2 ∧ (reachOf (outlineOf p false) k).2 ≤ 1000000000) at hbl
        have e2 : (k : Int) < rowsL.length := by omega
        by_cases hx : (reachOf (outlineOf p true) k).1 < (reachOf (outlineOf p false) k).2 + 2
        · simp (maxSteps := 10000000) (disch := first | omega | (simp only [AH.push_n, AH.set_n]; first | done | omega)) only [go_sem, Nat.reduceEqDiff, Nat.reduceLT, Int.reduceToNat, t9, t10, t69, t70, e2, hlL, hlR, hc1, hc2, r1, u0, hx, Nat.add_zero]
          refine ⟨?_, k15⟩
          have : crossTo (outlineOf p false) (outlineOf p true) (k + 1) = true := by simp only [crossTo]; rw [show decide (crossAt (outlineOf p false) (outlineOf p true) k) = true from decide_eq_true (hcr.2 hx)]; simp
          rw [hp2, if_pos (crossTo_mono (by omega) this)]
        · simp (maxSteps := 10000000) (disch := first | omega | (simp only [AH.push_n, AH.set_n]; first | done | omega)) only [go_sem, Nat.reduceEqDiff, Nat.reduceLT, Int.reduceToNat, t9, t10, t69, t70, e2, hlL, hlR, hc1, hc2, r1, u0, hx, Nat.add_zero]
          refine ⟨_, ?_, k + 1, by omega, rfl, by omega, ?_⟩
          · omega
          · simp only [crossTo, hz, Bool.false_or]; exact decide_eq_false (fun c => hx (hcr.1 c))
      · have : k = top + 1 := by omega
        subst this
        have e2 : ¬ ((top : Int) + 1 < rowsL.length) := by omega
        simp (maxSteps := 10000000) (disch := first | omega | (simp only [AH.push_n, AH.set_n]; first | done | omega)) only [go_sem, t69, t70, e2]
        exact ⟨by rw [hp2, hz]; rfl, k15⟩
  · simp (maxSteps := 10000000) (disch := first | omega | (simp only [AH.push_n, AH.set_n]; first | done | omega)) only [go_sem, Nat.reduceEqDiff]
    refine ClS.by (top_cl (Nat.le_trans hf k9.n) hxr hRR.len.1 (by omega)) ?_
    rintro x g11 ⟨rfl, hk11⟩
    rw [hTR]
    have k11 := k9.trans hk11
    have hxl := hxl.keep hk11
    have hxr := hxr.keep hk11
    simp (maxSteps := 10000000) (disch := first | omega | (simp only [AH.push_n, AH.set_n]; first | done | omega)) only [go_sem, Nat.reduceEqDiff]
    refine ClS.by (pWhen_cl _ 2) ?_
    rintro x g12 ⟨rfl, rfl⟩
    simp (maxSteps := 10000000) (disch := first | omega | (simp only [AH.push_n, AH.set_n]; first | done | omega)) only [go_sem, Nat.reduceEqDiff]
    refine ClS.by (pWhen_cl _ 12) ?_
    rintro x g12 ⟨rfl, rfl⟩
    by_cases q3 : 256 < heightOf p
    · simp (maxSteps := 10000000) (disch := first | omega | (simp only [AH.push_n, AH.set_n]; first | done | omega)) only [go_sem, Nat.reduceEqDiff, q3]
      refine ClS.by (pWhen_cl true 4) ?_
      rintro x g12 ⟨rfl, rfl⟩
      simp (maxSteps := 10000000) (disch := first | omega | (simp only [AH.push_n, AH.set_n]; first | done | omega)) only [go_sem, Nat.reduceEqDiff, Nat.reduceAdd, Nat.reduceLeDiff]
      refine ClS.by (pFirst_cl (Vw.new (E := IntE) (g := g11) [whenErr (!decide (heightOf p = riseOf (stepsOf p.right))) 2, whenErr (decide (heightOf p = 0)) 12, whenErr true 4]) (by simp)) ?_
      rintro x g13 ⟨rfl, rfl⟩
      have hE2 : panelErr p = firstErr [whenErr (!decide (heightOf p = riseOf (stepsOf p.right))) 2, whenErr (decide (heightOf p = 0)) 12, whenErr true 4] ∧ ¬ firstErr [whenErr (!decide (heightOf p = riseOf (stepsOf p.right))) 2, whenErr (decide (heightOf p = 0)) 12, whenErr true 4] = 0 := by
        rw [hp1]
        by_cases q1 : heightOf p = riseOf (stepsOf p.right)
        · by_cases q2 : heightOf p = 0
          · have q1' : riseOf (stepsOf p.right) = 0 := by rw [← q1]; exact q2
            simp [q2, q1', whenErr, firstErr]
          · simp [← q1, q2, whenErr, firstErr, q3]
        · simp [q1, whenErr, firstErr]
      obtain ⟨hE2, hE3⟩ := hE2
      simp (maxSteps := 10000000) (disch := first | omega | (simp only [AH.push_n, AH.set_n]; first | done | omega)) only [go_sem, Nat.reduceEqDiff, hE3]
      exact ⟨hE2.symm, k11.push _⟩
    · simp (maxSteps := 10000000) (disch := first | omega | (simp only [AH.push_n, AH.set_n]; first | done | omega)) only [go_sem, Nat.reduceEqDiff, q3]
      refine ClS.by (pWhen_cl true 4) ?_
      rintro x g12 ⟨rfl, rfl⟩
      simp (maxSteps := 10000000) (disch := first | omega | (simp only [AH.push_n, AH.set_n]; first | done | omega)) only [go_sem, Nat.reduceEqDiff, Nat.reduceAdd, Nat.reduceLeDiff]
      refine ClS.by (pFirst_cl (Vw.new (E := IntE) (g := g11) [whenErr (!decide (heightOf p = riseOf (stepsOf p.right))) 2, whenErr (decide (heightOf p = 0)) 12, whenErr true 4]) (by simp)) ?_
      rintro x g13 ⟨rfl, rfl⟩
      have hE2 : panelErr p = firstErr [whenErr (!decide (heightOf p = riseOf (stepsOf p.right))) 2, whenErr (decide (heightOf p = 0)) 12, whenErr true 4] ∧ ¬ firstErr [whenErr (!decide (heightOf p = riseOf (stepsOf p.right))) 2, whenErr (decide (heightOf p = 0)) 12, whenErr true 4] = 0 := by
        rw [hp1]
        by_cases q1 : heightOf p = riseOf (stepsOf p.right)
        · by_cases q2 : heightOf p = 0
          · have q1' : riseOf (stepsOf p.right) = 0 := by rw [← q1]; exact q2
            simp [q2, q1', whenErr, firstErr]
          · simp [← q1, q2, whenErr, firstErr, q3, hfl]
        · simp [q1, whenErr, firstErr]
      obtain ⟨hE2, hE3⟩ := hE2
      simp (maxSteps := 10000000) (disch := first | omega | (simp only [AH.push_n, AH.set_n]; first | done | omega)) only [go_sem, Nat.reduceEqDiff, hE3]
      exact ⟨hE2.symm, k11.push _⟩
end Go.Proofs.YtndlfkibcelhmaaGreatDoor.Ai
end
section
namespace Go.Proofs.YtndlfkibcelhmaaGreatDoor.Ai
open Go
set_option maxRecDepth 10000
set_option maxHeartbeats 4000000
set_option linter.all false
set_option pp.maxSteps 1200

def shLet : List Ed → Int
  | [] => 0
  | e :: l => (if 0 < e.t ∧ e.t ≤ 64 then (e.w.length : Int) * e.t else 0) + shLet l
theorem shLet_app : ∀ a b : List Ed, shLet (a ++ b) = shLet a + shLet b
  | [], b => by simp [shLet]
  | e :: a, b => by simp only [List.cons_append, shLet, shLet_app a b]; omega
theorem shLet_take {l : List Ed} {k : Nat} (hk : k < l.length) : shLet (l.take (k + 1)) = shLet (l.take k) + (if 0 < l[k].t ∧ l[k].t ≤ 64 then (l[k].w.length : Int) * l[k].t else 0) := by
  rw [List.take_succ_eq_append_getElem hk, shLet_app]; simp [shLet]
theorem shLet_ok : ∀ {l : List Ed}, edgesErr l = 0 → shLet l = lettersOf l
  | [], _ => rfl
  | e :: l, h => by
    have he := edgesErr_all h e (List.mem_cons_self ..)
    obtain ⟨_, _, _, h1, h2⟩ := edgeErr_ok he
    have hl : edgesErr l = 0 := by simpa [edgesErr, he] using h
    rw [shLet, lettersOf, shLet_ok hl, if_pos ⟨by omega, h2⟩]
structure ShortL (n : Int) (l : List Ed) : Prop where
  len : l.length ≤ 66
  words : ∀ e ∈ l, e.w.length ≤ 66
  few : l.length ≤ 64 → shLet l ≤ n
structure PShort (n : Int) (p : Pn) : Prop where
  name : p.name.length ≤ 60
  width : p.width ≤ 8 ∨ 128 < p.width
  left : ShortL n p.left
  right : ShortL n p.right
theorem ShortL.steps {n : Int} {l : List Ed} (s : ShortL n l) (o : SideOk l) : ((stepsOf l).length : Int) ≤ n := by
  rw [stepsOf_len o.edges, ← shLet_ok o.edges]; exact s.few o.len
theorem PShort.small {n : Int} {p : Pn} (s : PShort n p) : PSmall p :=
  ⟨by have := s.name; omega, fun e he => by have := s.left.words e he; omega, fun e he => by have := s.right.words e he; omega⟩

theorem shortSide_cl {fl : Nat} {h : AH} {v : AVal} {l : List Ed} (hf : fl ≤ h.n) (hv : Vw EdE h v l) (n : Int) :
    Cl T fl 87 [v, .int .i64 n] h fun r h' => (∃ b, r = .bool b ∧ (b = true → ShortL n l)) ∧ Keep h h' := by
  refine Cl.code (fn := F87) rfl rfl ?_
  simp only [F87]
  by_cases h1 : 66 < l.length
  · have e1 : (66 : Int) < l.length := by omega
    have e2 : (3 : Int) < l.length := by omega
    have e3 : ¬ (l.length : Int) ≤ 64 := by omega
    simp (maxSteps := 10000000) (disch := first | omega | (simp only [AH.push_n, AH.set_n]; first | done | omega)) only [go_sem, reduceCtorEq, Nat.reduceEqDiff, Nat.reduceAdd, hv.len, e1, e2, e3]
    exact ⟨⟨false, rfl, fun h => by cases h⟩, Keep.refl h⟩
  by_cases h2 : 3 < l.length ∧ l.length ≤ 64
  · have e1 : (3 : Int) < l.length := by omega
    have e3 : (l.length : Int) ≤ 64 := by omega
    simp (maxSteps := 10000000) (disch := first | omega | (simp only [AH.push_n, AH.set_n]; first | done | omega)) only [go_sem, reduceCtorEq, Nat.reduceEqDiff, Nat.reduceAdd, hv.len, e1, e3]
    exact ⟨⟨false, rfl, fun h => by cases h⟩, Keep.refl h⟩
  by_cases h3 : 3 < l.length
  · have e1 : (3 : Int) < l.length := by omega
    have e3 : ¬ (l.length : Int) ≤ 64 := by omega
    have e4 : ¬ (66 : Int) < l.length := by omega
    simp (maxSteps := 10000000) (disch := first | omega | (simp only [AH.push_n, AH.set_n]; first | done | omega)) only [go_sem, reduceCtorEq, Nat.reduceEqDiff, Nat.reduceAdd, hv.len, e1, e3, e4]
    refine wS_loop (fun m ts g => ∃ k acc, k ≤ l.length ∧ m = l.length - k ∧ g = h ∧ tg ts 0 = v ∧ tg ts 1 = .int .i64 n ∧ tg ts 5 = .int .i64 acc ∧ tg ts 6 = .int .i64 k ∧ 0 ≤ acc ∧ acc ≤ (k : Int) * 4224 ∧ (∀ (i : Nat) (h : i < l.length), i < k → l[i].w.length ≤ 66) ∧ acc = shLet (l.take k)) l.length
      ⟨0, 0, by omega, by omega, rfl, by simp, by simp, by simp, by simp, by omega, by omega, fun i _ hi => by omega, rfl⟩ ?_
    rintro m ts g ⟨k, acc, hk, rfl, rfl, t0, t1, t5, t6, a0, a1, hall, ha⟩
    by_cases hlt : k < l.length
    · obtain ⟨id, off, vs, rfl, hid, hc, r0, r1, r2, r3⟩ := hv.ed hlt
      have e5 : (k : Int) < l.length := by omega
      by_cases hw : 66 < l[k].w.length
      · have e6 : (66 : Int) < l[k].w.length := by omega
        simp (maxSteps := 10000000) (disch := first | omega | (simp only [AH.push_n, AH.set_n]; first | done | omega)) only [go_sem, reduceCtorEq, Nat.reduceEqDiff, t0, t6, e5, hlt, hc, r0, e6]
        exact ⟨⟨false, rfl, fun h => by cases h⟩, Keep.refl g⟩
      have e6 : ¬ (66 : Int) < l[k].w.length := by omega
      have hall2 : ∀ (i : Nat) (h : i < l.length), i < k + 1 → l[i].w.length ≤ 66 := fun i hi hik => by
        by_cases e : i = k
        · subst e; omega
        · exact hall i hi (by omega)
      by_cases ht0 : 0 < l[k].t
      · by_cases ht1 : l[k].t ≤ 64
        · have m1 : (l[k].w.length : Int) * l[k].t ≤ 66 * 64 := Int.mul_le_mul (by omega) ht1 (by omega) (by omega)
          have m0 : 0 ≤ (l[k].w.length : Int) * l[k].t := Int.mul_nonneg (by omega) (by omega)
          have hmul : wrapK .i64 ((l[k].w.length : Int) * l[k].t) = (l[k].w.length : Int) * l[k].t := wrapK_i64 (by omega) (by omega)
          have hadd : wrapK .i64 (acc + (l[k].w.length : Int) * l[k].t) = acc + (l[k].w.length : Int) * l[k].t := wrapK_i64 (by omega) (by omega)
          simp (maxSteps := 10000000) (disch := first | omega | (simp only [AH.push_n, AH.set_n]; first | done | omega)) only [go_sem, reduceCtorEq, Nat.reduceEqDiff, t0, t1, t5, t6, e5, hlt, hc, r0, r1, e6, ht0, ht1, hmul, hadd]
          refine ⟨_, ?_, k + 1, _, by omega, rfl, rfl, by omega, by omega, by omega, hall2, by rw [shLet_take hlt, if_pos ⟨ht0, ht1⟩, ha]⟩
          omega
        · simp (maxSteps := 10000000) (disch := first | omega | (simp only [AH.push_n, AH.set_n]; first | done | omega)) only [go_sem, reduceCtorEq, Nat.reduceEqDiff, t0, t1, t5, t6, e5, hlt, hc, r0, r1, e6, ht0, ht1]
          refine ⟨_, ?_, k + 1, acc, by omega, rfl, rfl, by omega, by omega, by omega, hall2, by rw [shLet_take hlt, if_neg (by omega), Int.add_zero]; exact ha⟩
          omega
      · simp (maxSteps := 10000000) (disch := first | omega | (simp only [AH.push_n, AH.set_n]; first | done | omega)) only [go_sem, reduceCtorEq, Nat.reduceEqDiff, t0, t1, t5, t6, e5, hlt, hc, r0, r1, e6, ht0]
        refine ⟨_, ?_, k + 1, acc, by omega, rfl, rfl, by omega, by omega, by omega, hall2, by rw [shLet_take hlt, if_neg (by omega), Int.add_zero]; exact ha⟩
        omega
    · have : k = l.length := by omega
      subst this
      have e5 : ¬ (l.length : Int) < l.length := by omega
      have hfin : ShortL n l := ⟨by omega, fun e he => by obtain ⟨i, hi, rfl⟩ := List.mem_iff_getElem.1 he; exact hall i hi hi, fun h => by omega⟩
      by_cases hcap : acc ≤ n
      · simp (maxSteps := 10000000) (disch := first | omega | (simp only [AH.push_n, AH.set_n]; first | done | omega)) only [go_sem, reduceCtorEq, Nat.reduceEqDiff, t0, t1, t5, t6, hv.len, e5, hcap]
        exact ⟨⟨_, rfl, fun _ => hfin⟩, Keep.refl g⟩
      · simp (maxSteps := 10000000) (disch := first | omega | (simp only [AH.push_n, AH.set_n]; first | done | omega)) only [go_sem, reduceCtorEq, Nat.reduceEqDiff, t0, t1, t5, t6, hv.len, e5, hcap]
        exact ⟨⟨_, rfl, fun _ => hfin⟩, Keep.refl g⟩
  · have e1 : ¬ (3 : Int) < l.length := by omega
    have e4 : ¬ (66 : Int) < l.length := by omega
    simp (maxSteps := 10000000) (disch := first | omega | (simp only [AH.push_n, AH.set_n]; first | done | omega)) only [go_sem, reduceCtorEq, Nat.reduceEqDiff, Nat.reduceAdd, hv.len, e1, e4]
    refine wS_loop (fun m ts g => ∃ k acc, k ≤ l.length ∧ m = l.length - k ∧ g = h ∧ tg ts 0 = v ∧ tg ts 1 = .int .i64 n ∧ tg ts 5 = .int .i64 acc ∧ tg ts 6 = .int .i64 k ∧ 0 ≤ acc ∧ acc ≤ (k : Int) * 4224 ∧ (∀ (i : Nat) (h : i < l.length), i < k → l[i].w.length ≤ 66) ∧ acc = shLet (l.take k)) l.length
      ⟨0, 0, by omega, by omega, rfl, by simp, by simp, by simp, by simp, by omega, by omega, fun i _ hi => by omega, rfl⟩ ?_
    rintro m ts g ⟨k, acc, hk, rfl, rfl, t0, t1, t5, t6, a0, a1, hall, ha⟩
    by_cases hlt : k < l.length
    · obtain ⟨id, off, vs, rfl, hid, hc, r0, r1, r2, r3⟩ := hv.ed hlt
      have e5 : (k : Int) < l.length := by omega
      by_cases hw : 66 < l[k].w.length
      · have e6 : (66 : Int) < l[k].w.length := by omega
        simp (maxSteps := 10000000) (disch := first | omega | (simp only [AH.push_n, AH.set_n]; first | done | omega)) only [go_sem, reduceCtorEq, Nat.reduceEqDiff, t0, t6, e5, hlt, hc, r0, e6]
        exact ⟨⟨false, rfl, fun h => by cases h⟩, Keep.refl g⟩
      have e6 : ¬ (66 : Int) < l[k].w.length := by omega
      have hall2 : ∀ (i : Nat) (h : i < l.length), i < k + 1 → l[i].w.length ≤ 66 := fun i hi hik => by
        by_cases e : i = k
        · subst e; omega
        · exact hall i hi (by omega)
      by_cases ht0 : 0 < l[k].t
      · by_cases ht1 : l[k].t ≤ 64
        · have m1 : (l[k].w.length : Int) * l[k].t ≤ 66 * 64 := Int.mul_le_mul (by omega) ht1 (by omega) (by omega)
          have m0 : 0 ≤ (l[k].w.length : Int) * l[k].t := Int.mul_nonneg (by omega) (by omega)
          have hmul : wrapK .i64 ((l[k].w.length : Int) * l[k].t) = (l[k].w.length : Int) * l[k].t := wrapK_i64 (by omega) (by omega)
          have hadd : wrapK .i64 (acc + (l[k].w.length : Int) * l[k].t) = acc + (l[k].w.length : Int) * l[k].t := wrapK_i64 (by omega) (by omega)
          simp (maxSteps := 10000000) (disch := first | omega | (simp only [AH.push_n, AH.set_n]; first | done | omega)) only [go_sem, reduceCtorEq, Nat.reduceEqDiff, t0, t1, t5, t6, e5, hlt, hc, r0, r1, e6, ht0, ht1, hmul, hadd]
          refine ⟨_, ?_, k + 1, _, by omega, rfl, rfl, by omega, by omega, by omega, hall2, by rw [shLet_take hlt, if_pos ⟨ht0, ht1⟩, ha]⟩
          omega
        · simp (maxSteps := 10000000) (disch := first | omega | (simp only [AH.push_n, AH.set_n]; first | done | omega)) only [go_sem, reduceCtorEq, Nat.reduceEqDiff, t0, t1, t5, t6, e5, hlt, hc, r0, r1, e6, ht0, ht1]
          refine ⟨_, ?_, k + 1, acc, by omega, rfl, rfl, by omega, by omega, by omega, hall2, by rw [shLet_take hlt, if_neg (by omega), Int.add_zero]; exact ha⟩
          omega
      · simp (maxSteps := 10000000) (disch := first | omega | (simp only [AH.push_n, AH.set_n]; first | done | omega)) only [go_sem, reduceCtorEq, Nat.reduceEqDiff, t0, t1, t5, t6, e5, hlt, hc, r0, r1, e6, ht0]
        refine ⟨_, ?_, k + 1, acc, by omega, rfl, rfl, by omega, by omega, by omega, hall2, by rw [shLet_take hlt, if_neg (by omega), Int.add_zero]; exact ha⟩
        omega
    · have : k = l.length := by omega
      subst this
      have e5 : ¬ (l.length : Int) < l.length := by omega
      rw [List.take_length] at ha
      have hfin : acc ≤ n → ShortL n l := fun hn => ⟨by omega, fun e he => by obtain ⟨i, hi, rfl⟩ := List.mem_iff_getElem.1 he; exact hall i hi hi, fun h => by omega⟩
      by_cases hcap : acc ≤ n
      · simp (maxSteps := 10000000) (disch := first | omega | (simp only [AH.push_n, AH.set_n]; first | done | omega)) only [go_sem, reduceCtorEq, Nat.reduceEqDiff, t0, t1, t5, t6, hv.len, e5, hcap]
        exact ⟨⟨true, rfl, fun _ => hfin hcap⟩, Keep.refl g⟩
      · simp (maxSteps := 10000000) (disch := first | omega | (simp only [AH.push_n, AH.set_n]; first | done | omega)) only [go_sem, reduceCtorEq, Nat.reduceEqDiff, t0, t1, t5, t6, hv.len, e5, hcap]
        exact ⟨⟨false, by simp; omega, fun h => by cases h⟩, Keep.refl g⟩

theorem short_cl {fl : Nat} {h : AH} {l r : AVal} {p : Pn} (hf : fl ≤ h.n) (hv : PV h l r p) (n : Int) :
    Cl T fl 18 [.agg [.str p.name, .int .i64 p.width, l, r], .int .i64 n] h fun x h' => (∃ b, x = .bool b ∧ (b = true → PShort n p)) ∧ Keep h h' := by
  refine Cl.code (fn := F18) rfl rfl ?_
  simp only [F18]
  have hlc := hv.left.one
  have hrc := hv.right.one
  have k0 : Keep h (h.push (.cells [.str p.name, .int .i64 p.width, l, r])) := (Keep.refl h).push _
  have c0 : (h.push (.cells [.str p.name, .int .i64 p.width, l, r])).cells h.n = some [.str p.name, .int .i64 p.width, l, r] := AH.cells_push_eq rfl
  have n0 : h.n < (h.push (.cells [.str p.name, .int .i64 p.width, l, r])).n := by simp
  by_cases h1 : p.name.length ≤ 60
  case neg =>
    have e1 : ¬ (p.name.length : Int) ≤ 60 := by omega
    simp (maxSteps := 10000000) (disch := first | omega | (simp only [AH.push_n, AH.set_n]; first | done | omega)) only [go_sem, reduceCtorEq, Nat.reduceEqDiff, Nat.reduceAdd, e1]
    exact ⟨⟨false, rfl, fun h => by cases h⟩, k0⟩
  have e1 : (p.name.length : Int) ≤ 60 := by omega
  by_cases h2 : p.width ≤ 8
  · simp (maxSteps := 10000000) (disch := first | omega | (simp only [AH.push_n, AH.set_n]; first | done | omega)) only [go_sem, reduceCtorEq, Nat.reduceEqDiff, Nat.reduceAdd, e1, h2]
    generalize h.push (.cells [.str p.name, .int .i64 p.width, l, r]) = g0 at *
    refine ClS.by (shortSide_cl (Nat.le_trans hf k0.n) (hv.keep k0).left n) ?_
    rintro x g1 ⟨⟨b, rfl, hb⟩, hk1⟩
    have k1 := k0.trans hk1
    have c1 := (hk1.cells n0).trans c0
    cases b
    · simp (maxSteps := 10000000) (disch := first | omega | (simp only [AH.push_n, AH.set_n]; first | done | omega)) only [go_sem, Nat.reduceEqDiff]
      exact ⟨⟨false, rfl, fun h => by cases h⟩, k1⟩
    · simp (maxSteps := 10000000) (disch := first | omega | (simp only [AH.push_n, AH.set_n]; first | done | omega)) only [go_sem, Nat.reduceEqDiff, c1]
      refine ClS.by (shortSide_cl (Nat.le_trans hf k1.n) (hv.keep k1).right n) ?_
      rintro x g2 ⟨⟨b, rfl, hb2⟩, hk2⟩
      simp (maxSteps := 10000000) (disch := first | omega | (simp only [AH.push_n, AH.set_n]; first | done | omega)) only [go_sem, Nat.reduceEqDiff]
      exact ⟨⟨b, rfl, fun h => ⟨h1, .inl h2, hb rfl, hb2 h⟩⟩, k1.trans hk2⟩
  · by_cases h3 : 128 < p.width
    · simp (maxSteps := 10000000) (disch := first | omega | (simp only [AH.push_n, AH.set_n]; first | done | omega)) only [go_sem, reduceCtorEq, Nat.reduceEqDiff, Nat.reduceAdd, e1, h2, h3]
      generalize h.push (.cells [.str p.name, .int .i64 p.width, l, r]) = g0 at *
      refine ClS.by (shortSide_cl (Nat.le_trans hf k0.n) (hv.keep k0).left n) ?_
      rintro x g1 ⟨⟨b, rfl, hb⟩, hk1⟩
      have k1 := k0.trans hk1
      have c1 := (hk1.cells n0).trans c0
      cases b
      · simp (maxSteps := 10000000) (disch := first | omega | (simp only [AH.push_n, AH.set_n]; first | done | omega)) only [go_sem, Nat.reduceEqDiff]
        exact ⟨⟨false, rfl, fun h => by cases h⟩, k1⟩
      · simp (maxSteps := 10000000) (disch := first | omega | (simp only [AH.push_n, AH.set_n]; first | done | omega)) only [go_sem, Nat.reduceEqDiff, c1]
        refine ClS.by (shortSide_cl (Nat.le_trans hf k1.n) (hv.keep k1).right n) ?_
        rintro x g2 ⟨⟨b, rfl, hb2⟩, hk2⟩
        simp (maxSteps := 10000000) (disch := first | omega | (simp only [AH.push_n, AH.set_n]; first | done | omega)) only [go_sem, Nat.reduceEqDiff]
        exact ⟨⟨b, rfl, fun h => ⟨h1, .inr h3, hb rfl, hb2 h⟩⟩, k1.trans hk2⟩
    · simp (maxSteps := 10000000) (disch := first | omega | (simp only [AH.push_n, AH.set_n]; first | done | omega)) only [go_sem, reduceCtorEq, Nat.reduceEqDiff, Nat.reduceAdd, e1, h2, h3]
      exact ⟨⟨false, rfl, fun h => by cases h⟩, k0⟩
end Go.Proofs.YtndlfkibcelhmaaGreatDoor.Ai
end
section
namespace Go.Proofs.YtndlfkibcelhmaaGreatDoor.Ai
open Go
set_option maxRecDepth 10000
set_option maxHeartbeats 4000000
set_option linter.all false
set_option pp.maxSteps 1200

theorem Vw.ed1 {g : AH} {e : Ed} : Vw EdE (g.push (.cells [.str e.w, .int .i64 e.t, .bool e.o])) (.sl g.n 0 1 3) [e] := Vw.new (E := EdE) (g := g) [e]

theorem given_cl {fl : Nat} {h : AH} {l r : AVal} {p : Pn} (hf : fl ≤ h.n) (hv : PV h l r p) (sl : p.left.length ≤ 1000) (sr : p.right.length ≤ 1000) :
    Cl T fl 20 [.agg [.str p.name, .int .i64 p.width, l, r]] h fun x h' => (∃ l' r', x = .agg [.str p.name, .int .i64 p.width, l', r'] ∧ PV h' l' r' p ∧ Own h.n l' ∧ Own h.n r') ∧ Keep h h' := by
  refine Cl.code (fn := F20) rfl rfl ?_
  simp only [F20]
  have hlc := hv.left.one
  have hrc := hv.right.one
  simp (maxSteps := 10000000) (disch := first | omega | (simp only [AH.push_n, AH.set_n]; first | done | omega)) only [go_sem, Nat.reduceEqDiff, Nat.reduceAdd, Nat.reduceLeDiff, hv.left.len]
  refine wS_loop (fun m ts g => ∃ k lv, k ≤ p.left.length ∧ m = p.left.length - k ∧ Keep h g ∧ h.n + 3 ≤ g.n ∧ g.cells h.n = some [.str p.name, .int .i64 p.width, l, r] ∧ g.cells (h.n + 1) = some [.str [], .int .i64 0, .nilsl, .nilsl] ∧ g.cells (h.n + 2) = some [.str p.name, .int .i64 p.width, lv, .nilsl] ∧
    Vw EdE g lv (p.left.take k) ∧ Own (h.n + 3) lv ∧ tg ts 1 = .ptr h.n 0 ∧ tg ts 2 = .ptr (h.n + 1) 0 ∧ tg ts 3 = .ptr (h.n + 2) 0 ∧ tg ts 14 = l ∧ tg ts 15 = .int .i64 p.left.length ∧ tg ts 16 = .int .i64 k) p.left.length
    ⟨0, .nilsl, by omega, by omega, (((Keep.refl h).push _).push _).push _ |>.set (by omega) _, by simp, by simp (maxSteps := 10000000) (disch := first | omega | (simp only [AH.push_n, AH.set_n]; first | done | omega)) only [go_sem], by simp (maxSteps := 10000000) (disch := first | omega | (simp only [AH.push_n, AH.set_n]; first | done | omega)) only [go_sem], by simp (maxSteps := 10000000) (disch := first | omega | (simp only [AH.push_n, AH.set_n]; first | done | omega)) only [go_sem], Vw.nil, Own.of_nil, by simp, by simp, by simp, by simp, by simp, by simp⟩ ?_
  rintro m ts g ⟨k, lv, hk, rfl, hkp, hn, c0, c1, c2, hvl, hown, t1, t2, t3, t14, t15, t16⟩
  have hoff : ∀ i, g.n ≤ i → Off lv i := fun i hi e => by have := hvl.lt e; omega
  by_cases hlt : k < p.left.length
  · obtain ⟨id, off, vs, rfl, hid, hc, r0, r1, r2, r3⟩ := (hv.left.keep hkp).ed hlt
    have e2 : (k : Int) < p.left.length := by omega
    have hone := hvl.one
    simp (maxSteps := 10000000) (disch := first | omega | (simp only [AH.push_n, AH.set_n]; first | done | omega)) only [go_sem, Nat.reduceEqDiff, Nat.reduceAdd, t3, t14, t15, t16, e2, hlt, hc, r3, c2]
    refine append_to (E := EdE) (ys := [p.left[k]]) (((hvl.push _).set _ (hoff _ (Nat.le_refl _))).push _) (hown.mono (by omega)) (by simp; omega) Vw.ed1 ?_ ?_
    · simp only [List.length_take, List.length_cons, List.length_nil, maxRow]; omega
    intro x g5 ha
    have hn5 := ha.n
    simp only [AH.push_n, AH.set_n] at hn5
    have hlt2 : g.n < (((g.push (.cells [.str [], .int .i64 0, .bool false])).set g.n (.cells [.str p.left[k].w, .int .i64 p.left[k].t, .bool p.left[k].o])).push (.cells [.str p.left[k].w, .int .i64 p.left[k].t, .bool p.left[k].o])).n := by simp; omega
    have keepc : ∀ j, j < h.n + 3 → g5.cells j = g.cells j := fun j hj => by
      refine (ha.cells (by simp; omega) (fun e => by have := hown j e; omega)).trans ?_
      rw [AH.cells_push_lt (by simp; omega), AH.cells_set_ne (by omega), AH.cells_push_lt (by omega)]
    have d2 := (keepc (h.n + 2) (by omega)).trans c2
    obtain ⟨rid, hr, hrn⟩ := ha.form (by simp)
    simp only [AH.push_n, AH.set_n] at hrn
    have hk5 : Keep h g5 := ha.keep (((hkp.push _).set (by omega) _).push _) (hown.mono (by omega))
    have hvr := ha.vw
    have htk : p.left.take k ++ [p.left[k]] = p.left.take (k + 1) := (List.take_succ_eq_append_getElem hlt).symm
    rw [htk] at hvr
    subst hr
    simp (maxSteps := 10000000) (disch := first | omega | (simp only [AH.push_n, AH.set_n]; first | done | omega)) only [go_sem, Nat.reduceEqDiff, Nat.reduceAdd, Nat.reduceLeDiff, t1, t2, t3, t14, t15, t16, d2]
    refine ⟨_, ?_, k + 1, _, by omega, rfl, hk5.set (by omega) _, by first | omega | (simp; omega), ?_, ?_, rfl, hvr.set _ (Off.sl (by omega)), Own.sl (by omega), by omega⟩
    · omega
    · exact (keepc _ (by omega)).trans c0
    · exact (keepc _ (by omega)).trans c1
  have hkk : k = p.left.length := by omega
  subst hkk
  have e2 : ¬ (p.left.length : Int) < p.left.length := by omega
  rw [List.take_length] at hvl
  simp (maxSteps := 10000000) (disch := first | omega | (simp only [AH.push_n, AH.set_n]; first | done | omega)) only [go_sem, Nat.reduceEqDiff, t1, t15, t16, e2, c0, hv.right.len]
  clear t14 t15 t16
  refine wS_loop (fun m ts g => ∃ k rv, k ≤ p.right.length ∧ m = p.right.length - k ∧ Keep h g ∧ h.n + 3 ≤ g.n ∧ g.cells (h.n + 1) = some [.str [], .int .i64 0, .nilsl, .nilsl] ∧ g.cells (h.n + 2) = some [.str p.name, .int .i64 p.width, lv, rv] ∧
    Vw EdE g lv p.left ∧ Vw EdE g rv (p.right.take k) ∧ Own (h.n + 3) rv ∧ (∀ i, addrId lv = some i → Off rv i) ∧ tg ts 2 = .ptr (h.n + 1) 0 ∧ tg ts 3 = .ptr (h.n + 2) 0 ∧ tg ts 28 = r ∧ tg ts 29 = .int .i64 p.right.length ∧ tg ts 30 = .int .i64 k) p.right.length
    ⟨0, .nilsl, by omega, by omega, hkp, hn, c1, c2, hvl, Vw.nil, Own.of_nil, fun _ _ => Off.of_nil, by simp [t2], by simp [t3], by simp, by simp, by simp⟩ ?_
  clear c0 c1 c2 hkp hn t1 t2 t3 hvl hoff
  rintro m ts g ⟨k, rv, hk, rfl, hkp, hn, c1, c2, hvl, hvr, hown2, hoffs, t2, t3, t28, t29, t30⟩
  have hoff : ∀ i, g.n ≤ i → Off rv i := fun i hi e => by have := hvr.lt e; omega
  have hoffl : ∀ i, g.n ≤ i → Off lv i := fun i hi e => by have := hvl.lt e; omega
  by_cases hlt : k < p.right.length
  · obtain ⟨id, off, vs, rfl, hid, hc, r0, r1, r2, r3⟩ := (hv.right.keep hkp).ed hlt
    have e2 : (k : Int) < p.right.length := by omega
    have hone := hvr.one
    simp (maxSteps := 10000000) (disch := first | omega | (simp only [AH.push_n, AH.set_n]; first | done | omega)) only [go_sem, Nat.reduceEqDiff, Nat.reduceAdd, t3, t28, t29, t30, e2, hlt, hc, r3, c2]
    refine append_to (E := EdE) (ys := [p.right[k]]) (((hvr.push _).set _ (hoff _ (Nat.le_refl _))).push _) (hown2.mono (by omega)) (by simp; omega) Vw.ed1 ?_ ?_
    · simp only [List.length_take, List.length_cons, List.length_nil, maxRow]; omega
    intro x g5 ha
    have hn5 := ha.n
    simp only [AH.push_n, AH.set_n] at hn5
    have keepc : ∀ j, j < h.n + 3 → g5.cells j = g.cells j := fun j hj => by
      refine (ha.cells (by simp; omega) (fun e => by have := hown2 j e; omega)).trans ?_
      rw [AH.cells_push_lt (by simp; omega), AH.cells_set_ne (by omega), AH.cells_push_lt (by omega)]
    have d2 := (keepc (h.n + 2) (by omega)).trans c2
    obtain ⟨rid, hr, hrn⟩ := ha.form (by simp)
    simp only [AH.push_n, AH.set_n] at hrn
    have hk5 : Keep h g5 := ha.keep (((hkp.push _).set (by omega) _).push _) (hown2.mono (by omega))
    have hvx := ha.vw
    have hvl5 := ha.other (((hvl.push _).set _ (hoffl _ (Nat.le_refl _))).push _) hoffs
    have htk : p.right.take k ++ [p.right[k]] = p.right.take (k + 1) := (List.take_succ_eq_append_getElem hlt).symm
    rw [htk] at hvx
    subst hr
    simp (maxSteps := 10000000) (disch := first | omega | (simp only [AH.push_n, AH.set_n]; first | done | omega)) only [go_sem, Nat.reduceEqDiff, Nat.reduceAdd, t2, t3, t28, t29, t30, d2]
    refine ⟨_, ?_, k + 1, _, by omega, rfl, hk5.set (by omega) _, by first | omega | (simp; omega), ?_, rfl, hvl5.set _ (hown.off (by omega)), hvx.set _ (Off.sl (by omega)), Own.sl (by omega), ?_, by omega⟩
    · omega
    · exact (keepc _ (by omega)).trans c1
    · intro i e
      have := hvl.lt e
      exact Off.sl (by omega)
  have hkk : k = p.right.length := by omega
  subst hkk
  have e2 : ¬ (p.right.length : Int) < p.right.length := by omega
  rw [List.take_length] at hvr
  have hl1 := hvl.one
  have hr1 := hvr.one
  simp (maxSteps := 10000000) (disch := first | omega | (simp only [AH.push_n, AH.set_n]; first | done | omega)) only [go_sem, Nat.reduceEqDiff, Nat.reduceAdd, t2, t3, t29, t30, e2, c1, c2, hl1.2, hr1.2]
  exact ⟨⟨_, _, ⟨rfl, rfl⟩, ⟨hvl.set _ (hown.off (by omega)), hvr.set _ (hown2.off (by omega))⟩, hown.mono (by omega), hown2.mono (by omega)⟩, hkp.set (by omega) _⟩
end Go.Proofs.YtndlfkibcelhmaaGreatDoor.Ai
end
section
namespace Go.Proofs.YtndlfkibcelhmaaGreatDoor.Ai
open Go
set_option maxRecDepth 10000
set_option maxHeartbeats 4000000
set_option linter.all false
set_option pp.maxSteps 1200

structure PanelOk (p : Pn) : Prop where
  width : 1 ≤ p.width ∧ p.width ≤ 128
  left : SideOk p.left
  right : SideOk p.right
theorem panelErr_ok {p : Pn} (h : panelErr p = 0) : PanelOk p := by
  unfold panelErr at h
  split at h
  · omega
  split at h
  · omega
  rename_i he
  have he : firstErr [rangeErr p.width 1 128, sideErr p.left, sideErr p.right] = 0 := by simpa using he
  have hok : rangeErr p.width 1 128 = 0 ∧ sideErr p.left = 0 ∧ sideErr p.right = 0 := by
    simp only [firstErr] at he
    by_cases a : rangeErr p.width 1 128 = 0
    · by_cases b : sideErr p.left = 0
      · by_cases c : sideErr p.right = 0
        · exact ⟨a, b, c⟩
        · simp [a, b, c] at he
      · simp [a, b] at he
    · simp [a] at he
  exact ⟨by have := hok.1; unfold rangeErr at this; split at this <;> omega, sideErr_ok hok.2.1, sideErr_ok hok.2.2⟩

theorem awake_cl {fl : Nat} {h : AH} : Cl T fl 17 [] h fun r h' => r = .bool true ∧ h = h' := Cl.ofPrim (p := pTrue) rfl ⟨rfl, rfl⟩

end Go.Proofs.YtndlfkibcelhmaaGreatDoor.Ai
end
section
namespace Go.Proofs.YtndlfkibcelhmaaGreatDoor.Ai
open Go
set_option maxRecDepth 10000
set_option maxHeartbeats 4000000
set_option linter.all false
set_option pp.maxSteps 1200

def StE : Enc St := ⟨4, fun s => [.int .i64 s.l0, .int .i64 s.l1, .int .i64 s.u0, .int .i64 s.u1], fun _ => rfl, fun _ => rfl, by omega⟩
theorem Vw.st {h : AH} {v : AVal} {i : Nat} {xs : List St} (hv : Vw StE h v xs) (hi : i < xs.length) : ∃ id off vs, v = .sl id off xs.length 4 ∧ id < h.n ∧ h.cells id = some vs ∧
    readC vs (off + i * 4) 1 false = some (.int .i64 xs[i].l0) ∧ readC vs (off + i * 4 + 1) 1 false = some (.int .i64 xs[i].l1) ∧ readC vs (off + i * 4 + 2) 1 false = some (.int .i64 xs[i].u0) ∧ readC vs (off + i * 4 + 3) 1 false = some (.int .i64 xs[i].u1) ∧
    readC vs (off + i * 4) 4 true = some (.agg [.int .i64 xs[i].l0, .int .i64 xs[i].l1, .int .i64 xs[i].u0, .int .i64 xs[i].u1]) := by
  obtain ⟨id, off, vs, h1, h2, h3, h4, h5⟩ := hv.form hi
  exact ⟨id, off, vs, h1, h2, h3, read_cell h4 h5 hi (f := 0) (by decide), read_cell h4 h5 hi (f := 1) (by decide), read_cell h4 h5 hi (f := 2) (by decide), read_cell h4 h5 hi (f := 3) (by decide), read_row h4 h5 hi⟩
theorem list_same {α : Type} {a b : List α} (hl : a.length = b.length) (h : ∀ i, i < a.length → a[i]? = b[i]?) : a = b :=
  List.ext_getElem? fun i => by
    by_cases hi : i < a.length
    · exact h i hi
    · rw [List.getElem?_eq_none (by omega), List.getElem?_eq_none (by omega)]
end Go.Proofs.YtndlfkibcelhmaaGreatDoor.Ai
end
section
namespace Go.Proofs.YtndlfkibcelhmaaGreatDoor.Ai
open Go
set_option maxRecDepth 10000
set_option maxHeartbeats 4000000
set_option linter.all false
set_option pp.maxSteps 1200

theorem placeTo_hit {l : List Kn} {y : Int} {i : Nat} (hi : hitAt l y i) : ∀ {n : Nat}, i < n → (∀ j, i < j → j < n → ¬ hitAt l y j) → placeTo l y n = placeAt l i
  | 0, h, _ => absurd h (Nat.not_lt_zero i)
  | n + 1, h, hn => by
    by_cases e : i = n
    · subst e; rw [placeTo, if_pos hi]
    · rw [placeTo, if_neg (hn n (by omega) (by omega)), placeTo_hit hi (n := n) (by omega) fun j h1 h2 => hn j h1 (by omega)]
theorem Rising.once {l : List Kn} (r : Rising l) {y : Int} {i j : Nat} (hi : hitAt l y i) (hij : i < j) (hj : j < l.length) : ¬ hitAt l y j := fun hx => by
  have := r.mono (i := i + 1) (j := j) (by omega) hj
  have h1 := hi.2
  have h2 := hx.1
  omega
theorem Rising.places {l : List Kn} (r : Rising l) {y : Int} {i : Nat} (hi : hitAt l y i) (hl : i + 1 < l.length) : placesOf l y = placeAt l i :=
  placeTo_hit hi (by omega) fun j h1 h2 => r.once hi h1 (by omega)
structure POk (p : Pn) : Prop where
  ok : PanelOk p
  same : heightOf p = riseOf (stepsOf p.right)
  high : 1 ≤ heightOf p ∧ heightOf p ≤ 256
  near : ∀ right, ∀ q ∈ outlineOf p right, -4096 ≤ q.x ∧ q.x ≤ 4096
  cross : crossTo (outlineOf p false) (outlineOf p true) (heightOf p + 1).toNat = false
theorem pok {p : Pn} (h : panelErr p = 0) : POk p := by
  have ok := panelErr_ok h
  unfold panelErr at h
  split at h
  · omega
  split at h
  · rename_i h1 h2; exact absurd h (by simpa using h2)
  split at h
  · omega
  split at h
  · omega
  split at h
  · omega
  split at h
  · omega
  split at h
  · omega
  rename_i h1 h2 h3 h4 h5 h6 h7
  have hb := (rise_bd (stepsOf p.left)).1
  change 0 ≤ heightOf p at hb
  refine ⟨ok, by simpa using h3, by omega, ?_, by simpa using h7⟩
  intro right q hq
  have h6 : (outlineOf p false ++ outlineOf p true).any farK = false := by
    cases hx : (outlineOf p false ++ outlineOf p true).any farK
    · rfl
    · exact absurd hx h6
  rw [List.any_eq_false] at h6
  have := h6 q (by cases right <;> simp [hq])
  unfold farK at this
  simp only [decide_eq_true_eq] at this
  omega
theorem PanelOk.rising {p : Pn} (o : PanelOk p) (right : Bool) : Rising (outlineOf p right) := by
  have h1 := o.left.steps
  have h2 := o.right.steps
  have h3 := o.width
  cases right
  · exact walk_rising false ⟨0, 0⟩ (stepsOf p.left) rfl h1 (by decide)
  · exact walk_rising true ⟨2 * p.width, 0⟩ (stepsOf p.right) rfl h2 (by simp; omega)
theorem POk.top {p : Pn} (o : POk p) (right : Bool) : ((outlineOf p right).getD ((outlineOf p right).length - 1) ⟨0, 0⟩).y = heightOf p := by
  cases right
  · exact walk_top false ⟨0, 0⟩ (stepsOf p.left) rfl
  · rw [o.same]; exact walk_top true ⟨2 * p.width, 0⟩ (stepsOf p.right) rfl

end Go.Proofs.YtndlfkibcelhmaaGreatDoor.Ai
end
section
namespace Go.Proofs.YtndlfkibcelhmaaGreatDoor.Ai
open Go
set_option maxRecDepth 10000
set_option maxHeartbeats 4000000
set_option linter.all false
set_option pp.maxSteps 1200

end Go.Proofs.YtndlfkibcelhmaaGreatDoor.Ai
end
section
namespace Go.Proofs.YtndlfkibcelhmaaGreatDoor.Ai
open Go
set_option maxRecDepth 10000
set_option maxHeartbeats 4000000
set_option linter.all false
set_option pp.maxSteps 1200

theorem wS_mono {fl : Nat} {c : ACode} {ts : Tm} {h : AH} {Q Q' : KE} {t : Nat} (x : wS T fl c ts h Q t) (hq : ∀ e ts h, Q e ts h → Q' e ts h) : wS T fl c ts h Q' t := by
  unfold wS at *
  exact wc_mono x hq
def lessK (a b : Kn) : Prop := a.y < b.y ∨ (a.y = b.y ∧ a.x < b.x)
instance (a b : Kn) : Decidable (lessK a b) := by unfold lessK; infer_instance
end Go.Proofs.YtndlfkibcelhmaaGreatDoor.Ai
end
section
namespace Go.Proofs.YtndlfkibcelhmaaGreatDoor.Ai
open Go
set_option maxRecDepth 10000
set_option maxHeartbeats 4000000
set_option linter.all false
set_option pp.maxSteps 1200

theorem getD_at {α : Type} {l : List α} {i : Nat} (h : i < l.length) (d : α) : l.getD i d = l[i] := by
  rw [List.getD_eq_getElem?_getD, List.getElem?_eq_getElem h, Option.getD_some]
end Go.Proofs.YtndlfkibcelhmaaGreatDoor.Ai
end
section
namespace Go.Proofs.YtndlfkibcelhmaaGreatDoor.Ai
open Go
set_option maxRecDepth 10000
set_option maxHeartbeats 4000000
set_option linter.all false
set_option pp.maxSteps 1200

end Go.Proofs.YtndlfkibcelhmaaGreatDoor.Ai
end
section
namespace Go.Proofs.YtndlfkibcelhmaaGreatDoor.Ai
open Go
set_option maxRecDepth 10000
set_option maxHeartbeats 4000000
set_option linter.all false
set_option pp.maxSteps 1200

abbrev z4 : St := ⟨0, 0, 0, 0⟩
end Go.Proofs.YtndlfkibcelhmaaGreatDoor.Ai
end
section
namespace Go.Proofs.YtndlfkibcelhmaaGreatDoor.Ai
open Go
set_option maxRecDepth 10000
set_option maxHeartbeats 4000000
set_option linter.all false
set_option pp.maxSteps 1200

theorem Vw.of_cells {α : Type} {E : Enc α} {g : AH} {A n es : Nat} {xs : List α} (hc : g.cells A = some (encs E xs)) (hA : A < g.n) (hn : n = xs.length) (he : es = E.es) : Vw E g (.sl A 0 n es) xs := by
  refine ⟨he, hn, hA, _, hc, ?_, ?_⟩
  · rw [encs_length, hn, he]; omega
  · rw [List.drop_zero, List.take_of_length_le (by rw [encs_length, hn, he]; exact Nat.le_refl _)]

end Go.Proofs.YtndlfkibcelhmaaGreatDoor.Ai
end
section
namespace Go.Proofs.YtndlfkibcelhmaaGreatDoor.Ai
open Go
set_option maxRecDepth 10000
set_option maxHeartbeats 4000000
set_option linter.all false
set_option pp.maxSteps 1200

end Go.Proofs.YtndlfkibcelhmaaGreatDoor.Ai
end
section
namespace Go.Proofs.YtndlfkibcelhmaaGreatDoor.Ai
open Go
set_option maxRecDepth 10000
set_option maxHeartbeats 4000000
set_option linter.all false
set_option pp.maxSteps 1200

end Go.Proofs.YtndlfkibcelhmaaGreatDoor.Ai
end
section
namespace Go.Proofs.YtndlfkibcelhmaaGreatDoor.Ai
open Go
set_option maxRecDepth 10000
set_option linter.all false

theorem Rising.hit {l : List Kn} (r : Rising l) {y : Int} (h0 : 0 ≤ y) (hy : y < (l.getD (l.length - 1) ⟨0, 0⟩).y) : ∃ i, i + 1 < l.length ∧ hitAt l y i := by
  have hl := r.len.1
  have : ∀ n, n < l.length → y < (l.getD n ⟨0, 0⟩).y → ∃ i, i + 1 < l.length ∧ hitAt l y i := by
    intro n
    induction n with
    | zero => intro _ h; rw [r.low] at h; omega
    | succ n ih =>
      intro hn h
      by_cases e : y < (l.getD n ⟨0, 0⟩).y
      · exact ih (by omega) e
      · exact ⟨n, hn, by omega, h⟩
  exact this _ (by omega) hy
end Go.Proofs.YtndlfkibcelhmaaGreatDoor.Ai
end
section
namespace Go.Proofs.YtndlfkibcelhmaaGreatDoor.Ai
open Go
set_option maxRecDepth 10000
set_option maxHeartbeats 4000000
set_option linter.all false
set_option pp.maxSteps 1200

def cornersOf (p : Pn) : List Int := [((outlineOf p false).getD 0 ⟨0, 0⟩).x, ((outlineOf p false).getD 0 ⟨0, 0⟩).y, ((outlineOf p true).getD 0 ⟨0, 0⟩).x, ((outlineOf p true).getD 0 ⟨0, 0⟩).y,
  ((outlineOf p false).getD ((outlineOf p false).length - 1) ⟨0, 0⟩).x, ((outlineOf p false).getD ((outlineOf p false).length - 1) ⟨0, 0⟩).y, ((outlineOf p true).getD ((outlineOf p true).length - 1) ⟨0, 0⟩).x, ((outlineOf p true).getD ((outlineOf p true).length - 1) ⟨0, 0⟩).y]
def intsA (l : List Int) : List AVal := l.map fun n => .int .i64 n
theorem Vw.knD {g : AH} {v : AVal} {xs : List Kn} (hv : Vw KnE g v xs) {i : Nat} (hi : i < xs.length) : ∃ id off vs, v = .sl id off xs.length 2 ∧ g.cells id = some vs ∧ readC vs (off + i * 2) 2 true = some (.agg [.int .i64 (xs.getD i ⟨0, 0⟩).x, .int .i64 (xs.getD i ⟨0, 0⟩).y]) := by
  obtain ⟨id, off, vs, h1, h2, h3, _, _, h4⟩ := hv.kn hi
  rw [getD_at hi]
  exact ⟨id, off, vs, h1, h3, h4⟩

theorem refCorners_cl {fl : Nat} {h : AH} {l r : AVal} {p : Pn} (hf : fl ≤ h.n) (hv : PV h l r p) (sl : SideOk p.left) (sr : SideOk p.right) (hw : 1 ≤ p.width ∧ p.width ≤ 128) :
    Cl T fl 65 [.agg [.str p.name, .int .i64 p.width, l, r]] h fun x h' => x = .agg (intsA (cornersOf p)) ∧ Keep h h' := by
  refine Cl.code (fn := F65) rfl rfl ?_
  simp only [F65]
  simp (maxSteps := 10000000) (disch := first | omega | (simp only [AH.push_n, AH.set_n]; first | done | omega)) only [go_sem, Nat.reduceEqDiff, Nat.reduceAdd]
  have k0 : Keep h ((h.push (.cells [.str p.name, .int .i64 p.width, l, r])).push (.cells [.int .i64 0, .int .i64 0, .int .i64 0, .int .i64 0, .int .i64 0, .int .i64 0, .int .i64 0, .int .i64 0])) := ((Keep.refl h).push _).push _
  have c0 : ((h.push (.cells [.str p.name, .int .i64 p.width, l, r])).push (.cells [.int .i64 0, .int .i64 0, .int .i64 0, .int .i64 0, .int .i64 0, .int .i64 0, .int .i64 0, .int .i64 0])).cells h.n = some [.str p.name, .int .i64 p.width, l, r] := by simp (maxSteps := 10000000) (disch := first | omega | (simp only [AH.push_n, AH.set_n]; first | done | omega)) only [go_sem]
  have d0 : ((h.push (.cells [.str p.name, .int .i64 p.width, l, r])).push (.cells [.int .i64 0, .int .i64 0, .int .i64 0, .int .i64 0, .int .i64 0, .int .i64 0, .int .i64 0, .int .i64 0])).cells (h.n + 1) = some [.int .i64 0, .int .i64 0, .int .i64 0, .int .i64 0, .int .i64 0, .int .i64 0, .int .i64 0, .int .i64 0] := by simp (maxSteps := 10000000) (disch := first | omega | (simp only [AH.push_n, AH.set_n]; first | done | omega)) only [go_sem]
  have n0 : h.n + 1 < ((h.push (.cells [.str p.name, .int .i64 p.width, l, r])).push (.cells [.int .i64 0, .int .i64 0, .int .i64 0, .int .i64 0, .int .i64 0, .int .i64 0, .int .i64 0, .int .i64 0])).n := by simp
  rw [show h.n + 1 + 1 = ((h.push (.cells [.str p.name, .int .i64 p.width, l, r])).push (.cells [.int .i64 0, .int .i64 0, .int .i64 0, .int .i64 0, .int .i64 0, .int .i64 0, .int .i64 0, .int .i64 0])).n from rfl]
  generalize (h.push (.cells [.str p.name, .int .i64 p.width, l, r])).push (.cells [.int .i64 0, .int .i64 0, .int .i64 0, .int .i64 0, .int .i64 0, .int .i64 0, .int .i64 0, .int .i64 0]) = g0 at *
  refine ClS.by (outline_cl (Nat.le_refl _) (hv.keep k0) sl sr hw false) ?_
  rintro xl g1 ⟨hxl, hk1, _⟩
  have k1 := k0.trans hk1
  have n1 := Nat.lt_of_lt_of_le n0 hk1.n
  have c1 := (hk1.cells (i := h.n) (by omega)).trans c0
  have d1 := (hk1.cells n0).trans d0
  simp (maxSteps := 10000000) (disch := first | omega | (simp only [AH.push_n, AH.set_n]; first | done | omega)) only [go_sem, Nat.reduceEqDiff, Nat.reduceAdd, c1]
  refine ClS.by (outline_cl (Nat.le_trans hf k1.n) (hv.keep k1) sl sr hw true) ?_
  rintro xr g2 ⟨hxr, hk2, _⟩
  have k2 := k1.trans hk2
  have d2 := (hk2.cells n1).trans d1
  have hxl := hxl.keep hk2
  have hl1 : 0 < (outlineOf p false).length := by unfold outlineOf; rw [if_neg (by simp), walkOf_len]; omega
  have hl2 : 0 < (outlineOf p true).length := by unfold outlineOf; rw [if_pos rfl, walkOf_len]; omega
  have hb1 := outlineOf_len sl sr false
  have hb2 := outlineOf_len sl sr true
  unfold cornersOf
  generalize outlineOf p false = L at *
  generalize outlineOf p true = R at *
  obtain ⟨i1, o1, w1, e1, q1, r1⟩ := hxl.knD hl1
  obtain ⟨i2, o2, w2, e2, q2, r2⟩ := hxl.knD (show L.length - 1 < L.length by omega)
  rw [e1] at e2; cases e2
  rw [q1] at q2; cases q2
  obtain ⟨i3, o3, w3, e3, q3, r3⟩ := hxr.knD hl2
  obtain ⟨i4, o4, w4, e4, q4, r4⟩ := hxr.knD (show R.length - 1 < R.length by omega)
  rw [e3] at e4; cases e4
  rw [q3] at q4; cases q4
  subst e1
  subst e3
  rw [Nat.zero_mul, Nat.add_zero] at r1 r3
  have t1 : wrapK .i64 ((L.length : Int) - 1) = ((L.length - 1 : Nat) : Int) := by rw [wrapK_i64 (by omega) (by omega)]; omega
  have t2 : wrapK .i64 ((R.length : Int) - 1) = ((R.length - 1 : Nat) : Int) := by rw [wrapK_i64 (by omega) (by omega)]; omega
  have u1 : L.length - 1 < L.length := by omega
  have u2 : R.length - 1 < R.length := by omega
  simp (maxSteps := 10000000) (disch := first | omega | (simp only [AH.push_n, AH.set_n]; first | done | omega)) only [go_sem, Nat.reduceEqDiff, Nat.reduceAdd, Nat.reduceLeDiff, Int.reduceToNat, q1, r1, r2, q3, r3, r4, t1, t2, u1, u2, hl1, hl2, d2, Nat.add_zero, Nat.zero_mul]
  exact ⟨rfl, k2.set (by omega) _⟩
end Go.Proofs.YtndlfkibcelhmaaGreatDoor.Ai
end
section
namespace Go.Proofs.YtndlfkibcelhmaaGreatDoor.Ai
open Go
set_option maxRecDepth 10000
set_option maxHeartbeats 4000000
set_option linter.all false
set_option pp.maxSteps 1200

theorem pcorners_cl {fl : Nat} {h : AH} {l r : AVal} {p : Pn} (hf : fl ≤ h.n) (hv : PV h l r p) (ok : PanelOk p) :
    Cl T fl 106 [.agg [.str p.name, .int .i64 p.width, l, r]] h fun x h' => x = .agg (intsA (cornersOf p)) ∧ Keep h h' := by
  refine Cl.code (fn := F106) rfl rfl ?_
  simp only [F106]
  simp (maxSteps := 10000000) (disch := first | omega | (simp only [AH.push_n, AH.set_n]; first | done | omega)) only [go_sem, Nat.reduceEqDiff, Nat.reduceAdd]
  have k0 : Keep h ((h.push (.cells [.str p.name, .int .i64 p.width, l, r])).push (.cells [.int .i64 0, .int .i64 0, .int .i64 0, .int .i64 0, .int .i64 0, .int .i64 0, .int .i64 0, .int .i64 0])) := ((Keep.refl h).push _).push _
  have c0 : ((h.push (.cells [.str p.name, .int .i64 p.width, l, r])).push (.cells [.int .i64 0, .int .i64 0, .int .i64 0, .int .i64 0, .int .i64 0, .int .i64 0, .int .i64 0, .int .i64 0])).cells h.n = some [.str p.name, .int .i64 p.width, l, r] := by simp (maxSteps := 10000000) (disch := first | omega | (simp only [AH.push_n, AH.set_n]; first | done | omega)) only [go_sem]
  have d0 : ((h.push (.cells [.str p.name, .int .i64 p.width, l, r])).push (.cells [.int .i64 0, .int .i64 0, .int .i64 0, .int .i64 0, .int .i64 0, .int .i64 0, .int .i64 0, .int .i64 0])).cells (h.n + 1) = some [.int .i64 0, .int .i64 0, .int .i64 0, .int .i64 0, .int .i64 0, .int .i64 0, .int .i64 0, .int .i64 0] := by simp (maxSteps := 10000000) (disch := first | omega | (simp only [AH.push_n, AH.set_n]; first | done | omega)) only [go_sem]
  have n0 : h.n + 1 < ((h.push (.cells [.str p.name, .int .i64 p.width, l, r])).push (.cells [.int .i64 0, .int .i64 0, .int .i64 0, .int .i64 0, .int .i64 0, .int .i64 0, .int .i64 0, .int .i64 0])).n := by simp
  rw [show h.n + 1 + 1 = ((h.push (.cells [.str p.name, .int .i64 p.width, l, r])).push (.cells [.int .i64 0, .int .i64 0, .int .i64 0, .int .i64 0, .int .i64 0, .int .i64 0, .int .i64 0, .int .i64 0])).n from rfl]
  generalize (h.push (.cells [.str p.name, .int .i64 p.width, l, r])).push (.cells [.int .i64 0, .int .i64 0, .int .i64 0, .int .i64 0, .int .i64 0, .int .i64 0, .int .i64 0, .int .i64 0]) = g0 at *
  refine ClS.by (pOutline_cl (Nat.le_refl _) (hv.keep k0) ok.left.fit ok.right.fit ok.width false) ?_
  rintro xl g1 ⟨hxl, hk1, _⟩
  have k1 := k0.trans hk1
  have n1 := Nat.lt_of_lt_of_le n0 hk1.n
  have c1 := (hk1.cells (i := h.n) (by omega)).trans c0
  have d1 := (hk1.cells n0).trans d0
  simp (maxSteps := 10000000) (disch := first | omega | (simp only [AH.push_n, AH.set_n]; first | done | omega)) only [go_sem, Nat.reduceEqDiff, Nat.reduceAdd, c1]
  refine ClS.by (pOutline_cl (Nat.le_trans hf k1.n) (hv.keep k1) ok.left.fit ok.right.fit ok.width true) ?_
  rintro xr g2 ⟨hxr, hk2, _⟩
  have k2 := k1.trans hk2
  have n2 := Nat.lt_of_lt_of_le n1 hk2.n
  have d2 := (hk2.cells n1).trans d1
  have hxl := hxl.keep hk2
  have hl1 : 0 < (outlineOf p false).length := by unfold outlineOf; rw [if_neg (by simp), walkOf_len]; omega
  have hl2 : 0 < (outlineOf p true).length := by unfold outlineOf; rw [if_pos rfl, walkOf_len]; omega
  have hb1 := outlineOf_len ok.left ok.right false
  have hb2 := outlineOf_len ok.left ok.right true
  unfold cornersOf
  generalize outlineOf p false = L at *
  generalize outlineOf p true = R at *
  obtain ⟨i1, o1, w1, e1, q1, r1⟩ := hxl.knD hl1
  obtain ⟨i3, o3, w3, e3, q3, r3⟩ := hxr.knD hl2
  subst e1
  subst e3
  rw [Nat.zero_mul, Nat.add_zero] at r1 r3
  simp (maxSteps := 10000000) (disch := first | omega | (simp only [AH.push_n, AH.set_n]; first | done | omega)) only [go_sem, Nat.reduceEqDiff, Int.reduceToNat, q1, r1, q3, r3, hl1, hl2, Nat.add_zero, Nat.zero_mul]
  refine ClS.by (top_cl (Nat.le_refl _) hxl hl1 (by omega)) ?_
  rintro x g3 ⟨rfl, hk3⟩
  have k3 := k2.trans hk3
  have n3 := Nat.lt_of_lt_of_le n2 hk3.n
  have d3 := (hk3.cells n2).trans d2
  simp (maxSteps := 10000000) (disch := first | omega | (simp only [AH.push_n, AH.set_n]; first | done | omega)) only [go_sem, Nat.reduceEqDiff]
  refine ClS.by (top_cl (Nat.le_refl _) (hxr.keep hk3) hl2 (by omega)) ?_
  rintro x g4 ⟨rfl, hk4⟩
  have k4 := k3.trans hk4
  have d4 := (hk4.cells n3).trans d3
  simp (maxSteps := 10000000) (disch := first | omega | (simp only [AH.push_n, AH.set_n]; first | done | omega)) only [go_sem, Nat.reduceEqDiff, Nat.reduceAdd, Nat.reduceLeDiff, d4]
  exact ⟨rfl, k4.set (by omega) _⟩

end Go.Proofs.YtndlfkibcelhmaaGreatDoor.Ai
end
section
namespace Go.Proofs.YtndlfkibcelhmaaGreatDoor.Ai
open Go
set_option maxRecDepth 10000
set_option maxHeartbeats 4000000
set_option linter.all false
set_option pp.maxSteps 1200

end Go.Proofs.YtndlfkibcelhmaaGreatDoor.Ai
end
section
namespace Go.Proofs.YtndlfkibcelhmaaGreatDoor.Ai
open Go
set_option maxRecDepth 10000
set_option maxHeartbeats 4000000
set_option linter.all false
set_option pp.maxSteps 1200

end Go.Proofs.YtndlfkibcelhmaaGreatDoor.Ai
end
section
namespace Go.Proofs.YtndlfkibcelhmaaGreatDoor.Ai
open Go
set_option maxRecDepth 10000
set_option maxHeartbeats 4000000
set_option linter.all false
set_option pp.maxSteps 1200

end Go.Proofs.YtndlfkibcelhmaaGreatDoor.Ai
end
section
namespace Go.Proofs.YtndlfkibcelhmaaGreatDoor.Ai
open Go
set_option maxRecDepth 10000
set_option maxHeartbeats 4000000
set_option linter.all false
set_option pp.maxSteps 1200

end Go.Proofs.YtndlfkibcelhmaaGreatDoor.Ai
end
section
namespace Go.Proofs.YtndlfkibcelhmaaGreatDoor.Ai
open Go
set_option maxRecDepth 10000
set_option maxHeartbeats 4000000
set_option linter.all false
set_option pp.maxSteps 1200

theorem sameEdges_cl {fl : Nat} {h : AH} {v u : AVal} {a b : List Ed} (hv : Vw EdE h v a) (hu : Vw EdE h u b) (ha : a.length < 1000000000) :
    Cl T fl 118 [v, u] h fun r h' => r = .bool (decide (a = b)) ∧ h = h' := by
  refine Cl.code (fn := F118) rfl rfl ?_
  simp only [F118]
  by_cases hl : a.length = b.length
  case neg =>
    have e1 : ¬ (a.length : Int) = b.length := by omega
    have e2 : ¬ a = b := fun e => hl (by rw [e])
    simp (maxSteps := 10000000) (disch := first | omega | (simp only [AH.push_n, AH.set_n]; first | done | omega)) only [go_sem, reduceCtorEq, Nat.reduceEqDiff, Nat.reduceAdd, hv.len, hu.len, e1, e2]
  have e1 : (a.length : Int) = b.length := by omega
  simp (maxSteps := 10000000) (disch := first | omega | (simp only [AH.push_n, AH.set_n]; first | done | omega)) only [go_sem, reduceCtorEq, Nat.reduceEqDiff, Nat.reduceAdd, hv.len, hu.len, e1]
  refine wS_loop (fun m ts g => ∃ k, k ≤ a.length ∧ m = a.length - k ∧ g = h ∧ tg ts 0 = v ∧ tg ts 1 = u ∧ tg ts 5 = .int .i64 k ∧ ∀ (i : Nat), i < k → a[i]? = b[i]?) a.length ⟨0, by omega, by omega, rfl, by simp, by simp, by simp, fun i hi => by omega⟩ ?_
  rintro m ts g ⟨k, hk, rfl, rfl, t0, t1, t5, hz⟩
  by_cases hlt : k < a.length
  · have hlt2 : k < b.length := by omega
    obtain ⟨id, off, vs, rfl, hid, hc, _, _, _, r⟩ := hv.ed hlt
    obtain ⟨id2, off2, vs2, rfl, hid2, hc2, _, _, _, u⟩ := hu.ed hlt2
    have e5 : (k : Int) < a.length := by omega
    by_cases e : a[k] = b[k]
    · rw [e] at r
      simp (maxSteps := 10000000) (disch := first | omega | (simp only [AH.push_n, AH.set_n]; first | done | omega)) only [go_sem, reduceCtorEq, Nat.reduceEqDiff, t0, t1, t5, e5, hlt, hlt2, hc, hc2, r, u]
      refine ⟨_, ?_, k + 1, by omega, rfl, by omega, ?_⟩
      · omega
      · intro i hi
        by_cases ei : i = k
        · subst ei; rw [List.getElem?_eq_getElem hlt, List.getElem?_eq_getElem hlt2, e]
        · exact hz i (by omega)
    · have hne : ¬ (a[k].w = b[k].w ∧ a[k].t = b[k].t ∧ a[k].o = b[k].o) := fun hx => e (by
        cases ea : a[k]; cases eb : b[k]; rw [ea, eb] at hx; simp only at hx; obtain ⟨rfl, rfl, rfl⟩ := hx; rfl)
      have e2 : ¬ a = b := fun hab => e (by subst hab; rfl)
      by_cases hw : a[k].w = b[k].w
      · by_cases ht : a[k].t = b[k].t
        · have ho : (a[k].o == b[k].o) = false := by simpa using fun h => hne ⟨hw, ht, h⟩
          rw [hw, ht] at r
          simp (maxSteps := 10000000) (disch := first | omega | (simp only [AH.push_n, AH.set_n]; first | done | omega)) only [go_sem, reduceCtorEq, Nat.reduceEqDiff, t0, t1, t5, e5, hlt, hlt2, hc, hc2, r, u, e2, ho]
        · rw [hw] at r
          simp (maxSteps := 10000000) (disch := first | omega | (simp only [AH.push_n, AH.set_n]; first | done | omega)) only [go_sem, reduceCtorEq, Nat.reduceEqDiff, t0, t1, t5, e5, hlt, hlt2, hc, hc2, r, u, e2, ht]
      · simp (maxSteps := 10000000) (disch := first | omega | (simp only [AH.push_n, AH.set_n]; first | done | omega)) only [go_sem, reduceCtorEq, Nat.reduceEqDiff, t0, t1, t5, e5, hlt, hlt2, hc, hc2, r, u, e2, hw]
  · have : k = a.length := by omega
    subst this
    have e5 : ¬ (a.length : Int) < a.length := by omega
    have e2 : decide (a = b) = true := decide_eq_true (list_same hl hz)
    simp (maxSteps := 10000000) (disch := first | omega | (simp only [AH.push_n, AH.set_n]; first | done | omega)) only [go_sem, reduceCtorEq, Nat.reduceEqDiff, t0, t5, hv.len, e5, e2]

theorem lawEdges_cl {fl : Nat} {h : AH} {v : AVal} {S : List Ed} (hf : fl ≤ h.n) (hv : Vw EdE h v S) (hl : S.length ≤ 1000000) :
    Cl T fl 119 [v] h fun x h' => Vw EdE h' x S ∧ Keep h h' ∧ Own h.n x := by
  refine Cl.code (fn := F119) rfl rfl ?_
  simp only [F119]
  simp (maxSteps := 10000000) (disch := first | omega | (simp only [AH.push_n, AH.set_n]; first | done | omega)) only [go_sem, reduceCtorEq, hv.len]
  refine wS_loop (fun m ts g => ∃ k out, k ≤ S.length ∧ m = S.length - k ∧ Keep h g ∧ tg ts 0 = v ∧ tg ts 3 = out ∧ tg ts 6 = .int .i64 S.length ∧ tg ts 7 = .int .i64 k ∧ Vw EdE g out (S.take k) ∧ Own h.n out) S.length
    ⟨0, .nilsl, by omega, by omega, Keep.refl h, by simp, by simp, by simp, by simp, Vw.nil, Own.of_nil⟩ ?_
  rintro m ts g ⟨k, out, hk, rfl, hkg, t0, t3, t6, t7, ho, hown⟩
  have hvg := hv.keep hkg
  by_cases hlt : k < S.length
  · obtain ⟨id, off, vs, hve, hid, hc, _, _, _, r⟩ := hvg.ed hlt
    have hnx : S.take (k + 1) = S.take k ++ [S[k]] := List.take_succ_eq_append_getElem hlt
    rw [hve] at t0
    generalize S[k] = s at *
    have e2 : (k : Int) < S.length := by omega
    have hfg : fl ≤ g.n := Nat.le_trans hf hkg.n
    simp (maxSteps := 10000000) (disch := first | omega | (simp only [AH.push_n, AH.set_n]; first | done | omega)) only [go_sem, reduceCtorEq, Nat.reduceEqDiff, Nat.reduceAdd, t0, t3, t6, t7, e2, hlt, hc, r]
    refine append_to (E := EdE) (ys := [s]) (ho.push _) (hown.mono hf) (by simp; omega) (Vw.ed1 (e := s)) (by simp only [List.length_take, List.length_cons, List.length_nil, maxRow]; omega) ?_
    intro x g6 ha
    simp (maxSteps := 10000000) (disch := first | omega | (simp only [AH.push_n, AH.set_n]; first | done | omega)) only [go_sem, reduceCtorEq, Nat.reduceEqDiff, t0, t6, t7]
    exact ⟨_, by omega, k + 1, x, by omega, rfl, ha.keep (hkg.push _) hown, hve.symm, rfl, by omega, by rw [hnx]; exact ha.vw, ha.own _ (by simp; have := hkg.n; omega) hown⟩
  · have : k = S.length := by omega
    subst this
    have e2 : ¬ (S.length : Int) < S.length := by omega
    rw [List.take_length] at ho
    simp (maxSteps := 10000000) (disch := first | omega | (simp only [AH.push_n, AH.set_n]; first | done | omega)) only [go_sem, Nat.reduceEqDiff, t3, t6, t7, e2]
    exact ⟨ho, hkg, hown⟩

structure PA (h : AH) (v : AVal) (p : Pn) : Prop where
  form : ∃ l r, v = .agg [.str p.name, .int .i64 p.width, l, r] ∧ PV h l r p
theorem PA.keep {h h' : AH} {v : AVal} {p : Pn} (x : PA h v p) (k : Keep h h') : PA h' v p := by
  obtain ⟨l, r, e, hv⟩ := x.form
  exact ⟨⟨l, r, e, hv.keep k⟩⟩
theorem PV.pa {h : AH} {l r : AVal} {p : Pn} (x : PV h l r p) : PA h (.agg [.str p.name, .int .i64 p.width, l, r]) p := ⟨⟨l, r, rfl, x⟩⟩
def noPanel : Pn := ⟨[], 0, [], []⟩
theorem noPanel_pa (h : AH) : PA h (.agg [.str [], .int .i64 0, .nilsl, .nilsl]) noPanel := ⟨⟨.nilsl, .nilsl, rfl, ⟨Vw.nil, Vw.nil⟩⟩⟩

theorem own_cl {fl : Nat} {h : AH} {l r : AVal} {p : Pn} (hf : fl ≤ h.n) (hv : PV h l r p) (hl : p.left.length ≤ 1000000) (hr : p.right.length ≤ 1000000) :
    Cl T fl 45 [.agg [.str p.name, .int .i64 p.width, l, r]] h fun x h' => PA h' x p ∧ Keep h h' := by
  refine Cl.code (fn := F45) rfl rfl ?_
  simp only [F45]
  have hlc := hv.left.one
  have hrc := hv.right.one
  have hG : ∀ G : AH, G = (h.push (.cells [.str p.name, .int .i64 p.width, l, r])).push (.cells [.str [], .int .i64 0, .nilsl, .nilsl]) →
      G.n = h.n + 1 + 1 ∧ Keep h G ∧ G.cells h.n = some [.str p.name, .int .i64 p.width, l, r] ∧ G.cells (h.n + 1) = some [.str [], .int .i64 0, .nilsl, .nilsl] := by
    rintro G rfl
    refine ⟨rfl, ((Keep.refl h).push _).push _, ?_, AH.cells_push_eq rfl⟩
    simp (maxSteps := 10000000) (disch := first | omega | (simp only [AH.push_n, AH.set_n]; first | done | omega)) only [go_sem]
  simp (maxSteps := 10000000) (disch := first | omega | (simp only [AH.push_n, AH.set_n]; first | done | omega)) only [go_sem, Nat.reduceEqDiff]
  generalize (h.push (.cells [.str p.name, .int .i64 p.width, l, r])).push (.cells [.str [], .int .i64 0, .nilsl, .nilsl]) = G at *
  obtain ⟨Gn, Gk, Ga, Gb⟩ := hG G rfl
  clear hG
  rw [← Gn]
  refine ClS.by (lawEdges_cl (Nat.le_refl _) ((hv.keep Gk).left) hl) ?_
  rintro x g1 ⟨hx, hk1, hox⟩
  have n1 := hk1.n
  have k1 := Gk.trans hk1
  have a1 := (hk1.cells (i := h.n) (by omega)).trans Ga
  have b1 := (hk1.cells (i := h.n + 1) (by omega)).trans Gb
  simp (maxSteps := 10000000) (disch := first | omega | (simp only [AH.push_n, AH.set_n]; first | done | omega)) only [go_sem, Nat.reduceEqDiff, a1]
  refine ClS.by (lawEdges_cl (Nat.le_refl _) ((hv.keep k1).right) hr) ?_
  rintro y g2 ⟨hy, hk2, hoy⟩
  have n2 := hk2.n
  have k2 := k1.trans hk2
  have b2 := (hk2.cells (i := h.n + 1) (by omega)).trans b1
  have hxc := hx.one
  have hyc := hy.one
  have hfn : fl ≤ h.n + 1 := by omega
  simp (maxSteps := 10000000) (disch := first | omega | (simp only [AH.push_n, AH.set_n]; first | done | omega)) only [go_sem, Nat.reduceEqDiff, Nat.reduceAdd, Nat.reduceLeDiff, hxc.1, hyc.1, hxc.2, hyc.2, b2]
  have kk := Keep.set k2 (j := h.n + 1) (by omega)
  refine ⟨⟨⟨x, y, rfl, ⟨(hx.keep hk2).congr (Nat.le_refl _) fun i e => AH.get_set_ne ?_, hy.congr (Nat.le_refl _) fun i e => AH.get_set_ne ?_⟩⟩⟩, kk _⟩
  · have := hox i e; omega
  · have := hoy i e; omega

theorem samePanel_cl {fl : Nat} {h : AH} {v u : AVal} {p q : Pn} (hf : fl ≤ h.n) (ha : PA h v p) (hb : PA h u q) (hl : p.left.length ≤ 1000000) (hr : p.right.length ≤ 1000000) (e : p = q) :
    Cl T fl 44 [v, u] h fun x h' => x = .bool true ∧ Keep h h' := by
  subst e
  obtain ⟨l, r, rfl, hv⟩ := ha.form
  obtain ⟨l2, r2, rfl, hu⟩ := hb.form
  refine Cl.code (fn := F44) rfl rfl ?_
  simp only [F44]
  have hlc := hv.left.one
  have hrc := hv.right.one
  have hlc2 := hu.left.one
  have hrc2 := hu.right.one
  have hG : ∀ G : AH, G = (h.push (.cells [.str p.name, .int .i64 p.width, l, r])).push (.cells [.str p.name, .int .i64 p.width, l2, r2]) →
      Keep h G ∧ G.cells h.n = some [.str p.name, .int .i64 p.width, l, r] ∧ G.cells (h.n + 1) = some [.str p.name, .int .i64 p.width, l2, r2] := by
    rintro G rfl
    refine ⟨((Keep.refl h).push _).push _, ?_, AH.cells_push_eq rfl⟩
    simp (maxSteps := 10000000) (disch := first | omega | (simp only [AH.push_n, AH.set_n]; first | done | omega)) only [go_sem]
  simp (maxSteps := 10000000) (disch := first | omega | (simp only [AH.push_n, AH.set_n]; first | done | omega)) only [go_sem, reduceCtorEq, Nat.reduceEqDiff, Nat.reduceAdd]
  generalize (h.push (.cells [.str p.name, .int .i64 p.width, l, r])).push (.cells [.str p.name, .int .i64 p.width, l2, r2]) = G at *
  obtain ⟨Gk, Ga, Gb⟩ := hG G rfl
  clear hG
  simp (maxSteps := 10000000) (disch := first | omega | (simp only [AH.push_n, AH.set_n]; first | done | omega)) only [go_sem]
  refine ClS.by (sameEdges_cl (hv.keep Gk).left (hu.keep Gk).left (by omega)) ?_
  rintro x g ⟨rfl, rfl⟩
  have d1 : decide (p.left = p.left) = true := decide_eq_true rfl
  simp (maxSteps := 10000000) (disch := first | omega | (simp only [AH.push_n, AH.set_n]; first | done | omega)) only [go_sem, Nat.reduceEqDiff, Ga, Gb]
  refine ClS.by (sameEdges_cl (hv.keep Gk).right (hu.keep Gk).right (by omega)) ?_
  rintro x g ⟨rfl, rfl⟩
  have d2 : decide (p.right = p.right) = true := decide_eq_true rfl
  simp (maxSteps := 10000000) (disch := first | omega | (simp only [AH.push_n, AH.set_n]; first | done | omega)) only [go_sem, Nat.reduceEqDiff]
  exact Gk

theorem piece_bad {fl : Nat} {h : AH} {l r : AVal} {e : Int} {w : AVal} {q : Pn} (hf : fl ≤ h.n) (hv : PV h l r noPanel) (hb : PA h w q) (he : e ≠ 0) :
    Cl T fl 40 [.agg [.str [], .int .i64 0, l, r], .int .i64 e, .int .i64 e, w] h fun x h' => x = .bool true ∧ Keep h h' := by
  obtain ⟨l2, r2, rfl, hw⟩ := hb.form
  refine Cl.code (fn := F40) rfl rfl ?_
  simp only [F40]
  have hlc := hv.left.one
  have hrc := hv.right.one
  have hlc2 := hw.left.one
  have hrc2 := hw.right.one
  have hG : ∀ G : AH, G = (h.push (.cells [.str [], .int .i64 0, l, r])).push (.cells [.str q.name, .int .i64 q.width, l2, r2]) →
      Keep h G ∧ G.cells h.n = some [.str [], .int .i64 0, l, r] ∧ G.cells (h.n + 1) = some [.str q.name, .int .i64 q.width, l2, r2] := by
    rintro G rfl
    refine ⟨((Keep.refl h).push _).push _, ?_, AH.cells_push_eq rfl⟩
    simp (maxSteps := 10000000) (disch := first | omega | (simp only [AH.push_n, AH.set_n]; first | done | omega)) only [go_sem]
  simp (maxSteps := 10000000) (disch := first | omega | (simp only [AH.push_n, AH.set_n]; first | done | omega)) only [go_sem, reduceCtorEq, Nat.reduceEqDiff, Nat.reduceAdd, he]
  generalize (h.push (.cells [.str [], .int .i64 0, l, r])).push (.cells [.str q.name, .int .i64 q.width, l2, r2]) = G at *
  obtain ⟨Gk, Ga, Gb⟩ := hG G rfl
  clear hG
  simp (maxSteps := 10000000) (disch := first | omega | (simp only [AH.push_n, AH.set_n]; first | done | omega)) only [go_sem]
  refine ClS.by (own_cl (p := noPanel) (Nat.le_trans hf Gk.n) (hv.keep Gk) (by simp [noPanel]) (by simp [noPanel])) ?_
  rintro x g1 ⟨hx, hk1⟩
  simp (maxSteps := 10000000) (disch := first | omega | (simp only [AH.push_n, AH.set_n]; first | done | omega)) only [go_sem, Nat.reduceEqDiff]
  refine ClS.by (samePanel_cl (Nat.le_trans hf (Gk.trans hk1).n) hx (noPanel_pa g1) (by simp [noPanel]) (by simp [noPanel]) rfl) ?_
  rintro x g2 ⟨rfl, hk2⟩
  simp (maxSteps := 10000000) (disch := first | omega | (simp only [AH.push_n, AH.set_n]; first | done | omega)) only [go_sem, Nat.reduceEqDiff]
  exact (Gk.trans hk1).trans hk2
def pieceOf (q : Pn) : Pn := if panelErr q = 0 then q else noPanel
theorem piece_ok {fl : Nat} {h : AH} {v w : AVal} {q : Pn} (hf : fl ≤ h.n) (ha : PA h v (pieceOf q)) (hb : PA h w q) (hs : PSmall q) (hl : q.left.length ≤ 1000000) (hr : q.right.length ≤ 1000000) :
    Cl T fl 40 [v, .int .i64 (panelErr q), .int .i64 0, w] h fun x h' => x = .bool true ∧ Keep h h' := by
  obtain ⟨l, r, rfl, hv⟩ := ha.form
  obtain ⟨l2, r2, rfl, hw⟩ := hb.form
  refine Cl.code (fn := F40) rfl rfl ?_
  simp only [F40]
  have hlc := hv.left.one
  have hrc := hv.right.one
  have hlc2 := hw.left.one
  have hrc2 := hw.right.one
  have hG : ∀ G : AH, G = (h.push (.cells [.str (pieceOf q).name, .int .i64 (pieceOf q).width, l, r])).push (.cells [.str q.name, .int .i64 q.width, l2, r2]) →
      G.n = h.n + 2 ∧ Keep h G ∧ G.cells h.n = some [.str (pieceOf q).name, .int .i64 (pieceOf q).width, l, r] ∧ G.cells (h.n + 1) = some [.str q.name, .int .i64 q.width, l2, r2] := by
    rintro G rfl
    refine ⟨rfl, ((Keep.refl h).push _).push _, ?_, AH.cells_push_eq rfl⟩
    simp (maxSteps := 10000000) (disch := first | omega | (simp only [AH.push_n, AH.set_n]; first | done | omega)) only [go_sem]
  simp (maxSteps := 10000000) (disch := first | omega | (simp only [AH.push_n, AH.set_n]; first | done | omega)) only [go_sem, reduceCtorEq, Nat.reduceEqDiff, Nat.reduceAdd]
  generalize (h.push (.cells [.str (pieceOf q).name, .int .i64 (pieceOf q).width, l, r])).push (.cells [.str q.name, .int .i64 q.width, l2, r2]) = G at *
  obtain ⟨Gn, Gk, Ga, Gb⟩ := hG G rfl
  clear hG
  refine ClS.by (refCheckPanel_cl (Nat.le_trans hf Gk.n) (hw.keep Gk) hs) ?_
  rintro x g1 ⟨rfl, hk1⟩
  have k1 := Gk.trans hk1
  have n1 := hk1.n
  have a1 := (hk1.cells (i := h.n) (by omega)).trans Ga
  have b1 := (hk1.cells (i := h.n + 1) (by omega)).trans Gb
  by_cases he : panelErr q = 0
  · have hq : pieceOf q = q := by unfold pieceOf; rw [if_pos he]
    rw [hq] at a1 hv
    simp (maxSteps := 10000000) (disch := first | omega | (simp only [AH.push_n, AH.set_n]; first | done | omega)) only [go_sem, Nat.reduceEqDiff, Nat.reduceAdd, he, a1]
    refine ClS.by (own_cl (Nat.le_refl _) (hv.keep k1) hl hr) ?_
    rintro x g2 ⟨hx, hk2⟩
    have b2 := (hk2.cells (i := h.n + 1) (by omega)).trans b1
    have k2 := k1.trans hk2
    simp (maxSteps := 10000000) (disch := first | omega | (simp only [AH.push_n, AH.set_n]; first | done | omega)) only [go_sem, Nat.reduceEqDiff, Nat.reduceAdd, b2]
    refine ClS.by (samePanel_cl (Nat.le_trans hf k2.n) hx (hw.keep k2).pa hl hr rfl) ?_
    rintro x g3 ⟨rfl, hk3⟩
    simp (maxSteps := 10000000) (disch := first | omega | (simp only [AH.push_n, AH.set_n]; first | done | omega)) only [go_sem, Nat.reduceEqDiff]
    exact k2.trans hk3
  · have hq : pieceOf q = noPanel := by unfold pieceOf; rw [if_neg he]
    rw [hq] at a1 hv
    simp (maxSteps := 10000000) (disch := first | omega | (simp only [AH.push_n, AH.set_n]; first | done | omega)) only [go_sem, Nat.reduceEqDiff, Nat.reduceAdd, he, a1]
    refine ClS.by (own_cl (p := noPanel) (Nat.le_trans hf k1.n) (hv.keep k1) (by simp [noPanel]) (by simp [noPanel])) ?_
    rintro x g2 ⟨hx, hk2⟩
    have k2 := k1.trans hk2
    simp (maxSteps := 10000000) (disch := first | omega | (simp only [AH.push_n, AH.set_n]; first | done | omega)) only [go_sem, Nat.reduceEqDiff]
    refine ClS.by (samePanel_cl (Nat.le_trans hf k2.n) hx (noPanel_pa g2) (by simp [noPanel]) (by simp [noPanel]) rfl) ?_
    rintro x g3 ⟨rfl, hk3⟩
    simp (maxSteps := 10000000) (disch := first | omega | (simp only [AH.push_n, AH.set_n]; first | done | omega)) only [go_sem, Nat.reduceEqDiff]
    exact k2.trans hk3
theorem checked_cl {fl : Nat} {h : AH} {l r : AVal} {q : Pn} (hf : fl ≤ h.n) (hv : PV h l r q) (hs : PSmall q) :
    Cl T fl 107 [.agg [.str q.name, .int .i64 q.width, l, r]] h fun x h' => (∃ l' r', x = .tuple [.agg [.str (pieceOf q).name, .int .i64 (pieceOf q).width, l', r'], .int .i64 (panelErr q)] ∧ PV h' l' r' (pieceOf q) ∧ ∀ b, Own b l → Own b r → Own b l' ∧ Own b r') ∧ Keep h h' := by
  refine Cl.code (fn := F107) rfl rfl ?_
  simp only [F107]
  have hlc := hv.left.one
  have hrc := hv.right.one
  have hG : ∀ G : AH, G = (h.push (.cells [.str q.name, .int .i64 q.width, l, r])).push (.cells [.str [], .int .i64 0, .nilsl, .nilsl]) →
      G.n = h.n + 2 ∧ Keep h G ∧ G.cells h.n = some [.str q.name, .int .i64 q.width, l, r] ∧ G.cells (h.n + 1) = some [.str [], .int .i64 0, .nilsl, .nilsl] := by
    rintro G rfl
    refine ⟨rfl, ((Keep.refl h).push _).push _, ?_, AH.cells_push_eq rfl⟩
    simp (maxSteps := 10000000) (disch := first | omega | (simp only [AH.push_n, AH.set_n]; first | done | omega)) only [go_sem]
  simp (maxSteps := 10000000) (disch := first | omega | (simp only [AH.push_n, AH.set_n]; first | done | omega)) only [go_sem, Nat.reduceEqDiff, Nat.reduceAdd]
  generalize (h.push (.cells [.str q.name, .int .i64 q.width, l, r])).push (.cells [.str [], .int .i64 0, .nilsl, .nilsl]) = G at *
  obtain ⟨Gn, Gk, Ga, Gb⟩ := hG G rfl
  clear hG
  refine ClS.by (pCheckPanel_cl (Nat.le_trans hf Gk.n) (hv.keep Gk) hs) ?_
  rintro x g1 ⟨rfl, hk1⟩
  have k1 := Gk.trans hk1
  have n1 := hk1.n
  have a1 := (hk1.cells (i := h.n) (by omega)).trans Ga
  have b1 := (hk1.cells (i := h.n + 1) (by omega)).trans Gb
  have kk := Keep.set k1 (j := h.n + 1) (by omega)
  by_cases he : panelErr q = 0
  · have hq : pieceOf q = q := by unfold pieceOf; rw [if_pos he]
    simp (maxSteps := 10000000) (disch := first | omega | (simp only [AH.push_n, AH.set_n]; first | done | omega)) only [go_sem, Nat.reduceEqDiff, Nat.reduceAdd, he, a1, b1, hlc.2, hrc.2]
    rw [hq]
    exact ⟨⟨l, r, ⟨rfl, rfl, rfl, rfl⟩, hv.keep (kk _), fun b h1 h2 => ⟨h1, h2⟩⟩, kk _⟩
  · have hq : pieceOf q = noPanel := by unfold pieceOf; rw [if_neg he]
    simp (maxSteps := 10000000) (disch := first | omega | (simp only [AH.push_n, AH.set_n]; first | done | omega)) only [go_sem, Nat.reduceEqDiff, Nat.reduceAdd, he, b1]
    rw [hq]
    exact ⟨⟨.nilsl, .nilsl, ⟨rfl, rfl, rfl, rfl⟩, ⟨Vw.nil, Vw.nil⟩, fun b _ _ => ⟨Own.of_nil, Own.of_nil⟩⟩, kk _⟩
end Go.Proofs.YtndlfkibcelhmaaGreatDoor.Ai
end
section
namespace Go.Proofs.YtndlfkibcelhmaaGreatDoor.Ai
open Go
set_option maxRecDepth 10000
set_option maxHeartbeats 4000000
set_option linter.all false
set_option pp.maxSteps 1200

theorem cloneEd_cl {fl : Nat} {h : AH} {v : AVal} {S : List Ed} (hf : fl ≤ h.n) (hv : Vw EdE h v S) (hl : S.length ≤ 1000000) :
    Cl T fl 110 [v] h fun x h' => Vw EdE h' x S ∧ Keep h h' ∧ Own h.n x := by
  refine Cl.code (fn := F110) rfl rfl ?_
  simp only [F110]
  cases v <;> first | exact hv.elim | skip
  · simp (maxSteps := 10000000) (disch := first | omega | (simp only [AH.push_n, AH.set_n]; first | done | omega)) only [go_sem, reduceCtorEq]
    exact ⟨hv, Keep.refl h, Own.of_nil⟩
  · simp (maxSteps := 10000000) (disch := first | omega | (simp only [AH.push_n, AH.set_n]; first | done | omega)) only [go_sem, reduceCtorEq, Nat.reduceEqDiff]
    refine append_to (E := EdE) (xs := []) (ys := S) Vw.slz Own.of_slz hf hv (by simp only [List.length_nil, maxRow]; omega) ?_
    intro x g ha
    simp (maxSteps := 10000000) (disch := first | omega | (simp only [AH.push_n, AH.set_n]; first | done | omega)) only [go_sem]
    exact ⟨ha.vw, ha.keep (Keep.refl h) Own.of_slz, ha.own _ (Nat.le_refl _) Own.of_slz⟩
  · simp (maxSteps := 10000000) (disch := first | omega | (simp only [AH.push_n, AH.set_n]; first | done | omega)) only [go_sem, reduceCtorEq, Nat.reduceEqDiff]
    refine append_to (E := EdE) (xs := []) (ys := S) Vw.slz Own.of_slz hf hv (by simp only [List.length_nil, maxRow]; omega) ?_
    intro x g ha
    simp (maxSteps := 10000000) (disch := first | omega | (simp only [AH.push_n, AH.set_n]; first | done | omega)) only [go_sem]
    exact ⟨ha.vw, ha.keep (Keep.refl h) Own.of_slz, ha.own _ (Nat.le_refl _) Own.of_slz⟩

theorem copy_to {α : Type} {E : Enc α} {fl : Nat} {h : AH} {A k m n : Nat} {xs ys : List α} {v : AVal} {es : Nat} {K : AVal × AH → Prop} (he : es = E.es) (hA : h.cells A = some (encs E xs)) (hfl : fl ≤ A) (hm : k + m = xs.length) (hv : Vw E h v ys) (hy : ys.length ≤ m) (hn : n = k * es)
    (hk : ∀ h', h'.n = h.n → h'.cells A = some (encs E (xs.take k ++ ys ++ xs.drop (k + ys.length))) → (∀ j, j ≠ A → h'.get j = h.get j) → K (.int .i64 ys.length, h')) :
    optS (aOp E0 fl (Tr.set (Tr.set .leaf 0 (.sl A n m es)) 1 v) h (.copy es (.t 0) (.t 1))) K 0 := by
  subst he
  subst hn
  have h0 : tg (Tr.set (Tr.set .leaf 0 (AVal.sl A (k * E.es) m E.es)) 1 v) 0 = .sl A (k * E.es) m E.es := by simp
  have h1 : tg (Tr.set (Tr.set .leaf 0 (AVal.sl A (k * E.es) m E.es)) 1 v) 1 = v := by simp
  have e : aOp E0 fl (Tr.set (Tr.set .leaf 0 (.sl A (k * E.es) m E.es)) 1 v) h (.copy E.es (.t 0) (.t 1)) = some (.int .i64 ys.length, if ys.length = 0 then h else h.set A (.cells (encs E (xs.take k ++ ys ++ xs.drop (k + ys.length))))) := by
    simp only [aOp, ev_t, h0, h1, hv.lenOf, hv.row, forceN_eq']
    rw [show Nat.min ys.length m = ys.length from Nat.min_eq_left hy]
    by_cases hz : ys.length = 0
    · simp [hz]
    · simp only [nbeq, hz, decide_false, cond_false, decide_true, nble, hfl, Bool.true_and, encs_ones, cond_true, AH.cells_get.1 hA, if_false]
      have ht : takeN (ys.length * E.es) (encs E ys) = encs E ys := by
        rw [takeN_eq, List.take_of_length_le (by rw [encs_length]; exact Nat.le_refl _)]
      rw [ht, splice_eq]
      have hle : k * E.es + (encs E ys).length ≤ (encs E xs).length := by
        rw [encs_length, encs_length, ← Nat.add_mul]; exact Nat.mul_le_mul_right _ (by omega)
      simp only [hle, if_true]
      rw [encs_take, encs_length, ← Nat.add_mul, encs_drop, ← encs_append, ← encs_append]
  unfold optS
  rw [e]
  show K _
  by_cases hz : ys.length = 0
  · rw [if_pos hz]
    have hy0 : ys = [] := List.length_eq_zero_iff.1 hz
    exact hk h rfl (by subst hy0; simpa using hA) fun _ _ => rfl
  · rw [if_neg hz]
    exact hk _ rfl AH.cells_set_eq fun j hj => AH.get_set_ne hj
def zEd : Ed := ⟨[], 0, false⟩
theorem rep_ed : ∀ n : Nat, rep n [AVal.str [], AVal.int .i64 0, AVal.bool false] = encs EdE (List.replicate n zEd)
  | 0 => rfl
  | n + 1 => by rw [List.replicate_succ, encs_cons, ← rep_ed n]; rfl
theorem joined_cl {fl : Nat} {h : AH} {v u : AVal} {a b : List Ed} (hf : fl ≤ h.n) (hv : Vw EdE h v a) (hu : Vw EdE h u b) (ha : a.length ≤ 1000000) (hb : b.length ≤ 1000000) :
    Cl T fl 108 [v, u] h fun x h' => Vw EdE h' x (a ++ b) ∧ Keep h h' ∧ Own h.n x := by
  refine Cl.code (fn := F108) rfl rfl ?_
  simp only [F108]
  have hmk : mkSlA h 3 32 [.str [], .int .i64 0, .bool false] (.int .i64 ((a.length : Int) + b.length)) (.int .i64 ((a.length : Int) + b.length)) = some (.sl h.n 0 (a.length + b.length) 3, h.push (.cells (encs EdE (List.replicate (a.length + b.length) zEd)))) := by
    have e : natOf (.int .i64 ((a.length : Int) + b.length)) = some (a.length + b.length) := natOf_cast .i64 (a.length + b.length)
    simp only [mkSlA, e, rep_ed, nble, Nat.le_refl, decide_true, Bool.true_and]
    rw [decide_eq_true (by simp only [maxRow]; omega)]; rfl
  simp (maxSteps := 10000000) (disch := first | omega | (simp only [AH.push_n, AH.set_n]; first | done | omega)) only [go_sem, reduceCtorEq, Nat.reduceEqDiff, Nat.reduceAdd, hv.len, hu.len, hmk]
  have hG : ∀ G : AH, G = h.push (.cells (encs EdE (List.replicate (a.length + b.length) zEd))) → G.n = h.n + 1 ∧ Keep h G ∧ G.cells h.n = some (encs EdE (List.replicate (a.length + b.length) zEd)) := by
    rintro G rfl
    exact ⟨rfl, (Keep.refl h).push _, AH.cells_push_eq rfl⟩
  generalize h.push (.cells (encs EdE (List.replicate (a.length + b.length) zEd))) = G at *
  obtain ⟨Gn, Gk, Gc⟩ := hG G rfl
  clear hG
  refine copy_to (E := EdE) (k := 0) (m := a.length + b.length) (xs := List.replicate (a.length + b.length) zEd) (ys := a) rfl Gc hf (by simp) (hv.keep Gk) (by omega) (by simp) ?_
  intro g1 gn1 gc1 gk1
  have k1 : Keep h g1 := Gk.put gn1 gk1 (Nat.le_refl _)
  have hx1 : List.take 0 (List.replicate (a.length + b.length) zEd) ++ a ++ List.drop (0 + a.length) (List.replicate (a.length + b.length) zEd) = a ++ List.replicate b.length zEd := by simp
  rw [hx1] at gc1
  have hva : ∀ j, addrId v = some j → j ≠ h.n := fun j e => by have := hv.lt e; omega
  have hsl : sliceA (.sl 3) g1 (.sl h.n 0 (a.length + b.length) 3) (some (.int .i64 (a.length : Int))) none none = some (.sl h.n (a.length * 3) b.length 3) := by
    have e : natOf (.int .i64 (a.length : Int)) = some a.length := natOf_cast .i64 a.length
    simp only [sliceA, bounds, nbeq, decide_true, cond_true, e, nble, Nat.le_refl, forceN_eq']
    rw [decide_eq_true (show a.length ≤ a.length + b.length by omega)]
    simp
  simp (maxSteps := 10000000) (disch := first | omega | (simp only [AH.push_n, AH.set_n]; first | done | omega)) only [go_sem, reduceCtorEq, Nat.reduceEqDiff, (hv.keep k1).len, hsl]
  refine copy_to (E := EdE) (k := a.length) (m := b.length) (xs := a ++ List.replicate b.length zEd) (ys := b) rfl gc1 hf (by simp) (hu.keep k1) (by omega) rfl ?_
  intro g2 gn2 gc2 gk2
  have k2 : Keep h g2 := k1.put gn2 gk2 (Nat.le_refl _)
  have hx2 : List.take a.length (a ++ List.replicate b.length zEd) ++ b ++ List.drop (a.length + b.length) (a ++ List.replicate b.length zEd) = a ++ b := by
    rw [List.take_left, List.drop_eq_nil_of_le (by simp), List.append_nil]
  rw [hx2] at gc2
  simp (maxSteps := 10000000) (disch := first | omega | (simp only [AH.push_n, AH.set_n]; first | done | omega)) only [go_sem, Nat.reduceEqDiff]
  exact ⟨Vw.of_cells gc2 (by omega) (by simp) rfl, k2, Own.sl (by omega)⟩

theorem lawWhen_cl {fl : Nat} {h : AH} (b : Bool) (e : Int) : Cl T fl 35 [.bool b, .int .i64 e] h fun r h' => r = .int .i64 (whenErr b e) ∧ h = h' := by
  refine Cl.code (fn := F35) rfl rfl ?_
  simp only [F35]
  unfold whenErr
  cases b <;> simp (maxSteps := 10000000) (disch := first | omega | (simp only [AH.push_n, AH.set_n]; first | done | omega)) only [go_sem, reduceCtorEq, Nat.reduceEqDiff, Nat.reduceAdd]
theorem lawFirst_cl {fl : Nat} {h : AH} {v : AVal} {l : List Int} (hv : Vw IntE h v l) (hb : l.length < 1000000) : Cl T fl 34 [v] h fun r h' => r = .int .i64 (firstErr l) ∧ h = h' := by
  refine Cl.code (fn := F34) rfl rfl ?_
  simp only [F34]
  simp (maxSteps := 10000000) (disch := first | omega | (simp only [AH.push_n, AH.set_n]; first | done | omega)) only [go_sem, reduceCtorEq]
  refine ClS.by (first_cl hv hb) ?_
  rintro r g ⟨rfl, rfl⟩
  simp (maxSteps := 10000000) (disch := first | omega | (simp only [AH.push_n, AH.set_n]; first | done | omega)) only [go_sem]
end Go.Proofs.YtndlfkibcelhmaaGreatDoor.Ai
end
section
namespace Go.Proofs.YtndlfkibcelhmaaGreatDoor.Ai
open Go
set_option maxRecDepth 10000
set_option maxHeartbeats 4000000
set_option linter.all false
set_option pp.maxSteps 1200

def stackOf (p o : Pn) : Pn := ⟨p.name, p.width, p.left ++ o.left, p.right ++ o.right⟩
def topGap (p : Pn) : Int := ((outlineOf p true).getD ((outlineOf p true).length - 1) ⟨0, 0⟩).x - ((outlineOf p false).getD ((outlineOf p false).length - 1) ⟨0, 0⟩).x
theorem PSmall.stack {p o : Pn} (a : PSmall p) (b : PSmall o) : PSmall (stackOf p o) :=
  ⟨a.name, fun e he => by rcases List.mem_append.1 he with h | h; exact a.left e h; exact b.left e h, fun e he => by rcases List.mem_append.1 he with h | h; exact a.right e h; exact b.right e h⟩
def bothErr (p o : Pn) : Int := firstErr [panelErr p, panelErr o]
theorem bothErr_ok {p o : Pn} (h : bothErr p o = 0) : panelErr p = 0 ∧ panelErr o = 0 := by
  unfold bothErr at h
  simp only [firstErr] at h
  by_cases a : panelErr p = 0
  · rw [if_pos a] at h
    by_cases b : panelErr o = 0
    · exact ⟨a, b⟩
    · rw [if_neg b] at h; exact absurd h b
  · rw [if_neg a] at h; exact absurd h a
def stackErr (p o : Pn) : Int := if bothErr p o ≠ 0 then bothErr p o else if topGap p ≠ 2 * o.width then 24 else panelErr (stackOf p o)
def stackRes (p o : Pn) : Pn := if bothErr p o = 0 ∧ topGap p = 2 * o.width then pieceOf (stackOf p o) else noPanel
theorem PanelOk.gap_bd {p : Pn} (o : PanelOk p) (right : Bool) : -100000 ≤ ((outlineOf p right).getD ((outlineOf p right).length - 1) ⟨0, 0⟩).x ∧ ((outlineOf p right).getD ((outlineOf p right).length - 1) ⟨0, 0⟩).x ≤ 100000 := by
  have r := o.rising right
  have hl := r.len.1
  rw [getD_at (show (outlineOf p right).length - 1 < (outlineOf p right).length by omega)]
  exact r.bd _ (List.getElem_mem _)
theorem SideOk.len' {l : List Ed} (s : SideOk l) : l.length ≤ 1000000 := by have := s.len; omega

theorem pStack_cl {fl : Nat} {h : AH} {l r l2 r2 : AVal} {p o : Pn} (hf : fl ≤ h.n) (hv : PV h l r p) (hu : PV h l2 r2 o) (hs : PSmall p) (hs2 : PSmall o) :
    Cl T fl 36 [.agg [.str p.name, .int .i64 p.width, l, r], .agg [.str o.name, .int .i64 o.width, l2, r2]] h fun x h' => (∃ v, x = .tuple [v, .int .i64 (stackErr p o)] ∧ PA h' v (stackRes p o)) ∧ Keep h h' := by
  refine Cl.code (fn := F36) rfl rfl ?_
  simp only [F36]
  have hlc := hv.left.one
  have hrc := hv.right.one
  have hlc2 := hu.left.one
  have hrc2 := hu.right.one
  have hG : ∀ G : AH, G = ((h.push (.cells [.str p.name, .int .i64 p.width, l, r])).push (.cells [.str o.name, .int .i64 o.width, l2, r2])).push (.cells [.str [], .int .i64 0, .nilsl, .nilsl]) →
      G.n = h.n + 1 + 1 + 1 ∧ Keep h G ∧ G.cells h.n = some [.str p.name, .int .i64 p.width, l, r] ∧ G.cells (h.n + 1) = some [.str o.name, .int .i64 o.width, l2, r2] ∧ G.cells (h.n + 1 + 1) = some [.str [], .int .i64 0, .nilsl, .nilsl] := by
    rintro G rfl
    refine ⟨rfl, (((Keep.refl h).push _).push _).push _, ?_, ?_, AH.cells_push_eq rfl⟩
    · simp (maxSteps := 10000000) (disch := first | omega | (simp only [AH.push_n, AH.set_n]; first | done | omega)) only [go_sem]
    · simp (maxSteps := 10000000) (disch := first | omega | (simp only [AH.push_n, AH.set_n]; first | done | omega)) only [go_sem]
  simp (maxSteps := 10000000) (disch := first | omega | (simp only [AH.push_n, AH.set_n]; first | done | omega)) only [go_sem, reduceCtorEq, Nat.reduceEqDiff, Nat.reduceAdd]
  generalize ((h.push (.cells [.str p.name, .int .i64 p.width, l, r])).push (.cells [.str o.name, .int .i64 o.width, l2, r2])).push (.cells [.str [], .int .i64 0, .nilsl, .nilsl]) = G at *
  obtain ⟨Gn, Gk, Ga, Gb, Gc⟩ := hG G rfl
  clear hG
  rw [← Gn]
  refine ClS.by (pCheckPanel_cl (Nat.le_refl _) (hv.keep Gk) hs) ?_
  rintro x g1 ⟨rfl, hk1⟩
  have k1 := Gk.trans hk1
  have n1 := hk1.n
  have b1 := (hk1.cells (i := h.n + 1) (by omega)).trans Gb
  simp (maxSteps := 10000000) (disch := first | omega | (simp only [AH.push_n, AH.set_n]; first | done | omega)) only [go_sem, Nat.reduceEqDiff, Nat.reduceAdd, b1]
  refine ClS.by (pCheckPanel_cl (Nat.le_trans hf k1.n) (hu.keep k1) hs2) ?_
  rintro x g2 ⟨rfl, hk2⟩
  have k2 := k1.trans hk2
  have n2 := hk2.n
  simp (maxSteps := 10000000) (disch := first | omega | (simp only [AH.push_n, AH.set_n]; first | done | omega)) only [go_sem, Nat.reduceEqDiff, Nat.reduceAdd, Nat.reduceLeDiff]
  refine ClS.by (pFirst_cl (Vw.new (E := IntE) (g := g2) [panelErr p, panelErr o]) (by simp)) ?_
  rintro x g ⟨rfl, rfl⟩
  have hE : encs IntE [panelErr p, panelErr o] = [.int .i64 (panelErr p), .int .i64 (panelErr o)] := rfl
  have k3 : Keep G (g2.push (.cells [.int .i64 (panelErr p), .int .i64 (panelErr o)])) := (hk1.trans hk2).push _
  generalize g2.push (.cells [.int .i64 (panelErr p), .int .i64 (panelErr o)]) = g3 at *
  have kk3 := Gk.trans k3
  have n3 := k3.n
  have a3 := (k3.cells (i := h.n) (by omega)).trans Ga
  have b3 := (k3.cells (i := h.n + 1) (by omega)).trans Gb
  have c3 := (k3.cells (i := h.n + 1 + 1) (by omega)).trans Gc
  have hB : firstErr [panelErr p, panelErr o] = bothErr p o := rfl
  rw [hB]
  have hfn : fl ≤ h.n + 1 + 1 := by omega
  by_cases he : bothErr p o = 0
  case neg =>
    have e1 : stackErr p o = bothErr p o := by unfold stackErr; rw [if_pos he]
    have e2 : stackRes p o = noPanel := by unfold stackRes; rw [if_neg (fun x => he x.1)]
    simp (maxSteps := 10000000) (disch := first | omega | (simp only [AH.push_n, AH.set_n]; first | done | omega)) only [go_sem, Nat.reduceEqDiff, Nat.reduceAdd, he, c3]
    rw [e1, e2]
    exact ⟨⟨_, ⟨rfl, rfl⟩, noPanel_pa _⟩, kk3.set (by omega) _⟩
  obtain ⟨ep, eo⟩ := bothErr_ok he
  have op := pok ep
  have oo := pok eo
  simp (maxSteps := 10000000) (disch := first | omega | (simp only [AH.push_n, AH.set_n]; first | done | omega)) only [go_sem, Nat.reduceEqDiff, Nat.reduceAdd, he, a3]
  refine ClS.by (pcorners_cl (Nat.le_trans hf kk3.n) (hv.keep kk3) op.ok) ?_
  rintro x g4 ⟨rfl, hk4⟩
  have k4 := k3.trans hk4
  have kk4 := Gk.trans k4
  have n4 := k4.n
  have a4 := (k4.cells (i := h.n) (by omega)).trans Ga
  have b4 := (k4.cells (i := h.n + 1) (by omega)).trans Gb
  have c4 := (k4.cells (i := h.n + 1 + 1) (by omega)).trans Gc
  have hf4 : fl ≤ g4.n := Nat.le_trans hf kk4.n
  have w2 := oo.ok.width
  have g1b := op.ok.gap_bd false
  have g2b := op.ok.gap_bd true
  have hgap : topGap p = ((outlineOf p true).getD ((outlineOf p true).length - 1) ⟨0, 0⟩).x - ((outlineOf p false).getD ((outlineOf p false).length - 1) ⟨0, 0⟩).x := rfl
  unfold cornersOf intsA
  simp only [List.map_cons, List.map_nil]
  generalize ((outlineOf p true).getD ((outlineOf p true).length - 1) ⟨0, 0⟩).x = tR at *
  generalize ((outlineOf p false).getD ((outlineOf p false).length - 1) ⟨0, 0⟩).x = tL at *
  by_cases hg : topGap p = 2 * o.width
  case neg =>
    have e1 : stackErr p o = 24 := by unfold stackErr; rw [if_neg (by omega), if_pos hg]
    have e2 : stackRes p o = noPanel := by unfold stackRes; rw [if_neg (fun x => hg x.2)]
    have hg' : ¬ tR - tL = 2 * o.width := by omega
    simp (maxSteps := 10000000) (disch := first | omega | (simp only [AH.push_n, AH.set_n]; first | done | omega)) only [go_sem, Nat.reduceEqDiff, Nat.reduceAdd, Nat.reduceMul, Nat.reduceLT, Int.reduceToNat, b4, c4, hg']
    rw [e1, e2]
    exact ⟨⟨_, ⟨rfl, rfl⟩, noPanel_pa _⟩, ((kk4.push _).set (by omega) _).set (by omega) _⟩
  have e1 : stackErr p o = panelErr (stackOf p o) := by unfold stackErr; rw [if_neg (by omega), if_neg (by simpa using hg)]
  have e2 : stackRes p o = pieceOf (stackOf p o) := by unfold stackRes; rw [if_pos ⟨he, hg⟩]
  have hg' : tR - tL = 2 * o.width := by omega
  simp (maxSteps := 10000000) (disch := first | omega | (simp only [AH.push_n, AH.set_n]; first | done | omega)) only [go_sem, Nat.reduceEqDiff, Nat.reduceAdd, Nat.reduceMul, Nat.reduceLT, Int.reduceToNat, a4, b4, hg']
  have k5 : ∀ X Y, Keep G ((g4.push X).set g4.n Y) := fun X Y => (k4.push _).set (by omega) _
  have m5 : ∀ X Y, ((g4.push X).set g4.n Y).n = g4.n + 1 := fun _ _ => rfl
  generalize hq5 : (g4.push _).set g4.n _ = g5
  have k5 := hq5 ▸ k5 _ _
  have m5 := hq5 ▸ m5 _ _
  clear hq5
  have kk5 := Gk.trans k5
  have n5 := k5.n
  have a5 := (k5.cells (i := h.n) (by omega)).trans Ga
  have b5 := (k5.cells (i := h.n + 1) (by omega)).trans Gb
  have c5 := (k5.cells (i := h.n + 1 + 1) (by omega)).trans Gc
  simp (maxSteps := 10000000) (disch := first | omega | (simp only [AH.push_n, AH.set_n]; first | done | omega)) only [go_sem]
  rw [← m5]
  refine ClS.by (joined_cl (Nat.le_refl _) (hv.keep kk5).left (hu.keep kk5).left op.ok.left.len' oo.ok.left.len') ?_
  rintro jl g6 ⟨hjl, hk6, hol⟩
  have k6 := k5.trans hk6
  have kk6 := Gk.trans k6
  have n6 := k6.n
  have a6 := (k6.cells (i := h.n) (by omega)).trans Ga
  have b6 := (k6.cells (i := h.n + 1) (by omega)).trans Gb
  simp (maxSteps := 10000000) (disch := first | omega | (simp only [AH.push_n, AH.set_n]; first | done | omega)) only [go_sem, Nat.reduceEqDiff, a6, b6]
  refine ClS.by (joined_cl (Nat.le_refl _) (hv.keep kk6).right (hu.keep kk6).right op.ok.right.len' oo.ok.right.len') ?_
  rintro jr g7 ⟨hjr, hk7, hor⟩
  have k7 := k6.trans hk7
  have kk7 := Gk.trans k7
  have hjlc := hjl.one
  have hjrc := hjr.one
  simp (maxSteps := 10000000) (disch := first | omega | (simp only [AH.push_n, AH.set_n]; first | done | omega)) only [go_sem, Nat.reduceEqDiff, Nat.reduceAdd, Nat.reduceLeDiff, hjlc.1, hjrc.1]
  refine ClS.by (checked_cl (q := stackOf p o) (Nat.le_trans hf kk7.n) ⟨hjl.keep hk7, hjr⟩ (hs.stack hs2)) ?_
  rintro x g8 ⟨⟨l', r', rfl, hv', hoo⟩, hk8⟩
  have k8 := k7.trans hk8
  have kk8 := Gk.trans k8
  have n8 := k8.n
  have c8 := (k8.cells (i := h.n + 1 + 1) (by omega)).trans Gc
  obtain ⟨ol', or'⟩ := hoo G.n (hol.mono (by omega)) (hor.mono (by omega))
  have hl' := hv'.left.one
  have hr' := hv'.right.one
  have ks := Keep.set kk8 (j := h.n + 1 + 1) (by omega)
  simp (maxSteps := 10000000) (disch := first | omega | (simp only [AH.push_n, AH.set_n]; first | done | omega)) only [go_sem, Nat.reduceEqDiff, Nat.reduceAdd, c8, hl'.2, hr'.2]
  rw [e1, e2]
  exact ⟨⟨_, ⟨rfl, rfl⟩, ⟨⟨l', r', rfl, ⟨hv'.left.set _ (ol'.off (by omega)), hv'.right.set _ (or'.off (by omega))⟩⟩⟩⟩, ks _⟩

theorem refStack_cl {fl : Nat} {h : AH} {l r l2 r2 : AVal} {p o : Pn} (hf : fl ≤ h.n) (hv : PV h l r p) (hu : PV h l2 r2 o) (op : PanelOk p) (oo : PanelOk o) :
    Cl T fl 39 [.agg [.str p.name, .int .i64 p.width, l, r], .agg [.str o.name, .int .i64 o.width, l2, r2]] h fun x h' => (∃ l' r', x = .tuple [.agg [.str p.name, .int .i64 p.width, l', r'], .bool (decide (topGap p = 2 * o.width))] ∧ PV h' l' r' (stackOf p o) ∧ Own h.n l' ∧ Own h.n r') ∧ Keep h h' := by
  refine Cl.code (fn := F39) rfl rfl ?_
  simp only [F39]
  have hlc := hv.left.one
  have hrc := hv.right.one
  have hlc2 := hu.left.one
  have hrc2 := hu.right.one
  have hG : ∀ G : AH, G = ((h.push (.cells [.str p.name, .int .i64 p.width, l, r])).push (.cells [.str o.name, .int .i64 o.width, l2, r2])).push (.cells [.str [], .int .i64 0, .nilsl, .nilsl]) →
      G.n = h.n + 1 + 1 + 1 ∧ Keep h G ∧ G.cells h.n = some [.str p.name, .int .i64 p.width, l, r] ∧ G.cells (h.n + 1) = some [.str o.name, .int .i64 o.width, l2, r2] ∧ G.cells (h.n + 1 + 1) = some [.str [], .int .i64 0, .nilsl, .nilsl] := by
    rintro G rfl
    refine ⟨rfl, (((Keep.refl h).push _).push _).push _, ?_, ?_, AH.cells_push_eq rfl⟩
    · simp (maxSteps := 10000000) (disch := first | omega | (simp only [AH.push_n, AH.set_n]; first | done | omega)) only [go_sem]
    · simp (maxSteps := 10000000) (disch := first | omega | (simp only [AH.push_n, AH.set_n]; first | done | omega)) only [go_sem]
  simp (maxSteps := 10000000) (disch := first | omega | (simp only [AH.push_n, AH.set_n]; first | done | omega)) only [go_sem, reduceCtorEq, Nat.reduceEqDiff, Nat.reduceAdd]
  generalize ((h.push (.cells [.str p.name, .int .i64 p.width, l, r])).push (.cells [.str o.name, .int .i64 o.width, l2, r2])).push (.cells [.str [], .int .i64 0, .nilsl, .nilsl]) = G at *
  obtain ⟨Gn, Gk, Ga, Gb, Gc⟩ := hG G rfl
  clear hG
  refine ClS.by (refCorners_cl (Nat.le_trans hf Gk.n) (hv.keep Gk) op.left op.right op.width) ?_
  rintro x g1 ⟨rfl, hk1⟩
  have n1 := hk1.n
  have kk1 := Gk.trans hk1
  have hf1 : fl ≤ g1.n := Nat.le_trans hf kk1.n
  have g1b := op.gap_bd false
  have g2b := op.gap_bd true
  have w2 := oo.width
  have hgap : topGap p = ((outlineOf p true).getD ((outlineOf p true).length - 1) ⟨0, 0⟩).x - ((outlineOf p false).getD ((outlineOf p false).length - 1) ⟨0, 0⟩).x := rfl
  unfold cornersOf intsA
  simp only [List.map_cons, List.map_nil]
  generalize ((outlineOf p false).getD 0 ⟨0, 0⟩).x = q1 at *
  generalize ((outlineOf p false).getD 0 ⟨0, 0⟩).y = q2 at *
  generalize ((outlineOf p true).getD 0 ⟨0, 0⟩).x = q3 at *
  generalize ((outlineOf p true).getD 0 ⟨0, 0⟩).y = q4 at *
  generalize ((outlineOf p true).getD ((outlineOf p true).length - 1) ⟨0, 0⟩).x = tR at *
  generalize ((outlineOf p false).getD ((outlineOf p false).length - 1) ⟨0, 0⟩).x = tL at *
  generalize ((outlineOf p true).getD ((outlineOf p true).length - 1) ⟨0, 0⟩).y = q5 at *
  generalize ((outlineOf p false).getD ((outlineOf p false).length - 1) ⟨0, 0⟩).y = q6 at *
  have a1 := (hk1.cells (i := h.n) (by omega)).trans Ga
  simp (maxSteps := 10000000) (disch := first | omega | (simp only [AH.push_n, AH.set_n]; first | done | omega)) only [go_sem, Nat.reduceEqDiff, Nat.reduceAdd, a1]
  have hG : ∀ H : AH, H = (g1.push (.cells [.int .i64 0, .int .i64 0, .int .i64 0, .int .i64 0, .int .i64 0, .int .i64 0, .int .i64 0, .int .i64 0])).set g1.n (.cells [.int .i64 q1, .int .i64 q2, .int .i64 q3, .int .i64 q4, .int .i64 tL, .int .i64 q6, .int .i64 tR, .int .i64 q5]) →
      H.n = g1.n + 1 ∧ Keep g1 H ∧ H.cells g1.n = some [.int .i64 q1, .int .i64 q2, .int .i64 q3, .int .i64 q4, .int .i64 tL, .int .i64 q6, .int .i64 tR, .int .i64 q5] := by
    rintro H rfl
    exact ⟨rfl, ((Keep.refl g1).push _).set (Nat.le_refl _) _, AH.cells_set_eq⟩
  generalize (g1.push (.cells [.int .i64 0, .int .i64 0, .int .i64 0, .int .i64 0, .int .i64 0, .int .i64 0, .int .i64 0, .int .i64 0])).set g1.n (.cells [.int .i64 q1, .int .i64 q2, .int .i64 q3, .int .i64 q4, .int .i64 tL, .int .i64 q6, .int .i64 tR, .int .i64 q5]) = H at *
  obtain ⟨Hn, Hk, Hd⟩ := hG H rfl
  clear hG
  have kH := hk1.trans Hk
  have kkH := Gk.trans kH
  have aH := (kH.cells (i := h.n) (by omega)).trans Ga
  have bH := (kH.cells (i := h.n + 1) (by omega)).trans Gb
  have cH := (kH.cells (i := h.n + 1 + 1) (by omega)).trans Gc
  have lp := op.left.len'
  have rp := op.right.len'
  have lo := oo.left.len'
  have ro := oo.right.len'
  have hfH : fl ≤ H.n := Nat.le_trans hf kkH.n
  refine append_to (E := EdE) (xs := []) (ys := p.left) Vw.slz Own.of_slz hfH (hv.keep kkH).left (by simp only [List.length_nil, maxRow]; omega) ?_
  intro x2 g2 ha2
  have k2 := ha2.keep (k := G) kH Own.of_slz
  have own2 := ha2.own H.n (Nat.le_refl _) Own.of_slz
  have n2 := ha2.n
  have w2v : Vw EdE g2 x2 p.left := ha2.vw
  have b2 := (k2.cells (i := h.n + 1) (by omega)).trans Gb
  have a2 := (k2.cells (i := h.n) (by omega)).trans Ga
  have kH2 := ha2.keep (k := H) (Keep.refl H) Own.of_slz
  simp (maxSteps := 10000000) (disch := first | omega | (simp only [AH.push_n, AH.set_n]; first | done | omega)) only [go_sem, Nat.reduceEqDiff, b2]
  refine append_to (E := EdE) (ys := o.left) w2v (own2.mono hfH) (by omega) (hu.keep (Gk.trans k2)).left (by simp only [maxRow]; have := lp; have := lo; omega) ?_
  intro x3 g3 ha3
  have k3 := ha3.keep (k := G) k2 (own2.mono (by omega))
  have kH3 := ha3.keep (k := H) kH2 own2
  have n3 := ha3.n
  have own3 := ha3.own H.n (by omega) own2
  have a3 := (k3.cells (i := h.n) (by omega)).trans Ga
  have b3 := (k3.cells (i := h.n + 1) (by omega)).trans Gb
  have w3v : Vw EdE g3 x3 (p.left ++ o.left) := ha3.vw
  simp (maxSteps := 10000000) (disch := first | omega | (simp only [AH.push_n, AH.set_n]; first | done | omega)) only [go_sem, Nat.reduceEqDiff, a3]
  refine append_to (E := EdE) (xs := []) (ys := p.right) Vw.slz Own.of_slz (by omega) (hv.keep (Gk.trans k3)).right (by simp only [List.length_nil, maxRow]; omega) ?_
  intro x4 g4 ha4
  have k4 := ha4.keep (k := G) k3 Own.of_slz
  have kH4 := ha4.keep (k := H) kH3 Own.of_slz
  have own4 := ha4.own g3.n (Nat.le_refl _) Own.of_slz
  have n4 := ha4.n
  have w4v : Vw EdE g4 x4 p.right := ha4.vw
  have b4 := (k4.cells (i := h.n + 1) (by omega)).trans Gb
  have w3v4 := w3v.keep (ha4.keep (k := g3) (Keep.refl g3) Own.of_slz)
  simp (maxSteps := 10000000) (disch := first | omega | (simp only [AH.push_n, AH.set_n]; first | done | omega)) only [go_sem, Nat.reduceEqDiff, b4]
  refine append_to (E := EdE) (ys := o.right) w4v (own4.mono (by omega)) (by omega) (hu.keep (Gk.trans k4)).right (by simp only [maxRow]; omega) ?_
  intro x5 g5 ha5
  have k5 := ha5.keep (k := G) k4 (own4.mono (by omega))
  have kH5 := ha5.keep (k := H) kH4 (own4.mono (by omega))
  have own5 := ha5.own G.n (by omega) (own4.mono (by omega))
  have k35 := ha5.keep (k := g3) (ha4.keep (k := g3) (Keep.refl g3) Own.of_slz) own4
  have w3v5 := w3v.keep k35
  have w5v : Vw EdE g5 x5 (p.right ++ o.right) := ha5.vw
  have a5 := (k5.cells (i := h.n) (by omega)).trans Ga
  have b5 := (k5.cells (i := h.n + 1) (by omega)).trans Gb
  have c5 := (k5.cells (i := h.n + 1 + 1) (by omega)).trans Gc
  have d5 := (kH5.cells (i := g1.n) (by omega)).trans Hd
  have x3c := w3v.one
  have x5c := w5v.one
  have hng : g1.n ≠ h.n + 1 + 1 := by omega
  have hfn : fl ≤ h.n + 1 + 1 := by omega
  have ks := Keep.set (Gk.trans k5) (j := h.n + 1 + 1) (by omega)
  have hd : decide (tR - tL = 2 * o.width) = decide (topGap p = 2 * o.width) := by rw [hgap]
  simp (maxSteps := 10000000) (disch := first | omega | (simp only [AH.push_n, AH.set_n]; first | done | omega)) only [go_sem, Nat.reduceEqDiff, Nat.reduceAdd, Nat.reduceMul, Nat.reduceLeDiff, Nat.reduceLT, Int.reduceToNat, a5, b5, c5, d5, x3c.1, x5c.1, x3c.2, x5c.2, hd]
  exact ⟨⟨x3, x5, ⟨rfl, rfl⟩, ⟨w3v5.set _ ((own3.mono (by omega : G.n ≤ H.n)).off (by omega)), w5v.set _ (own5.off (by omega))⟩, own3.mono (by omega), own5.mono (by omega)⟩, ks _⟩
end Go.Proofs.YtndlfkibcelhmaaGreatDoor.Ai
end
