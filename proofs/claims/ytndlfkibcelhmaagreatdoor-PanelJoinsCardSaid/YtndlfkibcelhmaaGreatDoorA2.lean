/- The evaluator over abstract values, the compiler into its code, and its soundness over the machine. -/
import Derived.Test.YtndlfkibcelhmaaGreatDoorA0
import Derived.Test.YtndlfkibcelhmaaGreatDoorA1
import Derived.Attr
import Derived.Lib.Bytealg
import Derived.Laws.Externs
set_option linter.all false
section
/- What a run of the evaluator comes to, without fuel: predicate transformers over the evaluator's code, and their soundness. -/
namespace Go.Proofs.YtndlfkibcelhmaaGreatDoor.Ai
open Go

/-- From some fuel on. -/
def Evt (p : Nat → Prop) : Prop := ∃ m0, ∀ m, m0 ≤ m → p m
theorem Evt.of {p : Nat → Prop} (h : ∀ m, p m) : Evt p := ⟨0, fun m _ => h m⟩
theorem Evt.and {p q : Nat → Prop} (h1 : Evt p) (h2 : Evt q) : Evt fun m => p m ∧ q m :=
  let ⟨a, ha⟩ := h1; let ⟨b, hb⟩ := h2
  ⟨max a b, fun m hm => ⟨ha m (Nat.le_trans (Nat.le_max_left ..) hm), hb m (Nat.le_trans (Nat.le_max_right ..) hm)⟩⟩
theorem Evt.mono {p q : Nat → Prop} (h1 : Evt p) (h : ∀ m, p m → q m) : Evt q := let ⟨a, ha⟩ := h1; ⟨a, fun m hm => h m (ha m hm)⟩
theorem Evt.succ {p q : Nat → Prop} (h1 : Evt p) (h : ∀ m, p m → q (m + 1)) : Evt q :=
  let ⟨a, ha⟩ := h1; ⟨a + 1, fun m hm => by obtain ⟨k, rfl⟩ : ∃ k, m = k + 1 := ⟨m - 1, by omega⟩; exact h k (ha k (by omega))⟩

section
variable (T : Tab)

/-- A call of a function. -/
def Cl (fl : Nat) (f : FuncId) (args : List AVal) (h : AH) (Q : AVal → AH → Prop) : Prop :=
  ∃ v h', (Evt fun m => (aCall T m).call fl f args h = some (v, h')) ∧ Q v h'
/-- A round of a range over a function. -/
def Yl (fl : Nat) (id : Nat) (args : List AVal) (h : AH) (Q : AVal → AH → Prop) : Prop :=
  ∃ v h', (Evt fun m => (aCall T m).yld fl id args h = some (v, h')) ∧ Q v h'

noncomputable def E0 : Env := ⟨fun _ _ _ _ => none, fun _ _ _ _ => none⟩
def optK {α : Type} (o : Option α) (K : α → Prop) : Prop :=
  match o with
  | some x => K x
  | none => False
/-- A guard, or a condition. -/
def condK (v : AVal) (A B : Prop) : Prop :=
  match v with
  | .bool true => A
  | .bool false => B
  | _ => False
def guardK (v : AVal) (w : Bool) (A B : Prop) : Prop :=
  match v with
  | .bool b => if b = w then A else B
  | _ => B
def dynK (fl : Nat) (f : AVal) (args : List AVal) (h : AH) (K : AVal → AH → Prop) : Prop :=
  match f with
  | .func g first captured => Cl T fl g (first ++ args ++ captured) h K
  | .yld id => Yl T fl id args h K
  | _ => False

def wop (fl : Nat) (ts : Tm) (h : AH) (op : AOp) (K : AVal → AH → Prop) : Prop :=
  match op with
  | .call f args => Cl T fl f (evs ts args) h K
  | .dyn f args => dynK T fl (ev ts f) (evs ts args) h K
  | op => optK (aOp E0 fl ts h op) fun r => K r.1 r.2

def wops (fl : Nat) : List AOper → Tm → AH → (Tm → AH → Prop) → Prop
  | [], ts, h, K => K ts h
  | o :: os, ts, h, K =>
    match o.guard with
    | none => wop T fl ts h o.op fun v h' => wops fl os (setT ts o.dst v) h' K
    | some (t, w) => guardK (tg ts t) w (wop T fl ts h o.op fun v h' => wops fl os (setT ts o.dst v) h' K) (wops fl os (setT ts o.dst undefA) h K)

def wopsD (fl : Nat) : List AOperD → Tm → AH → (Tm → AH → Prop) → Prop
  | [], ts, h, K => K ts h
  | o :: os, ts, h, K =>
    let go := (apartA ts ((placeOf o.o.op).bind fun x => addrId (ev ts x)) o.apart = true ∧
      wop T (bif o.strict then h.n else fl) ts h o.o.op fun v h' => wopsD fl os (setT ts o.o.dst v) h' K)
    match o.o.guard with
    | none => go
    | some (t, w) => guardK (tg ts t) w go (wopsD fl os (setT ts o.o.dst undefA) h K)

abbrev KE := AExit → Tm → AH → Prop
def seqK (N : Tm → AH → Prop) (Q : KE) : KE
  | .norm, ts, h => N ts h
  | e, ts, h => Q e ts h
def blockK (id : Nat) (Q : KE) : KE
  | .exit i, ts, h => if i = id then Q .norm ts h else Q (.exit i) ts h
  | e, ts, h => Q e ts h
/-- What a loop comes to: the least that its rounds bear. -/
def loopW (F : Tm → AH → KE → Prop) (ts : Tm) (h : AH) (Q : KE) : Prop :=
  ∀ I : Tm → AH → Prop, (∀ ts h, F ts h (seqK I Q) → I ts h) → I ts h
/-- The end of a range over a function. -/
def rangeK (id : Nat) (ts : Tm) (Q : KE) (_ : AVal) (h : AH) : Prop :=
  match h.get id with
  | some (.loop l) =>
    match l.state with
    | .busy => False
    | _ => match l.pending with
      | .none => Q .norm ts (h.set id (.loop { l with state := .exhausted }))
      | .ret => Q .ret ts (h.set id (.loop { l with state := .exhausted }))
      | .exit i => Q (.exit i) ts (h.set id (.loop { l with state := .exhausted }))
  | _ => False
def rangeW (f : AVal) (params : List Nat) (assign body : ACode) (fl : Nat) (ts : Tm) (h : AH) (Q : KE) : Prop :=
  match f with
  | .func g first captured => Cl T fl g (first ++ .yld h.n :: captured) (h.push (.loop { state := .ready, pending := .none, tmps := ts, params, assign, body })) (rangeK h.n ts Q)
  | _ => False

def wc (fl : Nat) : ACode → Tm → AH → KE → Prop
  | .skip, ts, h, Q => Q .norm ts h
  | .region ops, ts, h, Q => wops T fl ops ts h (Q .norm)
  | .regionD ops, ts, h, Q => wopsD T fl ops ts h (Q .norm)
  | .seq a b, ts, h, Q => wc fl a ts h (seqK (fun ts' h' => wc fl b ts' h' Q) Q)
  | .cond c a b, ts, h, Q => condK (ev ts c) (wc fl a ts h Q) (wc fl b ts h Q)
  | .block id b, ts, h, Q => wc fl b ts h (blockK id Q)
  | .loop b, ts, h, Q => loopW (wc fl b) ts h Q
  | .rangeFunc f params assign body, ts, h, Q => rangeW T (ev ts f) params assign body fl ts h Q
  | .exit id, ts, h, Q => Q (.exit id) ts h
  | .ret, ts, h, Q => Q .ret ts h

/-! ## Soundness -/
theorem optK_spec {α : Type} {o : Option α} {K : α → Prop} (h : optK o K) : ∃ x, o = some x ∧ K x := by
  cases o with
  | none => exact h.elim
  | some x => exact ⟨x, rfl, h⟩
theorem condK_spec {v : AVal} {A B : Prop} (h : condK v A B) : (v = .bool true ∧ A) ∨ (v = .bool false ∧ B) := by
  unfold condK at h
  split at h
  · exact .inl ⟨rfl, h⟩
  · exact .inr ⟨rfl, h⟩
  · exact h.elim
theorem guardK_spec {ts : Tm} {t : Nat} {w : Bool} {A B : Prop} (h : guardK (tg ts t) w A B) : (wantedA ts (some (t, w)) = true ∧ A) ∨ (wantedA ts (some (t, w)) = false ∧ B) := by
  unfold guardK at h
  simp only [wantedA]
  split at h
  · rename_i b hb
    by_cases e : b = w
    · rw [if_pos e] at h; exact .inl ⟨by rw [hb]; simp [e], h⟩
    · rw [if_neg e] at h; exact .inr ⟨by rw [hb]; simp [e], h⟩
  · rename_i hb
    refine .inr ⟨?_, h⟩
    split
    · rename_i b hb'; exact absurd hb' (hb b)
    · rfl

theorem wop_spec {fl : Nat} {ts : Tm} {h : AH} {op : AOp} {K : AVal → AH → Prop} (hw : wop T fl ts h op K) :
    ∃ v h', (Evt fun m => aOp (aCall T m) fl ts h op = some (v, h')) ∧ K v h' := by
  cases op with
  | call f args => exact hw
  | dyn f args =>
    simp only [wop, dynK] at hw
    split at hw
    · rename_i g a c hf
      obtain ⟨v, h', h1, h2⟩ := hw
      exact ⟨v, h', h1.mono fun m hm => by simp only [aOp, hf]; exact hm, h2⟩
    · rename_i id hf
      obtain ⟨v, h', h1, h2⟩ := hw
      exact ⟨v, h', h1.mono fun m hm => by simp only [aOp, hf]; exact hm, h2⟩
    · exact hw.elim
  | _ =>
    simp only [wop] at hw
    obtain ⟨r, h1, h2⟩ := optK_spec hw
    exact ⟨r.1, r.2, .of fun m => h1, h2⟩

theorem wops_spec {fl : Nat} : ∀ {ops : List AOper} {ts : Tm} {h : AH} {K : Tm → AH → Prop}, wops T fl ops ts h K →
    ∃ ts' h', (Evt fun m => aOpers (aCall T m) fl ops ts h = some (ts', h')) ∧ K ts' h'
  | [], ts, h, K, hw => ⟨ts, h, .of fun _ => rfl, hw⟩
  | o :: os, ts, h, K, hw => by
    have yes : wantedA ts o.guard = true → (wop T fl ts h o.op fun v h' => wops T fl os (setT ts o.dst v) h' K) → ∃ ts' h', (Evt fun m => aOpers (aCall T m) fl (o :: os) ts h = some (ts', h')) ∧ K ts' h' := fun hg hw => by
      obtain ⟨v, h1, e1, k1⟩ := wop_spec T hw
      obtain ⟨ts2, h2, e2, k2⟩ := wops_spec k1
      exact ⟨ts2, h2, (e1.and e2).mono fun m hm => by simp only [aOpers, hg, cond_true, hm.1]; exact hm.2, k2⟩
    have no : wantedA ts o.guard = false → wops T fl os (setT ts o.dst undefA) h K → ∃ ts' h', (Evt fun m => aOpers (aCall T m) fl (o :: os) ts h = some (ts', h')) ∧ K ts' h' := fun hg hw => by
      obtain ⟨ts2, h2, e2, k2⟩ := wops_spec hw
      exact ⟨ts2, h2, e2.mono fun m hm => by simp only [aOpers, hg, cond_false]; exact hm, k2⟩
    simp only [wops] at hw
    cases hg : o.guard with
    | none => rw [hg] at hw yes; exact yes rfl hw
    | some g =>
      obtain ⟨t, w⟩ := g
      rw [hg] at hw yes no
      rcases guardK_spec hw with ⟨h1, h2⟩ | ⟨h1, h2⟩
      · exact yes h1 h2
      · exact no h1 h2
theorem wopsD_spec {fl : Nat} : ∀ {ops : List AOperD} {ts : Tm} {h : AH} {K : Tm → AH → Prop}, wopsD T fl ops ts h K →
    ∃ ts' h', (Evt fun m => aOpersD (aCall T m) fl ops ts h = some (ts', h')) ∧ K ts' h'
  | [], ts, h, K, hw => ⟨ts, h, .of fun _ => rfl, hw⟩
  | o :: os, ts, h, K, hw => by
    have yes : wantedA ts o.o.guard = true → (apartA ts ((placeOf o.o.op).bind fun x => addrId (ev ts x)) o.apart = true ∧ wop T (bif o.strict then h.n else fl) ts h o.o.op fun v h' => wopsD T fl os (setT ts o.o.dst v) h' K) →
        ∃ ts' h', (Evt fun m => aOpersD (aCall T m) fl (o :: os) ts h = some (ts', h')) ∧ K ts' h' := fun hg ⟨ha, hw⟩ => by
      obtain ⟨v, h1, e1, k1⟩ := wop_spec T hw
      obtain ⟨ts2, h2, e2, k2⟩ := wopsD_spec k1
      exact ⟨ts2, h2, (e1.and e2).mono fun m hm => by simp only [aOpersD, hg, ha, cond_true, hm.1]; exact hm.2, k2⟩
    have no : wantedA ts o.o.guard = false → wopsD T fl os (setT ts o.o.dst undefA) h K → ∃ ts' h', (Evt fun m => aOpersD (aCall T m) fl (o :: os) ts h = some (ts', h')) ∧ K ts' h' := fun hg hw => by
      obtain ⟨ts2, h2, e2, k2⟩ := wopsD_spec hw
      exact ⟨ts2, h2, e2.mono fun m hm => by simp only [aOpersD, hg, cond_false]; exact hm, k2⟩
    simp only [wopsD] at hw
    cases hg : o.o.guard with
    | none => rw [hg] at hw yes; exact yes rfl hw
    | some g =>
      obtain ⟨t, w⟩ := g
      rw [hg] at hw yes no
      rcases guardK_spec hw with ⟨h1, h2⟩ | ⟨h1, h2⟩
      · exact yes h1 h2
      · exact no h1 h2

theorem wc_spec {fl : Nat} : ∀ {c : ACode} {ts : Tm} {h : AH} {Q : KE}, wc T fl c ts h Q →
    ∃ e ts' h', (Evt fun m => aCode (aCall T m) fl m c ts h = some (e, ts', h')) ∧ Q e ts' h'
  | .skip, ts, h, Q, hw => ⟨.norm, ts, h, .of fun _ => rfl, hw⟩
  | .exit id, ts, h, Q, hw => ⟨.exit id, ts, h, .of fun _ => rfl, hw⟩
  | .ret, ts, h, Q, hw => ⟨.ret, ts, h, .of fun _ => rfl, hw⟩
  | .region ops, ts, h, Q, hw => by
    obtain ⟨ts', h', e, k⟩ := wops_spec T hw
    exact ⟨.norm, ts', h', e.mono fun m hm => by simp only [aCode, hm], k⟩
  | .regionD ops, ts, h, Q, hw => by
    obtain ⟨ts', h', e, k⟩ := wopsD_spec T hw
    exact ⟨.norm, ts', h', e.mono fun m hm => by simp only [aCode, hm], k⟩
  | .seq a b, ts, h, Q, hw => by
    obtain ⟨e, ts1, h1, ev1, k1⟩ := wc_spec (c := a) hw
    cases e with
    | norm =>
      obtain ⟨e2, ts2, h2, ev2, k2⟩ := wc_spec (c := b) k1
      exact ⟨e2, ts2, h2, (ev1.and ev2).mono fun m hm => by simp only [aCode, hm.1]; exact hm.2, k2⟩
    | ret => exact ⟨.ret, ts1, h1, ev1.mono fun m hm => by simp only [aCode, hm], k1⟩
    | exit i => exact ⟨.exit i, ts1, h1, ev1.mono fun m hm => by simp only [aCode, hm], k1⟩
  | .cond c a b, ts, h, Q, hw => by
    rcases condK_spec hw with ⟨hc, hw⟩ | ⟨hc, hw⟩
    · obtain ⟨e, ts1, h1, ev1, k1⟩ := wc_spec (c := a) hw
      exact ⟨e, ts1, h1, ev1.mono fun m hm => by simp only [aCode, hc]; exact hm, k1⟩
    · obtain ⟨e, ts1, h1, ev1, k1⟩ := wc_spec (c := b) hw
      exact ⟨e, ts1, h1, ev1.mono fun m hm => by simp only [aCode, hc]; exact hm, k1⟩
  | .block id b, ts, h, Q, hw => by
    obtain ⟨e, ts1, h1, ev1, k1⟩ := wc_spec (c := b) hw
    cases e with
    | norm => exact ⟨.norm, ts1, h1, ev1.mono fun m hm => by simp only [aCode, hm], k1⟩
    | ret => exact ⟨.ret, ts1, h1, ev1.mono fun m hm => by simp only [aCode, hm], k1⟩
    | exit i =>
      simp only [blockK] at k1
      by_cases hi : i = id
      · rw [if_pos hi] at k1
        exact ⟨.norm, ts1, h1, ev1.mono fun m hm => by simp only [aCode, hm, nbeq, hi, decide_true, cond_true], k1⟩
      · rw [if_neg hi] at k1
        exact ⟨.exit i, ts1, h1, ev1.mono fun m hm => by simp only [aCode, hm, nbeq, hi, decide_false, cond_false], k1⟩
  | .loop b, ts, h, Q, hw => by
    have : ∃ e ts' h', (Evt fun m => Evt fun n => ∀ k, n ≤ k → aLoop (aCode (aCall T m) fl m b) k ts h = some (e, ts', h')) ∧ Q e ts' h' ∧ ∃ n0, Evt fun m => ∀ k, n0 ≤ k → aLoop (aCode (aCall T m) fl m b) k ts h = some (e, ts', h') := by
      refine hw (fun ts h => ∃ e ts' h', (Evt fun m => Evt fun n => ∀ k, n ≤ k → aLoop (aCode (aCall T m) fl m b) k ts h = some (e, ts', h')) ∧ Q e ts' h' ∧ ∃ n0, Evt fun m => ∀ k, n0 ≤ k → aLoop (aCode (aCall T m) fl m b) k ts h = some (e, ts', h')) ?_
      intro ts h hF
      obtain ⟨e, ts1, h1, ev1, k1⟩ := wc_spec (c := b) hF
      have fin : ∀ e' : AExit, e' ≠ .norm → e = e' → Q e' ts1 h1 → ∃ e ts' h', (Evt fun m => Evt fun n => ∀ k, n ≤ k → aLoop (aCode (aCall T m) fl m b) k ts h = some (e, ts', h')) ∧ Q e ts' h' ∧ ∃ n0, Evt fun m => ∀ k, n0 ≤ k → aLoop (aCode (aCall T m) fl m b) k ts h = some (e, ts', h') := by
        intro e' hne he hq
        subst he
        have : Evt fun m => ∀ k, 1 ≤ k → aLoop (aCode (aCall T m) fl m b) k ts h = some (e, ts1, h1) := ev1.mono fun m hm k hk => by
          obtain ⟨j, rfl⟩ : ∃ j, k = j + 1 := ⟨k - 1, by omega⟩
          simp only [aLoop, hm]
          cases e <;> first | rfl | exact absurd rfl hne
        exact ⟨e, ts1, h1, this.mono fun m hm => ⟨1, fun n hn k hk => hm k (by omega)⟩, hq, 1, this⟩
      cases e with
      | norm =>
        obtain ⟨e2, ts2, h2, _, q2, n0, ev2⟩ := k1
        have : Evt fun m => ∀ k, n0 + 1 ≤ k → aLoop (aCode (aCall T m) fl m b) k ts h = some (e2, ts2, h2) := (ev1.and ev2).mono fun m hm k hk => by
          obtain ⟨j, rfl⟩ : ∃ j, k = j + 1 := ⟨k - 1, by omega⟩
          simp only [aLoop, hm.1]
          exact hm.2 j (by omega)
        exact ⟨e2, ts2, h2, this.mono fun m hm => ⟨n0 + 1, fun n hn k hk => hm k (by omega)⟩, q2, n0 + 1, this⟩
      | ret => exact fin .ret (by simp) rfl k1
      | exit i => exact fin (.exit i) (by simp) rfl k1
    obtain ⟨e, ts', h', _, q, n0, ev⟩ := this
    refine ⟨e, ts', h', ?_, q⟩
    obtain ⟨m0, hm0⟩ := ev
    exact ⟨max m0 n0, fun m hm => by simp only [aCode]; exact hm0 m (Nat.le_trans (Nat.le_max_left ..) hm) m (Nat.le_trans (Nat.le_max_right ..) hm)⟩
  | .rangeFunc f params assign body, ts, h, Q, hw => by
    simp only [wc, rangeW] at hw
    split at hw
    case h_2 => exact hw.elim
    rename_i g a c hf
    obtain ⟨v, h1, ev1, k⟩ := hw
    unfold rangeK at k
    split at k
    case h_2 => exact k.elim
    rename_i l hl
    obtain ⟨st, pd, tm, ps, as1, bd⟩ := l
    have key : ∀ e : AExit, Q e ts (h1.set h.n (.loop ⟨.exhausted, pd, tm, ps, as1, bd⟩)) → (∀ m, aCode (aCall T m) fl m (.rangeFunc f params assign body) ts h = some (e, ts, h1.set h.n (.loop ⟨.exhausted, pd, tm, ps, as1, bd⟩))) ∨
        (∀ m, (aCall T m).call fl g (a ++ .yld h.n :: c) (h.push (.loop { state := .ready, pending := .none, tmps := ts, params, assign, body })) = some (v, h1) → aCode (aCall T m) fl m (.rangeFunc f params assign body) ts h = some (e, ts, h1.set h.n (.loop ⟨.exhausted, pd, tm, ps, as1, bd⟩))) →
        ∃ e ts' h', (Evt fun m => aCode (aCall T m) fl m (.rangeFunc f params assign body) ts h = some (e, ts', h')) ∧ Q e ts' h' := fun e hq hm =>
      ⟨e, ts, _, ev1.mono fun m hc => hm.elim (fun x => x m) fun x => x m hc, hq⟩
    cases st <;> first | exact k.elim | (cases pd <;> exact key _ k (.inr fun m hm => by simp only [aCode, hf, hm, hl]))

/-! ## Calls -/
variable {T}
theorem Cl.mono {fl : Nat} {f : FuncId} {args : List AVal} {h : AH} {Q Q' : AVal → AH → Prop} (c : Cl T fl f args h Q) (hq : ∀ v h', Q v h' → Q' v h') : Cl T fl f args h Q' :=
  let ⟨v, h', e, q⟩ := c; ⟨v, h', e, hq v h' q⟩
theorem Yl.mono {fl : Nat} {f : Nat} {args : List AVal} {h : AH} {Q Q' : AVal → AH → Prop} (c : Yl T fl f args h Q) (hq : ∀ v h', Q v h' → Q' v h') : Yl T fl f args h Q' :=
  let ⟨v, h', e, q⟩ := c; ⟨v, h', e, hq v h' q⟩

/-- The end of a function: its results. -/
def endK (rs : List AResVar) (Q : AVal → AH → Prop) : KE
  | .exit _, _, _ => False
  | .norm, ts, h => optK (aResults ts h rs) fun vs => Q (oneOf vs) h
  | .ret, ts, h => optK (aResults ts h rs) fun vs => Q (oneOf vs) h
theorem Cl.of {fl : Nat} {f : FuncId} {fn : AFunc} {args : List AVal} {h : AH} {Q : AVal → AH → Prop} (hp : T.prim f = none) (hf : T.fns.get f = some fn)
    (hw : wc T fl fn.body (tinit .leaf 0 args) h (endK fn.results Q)) : Cl T fl f args h Q := by
  obtain ⟨e, ts, h', ev, k⟩ := wc_spec T hw
  cases e with
  | exit i => exact k.elim
  | norm =>
    obtain ⟨vs, h1, h2⟩ := optK_spec k
    exact ⟨oneOf vs, h', ev.succ fun m hm => by simp only [aCall, hp, hf, hm, h1, Option.map_some], h2⟩
  | ret =>
    obtain ⟨vs, h1, h2⟩ := optK_spec k
    exact ⟨oneOf vs, h', ev.succ fun m hm => by simp only [aCall, hp, hf, hm, h1, Option.map_some], h2⟩
theorem Cl.ofPrim {fl : Nat} {f : FuncId} {p : (floor : Nat) → List AVal → AH → Option (AVal × AH)} {args : List AVal} {h : AH} {Q : AVal → AH → Prop} (hp : T.prim f = some p)
    (hw : optK (p fl args h) fun r => Q r.1 r.2) : Cl T fl f args h Q := by
  obtain ⟨r, h1, h2⟩ := optK_spec hw
  exact ⟨r.1, r.2, ⟨1, fun m hm => by obtain ⟨k, rfl⟩ : ∃ k, m = k + 1 := ⟨m - 1, by omega⟩; simp only [aCall, hp, h1]⟩, h2⟩

/-- A round: the loop's record, busy while its body runs. -/
def roundK (id : Nat) (Q : AVal → AH → Prop) (e : AExit) (_ : Tm) (h : AH) : Prop :=
  match h.get id with
  | some (.loop l) =>
    match e with
    | .norm => Q (.bool true) (h.set id (.loop { l with state := .ready, pending := .none }))
    | .ret => Q (.bool false) (h.set id (.loop { l with state := .done, pending := .ret }))
    | .exit x => Q (.bool false) (h.set id (.loop { l with state := .done, pending := .exit x }))
  | _ => False
theorem Yl.of {fl id : Nat} {args : List AVal} {h : AH} {Q : AVal → AH → Prop} {l : ALoop} (hfl : fl ≤ id) (hg : h.get id = some (.loop l)) (hs : l.state = .ready) (hl : l.params.length = args.length)
    {ts : Tm} (ha : ∀ E m, aCode E fl m l.assign (setTs l.tmps l.params args) h = some (.norm, ts, h))
    (hw : wc T fl l.body ts (h.set id (.loop { l with state := .busy })) (roundK id Q)) : Yl T fl id args h Q := by
  obtain ⟨e, ts2, h2, ev, k⟩ := wc_spec T hw
  unfold roundK at k
  split at k
  case h_2 => exact k.elim
  rename_i l2 hl2
  have key : ∀ v h', Q v h' → (∀ m, aCode (aCall T m) fl m l.body ts (h.set id (.loop { l with state := .busy })) = some (e, ts2, h2) → (aCall T (m + 1)).yld fl id args h = some (v, h')) → Yl T fl id args h Q :=
    fun v h' q hm => ⟨v, h', ev.succ hm, q⟩
  cases e with
  | norm => exact key _ _ k fun m hm => by simp only [aCall, aYield, nble, hfl, decide_true, cond_true, hg, nbeq, hl, hs, ha, hm, hl2]
  | ret => exact key _ _ k fun m hm => by simp only [aCall, aYield, nble, hfl, decide_true, cond_true, hg, nbeq, hl, hs, ha, hm, hl2]
  | exit i => exact key _ _ k fun m hm => by simp only [aCall, aYield, nble, hfl, decide_true, cond_true, hg, nbeq, hl, hs, ha, hm, hl2]
end

section
variable (T : Tab)
/-- Behind the assignment of a round's variables: the body. -/
def assignK (fl id : Nat) (body : ACode) (Q : AVal → AH → Prop) (e : AExit) (ts : Tm) (h : AH) : Prop :=
  match e with
  | .norm => match h.get id with
    | some (.loop l) => match l.state with
      | .ready => wc T fl body ts (h.set id (.loop { l with state := .busy })) (roundK id Q)
      | _ => False
    | _ => False
  | _ => False
theorem Yl.round {T : Tab} {fl id : Nat} {args : List AVal} {h : AH} {Q : AVal → AH → Prop} {l : ALoop} (hfl : fl ≤ id) (hg : h.get id = some (.loop l)) (hs : l.state = .ready) (hl : l.params.length = args.length)
    (hw : wc T fl l.assign (setTs l.tmps l.params args) h (assignK T fl id l.body Q)) : Yl T fl id args h Q := by
  obtain ⟨e1, ts1, h1, ev1, k1⟩ := wc_spec T hw
  unfold assignK at k1
  split at k1
  case h_2 => exact k1.elim
  split at k1
  case h_2 => exact k1.elim
  rename_i l1 hl1
  split at k1
  case h_2 => exact k1.elim
  rename_i hs1
  obtain ⟨e, ts2, h2, ev, k⟩ := wc_spec T k1
  unfold roundK at k
  split at k
  case h_2 => exact k.elim
  rename_i l2 hl2
  have key : ∀ v h', Q v h' → (∀ m, aCode (aCall T m) fl m l.assign (setTs l.tmps l.params args) h = some (.norm, ts1, h1) ∧ aCode (aCall T m) fl m l.body ts1 (h1.set id (.loop { l1 with state := .busy })) = some (e, ts2, h2) → (aCall T (m + 1)).yld fl id args h = some (v, h')) → Yl T fl id args h Q :=
    fun v h' q hm => ⟨v, h', (ev1.and ev).succ hm, q⟩
  cases e with
  | norm => exact key _ _ k fun m hm => by simp only [aCall, aYield, nble, hfl, decide_true, cond_true, hg, nbeq, hl, hs, hm.1, hl1, hs1, hm.2, hl2]
  | ret => exact key _ _ k fun m hm => by simp only [aCall, aYield, nble, hfl, decide_true, cond_true, hg, nbeq, hl, hs, hm.1, hl1, hs1, hm.2, hl2]
  | exit i => exact key _ _ k fun m hm => by simp only [aCall, aYield, nble, hfl, decide_true, cond_true, hg, nbeq, hl, hs, hm.1, hl1, hs1, hm.2, hl2]
end

/-! ## Weaker posts -/
section
variable {T : Tab} {fl : Nat}
theorem optK_mono {α : Type} {o : Option α} {K K' : α → Prop} (h : optK o K) (hk : ∀ x, K x → K' x) : optK o K' := by
  cases o with
  | none => exact h
  | some x => exact hk x h
theorem condK_mono {v : AVal} {A B A' B' : Prop} (h : condK v A B) (ha : A → A') (hb : B → B') : condK v A' B' := by
  rcases condK_spec h with ⟨rfl, h⟩ | ⟨rfl, h⟩
  · exact ha h
  · exact hb h
theorem guardK_mono {v : AVal} {w : Bool} {A B A' B' : Prop} (h : guardK v w A B) (ha : A → A') (hb : B → B') : guardK v w A' B' := by
  unfold guardK at h ⊢
  split
  · rename_i b
    simp only at h
    by_cases e : b = w
    · rw [if_pos e] at h ⊢; exact ha h
    · rw [if_neg e] at h ⊢; exact hb h
  · rename_i hb'
    split at h
    · rename_i b; exact absurd rfl (hb' b)
    · exact hb h
theorem wop_mono {ts : Tm} {h : AH} {op : AOp} {K K' : AVal → AH → Prop} (hw : wop T fl ts h op K) (hk : ∀ v h', K v h' → K' v h') : wop T fl ts h op K' := by
  cases op with
  | call f args => exact Cl.mono hw hk
  | dyn f args =>
    simp only [wop, dynK] at hw ⊢
    split at hw
    · exact hw.mono hk
    · exact hw.mono hk
    · exact hw.elim
  | _ =>
    simp only [wop] at hw ⊢
    exact optK_mono hw fun r => hk r.1 r.2
theorem wops_mono : ∀ {ops : List AOper} {ts : Tm} {h : AH} {K K' : Tm → AH → Prop}, wops T fl ops ts h K → (∀ ts h, K ts h → K' ts h) → wops T fl ops ts h K'
  | [], ts, h, K, K', hw, hk => hk ts h hw
  | o :: os, ts, h, K, K', hw, hk => by
    simp only [wops] at hw ⊢
    cases hg : o.guard with
    | none => rw [hg] at hw; exact wop_mono hw fun v h' x => wops_mono x hk
    | some g => rw [hg] at hw; exact guardK_mono hw (fun x => wop_mono x fun v h' x => wops_mono x hk) fun x => wops_mono x hk
theorem wopsD_mono : ∀ {ops : List AOperD} {ts : Tm} {h : AH} {K K' : Tm → AH → Prop}, wopsD T fl ops ts h K → (∀ ts h, K ts h → K' ts h) → wopsD T fl ops ts h K'
  | [], ts, h, K, K', hw, hk => hk ts h hw
  | o :: os, ts, h, K, K', hw, hk => by
    simp only [wopsD] at hw ⊢
    cases hg : o.o.guard with
    | none => rw [hg] at hw; exact ⟨hw.1, wop_mono hw.2 fun v h' x => wopsD_mono x hk⟩
    | some g => rw [hg] at hw; exact guardK_mono hw (fun x => ⟨x.1, wop_mono x.2 fun v h' x => wopsD_mono x hk⟩) fun x => wopsD_mono x hk
theorem seqK_mono {N N' : Tm → AH → Prop} {Q Q' : KE} (hn : ∀ ts h, N ts h → N' ts h) (hq : ∀ e ts h, Q e ts h → Q' e ts h) : ∀ e ts h, seqK N Q e ts h → seqK N' Q' e ts h
  | .norm, ts, h, x => hn ts h x
  | .ret, ts, h, x => hq .ret ts h x
  | .exit i, ts, h, x => hq (.exit i) ts h x
theorem wc_mono : ∀ {c : ACode} {ts : Tm} {h : AH} {Q Q' : KE}, wc T fl c ts h Q → (∀ e ts h, Q e ts h → Q' e ts h) → wc T fl c ts h Q'
  | .skip, ts, h, Q, Q', hw, hq => hq _ _ _ hw
  | .exit _, ts, h, Q, Q', hw, hq => hq _ _ _ hw
  | .ret, ts, h, Q, Q', hw, hq => hq _ _ _ hw
  | .region _, ts, h, Q, Q', hw, hq => wops_mono (ops := _) hw fun ts h => hq .norm ts h
  | .regionD _, ts, h, Q, Q', hw, hq => wopsD_mono (ops := _) hw fun ts h => hq .norm ts h
  | .seq a b, ts, h, Q, Q', hw, hq => wc_mono (c := a) hw (seqK_mono (fun ts h x => wc_mono (c := b) x hq) hq)
  | .cond c a b, ts, h, Q, Q', hw, hq => condK_mono hw (fun x => wc_mono (c := a) x hq) fun x => wc_mono (c := b) x hq
  | .block id b, ts, h, Q, Q', hw, hq => wc_mono (c := b) hw fun e ts h x => by
    cases e with
    | exit i =>
      simp only [blockK] at x ⊢
      by_cases hi : i = id
      · rw [if_pos hi] at x ⊢; exact hq _ _ _ x
      · rw [if_neg hi] at x ⊢; exact hq _ _ _ x
    | norm => exact hq _ _ _ x
    | ret => exact hq _ _ _ x
  | .loop b, ts, h, Q, Q', hw, hq => fun I hI => hw I fun ts h x => hI ts h (wc_mono (c := b) x (seqK_mono (fun _ _ x => x) hq))
  | .rangeFunc f ps a b, ts, h, Q, Q', hw, hq => by
    simp only [wc, rangeW] at hw ⊢
    split at hw
    case h_2 => exact hw.elim
    refine hw.mono fun v h' x => ?_
    unfold rangeK at x ⊢
    split at x
    case h_2 => exact x.elim
    rename_i l hl
    cases hs : l.state <;> rw [hs] at x <;> first | exact x.elim | (cases hp : l.pending <;> rw [hp] at x <;> exact hq _ _ _ x)

/-- A loop by what holds at the head of each round. -/
theorem wc_loop {b : ACode} {ts : Tm} {h : AH} {Q : KE} (Inv : Nat → Tm → AH → Prop) (k : Nat) (h0 : Inv k ts h)
    (hs : ∀ k ts h, Inv k ts h → wc T fl b ts h (seqK (fun ts' h' => ∃ j, j < k ∧ Inv j ts' h') Q)) : wc T fl (.loop b) ts h Q := by
  intro I hI
  have : ∀ k ts h, Inv k ts h → I ts h := by
    intro k
    induction k using Nat.strongRecOn with
    | _ k ih =>
      intro ts h hi
      exact hI ts h (wc_mono (hs k ts h hi) (seqK_mono (fun ts' h' ⟨j, hj, x⟩ => ih j hj ts' h' x) fun _ _ _ x => x))
  exact this k ts h h0
end
end Go.Proofs.YtndlfkibcelhmaaGreatDoor.Ai
end
section
/- Rules by which the simplifier runs the evaluator's code; views of the store. -/
namespace Go.Proofs.YtndlfkibcelhmaaGreatDoor.Ai
open Go
noncomputable section

/-! ## What the simplifier is not to enter: the rules of congruence below name what it may enter; their first premise always turns, so that no other rule is taken -/
def idn (n : Nat) : Nat := n
@[simp, go_sem] theorem idn_eq (n : Nat) : idn n = n := Eq.trans rfl rfl
section
variable (T : Tab) (fl : Nat)
def wS (c : ACode) (ts : Tm) (h : AH) (Q : KE) (_ : Nat) : Prop := wc T fl c ts h Q
def osS (os : List AOper) (ts : Tm) (h : AH) (K : Tm → AH → Prop) (_ : Nat) : Prop := wops T fl os ts h K
def odS (os : List AOperD) (ts : Tm) (h : AH) (K : Tm → AH → Prop) (_ : Nat) : Prop := wopsD T fl os ts h K
def oS (ts : Tm) (h : AH) (o : AOp) (K : AVal → AH → Prop) (_ : Nat) : Prop := wop T fl ts h o K
def ClS (f : FuncId) (args : List AVal) (h : AH) (K : AVal → AH → Prop) (_ : Nat) : Prop := Cl T fl f args h K
def YlS (id : Nat) (args : List AVal) (h : AH) (K : AVal → AH → Prop) (_ : Nat) : Prop := Yl T fl id args h K
def dynS (f : AVal) (args : List AVal) (h : AH) (K : AVal → AH → Prop) (_ : Nat) : Prop := dynK T fl f args h K
def rangeS (f : AVal) (ps : List Nat) (a b : ACode) (ts : Tm) (h : AH) (Q : KE) (_ : Nat) : Prop := rangeW T f ps a b fl ts h Q
end
def optS {α : Type} (o : Option α) (K : α → Prop) (_ : Nat) : Prop := optK o K
def condS (v : AVal) (A B : Prop) (_ : Nat) : Prop := condK v A B
def guardS (v : AVal) (w : Bool) (A B : Prop) (_ : Nat) : Prop := guardK v w A B
def apartS (b : Bool) (A : Prop) (_ : Nat) : Prop := b = true ∧ A

section
variable {T : Tab} {fl fl' n n' : Nat} {ts ts' : Tm} {h h' : AH}
@[congr] theorem wS_congr {c : ACode} {Q : KE} (e : idn n = n') (e1 : ts = ts') (e2 : h = h') : wS T fl c ts h Q n = wS T fl c ts' h' Q n' := by subst e1; subst e2; rfl
@[congr] theorem osS_congr {c : List AOper} {Q : Tm → AH → Prop} (e : idn n = n') (e1 : ts = ts') (e2 : h = h') : osS T fl c ts h Q n = osS T fl c ts' h' Q n' := by subst e1; subst e2; rfl
@[congr] theorem odS_congr {c : List AOperD} {Q : Tm → AH → Prop} (e : idn n = n') (e1 : ts = ts') (e2 : h = h') : odS T fl c ts h Q n = odS T fl c ts' h' Q n' := by subst e1; subst e2; rfl
@[congr] theorem oS_congr {c : AOp} {Q : AVal → AH → Prop} (e : idn n = n') (e0 : fl = fl') (e1 : ts = ts') (e2 : h = h') : oS T fl ts h c Q n = oS T fl' ts' h' c Q n' := by subst e0; subst e1; subst e2; rfl
@[congr] theorem ClS_congr {f : FuncId} {a a' : List AVal} {Q : AVal → AH → Prop} (e : idn n = n') (e0 : fl = fl') (e1 : a = a') (e2 : h = h') : ClS T fl f a h Q n = ClS T fl' f a' h' Q n' := by subst e0; subst e1; subst e2; rfl
@[congr] theorem YlS_congr {f f' : Nat} {a a' : List AVal} {Q : AVal → AH → Prop} (e : idn n = n') (e0 : fl = fl') (e3 : f = f') (e1 : a = a') (e2 : h = h') : YlS T fl f a h Q n = YlS T fl' f' a' h' Q n' := by subst e0; subst e1; subst e2; subst e3; rfl
@[congr] theorem dynS_congr {f f' : AVal} {a a' : List AVal} {Q : AVal → AH → Prop} (e : idn n = n') (e0 : fl = fl') (e3 : f = f') (e1 : a = a') (e2 : h = h') : dynS T fl f a h Q n = dynS T fl' f' a' h' Q n' := by subst e0; subst e1; subst e2; subst e3; rfl
@[congr] theorem rangeS_congr {f f' : AVal} {ps : List Nat} {x y : ACode} {Q : KE} (e : idn n = n') (e3 : f = f') (e1 : ts = ts') (e2 : h = h') : rangeS T fl f ps x y ts h Q n = rangeS T fl f' ps x y ts' h' Q n' := by subst e1; subst e2; subst e3; rfl
@[congr] theorem optS_congr {α : Type} {o o' : Option α} {K : α → Prop} (e : idn n = n') (e1 : o = o') : optS o K n = optS o' K n' := by subst e1; rfl
@[congr] theorem condS_congr {v v' : AVal} {A B : Prop} (e : idn n = n') (e1 : v = v') : condS v A B n = condS v' A B n' := by subst e1; rfl
@[congr] theorem guardS_congr {v v' : AVal} {w : Bool} {A B : Prop} (e : idn n = n') (e1 : v = v') : guardS v w A B n = guardS v' w A B n' := by subst e1; rfl
@[congr] theorem apartS_congr {b b' : Bool} {A : Prop} (e : idn n = n') (e1 : b = b') : apartS b A n = apartS b' A n' := by subst e1; rfl
end

section
variable {T : Tab} {fl : Nat}
theorem wS_of {c : ACode} {ts : Tm} {h : AH} {Q : KE} {t : Nat} (x : wS T fl c ts h Q t) : wc T fl c ts h Q := x
theorem ClS_of {f : FuncId} {args : List AVal} {h : AH} {K : AVal → AH → Prop} {t : Nat} (x : Cl T fl f args h K) : ClS T fl f args h K t := x
/-- At a call: by what is known of it. -/
theorem ClS.by {f : FuncId} {args : List AVal} {h : AH} {K Q : AVal → AH → Prop} {t : Nat} (x : Cl T fl f args h Q) (hk : ∀ v h', Q v h' → K v h') : ClS T fl f args h K t := x.mono hk
theorem YlS.by {f : Nat} {args : List AVal} {h : AH} {K Q : AVal → AH → Prop} {t : Nat} (x : Yl T fl f args h Q) (hk : ∀ v h', Q v h' → K v h') : YlS T fl f args h K t := x.mono hk
/-- A function, by its code. -/
theorem Cl.code {f : FuncId} {fn : AFunc} {args : List AVal} {h : AH} {Q : AVal → AH → Prop} (hp : T.prim f = none) (hf : T.fns.get f = some fn)
    (hw : wS T fl fn.body (tinit .leaf 0 args) h (endK fn.results Q) 0) : Cl T fl f args h Q := Cl.of hp hf hw
/-- A loop, by one round more. -/
theorem wS_unroll {b : ACode} {ts : Tm} {h : AH} {Q : KE} {t : Nat} (hw : wS T fl b ts h (seqK (fun ts' h' => wS T fl (.loop b) ts' h' Q 0) Q) 0) : wS T fl (.loop b) ts h Q t :=
  fun I hI => hI ts h (wc_mono hw (seqK_mono (fun _ _ x => x I hI) fun _ _ _ x => x))
/-- A loop, by what holds at the head of each round. -/
theorem wS_loop {b : ACode} {ts : Tm} {h : AH} {Q : KE} {t : Nat} (Inv : Nat → Tm → AH → Prop) (k : Nat) (h0 : Inv k ts h)
    (hs : ∀ k ts h, Inv k ts h → wS T fl b ts h (seqK (fun ts' h' => ∃ j, j < k ∧ Inv j ts' h') Q) 0) : wS T fl (.loop b) ts h Q t := wc_loop Inv k h0 hs

/-! ## Code -/
section
variable {ts : Tm} {h : AH} {Q : KE} {t : Nat}
@[simp, go_sem] theorem wS_skip : wS T fl .skip ts h Q t = Q .norm ts h := Eq.trans rfl rfl
@[simp, go_sem] theorem wS_exit {i : Nat} : wS T fl (.exit i) ts h Q t = Q (.exit i) ts h := Eq.trans rfl rfl
@[simp, go_sem] theorem wS_ret : wS T fl .ret ts h Q t = Q .ret ts h := Eq.trans rfl rfl
@[simp, go_sem] theorem wS_region {ops : List AOper} : wS T fl (.region ops) ts h Q t = osS T fl ops ts h (Q .norm) 0 := Eq.trans rfl rfl
@[simp, go_sem] theorem wS_regionD {ops : List AOperD} : wS T fl (.regionD ops) ts h Q t = odS T fl ops ts h (Q .norm) 0 := Eq.trans rfl rfl
@[simp, go_sem] theorem wS_seq {a b : ACode} : wS T fl (.seq a b) ts h Q t = wS T fl a ts h (seqK (fun ts' h' => wS T fl b ts' h' Q 0) Q) 0 := Eq.trans rfl rfl
@[simp, go_sem] theorem wS_cond {c : AOpd} {a b : ACode} : wS T fl (.cond c a b) ts h Q t = condS (ev ts c) (wS T fl a ts h Q 0) (wS T fl b ts h Q 0) 0 := Eq.trans rfl rfl
@[simp, go_sem] theorem wS_block {i : Nat} {b : ACode} : wS T fl (.block i b) ts h Q t = wS T fl b ts h (blockK i Q) 0 := Eq.trans rfl rfl
@[simp, go_sem] theorem wS_rangeFunc {f : AOpd} {ps : List Nat} {a b : ACode} : wS T fl (.rangeFunc f ps a b) ts h Q t = rangeS T fl (ev ts f) ps a b ts h Q 0 := Eq.trans rfl rfl
@[simp ↓, go_sem ↓] theorem seqK_norm {N : Tm → AH → Prop} : seqK N Q .norm ts h = N ts h := Eq.trans rfl rfl
@[simp ↓, go_sem ↓] theorem seqK_ret {N : Tm → AH → Prop} : seqK N Q .ret ts h = Q .ret ts h := Eq.trans rfl rfl
@[simp ↓, go_sem ↓] theorem seqK_exit {N : Tm → AH → Prop} {i : Nat} : seqK N Q (.exit i) ts h = Q (.exit i) ts h := Eq.trans rfl rfl
@[simp ↓, go_sem ↓] theorem blockK_norm {j : Nat} : blockK j Q .norm ts h = Q .norm ts h := Eq.trans rfl rfl
@[simp ↓, go_sem ↓] theorem blockK_ret {j : Nat} : blockK j Q .ret ts h = Q .ret ts h := Eq.trans rfl rfl
@[simp ↓, go_sem ↓] theorem blockK_exit {i j : Nat} : blockK j Q (.exit i) ts h = if i = j then Q .norm ts h else Q (.exit i) ts h := Eq.trans rfl rfl
@[simp ↓, go_sem ↓] theorem endK_norm {rs : List AResVar} {Q : AVal → AH → Prop} : endK rs Q .norm ts h = optS (aResults ts h rs) (fun vs => Q (oneOf vs) h) 0 := Eq.trans rfl rfl
@[simp ↓, go_sem ↓] theorem endK_ret {rs : List AResVar} {Q : AVal → AH → Prop} : endK rs Q .ret ts h = optS (aResults ts h rs) (fun vs => Q (oneOf vs) h) 0 := Eq.trans rfl rfl
@[simp, go_sem] theorem rangeS_func {g : FuncId} {a c : List AVal} {ps : List Nat} {x y : ACode} : rangeS T fl (.func g a c) ps x y ts h Q t =
    ClS T fl g (a ++ .yld h.n :: c) (h.push (.loop { state := .ready, pending := .none, tmps := ts, params := ps, assign := x, body := y })) (rangeK h.n ts Q) 0 := Eq.trans rfl rfl
end
@[simp ↓, go_sem ↓] theorem condS_true {A B : Prop} {t : Nat} : condS (.bool true) A B t = A := Eq.trans rfl rfl
@[simp ↓, go_sem ↓] theorem condS_false {A B : Prop} {t : Nat} : condS (.bool false) A B t = B := Eq.trans rfl rfl
/-- A condition that is not known: both ways, each with what it knows (for the simplifier with 'contextual'). -/
theorem condS_bool {b : Bool} {A B : Prop} {t : Nat} : condS (.bool b) A B t = ((b = true → A) ∧ (b = false → B)) := by
  cases b <;> simp [condS, condK]
theorem condS_dec {p : Prop} [Decidable p] {A B : Prop} {t : Nat} (h1 : p → A) (h2 : ¬ p → B) : condS (.bool (decide p)) A B t := by
  rw [condS_bool]; simp only [decide_eq_true_eq, decide_eq_false_iff_not]; exact ⟨h1, h2⟩
@[simp, go_sem] theorem condS_not {b : Bool} {A B : Prop} {t : Nat} : condS (.bool (!b)) A B t = condS (.bool b) B A 0 := by cases b <;> rfl
@[simp, go_sem] theorem condS_and {a b : Bool} {A B : Prop} {t : Nat} : condS (.bool (a && b)) A B t = condS (.bool a) (condS (.bool b) A B 0) B 0 := by cases a <;> cases b <;> rfl
@[simp, go_sem] theorem condS_or {a b : Bool} {A B : Prop} {t : Nat} : condS (.bool (a || b)) A B t = condS (.bool a) A (condS (.bool b) A B 0) 0 := by cases a <;> cases b <;> rfl
theorem condS_pick {p : Prop} [Decidable p] {A B : Prop} {t : Nat} (h : ∀ b, decide p = b → condS (.bool (decide p)) A B t) : condS (.bool (decide p)) A B t := h _ rfl
theorem condS_cases {b : Bool} {A B : Prop} {t : Nat} (h1 : b = true → A) (h2 : b = false → B) : condS (.bool b) A B t := by rw [condS_bool]; exact ⟨h1, h2⟩
@[simp ↓, go_sem ↓] theorem guardS_undef {w : Bool} {A B : Prop} {t : Nat} : guardS undefA w A B t = B := Eq.trans rfl rfl
@[simp, go_sem] theorem guardS_t {b : Bool} {A B : Prop} {t : Nat} : guardS (.bool b) true A B t = condS (.bool b) A B 0 := by cases b <;> rfl
@[simp, go_sem] theorem guardS_f {b : Bool} {A B : Prop} {t : Nat} : guardS (.bool b) false A B t = condS (.bool b) B A 0 := by cases b <;> rfl
@[simp, go_sem] theorem optS_some {α : Type} {x : α} {K : α → Prop} {t : Nat} : optS (some x) K t = K x := Eq.trans rfl rfl
@[simp, go_sem] theorem optS_ite {α : Type} {c : Prop} [Decidable c] {x : α} {K : α → Prop} {t : Nat} : optS (if c then some x else none) K t = (c ∧ K x) := by
  by_cases hc : c <;> simp [hc, optS, optK]
@[simp, go_sem] theorem dynS_func {g : FuncId} {a c args : List AVal} {h : AH} {K : AVal → AH → Prop} {t : Nat} : dynS T fl (.func g a c) args h K t = ClS T fl g (a ++ args ++ c) h K 0 := Eq.trans rfl rfl
@[simp, go_sem] theorem dynS_yld {id : Nat} {args : List AVal} {h : AH} {K : AVal → AH → Prop} {t : Nat} : dynS T fl (.yld id) args h K t = YlS T fl id args h K 0 := Eq.trans rfl rfl

/-! ## Regions -/
section
variable {ts : Tm} {h : AH} {K : Tm → AH → Prop} {t : Nat}
@[simp, go_sem] theorem osS_nil : osS T fl [] ts h K t = K ts h := Eq.trans rfl rfl
@[simp, go_sem] theorem osS_cons {d : Option Nat} {op : AOp} {os : List AOper} : osS T fl (⟨d, op, none⟩ :: os) ts h K t = oS T fl ts h op (fun v h' => osS T fl os (setT ts d v) h' K 0) 0 := Eq.trans rfl rfl
@[simp, go_sem] theorem osS_oo {d : Nat} {op : AOp} {os : List AOper} : osS T fl (oo d op :: os) ts h K t = oS T fl ts h op (fun v h' => osS T fl os (Tr.set ts d v) h' K 0) 0 := Eq.trans rfl rfl
@[simp, go_sem] theorem osS_om {d s : Nat} {os : List AOper} : osS T fl (om d s :: os) ts h K t = osS T fl os (Tr.set ts d (tg ts s)) h K 0 := Eq.trans rfl rfl
@[simp, go_sem] theorem osS_consg {d : Option Nat} {op : AOp} {i : Nat} {w : Bool} {os : List AOper} :
    osS T fl (⟨d, op, some (i, w)⟩ :: os) ts h K t = guardS (tg ts i) w (oS T fl ts h op (fun v h' => osS T fl os (setT ts d v) h' K 0) 0) (osS T fl os (setT ts d undefA) h K 0) 0 := Eq.trans rfl rfl
@[simp, go_sem] theorem apartS_true {A : Prop} {t : Nat} : apartS true A t = A := by simp [apartS]
@[simp, go_sem] theorem odS_nil : odS T fl [] ts h K t = K ts h := Eq.trans rfl rfl
@[simp, go_sem] theorem odS_cons {d : Option Nat} {op : AOp} {s : Bool} {os : List AOperD} : odS T fl (⟨⟨d, op, none⟩, s, []⟩ :: os) ts h K t = oS T (bif s then h.n else fl) ts h op (fun v h' => odS T fl os (setT ts d v) h' K 0) 0 := by
  show (apartA _ _ [] = true ∧ _) = _
  simp only [apartA, true_and]
  rfl
@[simp, go_sem] theorem odS_oq {d : Nat} {op : AOp} {os : List AOperD} : odS T fl (oq d op :: os) ts h K t = oS T fl ts h op (fun v h' => odS T fl os (Tr.set ts d v) h' K 0) 0 := by
  rw [show oq d op = ⟨⟨some d, op, none⟩, false, []⟩ from rfl, odS_cons]; rfl
@[simp, go_sem] theorem odS_qm {d s : Nat} {os : List AOperD} : odS T fl (qm d s :: os) ts h K t = odS T fl os (Tr.set ts d (tg ts s)) h K 0 := by
  rw [show qm d s = oq d (.mv (.t s)) from rfl, odS_oq]; rfl
@[simp, go_sem] theorem odS_consa {d : Option Nat} {op : AOp} {s : Bool} {x : AOpd} {xs : List AOpd} {os : List AOperD} :
    odS T fl (⟨⟨d, op, none⟩, s, x :: xs⟩ :: os) ts h K t = apartS (apartA ts ((placeOf op).bind fun x => addrId (ev ts x)) (x :: xs)) (oS T (bif s then h.n else fl) ts h op (fun v h' => odS T fl os (setT ts d v) h' K 0) 0) 0 := Eq.trans rfl rfl
@[simp, go_sem] theorem odS_consg {d : Option Nat} {op : AOp} {i : Nat} {w : Bool} {s : Bool} {os : List AOperD} :
    odS T fl (⟨⟨d, op, some (i, w)⟩, s, []⟩ :: os) ts h K t = guardS (tg ts i) w (oS T (bif s then h.n else fl) ts h op (fun v h' => odS T fl os (setT ts d v) h' K 0) 0) (odS T fl os (setT ts d undefA) h K 0) 0 := by
  show guardK _ _ (apartA _ _ [] = true ∧ _) _ = _
  simp only [apartA, true_and]
  rfl
@[simp, go_sem] theorem odS_consga {d : Option Nat} {op : AOp} {i : Nat} {w : Bool} {s : Bool} {x : AOpd} {xs : List AOpd} {os : List AOperD} :
    odS T fl (⟨⟨d, op, some (i, w)⟩, s, x :: xs⟩ :: os) ts h K t = guardS (tg ts i) w (apartS (apartA ts ((placeOf op).bind fun x => addrId (ev ts x)) (x :: xs)) (oS T (bif s then h.n else fl) ts h op (fun v h' => odS T fl os (setT ts d v) h' K 0) 0) 0)
      (odS T fl os (setT ts d undefA) h K 0) 0 := Eq.trans rfl rfl
end

/-! ## Operations -/
section
variable {ts : Tm} {h : AH} {K : AVal → AH → Prop} {t : Nat}
@[simp, go_sem] theorem wop_mv {x : AOpd} : oS T fl ts h (.mv x) K t = K (ev ts x) h := Eq.trans rfl rfl
@[simp, go_sem] theorem wop_pick {c a b : AOpd} : oS T fl ts h (.pick c a b) K t = condS (ev ts c) (K (ev ts a) h) (K (ev ts b) h) 0 := by
  simp only [oS, optS, condS, wop, aOp]
  generalize ev ts c = v
  cases v <;> first | rfl | (rename_i b; cases b <;> rfl)
@[simp, go_sem] theorem wop_alloc {zs : List AVal} : oS T fl ts h (.alloc zs) K t = K (.ptr h.n 0) (h.push (.cells zs)) := Eq.trans rfl rfl
@[simp, go_sem] theorem wop_box {x : AOpd} : oS T fl ts h (.box x) K t = K (.ptr h.n 0) (h.push (.cells (ev ts x).cells)) := Eq.trans rfl rfl
theorem optK_map {α β : Type} {o : Option α} {f : α → β} {k : β → Prop} : optK (o.map f) k = optK o fun x => k (f x) := by cases o <;> rfl
@[simp, go_sem] theorem wop_build {zs : List AVal} {ps : List (Nat × Nat × AOpd)} : oS T fl ts h (.build zs ps) K t = optS (fillA zs (evParts ts ps)) (fun cs => K (.agg cs) h) 0 := optK_map
@[simp, go_sem] theorem wop_buildSl {es len : Nat} {zs : List AVal} {ps : List (Nat × Nat × AOpd)} (hl : len ≠ 0) : oS T fl ts h (.buildSl es len zs ps) K t = optS (fillA zs (evParts ts ps)) (fun cs => K (.sl h.n 0 len es) (h.push (.cells cs))) 0 := by
  simp only [oS, optS, condS, wop, aOp, nbeq, hl, decide_false, cond_false]
  exact optK_map
@[simp, go_sem] theorem wop_buildSl0 {es : Nat} {zs : List AVal} : oS T fl ts h (.buildSl es 0 zs []) K t = K .slz h := Eq.trans rfl rfl
@[simp, go_sem] theorem wop_load {n : Nat} {g : Bool} {a : AOpd} : oS T fl ts h (.load n g a) K t = optS (loadA h (ev ts a) n g) (fun v => K v h) 0 := optK_map
@[simp, go_sem] theorem wop_store {n : Nat} {a x : AOpd} : oS T fl ts h (.store n a x) K t = optS (storeA fl h (ev ts a) n (ev ts x)) (fun h' => K undefA h') 0 := optK_map
def nilA : AVal → Option AVal
  | .nilptr | .niliface | .nilfunc => none
  | v => some v
@[simp, go_sem] theorem nilA_ptr {i o : Nat} : nilA (.ptr i o) = some (.ptr i o) := Eq.trans rfl rfl
@[simp, go_sem] theorem wop_nilChk {x : AOpd} : oS T fl ts h (.nilChk x) K t = optS (nilA (ev ts x)) (fun v => K v h) 0 := by
  simp only [oS, optS, condS, wop, aOp, nilA]
  generalize ev ts x = v
  cases v <;> rfl
@[simp, go_sem] theorem wop_bin {op : BinOp} {k : BinK} {x y : AOpd} : oS T fl ts h (.bin op k x y) K t = optS (binA op k (ev ts x) (ev ts y)) (fun v => K v h) 0 := optK_map
@[simp, go_sem] theorem wop_un {op : UnOp} {x : AOpd} : oS T fl ts h (.un op x) K t = optS (unA op (ev ts x)) (fun v => K v h) 0 := optK_map
@[simp, go_sem] theorem wop_conv {c : ConvK} {x : AOpd} : oS T fl ts h (.conv c x) K t = optS (convA c h (ev ts x)) (fun r => K r.1 r.2) 0 := Eq.trans rfl rfl
@[simp, go_sem] theorem wop_mkIface {ty : TypeId} {x : AOpd} : oS T fl ts h (.mkIface ty x) K t = K (.iface ty (ev ts x)) h := Eq.trans rfl rfl
@[simp, go_sem] theorem wop_mkFunc {f : FuncId} {a c : List AOpd} : oS T fl ts h (.mkFunc f a c) K t = K (.func f (evs ts a) (evs ts c)) h := Eq.trans rfl rfl
@[simp, go_sem] theorem wop_mkMap : oS T fl ts h .mkMap K t = K (.map h.n) (h.push (.map [])) := Eq.trans rfl rfl
def mkSlA (h : AH) (es bytes : Nat) (z : List AVal) (len cap : AVal) : Option (AVal × AH) :=
  match natOf len, natOf cap with
  | some l, some c => bif Nat.ble l c && Nat.ble (c * (bytes + 1)) maxRow then some (.sl h.n 0 l es, h.push (.cells (rep l z))) else none
  | _, _ => none
@[simp, go_sem] theorem wop_mkSl {es b : Nat} {z : List AVal} {l c : AOpd} : oS T fl ts h (.mkSl es b z l c) K t = optS (mkSlA h es b z (ev ts l) (ev ts c)) (fun r => K r.1 r.2) 0 := Eq.trans rfl rfl
@[simp, go_sem] theorem wop_slice {k : SlK} {x : AOpd} {lo hi mx : Option AOpd} : oS T fl ts h (.slice k x lo hi mx) K t = optS (sliceA k h (ev ts x) (lo.map (ev ts)) (hi.map (ev ts)) (mx.map (ev ts))) (fun v => K v h) 0 := optK_map
def fieldAddrA (off : Nat) : AVal → Option AVal
  | .ptr id o => some (.ptr id (o + off))
  | _ => none
@[simp, go_sem] theorem fieldAddrA_ptr {id o off : Nat} : fieldAddrA off (.ptr id o) = some (.ptr id (o + off)) := Eq.trans rfl rfl
theorem forceN_eq' {α : Type} (n : Nat) (f : Nat → α) : forceN n f = f n := by cases n <;> rfl
@[simp, go_sem] theorem wop_fieldAddr {off : Nat} {x : AOpd} : oS T fl ts h (.fieldAddr off x) K t = optS (fieldAddrA off (ev ts x)) (fun v => K v h) 0 := by
  simp only [oS, optS, condS, wop, aOp, forceN_eq', fieldAddrA]
  generalize ev ts x = v
  cases v <;> rfl
def fieldA (off n : Nat) (agg : Bool) : AVal → Option AVal
  | .agg cs => bif agg then (bif leLen (Nat.add off n) cs then some (.agg (sub cs off n)) else none) else getN cs off
  | _ => none
@[simp, go_sem] theorem wop_field {off n : Nat} {g : Bool} {x : AOpd} : oS T fl ts h (.field off n g x) K t = optS (fieldA off n g (ev ts x)) (fun v => K v h) 0 := by
  simp only [oS, optS, condS, wop, aOp, fieldA]
  generalize ev ts x = v
  cases v <;> first | rfl | skip
  rename_i cs
  cases g
  · exact optK_map
  · simp only [cond_true]; cases leLen (off.add n) cs <;> rfl
def indexAddrA (k : IxK) (x i : AVal) : Option AVal :=
  match k, x, natOf i with
  | .arr n es, .ptr id off, some j => if j < n then some (.ptr id (off + j * es)) else none
  | .sl es, .sl id off len _, some j => if j < len then some (.ptr id (off + j * es)) else none
  | _, _, _ => none
@[simp, go_sem] theorem wop_indexAddr {k : IxK} {x i : AOpd} : oS T fl ts h (.indexAddr k x i) K t = optS (indexAddrA k (ev ts x) (ev ts i)) (fun v => K v h) 0 := by
  simp only [oS, optS, condS, wop, aOp, forceN_eq', indexAddrA]
  generalize ev ts x = v
  generalize natOf (ev ts i) = j
  cases k <;> cases v <;> cases j <;> first | rfl | skip
  · rename_i n es id off j
    simp only [nblt]
    by_cases hj : j < n <;> simp [hj, optK]
  · rename_i n id off len _ j
    simp only [nblt]
    by_cases hj : j < len <;> simp [hj, optK]
def indexA (k : IdxK) (x i : AVal) : Option AVal :=
  match k, x, natOf i with
  | .str, .str s, some j => (getN s j).map fun b : Nat => .int .u8 b
  | .arr n es agg, .agg cs, some j => if j < n then (bif agg then (bif leLen (Nat.add (Nat.mul j es) es) cs then some (.agg (sub cs (j * es) es)) else none) else getN cs (j * es)) else none
  | _, _, _ => none
@[simp, go_sem] theorem wop_index {k : IdxK} {x i : AOpd} : oS T fl ts h (.index k x i) K t = optS (indexA k (ev ts x) (ev ts i)) (fun v => K v h) 0 := by
  simp only [oS, optS, condS, wop, aOp, indexA]
  generalize ev ts x = v
  generalize natOf (ev ts i) = j
  cases k <;> cases v <;> cases j <;> first | rfl | skip
  · rename_i s j
    simp only
    cases getN s j <;> rfl
  · rename_i n es g cs j
    simp only [nblt]
    by_cases hj : j < n
    · simp only [hj, decide_true, cond_true, if_true]
      cases g
      · exact optK_map
      · simp only [cond_true]; cases leLen ((j.mul es).add es) cs <;> rfl
    · simp [hj, optK]
@[simp, go_sem] theorem wop_lookup {sh : Sh} {z : AVal} {ok : Bool} {m k : AOpd} : oS T fl ts h (.lookup sh z ok m k) K t = optS (lookupA sh z ok h (ev ts m) (ev ts k)) (fun v => K v h) 0 := optK_map
@[simp, go_sem] theorem wop_mapUpd {sh : Sh} {m k v : AOpd} : oS T fl ts h (.mapUpd sh m k v) K t = optS (mapUpdA fl sh h (ev ts m) (ev ts k) (ev ts v)) (fun h' => K undefA h') 0 := optK_map
def rangeA (h : AH) : AVal → Option (AVal × AH)
  | .str s => some (.ptr h.n 0, h.push (.siter s 0))
  | _ => none
@[simp, go_sem] theorem rangeA_str {s : List Nat} : rangeA h (.str s) = some (.ptr h.n 0, h.push (.siter s 0)) := Eq.trans rfl rfl
@[simp, go_sem] theorem wop_range {x : AOpd} : oS T fl ts h (.range x) K t = optS (rangeA h (ev ts x)) (fun r => K r.1 r.2) 0 := by
  simp only [oS, optS, condS, wop, aOp, rangeA]
  generalize ev ts x = v
  cases v <;> rfl
def extractA (i : Nat) : AVal → Option AVal
  | .tuple vs => getN vs i
  | _ => none
@[simp, go_sem] theorem wop_extract {i : Nat} {x : AOpd} : oS T fl ts h (.extract i x) K t = optS (extractA i (ev ts x)) (fun v => K v h) 0 := by
  simp only [oS, optS, condS, wop, aOp, extractA]
  generalize ev ts x = v
  cases v <;> first | rfl | exact optK_map
@[simp, go_sem] theorem wop_call {f : FuncId} {args : List AOpd} : oS T fl ts h (.call f args) K t = ClS T fl f (evs ts args) h K 0 := Eq.trans rfl rfl
@[simp, go_sem] theorem wop_dyn {f : AOpd} {args : List AOpd} : oS T fl ts h (.dyn f args) K t = dynS T fl (ev ts f) (evs ts args) h K 0 := Eq.trans rfl rfl
/-- Appending a row. -/
def appendV (fl : Nat) (h : AH) (es bytes : Nat) (s x : AVal) : Option (AVal × AH) :=
  match lenOfA x, rowOf h es x with
  | some n, some new => appendA fl h es bytes s n new
  | _, _ => none
/-- Appending zeros. -/
def appendZ (fl : Nat) (h : AH) (es bytes : Nat) (z : List AVal) (s x : AVal) : Option (AVal × AH) :=
  match natOf x with
  | some n => bif Nat.ble (n * (bytes + 1)) maxRow then appendA fl h es bytes s n (rep n z) else none
  | none => none
@[simp, go_sem] theorem wop_append {es b : Nat} {s x : AOpd} : oS T fl ts h (.append es b none s x) K t = optS (appendV fl h es b (ev ts s) (ev ts x)) (fun r => K r.1 r.2) 0 := Eq.trans rfl rfl
@[simp, go_sem] theorem wop_appendZ {es b : Nat} {z : List AVal} {s x : AOpd} : oS T fl ts h (.append es b (some z) s x) K t = optS (appendZ fl h es b z (ev ts s) (ev ts x)) (fun r => K r.1 r.2) 0 := Eq.trans rfl rfl
@[simp, go_sem] theorem wop_len {k : LenK} {x : AOpd} : oS T fl ts h (.len k x) K t = optS (lenA k h (ev ts x)) (fun v => K v h) 0 := optK_map
@[simp, go_sem] theorem wop_copy {es : Nat} {d s : AOpd} : oS T fl ts h (.copy es d s) K t = optS (aOp E0 fl (Tr.set (Tr.set .leaf 0 (ev ts d)) 1 (ev ts s)) h (.copy es (.t 0) (.t 1))) (fun r => K r.1 r.2) 0 := by
  simp only [oS, optS, condS, wop]
  congr 1
def minA (x y : AVal) : Option AVal :=
  match x, y with
  | .int k a, .int k' b => bif eqK k k' then some (.int k (bif ltI b a then b else a)) else none
  | _, _ => none
def maxA (x y : AVal) : Option AVal :=
  match x, y with
  | .int k a, .int k' b => bif eqK k k' then some (.int k (bif ltI a b then b else a)) else none
  | _, _ => none
@[simp, go_sem] theorem wop_min {x y : AOpd} : oS T fl ts h (.min x y) K t = optS (minA (ev ts x) (ev ts y)) (fun v => K v h) 0 := by
  simp only [oS, optS, condS, wop, aOp, minA]
  generalize ev ts x = v
  generalize ev ts y = u
  cases v <;> cases u <;> first | rfl | skip
  simp only
  cases eqK _ _ <;> rfl
@[simp, go_sem] theorem wop_max {x y : AOpd} : oS T fl ts h (.max x y) K t = optS (maxA (ev ts x) (ev ts y)) (fun v => K v h) 0 := by
  simp only [oS, optS, condS, wop, aOp, maxA]
  generalize ev ts x = v
  generalize ev ts y = u
  cases v <;> cases u <;> first | rfl | skip
  simp only
  cases eqK _ _ <;> rfl
end
/-! ## Ranges over functions -/
def assignC (T : Tab) (fl id : Nat) (body : ACode) (Q : AVal → AH → Prop) (ts : Tm) (h : AH) (o : Option AObj) (_ : Nat) : Prop :=
  match o with
  | some (.loop l) => match l.state with
    | .ready => wc T fl body ts (h.set id (.loop { l with state := .busy })) (roundK id Q)
    | _ => False
  | _ => False
def roundC (id : Nat) (Q : AVal → AH → Prop) (e : AExit) (h : AH) (o : Option AObj) (_ : Nat) : Prop :=
  match o with
  | some (.loop l) =>
    match e with
    | .norm => Q (.bool true) (h.set id (.loop { l with state := .ready, pending := .none }))
    | .ret => Q (.bool false) (h.set id (.loop { l with state := .done, pending := .ret }))
    | .exit x => Q (.bool false) (h.set id (.loop { l with state := .done, pending := .exit x }))
  | _ => False
def rangeC (id : Nat) (ts : Tm) (Q : KE) (h : AH) (o : Option AObj) (_ : Nat) : Prop :=
  match o with
  | some (.loop l) =>
    match l.state with
    | .busy => False
    | _ => match l.pending with
      | .none => Q .norm ts (h.set id (.loop { l with state := .exhausted }))
      | .ret => Q .ret ts (h.set id (.loop { l with state := .exhausted }))
      | .exit i => Q (.exit i) ts (h.set id (.loop { l with state := .exhausted }))
  | _ => False
section
variable {T : Tab} {fl fl' id n n' : Nat} {ts ts' : Tm} {h h' : AH} {o o' : Option AObj}
@[congr] theorem assignC_congr {body : ACode} {Q : AVal → AH → Prop} (e : idn n = n') (e1 : ts = ts') (e2 : h = h') (e3 : o = o') : assignC T fl id body Q ts h o n = assignC T fl id body Q ts' h' o' n' := by subst e1; subst e2; subst e3; rfl
@[congr] theorem roundC_congr {Q : AVal → AH → Prop} {x : AExit} (e : idn n = n') (e2 : h = h') (e3 : o = o') : roundC id Q x h o n = roundC id Q x h' o' n' := by subst e2; subst e3; rfl
@[congr] theorem rangeC_congr {Q : KE} (e : idn n = n') (e1 : ts = ts') (e2 : h = h') (e3 : o = o') : rangeC id ts Q h o n = rangeC id ts' Q h' o' n' := by subst e1; subst e2; subst e3; rfl
@[simp ↓, go_sem ↓] theorem assignK_norm {body : ACode} {Q : AVal → AH → Prop} : assignK T fl id body Q .norm ts h = assignC T fl id body Q ts h (h.get id) 0 := Eq.trans rfl rfl
@[simp ↓, go_sem ↓] theorem roundK_eq {Q : AVal → AH → Prop} {e : AExit} : roundK id Q e ts h = roundC id Q e h (h.get id) 0 := Eq.trans rfl rfl
@[simp ↓, go_sem ↓] theorem rangeK_eq {Q : KE} {v : AVal} : rangeK id ts Q v h = rangeC id ts Q h (h.get id) 0 := Eq.trans rfl rfl
@[simp, go_sem] theorem assignC_ready {body : ACode} {Q : AVal → AH → Prop} {pd : APend} {tm : Tm} {ps : List Nat} {a b : ACode} : assignC T fl id body Q ts h (some (.loop ⟨.ready, pd, tm, ps, a, b⟩)) n = wS T fl body ts (h.set id (.loop ⟨.busy, pd, tm, ps, a, b⟩)) (roundK id Q) 0 := Eq.trans rfl rfl
@[simp, go_sem] theorem roundC_norm {Q : AVal → AH → Prop} {st : LoopState} {pd : APend} {tm : Tm} {ps : List Nat} {a b : ACode} : roundC id Q .norm h (some (.loop ⟨st, pd, tm, ps, a, b⟩)) n = Q (.bool true) (h.set id (.loop ⟨.ready, .none, tm, ps, a, b⟩)) := Eq.trans rfl rfl
@[simp, go_sem] theorem roundC_ret {Q : AVal → AH → Prop} {st : LoopState} {pd : APend} {tm : Tm} {ps : List Nat} {a b : ACode} : roundC id Q .ret h (some (.loop ⟨st, pd, tm, ps, a, b⟩)) n = Q (.bool false) (h.set id (.loop ⟨.done, .ret, tm, ps, a, b⟩)) := Eq.trans rfl rfl
@[simp, go_sem] theorem roundC_exit {Q : AVal → AH → Prop} {i : Nat} {st : LoopState} {pd : APend} {tm : Tm} {ps : List Nat} {a b : ACode} : roundC id Q (.exit i) h (some (.loop ⟨st, pd, tm, ps, a, b⟩)) n = Q (.bool false) (h.set id (.loop ⟨.done, .exit i, tm, ps, a, b⟩)) := Eq.trans rfl rfl
@[simp, go_sem] theorem rangeC_none {Q : KE} {tm : Tm} {ps : List Nat} {a b : ACode} : rangeC id ts Q h (some (.loop ⟨.ready, .none, tm, ps, a, b⟩)) n = Q .norm ts (h.set id (.loop ⟨.exhausted, .none, tm, ps, a, b⟩)) := Eq.trans rfl rfl
theorem Yl.code {args : List AVal} {Q : AVal → AH → Prop} {pd : APend} {tm : Tm} {ps : List Nat} {a b : ACode} (hfl : fl ≤ id) (hg : h.get id = some (.loop ⟨.ready, pd, tm, ps, a, b⟩)) (hl : ps.length = args.length)
    (hw : wS T fl a (setTs tm ps args) h (assignK T fl id b Q) 0) : Yl T fl id args h Q := Yl.round hfl hg rfl hl hw
end
attribute [irreducible] assignC roundC rangeC
attribute [irreducible] wS osS odS oS ClS YlS dynS rangeS optS condS guardS apartS
end
end
end Go.Proofs.YtndlfkibcelhmaaGreatDoor.Ai
end
section
/- Rules on values and on the store, for the simplifier; views of slices. -/
namespace Go.Proofs.YtndlfkibcelhmaaGreatDoor.Ai
open Go
noncomputable section

attribute [go_sem] ite_true ite_false decide_true decide_false Bool.not_true Bool.not_false Bool.true_and Bool.and_true Bool.false_and Bool.and_false Bool.true_or Bool.or_true Bool.false_or Bool.or_false and_true true_and and_false false_and or_true true_or or_false false_or
  eq_self not_true_eq_false not_false_eq_true ne_eq List.length_cons List.length_nil List.cons_append List.nil_append List.append_nil List.take_succ_cons List.take_zero List.take_nil List.drop_succ_cons List.drop_zero List.drop_nil
  List.getElem?_cons_zero List.getElem?_cons_succ List.getElem?_nil Option.bind_some Option.map_some Option.bind_none Option.map_none Nat.add_zero Nat.zero_add cond_true cond_false Nat.le_refl Int.toNat_natCast imp_self forall_const
  implies_true beq_self_eq_true Nat.zero_le Nat.zero_mul Nat.mul_one Nat.one_mul Option.some.injEq AVal.int.injEq AVal.bool.injEq AVal.str.injEq AVal.ptr.injEq AVal.sl.injEq AVal.agg.injEq AVal.tuple.injEq List.cons.injEq Int.natCast_add Int.natCast_one

/-! ## Temporaries -/
@[simp, go_sem] theorem tg_set' (ts : Tm) (i j : Nat) (v : AVal) : tg (Tr.set ts i v) j = if j = i then v else tg ts j := by
  unfold tg; rw [Tr.get_set]
  by_cases e : j = i
  · simp [e]
  · simp [e]
@[simp high, go_sem high] theorem tg_hit (ts : Tm) (i : Nat) (v : AVal) : tg (Tr.set ts i v) i = v := by rw [tg_set', if_pos rfl]
@[simp, go_sem] theorem tg_leaf (j : Nat) : tg .leaf j = undefA := Eq.trans rfl rfl
@[simp, go_sem] theorem ev_t (ts : Tm) (n : Nat) : ev ts (.t n) = tg ts n := Eq.trans rfl rfl
@[simp, go_sem] theorem ev_c (ts : Tm) (v : AVal) : ev ts (.c v) = v := Eq.trans rfl rfl
@[simp, go_sem] theorem ev_ci (ts : Tm) (n : Int) : ev ts (ci n) = .int .i64 n := Eq.trans rfl rfl
@[simp, go_sem] theorem ev_g (ts : Tm) (n : Nat) : ev ts (.g n) = .ptr n 0 := Eq.trans rfl rfl
@[simp, go_sem] theorem ev_f (ts : Tm) (n : Nat) : ev ts (.f n) = .func n [] [] := Eq.trans rfl rfl
@[simp, go_sem] theorem evs_nil (ts : Tm) : evs ts [] = [] := Eq.trans rfl rfl
@[simp, go_sem] theorem evs_cons (ts : Tm) (x : AOpd) (xs : List AOpd) : evs ts (x :: xs) = ev ts x :: evs ts xs := Eq.trans rfl rfl
@[simp, go_sem] theorem evParts_nil (ts : Tm) : evParts ts [] = [] := Eq.trans rfl rfl
@[simp, go_sem] theorem evParts_cons (ts : Tm) (a b : Nat) (x : AOpd) (xs : List (Nat × Nat × AOpd)) : evParts ts ((a, b, x) :: xs) = (a, b, ev ts x) :: evParts ts xs := Eq.trans rfl rfl
@[simp, go_sem] theorem setT_some (ts : Tm) (d : Nat) (v : AVal) : setT ts (some d) v = Tr.set ts d v := Eq.trans rfl rfl
@[simp, go_sem] theorem setT_none (ts : Tm) (v : AVal) : setT ts none v = ts := Eq.trans rfl rfl
@[simp, go_sem] theorem tinit_nil (ts : Tm) (i : Nat) : tinit ts i [] = ts := Eq.trans rfl rfl
@[simp, go_sem] theorem tinit_cons (ts : Tm) (i : Nat) (a : AVal) (as1 : List AVal) : tinit ts i (a :: as1) = tinit (Tr.set ts i a) (i + 1) as1 := Eq.trans rfl rfl
@[simp, go_sem] theorem setTs_nil (ts : Tm) (as1 : List AVal) : setTs ts [] as1 = ts := by cases as1 <;> rfl
@[simp, go_sem] theorem setTs_cons (ts : Tm) (p : Nat) (ps : List Nat) (a : AVal) (as1 : List AVal) : setTs ts (p :: ps) (a :: as1) = setTs (Tr.set ts p a) ps as1 := Eq.trans rfl rfl
@[simp, go_sem] theorem aResults_nil (ts : Tm) (h : AH) : aResults ts h [] = some [] := Eq.trans rfl rfl
@[simp, go_sem] theorem aResults_tmp (ts : Tm) (h : AH) (t : Nat) (rs : List AResVar) : aResults ts h (.tmp t :: rs) = (aResults ts h rs).map (tg ts t :: ·) := by
  simp only [aResults]; cases aResults ts h rs <;> rfl
@[simp, go_sem] theorem aResults_cell (ts : Tm) (h : AH) (t n : Nat) (g : Bool) (rs : List AResVar) : aResults ts h (.cell t n g :: rs) = (loadA h (tg ts t) n g).bind fun v => (aResults ts h rs).map (v :: ·) := by
  simp only [aResults, ev]; cases loadA h (tg ts t) n g <;> cases aResults ts h rs <;> rfl
@[simp, go_sem] theorem oneOf_one (v : AVal) : oneOf [v] = v := Eq.trans rfl rfl
@[simp, go_sem] theorem oneOf_nil : oneOf [] = undefA := Eq.trans rfl rfl
@[simp, go_sem] theorem oneOf_two (a b : AVal) (l : List AVal) : oneOf (a :: b :: l) = .tuple (a :: b :: l) := Eq.trans rfl rfl

/-! ## Cells of values -/
@[simp, go_sem] theorem cells_agg (cs : List AVal) : (AVal.agg cs).cells = cs := Eq.trans rfl rfl
@[simp, go_sem] theorem cells_bool (b : Bool) : (AVal.bool b).cells = [.bool b] := Eq.trans rfl rfl
@[simp, go_sem] theorem cells_int (k : IntKind) (n : Int) : (AVal.int k n).cells = [.int k n] := Eq.trans rfl rfl
@[simp, go_sem] theorem cells_str (s : List Nat) : (AVal.str s).cells = [.str s] := Eq.trans rfl rfl
@[simp, go_sem] theorem cells_nilptr : AVal.nilptr.cells = [.nilptr] := Eq.trans rfl rfl
@[simp, go_sem] theorem cells_ptr (a b : Nat) : (AVal.ptr a b).cells = [.ptr a b] := Eq.trans rfl rfl
@[simp, go_sem] theorem cells_nilsl : AVal.nilsl.cells = [.nilsl] := Eq.trans rfl rfl
@[simp, go_sem] theorem cells_slz : AVal.slz.cells = [.slz] := Eq.trans rfl rfl
@[simp, go_sem] theorem cells_sl (a b c d : Nat) : (AVal.sl a b c d).cells = [.sl a b c d] := Eq.trans rfl rfl
@[simp, go_sem] theorem cells_map (a : Nat) : (AVal.map a).cells = [.map a] := Eq.trans rfl rfl
@[simp, go_sem] theorem cells_nilmap : AVal.nilmap.cells = [.nilmap] := Eq.trans rfl rfl
@[simp, go_sem] theorem cells_func (f : FuncId) (a c : List AVal) : (AVal.func f a c).cells = [.func f a c] := Eq.trans rfl rfl
@[simp, go_sem] theorem cells_yld (a : Nat) : (AVal.yld a).cells = [.yld a] := Eq.trans rfl rfl
@[simp, go_sem] theorem cells_nilfunc : AVal.nilfunc.cells = [.nilfunc] := Eq.trans rfl rfl
@[simp, go_sem] theorem cells_niliface : AVal.niliface.cells = [.niliface] := Eq.trans rfl rfl
@[simp, go_sem] theorem cells_iface (t : TypeId) (v : AVal) : (AVal.iface t v).cells = [.iface t v] := Eq.trans rfl rfl
@[simp, go_sem] theorem one_agg (cs : List AVal) : (AVal.agg cs).one = false := Eq.trans rfl rfl
@[simp, go_sem] theorem one_bool (b : Bool) : (AVal.bool b).one = true := Eq.trans rfl rfl
@[simp, go_sem] theorem one_int (k : IntKind) (n : Int) : (AVal.int k n).one = true := Eq.trans rfl rfl
@[simp, go_sem] theorem one_str (s : List Nat) : (AVal.str s).one = true := Eq.trans rfl rfl
@[simp, go_sem] theorem one_nilptr : AVal.nilptr.one = true := Eq.trans rfl rfl
@[simp, go_sem] theorem one_ptr (a b : Nat) : (AVal.ptr a b).one = true := Eq.trans rfl rfl
@[simp, go_sem] theorem one_nilsl : AVal.nilsl.one = true := Eq.trans rfl rfl
@[simp, go_sem] theorem one_slz : AVal.slz.one = true := Eq.trans rfl rfl
@[simp, go_sem] theorem one_sl (a b c d : Nat) : (AVal.sl a b c d).one = true := Eq.trans rfl rfl
@[simp, go_sem] theorem one_map (a : Nat) : (AVal.map a).one = true := Eq.trans rfl rfl
@[simp, go_sem] theorem one_nilmap : AVal.nilmap.one = true := Eq.trans rfl rfl
@[simp, go_sem] theorem one_func (f : FuncId) (a c : List AVal) : (AVal.func f a c).one = true := Eq.trans rfl rfl
@[simp, go_sem] theorem one_yld (a : Nat) : (AVal.yld a).one = true := Eq.trans rfl rfl
@[simp, go_sem] theorem one_nilfunc : AVal.nilfunc.one = true := Eq.trans rfl rfl
@[simp, go_sem] theorem one_niliface : AVal.niliface.one = true := Eq.trans rfl rfl
@[simp, go_sem] theorem one_iface (t : TypeId) (v : AVal) : (AVal.iface t v).one = true := Eq.trans rfl rfl
@[simp, go_sem] theorem ones_nil : ones [] = true := Eq.trans rfl rfl
@[simp, go_sem] theorem ones_cons (a : AVal) (l : List AVal) : ones (a :: l) = (a.one && ones l) := Eq.trans rfl rfl
@[simp, go_sem] theorem fillA_nil (zs : List AVal) : fillA zs [] = some zs := Eq.trans rfl rfl
@[simp, go_sem] theorem fillA_cons (zs : List AVal) (off n : Nat) (v : AVal) (ps : List (Nat × Nat × AVal)) :
    fillA zs ((off, n, v) :: ps) = if v.cells.length = n then (if off + v.cells.length ≤ zs.length then fillA (zs.take off ++ v.cells ++ zs.drop (off + v.cells.length)) ps else none) else none := by
  simp only [fillA, nbeq, splice_eq]
  by_cases h1 : v.cells.length = n
  · by_cases h2 : off + v.cells.length ≤ zs.length <;> simp [h1, h2]
    · simp [h1 ▸ h2]
    · simp [show ¬ off + n ≤ zs.length from h1 ▸ h2]
  · simp [h1]

/-! ## The store -/
@[simp, go_sem] theorem AH.push_n (h : AH) (o : AObj) : (h.push o).n = h.n + 1 := Eq.trans rfl rfl
@[simp, go_sem] theorem AH.set_n (h : AH) (i : Nat) (o : AObj) : (h.set i o).n = h.n := Eq.trans rfl rfl
theorem AH.gset (h : AH) (i j : Nat) (o : AObj) : (h.set i o).get j = if j = i then some o else h.get j := Tr.get_set o h.t i j
theorem AH.gpush (h : AH) (j : Nat) (o : AObj) : (h.push o).get j = if j = h.n then some o else h.get j := Tr.get_set o h.t h.n j
theorem AH.get_push_eq {h : AH} {i : Nat} {o : AObj} (e : i = h.n) : (h.push o).get i = some o := by rw [AH.gpush, if_pos e]
theorem AH.get_push_lt {h : AH} {i : Nat} {o : AObj} (e : i < h.n) : (h.push o).get i = h.get i := by rw [AH.gpush, if_neg (by omega)]
@[simp, go_sem] theorem AH.get_set_eq {h : AH} {i : Nat} {o : AObj} : (h.set i o).get i = some o := by rw [AH.gset, if_pos rfl]
theorem AH.get_set_ne {h : AH} {i j : Nat} {o : AObj} (e : i ≠ j) : (h.set j o).get i = h.get i := by rw [AH.gset, if_neg e]
/-- The cells of an object. -/
def AH.cells (h : AH) (i : Nat) : Option (List AVal) :=
  match h.get i with
  | some (.cells vs) => some vs
  | _ => none
theorem AH.cells_get {h : AH} {i : Nat} {vs : List AVal} : h.cells i = some vs ↔ h.get i = some (.cells vs) := by
  unfold AH.cells
  constructor
  · intro e; split at e
    · rename_i x hx; cases e; exact hx
    · cases e
  · intro e; rw [e]
theorem AH.cells_congr {h h' : AH} {i : Nat} (e : h'.get i = h.get i) : h'.cells i = h.cells i := by unfold AH.cells; rw [e]
theorem AH.cells_push_eq {h : AH} {i : Nat} {vs : List AVal} (e : i = h.n) : (h.push (.cells vs)).cells i = some vs := by unfold AH.cells; rw [AH.get_push_eq e]
theorem AH.cells_push_lt {h : AH} {i : Nat} {o : AObj} (e : i < h.n) : (h.push o).cells i = h.cells i := AH.cells_congr (AH.get_push_lt e)
@[simp, go_sem] theorem AH.cells_set_eq {h : AH} {i : Nat} {vs : List AVal} : (h.set i (.cells vs)).cells i = some vs := by unfold AH.cells; rw [AH.get_set_eq]
theorem AH.cells_set_ne {h : AH} {i j : Nat} {o : AObj} (e : i ≠ j) : (h.set j o).cells i = h.cells i := AH.cells_congr (AH.get_set_ne e)

def readC (vs : List AVal) (off n : Nat) (agg : Bool) : Option AVal := if agg then (if off + n ≤ vs.length then some (.agg ((vs.drop off).take n)) else none) else vs[off]?
@[simp, go_sem] theorem loadA_ptr (h : AH) (id off n : Nat) (g : Bool) : loadA h (.ptr id off) n g = (h.cells id).bind fun vs => readC vs off n g := by
  unfold loadA AH.cells readC
  simp only
  cases h.get id with
  | none => rfl
  | some o =>
    cases o <;> first | rfl | skip
    simp only [leLen_eq, sub_eq, getN_eq, Option.bind_some, show Nat.add off n = off + n from rfl]
    cases g
    · rfl
    · rename_i vs
      by_cases hl : off + n ≤ vs.length <;> simp [hl]
@[simp, go_sem] theorem readC_one (a : AVal) (l : List AVal) (k n : Nat) : readC (a :: l) k n false = (a :: l)[k]? := Eq.trans rfl rfl
@[simp, go_sem] theorem readC_agg (a : AVal) (l : List AVal) (k n : Nat) : readC (a :: l) k n true = if k + n ≤ (a :: l).length then some (.agg (((a :: l).drop k).take n)) else none := Eq.trans rfl rfl
def storeC (vs : List AVal) (off n : Nat) (x : AVal) : Option (List AVal) :=
  if x.cells.length = n ∧ ones x.cells = true ∧ off + x.cells.length ≤ vs.length then some (vs.take off ++ x.cells ++ vs.drop (off + x.cells.length)) else none
theorem storeA_ptr {fl : Nat} {h : AH} {id off n : Nat} {x : AVal} (hf : fl ≤ id) : storeA fl h (.ptr id off) n x = (h.cells id).bind fun vs => (storeC vs off n x).map fun vs' => h.set id (.cells vs') := by
  unfold storeA AH.cells storeC
  simp only [nble, hf, decide_true, Bool.true_and, nbeq]
  cases h.get id with
  | none => simp
  | some o =>
    cases o <;> first | (simp; done) | skip
    simp only [splice_eq, Option.bind_some]
    by_cases h1 : x.cells.length = n
    · by_cases h2 : ones x.cells = true
      · rename_i vs
        by_cases h3 : off + x.cells.length ≤ vs.length <;> simp [h1, h2, h3]
        · simp [show off + n ≤ vs.length from h1 ▸ h3]
        · simp [show ¬ off + n ≤ vs.length from h1 ▸ h3]
      · simp [h2]
    · simp [h1]
@[simp, go_sem] theorem storeC_lit (a : AVal) (l : List AVal) (off n : Nat) (x : AVal) : storeC (a :: l) off n x =
    if x.cells.length = n ∧ ones x.cells = true ∧ off + x.cells.length ≤ (a :: l).length then some ((a :: l).take off ++ x.cells ++ (a :: l).drop (off + x.cells.length)) else none := Eq.trans rfl rfl

/-! ## Numbers -/
theorem forceI_eq' {α : Type} (n : Int) (f : Int → α) : forceI n f = f n := by
  unfold forceI
  cases n <;> simp only [forceN_eq']
@[simp, go_sem] theorem mkInt_eqY (k : IntKind) (n : Int) : mkInt k n = .int k n := by unfold mkInt; rw [forceI_eq']
@[simp, go_sem] theorem eqK_same (k : IntKind) : eqK k k = true := by simp [eqK]
@[simp, go_sem] theorem ltI_eq (a b : Int) : ltI a b = decide (a < b) := Eq.trans rfl rfl
@[simp, go_sem] theorem leI_eq (a b : Int) : leI a b = decide (a ≤ b) := Eq.trans rfl rfl
@[simp, go_sem] theorem eqI_eq (a b : Int) : eqI a b = decide (a = b) := Eq.trans rfl rfl
theorem inK_i64 {n : Int} (h1 : -9223372036854775808 ≤ n) (h2 : n < 9223372036854775808) : inK .i64 n = true := by
  cases n with
  | ofNat m => rw [Int.ofNat_eq_natCast] at h1 h2; simp only [inK, nblt, decide_eq_true_eq]; omega
  | negSucc m => simp only [inK, nblt, decide_eq_true_eq]; omega
theorem wrapK_i64 {n : Int} (h1 : -9223372036854775808 ≤ n) (h2 : n < 9223372036854775808) : wrapK .i64 n = n := by unfold wrapK; rw [inK_i64 h1 h2]; rfl
theorem wrapK_u8 {n : Int} (h1 : 0 ≤ n) (h2 : n < 256) : wrapK .u8 n = n := by
  have : inK .u8 n = true := by
    cases n with
    | ofNat m => rw [Int.ofNat_eq_natCast] at h1 h2; simp only [inK, nblt, decide_eq_true_eq]; omega
    | negSucc m => omega
  unfold wrapK; rw [this]; rfl
theorem wrapK_u64 {n : Int} (h1 : 0 ≤ n) (h2 : n < 18446744073709551616) : wrapK .u64 n = n := by
  have : inK .u64 n = true := by
    cases n with
    | ofNat m => rw [Int.ofNat_eq_natCast] at h1 h2; simp only [inK, nblt, decide_eq_true_eq]; omega
    | negSucc m => omega
  unfold wrapK; rw [this]; rfl
theorem wrapK_u32 {n : Int} (h1 : 0 ≤ n) (h2 : n < 4294967296) : wrapK .u32 n = n := by
  have : inK .u32 n = true := by
    cases n with
    | ofNat m => rw [Int.ofNat_eq_natCast] at h1 h2; simp only [inK, nblt, decide_eq_true_eq]; omega
    | negSucc m => omega
  unfold wrapK; rw [this]; rfl
theorem wrapK_i32 {n : Int} (h1 : -2147483648 ≤ n) (h2 : n < 2147483648) : wrapK .i32 n = n := by
  have : inK .i32 n = true := by
    cases n with
    | ofNat m => rw [Int.ofNat_eq_natCast] at h1 h2; simp only [inK, nblt, decide_eq_true_eq]; omega
    | negSucc m => simp only [inK, nblt, decide_eq_true_eq]; omega
  unfold wrapK; rw [this]; rfl
@[simp, go_sem] theorem binA_add (k : IntKind) (a b : Int) : binA .add .num (.int k a) (.int k b) = some (.int k (wrapK k (a + b))) := by simp [binA, binNum]
@[simp, go_sem] theorem binA_sub (k : IntKind) (a b : Int) : binA .sub .num (.int k a) (.int k b) = some (.int k (wrapK k (a - b))) := by simp [binA, binNum]
@[simp, go_sem] theorem binA_mul (k : IntKind) (a b : Int) : binA .mul .num (.int k a) (.int k b) = some (.int k (wrapK k (a * b))) := by simp [binA, binNum]
@[simp, go_sem] theorem binA_quo (k : IntKind) (a b : Int) : binA .quo .num (.int k a) (.int k b) = if b = 0 then none else some (.int k (wrapK k (a.tdiv b))) := by
  by_cases h : b = 0 <;> simp [binA, binNum, h]
@[simp, go_sem] theorem binA_rem (k : IntKind) (a b : Int) : binA .rem .num (.int k a) (.int k b) = if b = 0 then none else some (.int k (a.tmod b)) := by
  by_cases h : b = 0 <;> simp [binA, binNum, h]
@[simp, go_sem] theorem binA_eql (k : IntKind) (a b : Int) : binA .eql .num (.int k a) (.int k b) = some (.bool (decide (a = b))) := by simp [binA, binNum]
@[simp, go_sem] theorem binA_neq (k : IntKind) (a b : Int) : binA .neq .num (.int k a) (.int k b) = some (.bool (!decide (a = b))) := by simp [binA, binNum]
@[simp, go_sem] theorem binA_lss (k : IntKind) (a b : Int) : binA .lss .num (.int k a) (.int k b) = some (.bool (decide (a < b))) := by simp [binA, binNum]
@[simp, go_sem] theorem binA_leq (k : IntKind) (a b : Int) : binA .leq .num (.int k a) (.int k b) = some (.bool (decide (a ≤ b))) := by simp [binA, binNum]
@[simp, go_sem] theorem binA_gtr (k : IntKind) (a b : Int) : binA .gtr .num (.int k a) (.int k b) = some (.bool (decide (b < a))) := by simp [binA, binNum]
@[simp, go_sem] theorem binA_geq (k : IntKind) (a b : Int) : binA .geq .num (.int k a) (.int k b) = some (.bool (decide (b ≤ a))) := by simp [binA, binNum]
theorem eqL_eq : ∀ a b : List Nat, eqL a b = decide (a = b)
  | [], [] => rfl
  | [], _ :: _ => by simp [eqL]
  | _ :: _, [] => by simp [eqL]
  | a :: x, b :: y => by
    simp only [eqL, nbeq, eqL_eq x y]
    by_cases h : a = b <;> simp [h]
@[simp, go_sem] theorem binA_sadd (a b : List Nat) : binA .add .strs (.str a) (.str b) = if a.length + b.length < 4611686018427387904 then some (.str (a ++ b)) else none := by
  simp only [binA, binStr, nblt]
  by_cases h : a.length + b.length < 4611686018427387904 <;> simp [h]
@[simp, go_sem] theorem binA_seql (a b : List Nat) : binA .eql .strs (.str a) (.str b) = some (.bool (decide (a = b))) := by simp [binA, binStr, eqL_eq]
@[simp, go_sem] theorem binA_sneq (a b : List Nat) : binA .neq .strs (.str a) (.str b) = some (.bool (!decide (a = b))) := by simp [binA, binStr, eqL_eq]
@[simp, go_sem] theorem binA_eqb (sh : Sh) (x y : AVal) : binA .eql (.eq sh) x y = (eqA sh x y).map fun b => .bool b := by
  simp only [binA]; cases eqA sh x y <;> rfl
@[simp, go_sem] theorem binA_neqb (sh : Sh) (x y : AVal) : binA .neq (.eq sh) x y = (eqA sh x y).map fun b => .bool !b := by
  simp only [binA]; cases eqA sh x y <;> rfl
@[simp, go_sem] theorem eqA_one (k : Kd) (x y : AVal) : eqA ⟨false, [k]⟩ x y = eqS k x y := Eq.trans rfl rfl
@[simp, go_sem] theorem eqA_agg (ks : List Kd) (x y : List AVal) : eqA ⟨true, ks⟩ (.agg x) (.agg y) = eqSs ks x y := Eq.trans rfl rfl
@[simp, go_sem] theorem eqS_b (a b : Bool) : eqS .b (.bool a) (.bool b) = some (a == b) := Eq.trans rfl rfl
@[simp, go_sem] theorem eqS_i (k : IntKind) (a b : Int) : eqS .i (.int k a) (.int k b) = some (decide (a = b)) := by simp [eqS]
@[simp, go_sem] theorem eqS_s (a b : List Nat) : eqS .s (.str a) (.str b) = some (decide (a = b)) := by simp [eqS, eqL_eq]
@[simp, go_sem] theorem eqSs_nil : eqSs [] [] [] = some true := Eq.trans rfl rfl
@[simp, go_sem] theorem eqSs_cons (k : Kd) (ks : List Kd) (x y : AVal) (xs ys : List AVal) : eqSs (k :: ks) (x :: xs) (y :: ys) = (eqS k x y).bind fun a => (eqSs ks xs ys).map fun b => a && b := by
  simp only [eqSs]
  cases eqS k x y with
  | none => rfl
  | some a => cases a <;> cases eqSs ks xs ys <;> simp
@[simp, go_sem] theorem binA_nileq (k : NilK) (x y : AVal) : binA .eql (.nilc k) x y = (isNilA k x).bind fun a => (isNilA k y).bind fun b => if b then some (.bool a) else none := by
  simp only [binA]
  cases isNilA k x <;> cases isNilA k y <;> first | rfl | (rename_i b; cases b <;> rfl)
@[simp, go_sem] theorem binA_nilneq (k : NilK) (x y : AVal) : binA .neq (.nilc k) x y = (isNilA k x).bind fun a => (isNilA k y).bind fun b => if b then some (.bool !a) else none := by
  simp only [binA]
  cases isNilA k x <;> cases isNilA k y <;> first | rfl | (rename_i b; cases b <;> rfl)
@[simp, go_sem] theorem isNil_sl (a b c d : Nat) : isNilA .sl (.sl a b c d) = some false := Eq.trans rfl rfl
@[simp, go_sem] theorem isNil_slz : isNilA .sl .slz = some false := Eq.trans rfl rfl
@[simp, go_sem] theorem isNil_nilsl : isNilA .sl .nilsl = some true := Eq.trans rfl rfl
@[simp, go_sem] theorem isNil_ptr (a b : Nat) : isNilA .ptr (.ptr a b) = some false := Eq.trans rfl rfl
@[simp, go_sem] theorem isNil_nilptr : isNilA .ptr .nilptr = some true := Eq.trans rfl rfl
@[simp, go_sem] theorem isNil_ifc (a : Nat) (b : AVal) : isNilA .ifc (.iface a b) = some false := Eq.trans rfl rfl
@[simp, go_sem] theorem isNil_nilifc : isNilA .ifc .niliface = some true := Eq.trans rfl rfl
@[simp, go_sem] theorem isNil_fn (f : FuncId) (a c : List AVal) : isNilA .fn (.func f a c) = some false := Eq.trans rfl rfl
@[simp, go_sem] theorem isNil_nilfn : isNilA .fn .nilfunc = some true := Eq.trans rfl rfl
@[simp, go_sem] theorem unA_neg (k : IntKind) (a : Int) : unA .neg (.int k a) = some (.int k (wrapK k (0 - a))) := by simp [unA]
@[simp, go_sem] theorem unA_not (b : Bool) : unA .not (.bool b) = some (.bool !b) := Eq.trans rfl rfl
@[simp, go_sem] theorem natOf_cast (k : IntKind) (n : Nat) : natOf (.int k (n : Int)) = some n := Eq.trans rfl rfl
@[simp, go_sem] theorem natOf_lit (k : IntKind) (n : Nat) : natOf (.int k (OfNat.ofNat n : Int)) = some n := Eq.trans rfl rfl
theorem natOf_pos {k : IntKind} {n : Int} (h : 0 ≤ n) : natOf (.int k n) = some n.toNat := by
  cases n with
  | ofNat m => rfl
  | negSucc m => omega
@[simp, go_sem] theorem lenA_str (h : AH) (s : List Nat) : lenA .str h (.str s) = some (.int .i64 s.length) := by simp [lenA, forceN_eq', lenN_eq]
@[simp, go_sem] theorem lenA_arr (h : AH) (n : Nat) (x : AVal) : lenA (.arr n) h x = some (.int .i64 n) := Eq.trans rfl rfl
@[simp, go_sem] theorem lenA_sl (h : AH) (a b n d : Nat) : lenA .sl h (.sl a b n d) = some (.int .i64 n) := Eq.trans rfl rfl
@[simp, go_sem] theorem lenA_nilsl (h : AH) : lenA .sl h .nilsl = some (.int .i64 0) := Eq.trans rfl rfl
@[simp, go_sem] theorem lenA_slz (h : AH) : lenA .sl h .slz = some (.int .i64 0) := Eq.trans rfl rfl
@[simp, go_sem] theorem minA_int (k : IntKind) (a b : Int) : minA (.int k a) (.int k b) = some (.int k (min a b)) := by
  simp only [minA, eqK_same, cond_true, ltI_eq, Option.some.injEq, AVal.int.injEq, true_and]
  by_cases h : b < a
  · simp [h, Int.min_def] <;> omega
  · simp [h, Int.min_def] <;> omega
@[simp, go_sem] theorem maxA_int (k : IntKind) (a b : Int) : maxA (.int k a) (.int k b) = some (.int k (max a b)) := by
  simp only [maxA, eqK_same, cond_true, ltI_eq, Option.some.injEq, AVal.int.injEq, true_and]
  by_cases h : b < a
  · simp [h, Int.max_def] <;> omega
  · simp [h, Int.max_def] <;> omega
@[simp, go_sem] theorem indexAddrA_arr (n es id off : Nat) (k : IntKind) (i : AVal) : indexAddrA (.arr n es) (.ptr id off) i = (natOf i).bind fun j => if j < n then some (.ptr id (off + j * es)) else none := by
  simp only [indexAddrA]; cases natOf i <;> rfl
@[simp, go_sem] theorem indexAddrA_sl (es id off len e : Nat) (i : AVal) : indexAddrA (.sl es) (.sl id off len e) i = (natOf i).bind fun j => if j < len then some (.ptr id (off + j * es)) else none := by
  simp only [indexAddrA]; cases natOf i <;> rfl
@[simp, go_sem] theorem indexA_str (s : List Nat) (i : AVal) : indexA .str (.str s) i = (natOf i).bind fun j => (s[j]?).map fun b : Nat => .int .u8 b := by
  simp only [indexA, getN_eq]; cases natOf i <;> rfl
@[simp, go_sem] theorem indexA_arr (n es : Nat) (g : Bool) (cs : List AVal) (i : AVal) : indexA (.arr n es g) (.agg cs) i = (natOf i).bind fun j => if j < n then readC cs (j * es) es g else none := by
  simp only [indexA, leLen_eq, sub_eq, getN_eq, readC]
  cases natOf i with
  | none => rfl
  | some j =>
    simp only [Option.bind_some]
    by_cases hj : j < n
    · cases g
      · simp [hj]
      · simp only [hj, if_true, cond_true]
        have : (Nat.mul j es).add es = j * es + es := Eq.trans rfl rfl
        rw [this]
        by_cases hl : j * es + es ≤ cs.length <;> simp [hl]
    · simp [hj]
@[simp, go_sem] theorem fieldA_agg (off n : Nat) (g : Bool) (cs : List AVal) : fieldA off n g (.agg cs) = readC cs off n g := by
  simp only [fieldA, leLen_eq, sub_eq, getN_eq, readC, show Nat.add off n = off + n from rfl]
  cases g
  · rfl
  · by_cases hl : off + n ≤ cs.length <;> simp [hl]
@[simp, go_sem] theorem extractA_tuple (i : Nat) (vs : List AVal) : extractA i (.tuple vs) = vs[i]? := by simp only [extractA, getN_eq]
@[simp, go_sem] theorem convA_int (k k' : IntKind) (h : AH) (n : Int) : convA (.int k) h (.int k' n) = some (.int k (wrapK k n), h) := by simp [convA]
@[simp, go_sem] theorem convA_same (h : AH) (s : List Nat) : convA .same h (.str s) = some (.str s, h) := Eq.trans rfl rfl
/-! ## More operations -/
def nextC (h : AH) (id : Nat) (o : AObj) : Option (AVal × AH) :=
  match o with
  | .siter s pos => if pos < s.length then some (.tuple [.bool true, .int .i64 pos, .int .i32 (decodeL s pos).1], h.set id (.siter s (pos + (decodeL s pos).2))) else some (.tuple [.bool false], h)
  | _ => none
def nextA (fl : Nat) (h : AH) (x : AVal) : Option (AVal × AH) := aOp E0 fl (Tr.set .leaf 0 x) h (.next (.t 0))
theorem nextA_ptr {fl : Nat} {h : AH} {id : Nat} (hf : fl ≤ id) : nextA fl h (.ptr id 0) = (h.get id).bind fun o => nextC h id o := by
  have e : tg (Tr.set .leaf 0 (.ptr id 0)) 0 = .ptr id 0 := tg_hit _ _ _
  unfold nextA nextC
  simp only [aOp, ev_t, e, nble, hf, decide_true, cond_true]
  cases h.get id with
  | none => rfl
  | some o =>
    cases o <;> first | rfl | skip
    rename_i s pos
    simp only [nblt, Option.bind_some]
    by_cases hp : pos < s.length
    · simp only [hp, decide_true, cond_true, if_true, forceN_eq']
    · simp [hp]
theorem nextC_siter (h : AH) (id : Nat) (s : List Nat) (pos : Nat) : nextC h id (.siter s pos) = if pos < s.length then some (.tuple [.bool true, .int .i64 pos, .int .i32 (decodeL s pos).1], h.set id (.siter s (pos + (decodeL s pos).2))) else some (.tuple [.bool false], h) := Eq.trans rfl rfl
@[simp, go_sem] theorem wop_next {T : Tab} {fl : Nat} {ts : Tm} {h : AH} {K : AVal → AH → Prop} {t : Nat} {x : AOpd} : oS T fl ts h (.next x) K t = optS (nextA fl h (ev ts x)) (fun r => K r.1 r.2) 0 := by
  have e : tg (Tr.set .leaf 0 (ev ts x)) 0 = ev ts x := tg_hit _ _ _
  unfold oS optS nextA
  simp only [wop, aOp, ev_t, e]
theorem decodeL_ascii {s : List Nat} {k : Nat} (hk : k < s.length) (hb : s[k] < 128) : decodeL s k = (s[k], 1) := by
  have hn : nth s k = s[k] := by unfold nth; rw [getN_eq, List.getElem?_eq_getElem hk]
  unfold decodeL
  simp only [hn, nblt, decide_eq_true hb, cond_true]
theorem cond_ite {α : Type} (b : Bool) (x y : α) : (bif b then x else y) = if b = true then x else y := by cases b <;> rfl
theorem decodeL_hi {s : List Nat} {k : Nat} (hk : k < s.length) (hb : 128 ≤ s[k]) : 128 ≤ (decodeL s k).1 ∧ 1 ≤ (decodeL s k).2 := by
  have hn : nth s k = s[k] := by unfold nth; rw [getN_eq, List.getElem?_eq_getElem hk]
  unfold decodeL runeErr
  simp only [hn, nblt, decide_eq_false (show ¬ s[k] < 128 by omega), cond_false, cond_ite, nble]
  repeat' split
  all_goals first | (simp; done) | (simp_all <;> omega)
theorem decodeL_pos {s : List Nat} {k : Nat} (hk : k < s.length) : 1 ≤ (decodeL s k).2 := by
  by_cases hb : s[k] < 128
  · rw [decodeL_ascii hk hb]; exact Nat.le_refl 1
  · exact (decodeL_hi hk (by omega)).2
@[simp, go_sem] theorem apartA_nil (ts : Tm) (a : Option Nat) : apartA ts a [] = true := Eq.trans rfl rfl
@[simp, go_sem] theorem apartA_none (ts : Tm) (xs : List AOpd) : apartA ts none xs = true := by
  induction xs with
  | nil => rfl
  | cons x xs ih => simp only [apartA, ih]; cases addrId (ev ts x) <;> rfl
def apart1 (i : Nat) (j : Option Nat) : Bool :=
  match j with
  | some j => !decide (i = j)
  | none => true
@[simp, go_sem] theorem apart1_none (i : Nat) : apart1 i none = true := Eq.trans rfl rfl
theorem apart1_some {i j : Nat} (h : i ≠ j) : apart1 i (some j) = true := by simp [apart1, h]
@[simp, go_sem] theorem apartA_cons (ts : Tm) (i : Nat) (x : AOpd) (xs : List AOpd) : apartA ts (some i) (x :: xs) = (apart1 i (addrId (ev ts x)) && apartA ts (some i) xs) := by
  simp only [apartA, apart1, nbeq]; cases addrId (ev ts x) <;> rfl
@[simp, go_sem] theorem placeOf_store (n : Nat) (a x : AOpd) : placeOf (.store n a x) = some a := Eq.trans rfl rfl
@[simp, go_sem] theorem placeOf_load (n : Nat) (g : Bool) (a : AOpd) : placeOf (.load n g a) = some a := Eq.trans rfl rfl
@[simp, go_sem] theorem placeOf_append (es b : Nat) (z : Option (List AVal)) (s x : AOpd) : placeOf (.append es b z s x) = some s := Eq.trans rfl rfl
@[simp, go_sem] theorem addrId_ptr (i o : Nat) : addrId (.ptr i o) = some i := Eq.trans rfl rfl
@[simp, go_sem] theorem addrId_sl (i o n e : Nat) : addrId (.sl i o n e) = some i := Eq.trans rfl rfl
@[simp, go_sem] theorem addrId_nilsl : addrId .nilsl = none := Eq.trans rfl rfl
@[simp, go_sem] theorem addrId_slz : addrId .slz = none := Eq.trans rfl rfl
end
end Go.Proofs.YtndlfkibcelhmaaGreatDoor.Ai
end
section
/- Bytes counted and found; closed functions. -/
set_option linter.unusedVariables false
namespace Go.Proofs.YtndlfkibcelhmaaGreatDoor.Ai
open Go Go.Proofs
variable {P : Program} {F B fl : Nat} {μ : Mu} {h : AH}

theorem beq_u8 {b : UInt8} {c : Nat} (hc : c < 256) : (b == ((c : Int).toNat.toUInt8)) = Nat.beq b.toNat c := by
  rw [nbeq]
  have h1 : ((c : Int).toNat.toUInt8).toNat = c := by simp; omega
  by_cases e : b.toNat = c
  · rw [decide_eq_true e]
    have : b = (c : Int).toNat.toUInt8 := UInt8.toNat_inj.1 (by rw [h1]; exact e)
    rw [this]; simp
  · rw [decide_eq_false e]
    have : b ≠ (c : Int).toNat.toUInt8 := fun hb => e (by rw [hb]; exact h1)
    simpa using this
theorem indexByteL_eq {c : Nat} (hc : c < 256) : ∀ (l : List UInt8) (i : Nat), indexByteL (l.map UInt8.toNat) c i = if Lib.indexByte l ((c : Int).toNat.toUInt8) = -1 then -1 else Lib.indexByte l ((c : Int).toNat.toUInt8) + i
  | [], i => by simp [indexByteL, Lib.indexByte]
  | b :: l, i => by
    have ih := indexByteL_eq hc l (i + 1)
    have hg := Lib.indexByte_ge l ((c : Int).toNat.toUInt8)
    rw [List.map_cons, indexByteL, Lib.indexByte, beq_u8 hc]
    cases Nat.beq b.toNat c
    · simp only [cond_false, Bool.false_eq_true, if_false, ih, beq_iff_eq]
      generalize Lib.indexByte l ((c : Int).toNat.toUInt8) = I at *
      by_cases e : I = -1
      · rw [if_pos e, if_pos e, if_pos rfl]
      · rw [if_neg e, if_neg e, if_neg (by omega)]; simp; omega
    · simp
theorem countByteL_eq {c : Nat} (hc : c < 256) : ∀ (l : List UInt8) (n : Nat), countByteL (l.map UInt8.toNat) c n = Lib.countByte l ((c : Int).toNat.toUInt8) + n
  | [], n => by simp [countByteL, Lib.countByte]
  | b :: l, n => by
    have ih := fun n => countByteL_eq hc l n
    unfold Lib.countByte at ih ⊢
    rw [List.map_cons, countByteL, List.count_cons, beq_u8 hc]
    cases Nat.beq b.toNat c
    · simp [ih]
    · simp [ih]; omega

theorem args2 {vs : Array Value} {s : List Nat} {c : Nat} (ra : Reps μ [.str s, .int .u8 (c : Int)] vs.toList) : ∃ bs : ByteArray, vs = #[.string bs, .int .u8 (c : Int)] ∧ bs.data.toList.map UInt8.toNat = s := by
  obtain ⟨x0, l0, hl0, r0, ra⟩ := Reps.cons_iff.1 ra
  obtain ⟨x1, l1, hl1, r1, ra⟩ := Reps.cons_iff.1 ra
  rw [Reps.nil_iff.1 ra] at hl1
  rw [hl1] at hl0
  obtain ⟨bs, rfl, hbs⟩ := rep_str r0
  have := rep_int r1
  subst this
  exact ⟨bs, by apply Array.ext'; rw [hl0], hbs⟩

theorem indexByteString_ok {f : FuncId} {fn : Func} (hf : P.funcs[f]? = some fn) (hname : (fn.name == "runtime.NumGoroutine") = false) (hb : fn.body.isNone = true) (hn : Extern.findNext fn = none) (he : Extern.find fn = some Extern.BytealgIndexByte.indexByte)
    {args : List AVal} {v : AVal} {h' : AH} (ha : pIndexByteString fl args h = some (v, h')) : CallOk P F B fl f args h v h' := by
  intro hF hfl μ vs w hr ra
  unfold pIndexByteString at ha
  split at ha
  case h_2 => cases ha
  rename_i s c
  obtain ⟨hc, ha2⟩ := bif_some ha
  clear ha
  have hc : c < 256 := by have := hc; simp [Nat.blt] at this; omega
  cases ha2
  obtain ⟨bs, rfl, hbs⟩ := args2 ra
  refine ⟨μ, .int .i64 (Lib.indexByte bs.data.toList ((c : Int).toNat.toUInt8)), w, ⟨.inl (.inl ?_), Same.refl w⟩, hr, Ext.refl _ _ _ _ _ hr.dom, ?_⟩
  · rw [run_callFunc_extern hf hname hb hn he, Lib.run_indexByteString]; rfl
  · simp only [mkInt_eq, Rep]
    rw [← hbs, indexByteL_eq hc]
    simp only [Int.natCast_zero, Int.add_zero]
    split
    · rename_i e; rw [e]
    · rfl
theorem countString_ok {f : FuncId} {fn : Func} (hf : P.funcs[f]? = some fn) (hname : (fn.name == "runtime.NumGoroutine") = false) (hb : fn.body.isNone = true) (hn : Extern.findNext fn = none) (he : Extern.find fn = some Extern.BytealgCount.count)
    {args : List AVal} {v : AVal} {h' : AH} (ha : pCountString fl args h = some (v, h')) : CallOk P F B fl f args h v h' := by
  intro hF hfl μ vs w hr ra
  unfold pCountString at ha
  split at ha
  case h_2 => cases ha
  rename_i s c
  obtain ⟨hc, ha2⟩ := bif_some ha
  clear ha
  have hc : c < 256 := by have := hc; simp [Nat.blt] at this; omega
  cases ha2
  obtain ⟨bs, rfl, hbs⟩ := args2 ra
  refine ⟨μ, .int .i64 (Lib.countByte bs.data.toList ((c : Int).toNat.toUInt8)), w, ⟨.inl (.inl ?_), Same.refl w⟩, hr, Ext.refl _ _ _ _ _ hr.dom, ?_⟩
  · rw [run_callFunc_extern hf hname hb hn he, Lib.run_countString]; rfl
  · simp only [mkInt_eq, Rep]
    rw [← hbs, countByteL_eq hc]
    simp

/-- A function that runs closed, and answers true, answers true wherever it is called, and keeps the store. -/
theorem closed_ok {f : FuncId} {E : Env} {G : Nat} {h1 : AH} (hE : ∀ B, EnvOk P G B E) (hG : P.globals.size = G) (hrun : E.call G f [] ⟨G, .leaf⟩ = some (.bool true, h1)) : CallOk P F B fl f [] h (.bool true) h := by
  intro hF hfl μ vs w hr ra
  have hbl : ∀ id m, μ id = some m → m.b < w.heap.size := fun id m hm => by
    by_cases e : F ≤ id
    · exact (hr.own id m hm e).2
    · exact Nat.lt_of_lt_of_le (hr.ro id m hm (by omega)) hr.big
  have cutsome : ∀ id m, μ.cut G id = some m → id < G ∧ μ id = some m := fun id m hm => Mu.cut_some hm
  have hget : ∀ id, (⟨G, .leaf⟩ : AH).get id = none := fun id => rfl
  have hr0 : HR P G w.heap.size (μ.cut G) ⟨G, .leaf⟩ w.heap :=
    { dom := fun id m hm => (cutsome id m hm).1
      obj := fun id m o _ hg => by rw [hget] at hg; cases hg
      own := fun id m hm hi => by have := (cutsome id m hm).1; omega
      inj := fun id id' m m' hi _ hm _ _ _ _ => by have := (cutsome id m hm).1; omega
      ro := fun id m hm _ => hbl id m (cutsome id m hm).2
      big := Nat.le_refl _
      glob := fun g hg => by
        obtain ⟨c, hc⟩ := hr.glob g hg
        exact ⟨c, by rw [Mu.cut_lt (by omega)]; exact hc⟩
      wf := fun id o _ hg => by rw [hget] at hg; cases hg }
  obtain ⟨μ1, x, w', ⟨hgo, hsame⟩, hr1, ext1, rx⟩ := (hE w.heap.size).call G f [] ⟨G, .leaf⟩ _ _ hrun (Nat.le_refl _) (Nat.le_refl _) (μ.cut G) vs w hr0 ra
  have hold : ∀ b, b < w.heap.size → w'.heap[b]? = w.heap[b]? := fun b hb => ext1.frame b hb fun id m hid hm _ => by have := (cutsome id m hm).1; omega
  refine ⟨μ, x, w', ⟨hgo, hsame⟩, ?_, ?_, ?_⟩
  · exact
      { dom := hr.dom
        obj := fun id m o hm hg => by rw [hold m.b (hbl id m hm)]; exact hr.obj id m o hm hg
        own := fun id m hm hi => ⟨(hr.own id m hm hi).1, Nat.lt_of_lt_of_le (hr.own id m hm hi).2 ext1.size⟩
        inj := hr.inj
        ro := hr.ro
        big := Nat.le_trans hr.big ext1.size
        glob := hr.glob
        wf := hr.wf }
  · exact
      { keep := fun _ _ => rfl
        n := Nat.le_refl _
        size := ext1.size
        fresh := fun id m hn hm => absurd (hr.dom id m hm) (by omega)
        live := fun _ _ x => x
        low := fun _ _ _ => rfl
        still := fun _ _ _ => rfl
        frame := fun b hb _ => hold b hb
        loops := ext1.loops }
  · simp only [Rep] at rx ⊢; exact rx
end Go.Proofs.YtndlfkibcelhmaaGreatDoor.Ai
end
section
/- Views of slices; what a call keeps. -/
namespace Go.Proofs.YtndlfkibcelhmaaGreatDoor.Ai
open Go
noncomputable section

/-! ## How data stand in cells -/
structure Enc (α : Type) where
  es : Nat
  enc : α → List AVal
  len : ∀ x, (enc x).length = es
  one : ∀ x, ones (enc x) = true
  pos : 0 < es
def encs {α : Type} (E : Enc α) (xs : List α) : List AVal := xs.flatMap E.enc
theorem encs_nil {α : Type} (E : Enc α) : encs E [] = [] := rfl
theorem encs_cons {α : Type} (E : Enc α) (x : α) (xs : List α) : encs E (x :: xs) = E.enc x ++ encs E xs := rfl
theorem encs_append {α : Type} (E : Enc α) (xs ys : List α) : encs E (xs ++ ys) = encs E xs ++ encs E ys := by unfold encs; rw [List.flatMap_append]
theorem encs_length {α : Type} (E : Enc α) : ∀ xs : List α, (encs E xs).length = xs.length * E.es
  | [] => by simp [encs_nil]
  | x :: xs => by rw [encs_cons, List.length_append, E.len, encs_length E xs, List.length_cons, Nat.add_mul, Nat.one_mul, Nat.add_comm]
theorem ones_append (a b : List AVal) : ones (a ++ b) = (ones a && ones b) := by unfold ones; rw [List.all_append]
theorem encs_ones {α : Type} (E : Enc α) : ∀ xs : List α, ones (encs E xs) = true
  | [] => rfl
  | x :: xs => by rw [encs_cons, ones_append, E.one, encs_ones E xs]; rfl
theorem encs_drop {α : Type} (E : Enc α) : ∀ (xs : List α) (k : Nat), (encs E xs).drop (k * E.es) = encs E (xs.drop k)
  | _, 0 => by simp
  | [], k + 1 => by simp [encs_nil]
  | x :: xs, k + 1 => by
    rw [encs_cons, List.drop_succ_cons, ← encs_drop E xs k, Nat.add_mul, Nat.one_mul, Nat.add_comm, ← List.drop_drop, List.drop_left' (E.len x)]
theorem encs_take {α : Type} (E : Enc α) : ∀ (xs : List α) (k : Nat), (encs E xs).take (k * E.es) = encs E (xs.take k)
  | _, 0 => by simp [encs_nil]
  | [], k + 1 => by simp [encs_nil]
  | x :: xs, k + 1 => by
    rw [encs_cons, List.take_succ_cons, encs_cons, ← encs_take E xs k, Nat.add_mul, Nat.one_mul, Nat.add_comm, List.take_append, E.len, List.take_of_length_le (by rw [E.len]; omega)]
    congr 2; omega

/-- A slice reads as1 a list. -/
def Vw {α : Type} (E : Enc α) (h : AH) (v : AVal) (xs : List α) : Prop :=
  match v with
  | .nilsl => xs = []
  | .slz => xs = []
  | .sl id off len es => es = E.es ∧ len = xs.length ∧ id < h.n ∧ ∃ vs, h.cells id = some vs ∧ off + len * es ≤ vs.length ∧ (vs.drop off).take (len * es) = encs E xs
  | _ => False
/-- A value's object is not below 'b'. -/
def Own (b : Nat) (v : AVal) : Prop := ∀ id, addrId v = some id → b ≤ id
/-- A value's object is another one. -/
def Off (v : AVal) (i : Nat) : Prop := addrId v ≠ some i
/-- What was there stays. -/
structure Keep (h h' : AH) : Prop where
  n : h.n ≤ h'.n
  get : ∀ i, i < h.n → h'.get i = h.get i
theorem Keep.refl (h : AH) : Keep h h := ⟨Nat.le_refl _, fun _ _ => rfl⟩
theorem Keep.trans {a b c : AH} (x : Keep a b) (y : Keep b c) : Keep a c := ⟨Nat.le_trans x.n y.n, fun i hi => (y.get i (Nat.lt_of_lt_of_le hi x.n)).trans (x.get i hi)⟩
theorem Keep.push {h h' : AH} (x : Keep h h') (o : AObj) : Keep h (h'.push o) := ⟨Nat.le_succ_of_le x.n, fun i hi => by rw [AH.get_push_lt (Nat.lt_of_lt_of_le hi x.n)]; exact x.get i hi⟩
theorem Keep.set {h h' : AH} (x : Keep h h') {j : Nat} (hj : h.n ≤ j) (o : AObj) : Keep h (h'.set j o) := ⟨x.n, fun i hi => by rw [AH.get_set_ne (by omega)]; exact x.get i hi⟩
theorem Keep.cells {h h' : AH} (x : Keep h h') {i : Nat} (hi : i < h.n) : h'.cells i = h.cells i := AH.cells_congr (x.get i hi)

section
variable {α : Type} {E : Enc α} {h h' : AH} {v : AVal} {xs : List α}
theorem Vw.nil : Vw E h .nilsl ([] : List α) := rfl
theorem Vw.slz : Vw E h .slz ([] : List α) := rfl
theorem Vw.congr (hv : Vw E h v xs) (hn : h.n ≤ h'.n) (hg : ∀ i, addrId v = some i → h'.get i = h.get i) : Vw E h' v xs := by
  cases v <;> first | exact hv | skip
  obtain ⟨h1, h2, h3, vs, h4, h5⟩ := hv
  exact ⟨h1, h2, Nat.lt_of_lt_of_le h3 hn, vs, by rw [AH.cells_congr (hg _ rfl)]; exact h4, h5⟩
theorem Vw.lt (hv : Vw E h v xs) {i : Nat} (e : addrId v = some i) : i < h.n := by
  cases v <;> simp only [addrId, reduceCtorEq, Option.some.injEq] at e
  all_goals first | exact hv.elim | skip
  obtain ⟨_, _, h3, _⟩ := hv
  omega
theorem Vw.keep (hv : Vw E h v xs) (k : Keep h h') : Vw E h' v xs := hv.congr k.n fun i e => k.get i (hv.lt e)
theorem Vw.push (hv : Vw E h v xs) (o : AObj) : Vw E (h.push o) v xs := hv.keep ((Keep.refl h).push o)
theorem Vw.set (hv : Vw E h v xs) {j : Nat} (o : AObj) (ho : Off v j) : Vw E (h.set j o) v xs := hv.congr (Nat.le_refl _) fun i e => AH.get_set_ne (by rintro rfl; exact ho e)
theorem Vw.len (hv : Vw E h v xs) (g : AH) : lenA .sl g v = some (.int .i64 xs.length) := by
  cases v <;> first | exact hv.elim | skip
  · cases (show xs = [] from hv); rfl
  · cases (show xs = [] from hv); rfl
  · obtain ⟨_, h2, _⟩ := hv; rw [h2]; rfl
theorem Vw.lenOf (hv : Vw E h v xs) : lenOfA v = some xs.length := by
  cases v <;> first | exact hv.elim | skip
  · cases (show xs = [] from hv); rfl
  · cases (show xs = [] from hv); rfl
  · obtain ⟨_, h2, _⟩ := hv; rw [h2]; rfl
theorem Vw.row (hv : Vw E h v xs) : rowOf h E.es v = some (encs E xs) := by
  cases v <;> first | exact hv.elim | skip
  · cases (show xs = [] from hv); rfl
  · cases (show xs = [] from hv); rfl
  · obtain ⟨h1, h2, _, vs, h4, h5, h6⟩ := hv
    subst h1
    simp only [rowOf, nbeq, decide_true, cond_true, AH.cells_get.1 h4, leLen_eq, sub_eq]
    rw [show Nat.add _ (Nat.mul _ _) = _ + _ * _ from rfl, decide_eq_true h5, cond_true, h6]
theorem Vw.one (hv : Vw E h v xs) : v.cells = [v] ∧ v.one = true := by
  cases v <;> first | exact hv.elim | exact ⟨rfl, rfl⟩
theorem Vw.isNil (hv : Vw E h v xs) : ∃ b, isNilA .sl v = some b := by
  cases v <;> first | exact hv.elim | exact ⟨_, rfl⟩
/-- The form of a slice that has an element. -/
theorem Vw.form (hv : Vw E h v xs) {i : Nat} (hi : i < xs.length) : ∃ id off vs, v = .sl id off xs.length E.es ∧ id < h.n ∧ h.cells id = some vs ∧ off + xs.length * E.es ≤ vs.length ∧ (vs.drop off).take (xs.length * E.es) = encs E xs := by
  cases v <;> first | exact hv.elim | skip
  · cases (show xs = [] from hv); simp at hi
  · cases (show xs = [] from hv); simp at hi
  · rename_i id off len es
    obtain ⟨h1, h2, h3, vs, h4, h5, h6⟩ := hv
    subst h1; subst h2
    exact ⟨id, off, vs, rfl, h3, h4, h5, h6⟩
theorem read_at {vs : List AVal} {off : Nat} (h6 : (vs.drop off).take (xs.length * E.es) = encs E xs) {j : Nat} (hj : j < xs.length) : (vs.drop (off + j * E.es)).take E.es = E.enc xs[j] := by
  have h1 : ((vs.drop off).drop (j * E.es)).take ((xs.length - j) * E.es) = encs E (xs.drop j) := by
    rw [← encs_drop, ← h6, List.drop_take, Nat.sub_mul]
  rw [List.drop_drop] at h1
  have h2 : xs.drop j = xs[j] :: xs.drop (j + 1) := List.drop_eq_getElem_cons hj
  rw [h2, encs_cons] at h1
  have h3 := congrArg (List.take E.es) h1
  have h4 : E.es ≤ (xs.length - j) * E.es := Nat.le_mul_of_pos_left _ (by omega)
  rw [List.take_take, Nat.min_eq_left h4, List.take_left' (E.len _)] at h3
  exact h3
theorem read_cell {vs : List AVal} {off : Nat} (h5 : off + xs.length * E.es ≤ vs.length) (h6 : (vs.drop off).take (xs.length * E.es) = encs E xs) {j : Nat} (hj : j < xs.length) {f : Nat} (hf : f < E.es) : readC vs (off + j * E.es + f) 1 false = (E.enc xs[j])[f]? := by
  rw [← read_at h6 hj, List.getElem?_take, if_pos hf, List.getElem?_drop]
  rfl
theorem read_row {vs : List AVal} {off : Nat} (h5 : off + xs.length * E.es ≤ vs.length) (h6 : (vs.drop off).take (xs.length * E.es) = encs E xs) {j : Nat} (hj : j < xs.length) : readC vs (off + j * E.es) E.es true = some (.agg (E.enc xs[j])) := by
  have h1 : (j + 1) * E.es ≤ xs.length * E.es := Nat.mul_le_mul_right _ hj
  rw [Nat.add_mul, Nat.one_mul] at h1
  simp only [readC, if_true]
  rw [if_pos (by omega), read_at h6 hj]

/-! ### Slices that are made -/
theorem Vw.new {g : AH} (xs : List α) : Vw E (g.push (.cells (encs E xs))) (.sl g.n 0 xs.length E.es) xs := by
  refine ⟨rfl, rfl, by simp, encs E xs, AH.cells_push_eq rfl, ?_, ?_⟩
  · rw [encs_length]; omega
  · rw [List.drop_zero, List.take_of_length_le (by rw [encs_length]; omega)]
theorem Own.of_nil {b : Nat} : Own b .nilsl := fun _ e => by cases e
theorem Own.of_slz {b : Nat} : Own b .slz := fun _ e => by cases e
theorem Own.sl {b id off len es : Nat} (hb : b ≤ id) : Own b (.sl id off len es) := fun _ e => by cases e; exact hb
theorem Off.of_nil {i : Nat} : Off .nilsl i := by simp [Off, addrId]
theorem Off.of_slz {i : Nat} : Off .slz i := by simp [Off, addrId]
theorem Off.sl {i id off len es : Nat} (hb : id ≠ i) : Off (.sl id off len es) i := by simp [Off, addrId, hb]
theorem Own.off {b i : Nat} (o : Own b v) (hi : i < b) : Off v i := fun e => by have := o i e; omega
theorem Own.mono {b c : Nat} (o : Own b v) (hc : c ≤ b) : Own c v := fun i e => Nat.le_trans hc (o i e)

/-- Appending to a slice of one's own. -/
theorem append_own {fl b : Nat} {s x : AVal} {ys : List α} {K : AVal × AH → Prop} (hs : Vw E h s xs) (ho : Own fl s) (hf : fl ≤ h.n) (hx : Vw E h x ys) (hb : (xs.length + ys.length) * (b + 1) ≤ maxRow)
    (hk : ∀ r h', Vw E h' r (xs ++ ys) → h.n ≤ h'.n → (∀ c, c ≤ h.n → Own c s → Own c r) → (∀ i, i < h.n → Off s i → h'.get i = h.get i ∧ Off r i) → (0 < ys.length → ∃ i, r = .sl i 0 (xs.length + ys.length) E.es ∧ h.n ≤ i) → K (r, h')) :
    optS (appendV fl h E.es b s x) K 0 := by
  unfold optS appendV
  rw [hx.lenOf, hx.row]
  simp only
  unfold appendA
  by_cases h0 : ys.length = 0
  · have hy : ys = [] := List.length_eq_zero_iff.1 h0
    subst hy
    rw [List.append_nil] at hk
    have key := hk s h hs (Nat.le_refl _) (fun _ _ o => o) (fun _ _ o => ⟨rfl, o⟩) (fun h => by simp at h)
    simp only [List.length_nil, nbeq, decide_true, cond_true]
    cases s <;> first | exact hs.elim | exact key | skip
    rename_i id off len es
    obtain ⟨h1, _⟩ := hs
    simp only [h1, decide_true, cond_true]
    rw [h1] at key
    exact key
  · simp only [nbeq, h0, decide_false, cond_false]
    have fresh : ∀ g : AH, g.n = h.n → (∀ i, i < h.n → Off s i → g.get i = h.get i) → (∀ i, addrId s = some i → i < h.n) → K (.sl h.n 0 (xs.length + ys.length) E.es, g.push (.cells (encs E (xs ++ ys)))) := fun g hg hget hlt =>
      hk _ _ (by have := Vw.new (E := E) (g := g) (xs ++ ys); rw [List.length_append, hg] at this; exact this) (by rw [AH.push_n]; omega)
        (fun c hc _ => Own.sl hc) (fun i hi hoff => ⟨by rw [AH.get_push_lt (by omega)]; exact hget i hi hoff, Off.sl (by omega)⟩) (fun _ => ⟨h.n, rfl, Nat.le_refl _⟩)
    cases s <;> first | exact hs.elim | skip
    · cases (show xs = [] from hs)
      simp only [List.length_nil, Nat.zero_add, List.nil_append] at hb fresh
      simp only [nble, decide_eq_true hb, cond_true]
      exact fresh h rfl (fun _ _ _ => rfl) (fun _ e => by cases e)
    · cases (show xs = [] from hs)
      simp only [List.length_nil, Nat.zero_add, List.nil_append] at hb fresh
      simp only [nble, decide_eq_true hb, cond_true]
      exact fresh h rfl (fun _ _ _ => rfl) (fun _ e => by cases e)
    · rename_i id off len es
      obtain ⟨h1, h2, h3, vs, h4, h5, h6⟩ := hs
      subst h1; subst h2
      simp only [nble, decide_eq_true (ho id rfl), decide_eq_true hb, decide_true, Bool.and_self, encs_ones, cond_true, AH.cells_get.1 h4, leLen_eq]
      rw [show Nat.add off (Nat.mul xs.length E.es) = off + xs.length * E.es from rfl, decide_eq_true h5, cond_true, sub_eq, h6, ← encs_append]
      exact fresh (h.set id .dead) rfl (fun i hi hoff => AH.get_set_ne (by rintro rfl; exact hoff rfl)) (fun i e => by cases e; exact h3)
/-- What an append has come to. -/
structure Appd {α : Type} (E : Enc α) (g : AH) (s : AVal) (xs ys : List α) (r : AVal) (g' : AH) : Prop where
  vw : Vw E g' r (xs ++ ys)
  n : g.n ≤ g'.n
  own : ∀ c, c ≤ g.n → Own c s → Own c r
  old : ∀ i, i < g.n → Off s i → g'.get i = g.get i ∧ Off r i
  form : 0 < ys.length → ∃ i, r = .sl i 0 (xs.length + ys.length) E.es ∧ g.n ≤ i
theorem append_to {fl b : Nat} {s x : AVal} {ys : List α} {K : AVal × AH → Prop} (hs : Vw E h s xs) (ho : Own fl s) (hf : fl ≤ h.n) (hx : Vw E h x ys) (hb : (xs.length + ys.length) * (b + 1) ≤ maxRow)
    (hk : ∀ r h', Appd E h s xs ys r h' → K (r, h')) : optS (appendV fl h E.es b s x) K 0 :=
  append_own hs ho hf hx hb fun r h' h1 h2 h3 h4 h5 => hk r h' ⟨h1, h2, h3, h4, h5⟩
theorem Appd.keep {g g' : AH} {s r : AVal} {ys : List α} (a : Appd E g s xs ys r g') {k : AH} (hk : Keep k g) (ho : Own k.n s) : Keep k g' :=
  ⟨Nat.le_trans hk.n a.n, fun i hi => ((a.old i (Nat.lt_of_lt_of_le hi hk.n) (ho.off hi)).1).trans (hk.get i hi)⟩
theorem Appd.cells {g g' : AH} {s r : AVal} {ys : List α} (a : Appd E g s xs ys r g') {i : Nat} (hi : i < g.n) (ho : Off s i) : g'.cells i = g.cells i := AH.cells_congr (a.old i hi ho).1
/-- Another slice, untouched by the append. -/
theorem Appd.other {g g' : AH} {s r : AVal} {ys : List α} (a : Appd E g s xs ys r g') {β : Type} {E' : Enc β} {v : AVal} {zs : List β} (hv : Vw E' g v zs) (ho : ∀ i, addrId v = some i → Off s i) : Vw E' g' v zs :=
  hv.congr a.n fun i e => (a.old i (hv.lt e) (ho i e)).1
end

/-- Numbers. -/
def IntE : Enc Int := ⟨1, fun n => [.int .i64 n], fun _ => rfl, fun _ => rfl, by omega⟩
structure Kn where
  x : Int
  y : Int
  deriving DecidableEq
def KnE : Enc Kn := ⟨2, fun k => [.int .i64 k.x, .int .i64 k.y], fun _ => rfl, fun _ => rfl, by omega⟩
/-- A letter and its way. -/
structure Sp where
  c : Nat
  o : Bool
  deriving DecidableEq
def SpE : Enc Sp := ⟨2, fun s => [.int .u8 s.c, .bool s.o], fun _ => rfl, fun _ => rfl, by omega⟩
structure Ed where
  w : List Nat
  t : Int
  o : Bool
  deriving DecidableEq
def EdE : Enc Ed := ⟨3, fun e => [.str e.w, .int .i64 e.t, .bool e.o], fun _ => rfl, fun _ => rfl, by omega⟩
structure Br where
  x : Int
  y : Int
  s : Int
  deriving DecidableEq
def BrE : Enc Br := ⟨3, fun b => [.int .i64 b.x, .int .i64 b.y, .int .i64 b.s], fun _ => rfl, fun _ => rfl, by omega⟩

section
variable {h : AH} {v : AVal} {i : Nat}
theorem Vw.int {xs : List Int} (hv : Vw IntE h v xs) (hi : i < xs.length) : ∃ id off vs, v = .sl id off xs.length 1 ∧ id < h.n ∧ h.cells id = some vs ∧ readC vs (off + i) 1 false = some (.int .i64 xs[i]) ∧ readC vs (off + i * 1) 1 false = some (.int .i64 xs[i]) := by
  obtain ⟨id, off, vs, h1, h2, h3, h4, h5⟩ := hv.form hi
  have := read_cell h4 h5 hi (f := 0) (by decide)
  simp only [Nat.add_zero] at this
  exact ⟨id, off, vs, h1, h2, h3, by simpa [IntE] using this, by simpa [IntE] using this⟩
theorem Vw.kn {xs : List Kn} (hv : Vw KnE h v xs) (hi : i < xs.length) : ∃ id off vs, v = .sl id off xs.length 2 ∧ id < h.n ∧ h.cells id = some vs ∧
    readC vs (off + i * 2) 1 false = some (.int .i64 xs[i].x) ∧ readC vs (off + i * 2 + 1) 1 false = some (.int .i64 xs[i].y) ∧ readC vs (off + i * 2) 2 true = some (.agg [.int .i64 xs[i].x, .int .i64 xs[i].y]) := by
  obtain ⟨id, off, vs, h1, h2, h3, h4, h5⟩ := hv.form hi
  exact ⟨id, off, vs, h1, h2, h3, read_cell h4 h5 hi (f := 0) (by decide), read_cell h4 h5 hi (f := 1) (by decide), read_row h4 h5 hi⟩
theorem Vw.sp {xs : List Sp} (hv : Vw SpE h v xs) (hi : i < xs.length) : ∃ id off vs, v = .sl id off xs.length 2 ∧ id < h.n ∧ h.cells id = some vs ∧
    readC vs (off + i * 2) 1 false = some (.int .u8 xs[i].c) ∧ readC vs (off + i * 2 + 1) 1 false = some (.bool xs[i].o) ∧ readC vs (off + i * 2) 2 true = some (.agg [.int .u8 xs[i].c, .bool xs[i].o]) := by
  obtain ⟨id, off, vs, h1, h2, h3, h4, h5⟩ := hv.form hi
  exact ⟨id, off, vs, h1, h2, h3, read_cell h4 h5 hi (f := 0) (by decide), read_cell h4 h5 hi (f := 1) (by decide), read_row h4 h5 hi⟩
theorem Vw.ed {xs : List Ed} (hv : Vw EdE h v xs) (hi : i < xs.length) : ∃ id off vs, v = .sl id off xs.length 3 ∧ id < h.n ∧ h.cells id = some vs ∧
    readC vs (off + i * 3) 1 false = some (.str xs[i].w) ∧ readC vs (off + i * 3 + 1) 1 false = some (.int .i64 xs[i].t) ∧ readC vs (off + i * 3 + 2) 1 false = some (.bool xs[i].o) ∧
    readC vs (off + i * 3) 3 true = some (.agg [.str xs[i].w, .int .i64 xs[i].t, .bool xs[i].o]) := by
  obtain ⟨id, off, vs, h1, h2, h3, h4, h5⟩ := hv.form hi
  exact ⟨id, off, vs, h1, h2, h3, read_cell h4 h5 hi (f := 0) (by decide), read_cell h4 h5 hi (f := 1) (by decide), read_cell h4 h5 hi (f := 2) (by decide), read_row h4 h5 hi⟩
theorem Vw.br {xs : List Br} (hv : Vw BrE h v xs) (hi : i < xs.length) : ∃ id off vs, v = .sl id off xs.length 3 ∧ id < h.n ∧ h.cells id = some vs ∧
    readC vs (off + i * 3) 1 false = some (.int .i64 xs[i].x) ∧ readC vs (off + i * 3 + 1) 1 false = some (.int .i64 xs[i].y) ∧ readC vs (off + i * 3 + 2) 1 false = some (.int .i64 xs[i].s) ∧
    readC vs (off + i * 3) 3 true = some (.agg [.int .i64 xs[i].x, .int .i64 xs[i].y, .int .i64 xs[i].s]) := by
  obtain ⟨id, off, vs, h1, h2, h3, h4, h5⟩ := hv.form hi
  exact ⟨id, off, vs, h1, h2, h3, read_cell h4 h5 hi (f := 0) (by decide), read_cell h4 h5 hi (f := 1) (by decide), read_cell h4 h5 hi (f := 2) (by decide), read_row h4 h5 hi⟩
theorem Vw.rd {α : Type} {E : Enc α} {g : AH} {id off n es : Nat} {xs : List α} (hv : Vw E g (.sl id off n es) xs) {vs : List AVal} (hc : g.cells id = some vs) {j f : Nat} (hj : j < xs.length) (hf : f < E.es) : readC vs (off + j * E.es + f) 1 false = (E.enc xs[j])[f]? := by
  obtain ⟨h1, h2, _, ws, h4, h5, h6⟩ := hv
  subst h1; subst h2
  rw [hc] at h4; cases h4
  exact read_cell h5 h6 hj hf
theorem Vw.kn2 {g : AH} {id off n es : Nat} {xs : List Kn} (hv : Vw KnE g (.sl id off n es) xs) {vs : List AVal} (hc : g.cells id = some vs) {j : Nat} (hj : j < xs.length) :
    readC vs (off + j * 2) 1 false = some (.int .i64 xs[j].x) ∧ readC vs (off + j * 2 + 1) 1 false = some (.int .i64 xs[j].y) :=
  ⟨hv.rd hc hj (f := 0) (by decide), hv.rd hc hj (f := 1) (by decide)⟩
theorem Vw.kn1 {g : AH} {x y : Int} : Vw KnE (g.push (.cells [.int .i64 x, .int .i64 y])) (.sl g.n 0 1 2) [⟨x, y⟩] := Vw.new (E := KnE) (g := g) [⟨x, y⟩]
theorem Vw.cast {α : Type} {E : Enc α} {g : AH} {v : AVal} {xs ys : List α} (hv : Vw E g v xs) (e : xs = ys) : Vw E g v ys := e ▸ hv
end
attribute [go_sem] AH.cells_push_eq AH.cells_push_lt AH.cells_set_ne AH.get_push_eq AH.get_push_lt AH.get_set_ne storeA_ptr wrapK_i64 natOf_pos nextA_ptr nextC_siter apart1_some wrapK_u8 wrapK_i32 wrapK_u32 wrapK_u64
end
end Go.Proofs.YtndlfkibcelhmaaGreatDoor.Ai
end
