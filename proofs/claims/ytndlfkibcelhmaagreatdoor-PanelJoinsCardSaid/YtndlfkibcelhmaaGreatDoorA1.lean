/- The evaluator over abstract values, the compiler into its code, and its soundness over the machine. -/
import Derived.Test.YtndlfkibcelhmaaGreatDoorA0
import Derived.Calls
import Derived.AtR
import Derived.RangeFuncIn
import Derived.Orders
import Derived.Shelf.Strings.Builder1
import Derived.Lib.SmallJoins
import Derived.Shelf.Strings.Builder2
set_option linter.all false
section
/- Maps, and ranging over strings. -/
namespace Go.Proofs.YtndlfkibcelhmaaGreatDoor.Ai
open Go

section
variable {P : Program} {F B fl : Nat} {μ : Mu} {h : AH} {w : World} {ts : Tm} {a : Act} {E : Env}

theorem shT_spec {t : TypeId} {sh : Sh} (h : shT P t = some sh) : isAggT P t = some sh.agg ∧ kindsT P 8 t = some sh.ks := by
  unfold shT at h
  split at h
  · rename_i g ks h1 h2; cases h; exact ⟨h1, h2⟩
  · cases h

theorem equal_sh {t : TypeId} {sh : Sh} (hs : shT P t = some sh) {x y : AVal} {u v : Value} (rx : Rep μ x u) (ry : Rep μ y v) {b : Bool} (h : eqA sh x y = some b) (w : World) :
    (Op.equal t u v).run P w = .ok b w := by
  obtain ⟨h1, h2⟩ := shT_spec hs
  exact equalIn_plain 8 t sh.ks sh.agg h2 h1 Op.maxDepth (by decide) x y u v b rx ry h w

theorem part_sh {t : TypeId} {ks : List Kd} {g : Bool} (hg : isAggT P t = some g) (hn : sizeT P t = some ks.length) (h1 : g = false → ks.length = 1)
    {as1 bs : List AVal} {cs : Array Value} (ha : Reps μ as1 cs.toList) {off : Nat}
    {r : Bool} (he : eqSs ks ((as1.drop off).take ks.length) ((bs.drop off).take ks.length) = some r) (w : World) :
    ∃ xa xb x, (part t cs off).run P w = .ok x w ∧ Rep μ xa x ∧ eqA ⟨g, ks⟩ xa xb = some r := by
  have hl := eqSs_length he
  simp only [List.length_take, List.length_drop] at hl
  by_cases h0 : ks.length = 0
  · have hgt : g = true := by
      cases g with
      | true => rfl
      | false => have := h1 rfl; omega
    subst hgt
    unfold part
    simp only [Sem.run_bind, run_isAgg hg, Result.andThen_ok, Sem.run_ite, run_sizeOf hn, if_true]
    have hks : ks = [] := List.length_eq_zero_iff.1 h0
    subst hks
    exact ⟨.agg [], .agg [], _, rfl, by simp only [Rep]; exact ⟨_, rfl, by simp; exact Reps.nil⟩, by simpa [eqA] using he⟩
  have hpos : g = false → 0 < ks.length := fun h => by omega
  obtain ⟨x, hx, rx⟩ := run_part hn hg ha (off := off) (by omega) hpos w
  cases g with
  | true =>
    simp only [if_true] at rx
    exact ⟨_, .agg ((bs.drop off).take ks.length), x, hx, rx, by simpa [eqA] using he⟩
  | false =>
    have hn1 := h1 rfl
    obtain ⟨k, rfl⟩ : ∃ k, ks = [k] := by
      match ks, hn1 with
      | [k], _ => exact ⟨k, rfl⟩
    simp only [List.length_singleton] at hl he
    rw [take_one as1 (by omega), take_one bs (by omega)] at he
    simp only [Bool.false_eq_true, if_false] at rx
    exact ⟨_, (bs[off]?).getD undefA, x, hx, rx, by simpa [eqA] using eqSs_one he⟩

/-- A plain value is a key that the machine takes. -/
theorem checkKey_plain {empty : Bool} : ∀ (n : Nat) (t : TypeId) (ks : List Kd) (g : Bool), kindsT P n t = some ks → isAggT P t = some g → ∀ (d : Nat), n ≤ d →
    ∀ (x y : AVal) (v : Value) (b : Bool), Rep μ x v → eqA ⟨g, ks⟩ x y = some b → ∀ w, (Instr.checkKey empty d t v).run P w = .ok () w
  | 0, _, _, _, h, _, _, _, _, _, _, _, _, _, _ => by simp [kindsT] at h
  | n + 1, t, ks, g, h, hg, d, hd, x, y, v, b, rx, he, w => by
    obtain ⟨d, rfl⟩ : ∃ m, d = m + 1 := ⟨d - 1, by omega⟩
    simp only [kindsT] at h
    split at h
    case h_2 => cases h
    rename_i l hl
    replace h := bif_some h
    obtain ⟨_, h⟩ := h
    simp only [Option.some.injEq] at h; subst h
    split at hl
    · rename_i hu; simp [Instr.checkKey, run_underlying hu]
    · rename_i hu; simp [Instr.checkKey, run_underlying hu]
    · rename_i hu; simp [Instr.checkKey, run_underlying hu]
    · -- struct
      rename_i fs hu
      unfold isAggT at hg; rw [hu] at hg; simp only [Option.some.injEq] at hg; subst hg
      cases hst : P.stoodInHeld t with
      | true => rw [hst] at hl; simp at hl
      | false =>
      rw [hst] at hl; simp only [cond_false] at hl
      simp only [eqA, cond_true] at he
      cases x <;> cases y <;> simp only [reduceCtorEq] at he
      rename_i as1 bs
      obtain ⟨cs, rfl, qa⟩ := rep_agg rx
      simp only [Instr.checkKey, Sem.run_bind, run_underlying hu, Result.andThen_ok]
      rw [← Array.forIn_toList]
      have key : ∀ (l : List Field) (off : Nat) (ks : List Kd) (r : Bool), kindsF (kindsT P n) l off = some ks → eqSs ks (as1.drop off) (bs.drop off) = some r →
          ∀ w, (forIn l PUnit.unit fun (f : Field) (_ : PUnit) => do
            if f.name ≠ "_" then
              let v ← part f.type cs f.offset
              Instr.checkKey empty d f.type v
              pure (ForInStep.yield PUnit.unit)
            else pure (ForInStep.yield PUnit.unit) : Sem PUnit).run P w = .ok PUnit.unit w := by
        intro l
        induction l with
        | nil => intro off ks r hk he w; simp
        | cons f l ihl =>
          intro off ks r hk he w
          simp only [kindsF] at hk
          cases hkf : kindsT P n f.type with
          | none => rw [hkf] at hk; simp at hk
          | some kf =>
          rw [hkf] at hk; simp only at hk
          replace hk := bif_some hk
          obtain ⟨hc, hk⟩ := hk
          cases hkl : kindsF (kindsT P n) l (off + kf.length) with
          | none => rw [hkl] at hk; simp at hk
          | some kl =>
          rw [hkl] at hk; simp only [Option.some.injEq] at hk; subst hk
          simp only [Bool.and_eq_true, bne_iff_ne, ne_eq] at hc
          have hoff : f.offset = off := by simpa [Nat.beq_eq] using hc.1
          obtain ⟨r1, r2, e1, e2, _⟩ := eqSs_append kf kl _ _ _ he
          rw [List.drop_drop, List.drop_drop] at e2
          obtain ⟨gf, hgf, h1f⟩ := kindsT_agg hkf
          obtain ⟨xa, xb, z, hz, rz, hez⟩ := part_sh hgf (kindsT_size hkf) h1f qa e1 w
          simp only [List.forIn_cons, ne_eq, hc.2, not_false_eq_true, if_true, Sem.run_bind, hoff, hz, Result.andThen_ok, checkKey_plain n f.type kf gf hkf hgf d (by omega) xa xb z r1 rz hez, Sem.run_pure]
          exact ihl (off + kf.length) kl r2 hkl e2 w
      have := key fs.toList 0 _ b hl (by simpa using he) w
      simp only [Sem.run_pure]
      exact congrArg (fun r => Result.andThen r fun _ w' => Result.ok () w') this
    · -- array
      rename_i k e hu
      unfold isAggT at hg; rw [hu] at hg; simp only [Option.some.injEq] at hg; subst hg
      simp only [Option.map_eq_some_iff] at hl
      obtain ⟨ke, hke, rfl⟩ := hl
      simp only [eqA, cond_true] at he
      cases x <;> cases y <;> simp only [reduceCtorEq] at he
      rename_i as1 bs
      obtain ⟨cs, rfl, qa⟩ := rep_agg rx
      obtain ⟨ge, hge, h1e⟩ := kindsT_agg hke
      simp only [Instr.checkKey, Sem.run_bind, run_underlying hu, Result.andThen_ok]
      rw [Std.Legacy.Range.forIn_eq_forIn_range']
      simp only [Std.Legacy.Range.size, Nat.sub_zero, Nat.add_one_sub_one, Nat.div_one]
      have key : ∀ (m i : Nat) (r : Bool), eqSs (repK m ke) (as1.drop (i * ke.length)) (bs.drop (i * ke.length)) = some r → ∀ w, (forIn (List.range' i m) PUnit.unit fun (j : Nat) (_ : PUnit) => do
            let n ← sizeOf e
            let v ← part e cs (j * n)
            Instr.checkKey empty d e v
            pure (ForInStep.yield PUnit.unit) : Sem PUnit).run P w = .ok PUnit.unit w := by
        intro m
        induction m with
        | zero => intro i r he w; simp
        | succ m ihm =>
          intro i r he w
          simp only [repK] at he
          obtain ⟨r1, r2, e1, e2, _⟩ := eqSs_append ke _ _ _ _ he
          rw [List.drop_drop, List.drop_drop, show i * ke.length + ke.length = (i + 1) * ke.length from by rw [Nat.add_mul]; omega] at e2
          obtain ⟨xa, xb, z, hz, rz, hez⟩ := part_sh hge (kindsT_size hke) h1e qa e1 w
          simp only [List.range'_succ, List.forIn_cons, Sem.run_bind, run_sizeOf (kindsT_size hke), hz, Result.andThen_ok, checkKey_plain n e ke ge hke hge d (by omega) xa xb z r1 rz hez, Sem.run_pure]
          exact ihm (i + 1) r2 e2 w
      have := key k 0 b (by simpa using he) w
      simp only [Sem.run_pure]
      exact congrArg (fun r => Result.andThen r fun _ w' => Result.ok () w') this
    · cases hl

/-- What a search for a key comes to. -/
def Found (μ : Mu) (sh : Sh) (k : AVal) (es : List (AVal × AVal)) (l : List MapEntry) (i : Nat) : Option AVal → Option (Nat × Value) → Prop
  | none, none => ∀ nv, putA sh k nv es = some (es ++ [(k, nv)])
  | some v, some (j, x) => ∃ j0 e k', j = i + j0 ∧ l[j0]? = some e ∧ e.val = x ∧ Rep μ v x ∧ Rep μ k' e.key ∧ eqA sh k k' = some true ∧ ∀ nv, putA sh k nv es = some (es.set j0 (k, nv))
  | _, _ => False

theorem Found.here {sh : Sh} {k k' v' : AVal} {es : List (AVal × AVal)} {l : List MapEntry} {e : MapEntry} (i : Nat) (h : eqA sh k k' = some true) (r1 : Rep μ k' e.key) (r2 : Rep μ v' e.val) :
    Found μ sh k ((k', v') :: es) (e :: l) i (some v') (some (i, e.val)) :=
  ⟨0, e, k', rfl, rfl, rfl, r2, r1, h, fun nv => by simp [putA, h]⟩
theorem Found.later {sh : Sh} {k k' v' : AVal} {es : List (AVal × AVal)} {l : List MapEntry} {e : MapEntry} {i : Nat} {r : Option AVal} {q : Option (Nat × Value)} (h : eqA sh k k' = some false) (hf : Found μ sh k es l (i + 1) r q) :
    Found μ sh k ((k', v') :: es) (e :: l) i r q := by
  cases r <;> cases q <;> simp only [Found] at hf ⊢
  · intro nv; simp [putA, h, hf nv]
  · rename_i v q
    obtain ⟨j, x⟩ := q
    obtain ⟨j0, e', k'', h1, h2, h3, h4, h5, h6, h7⟩ := hf
    exact ⟨j0 + 1, e', k'', by omega, by simpa using h2, h3, h4, h5, h6, fun nv => by simp [putA, h, h7 nv]⟩

/-- Looking up a plain key: the machine finds what the evaluator finds. -/
theorem findAsking_rep {t : TypeId} {sh : Sh} (hs : shT P t = some sh) {k : AVal} {kv : Value} (rk : Rep μ k kv) :
    ∀ {es : List (AVal × AVal)} {l : List MapEntry} {r : Option AVal}, EntsRep μ es l → findA sh k es = some r → ∀ (i : Nat) w,
      ∃ q, (Instr.findAsking t kv l i).run P w = .ok q w ∧ Found μ sh k es l i r q
  | [], l, r, he, hf, i, w => by
    simp only [EntsRep] at he; subst he
    simp only [findA, Option.some.injEq] at hf; subst hf
    exact ⟨none, by simp [Instr.findAsking], fun nv => rfl⟩
  | (k', v') :: es, l, r, he, hf, i, w => by
    simp only [EntsRep] at he
    obtain ⟨e, l', rfl, r1, r2, r3⟩ := he
    simp only [findA] at hf
    cases hq : eqA sh k k' with
    | none => rw [hq] at hf; simp at hf
    | some b =>
      rw [hq] at hf
      have heq := equal_sh hs rk r1 hq w
      cases b with
      | true =>
        simp only [Option.some.injEq] at hf; subst hf
        refine ⟨some (i, e.val), ?_, .here i hq r1 r2⟩
        simp only [Instr.findAsking, Sem.run_bind, heq, Result.andThen_ok, if_true, Sem.run_pure]
      | false =>
        simp only at hf
        obtain ⟨q, h1, h2⟩ := findAsking_rep hs rk r3 hf (i + 1) w
        refine ⟨q, ?_, .later hq h2⟩
        simp only [Instr.findAsking, Sem.run_bind, heq, Result.andThen_ok, Bool.false_eq_true, if_false, h1]

theorem sameNow_rep {t : TypeId} {sh : Sh} (hs : shT P t = some sh) {d : TypeDesc} (hd : P.underlying t = some d) {x y : AVal} {u v : Value} (rx : Rep μ x u) (ry : Rep μ y v) {b c : Bool} (h : eqA sh x y = some b)
    (hn : Instr.sameNow d u v = some c) : c = b := by
  have heq := equal_sh hs rx ry h default
  unfold Instr.sameNow at hn
  split at hn
  · rename_i k1 k2 a1 k3 a2
    split at hn
    · rename_i e; subst e
      simp only [Option.some.injEq] at hn
      unfold Op.equal at heq
      obtain ⟨dd, hdd⟩ : ∃ dd, Op.maxDepth = dd + 1 := ⟨9999, rfl⟩
      rw [hdd] at heq
      simp only [Op.equalIn, Sem.run_bind, run_underlying hd, Result.andThen_ok, if_true, Sem.run_pure, Result.ok.injEq] at heq
      rw [← hn]; exact heq.1
    · cases hn
  · simp only [Option.some.injEq] at hn
    unfold Op.equal at heq
    obtain ⟨dd, hdd⟩ : ∃ dd, Op.maxDepth = dd + 1 := ⟨9999, rfl⟩
    rw [hdd] at heq
    simp only [Op.equalIn, Sem.run_bind, run_underlying hd, Result.andThen_ok, Sem.run_pure, Result.ok.injEq] at heq
    rw [← hn]; exact heq.1
  · simp only [Option.some.injEq] at hn
    unfold Op.equal at heq
    obtain ⟨dd, hdd⟩ : ∃ dd, Op.maxDepth = dd + 1 := ⟨9999, rfl⟩
    rw [hdd] at heq
    simp only [Op.equalIn, Sem.run_bind, run_underlying hd, Result.andThen_ok, Sem.run_pure, Result.ok.injEq] at heq
    rw [← hn]; exact heq.1
  · cases hn

theorem findNow_rep {t : TypeId} {sh : Sh} (hs : shT P t = some sh) {d : TypeDesc} (hd : P.underlying t = some d) {k : AVal} {kv : Value} (rk : Rep μ k kv) :
    ∀ {es : List (AVal × AVal)} {l : List MapEntry} {r : Option AVal}, EntsRep μ es l → findA sh k es = some r → ∀ (i : Nat) q, Instr.findNow d kv l i = some q → Found μ sh k es l i r q
  | [], l, r, he, hf, i, q, hq => by
    simp only [EntsRep] at he; subst he
    simp only [findA, Option.some.injEq] at hf; subst hf
    simp only [Instr.findNow, Option.some.injEq] at hq; subst hq
    exact fun nv => rfl
  | (k', v') :: es, l, r, he, hf, i, q, hq => by
    simp only [EntsRep] at he
    obtain ⟨e, l', rfl, r1, r2, r3⟩ := he
    simp only [findA] at hf
    cases hb : eqA sh k k' with
    | none => rw [hb] at hf; simp at hf
    | some b =>
      rw [hb] at hf
      simp only [Instr.findNow] at hq
      cases hn : Instr.sameNow d kv e.key with
      | none => rw [hn] at hq; simp at hq
      | some c =>
        have := sameNow_rep hs hd rk r1 hb hn
        subst this
        rw [hn] at hq
        cases c with
        | true =>
          simp only [Option.some.injEq] at hq hf
          subst hq; subst hf
          exact .here i hb r1 r2
        | false =>
          simp only at hq hf
          exact .later hb (findNow_rep hs hd rk r3 hf (i + 1) q hq)

theorem findKey_rep {t : TypeId} {sh : Sh} (hs : shT P t = some sh) {k : AVal} {kv : Value} (rk : Rep μ k kv) {es : List (AVal × AVal)} {l : List MapEntry} {r : Option AVal} (he : EntsRep μ es l) (hf : findA sh k es = some r) (w : World) :
    ∃ q, (Instr.findKey t kv l).run P w = .ok q w ∧ Found μ sh k es l 0 r q := by
  obtain ⟨_, h2⟩ := shT_spec hs
  have hd : ∃ d, P.underlying t = some d := by
    simp only [kindsT] at h2
    split at h2
    · rename_i l hl; split at hl <;> first | (rename_i hu; exact ⟨_, hu⟩) | cases hl
    · cases h2
  obtain ⟨d, hd⟩ := hd
  simp only [Instr.findKey, Sem.run_bind, run_underlying hd, Result.andThen_ok]
  cases hn : Instr.findNow d kv l 0 with
  | some q => exact ⟨q, rfl, findNow_rep hs hd rk he hf 0 q hn⟩
  | none =>
    obtain ⟨q, h1, h2⟩ := findAsking_rep hs rk he hf 0 w
    exact ⟨q, h1, h2⟩

theorem eqA_some_of_find {sh : Sh} {k : AVal} {e : AVal × AVal} {es : List (AVal × AVal)} {r : Option AVal} (h : findA sh k (e :: es) = some r) : ∃ b, eqA sh k e.1 = some b := by
  obtain ⟨k', v⟩ := e
  simp only [findA] at h
  cases hb : eqA sh k k' with
  | none => rw [hb] at h; simp at h
  | some b => exact ⟨b, rfl⟩

theorem shT_under {t : TypeId} {sh : Sh} (hs : shT P t = some sh) : ∃ d, P.underlying t = some d := by
  obtain ⟨_, h2⟩ := shT_spec hs
  simp only [kindsT] at h2
  split at h2
  · rename_i l hl; split at hl <;> first | (rename_i hu; exact ⟨_, hu⟩) | cases hl
  · cases h2

def lookRes (ok : Bool) (z : AVal) (r : Option AVal) : AVal :=
  match r with
  | some u => bif ok then .tuple [u, .bool true] else u
  | none => bif ok then .tuple [z, .bool false] else z
theorem good_lookup (hr : HR P F B μ h w.heap) (ht : TmR μ ts a.tmps) (t : TypeId) (m k : Operand) (ok : Bool) : Good P F B fl μ h w ts a E (.lookup t m k ok) := by
  intro o ao v h' ho hc ha
  simp only [cOp?] at hc
  split at hc
  case h_2 => cases hc
  rename_i kt e m' k' hu hm hk
  split at hc
  case h_2 => cases hc
  rename_i z hz
  simp only [Option.map_eq_some_iff] at hc
  obtain ⟨sh, hsh, rfl⟩ := hc
  obtain ⟨i, zv, hi, hzv, hov⟩ := zeroT_spec hz
  have rz : Rep μ z zv := ofV_rep zv z hov
  have rm := opd_rep hr ht hm
  have rk := opd_rep hr ht hk
  simp only [aOp, Option.map_eq_some_iff, Prod.mk.injEq] at ha
  obtain ⟨v', hl, rfl, rfl⟩ := ha
  simp only [execOp, ho]
  unfold lookupA at hl
  split at hl
  case h_1 => cases hl
  rename_i b hb
  split at hl
  case h_1 => cases hl
  rename_i es hes
  obtain ⟨h1, h2⟩ := shT_spec hsh
  have hchk : ∀ empty w, (Instr.checkKey empty 10000 kt (a.eval k)).run P w = .ok () w := fun empty w => checkKey_plain 8 kt sh.ks sh.agg h2 h1 10000 (by omega) _ _ _ _ rk hb w
  have hf : ∃ r, findA sh (ev ts k') es = some r ∧ v' = lookRes ok z r := by
    cases hfa : findA sh (ev ts k') es with
    | none => rw [hfa] at hl; simp at hl
    | some r =>
      rw [hfa] at hl
      cases r with
      | none => simp only [Option.some.injEq] at hl; exact ⟨none, rfl, hl.symm⟩
      | some u => simp only [Option.some.injEq] at hl; exact ⟨some u, rfl, hl.symm⟩
  obtain ⟨r, hfa, rfl⟩ := hf
  have fin : ∀ arr : Array MapEntry, EntsRep μ es arr.toList → (∀ q, (Instr.findKey kt (a.eval k) arr.toList).run P w = .ok q w → ∀ x, (match q with
        | some (_, v) => x = (if ok then .tuple #[v, .bool true] else v)
        | none => x = (if ok then .tuple #[zv, .bool false] else zv)) → (Instr.lookup t (a.eval m) (a.eval k) ok).run P w = .ok x w) → OpEnd P F B fl μ h w (do pure (.value (← Instr.lookup t (a.eval m) (a.eval k) ok))) (lookRes ok z r) h := by
    intro arr he hrun
    obtain ⟨q, hq, hfound⟩ := findKey_rep hsh rk he hfa w
    cases r <;> cases q <;> simp only [Found] at hfound
    · cases ok with
      | true => exact .val hr (hrun _ hq _ rfl) (by simp only [lookRes, cond_true, Rep]; exact ⟨_, rfl, Reps.cons rz (Reps.cons (by simp only [Rep]) Reps.nil)⟩)
      | false => exact .val hr (hrun _ hq _ rfl) (by simpa [lookRes] using rz)
    · rename_i u q
      obtain ⟨j, x⟩ := q
      obtain ⟨j0, e', k'', _, _, _, hux, _⟩ := hfound
      cases ok with
      | true => exact .val hr (hrun _ hq _ rfl) (by simp only [lookRes, cond_true, Rep]; exact ⟨_, rfl, Reps.cons hux (Reps.cons (by simp only [Rep]) Reps.nil)⟩)
      | false => exact .val hr (hrun _ hq _ rfl) (by simpa [lookRes] using hux)
  unfold entsOf at hes
  split at hes
  · rename_i e2
    rw [e2] at rm; simp only [Rep] at rm
    cases hes
    refine fin #[] (by simp only [EntsRep]) fun q hq x hx => ?_
    simp only [Instr.lookup, Sem.run_bind, run_underlying hu, Result.andThen_ok, rm, Sem.run_pure, hchk, hq]
    cases q with
    | none => simp only at hx; subst hx; simp only [Sem.run_bind, run_zeroValue hi hzv, Result.andThen_ok, Sem.run_pure]
    | some q => obtain ⟨j, u⟩ := q; simp only at hx; subst hx; simp only [Sem.run_bind, Result.andThen_ok, Sem.run_pure]
  · rename_i id e2
    rw [e2] at rm; simp only [Rep] at rm
    obtain ⟨mb, hmb, rm⟩ := rm
    split at hes
    case h_2 => cases hes
    rename_i es' hg
    cases hes
    obtain ⟨arr, clock, hbk, he⟩ := hr.obj id mb _ hmb hg
    refine fin arr he fun q hq x hx => ?_
    have hget : (getObj mb.b).run P w = .ok (.map arr clock) w := by simp only [getObj, Sem.run, hbk]
    simp only [Instr.lookup, Sem.run_bind, run_underlying hu, Result.andThen_ok, rm, hget, Sem.run_pure, hchk, hq]
    cases q with
    | none => simp only at hx; subst hx; simp only [Sem.run_bind, run_zeroValue hi hzv, Result.andThen_ok, Sem.run_pure]
    | some q => obtain ⟨j, u⟩ := q; simp only at hx; subst hx; simp only [Sem.run_bind, Result.andThen_ok, Sem.run_pure]
  · cases hes

/-! ### A map written -/
theorem sameBits_one {k : Kd} {x y : AVal} {u v : Value} (rx : Rep μ x u) (ry : Rep μ y v) (h : eqS k x y = some true) (n : Nat) : Instr.sameBits n v u = true := by
  cases k <;> cases x <;> cases y <;> simp only [eqS, reduceCtorEq] at h
  · simp only [Rep] at rx ry; subst rx; subst ry
    rename_i b b'
    have h' : b = b' := by cases b <;> cases b' <;> simp_all
    subst h'
    unfold Instr.sameBits; simp
  · simp only [Rep] at rx ry; subst rx; subst ry
    obtain ⟨h1, h2⟩ := bif_some h
    have := eqK_iff.1 h1; subst this
    simp only [Option.some.injEq, eqI, decide_eq_true_eq] at h2; subst h2
    unfold Instr.sameBits; simp
  · simp only [Rep] at rx ry
    obtain ⟨s1, rfl, e1⟩ := rx
    obtain ⟨s2, rfl, e2⟩ := ry
    simp only [Option.some.injEq, eqL_iff, decide_eq_true_eq] at h
    rw [← e1, ← e2] at h
    have := map_toNat_inj.1 h
    have hb : s1 = s2 := by
      cases s1; cases s2; simp at this; simp [this]
    subst hb
    unfold Instr.sameBits; cases s1; rename_i d; show (d == d) = true; simp

theorem sameBits_many (n : Nat) : ∀ {ks : List Kd} {as1 bs : List AVal} {us vs : List Value}, Reps μ as1 us → Reps μ bs vs → eqSs ks as1 bs = some true → ((vs.zip us).all fun (x, y) => Instr.sameBits n x y) = true
  | [], [], [], _, _, ra, rb, _ => by rw [Reps.nil_iff.1 ra, Reps.nil_iff.1 rb]; rfl
  | [], _ :: _, _, _, _, _, _, h => by simp [eqSs] at h
  | [], [], _ :: _, _, _, _, _, h => by simp [eqSs] at h
  | _ :: _, [], _, _, _, _, _, h => by simp [eqSs] at h
  | _ :: _, _ :: _, [], _, _, _, _, h => by simp [eqSs] at h
  | k :: ks, a :: as1, b :: bs, us, vs, ra, rb, h => by
    obtain ⟨u, us', rfl, r1, r2⟩ := Reps.cons_iff.1 ra
    obtain ⟨v, vs', rfl, r3, r4⟩ := Reps.cons_iff.1 rb
    simp only [eqSs] at h
    cases hq : eqS k a b with
    | none => rw [hq] at h; simp at h
    | some c =>
      rw [hq] at h
      cases c with
      | false => simp only at h; cases hh : eqSs ks as1 bs <;> rw [hh] at h <;> simp at h
      | true =>
        simp only at h
        simp only [List.zip_cons_cons, List.all_cons, Bool.and_eq_true]
        exact ⟨sameBits_one r1 r3 hq n, sameBits_many n r2 r4 h⟩

theorem sameBits_plain {sh : Sh} {x y : AVal} {u v : Value} (rx : Rep μ x u) (ry : Rep μ y v) (h : eqA sh x y = some true) : Instr.sameBits 10000 v u = true := by
  unfold eqA at h
  cases hg : sh.agg with
  | true =>
    rw [hg] at h; simp only [cond_true] at h
    cases x <;> cases y <;> simp only [reduceCtorEq] at h
    obtain ⟨a, rfl, ra⟩ := rep_agg rx
    obtain ⟨b, rfl, rb⟩ := rep_agg ry
    obtain ⟨hl1, hl2⟩ := eqSs_length h
    have e1 := ra.length
    have e2 := rb.length
    simp only [Array.length_toList] at e1 e2
    obtain ⟨m, hm⟩ : ∃ m, 10000 = m + 1 := ⟨9999, rfl⟩
    rw [hm]
    unfold Instr.sameBits
    simp only [Bool.and_eq_true, beq_iff_eq]
    exact ⟨by omega, sameBits_many m ra rb h⟩
  | false =>
    rw [hg] at h; simp only [cond_false] at h
    split at h
    · exact sameBits_one rx ry h _
    · cases h

theorem EntsRep.set : ∀ {es : List (AVal × AVal)} {l : List MapEntry} {j : Nat} {e : MapEntry} {k v : AVal}, EntsRep μ es l → Rep μ k e.key → Rep μ v e.val → EntsRep μ (es.set j (k, v)) (l.set j e)
  | [], l, j, e, k, v, h, _, _ => by simp only [EntsRep] at h; subst h; simp only [List.set_nil, EntsRep]
  | (k', v') :: es, l, j, e, k, v, h, hk, hv => by
    simp only [EntsRep] at h
    obtain ⟨e', l', rfl, r1, r2, r3⟩ := h
    cases j with
    | zero => simp only [List.set_cons_zero, EntsRep]; exact ⟨e, l', rfl, hk, hv, r3⟩
    | succ j => simp only [List.set_cons_succ, EntsRep]; exact ⟨e', l'.set j e, rfl, r1, r2, EntsRep.set r3 hk hv⟩
theorem EntsRep.snoc : ∀ {es : List (AVal × AVal)} {l : List MapEntry} {e : MapEntry} {k v : AVal}, EntsRep μ es l → Rep μ k e.key → Rep μ v e.val → EntsRep μ (es ++ [(k, v)]) (l ++ [e])
  | [], l, e, k, v, h, hk, hv => by
    simp only [EntsRep] at h; subst h
    simp only [List.nil_append, EntsRep]; exact ⟨e, [], rfl, hk, hv, rfl⟩
  | (k', v') :: es, l, e, k, v, h, hk, hv => by
    simp only [EntsRep] at h
    obtain ⟨e', l', rfl, r1, r2, r3⟩ := h
    simp only [List.cons_append, EntsRep]; exact ⟨e', l' ++ [e], rfl, r1, r2, EntsRep.snoc r3 hk hv⟩

theorem run_setMap {b : Nat} {arr : Array MapEntry} {clock : Nat} (hb : w.heap[b]? = some (.map arr clock)) (o : Obj) :
    (setObj b o).run P w = .ok () { w with heap := w.heap.setIfInBounds b o } := by
  simp only [setObj, Sem.run, hb]

theorem putA_find {sh : Sh} {k v : AVal} : ∀ {es es' : List (AVal × AVal)}, putA sh k v es = some es' → ∃ r, findA sh k es = some r
  | [], _, _ => ⟨none, rfl⟩
  | (k', v') :: es, es', h => by
    simp only [putA, findA] at h ⊢
    cases hq : eqA sh k k' with
    | none => rw [hq] at h; simp at h
    | some b =>
      rw [hq] at h
      cases b with
      | true => exact ⟨_, rfl⟩
      | false =>
        simp only [Option.map_eq_some_iff] at h ⊢
        obtain ⟨es1, h1, _⟩ := h
        exact putA_find h1

/-- A map of the run's own, with an entry put in. -/
theorem mapUpd_sound (hr : HR P F B μ h w.heap) (hfl : F ≤ fl) {t kt e : TypeId} {sh : Sh} (hu : P.underlying t = some (.map kt e)) (hsh : shT P kt = some sh) {m k v : AVal} {mv kv vv : Value}
    (rm : Rep μ m mv) (rk : Rep μ k kv) (rv : Rep μ v vv) {h' : AH} (ha : mapUpdA fl sh h m k v = some h') :
    ∃ w', (Instr.mapUpdate t mv kv vv).run P w = .ok () w' ∧ HR P F B μ h' w'.heap ∧ Ext F fl μ h w.heap μ h' w'.heap ∧ Same w w' := by
  unfold mapUpdA at ha
  split at ha
  case h_1 => cases ha
  rename_i b hb
  split at ha
  case h_2 => cases ha
  rename_i id
  replace ha := bif_some ha
  obtain ⟨hfi, ha⟩ := ha
  rw [nble, decide_eq_true_eq] at hfi
  split at ha
  case h_2 => cases ha
  rename_i es hg
  simp only [Option.map_eq_some_iff] at ha
  obtain ⟨es', hp, rfl⟩ := ha
  simp only [Rep] at rm
  obtain ⟨mb, hmb, rfl⟩ := rm
  obtain ⟨arr, clock, hbk, he⟩ := hr.obj id mb _ hmb hg
  obtain ⟨h1, h2⟩ := shT_spec hsh
  have hchk : (Instr.checkKey false 10000 kt kv).run P w = .ok () w := checkKey_plain 8 kt sh.ks sh.agg h2 h1 10000 (by omega) _ _ _ _ rk hb w
  obtain ⟨r, hfa⟩ := putA_find hp
  obtain ⟨q, hq, hfound⟩ := findKey_rep hsh rk he hfa w
  have hget : (getObj mb.b).run P w = .ok (.map arr clock) w := by simp only [getObj, Sem.run, hbk]
  have hlv : Live h id := ⟨_, hg, by simp⟩
  have hbl : mb.b < w.heap.size := by
    rcases Nat.lt_or_ge mb.b w.heap.size with h' | h'
    · exact h'
    · rw [Array.getElem?_eq_none h'] at hbk; cases hbk
  have fin : ∀ (arr' : Array MapEntry) (clock' : Nat), EntsRep μ es' arr'.toList → (Instr.mapUpdate t (.map (some mb.b)) kv vv).run P w = .ok () { w with heap := w.heap.setIfInBounds mb.b (.map arr' clock') } →
      ∃ w', (Instr.mapUpdate t (.map (some mb.b)) kv vv).run P w = .ok () w' ∧ HR P F B μ (h.set id (.map es')) w'.heap ∧ Ext F fl μ h w.heap μ (h.set id (.map es')) w'.heap ∧ Same w w' := by
    intro arr' clock' he' hrun
    refine ⟨_, hrun, hr.upd hmb (by omega) hlv _ _ (by simp) (fun b' hb' => by simp [Ne.symm hb']) ⟨arr', clock', by simp [hbl], he'⟩,
      Ext.upd hr hmb hfi hlv _ _ (by simp) (fun b' hb' => by simp [Ne.symm hb']) (fun l hl => by rw [hbk] at hl; cases hl), ⟨rfl, rfl⟩⟩
  cases r <;> cases q <;> simp only [Found] at hfound
  · -- a new entry
    rw [hfound v] at hp
    simp only [Option.some.injEq] at hp; subst hp
    refine fin (arr.push { key := kv, val := vv, born := clock }) (clock + 1) (by rw [Array.toList_push]; exact he.snoc rk rv) ?_
    simp only [Instr.mapUpdate, Sem.run_bind, run_underlying hu, Result.andThen_ok, hget, hchk, hq]
    exact run_setMap hbk _
  · -- an entry that is there
    rename_i u q
    obtain ⟨j, x⟩ := q
    obtain ⟨j0, e0, k0, hj, he0, hx, _, rk0, heq, hput⟩ := hfound
    rw [hput v] at hp
    simp only [Option.some.injEq] at hp; subst hp
    have hj' : j = j0 := by omega
    subst hj'
    have hsame := sameBits_plain rk rk0 heq
    have hgk : arr[j]? = some e0 := by simpa using he0
    refine fin (arr.modify j fun e => { e with key := kv, val := vv }) clock ?_ ?_
    · have hjl : j < arr.toList.length := by
        rcases Nat.lt_or_ge j arr.toList.length with h' | h'
        · exact h'
        · rw [List.getElem?_eq_none h'] at he0; cases he0
      have : (arr.modify j fun e => { e with key := kv, val := vv }).toList = arr.toList.set j { e0 with key := kv, val := vv } := by
        apply List.ext_getElem?
        intro i
        rw [List.getElem?_set]
        simp only [Array.getElem?_toList, Array.getElem?_modify]
        by_cases hi : j = i
        · subst hi; simp [hgk]; simpa using hjl
        · simp [hi]
      rw [this]; exact he.set rk rv
    · simp only [Instr.mapUpdate, Sem.run_bind, run_underlying hu, Result.andThen_ok, hget, hchk, hq, hgk, Option.map_some, Option.getD_some, Instr.keyThatStays, hsame, if_true, Sem.run_pure]
      exact run_setMap hbk _

theorem good_mapUpdate (hr : HR P F B μ h w.heap) (hfl : F ≤ fl) (ht : TmR μ ts a.tmps) (ins : Bool) (t : TypeId) (m k v : Operand) : Good P F B fl μ h w ts a E (if ins then .insert t m k v else .mapUpdate t m k v) := by
  intro o ao u h' ho hc ha
  have hc' : ∃ kt e m' k' v' sh, P.underlying t = some (.map kt e) ∧ cOpd P m = some m' ∧ cOpd P k = some k' ∧ cOpd P v = some v' ∧ shT P kt = some sh ∧ ao = .mapUpd sh m' k' v' := by
    cases ins <;> simp only [Bool.false_eq_true, if_false, if_true, cOp?] at hc <;> split at hc <;> first
      | (cases hc; done)
      | (rename_i kt e m' k' v' hu hm hk hv
         simp only [Option.map_eq_some_iff] at hc
         obtain ⟨sh, hsh, rfl⟩ := hc
         exact ⟨kt, e, m', k', v', sh, hu, hm, hk, hv, hsh, rfl⟩)
  obtain ⟨kt, e, m', k', v', sh, hu, hm, hk, hv, hsh, rfl⟩ := hc'
  simp only [aOp, Option.map_eq_some_iff, Prod.mk.injEq] at ha
  obtain ⟨h1, hup, rfl, rfl⟩ := ha
  obtain ⟨w', r1, r2, r3, r4⟩ := mapUpd_sound hr hfl hu hsh (opd_rep hr ht hm) (opd_rep hr ht hk) (opd_rep hr ht hv) hup
  refine ⟨μ, undef, w', ⟨.inr ⟨?_, rfl⟩, r4⟩, r2, r3, Rep.undef⟩
  cases ins <;> simp only [Bool.false_eq_true, if_false, if_true] at ho <;> simp only [execOp, ho, Sem.run_bind, r1, Result.andThen_ok, Sem.run_pure]
end
end Go.Proofs.YtndlfkibcelhmaaGreatDoor.Ai
end
section
/- Ranging over a string, and every operation that is not a call, at once. -/
namespace Go.Proofs.YtndlfkibcelhmaaGreatDoor.Ai
open Go

theorem nth_byte {b : ByteArray} {s : List Nat} (hb : b.data.toList.map UInt8.toNat = s) (i : Nat) : nth s i = (b.get! i).toNat := by
  subst hb
  unfold nth
  rw [getN_eq]
  cases b with | mk d =>
  show (match (List.map UInt8.toNat d.toList)[i]? with | some b => b | none => 0) = (d[i]!).toNat
  rw [List.getElem?_map, Array.getElem?_toList, Array.getElem!_eq_getD, Array.getD_eq_getD_getElem?]
  cases d[i]? <;> rfl

theorem validRune_eq (c : Nat) : validRune c = Utf8.valid (c : Int) := by
  unfold validRune Utf8.valid
  rw [Bool.eq_iff_iff]
  simp only [Bool.or_eq_true, Bool.and_eq_true, nblt, nble, decide_eq_true_eq]
  omega

theorem decode_eq {b : ByteArray} {s : List Nat} (hb : b.data.toList.map UInt8.toNat = s) (i : Nat) : decodeL s i = Utf8.decode b i := by
  have hl : s.length = b.size := by rw [← hb, List.length_map]; rfl
  unfold decodeL Utf8.decode
  simp only [nth_byte hb, validRune_eq, hl, cond_eq_ite, nblt, nble, nbeq, Nat.add_zero, runeErr, Utf8.runeError, Bool.and_eq_true, decide_eq_true_eq, beq_iff_eq, ge_iff_le]

section
variable {P : Program} {F B fl : Nat} {μ : Mu} {h : AH} {w : World} {ts : Tm} {a : Act} {E : Env}

theorem good_range (hr : HR P F B μ h w.heap) (hF : F ≤ h.n) (ht : TmR μ ts a.tmps) (t : TypeId) (x : Operand) : Good P F B fl μ h w ts a E (.range t x) := by
  intro o ao v h' ho hc ha
  simp only [cOp?] at hc
  split at hc
  case h_2 => cases hc
  rename_i hu
  simp only [Option.map_eq_some_iff] at hc
  obtain ⟨y, hy, rfl⟩ := hc
  simp only [aOp] at ha
  split at ha
  case h_2 => cases ha
  rename_i s hs
  simp only [Option.some.injEq, Prod.mk.injEq] at ha
  obtain ⟨rfl, rfl⟩ := ha
  have rx := opd_rep hr ht hy
  rw [hs] at rx
  obtain ⟨b, hb, hbs⟩ := rep_str rx
  refine ⟨μ.put h.n ⟨w.heap.size, 0, 0⟩, .pointer (some ⟨w.heap.size, 0, none⟩), { w with heap := w.heap.push (.stringIter b 0) }, ⟨.inl ?_, ⟨rfl, rfl⟩⟩, hr.push hF _ _ _ ⟨rfl, b, rfl, hbs⟩, Ext.push hr _ _ _ rfl, ?_⟩
  · simp [execOp, ho, Instr.range, run_underlying hu, hb, newObj, Sem.run]
  · simp only [Rep]; exact ⟨_, Mu.put_same _ _ _, rfl⟩

theorem good_next (hr : HR P F B μ h w.heap) (hfl : F ≤ fl) (ht : TmR μ ts a.tmps) (x : Operand) : Good P F B fl μ h w ts a E (.next x true) := by
  intro o ao v h' ho hc ha
  simp only [cOp?, Option.map_eq_some_iff] at hc
  obtain ⟨y, hy, rfl⟩ := hc
  simp only [aOp] at ha
  split at ha
  case h_2 => cases ha
  rename_i id hp
  replace ha := bif_some ha
  obtain ⟨hfi, ha⟩ := ha
  rw [nble, decide_eq_true_eq] at hfi
  split at ha
  case h_2 => cases ha
  rename_i s pos hg
  have rx := opd_rep hr ht hy
  rw [hp] at rx
  simp only [Rep] at rx
  obtain ⟨m, hm, hx⟩ := rx
  obtain ⟨ho0, b, hbk, hbs⟩ := hr.obj id m _ hm hg
  have hl : s.length = b.size := by rw [← hbs, List.length_map]; rfl
  have hlv : Live h id := ⟨_, hg, by simp⟩
  have hbl : m.b < w.heap.size := by
    rcases Nat.lt_or_ge m.b w.heap.size with h' | h'
    · exact h'
    · rw [Array.getElem?_eq_none h'] at hbk; cases hbk
  rw [ho0] at hx
  have hget : (getObj m.b).run P w = .ok (.stringIter b pos) w := by simp only [getObj, Sem.run, hbk]
  cases hlt : Nat.blt pos s.length with
  | false =>
    rw [hlt] at ha
    simp only [cond_false, Option.some.injEq, Prod.mk.injEq] at ha
    obtain ⟨rfl, rfl⟩ := ha
    have hn : ¬ pos < b.size := by rw [nblt, decide_eq_false_iff_not, hl] at hlt; exact hlt
    refine .pure' hr (x := .tuple #[.bool false]) ?_ ?_
    · simp [execOp, ho, Instr.next, hx, hget, hn]
    · simp only [Rep]; exact ⟨_, rfl, by simp [Reps, Rep]⟩
  | true =>
    rw [hlt] at ha
    simp only [cond_true, decode_eq hbs, forceN_eq, Option.some.injEq, Prod.mk.injEq] at ha
    obtain ⟨rfl, rfl⟩ := ha
    have hn : pos < b.size := by rw [nblt, decide_eq_true_eq, hl] at hlt; exact hlt
    refine ⟨μ, .tuple #[.bool true, goInt pos, .int .i32 (Utf8.decode b pos).1], { w with heap := w.heap.setIfInBounds m.b (.stringIter b (pos + (Utf8.decode b pos).2)) }, ⟨.inl ?_, ⟨rfl, rfl⟩⟩,
      hr.upd hm (by omega) hlv _ _ (by simp) (fun b' hb' => by simp [Ne.symm hb']) ⟨ho0, b, by simp [hbl], hbs⟩,
      Ext.upd hr hm hfi hlv _ _ (by simp) (fun b' hb' => by simp [Ne.symm hb']) (fun l hl => by rw [hbk] at hl; cases hl), ?_⟩
    · simp [execOp, ho, Instr.next, hx, hget, hn, setObj, Sem.run, hbk]
    · simp only [Rep]; exact ⟨_, rfl, by simp [Reps, Rep, goInt]⟩

/-- Whether an operation is a call of a function. -/
def CallOp : Op → Prop
  | .call c => match c.callee with
    | .builtin _ => False
    | _ => True
  | _ => False

theorem good_all (hr : HR P F B μ h w.heap) (hF : F ≤ h.n) (hfl : F ≤ fl) (ht : TmR μ ts a.tmps) (op : Op) (hnc : ¬ CallOp op) : Good P F B fl μ h w ts a E op := by
  have no : cOp? P op = none → Good P F B fl μ h w ts a E op := fun hn o ao v h' _ hc _ => by rw [hn] at hc; cases hc
  cases op with
  | move x => exact good_move hr ht x
  | assign x => exact good_assign hr ht x
  | pick c x y => exact good_pick hr ht c x y
  | alloc t => exact good_alloc hr hF t
  | box t x => exact good_box hr hF ht t x
  | build t ps => exact good_build hr ht t ps
  | buildSlice t n ps => exact good_buildSlice hr hF ht t n ps
  | insert t m k v => exact good_mapUpdate hr hfl ht true t m k v
  | mapUpdate t m k v => exact good_mapUpdate hr hfl ht false t m k v
  | load t x => exact good_load hr ht t x
  | store t x y => exact good_store hr hfl ht t x y
  | nilCheck x => exact good_nilCheck hr ht x
  | binOp op t x y ty => exact good_binOp hr ht op t x y ty
  | unOp op t x => exact good_unOp hr ht op t x
  | convert s d x => exact good_convert hr hF ht s d x
  | makeInterface t x => exact good_makeInterface hr ht t x
  | makeFunc f fi ca =>
    cases f with
    | func f => exact good_makeFunc hr ht f fi ca
    | _ => exact no rfl
  | makeMap t r =>
    cases r with
    | none => exact good_makeMap hr hF t
    | some _ => exact no rfl
  | makeSlice t l c => exact good_makeSlice hr hF ht t l c
  | slice t x lo hi mx => exact good_slice hr ht t x lo hi mx
  | fieldAddr s x f => exact good_fieldAddr hr ht s x f
  | field s x f => exact good_field hr ht s x f
  | indexAddr t x i => exact good_indexAddr hr ht t x i
  | index t x i => exact good_index hr ht t x i
  | lookup t m k ok => exact good_lookup hr ht t m k ok
  | range t x => exact good_range hr hF ht t x
  | next x s =>
    cases s with
    | true => exact good_next hr hfl ht x
    | false => exact no rfl
  | extract x i => exact good_extract hr ht x i
  | call c =>
    obtain ⟨callee, args, tys⟩ := c
    cases callee with
    | value x => exact absurd trivial hnc
    | invoke x m => exact absurd trivial hnc
    | builtin b =>
      cases b with
      | append => exact good_append hr hF hfl ht args tys
      | copy => exact good_copy hr hfl ht args tys
      | clear => exact good_clear hr hfl ht args tys
      | len => exact good_len hr ht args tys
      | cap => exact good_cap hr ht args tys
      | min => exact good_min hr ht args tys
      | max => exact good_max hr ht args tys
      | _ => intro o ao v h' _ hc _; have := cCall_builtin hc; simp [cBuiltin] at this
  | _ => exact no rfl
end
end Go.Proofs.YtndlfkibcelhmaaGreatDoor.Ai
end
section
/- The machine's steps: what an operation comes to, with the calls that it makes; a region in the order of the text. -/
namespace Go.Proofs.YtndlfkibcelhmaaGreatDoor.Ai
open Go

def CallsTo (P : Program) (f : FuncId) (args : Array Value) (w : World) (x : Value) (w' : World) : Prop :=
  Calls P f args w fun e w1 => e = .returned x ∧ w1 = w'
def RoundTo (P : Program) (l : Nat) (f : FuncId) (tmps : Array Value) (assign body : Code) (w : World) (x : Value) (w' : World) : Prop :=
  ∀ c cs, Steps P (lone (Frame.round l f tmps assign body .normal) (c :: cs) w) (lone (c.finish x) cs w')

/-- What an operation comes to, with the calls that it makes. -/
def Goes (P : Program) (s : Sem Next) (w : World) (x : Value) (w' : World) : Prop :=
  Yields P s w x w' ∨ (∃ f args w1, s.run P w = .ok (.enter f args) w1 ∧ CallsTo P f args w1 x w') ∨
    (∃ l f tmps assign body w1, s.run P w = .ok (.round l f tmps assign body) w1 ∧ RoundTo P l f tmps assign body w1 x w')

def calmItem : Item → Bool
  | .inRegion _ _ | .inRangeFunc _ => true
  | _ => false

theorem goes_apply {P : Program} {s : Sem Next} {w w' : World} {x : Value} (h : Goes P s w x w') {b : Frame} {a : Act} {it : Item} {k : List Item} (hit : calmItem it = true) {cs : List Frame} {fr0 : Frame} {w0 : World}
    (hs : (stepG P true { frame := fr0, callers := cs, status := .running, dying := none } w0).bare = (stepG.apply P true (b.atR a (it :: k)) cs none s w).bare) :
    Steps P (lone fr0 cs w0) (lone ((b.atR a (it :: k)).finish x) cs w') := by
  rcases h with h | ⟨f, args, w1, hr, hc⟩ | ⟨l, f, tmps, assign, body, w1, hr, hc⟩
  · rcases h with hr | ⟨hr, rfl⟩
    · exact .one (step_lone_go (by rw [hs]; simp [stepG.apply, hr]))
    · exact .one (step_lone_go (by rw [hs]; simp [stepG.apply, hr]))
  · obtain ⟨e, w2, fr, ⟨he, hw⟩, hsteps, hfn, hleave⟩ := hc ((b.atR a (it :: k)) :: cs)
    subst he; subst hw
    have henter : step P (lone fr0 cs w0) = .next (lone (Frame.enter P f args .normal) (b.atR a (it :: k) :: cs) w1) :=
      step_lone_go (by rw [hs]; cases it <;> simp [calmItem] at hit <;> simp [stepG.apply, hr, Frame.atR])
    exact .head henter (Steps.trans hsteps (.one (step_leave_returned hleave)))
  · have henter : step P (lone fr0 cs w0) = .next (lone (Frame.round l f tmps assign body .normal) (b.atR a (it :: k) :: cs) w1) :=
      step_lone_go (by rw [hs]; cases it <;> simp [calmItem] at hit <;> simp [stepG.apply, hr, Frame.atR])
    exact .head henter (hc _ _)

/-- One operation of a region. -/
theorem goes_oper {P : Program} {w w' : World} {x : Value} {b : Frame} {a : Act} {k : List Item} {cs : List Frame} {ops : Array Oper} {i : Nat} {rest : List Nat} {o : Oper}
    (ho : ops[i]? = some o) (hw : Region.wanted o (yielded ops a.tmps) = true) (hd : ∀ c, o.op ≠ .defer c) (h : Goes P (execOp a.eval o) w x w') :
    Steps P (lone (b.atR a (.inRegion ops (i :: rest) :: k)) cs w) (lone (b.atR (a.put o.dst x) (.inRegion ops rest :: k)) cs w') := by
  have := goes_apply h (b := b) (a := a) (it := .inRegion ops (i :: rest)) (k := k) rfl (cs := cs) (fr0 := b.atR a (.inRegion ops (i :: rest) :: k)) (w0 := w)
    (by rw [stepGR_op ho hw, Oper.semAt_eq _ _ _ hd])
  rw [Frame.finish_atR, ho] at this
  exact this

/-! ## What the evaluator's environment means -/
/-- A function's call. -/
def CallOk (P : Program) (F B fl : Nat) (f : FuncId) (args : List AVal) (h : AH) (v : AVal) (h' : AH) : Prop :=
  F ≤ fl → fl ≤ h.n → ∀ (μ : Mu) (vs : Array Value) (w : World), HR P F B μ h w.heap → Reps μ args vs.toList →
    ∃ μ' x w', (Goes P (callFunc f vs) w x w' ∧ Same w w') ∧ HR P F B μ' h' w'.heap ∧ Ext F fl μ h w.heap μ' h' w'.heap ∧ Rep μ' v x
def YldOk (P : Program) (F B fl : Nat) (id : Nat) (args : List AVal) (h : AH) (v : AVal) (h' : AH) : Prop :=
  F ≤ fl → fl ≤ h.n → ∀ (μ : Mu) (m : MB) (vs : Array Value) (w : World), HR P F B μ h w.heap → μ id = some m → Reps μ args vs.toList →
    ∃ μ' x w', (Goes P (Instr.yield m.b vs) w x w' ∧ Same w w') ∧ HR P F B μ' h' w'.heap ∧ Ext F fl μ h w.heap μ' h' w'.heap ∧ Rep μ' v x
structure EnvOk (P : Program) (F B : Nat) (E : Env) : Prop where
  call : ∀ fl f args h v h', E.call fl f args h = some (v, h') → CallOk P F B fl f args h v h'
  yld : ∀ fl id args h v h', E.yld fl id args h = some (v, h') → YldOk P F B fl id args h v h'

section
variable {P : Program} {F B fl : Nat} {μ : Mu} {h : AH} {w : World} {ts : Tm} {a : Act} {E : Env}

theorem Reps.append' {as1 bs : List AVal} {xs ys : List Value} (h1 : Reps μ as1 xs) (h2 : Reps μ bs ys) : Reps μ (as1 ++ bs) (xs ++ ys) := h1.append h2

/-- Any operation of a region. -/
theorem op_goes (hE : EnvOk P F B E) (hr : HR P F B μ h w.heap) (hF : fl ≤ h.n) (hfl : F ≤ fl) (ht : TmR μ ts a.tmps) (o : Oper) {ao : AOp} {v : AVal} {h' : AH}
    (hc : cOp? P o.op = some ao) (ha : aOp E fl ts h ao = some (v, h')) :
    (∀ c, o.op ≠ .defer c) ∧ ∃ μ' x w', (Goes P (execOp a.eval o) w x w' ∧ Same w w') ∧ HR P F B μ' h' w'.heap ∧ Ext F fl μ h w.heap μ' h' w'.heap ∧ Rep μ' v x := by
  refine ⟨fun c e => by rw [e] at hc; simp [cOp?] at hc, ?_⟩
  by_cases hcall : CallOp o.op
  case neg =>
    obtain ⟨μ', x, w', ⟨hy, hs⟩, r1, r2, r3⟩ := (good_all (E := E) hr (Nat.le_trans hfl hF) hfl ht o.op hcall o ao v h' rfl hc ha).out
    exact ⟨μ', x, w', ⟨.inl hy, hs⟩, r1, r2, r3⟩
  obtain ⟨dst, op, type, pos, after, guard⟩ := o
  cases op <;> simp only [CallOp] at hcall
  rename_i c
  obtain ⟨callee, args, tys⟩ := c
  simp only [cOp?, cCall] at hc
  split at hc
  · cases hc
  rename_i xs hxs
  have rargs : Reps μ (evs ts xs) (args.map a.eval).toList := by
    rw [Array.toList_map]; exact opds_rep hr ht hxs
  split at hc
  · -- a function
    rename_i f
    simp only [Option.some.injEq] at hc; subst hc
    simp only [aOp] at ha
    obtain ⟨μ', x, w', ⟨hg, hs⟩, r⟩ := hE.call _ _ _ _ _ _ ha hfl hF μ _ w hr rargs
    have e : execOp a.eval { dst := dst, op := .call { callee := .value (.func f), args := args, argTypes := tys }, type := type, pos := pos, after := after, guard := guard } =
        callFunc f (args.map a.eval) := by
      have : ∀ s : Sem Next, (do let d ← resolve a.eval { callee := .value (.func f), args := args, argTypes := tys } type; invoke d.target d.args) = callFunc f (args.map a.eval) := by
        intro _
        simp [resolve, Act.eval, Deferred.ofValue, invoke]
      exact this (pure .skip)
    rw [e]
    exact ⟨μ', x, w', ⟨hg, hs⟩, r⟩
  · rename_i y _
    simp only [Option.map_eq_some_iff] at hc
    obtain ⟨y', hy, rfl⟩ := hc
    have ry := opd_rep hr ht hy
    simp only [aOp] at ha
    split at ha
    · rename_i g first captured e1
      rw [e1] at ry
      simp only [Rep] at ry
      obtain ⟨a1, c1, e2, ra, rc⟩ := ry
      obtain ⟨μ', x, w', hg, r⟩ := hE.call _ _ _ _ _ _ ha hfl hF μ (a1 ++ args.map a.eval ++ c1) w hr (by
        simp only [Array.toList_append]
        exact (ra.append rargs).append rc)
      refine ⟨μ', x, w', ?_, r⟩
      have e : execOp a.eval { dst := dst, op := .call { callee := .value y, args := args, argTypes := tys }, type := type, pos := pos, after := after, guard := guard } =
          callFunc g (a1 ++ args.map a.eval ++ c1) := by
        show (do let d ← resolve a.eval { callee := .value y, args := args, argTypes := tys } type; invoke d.target d.args) = _
        simp [resolve, e2, Deferred.ofValue, invoke]
      rw [e]; exact hg
    · rename_i id e1
      rw [e1] at ry
      simp only [Rep] at ry
      obtain ⟨m, hm, e2⟩ := ry
      obtain ⟨μ', x, w', hg, r⟩ := hE.yld _ _ _ _ _ _ ha hfl hF μ m (args.map a.eval) w hr hm rargs
      refine ⟨μ', x, w', ?_, r⟩
      have e : execOp a.eval { dst := dst, op := .call { callee := .value y, args := args, argTypes := tys }, type := type, pos := pos, after := after, guard := guard } =
          Instr.yield m.b (args.map a.eval) := by
        show (do let d ← resolve a.eval { callee := .value y, args := args, argTypes := tys } type; invoke d.target d.args) = _
        simp [resolve, e2, Deferred.ofValue, invoke]
      rw [e]; exact hg
    · cases ha
  · cases hc
  · exact absurd hcall (by simp)
end
end Go.Proofs.YtndlfkibcelhmaaGreatDoor.Ai
end
section
/- A region in the order of the text. -/
namespace Go.Proofs.YtndlfkibcelhmaaGreatDoor.Ai
open Go

/-! ## What a frame keeps beside its temporaries -/
def Marks (s0 : Nat) (μ : Mu) (H : Array Obj) : List Deferred → Prop
  | [] => True
  | d :: ds => (∃ r, d = { target := .collected r, args := #[] } ∧ s0 ≤ r ∧ H[r]? = some (.deferred (some [])) ∧ (∀ id m, μ id = some m → m.b ≠ r) ∧ (∀ d' ∈ ds, d' ≠ d)) ∧ Marks s0 μ H ds
structure FrameOk (b : Frame) (s0 : Nat) (μ : Mu) (H : Array Obj) (ds : List Deferred) : Prop where
  marks : Marks s0 μ H ds
  round : ∀ l, b.roundOf = some l → ds = [] ∧ ∃ r, H[l]? = some (Obj.loop r)

theorem lt_of_some {H : Array Obj} {b : Nat} {o : Obj} (h : H[b]? = some o) : b < H.size := by
  rcases Nat.lt_or_ge b H.size with h' | h'
  · exact h'
  · rw [Array.getElem?_eq_none h'] at h; cases h

section
variable {P : Program} {F B fl : Nat} {μ μ' : Mu} {h h' : AH} {H H' : Array Obj}
/-- A block that no object lies in stays as1 it is, and stays so. -/
theorem unmapped_ext (e : Ext F fl μ h H μ' h' H') {r : Nat} {o : Obj} (ho : H[r]? = some o) (hu : ∀ id m, μ id = some m → m.b ≠ r) :
    H'[r]? = some o ∧ ∀ id m, μ' id = some m → m.b ≠ r := by
  have hlt := lt_of_some ho
  refine ⟨?_, fun id m hm => ?_⟩
  · rw [e.frame r hlt (fun id m _ hm _ => hu id m hm), ho]
  · by_cases hid : id < h.n
    · rw [e.keep id hid] at hm; exact hu id m hm
    · rcases e.fresh id m (by omega) hm with h1 | ⟨id0, m0, _, hm0, hb, _⟩
      · omega
      · rw [← hb]; exact hu id0 m0 hm0
theorem Marks.ext (e : Ext F fl μ h H μ' h' H') {s0 : Nat} : ∀ {ds : List Deferred}, Marks s0 μ H ds → Marks s0 μ' H' ds
  | [], _ => trivial
  | d :: ds, ⟨⟨r, h1, h2, h3, h4, h5⟩, h6⟩ => by
    obtain ⟨k1, k2⟩ := unmapped_ext e h3 h4
    exact ⟨⟨r, h1, h2, k1, k2, h5⟩, Marks.ext e h6⟩
theorem FrameOk.ext (e : Ext F fl μ h H μ' h' H') {b : Frame} {s0 : Nat} {ds : List Deferred} (f : FrameOk b s0 μ H ds) : FrameOk b s0 μ' H' ds where
  marks := f.marks.ext e
  round l hl := by
    obtain ⟨h1, r, hr⟩ := f.round l hl
    obtain ⟨r', hr', _⟩ := e.loops l r hr
    exact ⟨h1, r', hr'⟩
end

/-! ## Guards -/
theorem rep_bool_inv {μ : Mu} {v : AVal} {b : Bool} (h : Rep μ v (.bool b)) : v = .bool b := by
  cases v <;> simp only [Rep, reduceCtorEq, Value.bool.injEq, and_false, false_and, exists_false] at h
  subst h; rfl

theorem wanted_eq {μ : Mu} {ts : Tm} {tmps : Array Value} (ht : TmR μ ts tmps) {ops : Array Oper} {j t : Nat} {want : Bool} (hj : (ops[j]?).bind (·.dst) = some t) (hlt : t < tmps.size) :
    (yielded ops tmps j == some want) = wantedA ts (some (t, want)) := by
  have hx := ht t
  unfold yielded
  simp only [hj, Option.bind_some, wantedA]
  rw [Array.getD_eq_getD_getElem?, Array.getElem?_eq_getElem hlt, Option.getD_some] at hx
  rw [Array.getElem?_eq_getElem hlt]
  generalize tmps[t] = x at hx
  cases hv : tg ts t <;> rw [hv] at hx
  case bool b =>
    simp only [Rep] at hx; subst hx
    cases b <;> cases want <;> rfl
  all_goals
    cases x <;> first | rfl | (exact absurd (rep_bool_inv hx) (by simp))

section
variable {P : Program} {nt : Nat}

theorem cOper_spec {μ : Mu} {ts : Tm} {tmps : Array Value} (ht : TmR μ ts tmps) (hnt : nt ≤ tmps.size) (ops : Array Oper) (o : Oper) {E : Env} {fl : Nat} {h : AH} :
    (wantedA ts (cOper P nt ops o).guard = true → ∀ r, aOp E fl ts h (cOper P nt ops o).op = some r →
      cOp? P o.op = some (cOper P nt ops o).op ∧ (cOper P nt ops o).dst = o.dst ∧ (∀ d, o.dst = some d → d < nt) ∧ Region.wanted o (yielded ops tmps) = true) ∧
    (wantedA ts (cOper P nt ops o).guard = false → (cOper P nt ops o).dst = o.dst ∧ (∀ d, o.dst = some d → d < nt) ∧ Region.wanted o (yielded ops tmps) = false) := by
  have hop : ∀ r, aOp E fl ts h (cOp P o.op) = some r → cOp? P o.op = some (cOp P o.op) := by
    intro r hr
    unfold cOp at hr ⊢
    cases hc : cOp? P o.op with
    | none => rw [hc] at hr; simp [aOp] at hr
    | some x => rfl
  unfold cOper
  cases hd : dstOk nt o.dst with
  | false =>
    simp only [cond_false]
    exact ⟨fun _ r hr => by simp [aOp] at hr, fun hw => by simp [wantedA] at hw⟩
  | true =>
    have hdst : ∀ d, o.dst = some d → d < nt := by
      intro d e
      rw [e] at hd; simpa [dstOk, nblt] using hd
    simp only [cond_true]
    cases hg : o.guard with
    | none =>
      refine ⟨fun _ r hr => ⟨hop r hr, rfl, hdst, by simp [Region.wanted, hg]⟩, fun hw => by simp [wantedA] at hw⟩
    | some jw =>
      obtain ⟨j, want⟩ := jw
      cases hj : (ops[j]?).bind (·.dst) with
      | none =>
        simp only [hj]
        exact ⟨fun _ r hr => by simp [aOp] at hr, fun hw => by simp [wantedA] at hw⟩
      | some t =>
        simp only [hj]
        cases hlt : Nat.blt t nt with
        | false => exact ⟨fun _ r hr => by simp [aOp] at hr, fun hw => by simp [wantedA] at hw⟩
        | true =>
          rw [nblt, decide_eq_true_eq] at hlt
          have he := wanted_eq (want := want) ht hj (by omega)
          simp only [cond_true, Region.wanted, hg, he]
          exact ⟨fun hw r hr => ⟨hop r hr, trivial, hdst, hw⟩, fun hw => ⟨trivial, hdst, hw⟩⟩
end

/-- What a run of a frame has come to, and how it stands to its beginning. -/
structure Went (P : Program) (F B fl : Nat) (μ : Mu) (h : AH) (w : World) (a : Act) (μ' : Mu) (ts' : Tm) (h' : AH) (w' : World) (a' : Act) : Prop where
  hr : HR P F B μ' h' w'.heap
  ext : Ext F fl μ h w.heap μ' h' w'.heap
  tm : TmR μ' ts' a'.tmps
  size : a'.tmps.size = a.tmps.size
  same : Same w w'

section
variable {P : Program} {F B fl : Nat} {μ : Mu} {h : AH} {w : World} {ts : Tm} {a : Act} {E : Env} {nt : Nat}

theorem Went.refl (hr : HR P F B μ h w.heap) (ht : TmR μ ts a.tmps) : Went P F B fl μ h w a μ ts h w a :=
  ⟨hr, Ext.refl _ _ _ _ _ hr.dom, ht, rfl, Same.refl _⟩
theorem Went.trans {μ1 μ2 : Mu} {ts1 ts2 : Tm} {h1 h2 : AH} {w1 w2 : World} {a1 a2 : Act} (x : Went P F B fl μ h w a μ1 ts1 h1 w1 a1) (y : Went P F B fl μ1 h1 w1 a1 μ2 ts2 h2 w2 a2) :
    Went P F B fl μ h w a μ2 ts2 h2 w2 a2 :=
  ⟨y.hr, x.ext.trans y.ext, y.tm, y.size.trans x.size, x.same.trans y.same⟩

theorem put_size (a : Act) (d : Option Tmp) (x : Value) : (a.put d x).tmps.size = a.tmps.size := by cases d <;> simp [Act.put]
theorem put_defers (a : Act) (d : Option Tmp) (x : Value) : (a.put d x).defers = a.defers := by cases d <;> rfl
theorem TmR.put {μ : Mu} {ts : Tm} {a : Act} (r : TmR μ ts a.tmps) {d : Option Nat} (hd : ∀ t, d = some t → t < a.tmps.size) {v : AVal} {x : Value} (h : Rep μ v x) :
    TmR μ (setT ts d v) (a.put d x).tmps := by
  cases d with
  | none => exact r
  | some d => exact r.set (hd d rfl) h

theorem opers_run (hE : EnvOk P F B E) (hfl : F ≤ fl) (ops : Array Oper) : ∀ (n i : Nat), n + i = ops.size → ∀ (μ : Mu) (h : AH) (w : World) (ts : Tm) (a : Act) (ts' : Tm) (h' : AH),
    HR P F B μ h w.heap → fl ≤ h.n → TmR μ ts a.tmps → nt ≤ a.tmps.size → aOpers E fl ((cOpers P nt ops).drop i) ts h = some (ts', h') →
    ∃ μ' w' a', Went P F B fl μ h w a μ' ts' h' w' a' ∧ a'.defers = a.defers ∧ ∀ (b : Frame) k cs,
      Steps P (lone (b.atR a (.inRegion ops ((List.range ops.size).drop i) :: k)) cs w) (lone (b.atR a' (.inRegion ops [] :: k)) cs w')
  | 0, i, hi, μ, h, w, ts, a, ts', h', hr, hF, ht, hnt, hx => by
    have : (cOpers P nt ops).drop i = [] := List.drop_eq_nil_of_le (by simp [cOpers]; omega)
    rw [this] at hx
    simp only [aOpers, Option.some.injEq, Prod.mk.injEq] at hx
    obtain ⟨rfl, rfl⟩ := hx
    refine ⟨μ, w, a, .refl hr ht, rfl, fun b k cs => ?_⟩
    rw [List.drop_eq_nil_of_le (by simp; omega)]
    exact .refl _ _
  | n + 1, i, hi, μ, h, w, ts, a, ts', h', hr, hF, ht, hnt, hx => by
    have hlt : i < ops.size := by omega
    have ho : ops[i]? = some ops[i] := Array.getElem?_eq_getElem hlt
    generalize ops[i] = o at ho
    have e1 : (cOpers P nt ops).drop i = cOper P nt ops o :: (cOpers P nt ops).drop (i + 1) := by
      rw [List.drop_eq_getElem_cons (by simp [cOpers]; exact hlt)]
      congr 1
      have : (cOpers P nt ops)[i]? = some (cOper P nt ops o) := by simp [cOpers, ho]
      rw [List.getElem?_eq_getElem (by simp [cOpers]; exact hlt)] at this
      exact Option.some.inj this
    have e2 : (List.range ops.size).drop i = i :: (List.range ops.size).drop (i + 1) := by
      rw [List.drop_eq_getElem_cons (by simpa using hlt)]; simp
    rw [e1] at hx
    simp only [aOpers] at hx
    obtain ⟨hyes, hno⟩ := cOper_spec (P := P) (E := E) (fl := fl) (h := h) ht hnt ops o
    cases hw : wantedA ts (cOper P nt ops o).guard with
    | true =>
      rw [hw] at hx
      simp only [cond_true] at hx
      split at hx
      case h_2 => cases hx
      rename_i v h1 hop
      obtain ⟨c1, c2, c3, c4⟩ := hyes hw _ hop
      obtain ⟨hnd, μ1, x, w1, ⟨hg, hs⟩, r1, r2, r3⟩ := op_goes hE hr hF hfl ht o c1 hop
      have hle := r2.le hr.dom
      have ht1 : TmR μ1 (setT ts (cOper P nt ops o).dst v) (a.put o.dst x).tmps := by
        rw [c2]; exact (ht.mono hle).put (fun d e => Nat.lt_of_lt_of_le (c3 d e) hnt) r3
      obtain ⟨μ2, w2, a2, g1, g2, g3⟩ := opers_run hE hfl ops n (i + 1) (by omega) μ1 h1 w1 _ (a.put o.dst x) ts' h' r1 (Nat.le_trans hF r2.n) ht1 (by rw [put_size]; exact hnt) hx
      refine ⟨μ2, w2, a2, Went.trans ⟨r1, r2, ht1, put_size _ _ _, hs⟩ g1, g2.trans (put_defers _ _ _), fun b k cs => ?_⟩
      rw [e2]
      exact Steps.trans (goes_oper ho c4 hnd hg) (g3 b k cs)
    | false =>
      rw [hw] at hx
      simp only [cond_false] at hx
      obtain ⟨c2, c3, c4⟩ := hno hw
      have ht1 : TmR μ (setT ts (cOper P nt ops o).dst undefA) (a.put o.dst undef).tmps := by
        rw [c2]; exact ht.put (fun d e => Nat.lt_of_lt_of_le (c3 d e) hnt) Rep.undef
      obtain ⟨μ2, w2, a2, g1, g2, g3⟩ := opers_run hE hfl ops n (i + 1) (by omega) μ h w _ (a.put o.dst undef) ts' h' hr hF ht1 (by rw [put_size]; exact hnt) hx
      refine ⟨μ2, w2, a2, Went.trans ⟨hr, Ext.refl _ _ _ _ _ hr.dom, ht1, put_size _ _ _, Same.refl _⟩ g1, g2.trans (put_defers _ _ _), fun b k cs => ?_⟩
      rw [e2]
      have := stepR_op_skip (P := P) (b := b) (a := a) (k := k) (cs := cs) (w := w) (ops := ops) (i := i) (rest := (List.range ops.size).drop (i + 1)) (by simp [ho, c4])
      rw [ho] at this
      exact .head this (g3 b k cs)
end
end Go.Proofs.YtndlfkibcelhmaaGreatDoor.Ai
end
section
/- Code: sequences, conditions, blocks, loops, ranges over functions. -/
namespace Go.Proofs.YtndlfkibcelhmaaGreatDoor.Ai
open Go

/-- How a run of an item leaves it. -/
def Gets (P : Program) (b : Frame) (a a' : Act) (w w' : World) (it : Item) : AExit → Prop
  | .norm => ∀ k cs, Steps P (lone (b.atR a (it :: k)) cs w) (lone (b.atR a' k) cs w')
  | .exit id => ∀ k cs, ∃ k1, exitTo id k1 = exitTo id k ∧ Steps P (lone (b.atR a (it :: k)) cs w) (lone (b.atR a' (.code (.exit id) :: k1)) cs w')
  | .ret => ∀ k cs, ∃ k1, Steps P (lone (b.atR a (it :: k)) cs w) (lone (b.atR a' (.code .ret :: k1)) cs w')

/-- Steps ahead of a run. -/
theorem Gets.pre {P : Program} {b : Frame} {a a1 a2 : Act} {w w1 w2 : World} {it it1 : Item} {e : AExit}
    (h : ∀ k cs, Steps P (lone (b.atR a (it :: k)) cs w) (lone (b.atR a1 (it1 :: k)) cs w1)) (h' : Gets P b a1 a2 w1 w2 it1 e) : Gets P b a a2 w w2 it e := by
  cases e with
  | norm => exact fun k cs => Steps.trans (h k cs) (h' k cs)
  | exit id => exact fun k cs => let ⟨k1, h1, h2⟩ := h' k cs; ⟨k1, h1, Steps.trans (h k cs) h2⟩
  | ret => exact fun k cs => let ⟨k1, h2⟩ := h' k cs; ⟨k1, Steps.trans (h k cs) h2⟩

/-- A run within something that lies on the stack: left by an exit or by a return. -/
theorem Gets.out {P : Program} {b : Frame} {a a1 : Act} {w w1 : World} {it it1 : Item} {e : AExit} (mid : List Item) (hm : ∀ id k, e = .exit id → exitTo id (mid ++ k) = exitTo id k) (he : e ≠ .norm)
    (h : ∀ k cs, step P (lone (b.atR a (it :: k)) cs w) = .next (lone (b.atR a (it1 :: (mid ++ k))) cs w)) (h' : Gets P b a a1 w w1 it1 e) : Gets P b a a1 w w1 it e := by
  cases e with
  | norm => exact absurd rfl he
  | exit id => exact fun k cs => let ⟨k1, h1, h2⟩ := h' (mid ++ k) cs; ⟨k1, h1.trans (hm id k rfl), .head (h k cs) h2⟩
  | ret => exact fun k cs => let ⟨k1, h2⟩ := h' (mid ++ k) cs; ⟨k1, .head (h k cs) h2⟩

section
variable {P : Program} {b : Frame} {a : Act} {k : List Item} {cs : List Frame} {w : World}
theorem stepR_scope {x : Code} : step P (lone (b.atR a (.code (.scope x) :: k)) cs w) = .next (lone (b.atR a (.code x :: .inScope x :: k)) cs w) :=
  step_lone_go (by simp [stepG, stepG.exec, Frame.atR])
theorem stepR_inScope {x : Code} : step P (lone (b.atR a (.inScope x :: k)) cs w) = .next (lone (b.atR a k) cs w) :=
  step_lone_go (by simp [stepG, stepG.exec, Frame.atR])
end

/-- What is to be shown of a region whose order is drawn. -/
def DrawnOk (P : Program) (F B fl : Nat) (E : Env) (nt : Nat) : Prop :=
  ∀ (ops : Array Oper) (μ : Mu) (h : AH) (w : World) (ts : Tm) (a : Act) (ts' : Tm) (h' : AH), HR P F B μ h w.heap → fl ≤ h.n → TmR μ ts a.tmps → nt ≤ a.tmps.size →
    drawnOk ops (cOpers P nt ops) (Region.before ops) = true →
    aOpersD E fl ((cOpers P nt ops).zipIdx.map fun (o, i) => cOne (cOpers P nt ops) (Region.before ops) i o) ts h = some (ts', h') →
    ∀ t : Nat, ∃ μ' w' a', Went P F B fl μ h w a μ' ts' h' w' a' ∧ a'.defers = a.defers ∧ ∀ (b : Frame) k cs,
      Steps P (lone (b.atR a (.inRegion ops (Region.schedule (P.follows .mixedOrders) ops t) :: k)) cs w) (lone (b.atR a' (.inRegion ops [] :: k)) cs w')

section
variable {P : Program} {F B fl : Nat} {E : Env} {nt m : Nat}

/-- What is to be shown of a piece of code. -/
def CodeOk (P : Program) (F B fl nt : Nat) (it : Item) (run : Tm → AH → ARes) : Prop :=
  ∀ (b : Frame) (s0 : Nat) (μ : Mu) (h : AH) (w : World) (ts : Tm) (a : Act) (e : AExit) (ts' : Tm) (h' : AH), HR P F B μ h w.heap → fl ≤ h.n → TmR μ ts a.tmps → nt ≤ a.tmps.size →
    FrameOk b s0 μ w.heap a.defers → s0 ≤ w.heap.size → run ts h = some (e, ts', h') →
    ∃ μ' w' a', Went P F B fl μ h w a μ' ts' h' w' a' ∧ FrameOk b s0 μ' w'.heap a'.defers ∧ Gets P b a a' w w' it e

theorem CodeOk.stuck {it : Item} {ops : List AOper} (hs : ops = [{ dst := none, op := .stuck, guard := none }]) : CodeOk P F B fl nt it (aCode E fl m (.region ops)) := by
  subst hs
  intro b s0 μ h w ts a e ts' h' _ _ _ _ _ _ hx
  simp [aCode, aOpers, wantedA, aOp] at hx

theorem loop_run {c : Code} (hc : CodeOk P F B fl nt (.code c) (aCode E fl m (cCode P nt c))) : ∀ (n : Nat) (it : Item), (∀ (b : Frame) (a : Act) k cs w, step P (lone (b.atR a (it :: k)) cs w) = .next (lone (b.atR a (.code c :: .inLoop c :: k)) cs w)) →
    CodeOk P F B fl nt it (aLoop (aCode E fl m (cCode P nt c)) n)
  | 0, _, _ => by intro b s0 μ h w ts a e ts' h' _ _ _ _ _ _ hx; simp [aLoop] at hx
  | n + 1, it, hit => by
    intro b s0 μ h w ts a e ts' h' hr hF ht hnt hf hs hx
    simp only [aLoop] at hx
    split at hx
    · rename_i ts1 h1 hb
      obtain ⟨μ1, w1, a1, g1, f1, s1⟩ := hc b s0 μ h w ts a _ _ _ hr hF ht hnt hf hs hb
      obtain ⟨μ2, w2, a2, g2, f2, s2⟩ := loop_run hc n (.inLoop c) (fun _ _ _ _ _ => stepR_inLoop) b s0 μ1 h1 w1 ts1 a1 e ts' h' g1.hr (Nat.le_trans hF g1.ext.n) g1.tm (by rw [g1.size]; exact hnt) f1 (Nat.le_trans hs g1.ext.size) hx
      exact ⟨μ2, w2, a2, g1.trans g2, f2, .pre (fun k cs => .head (hit b a k cs w) (s1 _ cs)) s2⟩
    · rename_i hne
      obtain ⟨μ1, w1, a1, g1, f1, s1⟩ := hc b s0 μ h w ts a _ _ _ hr hF ht hnt hf hs hx
      exact ⟨μ1, w1, a1, g1, f1, .out [.inLoop c] (fun id k _ => rfl) (by rintro rfl; exact hne _ _ hx) (fun k cs => hit b a k cs w) s1⟩

theorem all_blt {ps : Array Tmp} (h : ps.toList.all (Nat.blt · nt) = true) : ∀ p ∈ ps.toList, p < nt := fun p hp => by
  have := List.all_eq_true.1 h p hp
  simpa [nblt] using this

theorem run_getLoop {l : Nat} {r : Loop} {w : World} (h : w.heap[l]? = some (.loop r)) : (Instr.getLoop l).run P w = .ok r w := by
  simp [Instr.getLoop, getObj, Sem.run, h]
theorem run_setLoop {l : Nat} {r : Loop} {w : World} (h : w.heap[l]? = some (.loop r)) (o : Obj) : (setObj l o).run P w = .ok () { w with heap := w.heap.setIfInBounds l o } := by
  simp only [setObj, Sem.run, h]

theorem range_run (hE : EnvOk P F B E) (hfl : F ≤ fl) (g : Operand) (ps : Array Tmp) (assign body : Code) : CodeOk P F B fl nt (.code (.rangeFunc g ps assign body)) (aCode E fl m (cCode P nt (.rangeFunc g ps assign body))) := by
  intro b s0 μ h w ts a e ts' h' hr hF ht hnt hf hs hx
  simp only [cCode] at hx
  split at hx
  case h_2 => simp [aCode, aOpers, wantedA, aOp] at hx
  rename_i g' hg
  cases hps : ps.toList.all (Nat.blt · nt) with
  | false => rw [hps] at hx; simp [aCode, aOpers, wantedA, aOp] at hx
  | true =>
  rw [hps] at hx
  simp only [cond_true, aCode] at hx
  have rg := opd_rep hr ht hg
  split at hx
  case h_2 => cases hx
  rename_i f first captured e1
  rw [e1] at rg
  simp only [Rep] at rg
  obtain ⟨a1, c1, e2, ra, rc⟩ := rg
  split at hx
  case h_2 => cases hx
  rename_i x0 h1 hcall
  -- the record, and the block for the rounds' deferred calls
  have hFn : F ≤ h.n := Nat.le_trans hfl hF
  obtain ⟨l, mark, w1, μ1, hent, hr1, hx1, hm1, hsame1, hmark⟩ : ∃ l mark w1 μ1, (Instr.enterLoop b.fn a.tmps ps assign body b.roundOf).run P w = .ok (l, mark) w1 ∧
      HR P F B μ1 (h.push (.loop { state := .ready, pending := .none, tmps := ts, params := ps.toList, assign := cCode P nt assign, body := cCode P nt body })) w1.heap ∧
      Ext F fl μ h w.heap μ1 (h.push (.loop { state := .ready, pending := .none, tmps := ts, params := ps.toList, assign := cCode P nt assign, body := cCode P nt body })) w1.heap ∧
      (∃ m, μ1 h.n = some m ∧ m.b = l) ∧ Same w w1 ∧ FrameOk b s0 μ1 w1.heap (mark ++ a.defers) := by
    have hrec : ∀ (ds : Nat) (μ' : Mu), μ.le μ' → LoopRep P μ' { state := .ready, pending := .none, tmps := ts, params := ps.toList, assign := cCode P nt assign, body := cCode P nt body }
        { state := .ready, pending := none, fn := b.fn, tmps := a.tmps, params := ps, assign, body, defers := ds } := fun ds μ' hle =>
      ⟨rfl, rfl, ht.mono hle, rfl, nt, hnt, all_blt hps, rfl, rfl⟩
    cases hro : b.roundOf with
    | none =>
      have hj := hr.junk (.deferred (some []))
      let rec' : Obj := .loop { state := .ready, pending := none, fn := b.fn, tmps := a.tmps, params := ps, assign, body, defers := w.heap.size }
      have hpush := hj.push hFn (.loop { state := .ready, pending := .none, tmps := ts, params := ps.toList, assign := cCode P nt assign, body := cCode P nt body }) rec' 0
        ⟨_, rfl, hrec w.heap.size _ (Mu.le_put _ hr.unused)⟩
      have hext : Ext F fl μ h w.heap _ _ ((w.heap.push (.deferred (some []))).push rec') := (Ext.junk hr _).trans (Ext.push hj (.loop { state := .ready, pending := .none, tmps := ts, params := ps.toList, assign := cCode P nt assign, body := cCode P nt body }) rec' ⟨(w.heap.push (.deferred (some []))).size, 0, 0⟩ rfl)
      refine ⟨w.heap.size + 1, [{ target := .collected w.heap.size, args := #[] }], { w with heap := (w.heap.push (.deferred (some []))).push rec' }, _, ?_, hpush, hext, ⟨_, Mu.put_same _ _ _, by simp⟩, ⟨rfl, rfl⟩, ?_⟩
      · simp [Instr.enterLoop, newObj, Sem.run, rec']
        rfl
      · refine ⟨⟨⟨w.heap.size, rfl, hs, ?_, ?_, ?_⟩, (hf.ext hext).marks⟩, fun l hl => by rw [hro] at hl; cases hl⟩
        · simp only
          rw [Array.getElem?_push, if_neg (by simp), Array.getElem?_push, if_pos rfl]
        · intro id m' hm' hb
          by_cases hid : id = h.n
          · subst hid; rw [Mu.put_same] at hm'; cases hm'; simp at hb
          · rw [Mu.put_ne _ _ hid] at hm'
            have hlt : m'.b < w.heap.size := by
              by_cases hFi : F ≤ id
              · exact (hr.own id m' hm' hFi).2
              · exact Nat.lt_of_lt_of_le (hr.ro id m' hm' (by omega)) hr.big
            omega
        · intro d hd hdd
          subst hdd
          have : ∀ {ds : List Deferred}, Marks s0 μ w.heap ds → { target := .collected w.heap.size, args := #[] } ∉ ds := by
            intro ds
            induction ds with
            | nil => intro _ hh; cases hh
            | cons d ds ih =>
              rintro ⟨⟨r, h1, h2, h3, h4, h5⟩, h6⟩ hh
              cases hh with
              | head => have := lt_of_some h3; cases h1; omega
              | tail _ hh => exact ih h6 hh
          exact this hf.marks hd
    | some l0 =>
      obtain ⟨hd0, r0, hr0⟩ := hf.round l0 hro
      let rec' : Obj := .loop { state := .ready, pending := none, fn := b.fn, tmps := a.tmps, params := ps, assign, body, defers := r0.defers }
      have hpush := hr.push hFn (.loop { state := .ready, pending := .none, tmps := ts, params := ps.toList, assign := cCode P nt assign, body := cCode P nt body }) rec' 0
        ⟨_, rfl, hrec r0.defers _ (Mu.le_put _ hr.unused)⟩
      have hext : Ext F fl μ h w.heap _ _ (w.heap.push rec') := Ext.push hr (.loop { state := .ready, pending := .none, tmps := ts, params := ps.toList, assign := cCode P nt assign, body := cCode P nt body }) rec' ⟨w.heap.size, 0, 0⟩ rfl
      refine ⟨w.heap.size, [], { w with heap := w.heap.push rec' }, _, ?_, hpush, hext, ⟨_, Mu.put_same _ _ _, rfl⟩, ⟨rfl, rfl⟩, ?_⟩
      · simp [Instr.enterLoop, run_getLoop hr0, newObj, Sem.run, rec']
      · rw [List.nil_append]; exact hf.ext hext
  obtain ⟨mb, hmb, hbl⟩ := hm1
  have hle1 := hx1.le hr.dom
  have hn1 : (h.push (.loop { state := .ready, pending := .none, tmps := ts, params := ps.toList, assign := cCode P nt assign, body := cCode P nt body })).n = h.n + 1 := AH.n_push _ _
  generalize h.push (.loop { state := .ready, pending := .none, tmps := ts, params := ps.toList, assign := cCode P nt assign, body := cCode P nt body }) = hp at *
  obtain ⟨μ2, x, w2, ⟨hg2, hs2⟩, r1, r2, r3⟩ := hE.call _ _ _ _ _ _ hcall hfl (by omega) μ1 (a1 ++ #[.func (.yield l) #[] #[]] ++ c1) w1 hr1 (by
    simp only [Array.toList_append, List.append_assoc, List.singleton_append]
    refine (ra.mono hle1).append (Reps.cons ?_ (rc.mono hle1))
    simp only [Rep]; exact ⟨mb, hmb, by rw [hbl]⟩)
  have hmb2 : μ2 h.n = some mb := by rw [r2.keep h.n (by omega)]; exact hmb
  split at hx
  case h_2 => cases hx
  rename_i al hal
  obtain ⟨rl, hrl, hlr⟩ := r1.obj h.n mb _ hmb2 hal
  rw [hbl] at hrl
  have hst := hlr.state
  have hbusy : al.state ≠ .busy := by rintro e; rw [e] at hx; simp at hx
  have hlv : Live h1 h.n := ⟨_, hal, by simp⟩
  have hll := lt_of_some hrl
  have hup := r1.upd hmb2 hFn hlv (.loop { al with state := .exhausted }) (w2.heap.setIfInBounds l (.loop { rl with state := .exhausted })) (by simp) (fun b' hb' => by rw [hbl] at hb'; simp [Ne.symm hb'])
    ⟨{ rl with state := .exhausted }, by rw [hbl]; simp [hll], { hlr with state := rfl }⟩
  have hxup : Ext F fl μ2 h1 w2.heap μ2 (h1.set h.n (.loop { al with state := .exhausted })) (w2.heap.setIfInBounds l (.loop { rl with state := .exhausted })) :=
    Ext.upd r1 hmb2 hF hlv _ _ (by simp) (fun b' hb' => by rw [hbl] at hb'; simp [Ne.symm hb'])
      (fun l' hl' => by rw [hbl] at hl' ⊢; rw [hrl] at hl'; cases hl'; exact ⟨{ rl with state := .exhausted }, by simp [hll], rfl⟩)
  have hend : (Instr.endLoop l).run P w2 = .ok rl.pending { w2 with heap := w2.heap.setIfInBounds l (.loop { rl with state := .exhausted }) } := by
    have hb' : (rl.state == .busy) = false := by rw [hst]; cases hh : al.state <;> first | rfl | exact absurd hh hbusy
    simp only [Instr.endLoop, Sem.run_bind, run_getLoop hrl, Result.andThen_ok, hb', Bool.false_eq_true, if_false, run_setLoop hrl, Sem.run_pure]
  have hfin : Ext F fl μ h w.heap μ2 _ _ := (hx1.trans r2).trans hxup
  have hgo : ∀ k cs, Steps P (lone (b.atR a (.code (.rangeFunc g ps assign body) :: k)) cs w)
      (lone (b.atR { a with defers := mark ++ a.defers } ((rl.pending.map Item.code).toList ++ k)) cs { w2 with heap := w2.heap.setIfInBounds l (.loop { rl with state := .exhausted }) }) := by
    intro k cs
    have hgoes : Goes P (do let d ← resolve ({ a with defers := mark ++ a.defers } : Act).eval (rangeCall g l) 0; invoke d.target d.args) w1 x w2 := by
      have : (do let d ← resolve ({ a with defers := mark ++ a.defers } : Act).eval (rangeCall g l) 0; invoke d.target d.args) = callFunc f (a1 ++ #[.func (.yield l) #[] #[]] ++ c1) := by
        have e2' : ({ a with defers := mark ++ a.defers } : Act).eval g = .func (.func f) a1 c1 := by rw [← e2]; cases g <;> rfl
        have e3 : ({ a with defers := mark ++ a.defers } : Act).eval (.const (.func (.yield l) #[] #[])) = .func (.yield l) #[] #[] := rfl
        simp [resolve, e2', e3, Deferred.ofValue, invoke]
      rw [this]; exact hg2
    have h1 := goes_apply hgoes (b := b) (a := { a with defers := mark ++ a.defers }) (it := .inRangeFunc l) (k := k) rfl (cs := cs) (fr0 := b.atR a (.code (.rangeFunc g ps assign body) :: k)) (w0 := w) (by
      have hev := Frame.eval_atR b { a with defers := mark ++ a.defers } (.inRangeFunc l :: k)
      simp only [Frame.atR] at hev
      simp [stepG, stepG.exec, Frame.atR, Sem.runT_eq, hent, GStep.bare_after, hev])
    rw [finish_atR_inRangeFunc] at h1
    exact Steps.trans h1 (.one (stepR_endRangeFunc hend))
  have hfk : FrameOk b s0 μ2 ({ w2 with heap := w2.heap.setIfInBounds l (.loop { rl with state := .exhausted }) } : World).heap (mark ++ a.defers) := (hmark.ext r2).ext hxup
  have hwent : Went P F B fl μ h w a μ2 ts (h1.set h.n (.loop { al with state := .exhausted })) { w2 with heap := w2.heap.setIfInBounds l (.loop { rl with state := .exhausted }) } { a with defers := mark ++ a.defers } :=
    ⟨hup, hfin, ht.mono (hfin.le hr.dom), rfl, hsame1.trans ⟨hs2.os, hs2.output⟩⟩
  have hpend := hlr.pend
  have hx' : (match al.pending with
      | .none => some (AExit.norm, ts, h1.set h.n (.loop { al with state := .exhausted }))
      | .ret => some (AExit.ret, ts, h1.set h.n (.loop { al with state := .exhausted }))
      | .exit id => some (AExit.exit id, ts, h1.set h.n (.loop { al with state := .exhausted }))) = some (e, ts', h') := by
    cases hh : al.state with
    | busy => exact absurd hh hbusy
    | _ => rw [hh] at hx; exact hx
  generalize h1.set h.n (.loop { al with state := .exhausted }) = hN at hx' hwent
  generalize ({ w2 with heap := w2.heap.setIfInBounds l (.loop { rl with state := .exhausted }) } : World) = w3 at hgo hwent hfk
  cases hp' : al.pending with
  | none =>
    rw [hp'] at hx' hpend
    simp only [Option.some.injEq, Prod.mk.injEq] at hx'
    obtain ⟨rfl, rfl, rfl⟩ := hx'
    simp only [PendRep] at hpend
    rw [hpend] at hgo
    exact ⟨μ2, _, _, hwent, hfk, hgo⟩
  | ret =>
    rw [hp'] at hx' hpend
    simp only [Option.some.injEq, Prod.mk.injEq] at hx'
    obtain ⟨rfl, rfl, rfl⟩ := hx'
    simp only [PendRep] at hpend
    rw [hpend] at hgo
    exact ⟨μ2, _, _, hwent, hfk, fun k cs => ⟨k, hgo k cs⟩⟩
  | exit id =>
    rw [hp'] at hx' hpend
    simp only [Option.some.injEq, Prod.mk.injEq] at hx'
    obtain ⟨rfl, rfl, rfl⟩ := hx'
    simp only [PendRep] at hpend
    rw [hpend] at hgo
    exact ⟨μ2, _, _, hwent, hfk, fun k cs => ⟨k, rfl, hgo k cs⟩⟩

theorem code_run (hE : EnvOk P F B E) (hfl : F ≤ fl) (hD : DrawnOk P F B fl E nt) (c : Code) : CodeOk P F B fl nt (.code c) (aCode E fl m (cCode P nt c)) := by
  induction c with
  | skip =>
    intro b s0 μ h w ts a e ts' h' hr hF ht hnt hf hs hx
    simp only [cCode, aCode, Option.some.injEq, Prod.mk.injEq] at hx; obtain ⟨rfl, rfl, rfl⟩ := hx
    exact ⟨μ, w, a, .refl hr ht, hf, fun k cs => .one stepR_skip⟩
  | label l =>
    intro b s0 μ h w ts a e ts' h' hr hF ht hnt hf hs hx
    simp only [cCode, aCode, Option.some.injEq, Prod.mk.injEq] at hx; obtain ⟨rfl, rfl, rfl⟩ := hx
    exact ⟨μ, w, a, .refl hr ht, hf, fun k cs => .one stepR_label⟩
  | exit id =>
    intro b s0 μ h w ts a e ts' h' hr hF ht hnt hf hs hx
    simp only [cCode, aCode, Option.some.injEq, Prod.mk.injEq] at hx; obtain ⟨rfl, rfl, rfl⟩ := hx
    exact ⟨μ, w, a, .refl hr ht, hf, fun k cs => ⟨k, rfl, .refl _ _⟩⟩
  | ret =>
    intro b s0 μ h w ts a e ts' h' hr hF ht hnt hf hs hx
    simp only [cCode, aCode, Option.some.injEq, Prod.mk.injEq] at hx; obtain ⟨rfl, rfl, rfl⟩ := hx
    exact ⟨μ, w, a, .refl hr ht, hf, fun k cs => ⟨k, .refl _ _⟩⟩
  | goto l =>
    intro b s0 μ h w ts a e ts' h' hr hF ht hnt hf hs hx
    simp [cCode, aCode, aOpers, wantedA, aOp] at hx
  | refuse l =>
    intro b s0 μ h w ts a e ts' h' hr hF ht hnt hf hs hx
    simp [cCode, aCode, aOpers, wantedA, aOp] at hx
  | region id ops draw =>
    intro b s0 μ h w ts a e ts' h' hr hF ht hnt hf hs hx
    cases draw with
    | false =>
      simp only [cCode, cond_false, aCode] at hx
      split at hx
      case h_2 => cases hx
      rename_i ts1 h1 hop
      simp only [Option.some.injEq, Prod.mk.injEq] at hx; obtain ⟨rfl, rfl, rfl⟩ := hx
      obtain ⟨μ1, w1, a1, g1, d1, s1⟩ := opers_run hE hfl ops ops.size 0 (by omega) μ h w ts a _ _ hr hF ht hnt hop
      refine ⟨μ1, w1, a1, g1, by rw [d1]; exact hf.ext g1.ext, fun k cs => .head stepR_region (Steps.trans (s1 b k cs) (.one stepR_region_end))⟩
    | true =>
      simp only [cCode, cond_true, cDrawn] at hx
      cases hok : drawnOk ops (cOpers P nt ops) (Region.before ops) with
      | false => rw [hok] at hx; simp [aCode, aOpers, wantedA, aOp] at hx
      | true =>
        rw [hok] at hx
        simp only [cond_true, aCode] at hx
        split at hx
        case h_2 => cases hx
        rename_i ts1 h1 hop
        simp only [Option.some.injEq, Prod.mk.injEq] at hx; obtain ⟨rfl, rfl, rfl⟩ := hx
        obtain ⟨μ1, w1, a1, g1, d1, s1⟩ := hD ops μ h { w with drawn := w.drawn + 1 } ts a _ _ hr hF ht hnt hok hop (w.tape w.drawn (.order b.fn id))
        refine ⟨μ1, w1, a1, ⟨g1.hr, g1.ext, g1.tm, g1.size, ⟨g1.same.os, g1.same.output⟩⟩, by rw [d1]; exact hf.ext g1.ext, fun k cs => .head stepR_region_draw (Steps.trans (s1 b k cs) (.one stepR_region_end))⟩
  | seq x y hx' hy' =>
    intro b s0 μ h w ts a e ts' h' hr hF ht hnt hf hs hx
    simp only [cCode, aCode] at hx
    split at hx
    · rename_i ts1 h1 hb
      obtain ⟨μ1, w1, a1, g1, f1, s1⟩ := hx' b s0 μ h w ts a _ _ _ hr hF ht hnt hf hs hb
      obtain ⟨μ2, w2, a2, g2, f2, s2⟩ := hy' b s0 μ1 h1 w1 ts1 a1 e ts' h' g1.hr (Nat.le_trans hF g1.ext.n) g1.tm (by rw [g1.size]; exact hnt) f1 (Nat.le_trans hs g1.ext.size) hx
      exact ⟨μ2, w2, a2, g1.trans g2, f2, .pre (fun k cs => .head stepR_seq (s1 _ cs)) s2⟩
    · rename_i hne
      obtain ⟨μ1, w1, a1, g1, f1, s1⟩ := hx' b s0 μ h w ts a _ _ _ hr hF ht hnt hf hs hx
      exact ⟨μ1, w1, a1, g1, f1, .out [.code y] (fun id k _ => rfl) (by rintro rfl; exact hne _ _ hx) (fun k cs => stepR_seq) s1⟩
  | cond c x y hx' hy' =>
    intro b s0 μ h w ts a e ts' h' hr hF ht hnt hf hs hx
    simp only [cCode] at hx
    split at hx
    case h_2 => simp [aCode, aOpers, wantedA, aOp] at hx
    rename_i c' hc
    have rc := opd_rep hr ht hc
    simp only [aCode] at hx
    split at hx
    · rename_i e1
      rw [e1] at rc
      obtain ⟨μ1, w1, a1, g1, f1, s1⟩ := hx' b s0 μ h w ts a _ _ _ hr hF ht hnt hf hs hx
      exact ⟨μ1, w1, a1, g1, f1, .pre (fun k cs => .one (stepR_cond (rep_bool rc))) s1⟩
    · rename_i e1
      rw [e1] at rc
      obtain ⟨μ1, w1, a1, g1, f1, s1⟩ := hy' b s0 μ h w ts a _ _ _ hr hF ht hnt hf hs hx
      exact ⟨μ1, w1, a1, g1, f1, .pre (fun k cs => .one (stepR_cond (rep_bool rc))) s1⟩
    · cases hx
  | block id x hx' =>
    intro b s0 μ h w ts a e ts' h' hr hF ht hnt hf hs hx
    simp only [cCode, aCode] at hx
    split at hx
    · rename_i id' ts1 h1 hb
      obtain ⟨μ1, w1, a1, g1, f1, s1⟩ := hx' b s0 μ h w ts a _ _ _ hr hF ht hnt hf hs hb
      cases hid : Nat.beq id' id with
      | true =>
        rw [hid] at hx
        rw [nbeq, decide_eq_true_eq] at hid
        subst hid
        simp only [cond_true, Option.some.injEq, Prod.mk.injEq] at hx; obtain ⟨rfl, rfl, rfl⟩ := hx
        refine ⟨μ1, w1, a1, g1, f1, fun k cs => ?_⟩
        obtain ⟨k1, h1, h2⟩ := s1 (.inBlock id' :: k) cs
        have : exitTo id' k1 = some k := by rw [h1]; simp [exitTo]
        exact .head stepR_block (Steps.trans h2 (.one (stepR_exit this)))
      | false =>
        rw [hid] at hx
        rw [nbeq, decide_eq_false_iff_not] at hid
        simp only [cond_false, Option.some.injEq, Prod.mk.injEq] at hx; obtain ⟨rfl, rfl, rfl⟩ := hx
        exact ⟨μ1, w1, a1, g1, f1, .out [.inBlock id] (fun id2 k e => by cases e; simp [exitTo, Ne.symm hid]) (by simp) (fun k cs => stepR_block) s1⟩
    · rename_i hne
      obtain ⟨μ1, w1, a1, g1, f1, s1⟩ := hx' b s0 μ h w ts a _ _ _ hr hF ht hnt hf hs hx
      cases e with
      | norm => exact ⟨μ1, w1, a1, g1, f1, fun k cs => .head stepR_block (Steps.trans (s1 _ cs) (.one stepR_inBlock))⟩
      | exit id' => exact absurd hx (hne _ _ _)
      | ret => exact ⟨μ1, w1, a1, g1, f1, .out [.inBlock id] (fun id2 k e => by cases e) (by simp) (fun k cs => stepR_block) s1⟩
  | loop x hx' =>
    intro b s0 μ h w ts a e ts' h' hr hF ht hnt hf hs hx
    simp only [cCode, aCode] at hx
    exact loop_run hx' m _ (fun _ _ _ _ _ => stepR_loop) b s0 μ h w ts a _ _ _ hr hF ht hnt hf hs hx
  | rangeFunc g ps x y _ _ => exact range_run hE hfl g ps x y
  | scope x hx' =>
    intro b s0 μ h w ts a e ts' h' hr hF ht hnt hf hs hx
    simp only [cCode] at hx
    obtain ⟨μ1, w1, a1, g1, f1, s1⟩ := hx' b s0 μ h w ts a _ _ _ hr hF ht hnt hf hs hx
    cases e with
    | norm => exact ⟨μ1, w1, a1, g1, f1, fun k cs => .head stepR_scope (Steps.trans (s1 _ cs) (.one stepR_inScope))⟩
    | exit id' => exact ⟨μ1, w1, a1, g1, f1, .out [.inScope x] (fun id2 k e => by simp [exitTo]) (by simp) (fun k cs => stepR_scope) s1⟩
    | ret => exact ⟨μ1, w1, a1, g1, f1, .out [.inScope x] (fun id2 k e => by cases e) (by simp) (fun k cs => stepR_scope) s1⟩
end
end Go.Proofs.YtndlfkibcelhmaaGreatDoor.Ai
end
section
/- Functions: a call, a round of a range over a function; the whole evaluator. -/
namespace Go.Proofs.YtndlfkibcelhmaaGreatDoor.Ai
open Go

section
variable {P : Program} {F B fl : Nat} {μ : Mu} {h : AH} {w : World} {ts : Tm} {a : Act} {E : Env}

theorem load_run (hr : HR P F B μ h w.heap) {t : TypeId} {n : Nat} {g : Bool} {v : AVal} {xv : Value} (rx : Rep μ v xv) (hn : sizeT P t = some n) (hg : isAggT P t = some g) {r : AVal} (hl : loadA h v n g = some r) :
    ∃ x, (do loadVar t (← asAddr xv) : Sem Value).run P w = .ok x w ∧ Rep μ r x := by
  unfold loadA at hl
  split at hl
  case h_2 => cases hl
  rename_i id off
  obtain ⟨m, hm, e2⟩ := rep_ptr rx
  split at hl
  case h_2 => cases hl
  rename_i vs hgv
  cases g with
  | true =>
    simp only [cond_true] at hl
    obtain ⟨hle, hl⟩ := bif_some hl
    rw [leLen_eq, decide_eq_true_eq] at hle
    simp only [Option.some.injEq] at hl; subst hl
    obtain ⟨xs, h1, h2⟩ := run_loadCells hr hm hgv (off := off) (n := n) hle
    rw [sub_eq]
    refine ⟨.agg xs, ?_, by simp only [Rep]; exact ⟨xs, rfl, h2⟩⟩
    simp only [asAddr, e2, loadVar, Sem.run_bind, Sem.run_pure, Result.andThen_ok, run_isAgg hg, if_true, run_sizeOf hn, h1]
  | false =>
    simp only [cond_false, getN_eq] at hl
    obtain ⟨x, hx, rv⟩ := hr.read hm hgv hl
    refine ⟨x, ?_, rv⟩
    simp only [asAddr, e2, loadVar, Sem.run_bind, Sem.run_pure, Result.andThen_ok, run_isAgg hg, Bool.false_eq_true, if_false]
    rw [run_load, hx]

theorem one_of {vs : List AVal} {xs : List Value} (h : Reps μ vs xs) : Rep μ (oneOf vs) (if h : xs.toArray.size = 1 then xs.toArray[0] else .tuple xs.toArray) := by
  cases vs with
  | nil => rw [Reps.nil_iff.1 h]; simp only [oneOf, Rep]; exact ⟨#[], by simp, Reps.nil⟩
  | cons v vs =>
    obtain ⟨x, xs', rfl, h1, h2⟩ := Reps.cons_iff.1 h
    cases vs with
    | nil =>
      rw [Reps.nil_iff.1 h2]; simpa [oneOf] using h1
    | cons v2 vs =>
      obtain ⟨x2, xs2, rfl, h3, h4⟩ := Reps.cons_iff.1 h2
      simp only [oneOf, Rep]
      exact ⟨(x :: x2 :: xs2).toArray, by simp, h⟩

def resOne (tmps : Array Value) : ResultVar → Sem Value
  | .tmp t => pure (tmps.getD t undef)
  | .cell a t => do loadVar t (← asAddr (tmps.getD a undef))

theorem results_run (hr : HR P F B μ h w.heap) {tmps : Array Value} (ht : TmR μ ts tmps) : ∀ {l : List ResultVar} {rs : List AResVar} {vs : List AVal}, cRess P l = some rs → aResults ts h rs = some vs →
    ∃ xs : List Value, (l.mapM (resOne tmps)).run P w = .ok xs w ∧ Reps μ vs xs
  | [], rs, vs, hc, ha => by
    simp only [cRess, Option.some.injEq] at hc; subst hc
    simp only [aResults, Option.some.injEq] at ha; subst ha
    exact ⟨[], by simp, Reps.nil⟩
  | r :: l, rs, vs, hc, ha => by
    simp only [cRess] at hc
    split at hc
    case h_2 => cases hc
    rename_i r' rs' h1 h2
    simp only [Option.some.injEq] at hc; subst hc
    cases r with
    | tmp t =>
      simp only [cRes, Option.some.injEq] at h1; subst h1
      simp only [aResults] at ha
      split at ha
      case h_2 => cases ha
      rename_i vs' hv
      simp only [Option.some.injEq] at ha; subst ha
      obtain ⟨xs, hx1, hx2⟩ := results_run hr ht h2 hv
      refine ⟨tmps.getD t undef :: xs, ?_, Reps.cons (ht t) hx2⟩
      simp only [List.mapM_cons, resOne, Sem.run_bind, Sem.run_pure, Result.andThen_ok, hx1]
    | cell t ty =>
      simp only [cRes] at h1
      split at h1
      case h_2 => cases h1
      rename_i n g hn hg
      simp only [Option.some.injEq] at h1; subst h1
      simp only [aResults] at ha
      split at ha
      case h_2 => cases ha
      rename_i v vs' hv1 hv
      simp only [Option.some.injEq] at ha; subst ha
      obtain ⟨x, hx, rx⟩ := load_run hr (ht t) hn hg hv1
      obtain ⟨xs, hx1, hx2⟩ := results_run hr ht h2 hv
      refine ⟨x :: xs, ?_, Reps.cons rx hx2⟩
      rw [List.mapM_cons, Sem.run_bind, show (resOne tmps (.cell t ty)).run P w = .ok x w from hx]
      simp only [Sem.run_bind, Sem.run_pure, Result.andThen_ok, hx1]

/-- A block that no object lies in, changed. -/
theorem HR.off {H : Array Obj} (r : HR P F B μ h H) {c : Nat} (hu : ∀ id m, μ id = some m → m.b ≠ c) (o : Obj) : HR P F B μ h (H.setIfInBounds c o) where
  dom := r.dom
  obj id m o' hm hg := by
    rw [Array.getElem?_setIfInBounds_ne (fun e => hu id m hm e.symm)]
    exact r.obj id m o' hm hg
  own id m hm hF := by simpa using r.own id m hm hF
  inj := r.inj
  ro := r.ro
  big := by simpa using r.big
  glob := r.glob
  wf := r.wf
theorem Ext.off {h0 : AH} {μ0 : Mu} {H0 H : Array Obj} (e : Ext F fl μ0 h0 H0 μ h H) {c : Nat} (hc : H0.size ≤ c) (o : Obj) : Ext F fl μ0 h0 H0 μ h (H.setIfInBounds c o) where
  keep := e.keep
  n := e.n
  size := by simpa using e.size
  fresh := e.fresh
  live := e.live
  low := e.low
  still := e.still
  frame b hb hno := by rw [Array.getElem?_setIfInBounds_ne (by omega)]; exact e.frame b hb hno
  loops b r hr := by
    have := lt_of_some hr
    rw [Array.getElem?_setIfInBounds_ne (by omega)]; exact e.loops b r hr

/-- The marks are taken off when the function returns. -/
theorem unwind_marks {h0 : AH} {μ0 : Mu} {w0 : World} : ∀ (ds : List Deferred) (w : World), HR P F B μ h w.heap → Ext F fl μ0 h0 w0.heap μ h w.heap → Marks w0.heap.size μ w.heap ds →
    ∃ w', HR P F B μ h w'.heap ∧ Ext F fl μ0 h0 w0.heap μ h w'.heap ∧ Same w w' ∧
      ∀ (fr : Frame) (cs : List Frame), fr.mode = .returning → Steps P (lone { fr with defers := ds } cs w) (lone { fr with defers := [] } cs w')
  | [], w, hr, he, _ => ⟨w, hr, he, Same.refl _, fun _ _ _ => .refl _ _⟩
  | d :: ds, w, hr, he, ⟨⟨r, h1, h2, h3, h4, h5⟩, h6⟩ => by
    subst h1
    have hm : ∀ {ds : List Deferred}, (∀ d' ∈ ds, d' ≠ ({ target := .collected r, args := #[] } : Deferred)) → Marks w0.heap.size μ w.heap ds → Marks w0.heap.size μ (w.heap.setIfInBounds r (.deferred none)) ds := by
      intro ds
      induction ds with
      | nil => intro _ _; trivial
      | cons d ds ih =>
        rintro hne ⟨⟨r', k1, k2, k3, k4, k5⟩, k6⟩
        refine ⟨⟨r', k1, k2, ?_, k4, k5⟩, ih (fun d' hd' => hne d' (List.mem_cons_of_mem _ hd')) k6⟩
        rw [Array.getElem?_setIfInBounds_ne ?_]
        · exact k3
        · rintro rfl; exact hne d (List.mem_cons_self ..) k1
    obtain ⟨w', g1, g2, g3, g4⟩ := unwind_marks ds { w with heap := w.heap.setIfInBounds r (.deferred none) } (hr.off h4 _) (he.off h2 _) (hm h5 h6)
    refine ⟨w', g1, g2, ⟨g3.os, g3.output⟩, fun fr cs hmode => ?_⟩
    have htake : (Instr.takeDeferred r).run P w = .ok [] { w with heap := w.heap.setIfInBounds r (.deferred none) } := by
      simp [Instr.takeDeferred, getObj, setObj, Sem.run, h3]
    refine .head (step_lone_go ?_) (g4 fr cs hmode)
    simp [stepG, hmode, unwind, Sem.runT_eq, htake]

theorem results_eq (fn : Func) (tmps : Array Value) {xs : List Value} (h : (fn.results.toList.mapM (resOne tmps)).run P w = .ok xs w) :
    (results fn tmps).run P w = .ok (if h : xs.toArray.size = 1 then xs.toArray[0] else .tuple xs.toArray) w := by
  have e : results fn tmps = (do let vs ← fn.results.mapM (resOne tmps); pure (if h : vs.size = 1 then vs[0] else .tuple vs)) := rfl
  have e2 : fn.results.mapM (resOne tmps) = (do let l ← fn.results.toList.mapM (resOne tmps); pure l.toArray) := by
    rw [Array.mapM_eq_mapM_toList]; rfl
  rw [e, e2]
  simp only [Sem.run_bind, h, Result.andThen_ok, Sem.run_pure]

theorem tinit_get : ∀ (args : List AVal) (ts : Tm) (i j : Nat), tg (tinit ts i args) j = if i ≤ j ∧ j < i + args.length then (args[j - i]?).getD undefA else tg ts j
  | [], ts, i, j => by simp [tinit]; omega
  | a :: as1, ts, i, j => by
    simp only [tinit, tinit_get as1, tg_set, List.length_cons]
    by_cases h1 : i + 1 ≤ j ∧ j < i + 1 + as1.length
    · rw [if_pos h1, if_pos (by omega), show j - i = (j - (i + 1)) + 1 from by omega]; simp
    · rw [if_neg h1]
      by_cases h2 : j = i
      · subst h2; rw [if_pos rfl, if_pos (by omega)]; simp
      · rw [if_neg h2, if_neg (by omega)]

theorem TmR.init {args : List AVal} {vs : Array Value} (h : Reps μ args vs.toList) (n : Nat) : TmR μ (tinit .leaf 0 args) (vs ++ Array.replicate (n - vs.size) undef) := by
  intro i
  have hl := h.length
  simp only [Array.length_toList] at hl
  rw [tinit_get]
  by_cases hi : i < args.length
  · rw [if_pos ⟨Nat.zero_le _, by omega⟩]
    obtain ⟨x, hx, rx⟩ := h.get (List.getElem?_eq_getElem hi)
    have hx' : vs[i]? = some x := by simpa using hx
    rw [Array.getD_eq_getD_getElem?, Array.getElem?_append_left (by omega), hx', Nat.sub_zero, List.getElem?_eq_getElem hi]
    exact rx
  · rw [if_neg (by omega)]
    have : tg (.leaf : Tm) i = undefA := rfl
    rw [this, Array.getD_eq_getD_getElem?, Array.getElem?_append_right (by omega)]
    have : ((Array.replicate (n - vs.size) undef)[i - vs.size]?).getD undef = undef := by
      rw [Array.getElem?_replicate]; split <;> rfl
    rw [this]
    exact Rep.undef

theorem func_run (hE : EnvOk P F B E) {f : FuncId} {func : Func} {fn : AFunc} (hfn : P.funcs[f]? = some func) (hc : cFunc P func = some fn) (hname : (func.name == "runtime.NumGoroutine") = false)
    (hD : ∀ fl nt, F ≤ fl → DrawnOk P F B fl E nt) {m : Nat} {args : List AVal} {e : AExit} {h' : AH} (he : e = .norm ∨ e = .ret) (hx : aCode E fl m fn.body (tinit .leaf 0 args) h = some (e, ts, h')) {vs : List AVal}
    (hv : aResults ts h' fn.results = some vs) : CallOk P F B fl f args h (oneOf vs) h' := by
  intro hfl hF μ xs w hr rargs
  unfold cFunc at hc
  split at hc
  case h_2 => cases hc
  rename_i c rs hb hrs
  simp only [Option.some.injEq] at hc; subst hc
  let b : Frame := { (default : Frame) with fn := f, kind := .normal, roundOf := none }
  let a0 : Act := { tmps := xs ++ Array.replicate (func.ntmps - xs.size) undef, defers := [] }
  have henter : Frame.enter P f xs .normal = b.atR a0 [.code c] := by
    simp [Frame.enter, Frame.atR, hfn, hb, b, a0]
  obtain ⟨μ1, w1, a1, g1, f1, s1⟩ := code_run (m := m) hE hfl (hD fl func.ntmps hfl) c b w.heap.size μ h w (tinit .leaf 0 args) a0 e ts h' hr hF (TmR.init rargs func.ntmps) (by simp [a0]; omega)
    ⟨trivial, fun l hl => by simp [b] at hl⟩ (Nat.le_refl _) hx
  obtain ⟨w2, r1, r2, r3, r4⟩ := unwind_marks (w0 := w) a1.defers w1 g1.hr g1.ext f1.marks
  obtain ⟨ys, hy1, hy2⟩ := results_run r1 g1.tm hrs hv
  refine ⟨μ1, _, w2, ⟨.inr (.inl ⟨f, xs, w, ?_, ?_⟩), g1.same.trans r3⟩, r1, r2, one_of hy2⟩
  · have hname' : func.name ≠ "runtime.NumGoroutine" := by simpa using hname
    simp [callFunc, hfn, hname', hb]
  · intro cs
    have hro : b.roundOf = none := rfl
    have hres := results_eq (P := P) func a1.tmps hy1
    rcases he with rfl | rfl
    · refine ⟨.returned _, w2, { b.atR a1 [] with mode := .returning, defers := [] }, ⟨rfl, rfl⟩, ?_, rfl, rfl, rfl, rfl, func, hfn, hres⟩
      rw [henter]
      exact Steps.trans (s1 [] cs) (.head (stepR_end hro) (r4 { b.atR a1 [] with mode := .returning } cs rfl))
    · obtain ⟨k1, s2⟩ := s1 [] cs
      refine ⟨.returned _, w2, { b.atR a1 (.code .ret :: k1) with mode := .returning, defers := [] }, ⟨rfl, rfl⟩, ?_, rfl, rfl, rfl, rfl, func, hfn, hres⟩
      rw [henter]
      exact Steps.trans s2 (.head (stepR_ret hro) (r4 { b.atR a1 (.code .ret :: k1) with mode := .returning } cs rfl))
end
end Go.Proofs.YtndlfkibcelhmaaGreatDoor.Ai
end
section
/- A round of a range over a function; the whole evaluator, but for regions whose order is drawn. -/
namespace Go.Proofs.YtndlfkibcelhmaaGreatDoor.Ai
open Go

section
variable {P : Program} {F B fl : Nat} {μ : Mu} {h : AH} {w : World} {ts : Tm} {a : Act} {E : Env}

theorem params_put {μ : Mu} : ∀ (ps : List Nat) (args : List AVal) (vs : List Value) (ts : Tm) (tmps : Array Value), TmR μ ts tmps → (∀ p ∈ ps, p < tmps.size) → Reps μ args vs → ps.length = args.length →
    TmR μ (setTs ts ps args) ((ps.zip vs).foldl (fun tmps (t, a) => tmps.setIfInBounds t a) tmps) ∧ ((ps.zip vs).foldl (fun tmps (t, a) => tmps.setIfInBounds t a) tmps).size = tmps.size
  | [], args, vs, ts, tmps, ht, _, _, _ => by
    cases args <;> exact ⟨by simpa [setTs] using ht, rfl⟩
  | p :: ps, [], vs, ts, tmps, _, _, _, hl => by simp at hl
  | p :: ps, a :: args, vs, ts, tmps, ht, hp, ra, hl => by
    obtain ⟨x, vs', rfl, r1, r2⟩ := Reps.cons_iff.1 ra
    simp only [setTs, List.zip_cons_cons, List.foldl_cons]
    obtain ⟨k1, k2⟩ := params_put ps args vs' (ts.set p a) (tmps.setIfInBounds p x) (ht.set (hp p (List.mem_cons_self ..)) r1) (fun q hq => by
      have := hp q (List.mem_cons_of_mem _ hq); simpa using this) r2 (by simpa using hl)
    exact ⟨k1, by rw [k2]; simp⟩

theorem loop_at (hr : HR P F B μ h w.heap) {id : Nat} {m : MB} (hm : μ id = some m) {l : ALoop} (hg : h.get id = some (.loop l)) : ∃ r, w.heap[m.b]? = some (.loop r) ∧ LoopRep P μ l r :=
  hr.obj id m _ hm hg

/-- A loop's record, changed but for its code. -/
theorem loop_upd (hr : HR P F B μ h w.heap) (hfl : F ≤ fl) {id : Nat} {m : MB} (hm : μ id = some m) (hfi : fl ≤ id) {l : ALoop} (hg : h.get id = some (.loop l)) {r : Loop} (hb : w.heap[m.b]? = some (.loop r))
    {l' : ALoop} {r' : Loop} (hl' : LoopRep P μ l' r') (hd : r'.defers = r.defers) :
    HR P F B μ (h.set id (.loop l')) (w.heap.setIfInBounds m.b (.loop r')) ∧ Ext F fl μ h w.heap μ (h.set id (.loop l')) (w.heap.setIfInBounds m.b (.loop r')) := by
  have hlv : Live h id := ⟨_, hg, by simp⟩
  have hll := lt_of_some hb
  refine ⟨hr.upd hm (by omega) hlv _ _ (by simp) (fun b' hb' => by simp [Ne.symm hb']) ⟨r', by simp [hll], hl'⟩,
    Ext.upd hr hm hfi hlv _ _ (by simp) (fun b' hb' => by simp [Ne.symm hb']) (fun l0 hl0 => ⟨r', by simp [hll], by rw [hb] at hl0; cases hl0; exact hd⟩)⟩

theorem yield_run (hE : EnvOk P F B E) (hD : ∀ fl nt, F ≤ fl → DrawnOk P F B fl E nt) {m : Nat} {id : Nat} {args : List AVal} {v : AVal} {h' : AH} (hx : aYield E m fl id args h = some (v, h')) :
    YldOk P F B fl id args h v h' := by
  intro hfl hF μ mb vs w hr hm rargs
  unfold aYield at hx
  replace hx := bif_some hx
  obtain ⟨hfi, hx⟩ := hx
  rw [nble, decide_eq_true_eq] at hfi
  split at hx
  case h_2 => cases hx
  rename_i l hg
  replace hx := bif_some hx
  obtain ⟨hlen, hx⟩ := hx
  rw [nbeq, decide_eq_true_eq] at hlen
  split at hx
  case h_2 => cases hx
  rename_i hready
  split at hx
  case h_2 => cases hx
  rename_i ts1 h1 hasg
  split at hx
  case h_2 => cases hx
  rename_i l1 hg1
  split at hx
  case h_2 => cases hx
  rename_i hready1
  split at hx
  case h_2 => cases hx
  rename_i e ts2 h2 hbody
  split at hx
  case h_2 => cases hx
  rename_i l2 hg2
  obtain ⟨r, hb, hlr⟩ := loop_at hr hm hg
  obtain ⟨nt, hnt, hps, hca, hcb⟩ := hlr.code
  -- the frame of the round
  have hvl := rargs.length
  simp only [Array.length_toList] at hvl
  have hrp := hlr.params
  have hpsz : r.params.size = l.params.length := by rw [← hrp, Array.length_toList]
  let tmps0 : Array Value := (r.params.zip vs).foldl (fun tmps (t, a) => tmps.setIfInBounds t a) r.tmps
  have htm0 : tmps0 = (l.params.zip vs.toList).foldl (fun tmps (t, a) => tmps.setIfInBounds t a) r.tmps := by
    show Array.foldl _ _ _ = _
    rw [← Array.foldl_toList, Array.toList_zip, hrp]
  obtain ⟨k1, k2⟩ := params_put l.params args vs.toList l.tmps r.tmps hlr.tmps (fun p hp => Nat.lt_of_lt_of_le (hps p hp) hnt) rargs hlen
  rw [← htm0] at k1 k2
  let b : Frame := { (default : Frame) with fn := r.fn, kind := .normal, roundOf := some mb.b }
  have hround : Frame.round mb.b r.fn tmps0 r.assign r.body .normal = b.atR { tmps := tmps0, defers := [] } [.code r.assign, .beginRound, .code r.body] := by
    simp [Frame.round, Frame.atR, b]
  have hf0 : FrameOk b w.heap.size μ w.heap [] := ⟨trivial, fun l0 hl0 => by
    have : mb.b = l0 := by simpa [b] using hl0
    subst this; exact ⟨rfl, r, hb⟩⟩
  rw [← hca] at hasg
  obtain ⟨μ1, w1, a1, g1, f1, s1⟩ := code_run (m := m) hE hfl (hD fl nt hfl) r.assign b w.heap.size μ h w _ { tmps := tmps0, defers := [] } .norm ts1 h1 hr hF k1 (by rw [k2]; exact hnt) hf0 (Nat.le_refl _) hasg
  have hidn : id < h.n := hr.dom id mb hm
  have hm1 : μ1 id = some mb := by rw [g1.ext.keep id hidn]; exact hm
  obtain ⟨r1, hb1, hlr1⟩ := loop_at g1.hr hm1 hg1
  obtain ⟨u1, u2⟩ := loop_upd g1.hr hfl hm1 hfi hg1 hb1 (l' := { l1 with state := .busy }) (r' := { r1 with state := .busy }) { hlr1 with state := rfl } rfl
  have hbegin : (Instr.beginRound mb.b).run P w1 = .ok () { w1 with heap := w1.heap.setIfInBounds mb.b (.loop { r1 with state := .busy }) } := by
    have hs1 : r1.state = .ready := hlr1.state.trans hready1
    simp only [Instr.beginRound, Sem.run_bind, run_getLoop hb1, Result.andThen_ok, run_setLoop hb1, hs1, Sem.run_pure]
  rw [← hcb] at hbody
  have hd1 : a1.defers = [] := (f1.round mb.b rfl).1
  obtain ⟨μ3, w3, a3, g3, f3, s3⟩ := code_run (m := m) hE hfl (hD fl nt hfl) r.body b w.heap.size μ1 (h1.set id (.loop { l1 with state := .busy }))
    { w1 with heap := w1.heap.setIfInBounds mb.b (.loop { r1 with state := .busy }) } _ a1 e ts2 h2 u1 (by rw [AH.n_set]; exact Nat.le_trans hF g1.ext.n) g1.tm (by rw [g1.size]; simp only; rw [k2]; exact hnt)
    (f1.ext u2) (by simp; exact g1.ext.size) hbody
  have hm3 : μ3 id = some mb := by rw [g3.ext.keep id (by rw [AH.n_set]; exact Nat.lt_of_lt_of_le hidn g1.ext.n)]; exact hm1
  obtain ⟨r3, hb3, hlr3⟩ := loop_at g3.hr hm3 hg2
  have hyield : (Instr.yield mb.b vs).run P w = .ok (.round mb.b r.fn tmps0 r.assign r.body) w := by
    simp only [Instr.yield, Sem.run_bind, run_getLoop hb, Result.andThen_ok]
    rw [if_neg (by rw [hpsz]; omega)]
    simp only [Sem.run_pure]
    rfl
  have hext3 : Ext F fl μ h w.heap μ3 h2 w3.heap := (g1.ext.trans u2).trans g3.ext
  have hsame3 : Same w w3 := g1.same.trans ⟨g3.same.os, g3.same.output⟩
  have hends : ∀ (j : Option Code) (l' : ALoop) (r' : Loop), LoopRep P μ3 l' r' → r' = { r3 with state := if j.isNone then .ready else .done, pending := j } →
      (∀ c cs, Steps P (lone (Frame.round mb.b r.fn tmps0 r.assign r.body .normal) (c :: cs) w) (lone (c.finish (.bool j.isNone)) cs { w3 with heap := w3.heap.setIfInBounds mb.b (.loop r') })) → v = .bool j.isNone → h' = h2.set id (.loop l') →
      ∃ μ' x w', (Goes P (Instr.yield mb.b vs) w x w' ∧ Same w w') ∧ HR P F B μ' h' w'.heap ∧ Ext F fl μ h w.heap μ' h' w'.heap ∧ Rep μ' v x := by
    rintro j l' r' hl' rfl hsteps rfl rfl
    obtain ⟨q1, q2⟩ := loop_upd g3.hr hfl hm3 hfi hg2 hb3 hl' rfl
    exact ⟨μ3, .bool j.isNone, _, ⟨.inr (.inr ⟨mb.b, r.fn, tmps0, r.assign, r.body, w, hyield, hsteps⟩), ⟨hsame3.os, hsame3.output⟩⟩, q1, hext3.trans q2, by simp only [Rep]⟩
  have hendrun : ∀ j : Option Code, (Instr.endRound mb.b j).run P w3 = .ok (.bool j.isNone) { w3 with heap := w3.heap.setIfInBounds mb.b (.loop { r3 with state := if j.isNone then .ready else .done, pending := j }) } := by
    intro j
    simp only [Instr.endRound, Sem.run_bind, run_getLoop hb3, Result.andThen_ok, run_setLoop hb3, Sem.run_pure]
  have hpre : ∀ c cs, Steps P (lone (Frame.round mb.b r.fn tmps0 r.assign r.body .normal) (c :: cs) w) (lone (b.atR a1 [.code r.body]) (c :: cs) { w1 with heap := w1.heap.setIfInBounds mb.b (.loop { r1 with state := .busy }) }) := by
    intro c cs
    rw [hround]
    exact Steps.trans (s1 _ _) (.one (stepR_beginRound rfl hbegin))
  cases e with
  | norm =>
    simp only [Option.some.injEq, Prod.mk.injEq] at hx
    exact hends none { l2 with state := .ready, pending := .none } { r3 with state := .ready, pending := none } { hlr3 with state := rfl, pend := rfl } rfl
      (fun c cs => Steps.trans (hpre c cs) (Steps.trans (s3 [] _) (.one (stepR_round_end rfl rfl (hendrun none))))) hx.1.symm hx.2.symm
  | ret =>
    simp only [Option.some.injEq, Prod.mk.injEq] at hx
    exact hends (some .ret) { l2 with state := .done, pending := .ret } { r3 with state := .done, pending := some .ret } { hlr3 with state := rfl, pend := rfl } rfl
      (fun c cs => by
        obtain ⟨k1, s4⟩ := s3 [] (c :: cs)
        exact Steps.trans (hpre c cs) (Steps.trans s4 (.one (stepR_round_ret rfl rfl (hendrun (some .ret)))))) hx.1.symm hx.2.symm
  | exit x =>
    simp only [Option.some.injEq, Prod.mk.injEq] at hx
    exact hends (some (.exit x)) { l2 with state := .done, pending := .exit x } { r3 with state := .done, pending := some (.exit x) } { hlr3 with state := rfl, pend := rfl } rfl
      (fun c cs => by
        obtain ⟨k1, h4, s4⟩ := s3 [] (c :: cs)
        exact Steps.trans (hpre c cs) (Steps.trans s4 (.one (stepR_round_exit rfl rfl (by rw [h4]; rfl) (hendrun (some (.exit x))))))) hx.1.symm hx.2.symm

/-- What the table of functions must be. -/
structure TabOk (P : Program) (F B : Nat) (T : Tab) : Prop where
  fns : ∀ f fn, T.fns.get f = some fn → ∃ func, P.funcs[f]? = some func ∧ cFunc P func = some fn ∧ (func.name == "runtime.NumGoroutine") = false
  prim : ∀ f p, T.prim f = some p → ∀ fl args h v h', p fl args h = some (v, h') → CallOk P F B fl f args h v h'

theorem call_ok {T : Tab} (hT : TabOk P F B T) (hD : ∀ E, EnvOk P F B E → ∀ fl nt, F ≤ fl → DrawnOk P F B fl E nt) : ∀ m, EnvOk P F B (aCall T m)
  | 0 => ⟨fun _ _ _ _ _ _ h => by simp [aCall] at h, fun _ _ _ _ _ _ h => by simp [aCall] at h⟩
  | m + 1 => by
    have ih := call_ok hT hD m
    refine ⟨fun fl f args h v h' hx => ?_, fun fl id args h v h' hx => ?_⟩
    · simp only [aCall] at hx
      split at hx
      · rename_i p hp; exact hT.prim f p hp fl args h v h' hx
      · split at hx
        case h_2 => cases hx
        rename_i fn hfn
        obtain ⟨func, h1, h2, h3⟩ := hT.fns f fn hfn
        split at hx
        · rename_i ts h1' hb
          simp only [Option.map_eq_some_iff, Prod.mk.injEq] at hx
          obtain ⟨vs, hv, rfl, rfl⟩ := hx
          exact func_run ih h1 h2 h3 (hD _ ih) (.inl rfl) hb hv
        · rename_i ts h1' hb
          simp only [Option.map_eq_some_iff, Prod.mk.injEq] at hx
          obtain ⟨vs, hv, rfl, rfl⟩ := hx
          exact func_run ih h1 h2 h3 (hD _ ih) (.inr rfl) hb hv
        · cases hx
    · simp only [aCall] at hx
      exact yield_run ih (hD _ ih) hx
end
end Go.Proofs.YtndlfkibcelhmaaGreatDoor.Ai
end
section
/- What one operation of the evaluator reads and writes. -/
namespace Go.Proofs.YtndlfkibcelhmaaGreatDoor.Ai
open Go

section
variable {E : Env} {fl : Nat} {ts ts' : Tm} {h : AH}

theorem evs_congr : ∀ {xs : List AOpd}, (∀ x ∈ xs, ev ts x = ev ts' x) → evs ts xs = evs ts' xs
  | [], _ => rfl
  | x :: xs, hx => by
    simp only [evs]
    rw [hx x (List.mem_cons_self ..), evs_congr fun y hy => hx y (List.mem_cons_of_mem _ hy)]
theorem evParts_congr : ∀ {xs : List (Nat × Nat × AOpd)}, (∀ x ∈ partOpds xs, ev ts x = ev ts' x) → evParts ts xs = evParts ts' xs
  | [], _ => rfl
  | (a, b, x) :: xs, hx => by
    simp only [evParts]
    rw [hx x (List.mem_cons_self ..), evParts_congr fun y hy => hx y (List.mem_cons_of_mem _ hy)]
theorem evOpt_congr {o : Option AOpd} (hx : ∀ x ∈ optOpd o, ev ts x = ev ts' x) : o.map (ev ts) = o.map (ev ts') := by
  cases o with
  | none => rfl
  | some x => simp [hx x (by simp [optOpd])]

theorem aOp_congr {op : AOp} (hx : ∀ x ∈ opdsOfA op, ev ts x = ev ts' x) : aOp E fl ts h op = aOp E fl ts' h op := by
  cases op
  case alloc zs => rfl
  case allocT t zs => rfl
  case mkMap => rfl
  case stuck => rfl
  case build zs ps => simp only [aOp]; rw [evParts_congr hx]
  case buildSl a b c ps => simp only [aOp]; rw [evParts_congr hx]
  case mkFunc f a b =>
    simp only [aOp]
    rw [evs_congr fun x hm => hx x (List.mem_append_left _ hm), evs_congr fun x hm => hx x (List.mem_append_right _ hm)]
  case slice k x lo hi mx =>
    simp only [opdsOfA, List.mem_cons, List.mem_append] at hx
    simp only [aOp]
    rw [hx x (.inl rfl), evOpt_congr fun y hy => hx y (.inr (.inl hy)), evOpt_congr fun y hy => hx y (.inr (.inr (.inl hy))), evOpt_congr fun y hy => hx y (.inr (.inr (.inr hy)))]
  case call f args =>
    simp only [opdsOfA] at hx
    simp only [aOp]; rw [evs_congr hx]
  case dyn f args =>
    simp only [opdsOfA, List.mem_cons] at hx
    simp only [aOp]; rw [hx f (.inl rfl), evs_congr fun y hy => hx y (.inr hy)]
  all_goals
    simp only [opdsOfA, List.mem_cons, List.not_mem_nil, or_false, forall_eq_or_imp, forall_eq] at hx
    simp only [aOp, hx]

theorem light_pure {op : AOp} (hp : ∀ (h h' : AH) (fl fl' : Nat), aOp E fl ts h op = (aOp E fl' ts h' op).map fun r => (r.1, h)) {v : AVal} {h1 : AH} (ha : aOp E fl ts h op = some (v, h1)) (fl2 : Nat) (h2 : AH) :
    ∃ h3, aOp E fl2 ts h2 op = some (v, h3) ∧ ((h1 = h ∧ h3 = h2) ∨ ∃ o, h1 = h.push o ∧ h3 = h2.push o) := by
  have e1 := hp h h fl fl
  have e2 := hp h2 h fl2 fl
  rw [ha] at e1 e2
  simp only [Option.map_some, Option.some.injEq, Prod.mk.injEq] at e1 e2
  exact ⟨h2, e2, .inl ⟨e1.2, rfl⟩⟩
theorem light_map {g g2 : Option AVal} {h h1 h2 : AH} {v : AVal} (hg : g2 = g) (ha : (g.map fun v => (v, h)) = some (v, h1)) {p : Option (AVal × AH)} (hp : p = g2.map fun v => (v, h2)) :
    ∃ h3, p = some (v, h3) ∧ ((h1 = h ∧ h3 = h2) ∨ ∃ o, h1 = h.push o ∧ h3 = h2.push o) := by
  subst hg
  simp only [Option.map_eq_some_iff, Prod.mk.injEq] at ha
  obtain ⟨v', e1, rfl, rfl⟩ := ha
  exact ⟨h2, by rw [hp, e1]; rfl, .inl ⟨rfl, rfl⟩⟩

/-- An operation that is not heavy: the store stays, or has one object more; it depends on the object alone that it reads. -/
theorem light_spec {op : AOp} (hl : heavy op = false) {v : AVal} {h1 : AH} (ha : aOp E fl ts h op = some (v, h1)) (fl2 : Nat) {h2 : AH} (hn : h2.n = h.n)
    (hrd : ∀ x, readOf op = some x → ∀ id, addrId (ev ts x) = some id → h2.get id = h.get id) :
    ∃ h3, aOp E fl2 ts h2 op = some (v, h3) ∧ ((h1 = h ∧ h3 = h2) ∨ ∃ o, h1 = h.push o ∧ h3 = h2.push o) := by
  cases op
  case store => simp [heavy, isCallA, writeOf] at hl
  case mapUpd => simp [heavy, isCallA, writeOf] at hl
  case next => simp [heavy, isCallA, writeOf] at hl
  case call => simp [heavy, isCallA, writeOf] at hl
  case dyn => simp [heavy, isCallA, writeOf] at hl
  case append => simp [heavy, isCallA, writeOf] at hl
  case copy => simp [heavy, isCallA, writeOf] at hl
  case clear => simp [heavy, isCallA, writeOf] at hl
  case stuck => simp [heavy, isCallA, writeOf] at hl
  case mv x => exact light_pure (fun _ _ _ _ => rfl) ha fl2 h2
  case pick c a b =>
    refine light_pure (fun h h' fl fl' => ?_) ha fl2 h2
    simp only [aOp]; split <;> rfl
  case nilChk x =>
    refine light_pure (fun h h' fl fl' => ?_) ha fl2 h2
    simp only [aOp]; split <;> rfl
  case mkIface t x => exact light_pure (fun _ _ _ _ => rfl) ha fl2 h2
  case mkFunc t x y => exact light_pure (fun _ _ _ _ => rfl) ha fl2 h2
  case build zs ps => exact light_pure (fun _ _ _ _ => by simp only [aOp]; simp [Function.comp_def]) ha fl2 h2
  case bin op k x y => exact light_pure (fun _ _ _ _ => by simp only [aOp]; simp [Function.comp_def]) ha fl2 h2
  case un op x => exact light_pure (fun _ _ _ _ => by simp only [aOp]; simp [Function.comp_def]) ha fl2 h2
  case fieldAddr o x =>
    refine light_pure (fun h h' fl fl' => ?_) ha fl2 h2
    simp only [aOp, forceN_eq]; split <;> rfl
  case field o n g x =>
    refine light_pure (fun h h' fl fl' => ?_) ha fl2 h2
    simp only [aOp]; split
    · cases g
      · simp [Function.comp_def]
      · simp only [cond_true]; cases leLen _ _ <;> rfl
    · rfl
  case indexAddr k x i =>
    refine light_pure (fun h h' fl fl' => ?_) ha fl2 h2
    simp only [aOp, forceN_eq]; split
    · cases Nat.blt _ _ <;> rfl
    · cases Nat.blt _ _ <;> rfl
    · rfl
  case index k x i =>
    refine light_pure (fun h h' fl fl' => ?_) ha fl2 h2
    simp only [aOp]; split
    · split <;> rfl
    · rename_i n es g cs j _ _
      cases Nat.blt j n
      · rfl
      · cases g
        · simp [Function.comp_def]
        · simp only [cond_true]; cases leLen _ _ <;> rfl
    · rfl
  case extract i x =>
    refine light_pure (fun h h' fl fl' => ?_) ha fl2 h2
    simp only [aOp]; split
    · simp [Function.comp_def]
    · rfl
  case cap x =>
    refine light_pure (fun h h' fl fl' => ?_) ha fl2 h2
    simp only [aOp]; split <;> rfl
  case min x y =>
    refine light_pure (fun h h' fl fl' => ?_) ha fl2 h2
    simp only [aOp]; split
    · cases eqK _ _ <;> rfl
    · rfl
  case max x y =>
    refine light_pure (fun h h' fl fl' => ?_) ha fl2 h2
    simp only [aOp]; split
    · cases eqK _ _ <;> rfl
    · rfl
  case alloc zs =>
    simp only [aOp, Option.some.injEq, Prod.mk.injEq] at ha
    obtain ⟨rfl, rfl⟩ := ha
    exact ⟨_, by simp only [aOp, hn], .inr ⟨_, rfl, rfl⟩⟩
  case allocT t zs =>
    simp only [aOp, Option.some.injEq, Prod.mk.injEq] at ha
    obtain ⟨rfl, rfl⟩ := ha
    exact ⟨_, by simp only [aOp, hn], .inr ⟨_, rfl, rfl⟩⟩
  case box x =>
    simp only [aOp, Option.some.injEq, Prod.mk.injEq] at ha
    obtain ⟨rfl, rfl⟩ := ha
    exact ⟨_, by simp only [aOp, hn], .inr ⟨_, rfl, rfl⟩⟩
  case mkMap =>
    simp only [aOp, Option.some.injEq, Prod.mk.injEq] at ha
    obtain ⟨rfl, rfl⟩ := ha
    exact ⟨_, by simp only [aOp, hn], .inr ⟨_, rfl, rfl⟩⟩
  case range x =>
    simp only [aOp] at ha ⊢
    split at ha
    · rename_i s hs
      simp only [Option.some.injEq, Prod.mk.injEq] at ha
      obtain ⟨rfl, rfl⟩ := ha
      exact ⟨_, by rw [hn], .inr ⟨_, rfl, rfl⟩⟩
    · cases ha
  case mkSl a b z l c =>
    simp only [aOp] at ha ⊢
    split at ha
    · rename_i n m hl hc
      replace ha := bif_some ha
      obtain ⟨hcond, ha⟩ := ha
      simp only [Option.some.injEq, Prod.mk.injEq] at ha
      obtain ⟨rfl, rfl⟩ := ha
      refine ⟨_, ?_, .inr ⟨_, rfl, rfl⟩⟩
      simp only [hcond, cond_true, hn]
    · cases ha
  case buildSl es len zs ps =>
    simp only [aOp] at ha ⊢
    cases h0 : Nat.beq len 0 with
    | true =>
      rw [h0] at ha
      simp only [cond_true] at ha ⊢
      split at ha
      · simp only [Option.some.injEq, Prod.mk.injEq] at ha
        obtain ⟨rfl, rfl⟩ := ha
        exact ⟨h2, rfl, .inl ⟨rfl, rfl⟩⟩
      · cases ha
    | false =>
      rw [h0] at ha
      simp only [cond_false, Option.map_eq_some_iff, Prod.mk.injEq] at ha ⊢
      obtain ⟨cs, e1, rfl, rfl⟩ := ha
      exact ⟨_, ⟨cs, e1, by rw [hn], rfl⟩, .inr ⟨_, rfl, rfl⟩⟩
  case conv c x =>
    simp only [aOp] at ha ⊢
    cases c with
    | bytesStr => simp [heavy, isCallA, writeOf] at hl
    | strBytes =>
      simp only [convA] at ha ⊢
      split at ha
      · rename_i s hs
        replace ha := bif_some ha
        obtain ⟨hcond, ha⟩ := ha
        simp only [Option.some.injEq, Prod.mk.injEq] at ha
        obtain ⟨rfl, rfl⟩ := ha
        refine ⟨_, ?_, .inr ⟨_, rfl, rfl⟩⟩
        simp only [hcond, cond_true, hn]
      · cases ha
    | int k =>
      simp only [convA] at ha ⊢
      split at ha
      · rename_i s hs
        simp only [Option.some.injEq, Prod.mk.injEq] at ha
        obtain ⟨rfl, rfl⟩ := ha
        exact ⟨h2, rfl, .inl ⟨rfl, rfl⟩⟩
      · cases ha
    | intStr =>
      simp only [convA] at ha ⊢
      split at ha
      · rename_i s hs
        replace ha := bif_some ha
        obtain ⟨hcond, ha⟩ := ha
        simp only [Option.some.injEq, Prod.mk.injEq] at ha
        obtain ⟨rfl, rfl⟩ := ha
        exact ⟨h2, by simp only [hcond, cond_true], .inl ⟨rfl, rfl⟩⟩
      · cases ha
    | same =>
      simp only [convA] at ha ⊢
      split at ha
      · rename_i s hs
        simp only [Option.some.injEq, Prod.mk.injEq] at ha
        obtain ⟨rfl, rfl⟩ := ha
        exact ⟨h2, rfl, .inl ⟨rfl, rfl⟩⟩
      · cases ha
  case load n g a =>
    refine light_map ?_ ha rfl
    have := hrd a rfl
    unfold loadA
    cases hv : ev ts a <;> simp only
    rename_i id off
    rw [this id (by rw [hv]; rfl)]
  case lookup sh z ok m k =>
    refine light_map ?_ ha rfl
    have := hrd m rfl
    have e : entsOf h2 (ev ts m) = entsOf h (ev ts m) := by
      unfold entsOf
      cases hv : ev ts m <;> simp only
      rename_i id
      rw [this id (by rw [hv]; rfl)]
    unfold lookupA
    rw [e]
  case len k x =>
    refine light_map ?_ ha rfl
    cases k with
    | map =>
      have := hrd x rfl
      unfold lenA
      cases hv : ev ts x <;> simp only
      rename_i id
      rw [this id (by rw [hv]; rfl)]
    | _ => rfl
  case slice k x lo hi mx =>
    refine light_map ?_ ha rfl
    cases k with
    | arr n es =>
      have := hrd x rfl
      unfold sliceA
      cases mx.map (ev ts) <;> simp only
      cases hv : ev ts x <;> simp only
      rename_i id off
      rw [this id (by rw [hv]; rfl)]
    | str => unfold sliceA; cases mx.map (ev ts) <;> cases ev ts x <;> rfl
    | sl es => unfold sliceA; cases mx.map (ev ts) <;> cases ev ts x <;> rfl

/-- What writes on its own writes the one object alone that its operand leads to. -/
theorem write_only {op : AOp} {x : AOpd} (hw : writeOf op = some x) {v : AVal} {h1 : AH} (ha : aOp E fl ts h op = some (v, h1)) {id : Nat} (hid : id < h.n) (hne : addrId (ev ts x) ≠ some id) :
    h1.get id = h.get id := by
  have hset : ∀ (j : Nat) (o : AObj), addrId (ev ts x) = some j → (h.set j o).get id = h.get id := fun j o hj => by
    rw [AH.get_set, if_neg]; rintro rfl; exact hne hj
  cases op <;> simp only [writeOf, Option.some.injEq, reduceCtorEq] at hw <;> subst hw
  case store n a y =>
    simp only [aOp, Option.map_eq_some_iff, Prod.mk.injEq] at ha
    obtain ⟨h', hs, rfl, rfl⟩ := ha
    unfold storeA at hs
    split at hs
    case h_2 => cases hs
    rename_i j off e
    replace hs := (bif_some hs).2
    split at hs
    case h_2 => cases hs
    split at hs
    case h_2 => cases hs
    cases hs
    exact hset _ _ (by rw [e]; rfl)
  case mapUpd sh m k w =>
    simp only [aOp, Option.map_eq_some_iff, Prod.mk.injEq] at ha
    obtain ⟨h', hs, rfl, rfl⟩ := ha
    unfold mapUpdA at hs
    split at hs
    case h_1 => cases hs
    split at hs
    case h_2 => cases hs
    rename_i j e
    replace hs := (bif_some hs).2
    split at hs
    case h_2 => cases hs
    simp only [Option.map_eq_some_iff] at hs
    obtain ⟨es', _, rfl⟩ := hs
    exact hset _ _ (by rw [e]; rfl)
  case next y =>
    simp only [aOp] at ha
    split at ha
    case h_2 => cases ha
    rename_i j e
    replace ha := (bif_some ha).2
    split at ha
    case h_2 => cases ha
    rename_i s pos hg
    cases hlt : Nat.blt pos s.length with
    | false =>
      rw [hlt] at ha
      simp only [cond_false, Option.some.injEq, Prod.mk.injEq] at ha
      rw [← ha.2]
    | true =>
      rw [hlt] at ha
      simp only [cond_true, forceN_eq, Option.some.injEq, Prod.mk.injEq] at ha
      rw [← ha.2]
      exact hset _ _ (by rw [e]; rfl)
  case append es bytes zeros y z =>
    simp only [aOp] at ha
    have key : ∀ n new, appendA fl h es bytes (ev ts y) n new = some (v, h1) → h1.get id = h.get id := by
      intro n new ha
      unfold appendA at ha
      cases h0 : Nat.beq n 0 with
      | true =>
        rw [h0] at ha
        simp only [cond_true] at ha
        split at ha
        · cases ha; rfl
        · cases ha; rfl
        · replace ha := (bif_some ha).2; cases ha; rfl
        · cases ha
      | false =>
        rw [h0] at ha
        simp only [cond_false] at ha
        split at ha
        · replace ha := (bif_some ha).2; cases ha; rw [AH.get_push, if_neg (by omega)]
        · replace ha := (bif_some ha).2; cases ha; rw [AH.get_push, if_neg (by omega)]
        · rename_i j off len es' e
          replace ha := (bif_some ha).2
          split at ha
          case h_2 => cases ha
          replace ha := (bif_some ha).2
          simp only [Option.some.injEq, Prod.mk.injEq] at ha
          rw [← ha.2, AH.get_push, AH.n_set, if_neg (by omega)]
          exact hset _ _ (by rw [e]; rfl)
        · cases ha
    split at ha
    · split at ha
      · exact key _ _ (bif_some ha).2
      · cases ha
    · split at ha
      · exact key _ _ ha
      · cases ha
  case copy es d y =>
    simp only [aOp] at ha
    split at ha
    · rename_i j off len es' n new e _ _
      simp only [forceN_eq] at ha
      cases h0 : Nat.beq (Nat.min n len) 0 with
      | true => rw [h0] at ha; simp only [cond_true, Option.some.injEq, Prod.mk.injEq] at ha; rw [← ha.2]
      | false =>
        rw [h0] at ha
        simp only [cond_false] at ha
        replace ha := (bif_some ha).2
        split at ha
        case h_2 => cases ha
        split at ha
        case h_2 => cases ha
        simp only [Option.some.injEq, Prod.mk.injEq] at ha
        rw [← ha.2]
        exact hset _ _ (by rw [e]; rfl)
    · simp only [Option.some.injEq, Prod.mk.injEq] at ha; rw [← ha.2]
    · simp only [Option.some.injEq, Prod.mk.injEq] at ha; rw [← ha.2]
    · cases ha
  case clear es z y =>
    simp only [aOp] at ha
    split at ha
    · simp only [Option.some.injEq, Prod.mk.injEq] at ha; rw [← ha.2]
    · simp only [Option.some.injEq, Prod.mk.injEq] at ha; rw [← ha.2]
    · rename_i j off len es' e
      cases h0 : Nat.beq len 0 with
      | true => rw [h0] at ha; simp only [cond_true, Option.some.injEq, Prod.mk.injEq] at ha; rw [← ha.2]
      | false =>
        rw [h0] at ha
        simp only [cond_false] at ha
        replace ha := (bif_some ha).2
        split at ha
        case h_2 => cases ha
        split at ha
        case h_2 => cases ha
        simp only [Option.some.injEq, Prod.mk.injEq] at ha
        rw [← ha.2]
        exact hset _ _ (by rw [e]; rfl)
    · cases ha
/-- What is heavy, but neither calls nor writes, leaves the store as1 it is. -/
theorem heavy_still {op : AOp} (hw : writeOf op = none) (hc : isCallA op = false) (hh : heavy op = true) {v : AVal} {h1 : AH} (ha : aOp E fl ts h op = some (v, h1)) : h1 = h := by
  cases op <;> simp [heavy, hw, hc] at hh
  case conv c x =>
    cases c <;> simp at hh
    simp only [aOp, convA, Option.map_eq_some_iff, Prod.mk.injEq] at ha
    obtain ⟨_, _, _, rfl⟩ := ha; rfl
  case stuck => simp [aOp] at ha
end
end Go.Proofs.YtndlfkibcelhmaaGreatDoor.Ai
end
section
/- Views: a store of which a part has been made. One operation more, from such a state. -/
namespace Go.Proofs.YtndlfkibcelhmaaGreatDoor.Ai
open Go

def Mu.cut (μ : Mu) (c : Nat) : Mu := fun id => if id < c then μ id else none
theorem Mu.cut_some {μ : Mu} {c id : Nat} {m : MB} (h : μ.cut c id = some m) : id < c ∧ μ id = some m := by
  unfold Mu.cut at h
  by_cases hc : id < c
  · rw [if_pos hc] at h; exact ⟨hc, h⟩
  · rw [if_neg hc] at h; cases h
theorem Mu.cut_lt {μ : Mu} {c id : Nat} (h : id < c) : μ.cut c id = μ id := if_pos h
theorem Mu.cut_le (μ : Mu) (c : Nat) : (μ.cut c).le μ := fun _ _ h => (Mu.cut_some h).2

/-- All the places in a value are below 'c'. -/
def Below (c : Nat) (v : AVal) : Prop := ∃ (μ : Mu) (x : Value), (∀ id m, μ id = some m → id < c) ∧ Rep μ v x

mutual
theorem Rep.cut {μ μ2 : Mu} {c : Nat} (hd : ∀ id m, μ2 id = some m → id < c) : ∀ (a : AVal) (v y : Value), Rep μ a v → Rep μ2 a y → Rep (μ.cut c) a v
  | .bool _, _, _, r, _ | .int _ _, _, _, r, _ | .str _, _, _, r, _ | .nilptr, _, _, r, _ | .nilsl, _, _, r, _ | .slz, _, _, r, _ | .nilmap, _, _, r, _ | .nilfunc, _, _, r, _ | .niliface, _, _, r, _ => by
    simp only [Rep] at r ⊢; exact r
  | .ptr _ _, _, _, r, q => by
    simp only [Rep] at r q ⊢; obtain ⟨m, hm, r⟩ := r; obtain ⟨m2, hm2, q⟩ := q
    exact ⟨m, by rw [Mu.cut_lt (hd _ _ hm2)]; exact hm, r⟩
  | .sl _ _ _ _, _, _, r, q => by
    simp only [Rep] at r q ⊢; obtain ⟨m, oc, cap, hm, r⟩ := r; obtain ⟨m2, _, _, hm2, q⟩ := q
    exact ⟨m, oc, cap, by rw [Mu.cut_lt (hd _ _ hm2)]; exact hm, r⟩
  | .map _, _, _, r, q => by
    simp only [Rep] at r q ⊢; obtain ⟨m, hm, r⟩ := r; obtain ⟨m2, hm2, q⟩ := q
    exact ⟨m, by rw [Mu.cut_lt (hd _ _ hm2)]; exact hm, r⟩
  | .yld _, _, _, r, q => by
    simp only [Rep] at r q ⊢; obtain ⟨m, hm, r⟩ := r; obtain ⟨m2, hm2, q⟩ := q
    exact ⟨m, by rw [Mu.cut_lt (hd _ _ hm2)]; exact hm, r⟩
  | .func _ a b, _, _, r, q => by
    simp only [Rep] at r q ⊢; obtain ⟨a', c', hv, ra, rc⟩ := r; obtain ⟨a2, c2, _, qa, qc⟩ := q
    exact ⟨a', c', hv, Reps.cut hd a _ _ ra qa, Reps.cut hd b _ _ rc qc⟩
  | .iface _ x, _, _, r, q => by
    simp only [Rep] at r q ⊢; obtain ⟨y, hv, r⟩ := r; obtain ⟨z, _, q⟩ := q; exact ⟨y, hv, Rep.cut hd x y z r q⟩
  | .agg cs, _, _, r, q => by
    simp only [Rep] at r q ⊢; obtain ⟨a, hv, r⟩ := r; obtain ⟨z, _, q⟩ := q; exact ⟨a, hv, Reps.cut hd cs _ _ r q⟩
  | .tuple cs, _, _, r, q => by
    simp only [Rep] at r q ⊢; obtain ⟨a, hv, r⟩ := r; obtain ⟨z, _, q⟩ := q; exact ⟨a, hv, Reps.cut hd cs _ _ r q⟩
theorem Reps.cut {μ μ2 : Mu} {c : Nat} (hd : ∀ id m, μ2 id = some m → id < c) : ∀ (as1 : List AVal) (vs ys : List Value), Reps μ as1 vs → Reps μ2 as1 ys → Reps (μ.cut c) as1 vs
  | [], _, _, r, _ => by simp only [Reps] at r ⊢; exact r
  | x :: xs, _, _, r, q => by
    simp only [Reps] at r q ⊢; obtain ⟨y, ys, hv, r1, r2⟩ := r; obtain ⟨z, zs, _, q1, q2⟩ := q
    exact ⟨y, ys, hv, Rep.cut hd x y z r1 q1, Reps.cut hd xs ys zs r2 q2⟩
end
theorem Rep.below {μ : Mu} {c : Nat} {v : AVal} {x : Value} (r : Rep μ v x) (hb : Below c v) : Rep (μ.cut c) v x := by
  obtain ⟨μ2, y, hd, q⟩ := hb
  exact Rep.cut hd v x y r q

theorem tree_of (g : Nat → Option AObj) : ∀ n, ∃ t : Tr AObj, ∀ id, t.get id = if id < n then g id else none
  | 0 => ⟨.leaf, fun id => by rw [Tr.get_leaf, if_neg (by omega)]⟩
  | n + 1 => by
    obtain ⟨t, ht⟩ := tree_of g n
    cases hg : g n with
    | none =>
      refine ⟨t, fun id => ?_⟩
      rw [ht]
      by_cases h1 : id < n
      · rw [if_pos h1, if_pos (by omega)]
      · rw [if_neg h1]
        by_cases h2 : id = n
        · subst h2; rw [if_pos (by omega), hg]
        · rw [if_neg (by omega)]
    | some o =>
      refine ⟨t.set n o, fun id => ?_⟩
      rw [Tr.get_set, ht]
      by_cases h2 : id = n
      · subst h2; rw [if_pos rfl, if_pos (by omega), hg]
      · rw [if_neg h2]
        by_cases h1 : id < n
        · rw [if_pos h1, if_pos (by omega)]
        · rw [if_neg h1, if_neg (by omega)]
theorem store_of (g : Nat → Option AObj) (n : Nat) : ∃ h : AH, h.n = n ∧ ∀ id, id < n → h.get id = g id := by
  obtain ⟨t, ht⟩ := tree_of g n
  exact ⟨⟨n, t⟩, rfl, fun id hid => by unfold AH.get; rw [ht, if_pos hid]⟩

section
variable {P : Program} {F B fl : Nat} {μ : Mu} {V : AH} {H : Array Obj}

theorem live_congr {h h' : AH} {id : Nat} (e : h.get id = h'.get id) : Live h id ↔ Live h' id := by unfold Live; rw [e]

theorem EntsRep.cut {μ2 : Mu} {c : Nat} (hd : ∀ id m, μ2 id = some m → id < c) : ∀ {es : List (AVal × AVal)} {l l2 : List MapEntry}, EntsRep μ es l → EntsRep μ2 es l2 → EntsRep (μ.cut c) es l
  | [], _, _, r, _ => by simp only [EntsRep] at r ⊢; exact r
  | (_, _) :: _, _, _, r, q => by
    simp only [EntsRep] at r q ⊢
    obtain ⟨e, l', hl, r1, r2, r3⟩ := r
    obtain ⟨e2, l2', _, q1, q2, q3⟩ := q
    exact ⟨e, l', hl, Rep.cut hd _ _ _ r1 q1, Rep.cut hd _ _ _ r2 q2, EntsRep.cut hd r3 q3⟩
theorem ObjRep.below {ow : Prop} {m : MB} {ob : Option Obj} {o : AObj} {c : Nat} (r : ObjRep P μ ow m ob o) (hb : ObjBelow P c o) : ObjRep P (μ.cut c) ow m ob o := by
  obtain ⟨μ2, ow2, m2, ob2, hd, q⟩ := hb
  cases o with
  | cells vs =>
    obtain ⟨cs, e, lo, hi, h1, h2, h3, h4⟩ := r
    obtain ⟨cs2, _, _, _, _, _, q3, _⟩ := q
    refine ⟨cs, e, lo, hi, h1, h2, fun i v hv => ?_, h4⟩
    obtain ⟨x, hx, rx⟩ := h3 i v hv
    obtain ⟨y, _, qy⟩ := q3 i v hv
    exact ⟨x, hx, Rep.cut hd _ _ _ rx qy⟩
  | map es =>
    obtain ⟨arr, cl, h1, h2⟩ := r
    obtain ⟨_, _, _, q2⟩ := q
    exact ⟨arr, cl, h1, h2.cut hd q2⟩
  | siter s pos => exact r
  | tcells t vs =>
    obtain ⟨h0, cs, h1, h2, h3, h4⟩ := r
    obtain ⟨_, cs2, _, _, q3, _⟩ := q
    refine ⟨h0, cs, h1, h2, fun i v hv => ?_, h4⟩
    obtain ⟨x, hx, rx⟩ := h3 i v hv
    obtain ⟨y, _, qy⟩ := q3 i v hv
    exact ⟨x, hx, Rep.cut hd _ _ _ rx qy⟩
  | trow t vs =>
    obtain ⟨cs, lo, hi, h1, h2, h3, h4⟩ := r
    obtain ⟨cs2, _, _, _, _, q3, _⟩ := q
    refine ⟨cs, lo, hi, h1, h2, fun i v hv => ?_, h4⟩
    obtain ⟨x, hx, rx⟩ := h3 i v hv
    obtain ⟨y, _, qy⟩ := q3 i v hv
    exact ⟨x, hx, Rep.cut hd _ _ _ rx qy⟩
  | loop l =>
    obtain ⟨lr, h1, h2⟩ := r
    obtain ⟨lr2, _, q2⟩ := q
    exact ⟨lr, h1, { h2 with tmps := fun i => Rep.cut hd _ _ _ (h2.tmps i) (q2.tmps i) }⟩
  | dead => trivial

/-- The part of a state that one operation is given. -/
theorem HR.cut (r : HR P F B μ V H) {h : AH} {c : Nat} (hn : h.n = c) (hg : ∀ id, id < c → h.get id = V.get id ∨ h.get id = some .dead) (hb : ∀ id o, id < c → h.get id = some o → ObjBelow P c o)
    (hG : ∀ g, g < P.globals.size → g < c) : HR P F B (μ.cut c) h H where
  dom id m hm := by rw [hn]; exact (Mu.cut_some hm).1
  obj id m o hm ho := by
    obtain ⟨h1, h2⟩ := Mu.cut_some hm
    rcases hg id h1 with e | e
    · exact (r.obj id m o h2 (by rw [← e]; exact ho)).below (hb id o h1 ho)
    · rw [e] at ho; cases ho; trivial
  own id m hm := r.own id m (Mu.cut_some hm).2
  inj id id' m m' h1 h2 hm hm' hl hl' := by
    obtain ⟨k1, k2⟩ := Mu.cut_some hm
    obtain ⟨k3, k4⟩ := Mu.cut_some hm'
    have f : ∀ i, i < c → Live h i → Live V i := fun i hi hli => by
      rcases hg i hi with e | e
      · exact (live_congr e).1 hli
      · obtain ⟨o, ho, hd⟩ := hli; rw [e] at ho; cases ho; exact absurd rfl hd
    exact r.inj id id' m m' h1 h2 k2 k4 (f id k1 hl) (f id' k3 hl')
  ro id m hm := r.ro id m (Mu.cut_some hm).2
  big := r.big
  glob g h := by
    obtain ⟨c', hc⟩ := r.glob g h
    exact ⟨c', by rw [Mu.cut_lt (hG g h)]; exact hc⟩
  wf id o hid ho := by rw [hn] at hid ⊢; exact hb id o hid ho

/-- Places of a step, put back into the whole. -/
def Mu.over (μ1 μ : Mu) (c : Nat) : Mu := fun id => if id < c then μ1 id else μ id
theorem Mu.over_lt {μ1 μ : Mu} {c id : Nat} (h : id < c) : μ1.over μ c id = μ1 id := if_pos h
theorem Mu.over_ge {μ1 μ : Mu} {c id : Nat} (h : ¬ id < c) : μ1.over μ c id = μ id := if_neg h

/-- One step from a view to a view. -/
structure ViewStep (P : Program) (F B fl : Nat) (μ : Mu) (V : AH) (H : Array Obj) (c c1 : Nat) (hx : AH) (μ1 : Mu) (hx' : AH) (H1 : Array Obj) (V' : AH) : Prop where
  hr : HR P F B μ V H
  hF : F ≤ c
  le : c ≤ c1
  le' : c1 ≤ V.n
  n : hx.n = c
  n' : hx'.n = c1
  vn : V'.n = V.n
  old : ∀ id, id < c → (hx.get id = V.get id ∧ V'.get id = hx'.get id) ∨ (hx.get id = some .dead ∧ V'.get id = V.get id)
  new : ∀ id, c ≤ id → id < c1 → V'.get id = hx'.get id
  far : ∀ id, c1 ≤ id → id < V.n → V'.get id = V.get id
  none : ∀ id, c ≤ id → id < c1 → μ id = none
  hr1 : HR P F B μ1 hx' H1
  ext : Ext F fl (μ.cut c) hx H μ1 hx' H1
  wfV : ∀ id o, id < V.n → V'.get id = some o → ObjBelow P V.n o

section
variable {c c1 : Nat} {hx hx' V' : AH} {μ1 : Mu} {H1 : Array Obj} {fl : Nat}

theorem ViewStep.keep (s : ViewStep P F B fl μ V H c c1 hx μ1 hx' H1 V') {id : Nat} (hid : id < c) : μ1 id = μ id := by
  rw [s.ext.keep id (by rw [s.n]; exact hid), Mu.cut_lt hid]
theorem ViewStep.le_over (s : ViewStep P F B fl μ V H c c1 hx μ1 hx' H1 V') : μ.le (μ1.over μ c1) := fun id m hm => by
  by_cases h1 : id < c1
  · rw [Mu.over_lt h1]
    by_cases h2 : id < c
    · rw [s.keep h2]; exact hm
    · rw [s.none id (by omega) h1] at hm; cases hm
  · rw [Mu.over_ge h1]; exact hm
theorem ViewStep.le1 (s : ViewStep P F B fl μ V H c c1 hx μ1 hx' H1 V') : μ1.le (μ1.over μ c1) := fun id m hm => by
  rw [Mu.over_lt (by rw [← s.n']; exact s.hr1.dom id m hm)]; exact hm

/-- What is live, and not of the step, lies apart from what the step may write. -/
theorem ViewStep.apart (s : ViewStep P F B fl μ V H c c1 hx μ1 hx' H1 V') (hfl : F ≤ fl) {id : Nat} {m : MB} (hm : μ id = some m) (hl : Live V id) (hid : c1 ≤ id ∨ (id < c ∧ hx.get id = some .dead)) (hFid : F ≤ id) :
    H1[m.b]? = H[m.b]? := by
  refine s.ext.frame m.b (s.hr.own id m hm hFid).2 fun id2 m2 h2 hm2 hl2 hb => ?_
  obtain ⟨k1, k2⟩ := Mu.cut_some hm2
  have hl2' : Live V id2 := by
    rcases s.old id2 k1 with e | e
    · exact (live_congr e.1).1 hl2
    · obtain ⟨o, ho, hd⟩ := hl2; rw [e.1] at ho; cases ho; exact absurd rfl hd
  have := s.hr.inj id2 id m2 m (by omega) hFid k2 hm hl2' hl hb
  subst this
  rcases hid with h | ⟨_, h⟩
  · have := s.le; omega
  · obtain ⟨o, ho, hd⟩ := hl2; rw [h] at ho; cases ho; exact absurd rfl hd

theorem ViewStep.step (s : ViewStep P F B fl μ V H c c1 hx μ1 hx' H1 V') (hfl : F ≤ fl) : HR P F B (μ1.over μ c1) V' H1 where
  dom id m hm := by
    rw [s.vn]
    by_cases h1 : id < c1
    · have := s.le'; omega
    · rw [Mu.over_ge h1] at hm; exact s.hr.dom id m hm
  obj id m o hm ho := by
    by_cases hdead : o = .dead
    · subst hdead; trivial
    by_cases h1 : id < c1
    · rw [Mu.over_lt h1] at hm
      have key : V'.get id = hx'.get id → ObjRep P (μ1.over μ c1) (F ≤ id) m H1[m.b]? o := fun e => by
        rw [e] at ho
        exact (s.hr1.obj id m o hm ho).mono s.le1
      by_cases h2 : id < c
      · rcases s.old id h2 with e | e
        · exact key e.2
        · rw [e.2] at ho
          rw [s.keep h2] at hm
          by_cases hFid : F ≤ id
          · rw [s.apart hfl hm ⟨o, ho, hdead⟩ (.inr ⟨h2, e.1⟩) hFid]
            exact (s.hr.obj id m o hm ho).mono s.le_over
          · -- below the floor: not written
            have hb : m.b < B := s.hr.ro id m hm (by omega)
            have hfr : H1[m.b]? = H[m.b]? := by
              refine s.ext.frame m.b (Nat.lt_of_lt_of_le hb s.hr.big) fun id2 m2 h3 hm2 hl2 hbe => ?_
              have := (s.hr.own id2 m2 (Mu.cut_some hm2).2 (by omega)).1
              omega
            rw [hfr]
            exact (s.hr.obj id m o hm ho).mono s.le_over
      · exact key (s.new id (by omega) h1)
    · rw [Mu.over_ge h1] at hm
      rw [s.far id (by omega) (s.hr.dom id m hm)] at ho
      rw [s.apart hfl hm ⟨o, ho, hdead⟩ (.inl (by omega)) (by have := s.hF; have := s.le; omega)]
      exact (s.hr.obj id m o hm ho).mono s.le_over
  own id m hm hFid := by
    by_cases h1 : id < c1
    · rw [Mu.over_lt h1] at hm; exact s.hr1.own id m hm hFid
    · rw [Mu.over_ge h1] at hm
      obtain ⟨q1, q2⟩ := s.hr.own id m hm hFid
      exact ⟨q1, Nat.lt_of_lt_of_le q2 s.ext.size⟩
  inj id id' m m' hF1 hF2 hm hm' hl hl' hb := by
    -- what is of the step's result, and what is not
    have cls : ∀ i mi, μ1.over μ c1 i = some mi → Live V' i → (i < c1 ∧ μ1 i = some mi ∧ Live hx' i ∧ (i < c → hx.get i = V.get i)) ∨ (μ i = some mi ∧ Live V i ∧ (c1 ≤ i ∨ (i < c ∧ hx.get i = some .dead))) := by
      intro i mi hmi hli
      by_cases h1 : i < c1
      · rw [Mu.over_lt h1] at hmi
        by_cases h2 : i < c
        · rcases s.old i h2 with e | e
          · exact .inl ⟨h1, hmi, (live_congr e.2).1 hli, fun _ => e.1⟩
          · exact .inr ⟨by rw [← s.keep h2]; exact hmi, (live_congr e.2).1 hli, .inr ⟨h2, e.1⟩⟩
        · exact .inl ⟨h1, hmi, (live_congr (s.new i (by omega) h1)).1 hli, fun h => absurd h h2⟩
      · rw [Mu.over_ge h1] at hmi
        exact .inr ⟨hmi, (live_congr (s.far i (by omega) (s.hr.dom i mi hmi))).1 hli, .inl (by omega)⟩
    have mixed : ∀ i j mi mj, F ≤ i → F ≤ j → (i < c1 ∧ μ1 i = some mi ∧ Live hx' i ∧ (i < c → hx.get i = V.get i)) → (μ j = some mj ∧ Live V j ∧ (c1 ≤ j ∨ (j < c ∧ hx.get j = some .dead))) → mi.b = mj.b → i = j := by
      rintro i j mi mj hFi hFj ⟨k1, k2, k3, k4⟩ ⟨k5, k6, k7⟩ hbe
      by_cases h2 : i < c
      · have hmi : μ i = some mi := by rw [← s.keep h2]; exact k2
        have hlx : Live hx i := s.ext.live i (by rw [s.n]; exact h2) k3
        exact s.hr.inj i j mi mj hFi hFj hmi k5 ((live_congr (k4 h2)).1 hlx) k6 hbe
      · rcases s.ext.fresh i mi (by rw [s.n]; omega) k2 with h | ⟨i0, m0, hf0, hm0, hb0, hl0⟩
        · have := (s.hr.own j mj k5 hFj).2; omega
        · obtain ⟨q1, q2⟩ := Mu.cut_some hm0
          have hl0' : Live V i0 := by
            rcases s.old i0 q1 with e | e
            · exact (live_congr e.1).1 hl0
            · obtain ⟨o, ho, hd⟩ := hl0; rw [e.1] at ho; cases ho; exact absurd rfl hd
          have := s.hr.inj i0 j m0 mj (by omega) hFj q2 k5 hl0' k6 (hb0.trans hbe)
          subst this
          rcases k7 with h | ⟨_, h⟩
          · have := s.le; omega
          · obtain ⟨o, ho, hd⟩ := hl0; rw [h] at ho; cases ho; exact absurd rfl hd
    rcases cls id m hm hl with a | a <;> rcases cls id' m' hm' hl' with b | b
    · exact s.hr1.inj id id' m m' hF1 hF2 a.2.1 b.2.1 a.2.2.1 b.2.2.1 hb
    · exact mixed id id' m m' hF1 hF2 a b hb
    · exact (mixed id' id m' m hF2 hF1 b a hb.symm).symm
    · exact s.hr.inj id id' m m' hF1 hF2 a.1 b.1 a.2.1 b.2.1 hb
  ro id m hm hlt := by
    have h2 : id < c := Nat.lt_of_lt_of_le hlt s.hF
    rw [Mu.over_lt (Nat.lt_of_lt_of_le h2 s.le), s.keep h2] at hm
    exact s.hr.ro id m hm hlt
  big := Nat.le_trans s.hr.big s.ext.size
  glob g hg := by
    obtain ⟨c', hc⟩ := s.hr.glob g hg
    exact ⟨c', s.le_over _ _ hc⟩
  wf id o hid ho := by rw [s.vn] at hid ⊢; exact s.wfV id o hid ho

theorem ViewStep.trans (s : ViewStep P F B fl μ V H c c1 hx μ1 hx' H1 V') {μ0 : Mu} {h0 : AH} {H0 : Array Obj} (e : Ext F fl μ0 h0 H0 μ V H) (hc : h0.n ≤ c) : Ext F fl μ0 h0 H0 (μ1.over μ c1) V' H1 := by
  have livex : ∀ i, i < c → Live hx i → Live V i := fun i hi hli => by
    rcases s.old i hi with e | e
    · exact (live_congr e.1).1 hli
    · obtain ⟨o, ho, hd⟩ := hli; rw [e.1] at ho; cases ho; exact absurd rfl hd
  refine { keep := fun id hid => ?_, n := by rw [s.vn]; exact e.n, size := Nat.le_trans e.size s.ext.size, fresh := fun id m hid hm => ?_, live := fun id hid hl => ?_, low := fun id hf hid => ?_, still := fun id hid hm => ?_, frame := fun b hb hno => ?_, loops := fun b r hr => ?_ }
  · rw [Mu.over_lt (by have := s.le; omega), s.keep (by omega)]; exact e.keep id hid
  · by_cases h1 : id < c1
    · rw [Mu.over_lt h1] at hm
      by_cases h2 : id < c
      · rw [s.keep h2] at hm; exact e.fresh id m hid hm
      · rcases s.ext.fresh id m (by rw [s.n]; omega) hm with h | ⟨i1, m1, hf1, hm1, hb1, hl1⟩
        · exact .inl (Nat.le_trans e.size h)
        · obtain ⟨q1, q2⟩ := Mu.cut_some hm1
          by_cases h3 : i1 < h0.n
          · rw [e.keep i1 h3] at q2
            exact .inr ⟨i1, m1, hf1, q2, hb1, e.live i1 h3 (livex i1 q1 hl1)⟩
          · rcases e.fresh i1 m1 (by omega) q2 with h | ⟨i2, m2, hf2, hm2, hb2, hl2⟩
            · exact .inl (hb1 ▸ h)
            · exact .inr ⟨i2, m2, hf2, hm2, hb2.trans hb1, hl2⟩
    · rw [Mu.over_ge h1] at hm; exact e.fresh id m hid hm
  · rcases s.old id (by omega) with k | k
    · exact e.live id hid ((live_congr k.1).1 (s.ext.live id (by rw [s.n]; omega) ((live_congr k.2).1 hl)))
    · exact e.live id hid ((live_congr k.2).1 hl)
  · rcases s.old id (by omega) with k | k
    · rw [k.2, s.ext.low id hf (by rw [s.n]; omega), k.1]; exact e.low id hf hid
    · rw [k.2]; exact e.low id hf hid
  · have hm' : μ id = Option.none := by rw [e.keep id hid]; exact hm
    rcases s.old id (by omega) with k | k
    · rw [k.2, s.ext.still id (by rw [s.n]; omega) (by rw [Mu.cut_lt (by omega)]; exact hm'), k.1]; exact e.still id hid hm
    · rw [k.2]; exact e.still id hid hm
  · rw [s.ext.frame b (Nat.lt_of_lt_of_le hb e.size) ?_, e.frame b hb hno]
    intro id m hf hm hl hbe
    obtain ⟨q1, q2⟩ := Mu.cut_some hm
    by_cases h0' : id < h0.n
    · rw [e.keep id h0'] at q2
      exact hno id m hf q2 (e.live id h0' (livex id q1 hl)) hbe
    · rcases e.fresh id m (by omega) q2 with h | ⟨i2, m2, hf2, hm2, hb2, hl2⟩
      · omega
      · exact hno i2 m2 hf2 hm2 hl2 (hb2.trans hbe)
  · obtain ⟨r1, hr1, hd1⟩ := e.loops b r hr
    obtain ⟨r2, hr2, hd2⟩ := s.ext.loops b r1 hr1
    exact ⟨r2, hr2, hd2.trans hd1⟩
end
end
end Go.Proofs.YtndlfkibcelhmaaGreatDoor.Ai
end
section
/- A region whose order is open: the evaluator's run of it, state by state; the order of its operations. -/
namespace Go.Proofs.YtndlfkibcelhmaaGreatDoor.Ai
open Go

/-! ## What lies before what -/
theorem testBit_pow (n i : Nat) : (2 ^ n).testBit i = decide (n = i) := Nat.testBit_two_pow

theorem fold_bits (acc : Array Nat) (i : Nat) : ∀ (es : List Edge) (s : Nat), (es.foldl (fun s e => if Region.binds .any e then s ||| 2 ^ e.on ||| acc.getD e.on 0 else s) s).testBit i = true →
    s.testBit i = true ∨ ∃ e ∈ es, Region.binds .any e = true ∧ (e.on = i ∨ (acc.getD e.on 0).testBit i = true)
  | [], s, h => .inl h
  | e :: es, s, h => by
    rw [List.foldl_cons] at h
    rcases fold_bits acc i es _ h with h | ⟨e', he', hb, h⟩
    · by_cases hb : Region.binds .any e = true
      · rw [if_pos hb] at h
        simp only [Nat.testBit_or, Bool.or_eq_true, testBit_pow, decide_eq_true_eq] at h
        rcases h with (h | h) | h
        · exact .inl h
        · exact .inr ⟨e, List.mem_cons_self .., hb, .inl h⟩
        · exact .inr ⟨e, List.mem_cons_self .., hb, .inr h⟩
      · rw [if_neg hb] at h; exact .inl h
    · exact .inr ⟨e', List.mem_cons_of_mem _ he', hb, h⟩

/-- What is before 'j', is before it by a chain of edges. -/
theorem before_closed (ops : Array Oper) (S : Nat → Prop) (hS : ∀ j o, ops[j]? = some o → S j → ∀ e ∈ o.after, Region.binds .any e = true → S e.on) :
    ∀ j o, ops[j]? = some o → (∀ e ∈ o.after, Region.binds .any e = true → S e.on) → ∀ i, ((Region.before ops).getD j 0).testBit i = true → S i := by
  let f := fun (acc : Array Nat) (o : Oper) => acc.push (o.after.foldl (fun s e => if Region.binds .any e then s ||| 2 ^ e.on ||| acc.getD e.on 0 else s) 0)
  have key : (fun (i : Nat) (acc : Array Nat) => acc.size = i ∧ ∀ j, j < i → ∀ o, ops[j]? = some o → (∀ e ∈ o.after, Region.binds .any e = true → S e.on) → ∀ x, (acc.getD j 0).testBit x = true → S x) ops.size (ops.foldl f #[]) := by
    refine Array.foldl_induction (motive := fun (i : Nat) (acc : Array Nat) => acc.size = i ∧ ∀ j, j < i → ∀ o, ops[j]? = some o → (∀ e ∈ o.after, Region.binds .any e = true → S e.on) → ∀ x, (acc.getD j 0).testBit x = true → S x) ⟨rfl, fun j hj => absurd hj (by omega)⟩ ?_
    rintro i acc ⟨h1, h2⟩
    refine ⟨by simp [f, h1], fun j hj o ho he x hx => ?_⟩
    by_cases hji : j < i
    · have : (f acc ops[i]).getD j 0 = acc.getD j 0 := by
        simp only [f, Array.getD_eq_getD_getElem?]
        rw [Array.getElem?_push, if_neg (by omega)]
      rw [this] at hx
      exact h2 j hji o ho he x hx
    · have hji : j = i := by omega
      subst hji
      have hoi : ops[i] = o := by
        have h3 : ops[i.1]? = some ops[i] := Array.getElem?_eq_getElem i.2
        exact Option.some.inj (h3.symm.trans ho)
      have hfi : (f acc ops[i]).getD i.1 0 = o.after.foldl (fun s e => if Region.binds .any e then s ||| 2 ^ e.on ||| acc.getD e.on 0 else s) 0 := by
        simp only [f, Array.getD_eq_getD_getElem?, hoi]
        rw [Array.getElem?_push, if_pos h1.symm]; rfl
      rw [hfi, ← Array.foldl_toList] at hx
      rcases fold_bits acc x _ _ hx with hx | ⟨e, hm, hb, hx⟩
      · simp at hx
      · have hme : e ∈ o.after := Array.mem_toList_iff.1 hm
        rcases hx with rfl | hx
        · exact he e hme hb
        · by_cases hlt : e.on < i.1
          · have h4 : ops[e.on]? = some ops[e.on] := Array.getElem?_eq_getElem (Nat.lt_trans hlt i.2)
            exact h2 e.on hlt _ h4 (hS e.on _ h4 (he e hme hb)) x hx
          · rw [Array.getD_eq_getD_getElem?, Array.getElem?_eq_none (by omega)] at hx
            simp at hx
  intro j o ho he i hi
  have hj := (Array.getElem?_eq_some_iff.1 ho).1
  exact key.2 j hj o ho he i hi

/-! ## The evaluator's run, state by state -/
structure Trace (E : Env) (fl : Nat) (D : List AOperD) (tq : Nat → Tm) (hs : Nat → AH) : Prop where
  step : ∀ i o, D[i]? = some o →
    (wantedA (tq i) o.o.guard = true ∧ apartA (tq i) ((placeOf o.o.op).bind fun x => addrId (ev (tq i) x)) o.apart = true ∧
      ∃ v, aOp E (bif o.strict then (hs i).n else fl) (tq i) (hs i) o.o.op = some (v, hs (i + 1)) ∧ tq (i + 1) = setT (tq i) o.o.dst v) ∨
    (wantedA (tq i) o.o.guard = false ∧ hs (i + 1) = hs i ∧ tq (i + 1) = setT (tq i) o.o.dst undefA)

theorem trace_of {E : Env} {fl : Nat} : ∀ {D : List AOperD} {ts ts' : Tm} {h h' : AH}, aOpersD E fl D ts h = some (ts', h') →
    ∃ tq hs, tq 0 = ts ∧ hs 0 = h ∧ tq D.length = ts' ∧ hs D.length = h' ∧ Trace E fl D tq hs
  | [], ts, ts', h, h', hx => by
    simp only [aOpersD, Option.some.injEq, Prod.mk.injEq] at hx
    exact ⟨fun _ => ts, fun _ => h, rfl, rfl, hx.1, hx.2, ⟨fun i o ho => by simp at ho⟩⟩
  | o :: D, ts, ts', h, h', hx => by
    have mk : ∀ (ts1 : Tm) (h1 : AH), aOpersD E fl D ts1 h1 = some (ts', h') →
        ((wantedA ts o.o.guard = true ∧ apartA ts ((placeOf o.o.op).bind fun x => addrId (ev ts x)) o.apart = true ∧ ∃ v, aOp E (bif o.strict then h.n else fl) ts h o.o.op = some (v, h1) ∧ ts1 = setT ts o.o.dst v) ∨
          (wantedA ts o.o.guard = false ∧ h1 = h ∧ ts1 = setT ts o.o.dst undefA)) →
        ∃ tq hs, tq 0 = ts ∧ hs 0 = h ∧ tq (o :: D).length = ts' ∧ hs (o :: D).length = h' ∧ Trace E fl (o :: D) tq hs := by
      intro ts1 h1 hx hst
      obtain ⟨tq, hs, e1, e2, e3, e4, tr⟩ := trace_of hx
      refine ⟨fun i => match i with | 0 => ts | i + 1 => tq i, fun i => match i with | 0 => h | i + 1 => hs i, rfl, rfl, e3, e4, ⟨fun i p hp => ?_⟩⟩
      cases i with
      | zero =>
        simp only [List.getElem?_cons_zero, Option.some.injEq] at hp; subst hp
        simp only [e1, e2]; exact hst
      | succ i => exact tr.step i p (by simpa using hp)
    simp only [aOpersD] at hx
    cases hw : wantedA ts o.o.guard with
    | true =>
      rw [hw] at hx
      simp only [cond_true] at hx
      replace hx := bif_some hx
      obtain ⟨hap, hx⟩ := hx
      split at hx
      case h_2 => cases hx
      rename_i v h1 hop
      exact mk _ _ hx (.inl ⟨hw, hap, v, hop, rfl⟩)
    | false =>
      rw [hw] at hx
      simp only [cond_false] at hx
      exact mk _ _ hx (.inr ⟨hw, rfl, rfl⟩)

/-! ## Ranks: an order is complete -/
theorem ready_some {md : Region.Mode} {ops : Array Oper} {rank : Nat → Nat} (hr : rankOk md ops rank = true) {listed : Array Bool} (hl : listed.size = ops.size) {j : Nat} (hj : j < ops.size) (hn : listed.getD j true = false) :
    Region.ready md ops listed ≠ [] := by
  -- among what is not listed, one of the least rank
  have : ∀ r j, rank j = r → j < ops.size → listed.getD j true = false → ∃ k, k ∈ Region.ready md ops listed := by
    intro r
    induction r using Nat.strongRecOn with
    | _ r ih =>
      intro j hr' hj hn
      have ho : ops[j]? = some ops[j] := Array.getElem?_eq_getElem hj
      by_cases hall : ∀ e ∈ ops[j].after, Region.binds md e = true → listed.getD e.on false = true
      · exact ⟨j, mem_ready.2 ⟨hn, _, ho, hall⟩⟩
      · have : ∃ e, e ∈ ops[j].after ∧ Region.binds md e = true ∧ listed.getD e.on false = false := by
          refine Classical.byContradiction fun hne => hall fun e he hb => ?_
          cases hc : listed.getD e.on false with
          | true => rfl
          | false => exact absurd ⟨e, he, hb, hc⟩ hne
        obtain ⟨e, he, hb, hc⟩ := this
        unfold rankOk at hr
        have h1 := List.all_eq_true.1 hr (ops[j], j) (by
          rw [List.mem_iff_getElem?]
          exact ⟨j, by simp [hj]⟩)
        have h2 := List.all_eq_true.1 h1 e (Array.mem_toList_iff.2 he)
        simp only [hb, Bool.not_true, Bool.false_or, Bool.and_eq_true, nblt, decide_eq_true_eq] at h2
        refine ih (rank e.on) (by omega) e.on rfl h2.2 ?_
        rw [Array.getD_eq_getD_getElem?, Array.getElem?_eq_getElem (by omega)] at hc ⊢
        exact hc
  obtain ⟨k, hk⟩ := this _ j rfl hj hn
  intro h; rw [h] at hk; cases hk
end Go.Proofs.YtndlfkibcelhmaaGreatDoor.Ai
end
section
/- A region whose order is open: whatever the order, the machine comes to what the evaluator comes to in the order of the text. -/
namespace Go.Proofs.YtndlfkibcelhmaaGreatDoor.Ai
open Go

def dOf (P : Program) (nt : Nat) (ops : Array Oper) : List AOperD := (cOpers P nt ops).zipIdx.map fun (o, i) => cOne (cOpers P nt ops) (Region.before ops) i o
def floorOf (fl : Nat) (h : AH) (strict : Bool) : Nat := bif strict then h.n else fl

structure Ctx (P : Program) (F B fl : Nat) (E : Env) (nt : Nat) (ops : Array Oper) (μ0 : Mu) (h0 : AH) (w0 : World) (a0 : Act) (tq : Nat → Tm) (hs : Nat → AH) : Prop where
  hE : EnvOk P F B E
  hfl : F ≤ fl
  hr0 : HR P F B μ0 h0 w0.heap
  hn0 : fl ≤ h0.n
  ht0 : TmR μ0 (tq 0) a0.tmps
  hnt : nt ≤ a0.tmps.size
  e0 : hs 0 = h0
  ok : drawnOk ops (cOpers P nt ops) (Region.before ops) = true
  tr : Trace E fl (dOf P nt ops) tq hs

theorem dOf_at {P : Program} {nt : Nat} {ops : Array Oper} {i : Nat} {o : Oper} (ho : ops[i]? = some o) :
    (cOpers P nt ops)[i]? = some (cOper P nt ops o) ∧ (dOf P nt ops)[i]? = some (cOne (cOpers P nt ops) (Region.before ops) i (cOper P nt ops o)) := by
  have h1 : (cOpers P nt ops)[i]? = some (cOper P nt ops o) := by simp [cOpers, ho]
  refine ⟨h1, ?_⟩
  unfold dOf
  rw [List.getElem?_map, List.getElem?_zipIdx, h1]
  simp

section
variable {P : Program} {F B fl : Nat} {E : Env} {nt : Nat} {ops : Array Oper} {μ0 : Mu} {h0 : AH} {w0 : World} {a0 : Act} {tq : Nat → Tm} {hs : Nat → AH}

/-- The i-th operation, in the order of the text. -/
theorem Ctx.at (x : Ctx P F B fl E nt ops μ0 h0 w0 a0 tq hs) {i : Nat} {o : Oper} (ho : ops[i]? = some o) :
    (wantedA (tq i) (cOper P nt ops o).guard = true ∧ apartA (tq i) ((placeOf (cOper P nt ops o).op).bind fun x => addrId (ev (tq i) x)) (cOne (cOpers P nt ops) (Region.before ops) i (cOper P nt ops o)).apart = true ∧
      ∃ v, aOp E (floorOf fl (hs i) (cOne (cOpers P nt ops) (Region.before ops) i (cOper P nt ops o)).strict) (tq i) (hs i) (cOper P nt ops o).op = some (v, hs (i + 1)) ∧ tq (i + 1) = setT (tq i) (cOper P nt ops o).dst v) ∨
    (wantedA (tq i) (cOper P nt ops o).guard = false ∧ hs (i + 1) = hs i ∧ tq (i + 1) = setT (tq i) (cOper P nt ops o).dst undefA) :=
  x.tr.step i _ (dOf_at ho).2

theorem floor_ok {h : AH} (h1 : F ≤ fl) (h2 : fl ≤ h.n) (s : Bool) : F ≤ floorOf fl h s ∧ floorOf fl h s ≤ h.n ∧ fl ≤ floorOf fl h s := by
  cases s
  · exact ⟨h1, h2, Nat.le_refl _⟩
  · exact ⟨Nat.le_trans h1 h2, Nat.le_refl _, h2⟩

/-- The run in the order of the text: what its states stand for. -/
theorem Ctx.text (x : Ctx P F B fl E nt ops μ0 h0 w0 a0 tq hs) : ∀ i, i ≤ ops.size → ∃ (μ : Mu) (w : World) (a : Act), HR P F B μ (hs i) w.heap ∧ TmR μ (tq i) a.tmps ∧ nt ≤ a.tmps.size ∧ h0.n ≤ (hs i).n ∧
    ∀ k, k < i → (hs k).n ≤ (hs (k + 1)).n ∧ ∀ o, ops[k]? = some o → ∀ id, id < floorOf fl (hs k) (cOne (cOpers P nt ops) (Region.before ops) k (cOper P nt ops o)).strict → id < (hs k).n → (hs (k + 1)).get id = (hs k).get id
  | 0, _ => ⟨μ0, w0, a0, by rw [x.e0]; exact x.hr0, x.ht0, x.hnt, by rw [x.e0]; exact Nat.le_refl _, fun k hk => absurd hk (by omega)⟩
  | i + 1, hi => by
    obtain ⟨μ, w, a, hr, ht, hnt, hn, hk⟩ := x.text i (by omega)
    have ho : ops[i]? = some ops[i] := Array.getElem?_eq_getElem (by omega)
    generalize ops[i] = o at ho
    have hfl' : fl ≤ (hs i).n := Nat.le_trans x.hn0 hn
    obtain ⟨f1, f2, f3⟩ := floor_ok x.hfl hfl' (cOne (cOpers P nt ops) (Region.before ops) i (cOper P nt ops o)).strict
    obtain ⟨hyes, hno⟩ := cOper_spec (P := P) (E := E) (fl := floorOf fl (hs i) (cOne (cOpers P nt ops) (Region.before ops) i (cOper P nt ops o)).strict) (h := hs i) ht hnt ops o
    rcases x.at ho with ⟨hw, _, v, hop, htq⟩ | ⟨hw, hh, htq⟩
    · obtain ⟨c1, c2, c3, c4⟩ := hyes hw _ hop
      obtain ⟨_, μ1, y, w1, _, r1, r2, r3⟩ := op_goes x.hE hr f2 f1 ht o c1 hop
      refine ⟨μ1, w1, a.put o.dst y, r1, ?_, by rw [put_size]; exact hnt, Nat.le_trans hn r2.n, fun k hk' => ?_⟩
      · rw [htq, c2]
        exact (ht.mono (r2.le hr.dom)).put (fun d e => Nat.lt_of_lt_of_le (c3 d e) hnt) r3
      · by_cases hki : k < i
        · exact hk k hki
        · have : k = i := by omega
          subst this
          refine ⟨r2.n, fun o' ho' id h1 h2 => ?_⟩
          rw [ho] at ho'; cases ho'
          exact r2.low id h1 h2
    · obtain ⟨c2, c3, c4⟩ := hno hw
      refine ⟨μ, w, a.put o.dst undef, by rw [hh]; exact hr, ?_, by rw [put_size]; exact hnt, by rw [hh]; exact hn, fun k hk' => ?_⟩
      · rw [htq, c2]
        exact ht.put (fun d e => Nat.lt_of_lt_of_le (c3 d e) hnt) Rep.undef
      · by_cases hki : k < i
        · exact hk k hki
        · have : k = i := by omega
          subst this
          rw [hh]
          exact ⟨Nat.le_refl _, fun _ _ _ _ _ => rfl⟩

theorem Ctx.up (x : Ctx P F B fl E nt ops μ0 h0 w0 a0 tq hs) {k : Nat} (hk : k < ops.size) : (hs k).n ≤ (hs (k + 1)).n := by
  obtain ⟨_, _, _, _, _, _, _, h⟩ := x.text (k + 1) hk
  exact (h k (by omega)).1
theorem Ctx.low (x : Ctx P F B fl E nt ops μ0 h0 w0 a0 tq hs) {k : Nat} {o : Oper} (ho : ops[k]? = some o) {id : Nat}
    (h1 : id < floorOf fl (hs k) (cOne (cOpers P nt ops) (Region.before ops) k (cOper P nt ops o)).strict) (h2 : id < (hs k).n) : (hs (k + 1)).get id = (hs k).get id := by
  obtain ⟨_, _, _, _, _, _, _, h⟩ := x.text (k + 1) (Array.getElem?_eq_some_iff.1 ho).1
  exact (h k (by omega)).2 o ho id h1 h2
theorem Ctx.base (x : Ctx P F B fl E nt ops μ0 h0 w0 a0 tq hs) {k : Nat} (hk : k ≤ ops.size) : h0.n ≤ (hs k).n := by
  obtain ⟨_, _, _, _, _, _, h, _⟩ := x.text k hk
  exact h
theorem Ctx.wf (x : Ctx P F B fl E nt ops μ0 h0 w0 a0 tq hs) {k : Nat} (hk : k ≤ ops.size) {id : Nat} {o : AObj} (hid : id < (hs k).n) (hg : (hs k).get id = some o) : ObjBelow P (hs k).n o := by
  obtain ⟨_, _, _, hr, _⟩ := x.text k hk
  exact hr.wf id o hid hg
theorem Ctx.below (x : Ctx P F B fl E nt ops μ0 h0 w0 a0 tq hs) {k : Nat} (hk : k ≤ ops.size) (t : Nat) : Below (hs k).n (tg (tq k) t) := by
  obtain ⟨μ, _, a, hr, ht, _⟩ := x.text k hk
  exact ⟨μ, _, hr.dom, ht t⟩
theorem Ctx.mono (x : Ctx P F B fl E nt ops μ0 h0 w0 a0 tq hs) {i : Nat} : ∀ {j : Nat}, i ≤ j → j ≤ ops.size → (hs i).n ≤ (hs j).n
  | 0, hij, _ => by rw [show i = 0 by omega]; exact Nat.le_refl _
  | j + 1, hij, hj => by
    by_cases h : i = j + 1
    · rw [h]; exact Nat.le_refl _
    · exact Nat.le_trans (x.mono (by omega) (by omega)) (x.up (by omega))

/-- What is not heavy leaves what is there. -/
theorem Ctx.light (x : Ctx P F B fl E nt ops μ0 h0 w0 a0 tq hs) {k : Nat} {o : Oper} (ho : ops[k]? = some o) (hl : heavy (cOper P nt ops o).op = false) {id : Nat} (hid : id < (hs k).n) : (hs (k + 1)).get id = (hs k).get id := by
  rcases x.at ho with ⟨_, _, v, hop, _⟩ | ⟨_, hh, _⟩
  · obtain ⟨h3, _, h⟩ := light_spec hl hop 0 (h2 := hs k) rfl (fun _ _ _ _ => rfl)
    rcases h with ⟨h, _⟩ | ⟨ob, h, _⟩
    · rw [h]
    · rw [h, AH.get_push, if_neg (by omega)]
  · rw [hh]
/-- From 'i' to 'j' all that is there stays, if each step leaves it. -/
theorem Ctx.stays (x : Ctx P F B fl E nt ops μ0 h0 w0 a0 tq hs) {i id : Nat} (hid : id < (hs i).n) : ∀ {j : Nat}, i ≤ j → j ≤ ops.size → (∀ k, i ≤ k → k < j → id < (hs k).n → (hs (k + 1)).get id = (hs k).get id) → (hs j).get id = (hs i).get id
  | 0, hij, _, _ => by rw [show i = 0 by omega]
  | j + 1, hij, hj, h => by
    by_cases he : i = j + 1
    · rw [he]
    · rw [h j (by omega) (by omega) (Nat.lt_of_lt_of_le hid (x.mono (by omega) (by omega))), x.stays hid (by omega) (by omega) fun k h1 h2 => h k h1 (by omega)]

/-- A state on the way: the operations of S have been made; of the heavy ones those below 'q'. -/
structure Inv (P : Program) (F B fl : Nat) (nt : Nat) (ops : Array Oper) (μ0 : Mu) (h0 : AH) (w0 : World) (a0 : Act) (tq : Nat → Tm) (hs : Nat → AH) (S : Nat → Prop) (q : Nat) (μ : Mu) (V : AH) (w : World) (a : Act) : Prop where
  hr : HR P F B μ V w.heap
  vn : V.n = (hs ops.size).n
  ext : Ext F fl μ0 h0 w0.heap μ V w.heap
  same : Same w0 w
  size : a.tmps.size = a0.tmps.size
  defers : a.defers = a0.defers
  tm : ∀ t k, k ≤ ops.size → (∀ j o, ops[j]? = some o → writesT (cOper P nt ops o) t = true → (j < k ↔ S j)) → Rep μ (tg (tq k) t) (a.tmps.getD t undef)
  hq : q ≤ ops.size
  hl : ∀ j o, ops[j]? = some o → heavy (cOper P nt ops o).op = true → (j < q ↔ S j)
  one : ∀ id, id < (hs q).n → V.get id = (hs q).get id
  two : ∀ k id, k < ops.size → (hs k).n ≤ id → id < (hs (k + 1)).n → ((hs q).n ≤ id ∨ μ id = none) → V.get id = (hs (k + 1)).get id
  four : ∀ k id, k < ops.size → ¬ S k → (hs k).n ≤ id → id < (hs (k + 1)).n → μ id = none
  closed : ∀ j o, ops[j]? = some o → S j → ∀ e ∈ o.after, Region.binds .any e = true → S e.on

/-- What may be made next. -/
structure Ripe (ops : Array Oper) (S : Nat → Prop) (i : Nat) (o : Oper) : Prop where
  ho : ops[i]? = some o
  ni : ¬ S i
  ready : ∀ e ∈ o.after, Region.binds .any e = true → S e.on

theorem ordered_lt {b : Array Nat} {i j : Nat} (h : i < j) : ordered b i j = (b.getD j 0).testBit i := by
  unfold ordered; rw [Nat.max_eq_right (by omega), Nat.min_eq_left (by omega)]
theorem ordered_gt {b : Array Nat} {i j : Nat} (h : j < i) : ordered b i j = (b.getD i 0).testBit j := by
  unfold ordered; rw [Nat.max_eq_left (by omega), Nat.min_eq_right (by omega)]

/-- What is ordered against the operation that is made next: made, if before it; not made, if behind it. -/
theorem Ripe.split {S : Nat → Prop} (hcl : ∀ j o, ops[j]? = some o → S j → ∀ e ∈ o.after, Region.binds .any e = true → S e.on) {i : Nat} {o : Oper} (r : Ripe ops S i o) {j : Nat} {o' : Oper} (hj : ops[j]? = some o')
    (h : j = i ∨ ordered (Region.before ops) i j = true) : j < i ↔ S j := by
  rcases Nat.lt_trichotomy j i with hlt | rfl | hgt
  · rcases h with h | h
    · omega
    · rw [ordered_gt hlt] at h
      exact ⟨fun _ => before_closed ops S hcl i o r.ho r.ready j h, fun _ => hlt⟩
  · exact ⟨fun h => absurd h (by omega), fun h => absurd h r.ni⟩
  · rcases h with h | h
    · omega
    · rw [ordered_lt hgt] at h
      exact ⟨fun h => absurd h (by omega), fun hS => absurd (before_closed ops S hcl j o' hj (hcl j o' hj hS) i h) r.ni⟩

theorem all_at {α : Type} {p : α × Nat → Bool} {l : List α} (h : l.zipIdx.all p = true) {i : Nat} {y : α} (hy : l[i]? = some y) : p (y, i) = true := by
  refine List.all_eq_true.1 h (y, i) ?_
  rw [List.mem_iff_getElem?]
  exact ⟨i, by rw [List.getElem?_zipIdx, hy]; simp⟩

theorem Ctx.heavies (x : Ctx P F B fl E nt ops μ0 h0 w0 a0 tq hs) {i j : Nat} {o o' : Oper} (hi : ops[i]? = some o) (hj : ops[j]? = some o') (h1 : heavy (cOper P nt ops o).op = true) (h2 : heavy (cOper P nt ops o').op = true) :
    j = i ∨ ordered (Region.before ops) i j = true := by
  have hok := x.ok
  unfold drawnOk at hok
  simp only [Bool.and_eq_true] at hok
  have := all_at hok.1.1.1 (dOf_at hi).1
  simp only [h1, Bool.not_true, Bool.false_or] at this
  have := all_at this (dOf_at hj).1
  simp only [h2, Bool.not_true, Bool.false_or, Bool.or_eq_true, nbeq, decide_eq_true_eq] at this
  rcases this with h | h
  · exact .inl h.symm
  · exact .inr h
theorem Ctx.names (x : Ctx P F B fl E nt ops μ0 h0 w0 a0 tq hs) {i j : Nat} {o o' : Oper} (hi : ops[i]? = some o) (hj : ops[j]? = some o') {t : Nat} (ht : t ∈ namesOf o (cOper P nt ops o)) (hw : writesT (cOper P nt ops o') t = true) :
    j = i ∨ ordered (Region.before ops) i j = true := by
  have hok := x.ok
  unfold drawnOk at hok
  simp only [Bool.and_eq_true] at hok
  have hz : (ops.toList.zip (cOpers P nt ops))[i]? = some (o, cOper P nt ops o) := by
    rw [List.getElem?_zip_eq_some]
    exact ⟨by simpa using hi, (dOf_at hi).1⟩
  have h1 := all_at hok.1.1.2 hz
  simp only at h1
  have h2 := List.all_eq_true.1 h1 t ht
  have h3 := all_at h2 (dOf_at hj).1
  simp only [hw, Bool.not_true, Bool.false_or, Bool.or_eq_true, nbeq, decide_eq_true_eq] at h3
  exact h3

/-- What the operation that is made next finds in the temporaries that it names. -/
theorem Inv.named (x : Ctx P F B fl E nt ops μ0 h0 w0 a0 tq hs) {S : Nat → Prop} {q : Nat} {μ : Mu} {V : AH} {w : World} {a : Act} (v : Inv P F B fl nt ops μ0 h0 w0 a0 tq hs S q μ V w a) {i : Nat} {o : Oper} (r : Ripe ops S i o)
    {t : Nat} (ht : t ∈ namesOf o (cOper P nt ops o)) : Rep (μ.cut (hs i).n) (tg (tq i) t) (a.tmps.getD t undef) := by
  have hi := (Array.getElem?_eq_some_iff.1 r.ho).1
  exact (v.tm t i (by omega) fun j o' hj hw => r.split v.closed hj (x.names r.ho hj ht hw)).below (x.below (by omega) t)

/-! ### Masks -/
theorem mask_tm (ts : Tm) : ∀ l : List Nat, ∃ ts' : Tm, ∀ t, tg ts' t = if t ∈ l then tg ts t else undefA
  | [] => ⟨.leaf, fun t => by rw [if_neg (by simp)]; rfl⟩
  | u :: l => by
    obtain ⟨ts', h⟩ := mask_tm ts l
    refine ⟨ts'.set u (tg ts u), fun t => ?_⟩
    rw [tg_set, h]
    by_cases e : t = u
    · subst e; simp
    · simp [e]
theorem mask_act (a : Act) (l : List Nat) : ∃ a' : Act, a'.tmps.size = a.tmps.size ∧ ∀ t, a'.tmps.getD t undef = if t ∈ l then a.tmps.getD t undef else undef := by
  refine ⟨{ tmps := (Array.range a.tmps.size).map fun t => if t ∈ l then a.tmps.getD t undef else undef, defers := [] }, by simp, fun t => ?_⟩
  by_cases h : t < a.tmps.size
  · simp [Array.getD_eq_getD_getElem?, h]
  · have e1 : a.tmps.getD t undef = undef := by rw [Array.getD_eq_getD_getElem?, Array.getElem?_eq_none (by omega)]; rfl
    rw [e1, ite_self, Array.getD_eq_getD_getElem?, Array.getElem?_eq_none (by simp; omega)]; rfl

/-! ### Who reads is not touched by who writes -/
theorem Ctx.tg_step (x : Ctx P F B fl E nt ops μ0 h0 w0 a0 tq hs) {j : Nat} {o : Oper} (ho : ops[j]? = some o) {t : Nat} (hw : writesT (cOper P nt ops o) t = false) : tg (tq (j + 1)) t = tg (tq j) t := by
  have key : ∀ v, tg (setT (tq j) (cOper P nt ops o).dst v) t = tg (tq j) t := by
    intro v
    unfold writesT at hw
    cases hd : (cOper P nt ops o).dst with
    | none => rfl
    | some d =>
      rw [hd] at hw
      simp only [nbeq, decide_eq_false_iff_not] at hw
      simp only [setT, tg_set]
      rw [if_neg (fun e => hw e.symm)]
  rcases x.at ho with ⟨_, _, v, _, e⟩ | ⟨_, _, e⟩
  · rw [e]; exact key v
  · rw [e]; exact key undefA

theorem Ctx.tg_kept (x : Ctx P F B fl E nt ops μ0 h0 w0 a0 tq hs) {k t : Nat} : ∀ {i : Nat}, k ≤ i → i ≤ ops.size → (∀ j o, ops[j]? = some o → k ≤ j → j < i → writesT (cOper P nt ops o) t = false) → tg (tq i) t = tg (tq k) t
  | 0, hki, _, _ => by rw [show k = 0 by omega]
  | i + 1, hki, hi, h => by
    by_cases he : k = i + 1
    · rw [he]
    · have ho : ops[i]? = some ops[i] := Array.getElem?_eq_getElem (by omega)
      rw [x.tg_step ho (h i _ ho (by omega) (by omega)), x.tg_kept (by omega) (by omega) fun j o hj h1 h2 => h j o hj h1 (by omega)]

theorem Ctx.ev_kept (x : Ctx P F B fl E nt ops μ0 h0 w0 a0 tq hs) {k i : Nat} {y : AOpd} (hki : k ≤ i) (hi : i ≤ ops.size) (h : keptT (cOpers P nt ops) k i y = true) : ev (tq i) y = ev (tq k) y := by
  cases y with
  | t t =>
    simp only [ev]
    refine x.tg_kept hki hi fun j o hj h1 h2 => ?_
    simp only [keptT, tmpOf, List.all_cons, List.all_nil, Bool.and_true] at h
    have := List.all_eq_true.1 h (cOper P nt ops o) (by
      rw [List.mem_iff_getElem?]
      refine ⟨j - k, ?_⟩
      rw [List.getElem?_take, if_pos (by omega), List.getElem?_drop, show k + (j - k) = j by omega]
      exact (dOf_at hj).1)
    simpa using this
  | _ => rfl

theorem apart_mem {ts : Tm} {a : Option Nat} : ∀ {l : List AOpd}, apartA ts a l = true → ∀ y ∈ l, ∀ i j, a = some i → addrId (ev ts y) = some j → i ≠ j
  | [], _, y, hy, _, _, _, _ => by cases hy
  | z :: l, h, y, hy, i, j, ha, hj => by
    simp only [apartA, Bool.and_eq_true] at h
    cases hy with
    | head =>
      have h1 := h.1
      rw [ha, hj] at h1
      simp only [nbeq, Bool.not_eq_true', decide_eq_false_iff_not] at h1
      exact h1
    | tail _ hy => exact apart_mem h.2 y hy i j ha hj

theorem read_of_write {op : AOp} {y : AOpd} (h : writeOf op = some y) : readOf op = none := by
  cases op <;> first | rfl | (simp [writeOf] at h)

theorem mem_apart {l : List AOper} {b : Array Nat} {i k : Nat} {o p : AOper} (hk : l[k]? = some p) (hlt : k < i) (hun : ordered b k i = false) {y : AOpd}
    (hy : (bif (readOf o.op).isSome then writeOf p.op else bif (writeOf o.op).isSome then readOf p.op else none) = some y) : y ∈ (cOne l b i o).apart := by
  unfold cOne
  simp only
  rw [List.mem_filterMap]
  refine ⟨(p, k), ?_, ?_⟩
  · rw [List.mem_iff_getElem?]; exact ⟨k, by rw [List.getElem?_zipIdx, hk]; simp⟩
  · simp only [nblt, decide_eq_true hlt, hun, Bool.not_false, Bool.and_self, cond_true]
    exact hy

theorem Ctx.keptAt (x : Ctx P F B fl E nt ops μ0 h0 w0 a0 tq hs) {i k : Nat} {o p : Oper} (hi : ops[i]? = some o) (hk : ops[k]? = some p) (hlt : k < i) (hun : ordered (Region.before ops) k i = false) :
    (∀ y, (readOf (cOper P nt ops o).op).isSome = true → writeOf (cOper P nt ops p).op = some y → keptT (cOpers P nt ops) k i y = true) ∧
    (∀ y, (writeOf (cOper P nt ops o).op).isSome = true → readOf (cOper P nt ops p).op = some y → keptT (cOpers P nt ops) k i y = true) := by
  have hok := x.ok
  unfold drawnOk at hok
  simp only [Bool.and_eq_true] at hok
  have h1 := all_at (all_at hok.1.2 (dOf_at hi).1) (dOf_at hk).1
  simp only [nblt, decide_eq_true hlt, hun, Bool.not_false, Bool.and_self, Bool.not_true, Bool.false_or, Bool.and_eq_true, Bool.or_eq_true] at h1
  refine ⟨fun y hr hw => ?_, fun y hw hr => ?_⟩
  · rcases h1.1 with h | h
    · cases hh : readOf (cOper P nt ops o).op <;> rw [hh] at h hr <;> simp at h hr
    · rw [hw] at h; simpa using h
  · rcases h1.2 with h | h
    · cases hh : writeOf (cOper P nt ops o).op <;> rw [hh] at h hw <;> simp at h hw
    · rw [hr] at h; simpa using h

theorem ordered_comm (b : Array Nat) (i j : Nat) : ordered b i j = ordered b j i := by unfold ordered; rw [Nat.max_comm, Nat.min_comm]

/-- The object that an operation reads is left by what is heavy and not ordered against it. -/
theorem Ctx.untouched (x : Ctx P F B fl E nt ops μ0 h0 w0 a0 tq hs) {i k : Nat} {o p : Oper} (hi : ops[i]? = some o) (hk : ops[k]? = some p) (hne : k ≠ i) (hun : ordered (Region.before ops) i k = false)
    (hact : wantedA (tq i) (cOper P nt ops o).guard = true) {xr : AOpd} (hr : readOf (cOper P nt ops o).op = some xr) {id : Nat} (hid : addrId (ev (tq i) xr) = some id) (hidk : id < (hs k).n) : (hs (k + 1)).get id = (hs k).get id := by
  have hi' := (Array.getElem?_eq_some_iff.1 hi).1
  have hk' := (Array.getElem?_eq_some_iff.1 hk).1
  by_cases hheavy : heavy (cOper P nt ops p).op = true
  case neg => exact x.light hk (by simpa using hheavy) hidk
  rcases x.at hk with ⟨_, hap, v, hop, _⟩ | ⟨_, hh, _⟩
  case inr => rw [hh]
  by_cases hc : isCallA (cOper P nt ops p).op = true
  · refine x.low hk ?_ hidk
    have : (cOne (cOpers P nt ops) (Region.before ops) k (cOper P nt ops p)).strict = true := by
      unfold cOne
      simp only [hc, Bool.true_and, List.any_eq_true]
      refine ⟨(cOper P nt ops o, i), ?_, ?_⟩
      · rw [List.mem_iff_getElem?]; exact ⟨i, by rw [List.getElem?_zipIdx, (dOf_at hi).1]; simp⟩
      · simp only [hr, Option.isSome_some, Bool.true_and]
        rw [ordered_comm, hun]; rfl
    rw [this]; exact hidk
  · cases hw : writeOf (cOper P nt ops p).op with
    | none => rw [heavy_still hw (by simpa using hc) hheavy hop]
    | some xw =>
      refine write_only hw hop hidk fun hxw => ?_
      rcases Nat.lt_or_gt_of_ne hne with hlt | hgt
      · -- the writer first, in the text
        have hun' : ordered (Region.before ops) k i = false := by rw [ordered_comm]; exact hun
        rcases x.at hi with ⟨_, hapi, _⟩ | ⟨hw', _⟩
        · have hpl : (placeOf (cOper P nt ops o).op).bind (fun y => addrId (ev (tq i) y)) = some id := by
            unfold placeOf; rw [hr]; exact hid
          have hm := mem_apart (o := cOper P nt ops o) (dOf_at hk).1 hlt hun' (y := xw) (by rw [hr]; exact hw)
          have hkept := (x.keptAt hi hk hlt hun').1 xw (by rw [hr]; rfl) hw
          exact apart_mem hapi xw hm id id hpl (by rw [x.ev_kept (by omega) (by omega) hkept]; exact hxw) rfl
        · rw [hact] at hw'; cases hw'
      · have hm := mem_apart (o := cOper P nt ops p) (dOf_at hi).1 hgt hun (y := xr) (by rw [read_of_write hw, hw]; exact hr)
        have hpl : (placeOf (cOper P nt ops p).op).bind (fun y => addrId (ev (tq k) y)) = some id := by
          unfold placeOf; rw [read_of_write hw, hw]; exact hxw
        have hkept := (x.keptAt hk hi hgt hun).2 xr (by rw [hw]; rfl) hr
        exact apart_mem hap xr hm id id hpl (by rw [x.ev_kept (by omega) (by omega) hkept]; exact hid) rfl
end
end Go.Proofs.YtndlfkibcelhmaaGreatDoor.Ai
end
section
/- One operation more of a region whose order is open. -/
namespace Go.Proofs.YtndlfkibcelhmaaGreatDoor.Ai
open Go

section
variable {P : Program} {F B fl : Nat} {E : Env} {nt : Nat} {ops : Array Oper} {μ0 : Mu} {h0 : AH} {w0 : World} {a0 : Act} {tq : Nat → Tm} {hs : Nat → AH}

theorem Inv.finish (x : Ctx P F B fl E nt ops μ0 h0 w0 a0 tq hs) {S : Nat → Prop} {q : Nat} {μ : Mu} {V : AH} {w : World} {a : Act} (v : Inv P F B fl nt ops μ0 h0 w0 a0 tq hs S q μ V w a) {i : Nat} {o : Oper} (r : Ripe ops S i o)
    (hdst : (cOper P nt ops o).dst = o.dst) (hlt : ∀ d, o.dst = some d → d < nt) {μ' : Mu} {V' : AH} {w' : World} {u : AVal} {y : Value} (htq : tq (i + 1) = setT (tq i) (cOper P nt ops o).dst u) (hu : Rep μ' u y)
    (hr' : HR P F B μ' V' w'.heap) (hvn : V'.n = V.n) (hext : Ext F fl μ0 h0 w0.heap μ' V' w'.heap) (hsame : Same w w') (hle : μ.le μ')
    (hold : ∀ id, id < (hs i).n → μ' id = μ id) (hfar : ∀ id, (hs (i + 1)).n ≤ id → μ' id = μ id)
    {q' : Nat} (hq : q' ≤ ops.size) (hl : ∀ j o, ops[j]? = some o → heavy (cOper P nt ops o).op = true → (j < q' ↔ (S j ∨ j = i)))
    (hone : ∀ id, id < (hs q').n → V'.get id = (hs q').get id)
    (htwo : ∀ k id, k < ops.size → (hs k).n ≤ id → id < (hs (k + 1)).n → ((hs q').n ≤ id ∨ μ' id = none) → V'.get id = (hs (k + 1)).get id) :
    Inv P F B fl nt ops μ0 h0 w0 a0 tq hs (fun j => S j ∨ j = i) q' μ' V' w' (a.put o.dst y) where
  hr := hr'
  vn := hvn.trans v.vn
  ext := hext
  same := v.same.trans hsame
  size := (put_size _ _ _).trans v.size
  defers := (put_defers _ _ _).trans v.defers
  tm t k hk hwr := by
    have hi := (Array.getElem?_eq_some_iff.1 r.ho).1
    by_cases hw : writesT (cOper P nt ops o) t = true
    · have hd : o.dst = some t := by
        unfold writesT at hw
        rw [hdst] at hw
        cases hd : o.dst with
        | none => rw [hd] at hw; cases hw
        | some d =>
          rw [hd] at hw
          simp only [nbeq, decide_eq_true_eq] at hw
          rw [hw]
      have hik : i < k := (hwr i o r.ho hw).2 (.inr rfl)
      have hnm : t ∈ namesOf o (cOper P nt ops o) := by
        unfold namesOf; rw [hdst, hd]; simp
      have e1 : tg (tq k) t = tg (tq (i + 1)) t := x.tg_kept hik hk fun j o' hj h1 h2 => by
        cases hwj : writesT (cOper P nt ops o') t with
        | false => rfl
        | true =>
          have h3 := (hwr j o' hj hwj).1 h2
          have h4 := r.split v.closed hj (x.names r.ho hj hnm hwj)
          rcases h3 with h3 | h3
          · have := h4.2 h3; omega
          · omega
      rw [e1, htq, hdst, hd]
      have hts : t < a.tmps.size := by rw [v.size]; exact Nat.lt_of_lt_of_le (hlt t hd) x.hnt
      simp only [setT, tg_set, if_true, Act.put]
      rw [Array.getD_eq_getD_getElem?, Array.getElem?_setIfInBounds_self_of_lt hts]
      exact hu
    · have e1 : (a.put o.dst y).tmps.getD t undef = a.tmps.getD t undef := by
        cases hd : o.dst with
        | none => rfl
        | some d =>
          have hne : d ≠ t := by
            rintro rfl
            apply hw
            unfold writesT; rw [hdst, hd]; simp
          simp only [Act.put, Array.getD_eq_getD_getElem?, Array.getElem?_setIfInBounds_ne hne]
      rw [e1]
      refine (v.tm t k hk fun j o' hj hwj => ?_).mono hle
      have h1 := hwr j o' hj hwj
      have hji : j ≠ i := by rintro rfl; rw [r.ho] at hj; cases hj; exact hw hwj
      exact ⟨fun h => (h1.1 h).resolve_right hji, fun h => h1.2 (.inl h)⟩
  hq := hq
  hl := hl
  one := hone
  two := htwo
  four k id hk hS h1 h2 := by
    have hi := (Array.getElem?_eq_some_iff.1 r.ho).1
    have hSk : ¬ S k := fun h => hS (.inl h)
    have hki : k ≠ i := fun h => hS (.inr h)
    rcases Nat.lt_or_gt_of_ne hki with h | h
    · rw [hold id (Nat.lt_of_lt_of_le h2 (x.mono (by omega) (by omega)))]
      exact v.four k id hk hSk h1 h2
    · rw [hfar id (Nat.le_trans (x.mono (by omega) (by omega)) h1)]
      exact v.four k id hk hSk h1 h2
  closed j o' hj hS e he hb := by
    rcases hS with hS | rfl
    · exact .inl (v.closed j o' hj hS e he hb)
    · rw [r.ho] at hj; cases hj
      exact .inl (r.ready e he hb)

theorem between {f : Nat → Nat} {id : Nat} : ∀ {q i : Nat}, q ≤ i → f q ≤ id → id < f i → ∃ k, q ≤ k ∧ k < i ∧ f k ≤ id ∧ id < f (k + 1)
  | q, 0, h, h1, h2 => by rw [show q = 0 by omega] at h1; omega
  | q, i + 1, h, h1, h2 => by
    by_cases he : q = i + 1
    · subst he; omega
    · by_cases hi : id < f i
      · obtain ⟨k, a, b, c, d⟩ := between (f := f) (id := id) (show q ≤ i by omega) h1 hi
        exact ⟨k, a, by omega, c, d⟩
      · exact ⟨i, by omega, by omega, by omega, h2⟩

/-- Before a heavy operation: the state is the one of the text there. -/
theorem Inv.shift (x : Ctx P F B fl E nt ops μ0 h0 w0 a0 tq hs) {S : Nat → Prop} {q : Nat} {μ : Mu} {V : AH} {w : World} {a : Act} (v : Inv P F B fl nt ops μ0 h0 w0 a0 tq hs S q μ V w a) {i : Nat} {o : Oper} (r : Ripe ops S i o)
    (hh : heavy (cOper P nt ops o).op = true) : Inv P F B fl nt ops μ0 h0 w0 a0 tq hs S i μ V w a := by
  have hi := (Array.getElem?_eq_some_iff.1 r.ho).1
  have hqi : q ≤ i := by
    rcases Nat.lt_or_ge i q with h | h
    · exact absurd ((v.hl i o r.ho hh).1 h) r.ni
    · exact h
  have hl' : ∀ j o', ops[j]? = some o' → heavy (cOper P nt ops o').op = true → (j < i ↔ S j) := fun j o' hj hhj => r.split v.closed hj (x.heavies r.ho hj hh hhj)
  have hlight : ∀ k o', ops[k]? = some o' → q ≤ k → k < i → heavy (cOper P nt ops o').op = false := fun k o' hk h1 h2 => by
    cases hhk : heavy (cOper P nt ops o').op with
    | false => rfl
    | true =>
      have := (v.hl k o' hk hhk).2 ((hl' k o' hk hhk).1 h2)
      omega
  have hst : ∀ k id, q ≤ k → k ≤ i → id < (hs k).n → (hs i).get id = (hs k).get id := fun k id h1 h2 hid =>
    x.stays hid h2 (by omega) fun j h3 h4 h5 => by
      have hj : ops[j]? = some ops[j] := Array.getElem?_eq_getElem (by omega)
      exact x.light hj (hlight j _ hj (by omega) h4) h5
  exact { v with
    hq := by omega
    hl := hl'
    one := fun id hid => by
      by_cases hq : id < (hs q).n
      · rw [v.one id hq, hst q id (Nat.le_refl _) hqi hq]
      · obtain ⟨k, h1, h2, h3, h4⟩ := between (f := fun k => (hs k).n) hqi (by omega) hid
        rw [v.two k id (by omega) h3 h4 (.inl (by omega)), hst (k + 1) id (by omega) (by omega) h4]
    two := fun k id hk h1 h2 h3 => v.two k id hk h1 h2 (h3.imp (fun h => Nat.le_trans (x.mono hqi (by omega)) h) fun h => h) }

/-- What an operation reads stands in the state on the way as1 it stands in the text. -/
theorem Inv.reads (x : Ctx P F B fl E nt ops μ0 h0 w0 a0 tq hs) {S : Nat → Prop} {q : Nat} {μ : Mu} {V : AH} {w : World} {a : Act} (v : Inv P F B fl nt ops μ0 h0 w0 a0 tq hs S q μ V w a) {i : Nat} {o : Oper} (r : Ripe ops S i o)
    (hh : heavy (cOper P nt ops o).op = false) (hact : wantedA (tq i) (cOper P nt ops o).guard = true) {xr : AOpd} (hr : readOf (cOper P nt ops o).op = some xr) {id : Nat} (hid : addrId (ev (tq i) xr) = some id) (hlt : id < (hs i).n) :
    V.get id = (hs i).get id := by
  have hi := (Array.getElem?_eq_some_iff.1 r.ho).1
  -- the heavy ones between the two places are not ordered against it
  have hun : ∀ k o', ops[k]? = some o' → heavy (cOper P nt ops o').op = true → ((i ≤ k ∧ k < q) ∨ (q ≤ k ∧ k < i)) → k ≠ i ∧ ordered (Region.before ops) i k = false := fun k o' hk hhk hb => by
    have hki : k ≠ i := by rintro rfl; rw [r.ho] at hk; cases hk; rw [hh] at hhk; cases hhk
    refine ⟨hki, ?_⟩
    cases ho : ordered (Region.before ops) i k with
    | false => rfl
    | true =>
      have h1 := r.split v.closed hk (.inr ho)
      have h2 := v.hl k o' hk hhk
      rcases hb with hb | hb
      · have := h1.2 (h2.1 hb.2); omega
      · have := h2.2 (h1.1 hb.2); omega
  have hstep : ∀ k, k < ops.size → ((i ≤ k ∧ k < q) ∨ (q ≤ k ∧ k < i)) → id < (hs k).n → (hs (k + 1)).get id = (hs k).get id := fun k hk hb hidk => by
    have hko : ops[k]? = some ops[k] := Array.getElem?_eq_getElem hk
    by_cases hhk : heavy (cOper P nt ops ops[k]).op = true
    · obtain ⟨h1, h2⟩ := hun k _ hko hhk hb
      exact x.untouched r.ho hko h1 h2 hact hr hid hidk
    · exact x.light hko (by simpa using hhk) hidk
  rcases Nat.le_total i q with hle | hle
  · have h1 : id < (hs q).n := Nat.lt_of_lt_of_le hlt (x.mono hle v.hq)
    rw [v.one id h1]
    exact x.stays hlt hle v.hq fun k h1 h2 h3 => hstep k (by have := v.hq; omega) (.inl ⟨h1, h2⟩) h3
  · by_cases hq : id < (hs q).n
    · rw [v.one id hq]
      exact (x.stays hq hle (by omega) fun k h1 h2 h3 => hstep k (by omega) (.inr ⟨h1, h2⟩) h3).symm
    · obtain ⟨k, h1, h2, h3, h4⟩ := between (f := fun k => (hs k).n) hle (by omega) hlt
      rw [v.two k id (by omega) h3 h4 (.inl (by omega))]
      exact (x.stays h4 (by omega) (by omega) fun j h5 h6 h7 => hstep j (by omega) (.inr ⟨by omega, h6⟩) h7).symm
end
end Go.Proofs.YtndlfkibcelhmaaGreatDoor.Ai
end
section
/- One operation more of a region whose order is open: skipped, light, heavy. -/
namespace Go.Proofs.YtndlfkibcelhmaaGreatDoor.Ai
open Go

theorem below_addr {c : Nat} {v : AVal} {id : Nat} (h : Below c v) (ha : addrId v = some id) : id < c := by
  obtain ⟨μ, x, hd, r⟩ := h
  cases v <;> simp only [addrId, Option.some.injEq, reduceCtorEq] at ha <;> subst ha <;> simp only [Rep] at r
  · obtain ⟨m, hm, _⟩ := r; exact hd _ _ hm
  · obtain ⟨m, _, _, hm, _⟩ := r; exact hd _ _ hm
  · obtain ⟨m, hm, _⟩ := r; exact hd _ _ hm

theorem mem_tmpsOfM : ∀ {l : List Operand} {t : Nat}, Operand.tmp t ∈ l → t ∈ tmpsOfM l
  | [], _, h => by cases h
  | x :: l, t, h => by
    cases h with
    | head => simp [tmpsOfM]
    | tail _ h =>
      have := mem_tmpsOfM h
      cases x <;> simp [tmpsOfM, this]

section
variable {P : Program} {nt : Nat} {ops : Array Oper} {o : Oper} {a am : Act} {ts tsm : Tm}

/-- The machine's operation on the masked temporaries. -/
theorem exec_mask (hs : ∀ cs b, o.op ≠ .select cs b) (ham : ∀ t, am.tmps.getD t undef = if t ∈ namesOf o (cOper P nt ops o) then a.tmps.getD t undef else undef) : execOp am.eval o = execOp a.eval o := by
  refine execOp_congr o hs fun x hx => ?_
  cases x with
  | tmp t =>
    simp only [Act.eval]
    rw [ham, if_pos]
    unfold namesOf
    simp only [List.mem_append]
    exact .inr (.inr (.inr (mem_tmpsOfM (Array.mem_toList_iff.2 hx))))
  | _ => rfl

theorem ev_mask (htsm : ∀ t, tg tsm t = if t ∈ namesOf o (cOper P nt ops o) then tg ts t else undefA) : ∀ y ∈ opdsOfA (cOper P nt ops o).op, ev tsm y = ev ts y := by
  intro y hy
  cases y with
  | t t =>
    simp only [ev]
    rw [htsm, if_pos]
    unfold namesOf
    simp only [List.mem_append, List.mem_flatMap]
    exact .inr (.inr (.inl ⟨_, hy, by simp [tmpOf]⟩))
  | _ => rfl

theorem wanted_mask (htsm : ∀ t, tg tsm t = if t ∈ namesOf o (cOper P nt ops o) then tg ts t else undefA) : wantedA tsm (cOper P nt ops o).guard = wantedA ts (cOper P nt ops o).guard := by
  cases hg : (cOper P nt ops o).guard with
  | none => rfl
  | some g =>
    obtain ⟨t, want⟩ := g
    simp only [wantedA]
    rw [htsm, if_pos]
    unfold namesOf
    rw [hg]; simp

theorem guard_cases (P : Program) (nt : Nat) (ops : Array Oper) (o : Oper) : o.guard = none ∨
    (∃ j want t, o.guard = some (j, want) ∧ (ops[j]?).bind (·.dst) = some t ∧ t < nt ∧ (cOper P nt ops o).guard = some (t, want)) ∨ cOper P nt ops o = { dst := none, op := .stuck, guard := none } := by
  cases hg : o.guard with
  | none => exact .inl rfl
  | some jw =>
    refine .inr ?_
    obtain ⟨j, want⟩ := jw
    unfold cOper
    cases hd : dstOk nt o.dst with
    | false => exact .inr rfl
    | true =>
      simp only [cond_true, hg]
      cases hj : (ops[j]?).bind (·.dst) with
      | none => exact .inr rfl
      | some t =>
        simp only
        cases hlt : Nat.blt t nt with
        | false => exact .inr rfl
        | true =>
          rw [nblt, decide_eq_true_eq] at hlt
          exact .inl ⟨j, want, t, rfl, hj, hlt, rfl⟩

theorem yielded_mask (hns : cOper P nt ops o ≠ { dst := none, op := .stuck, guard := none }) (hnt : nt ≤ a.tmps.size) (hsz : am.tmps.size = a.tmps.size)
    (ham : ∀ t, am.tmps.getD t undef = if t ∈ namesOf o (cOper P nt ops o) then a.tmps.getD t undef else undef) : Region.wanted o (yielded ops am.tmps) = Region.wanted o (yielded ops a.tmps) := by
  rcases guard_cases P nt ops o with h | ⟨j, want, t, h1, h2, h3, h4⟩ | h
  · simp [Region.wanted, h]
  · have hmem : t ∈ namesOf o (cOper P nt ops o) := by unfold namesOf; rw [h4]; simp
    have hta : t < a.tmps.size := Nat.lt_of_lt_of_le h3 hnt
    have htm : t < am.tmps.size := by rw [hsz]; exact hta
    have e := ham t
    rw [if_pos hmem, Array.getD_eq_getD_getElem?, Array.getD_eq_getD_getElem?, Array.getElem?_eq_getElem htm, Array.getElem?_eq_getElem hta] at e
    simp only [Option.getD_some] at e
    simp only [Region.wanted, h1, yielded, h2, Option.bind_some]
    rw [Array.getElem?_eq_getElem htm, Array.getElem?_eq_getElem hta, e]
  · exact absurd h hns
end
end Go.Proofs.YtndlfkibcelhmaaGreatDoor.Ai
end
section
/- One operation more of a region whose order is open. -/
namespace Go.Proofs.YtndlfkibcelhmaaGreatDoor.Ai
open Go

section
variable {P : Program} {F B fl : Nat} {E : Env} {nt : Nat} {ops : Array Oper} {μ0 : Mu} {h0 : AH} {w0 : World} {a0 : Act} {tq : Nat → Tm} {hs : Nat → AH}
  {S : Nat → Prop} {q : Nat} {μ : Mu} {V : AH} {w : World} {a : Act}

/-- What is shown of one operation more. -/
def More (P : Program) (F B fl : Nat) (nt : Nat) (ops : Array Oper) (μ0 : Mu) (h0 : AH) (w0 : World) (a0 : Act) (tq : Nat → Tm) (hs : Nat → AH) (S : Nat → Prop) (w : World) (a : Act) (i : Nat) : Prop :=
  ∃ q' μ' V' w' a', Inv P F B fl nt ops μ0 h0 w0 a0 tq hs (fun j => S j ∨ j = i) q' μ' V' w' a' ∧
    ∀ (b : Frame) k cs rest, Steps P (lone (b.atR a (.inRegion ops (i :: rest) :: k)) cs w) (lone (b.atR a' (.inRegion ops rest :: k)) cs w')

/-- Skipped by its guard. -/
theorem Inv.skip (x : Ctx P F B fl E nt ops μ0 h0 w0 a0 tq hs) (v : Inv P F B fl nt ops μ0 h0 w0 a0 tq hs S q μ V w a) {i : Nat} {o : Oper} (r : Ripe ops S i o)
    (hdst : (cOper P nt ops o).dst = o.dst) (hlt : ∀ d, o.dst = some d → d < nt) (hh : hs (i + 1) = hs i) (htq : tq (i + 1) = setT (tq i) (cOper P nt ops o).dst undefA)
    (hw : Region.wanted o (yielded ops a.tmps) = false) : More P F B fl nt ops μ0 h0 w0 a0 tq hs S w a i := by
  have hi := (Array.getElem?_eq_some_iff.1 r.ho).1
  have hsteps : ∀ (b : Frame) k cs rest, Steps P (lone (b.atR a (.inRegion ops (i :: rest) :: k)) cs w) (lone (b.atR (a.put o.dst undef) (.inRegion ops rest :: k)) cs w) := fun b k cs rest => by
    have := stepR_op_skip (P := P) (b := b) (a := a) (k := k) (cs := cs) (w := w) (ops := ops) (i := i) (rest := rest) (by simp [r.ho, hw])
    rw [r.ho] at this
    exact .one this
  cases hhv : heavy (cOper P nt ops o).op with
  | false =>
    refine ⟨q, μ, V, w, _, v.finish x r hdst hlt htq Rep.undef v.hr rfl v.ext (Same.refl _) (fun _ _ h => h) (fun _ _ => rfl) (fun _ _ => rfl) v.hq (fun j o' hj hhj => ?_) v.one v.two, hsteps⟩
    have hji : j ≠ i := by rintro rfl; rw [r.ho] at hj; cases hj; rw [hhv] at hhj; cases hhj
    rw [v.hl j o' hj hhj]
    exact ⟨.inl, fun h => h.resolve_right hji⟩
  | true =>
    have v' := v.shift x r hhv
    refine ⟨i + 1, μ, V, w, _, v'.finish x r hdst hlt htq Rep.undef v.hr rfl v.ext (Same.refl _) (fun _ _ h => h) (fun _ _ => rfl) (fun _ _ => rfl) hi (fun j o' hj hhj => ?_) ?_ ?_, hsteps⟩
    · rw [← v'.hl j o' hj hhj]; omega
    · rw [hh]; exact v'.one
    · rw [hh]; exact v'.two

/-- The machine's side of an operation that is made. -/
theorem Inv.made (x : Ctx P F B fl E nt ops μ0 h0 w0 a0 tq hs) (v : Inv P F B fl nt ops μ0 h0 w0 a0 tq hs S q μ V w a) {i : Nat} {o : Oper} (r : Ripe ops S i o)
    (hw : wantedA (tq i) (cOper P nt ops o).guard = true) {hx hx' : AH} {f : Nat} (hf1 : F ≤ f) (hf2 : f ≤ (hs i).n) (hn : hx.n = (hs i).n) {u : AVal} (hop : aOp E f (tq i) hx (cOper P nt ops o).op = some (u, hx'))
    (hcut : HR P F B (μ.cut (hs i).n) hx w.heap) :
    (cOper P nt ops o).dst = o.dst ∧ (∀ d, o.dst = some d → d < nt) ∧ ∃ μ1 y w1, Same w w1 ∧ HR P F B μ1 hx' w1.heap ∧ Ext F f (μ.cut (hs i).n) hx w.heap μ1 hx' w1.heap ∧ Rep μ1 u y ∧
      ∀ (b : Frame) k cs rest, Steps P (lone (b.atR a (.inRegion ops (i :: rest) :: k)) cs w) (lone (b.atR (a.put o.dst y) (.inRegion ops rest :: k)) cs w1) := by
  obtain ⟨tsm, htsm⟩ := mask_tm (tq i) (namesOf o (cOper P nt ops o))
  obtain ⟨am, hams, ham⟩ := mask_act a (namesOf o (cOper P nt ops o))
  have htm : TmR (μ.cut (hs i).n) tsm am.tmps := fun t => by
    rw [htsm, ham]
    by_cases h : t ∈ namesOf o (cOper P nt ops o)
    · rw [if_pos h, if_pos h]; exact v.named x r h
    · rw [if_neg h, if_neg h]; exact Rep.undef
  have hnta : nt ≤ a.tmps.size := by rw [v.size]; exact x.hnt
  have hop' : aOp E f tsm hx (cOper P nt ops o).op = some (u, hx') := by rw [aOp_congr (ev_mask htsm)]; exact hop
  obtain ⟨hyes, _⟩ := cOper_spec (P := P) (E := E) (fl := f) (h := hx) htm (by rw [hams]; exact hnta) ops o
  obtain ⟨c1, c2, c3, c4⟩ := hyes (by rw [wanted_mask htsm]; exact hw) _ hop'
  obtain ⟨hnd, μ1, y, w1, ⟨hg, hs1⟩, r1, r2, r3⟩ := op_goes x.hE hcut (by rw [hn]; exact hf2) hf1 htm o c1 hop'
  have hns : cOper P nt ops o ≠ { dst := none, op := .stuck, guard := none } := fun e => by rw [e] at hop; simp [aOp] at hop
  have hsel : ∀ cs b, o.op ≠ .select cs b := fun cs b e => by rw [e] at c1; simp [cOp?] at c1
  rw [exec_mask hsel ham] at hg
  rw [yielded_mask hns hnta hams ham] at c4
  exact ⟨c2, c3, μ1, y, w1, hs1, r1, r2, r3, fun b k cs rest => goes_oper r.ho c4 hnd hg⟩
end
end Go.Proofs.YtndlfkibcelhmaaGreatDoor.Ai
end
section
/- One operation more of a region whose order is open: a light one, a heavy one. -/
namespace Go.Proofs.YtndlfkibcelhmaaGreatDoor.Ai
open Go

/-- What an operation reads by is an operand of the program's. -/
theorem read_opd {P : Program} {op : Op} {ao : AOp} (hc : cOp? P op = some ao) {xr : AOpd} (hr : readOf ao = some xr) : ∃ y, cOpd P y = some xr := by
  have none' : readOf ao = none → ∃ y, cOpd P y = some xr := fun h => by rw [h] at hr; cases hr
  cases op <;> simp only [cOp?, reduceCtorEq] at hc
  case load t a =>
    split at hc
    · cases hc; simp only [readOf, Option.some.injEq] at hr; subst hr; exact ⟨_, ‹_›⟩
    · cases hc
  case lookup t m k ok =>
    split at hc
    · split at hc
      · simp only [Option.map_eq_some_iff] at hc
        obtain ⟨_, _, rfl⟩ := hc
        simp only [readOf, Option.some.injEq] at hr; subst hr; exact ⟨_, ‹_›⟩
      · cases hc
    · cases hc
  case slice t x lo hi mx =>
    split at hc
    · cases hc
      rename_i k x' _ _ _ hk hx _ _ _
      cases k <;> simp only [readOf, Option.some.injEq, reduceCtorEq] at hr
      subst hr; exact ⟨_, hx⟩
    · cases hc
  case alloc t =>
    simp only [Option.map_eq_some_iff] at hc
    obtain ⟨z, _, rfl⟩ := hc
    refine none' ?_
    unfold allocOf; split <;> rfl
  case buildSlice t n ps =>
    split at hc
    case h_2 => cases hc
    split at hc
    case h_2 => cases hc
    replace hc := bif_some hc
    simp only [Option.map_eq_some_iff] at hc
    obtain ⟨_, _, _, rfl⟩ := hc
    simp [readOf] at hr
  case makeFunc f a b =>
    cases f <;> simp only [reduceCtorEq] at hc
    split at hc
    · cases hc; simp [readOf] at hr
    · cases hc
  case makeMap t r =>
    cases r <;> simp only [reduceCtorEq, Option.some.injEq] at hc
    subst hc; simp [readOf] at hr
  case makeSlice t l c =>
    split at hc
    case h_2 => cases hc
    split at hc
    case h_2 => cases hc
    replace hc := bif_some hc
    obtain ⟨_, hc⟩ := hc
    cases hc; simp [readOf] at hr
  case fieldAddr s x f =>
    split at hc
    case h_2 => cases hc
    split at hc
    case h_2 => cases hc
    split at hc
    case h_2 => cases hc
    replace hc := bif_some hc
    obtain ⟨_, hc⟩ := hc
    cases hc; simp [readOf] at hr
  case next x s =>
    cases s <;> simp only [reduceCtorEq, Option.map_eq_some_iff] at hc
    obtain ⟨_, _, rfl⟩ := hc
    simp [readOf] at hr
  case call c =>
    obtain ⟨callee, args, tys⟩ := c
    simp only [cCall] at hc
    split at hc
    case h_1 => cases hc
    rename_i xs hxs
    cases callee with
    | value y =>
      split at hc
      · cases hc; simp [readOf] at hr
      · simp only [Option.map_eq_some_iff] at hc
        obtain ⟨_, _, rfl⟩ := hc
        simp [readOf] at hr
      · rename_i h; cases h
      · rename_i h; cases h
    | invoke _ _ => cases hc
    | builtin b =>
      simp only at hc
      cases b <;> simp only [cBuiltin, reduceCtorEq] at hc
      case len =>
        unfold cLen at hc
        split at hc
        case h_2 => cases hc
        obtain ⟨p, _, hp⟩ := cOpds_one hxs
        split at hc <;> first
          | (cases hc; done)
          | (cases hc; simp only [readOf, Option.some.injEq, reduceCtorEq] at hr; done)
          | (cases hc; simp only [readOf, Option.some.injEq] at hr; subst hr; exact ⟨p, hp⟩)
      all_goals
        first | unfold cAppend at hc | unfold cCopy at hc | unfold cCap at hc | unfold cClear at hc | unfold cMin at hc | unfold cMax at hc
        (repeat' split at hc) <;> first | (cases hc; done) | (cases hc; simp [readOf] at hr; done) | (simp only [Option.map_eq_some_iff] at hc; obtain ⟨_, _, rfl⟩ := hc; simp [readOf] at hr; done) | (replace hc := (bif_some hc).2; first | (cases hc; done) | (cases hc; simp [readOf] at hr; done) | (simp only [Option.map_eq_some_iff] at hc; obtain ⟨_, _, rfl⟩ := hc; simp [readOf] at hr; done))
  all_goals
    first
      | (simp only [Option.map_eq_some_iff] at hc; obtain ⟨_, _, rfl⟩ := hc; simp [readOf] at hr; done)
      | (repeat' split at hc) <;> first | (cases hc; done) | (cases hc; simp [readOf] at hr; done) | (simp only [Option.map_eq_some_iff] at hc; obtain ⟨_, _, rfl⟩ := hc; simp [readOf] at hr; done)
      | skip

section
variable {P : Program} {F B fl : Nat} {E : Env} {nt : Nat} {ops : Array Oper} {μ0 : Mu} {h0 : AH} {w0 : World} {a0 : Act} {tq : Nat → Tm} {hs : Nat → AH}
  {S : Nat → Prop} {q : Nat} {μ : Mu} {V : AH} {w : World} {a : Act}

theorem Ctx.globs (x : Ctx P F B fl E nt ops μ0 h0 w0 a0 tq hs) {i : Nat} (hi : i ≤ ops.size) : ∀ g, g < P.globals.size → g < (hs i).n := fun g hg => by
  obtain ⟨c, hc⟩ := x.hr0.glob g hg
  exact Nat.lt_of_lt_of_le (x.hr0.dom g _ hc) (x.base hi)

open Classical in
/-- A light operation. -/
theorem Inv.light (x : Ctx P F B fl E nt ops μ0 h0 w0 a0 tq hs) (v : Inv P F B fl nt ops μ0 h0 w0 a0 tq hs S q μ V w a) {i : Nat} {o : Oper} (r : Ripe ops S i o)
    (hw : wantedA (tq i) (cOper P nt ops o).guard = true) (hh : heavy (cOper P nt ops o).op = false) {f : Nat} {u : AVal} (hop : aOp E f (tq i) (hs i) (cOper P nt ops o).op = some (u, hs (i + 1)))
    (htq : tq (i + 1) = setT (tq i) (cOper P nt ops o).dst u) : More P F B fl nt ops μ0 h0 w0 a0 tq hs S w a i := by
  have hi := (Array.getElem?_eq_some_iff.1 r.ho).1
  have hfl' : fl ≤ (hs i).n := Nat.le_trans x.hn0 (x.base (by omega))
  -- the store that the operation is given
  obtain ⟨hx, hn, hg⟩ := store_of (fun id => if ∃ xr, readOf (cOper P nt ops o).op = some xr ∧ addrId (ev (tq i) xr) = some id then V.get id else some .dead) (hs i).n
  have hbel : ∀ xr, readOf (cOper P nt ops o).op = some xr → ∀ id, addrId (ev (tq i) xr) = some id → id < (hs i).n := fun xr hxr id hid => by
    obtain ⟨μt, wt, at', hrt, htt, hntt, _⟩ := x.text i (by omega)
    obtain ⟨hyes, _⟩ := cOper_spec (P := P) (E := E) (fl := f) (h := hs i) htt hntt ops o
    obtain ⟨c1, _⟩ := hyes hw _ hop
    obtain ⟨y, hy⟩ := read_opd c1 hxr
    exact below_addr ⟨μt, _, hrt.dom, opd_rep hrt htt hy⟩ hid
  have hVg : ∀ xr, readOf (cOper P nt ops o).op = some xr → ∀ id, addrId (ev (tq i) xr) = some id → V.get id = (hs i).get id := fun xr hxr id hid =>
    v.reads x r hh hw hxr hid (hbel xr hxr id hid)
  obtain ⟨hx', hop2, hpush⟩ := light_spec hh hop fl (h2 := hx) hn (fun xr hxr id hid => by
    rw [hg id (hbel xr hxr id hid), if_pos ⟨xr, hxr, hid⟩]; exact hVg xr hxr id hid)
  have hcut : HR P F B (μ.cut (hs i).n) hx w.heap := v.hr.cut hn (fun id hid => by
      rw [hg id hid]
      split
      · exact .inl rfl
      · exact .inr rfl) (fun id ob hid ho => by
      rw [hg id hid] at ho
      split at ho
      · rename_i hex
        obtain ⟨xr, hxr, hxi⟩ := hex
        rw [hVg xr hxr id hxi] at ho
        exact x.wf (by omega) hid ho
      · cases ho; exact .dead P) (x.globs (by omega))
  obtain ⟨hdst, hlt, μ1, y, w1, hsame, r1, r2, r3, hsteps⟩ := v.made x r hw x.hfl hfl' hn hop2 hcut
  have hup := x.up hi
  have hget : ∀ id, id < (hs i).n → hx'.get id = hx.get id := fun id hid => by
    rcases hpush with ⟨_, h⟩ | ⟨ob, _, h⟩
    · rw [h]
    · rw [h, AH.get_push, if_neg (by omega)]
  have hst : ViewStep P F B fl μ V w.heap (hs i).n (hs (i + 1)).n hx μ1 hx' w1.heap V := {
    hr := v.hr
    hF := Nat.le_trans x.hfl hfl'
    le := hup
    le' := by rw [v.vn]; exact x.mono (by omega) (Nat.le_refl _)
    n := hn
    n' := by
      rcases hpush with ⟨h1, h2⟩ | ⟨ob, h1, h2⟩
      · rw [h1, h2, hn]
      · rw [h1, h2, AH.n_push, AH.n_push, hn]
    vn := rfl
    old := fun id hid => by
      rw [hget id hid, hg id hid]
      split
      · exact .inl ⟨rfl, rfl⟩
      · exact .inr ⟨rfl, rfl⟩
    new := fun id h1 h2 => by
      rw [v.two i id hi h1 h2 (.inr (v.four i id hi r.ni h1 h2))]
      rcases hpush with ⟨h3, _⟩ | ⟨ob, h3, h4⟩
      · rw [h3] at h2; omega
      · rw [h3, AH.n_push] at h2
        rw [h3, h4, AH.get_push, AH.get_push, if_pos (by omega), if_pos (by omega)]
    far := fun _ _ _ => rfl
    none := fun id h1 h2 => v.four i id hi r.ni h1 h2
    hr1 := r1
    ext := r2
    wfV := v.hr.wf }
  refine ⟨q, _, V, w1, _, v.finish x r hdst hlt htq (r3.mono hst.le1) (hst.step x.hfl) rfl (hst.trans v.ext (x.base (by omega))) hsame hst.le_over (fun id hid => ?_) (fun id hid => ?_) v.hq (fun j o' hj hhj => ?_) v.one (fun k id hk h1 h2 h3 => v.two k id hk h1 h2 (h3.imp (fun h => h) fun h => ?_)), hsteps⟩
  · rw [Mu.over_lt (by omega), hst.keep hid]
  · rw [Mu.over_ge (by omega)]
  · have hji : j ≠ i := by rintro rfl; rw [r.ho] at hj; cases hj; rw [hh] at hhj; cases hhj
    rw [v.hl j o' hj hhj]
    exact ⟨.inl, fun h => h.resolve_right hji⟩
  · cases hm : μ id with
    | none => rfl
    | some m => rw [hst.le_over id m hm] at h; cases h

/-- A heavy operation. -/
theorem Inv.heavy (x : Ctx P F B fl E nt ops μ0 h0 w0 a0 tq hs) (v0 : Inv P F B fl nt ops μ0 h0 w0 a0 tq hs S q μ V w a) {i : Nat} {o : Oper} (r : Ripe ops S i o)
    (hw : wantedA (tq i) (cOper P nt ops o).guard = true) (hh : heavy (cOper P nt ops o).op = true) {f : Nat} (hf1 : fl ≤ f) (hf2 : f ≤ (hs i).n) {u : AVal} (hop : aOp E f (tq i) (hs i) (cOper P nt ops o).op = some (u, hs (i + 1)))
    (htq : tq (i + 1) = setT (tq i) (cOper P nt ops o).dst u) : More P F B fl nt ops μ0 h0 w0 a0 tq hs S w a i := by
  have hi := (Array.getElem?_eq_some_iff.1 r.ho).1
  have v := v0.shift x r hh
  have hfl' : fl ≤ (hs i).n := Nat.le_trans hf1 hf2
  have hcut : HR P F B (μ.cut (hs i).n) (hs i) w.heap := v.hr.cut rfl (fun id hid => .inl (v.one id hid).symm) (fun id ob hid ho => x.wf (by omega) hid ho) (x.globs (by omega))
  obtain ⟨hdst, hlt, μ1, y, w1, hsame, r1, r2, r3, hsteps⟩ := v.made x r hw (Nat.le_trans x.hfl hf1) hf2 rfl hop hcut
  have hup := x.up hi
  have hN := x.mono (i := i + 1) (j := ops.size) (by omega) (Nat.le_refl _)
  obtain ⟨V', hvn, hg⟩ := store_of (fun id => if id < (hs (i + 1)).n then (hs (i + 1)).get id else V.get id) V.n
  have hlo : ∀ id, id < (hs (i + 1)).n → V'.get id = (hs (i + 1)).get id := fun id hid => by rw [hg id (by rw [v.vn]; omega), if_pos hid]
  have hhi : ∀ id, (hs (i + 1)).n ≤ id → id < V.n → V'.get id = V.get id := fun id hid h => by rw [hg id h, if_neg (by omega)]
  have hst : ViewStep P F B fl μ V w.heap (hs i).n (hs (i + 1)).n (hs i) μ1 (hs (i + 1)) w1.heap V' := {
    hr := v.hr
    hF := Nat.le_trans x.hfl hfl'
    le := hup
    le' := by rw [v.vn]; exact hN
    n := rfl
    n' := rfl
    vn := hvn
    old := fun id hid => .inl ⟨(v.one id hid).symm, hlo id (by omega)⟩
    new := fun id _ h2 => hlo id h2
    far := hhi
    none := fun id h1 h2 => v.four i id hi r.ni h1 h2
    hr1 := r1
    ext := r2.mono hf1
    wfV := fun id ob hid ho => by
      by_cases h1 : id < (hs (i + 1)).n
      · rw [hlo id h1] at ho
        exact (x.wf (by omega) h1 ho).mono P (by rw [v.vn]; exact hN)
      · rw [hhi id (by omega) hid] at ho
        exact v.hr.wf id ob hid ho }
  have hkeep : ∀ id, id < (hs i).n → μ1.over μ (hs (i + 1)).n id = μ id := fun id hid => by rw [Mu.over_lt (by omega), hst.keep hid]
  refine ⟨i + 1, _, V', w1, _, v.finish x r hdst hlt htq (r3.mono hst.le1) (hst.step x.hfl) hvn (hst.trans v.ext (x.base (by omega))) hsame hst.le_over hkeep (fun id hid => ?_) hi (fun j o' hj hhj => ?_) hlo (fun k id hk h1 h2 h3 => ?_), hsteps⟩
  · rw [Mu.over_ge (by omega)]
  · rw [← v.hl j o' hj hhj]; omega
  · have hkn := x.mono (i := k + 1) (j := ops.size) (by omega) (Nat.le_refl _)
    have hvN := v.vn
    rcases Nat.lt_or_ge id (hs (i + 1)).n with hid | hid
    · rcases h3 with h3 | h3
      · omega
      · have hki : k ≤ i := by
          rcases Nat.lt_or_ge i k with h | h
          · have := x.mono (i := i + 1) (j := k) (by omega) (by omega); omega
          · exact h
        rw [hlo id hid]
        by_cases he : k = i
        · rw [he]
        · have hid2 : id < (hs i).n := Nat.lt_of_lt_of_le h2 (x.mono (by omega) (by omega))
          have hmu : μ id = none := by rw [← hkeep id hid2]; exact h3
          rw [r2.still id hid2 (by rw [Mu.cut_lt hid2]; exact hmu), ← v.one id hid2, v.two k id hk h1 h2 (.inr hmu)]
    · rw [hhi id hid (by omega), v.two k id hk h1 h2 (.inl (Nat.le_trans hup hid))]
end
end Go.Proofs.YtndlfkibcelhmaaGreatDoor.Ai
end
section
/- A region whose order is open: every order comes to what the order of the text comes to. -/
namespace Go.Proofs.YtndlfkibcelhmaaGreatDoor.Ai
open Go

section
variable {P : Program} {F B fl : Nat} {E : Env} {nt : Nat} {ops : Array Oper} {μ0 : Mu} {h0 : AH} {w0 : World} {a0 : Act} {tq : Nat → Tm} {hs : Nat → AH}
  {S : Nat → Prop} {q : Nat} {μ : Mu} {V : AH} {w : World} {a : Act}

theorem Inv.step (x : Ctx P F B fl E nt ops μ0 h0 w0 a0 tq hs) (v : Inv P F B fl nt ops μ0 h0 w0 a0 tq hs S q μ V w a) {i : Nat} {o : Oper} (r : Ripe ops S i o) : More P F B fl nt ops μ0 h0 w0 a0 tq hs S w a i := by
  have hi := (Array.getElem?_eq_some_iff.1 r.ho).1
  rcases x.at r.ho with ⟨hw, _, u, hop, htq⟩ | ⟨hw, hh, htq⟩
  · obtain ⟨f1, f2, f3⟩ := floor_ok x.hfl (Nat.le_trans x.hn0 (x.base (k := i) (by omega))) (cOne (cOpers P nt ops) (Region.before ops) i (cOper P nt ops o)).strict
    cases hhv : Ai.heavy (cOper P nt ops o).op with
    | false => exact v.light x r hw hhv hop htq
    | true => exact v.heavy x r hw hhv f3 f2 hop htq
  · obtain ⟨tsm, htsm⟩ := mask_tm (tq i) (namesOf o (cOper P nt ops o))
    obtain ⟨am, hams, ham⟩ := mask_act a (namesOf o (cOper P nt ops o))
    have htm : TmR (μ.cut (hs i).n) tsm am.tmps := fun t => by
      rw [htsm, ham]
      by_cases h : t ∈ namesOf o (cOper P nt ops o)
      · rw [if_pos h, if_pos h]; exact v.named x r h
      · rw [if_neg h, if_neg h]; exact Rep.undef
    have hnta : nt ≤ a.tmps.size := by rw [v.size]; exact x.hnt
    obtain ⟨_, hno⟩ := cOper_spec (P := P) (E := E) (fl := fl) (h := h0) htm (by rw [hams]; exact hnta) ops o
    obtain ⟨c2, c3, c4⟩ := hno (by rw [wanted_mask htsm]; exact hw)
    have hns : cOper P nt ops o ≠ { dst := none, op := .stuck, guard := none } := fun e => by rw [e] at hw; simp [wantedA] at hw
    rw [yielded_mask hns hnta hams ham] at c4
    exact v.skip x r c2 c3 hh htq c4

theorem Inv.first (x : Ctx P F B fl E nt ops μ0 h0 w0 a0 tq hs) : ∃ V, Inv P F B fl nt ops μ0 h0 w0 a0 tq hs (fun _ => False) 0 μ0 V w0 a0 := by
  have hN := x.base (k := ops.size) (Nat.le_refl _)
  have e0 := x.e0
  obtain ⟨V, hvn, hg⟩ := store_of (fun id => if id < h0.n then h0.get id else
    match (List.range ops.size).find? (fun k => decide ((hs k).n ≤ id ∧ id < (hs (k + 1)).n)) with
    | some k => (hs (k + 1)).get id
    | none => none) (hs ops.size).n
  have hlo : ∀ id, id < h0.n → V.get id = h0.get id := fun id hid => by rw [hg id (by omega), if_pos hid]
  have hsome : ∀ id, h0.n ≤ id → id < (hs ops.size).n → ∃ k, k < ops.size ∧ (hs k).n ≤ id ∧ id < (hs (k + 1)).n ∧ V.get id = (hs (k + 1)).get id := fun id h1 h2 => by
    obtain ⟨k, _, k2, k3, k4⟩ := between (f := fun k => (hs k).n) (q := 0) (i := ops.size) (id := id) (by omega) (by rw [e0]; exact h1) h2
    cases hf : (List.range ops.size).find? (fun k => decide ((hs k).n ≤ id ∧ id < (hs (k + 1)).n)) with
    | none =>
      have := List.find?_eq_none.1 hf k (by simpa using k2)
      simp only [decide_eq_true_eq] at this
      exact absurd ⟨k3, k4⟩ this
    | some k' =>
      have hm := List.mem_of_find?_eq_some hf
      have hp := List.find?_some hf
      simp only [decide_eq_true_eq] at hp
      refine ⟨k', by simpa using hm, hp.1, hp.2, ?_⟩
      rw [hg id h2, if_neg (by omega), hf]
  have htwo : ∀ k id, k < ops.size → (hs k).n ≤ id → id < (hs (k + 1)).n → V.get id = (hs (k + 1)).get id := fun k id hk h1 h2 => by
    have hb := x.base (k := k) (by omega)
    have hm := x.mono (i := k + 1) (j := ops.size) (by omega) (Nat.le_refl _)
    obtain ⟨k', q1, q2, q3, q4⟩ := hsome id (by omega) (by omega)
    have : k' = k := by
      rcases Nat.lt_trichotomy k' k with h | h | h
      · have := x.mono (i := k' + 1) (j := k) (by omega) (by omega); omega
      · exact h
      · have := x.mono (i := k + 1) (j := k') (by omega) (by omega); omega
    subst this; exact q4
  refine ⟨V, {
    hr := { dom := fun id m hm => by have := x.hr0.dom id m hm; omega
            obj := fun id m o hm ho => x.hr0.obj id m o hm (by rw [← hlo id (x.hr0.dom id m hm)]; exact ho)
            own := x.hr0.own
            inj := fun id id' m m' h1 h2 hm hm' hl hl' => x.hr0.inj id id' m m' h1 h2 hm hm' ((live_congr (hlo id (x.hr0.dom id m hm))).1 hl) ((live_congr (hlo id' (x.hr0.dom id' m' hm'))).1 hl')
            ro := x.hr0.ro
            big := x.hr0.big
            glob := x.hr0.glob
            wf := fun id o hid ho => by
              by_cases h : id < h0.n
              · rw [hlo id h] at ho
                exact (x.hr0.wf id o h ho).mono P (by omega)
              · obtain ⟨k, q1, q2, q3, q4⟩ := hsome id (by omega) (by omega)
                rw [q4] at ho
                exact (x.wf (k := k + 1) (by omega) q3 ho).mono P (by rw [hvn]; exact x.mono (by omega) (Nat.le_refl _)) }
    vn := hvn
    ext := { keep := fun _ _ => rfl
             n := by omega
             size := Nat.le_refl _
             fresh := fun id m hn hm => absurd (x.hr0.dom id m hm) (by omega)
             live := fun id hid hl => (live_congr (hlo id hid)).1 hl
             low := fun id _ hid => hlo id hid
             still := fun id hid _ => hlo id hid
             frame := fun _ _ _ => rfl
             loops := fun b r hr => ⟨r, hr, rfl⟩ }
    same := Same.refl _
    size := rfl
    defers := rfl
    tm := fun t k hk hw => by
      rw [x.tg_kept (k := 0) (by omega) hk fun j o hj _ h2 => by
        cases hwj : writesT (cOper P nt ops o) t with
        | false => rfl
        | true => exact ((hw j o hj hwj).1 h2).elim]
      exact x.ht0 t
    hq := by omega
    hl := fun j o hj _ => ⟨fun h => by omega, fun h => h.elim⟩
    one := fun id hid => by rw [e0] at hid ⊢; exact hlo id hid
    two := fun k id hk h1 h2 _ => htwo k id hk h1 h2
    four := fun k id hk _ h1 _ => by
      cases hm : μ0 id with
      | none => rfl
      | some m =>
        have h3 := x.hr0.dom id m hm
        have h4 := x.base (k := k) (by omega)
        omega
    closed := fun j o _ h => h.elim }⟩

theorem binds_any {md : Region.Mode} {e : Edge} (h : Region.binds .any e = true) : Region.binds md e = true := by
  obtain ⟨on, g⟩ := e
  cases g <;> simp_all [Region.binds]

theorem count_set {l : Array Bool} {i : Nat} (hi : i < l.size) (h : l.getD i true = false) : l.toList.count false = (l.setIfInBounds i true).toList.count false + 1 := by
  have e : l.toList[i]'(by simpa using hi) = false := by
    rw [Array.getD_eq_getD_getElem?, Array.getElem?_eq_getElem hi] at h
    simpa using h
  have h2 : (l.setIfInBounds i true).toList = l.toList.set i true := Array.toList_setIfInBounds ..
  have h3 := List.count_set (a := true) (b := false) (l := l.toList) (i := i) (by simpa using hi)
  rw [e] at h3
  have h4 : 0 < l.toList.count false := List.count_pos_iff.2 (by rw [← e]; exact List.getElem_mem _)
  rw [h2, h3]
  have e1 : (if (false == false) = true then 1 else 0 : Nat) = 1 := rfl
  have e2 : (if (true == false) = true then 1 else 0 : Nat) = 0 := rfl
  rw [e1, e2]; omega

/-- The orders of a mode. -/
theorem line_run (x : Ctx P F B fl E nt ops μ0 h0 w0 a0 tq hs) {md : Region.Mode} {rank : Nat → Nat} (hrk : rankOk md ops rank = true) : ∀ (fuel t : Nat) (listed : Array Bool) {S : Nat → Prop} {q : Nat} {μ : Mu} {V : AH} {w : World} {a : Act},
    listed.size = ops.size → listed.toList.count false = fuel → (∀ j, S j ↔ listed.getD j false = true) → Inv P F B fl nt ops μ0 h0 w0 a0 tq hs S q μ V w a →
    ∃ S' q' μ' V' w' a', Inv P F B fl nt ops μ0 h0 w0 a0 tq hs S' q' μ' V' w' a' ∧ (∀ j, j < ops.size → S' j) ∧
      ∀ (b : Frame) k cs, Steps P (lone (b.atR a (.inRegion ops (Region.linearise.go md ops fuel t listed []) :: k)) cs w) (lone (b.atR a' (.inRegion ops [] :: k)) cs w')
  | 0, t, listed, S, q, μ, V, w, a, hsz, hc, hS, v => by
    refine ⟨S, q, μ, V, w, a, v, fun j hj => (hS j).2 ?_, fun b k cs => by simp only [Region.linearise.go, List.reverse_nil]; exact .refl _ _⟩
    have h1 := List.count_eq_zero.1 hc
    rw [Array.getD_eq_getD_getElem?, Array.getElem?_eq_getElem (by omega)]
    cases h2 : listed[j]'(by omega) with
    | true => rfl
    | false => exact absurd (by rw [← h2]; exact Array.getElem_mem_toList _) h1
  | fuel + 1, t, listed, S, q, μ, V, w, a, hsz, hc, hS, v => by
    have hex : ∃ j, j < ops.size ∧ listed.getD j true = false := by
      have hpos : 0 < listed.toList.count false := by omega
      obtain ⟨j, hj, he⟩ := List.mem_iff_getElem.1 (List.count_pos_iff.1 hpos)
      refine ⟨j, by simpa [hsz] using hj, ?_⟩
      rw [Array.getD_eq_getD_getElem?, Array.getElem?_eq_getElem (by simpa using hj)]
      simpa using he
    obtain ⟨j, hj, hjn⟩ := hex
    have hne := ready_some hrk hsz hj hjn
    have hgo : Region.linearise.go md ops (fuel + 1) t listed [] = (match (Region.ready md ops listed)[t % (Region.ready md ops listed).length]? with
      | some i => Region.linearise.go md ops fuel (t / (Region.ready md ops listed).length) (listed.setIfInBounds i true) [i]
      | none => [].reverse) := rfl
    cases hi : (Region.ready md ops listed)[t % (Region.ready md ops listed).length]? with
    | none =>
      exfalso
      have hlen : 0 < (Region.ready md ops listed).length := by
        cases hr : Region.ready md ops listed with
        | nil => exact absurd hr hne
        | cons _ _ => simp
      have := List.getElem?_eq_none_iff.1 hi
      have := Nat.mod_lt t hlen
      omega
    | some i =>
      rw [hgo, hi]
      simp only []
      rw [linearise_go_acc, List.reverse_singleton, List.singleton_append]
      obtain ⟨m1, o, ho, m2⟩ := mem_ready.1 (List.mem_of_getElem? hi)
      have hilt := (Array.getElem?_eq_some_iff.1 ho).1
      have hni : listed.getD i false = false := by
        rw [Array.getD_eq_getD_getElem?, Array.getElem?_eq_getElem (by omega)] at m1 ⊢
        exact m1
      have rp : Ripe ops S i o := ⟨ho, (fun h => by rw [hS, hni] at h; cases h), fun e he hb => (hS _).2 (m2 e he (binds_any hb))⟩
      obtain ⟨q1, μ1, V1, w1, a1, v1, s1⟩ := v.step x rp
      obtain ⟨S2, q2, μ2, V2, w2, a2, v2, hall, s2⟩ := line_run x hrk fuel (t / (Region.ready md ops listed).length) (listed.setIfInBounds i true) (by simpa using hsz)
        (by have := count_set (l := listed) (i := i) (by omega) m1; omega)
        (fun j => by
          rw [hS]
          by_cases hji : j = i
          · subst hji
            simp [Array.getD_eq_getD_getElem?, Array.getElem?_setIfInBounds, hsz, hilt]
          · simp [Array.getD_eq_getD_getElem?, Array.getElem?_setIfInBounds, hji, Ne.symm hji]) v1
      exact ⟨S2, q2, μ2, V2, w2, a2, v2, hall, fun b k cs => Steps.trans (s1 b k cs _) (s2 b k cs)⟩

theorem HR.congr {P : Program} {F B : Nat} {μ : Mu} {V h : AH} {H : Array Obj} (r : HR P F B μ V H) (hn : h.n = V.n) (hg : ∀ id, id < V.n → h.get id = V.get id) : HR P F B μ h H where
  dom id m hm := by rw [hn]; exact r.dom id m hm
  obj id m o hm ho := r.obj id m o hm (by rw [← hg id (r.dom id m hm)]; exact ho)
  own := r.own
  inj id id' m m' h1 h2 hm hm' hl hl' := r.inj id id' m m' h1 h2 hm hm' ((live_congr (hg id (r.dom id m hm))).1 hl) ((live_congr (hg id' (r.dom id' m' hm'))).1 hl')
  ro := r.ro
  big := r.big
  glob := r.glob
  wf id o hid ho := by rw [hn] at hid ⊢; exact r.wf id o hid (by rw [← hg id hid]; exact ho)
theorem Ext.congr {F fl : Nat} {μ0 μ : Mu} {h0 V h : AH} {H0 H : Array Obj} (e : Ext F fl μ0 h0 H0 μ V H) (hn : h.n = V.n) (hg : ∀ id, id < V.n → h.get id = V.get id) : Ext F fl μ0 h0 H0 μ h H where
  keep := e.keep
  n := by rw [hn]; exact e.n
  size := e.size
  fresh := e.fresh
  live id hid hl := e.live id hid ((live_congr (hg id (Nat.lt_of_lt_of_le hid e.n))).1 hl)
  low id h1 hid := (hg id (Nat.lt_of_lt_of_le hid e.n)).trans (e.low id h1 hid)
  still id hid hm := (hg id (Nat.lt_of_lt_of_le hid e.n)).trans (e.still id hid hm)
  frame := e.frame
  loops := e.loops

theorem drawn_ok (hE : EnvOk P F B E) (hfl : F ≤ fl) : DrawnOk P F B fl E nt := by
  intro ops μ h w ts a ts' h' hr hF ht hnt hok hx t
  obtain ⟨tq, hs, e1, e2, e3, e4, tr⟩ := trace_of hx
  have hlen : (dOf P nt ops).length = ops.size := by simp [dOf, cOpers]
  have x : Ctx P F B fl E nt ops μ h w a tq hs := ⟨hE, hfl, hr, hF, by rw [e1]; exact ht, hnt, e2, hok, tr⟩
  obtain ⟨V, v⟩ := Inv.first x
  have hrk : ∃ md rank t', rankOk md ops rank = true ∧ Region.schedule (P.follows .mixedOrders) ops t = Region.linearise md ops t' := by
    unfold drawnOk ranksOk at hok
    simp only [Bool.and_eq_true] at hok
    obtain ⟨_, ⟨h1, h2⟩, h3⟩ := hok
    unfold Region.schedule
    split
    · exact ⟨_, _, _, h1, rfl⟩
    · by_cases h : t % 2 == 0
      · rw [if_pos h]; exact ⟨_, _, _, h2, rfl⟩
      · rw [if_neg h]; exact ⟨_, _, _, h3, rfl⟩
  obtain ⟨md, rank, t', hrk, hsch⟩ := hrk
  obtain ⟨S, q, μ', V', w', a', v', hall, s⟩ := line_run x hrk ops.size t' (Array.replicate ops.size false) (by simp) (by simp) (fun j => by
    simp [Array.getD_eq_getD_getElem?, Array.getElem?_replicate]
    split <;> simp) v
  change tq (dOf P nt ops).length = ts' at e3
  change hs (dOf P nt ops).length = h' at e4
  rw [hlen] at e3 e4
  have hlight : ∀ k o', ops[k]? = some o' → q ≤ k → Ai.heavy (cOper P nt ops o').op = false := fun k o' hk h1 => by
    cases hhk : Ai.heavy (cOper P nt ops o').op with
    | false => rfl
    | true =>
      have := (v'.hl k o' hk hhk).2 (hall k (Array.getElem?_eq_some_iff.1 hk).1)
      omega
  have hst : ∀ k id, q ≤ k → k ≤ ops.size → id < (hs k).n → (hs ops.size).get id = (hs k).get id := fun k id h1 h2 hid =>
    x.stays hid h2 (Nat.le_refl _) fun j h3 h4 h5 => by
      have hj : ops[j]? = some ops[j] := Array.getElem?_eq_getElem (by omega)
      exact x.light hj (hlight j _ hj (by omega)) h5
  have hend : ∀ id, id < (hs ops.size).n → V'.get id = (hs ops.size).get id := fun id hid => by
    by_cases hq : id < (hs q).n
    · rw [v'.one id hq, hst q id (Nat.le_refl _) v'.hq hq]
    · obtain ⟨k, h1, h2, h3, h4⟩ := between (f := fun k => (hs k).n) v'.hq (by omega) hid
      rw [v'.two k id (by omega) h3 h4 (.inl (by omega)), hst (k + 1) id (by omega) (by omega) h4]
  have hvn := v'.vn
  subst e3; subst e4
  refine ⟨μ', w', a', ⟨v'.hr.congr hvn.symm fun id hid => (hend id (by omega)).symm, v'.ext.congr hvn.symm (fun id hid => (hend id (by omega)).symm), fun t => v'.tm t ops.size (Nat.le_refl _) fun j o hj _ => ?_, v'.size, v'.same⟩, v'.defers, fun b k cs => ?_⟩
  · have hj' := (Array.getElem?_eq_some_iff.1 hj).1
    exact ⟨fun _ => hall j hj', fun _ => hj'⟩
  · rw [hsch]; exact s b k cs
end
end Go.Proofs.YtndlfkibcelhmaaGreatDoor.Ai
end
section
/- strings.Builder's methods: their walks, with the worlds that they leave. -/
set_option linter.unusedVariables false
namespace Go.Proofs.YtndlfkibcelhmaaGreatDoor.Ai
open Go Go.Proofs Go.Shelf Go.RowKit
variable {P : Program} {ρ : Ren}

theorem wpList_append_ex {ops : Array Oper} {rest : List Oper} {o : Oper} {a : Act} {Q : Exit → Act → World → Prop} {w : World} (hgd : o.guard = none) (sl x : Operand) (t u : TypeId)
    (ho : o.op = .call { callee := .builtin .append, args := #[sl, x], argTypes := #[t, u] }) (v xv : Value) (hs : a.eval sl = v) (hx : a.eval x = xv) {v' : Value} {w' : World}
    (hr : (Builtin.append_ #[t, u] o.type #[v, xv]).run P w = .ok v' w') (h : wpList P ops Q rest (a.put o.dst v') w') : wpList P ops Q (o :: rest) a w := by
  refine wpList_plain hgd fun K hK => ?_
  unfold Oper.wp execOp
  simp only [ho, resolve, invoke, builtin, Sem.run_bind, Sem.run_pure, Result.andThen_ok, List.map_toArray, List.map_cons, List.map_nil, hs, hx, hr]
  exact hK _ _ h

set_option maxHeartbeats 2000000 in
set_option maxRecDepth 100000 in
theorem writeString_walk (L : Lays.n166 P ρ) (X : Builder.Extra P ρ) (b : Nat) (s : ByteArray) (w w1 w2 : World) (v : Value) (ao : Option Addr) (n cap : Nat)
    (hcc : Calls P (ρ.f 240) #[.pointer (some ⟨b, 0, none⟩)] w fun e w' => e = .returned (.tuple #[]) ∧ w' = w1)
    (c1 : w1.cell? ⟨b, 1, none⟩ = some v)
    (happ : (Builtin.append_ #[ρ.t 37, ρ.t 9] (ρ.t 37) #[v, .string s]).run P w1 = .ok (.slice ao n cap) w2)
    {p v2 : Value} (hb2 : w2.heap[b]? = some (.cells #[p, v2] (ρ.t 72) (0, 0))) :
    Calls P (ρ.f 166) #[.pointer (some ⟨b, 0, none⟩), .string s] w fun e w' => e = .returned (.tuple #[.int .i64 s.size, .nilIface]) ∧ w' = w2.setCell ⟨b, 1, none⟩ (.slice ao n cap) := by
  obtain ⟨i0, hi, hz0, hz1, hz2⟩ := info_parts X.infoByte
  have mixed := L.mixed
  have t72 := L.t72; have a72 := L.a72; have z72 := L.z72; have v72 := L.v72; have u72 := run_underlying L.t72
  have t70 := L.t70; have a70 := L.a70; have z70 := L.z70; have v70 := L.v70; have u70 := run_underlying L.t70
  have t37 := L.t37; have a37 := L.a37; have z37 := L.z37; have v37 := L.v37; have u37 := run_underlying L.t37
  have t3 := L.t3; have a3 := L.a3; have z3 := L.z3; have v3 := L.v3; have u3 := run_underlying L.t3
  have t9 := L.t9; have a9 := L.a9; have z9 := L.z9; have v9 := L.v9; have u9 := run_underlying L.t9
  have t4 := L.t4; have a4 := L.a4; have z4 := L.z4; have v4 := L.v4; have u4 := run_underlying L.t4
  have t164 := L.t164; have a164 := L.a164; have z164 := L.z164; have v164 := L.v164; have u164 := run_underlying L.t164
  have t5 := X.t5; have a5 := X.a5; have z5 := X.z5; have v5 := X.v5; have u5 := run_underlying X.t5
  have e240 : ∀ args w, (callFunc (ρ.f 240) args).run P w = .ok (.enter (ρ.f 240) args) w := enters_of L.f240 (by kernel_rfl) rfl
  go_enter L.f166, Body.n166_ntmps ρ
  go_wp2_with (go_at_fn (ρ.f 240); refine hcc.mono ?_)
  rintro e w1' ⟨rfl, rfl⟩
  have d1 : w2.cell? ⟨b, 1, none⟩ = some v2 := by rw [Lib.cell_of_heap hb2]; rfl
  have f1 : w2.frozen? ⟨b, 1, none⟩ = false := Lib.frozen_of_heap hb2 1
  go_wp2_with (at_builtin; refine wpList_append_ex rfl _ _ (ρ.t 37) (ρ.t 9) rfl v (.string s) rfl rfl happ ?_)
  go_ret2
  exact ⟨rfl, rfl⟩

set_option maxHeartbeats 1000000 in
set_option maxRecDepth 100000 in
theorem bLen_walk (L : Lays.n170 P ρ) (b : Nat) (w : World) (ao : Option Addr) (n cap : Nat) (c1 : w.cell? ⟨b, 1, none⟩ = some (.slice ao n cap)) :
    Calls P (ρ.f 170) #[.pointer (some ⟨b, 0, none⟩)] w fun e w' => e = .returned (.int .i64 n) ∧ w' = w := by
  have mixed := L.mixed
  have t72 := L.t72; have a72 := L.a72; have z72 := L.z72; have v72 := L.v72; have u72 := run_underlying L.t72
  have t70 := L.t70; have a70 := L.a70; have z70 := L.z70; have v70 := L.v70; have u70 := run_underlying L.t70
  have t37 := L.t37; have a37 := L.a37; have z37 := L.z37; have v37 := L.v37; have u37 := run_underlying L.t37
  have t3 := L.t3; have a3 := L.a3; have z3 := L.z3; have v3 := L.v3; have u3 := run_underlying L.t3
  go_enter L.f170, Body.n170_ntmps ρ
  go_wp2
  go_ret
  exact ⟨rfl, rfl⟩
end Go.Proofs.YtndlfkibcelhmaaGreatDoor.Ai
end
section
/- strings.Builder's methods keep the relation. -/
set_option linter.unusedVariables false
namespace Go.Proofs.YtndlfkibcelhmaaGreatDoor.Ai
open Go Go.Proofs Go.Shelf Go.RowKit
variable {P : Program} {F B fl : Nat} {μ : Mu} {h : AH} {ρ : Ren}

theorem bufOf_spec {H : Array Obj} (hr : HR P F B μ h H) {id : Nat} {m : MB} {b : AVal} {bt : TypeId} (hm : μ id = some m) (hF : F ≤ id) (hb : bufOf bt h id = some b) :
    ∃ a p v, h.get id = some (.tcells bt [a, b]) ∧ m.o = 0 ∧ m.c = 2 ∧ H[m.b]? = some (.cells #[p, v] bt (0, 0)) ∧ Rep μ b v ∧ (p = .pointer none ∨ p = .pointer (some ⟨m.b, 0, none⟩)) ∧ Rep μ a p := by
  unfold bufOf at hb
  cases hg : h.get id with
  | none => rw [hg] at hb; cases hb
  | some ob =>
    rw [hg] at hb
    cases ob with
    | tcells t vs =>
      simp only at hb
      match vs, hb, hg with
      | [a, b0], hb, hg =>
        simp only at hb
        cases ht : Nat.beq t bt with
        | false => rw [ht] at hb; cases hb
        | true =>
          rw [ht] at hb
          simp only [cond_true] at hb
          rw [nbeq, decide_eq_true_eq] at ht
          subst ht
          obtain ⟨ho, cs, hc1, _, hc2, hc3⟩ := hr.obj id m _ hm hg
          obtain ⟨hsz, hmc⟩ := hc3 hF
          obtain ⟨p, hp, rp⟩ := hc2 0 a rfl
          obtain ⟨v, hv, rv⟩ := hc2 1 b0 rfl
          have hcs : cs = #[p, v] := by
            apply Array.ext_getElem?
            intro i
            match i with
            | 0 => exact hp
            | 1 => exact hv
            | i + 2 => rw [Array.getElem?_eq_none (by rw [hsz]; simp), Array.getElem?_eq_none (by simp)]
          subst hcs
          cases a with
          | nilptr =>
            have e := Option.some.inj hb
            simp only [Rep] at rp
            exact ⟨.nilptr, p, v, by rw [e], ho, hmc, hc1, by rw [← e]; exact rv, .inl rp, by simp only [Rep]; exact rp⟩
          | ptr i o =>
            simp only at hb
            cases h2 : (Nat.beq i id && Nat.beq o 0) with
            | false => rw [h2] at hb; cases hb
            | true =>
              rw [h2] at hb
              simp only [cond_true] at hb
              have e := Option.some.inj hb
              simp only [Bool.and_eq_true, nbeq, decide_eq_true_eq] at h2
              obtain ⟨m', hm', rp'⟩ := rep_ptr rp
              rw [h2.1, hm] at hm'; cases hm'
              exact ⟨.ptr i o, p, v, by rw [e], ho, hmc, hc1, by rw [← e]; exact rv, .inr (by rw [rp', ho, h2.2]), rp⟩
          | _ => cases hb
      | [], hb, _ => cases hb
      | [_], hb, _ => cases hb
      | _ :: _ :: _ :: _, hb, _ => cases hb
    | _ => cases hb

theorem hr_bnew {w w' : World} (hr : HR P F B μ h w.heap) {id : Nat} {m : MB} (hm : μ id = some m) (hF : F ≤ fl) (hf : fl ≤ id) {t : TypeId} {o : List AVal} (hg : h.get id = some (.tcells t o))
    (hs : w'.heap.size = w.heap.size) (hne : ∀ b, b ≠ m.b → w'.heap[b]? = w.heap[b]?) {p v : Value} (hb : w'.heap[m.b]? = some (.cells #[p, v] t (0, 0))) (ho : m.o = 0) (hc : m.c = 2) {a b : AVal} (rp : Rep μ a p) (rv : Rep μ b v)
    (hb0 : ∃ cs, w.heap[m.b]? = some (.cells cs t (0, 0))) :
    HR P F B μ (h.set id (.tcells t [a, b])) w'.heap ∧ Ext F fl μ h w.heap μ (h.set id (.tcells t [a, b])) w'.heap := by
  have hl : Live h id := ⟨_, hg, by simp⟩
  refine ⟨hr.upd hm (by omega) hl _ _ hs hne ⟨ho, #[p, v], hb, by simp [hc], ?_, fun _ => ⟨rfl, hc⟩⟩, Ext.upd hr hm hf hl _ _ hs hne ?_⟩
  · intro i x hx
    match i with
    | 0 => simp at hx; subst hx; exact ⟨p, rfl, rp⟩
    | 1 => simp at hx; subst hx; exact ⟨v, rfl, rv⟩
    | i + 2 => simp at hx
  · intro l hl'
    obtain ⟨cs, hb0⟩ := hb0
    rw [hb0] at hl'; cases hl'

theorem appendA_set {es bytes n : Nat} {s v : AVal} {new : List AVal} {h1 : AH} {id : Nat} {t : TypeId} {o o' : List AVal} (hg : h.get id = some (.tcells t o)) (hn : id < h.n) (ha : appendA fl h es bytes s n new = some (v, h1)) :
    ∃ h2, appendA fl (h.set id (.tcells t o')) es bytes s n new = some (v, h2) ∧ h2.n = h1.n ∧ h1.get id = some (.tcells t o) ∧ (∀ i, h2.get i = if i = id then some (.tcells t o') else h1.get i) ∧ h.n ≤ h1.n := by
  unfold appendA at ha ⊢
  have base : ∀ (x : AVal) (g : AH), some (x, h) = some (v, h1) → ∃ h2, some (x, h.set id (.tcells t o')) = some (v, h2) ∧ h2.n = h1.n ∧ h1.get id = some (.tcells t o) ∧ (∀ i, h2.get i = if i = id then some (.tcells t o') else h1.get i) ∧ h.n ≤ h1.n := by
    intro x g e
    cases e
    exact ⟨_, rfl, rfl, hg, fun i => by rw [AH.get_set], Nat.le_refl _⟩
  cases hz : Nat.beq n 0
  · rw [hz] at ha
    simp only [cond_false] at ha ⊢
    have fresh : ∀ c, some (AVal.sl h.n 0 n es, h.push c) = some (v, h1) → ∃ h2, some (AVal.sl (h.set id (.tcells t o')).n 0 n es, (h.set id (.tcells t o')).push c) = some (v, h2) ∧ h2.n = h1.n ∧ h1.get id = some (.tcells t o) ∧ (∀ i, h2.get i = if i = id then some (.tcells t o') else h1.get i) ∧ h.n ≤ h1.n := by
      intro c e
      cases e
      refine ⟨_, rfl, rfl, by rw [AH.get_push, if_neg (by omega), hg], fun i => ?_, by rw [AH.n_push]; omega⟩
      rw [AH.get_push, AH.get_push, AH.n_set, AH.get_set]
      by_cases e1 : i = h.n
      · rw [if_pos e1, if_pos e1, if_neg (by omega)]
      · rw [if_neg e1, if_neg e1]
    cases s <;> simp only [reduceCtorEq] at ha ⊢
    · obtain ⟨hc, ha⟩ := bif_some ha
      rw [hc]; exact fresh _ ha
    · obtain ⟨hc, ha⟩ := bif_some ha
      rw [hc]; exact fresh _ ha
    · rename_i bid off len es'
      obtain ⟨hc, ha⟩ := bif_some ha
      rw [hc]
      simp only [cond_true]
      split at ha
      case h_2 => cases ha
      rename_i vs hgb
      have hne : bid ≠ id := by
        rintro rfl
        rw [hg] at hgb; cases hgb
      rw [AH.get_set, if_neg hne, hgb]
      simp only
      obtain ⟨hc2, ha⟩ := bif_some ha
      rw [hc2]
      simp only [cond_true]
      cases ha
      refine ⟨_, rfl, rfl, ?_, fun i => ?_, by rw [AH.n_push, AH.n_set]; omega⟩
      · rw [AH.get_push, AH.n_set, if_neg (by omega), AH.get_set, if_neg (Ne.symm hne), hg]
      · rw [AH.get_push, AH.get_push, AH.n_set, AH.n_set, AH.n_set, AH.get_set, AH.get_set, AH.get_set]
        by_cases e1 : i = h.n
        · rw [if_pos e1, if_pos e1, if_neg (by omega)]
        · rw [if_neg e1, if_neg e1]
          by_cases e2 : i = bid
          · rw [if_pos e2, if_pos e2, if_neg (by omega)]
          · rw [if_neg e2, if_neg e2]
  · rw [hz] at ha
    simp only [cond_true] at ha ⊢
    cases s <;> simp only [reduceCtorEq] at ha ⊢
    · exact base _ h ha
    · exact base _ h ha
    · obtain ⟨hc, ha⟩ := bif_some ha
      rw [hc]; exact base _ h ha

theorem heap_lt {w : World} {b : Nat} {o : Obj} (h : w.heap[b]? = some o) : b < w.heap.size := by
  rcases Nat.lt_or_ge b w.heap.size with h' | h'
  · exact h'
  · rw [Array.getElem?_eq_none h'] at h; cases h
theorem setCell_size (w : World) (a : Addr) (v : Value) : (w.setCell a v).heap.size = w.heap.size := by simp [World.setCell]

theorem bset {w : World} {g i : Nat} {cs : Array Value} {t : TypeId} {fr : Nat × Nat} (h : w.heap[g]? = some (.cells cs t fr)) (v : Value) : (w.setCell ⟨g, i, none⟩ v).heap[g]? = some (.cells (cs.setIfInBounds i v) t fr) := by
  have := heap_lt h
  simp [World.setCell, Array.getElem?_modify, h]

/-- copyCheck, and what the store is after it. -/
theorem copyCheck_ok (L : Lays.n240 P ρ) (X : Builder.X72 P ρ) {w : World} (hr : HR P F B μ h w.heap) {id : Nat} {m : MB} {b : AVal} (hm : μ id = some m) (hF : F ≤ fl) (hf : fl ≤ id) (hb : bufOf (ρ.t 72) h id = some b) :
    ∃ w1 v, Calls P (ρ.f 240) #[.pointer (some ⟨m.b, 0, none⟩)] w (fun e w' => e = .returned (.tuple #[]) ∧ w' = w1) ∧ Same w w1 ∧ w1.heap[m.b]? = some (.cells #[.pointer (some ⟨m.b, 0, none⟩), v] (ρ.t 72) (0, 0)) ∧ Rep μ b v ∧ m.o = 0 ∧ m.c = 2 ∧
      HR P F B μ (h.set id (.tcells (ρ.t 72) [.ptr id 0, b])) w1.heap ∧ Ext F fl μ h w.heap μ (h.set id (.tcells (ρ.t 72) [.ptr id 0, b])) w1.heap ∧ (∃ o, h.get id = some (.tcells (ρ.t 72) o)) := by
  obtain ⟨a, p, v, hg, ho, hc, hbk, rv, hp, _⟩ := bufOf_spec hr hm (by omega) hb
  have rp : Rep μ (.ptr id 0) (.pointer (some ⟨m.b, 0, none⟩)) := by
    simp only [Rep]; exact ⟨m, hm, by rw [ho]⟩
  rcases hp with rfl | rfl
  · have hbk1 : (w.setCell ⟨m.b, 0, none⟩ (.pointer (some ⟨m.b, 0, none⟩))).heap[m.b]? = some (.cells #[.pointer (some ⟨m.b, 0, none⟩), v] (ρ.t 72) (0, 0)) := by
      rw [bset hbk]; rfl
    obtain ⟨q1, q2⟩ := hr_bnew (w' := w.setCell ⟨m.b, 0, none⟩ (.pointer (some ⟨m.b, 0, none⟩))) hr hm hF hf hg (setCell_size _ _ _) (fun k hk => Below.heap_setCell _ _ _ _ hk) hbk1 ho hc rp rv ⟨_, hbk⟩
    refine ⟨_, v, Any.Builder_copyCheck_fresh L X m.b w ?_ ?_ (Lib.frozen_of_heap hbk 0), ⟨rfl, rfl⟩, hbk1, rv, ho, hc, q1, q2, _, hg⟩
    · rw [Lib.cell_of_heap hbk]; rfl
    · simp [World.shape?, hbk]
  · obtain ⟨q1, q2⟩ := hr_bnew (w' := w) hr hm hF hf hg rfl (fun _ _ => rfl) hbk ho hc rp rv ⟨_, hbk⟩
    refine ⟨w, v, Any.Builder_copyCheck_used L X m.b w ?_, Same.refl w, hbk, rv, ho, hc, q1, q2, _, hg⟩
    rw [Lib.cell_of_heap hbk]; rfl

/-- A row's kind, known or not. -/
theorem hr_asRow {H : Array Obj} (hr : HR P F B μ h H) {id : Nat} {m : MB} (hm : μ id = some m) (hF : F ≤ fl) (hf : fl ≤ id) {vs : List AVal} (hg : h.get id = some (.cells vs)) {e : TypeId} (ht : ∃ cs f, H[m.b]? = some (.cells cs e f)) :
    HR P F B μ (h.set id (.trow e vs)) H ∧ Ext F fl μ h H μ (h.set id (.trow e vs)) H := by
  have hl : Live h id := ⟨_, hg, by simp⟩
  obtain ⟨cs, te, lo, hi, hb, h1, h2, h3⟩ := hr.obj id m _ hm hg
  obtain ⟨cs', f, hb'⟩ := ht
  rw [hb] at hb'; cases hb'
  refine ⟨hr.upd hm (by omega) hl _ _ rfl (fun _ _ => rfl) ⟨cs, lo, hi, hb, h1, h2, h3⟩, Ext.upd hr hm hf hl _ _ rfl (fun _ _ => rfl) fun l hl' => ?_⟩
  rw [hb] at hl'; cases hl'
theorem hr_asCells {H : Array Obj} (hr : HR P F B μ h H) {id : Nat} {m : MB} (hm : μ id = some m) (hF : F ≤ fl) (hf : fl ≤ id) {vs : List AVal} {e : TypeId} (hg : h.get id = some (.trow e vs)) :
    HR P F B μ (h.set id (.cells vs)) H ∧ Ext F fl μ h H μ (h.set id (.cells vs)) H ∧ ∃ cs f, H[m.b]? = some (.cells cs e f) := by
  have hl : Live h id := ⟨_, hg, by simp⟩
  obtain ⟨cs, lo, hi, hb, h1, h2, h3⟩ := hr.obj id m _ hm hg
  refine ⟨hr.upd hm (by omega) hl _ _ rfl (fun _ _ => rfl) ⟨cs, e, lo, hi, hb, h1, h2, h3⟩, Ext.upd hr hm hf hl _ _ rfl (fun _ _ => rfl) fun l hl' => ?_, cs, _, hb⟩
  rw [hb] at hl'; cases hl'

theorem writeString_ok (L : Lays.n166 P ρ) (X : Builder.Extra P ρ) (hn : sizeT P (ρ.t 5) = some 1) (hby : bytesT P (ρ.t 5) = some 1) {z : List AVal} (hz : zerosT P (ρ.t 5) = some z) (hzl : z.length = 1)
    {args : List AVal} {v : AVal} {h' : AH} (ha : pWriteString (ρ.t 72) (ρ.t 5) fl args h = some (v, h')) : CallOk P F B fl (ρ.f 166) args h v h' := by
  intro hF hfl μ vs w hr ra
  unfold pWriteString at ha
  split at ha
  case h_2 => cases ha
  rename_i id off s
  obtain ⟨hc0, ha2⟩ := bif_some ha
  clear ha
  simp only [Bool.and_eq_true, nbeq, nble, decide_eq_true_eq] at hc0
  obtain ⟨rfl, hid⟩ := hc0
  have ha := ha2
  clear ha2
  split at ha
  case h_2 => cases ha
  rename_i b hb
  split at ha
  case h_2 => cases ha
  rename_i h0 hh0
  split at ha
  case h_2 => cases ha
  rename_i b' h1 hap
  split at ha
  case h_2 => cases ha
  rename_i h4 hh4
  cases ha
  obtain ⟨x0, l0, hl0, r0, ra⟩ := Reps.cons_iff.1 ra
  obtain ⟨x1, l1, hl1, r1, ra⟩ := Reps.cons_iff.1 ra
  rw [Reps.nil_iff.1 ra] at hl1
  rw [hl1] at hl0
  obtain ⟨m, hm, rfl⟩ := rep_ptr r0
  obtain ⟨bs, rfl, hbs⟩ := rep_str r1
  have hvs : vs = #[.pointer (some ⟨m.b, m.o + 0, none⟩), .string bs] := by
    apply Array.ext'; rw [hl0]
  subst hvs
  obtain ⟨w1, bv, hcc, same1, hbk1, rv, ho, hmc, hr1, ext1, o, hg⟩ := copyCheck_ok (B := B) { L with } X.toX72 hr hm hF hid hb
  have hidn : id < h.n := hr.dom id m hm
  -- the buffer as1 a row of cells
  have hcell : ∃ g1, HR P F B μ g1 w1.heap ∧ Ext F fl μ h w.heap μ g1 w1.heap ∧ g1.n = h.n ∧ h0.n = h.n ∧ h0.get id = some (.tcells (ρ.t 72) o) ∧ (∀ i, g1.get i = if i = id then some (.tcells (ρ.t 72) [.ptr id 0, b]) else h0.get i) ∧
      (∀ bid m off len es', b = .sl bid off len es' → μ bid = some m → ∃ cs f, w1.heap[m.b]? = some (.cells cs (ρ.t 5) f)) := by
    unfold asCells at hh0
    cases b with
    | nilsl =>
      cases hh0
      exact ⟨_, hr1, ext1, rfl, rfl, hg, fun i => by rw [AH.get_set], fun _ _ _ _ _ e => by cases e⟩
    | sl bid boff blen bes =>
      simp only at hh0
      split at hh0
      case h_2 => cases hh0
      rename_i t vs hgb
      obtain ⟨ht, hh1⟩ := bif_some hh0
      clear hh0
      simp only [Bool.and_eq_true, nbeq, nble, decide_eq_true_eq] at ht
      obtain ⟨ht, hbf⟩ := ht
      subst ht
      cases hh1
      have hne : bid ≠ id := by
        rintro rfl
        rw [hg] at hgb; cases hgb
      obtain ⟨mb, _, _, hmb, _⟩ := rep_sl rv
      obtain ⟨q1, q2, q3⟩ := hr_asCells (h := h.set id (.tcells (ρ.t 72) [.ptr id 0, .sl bid boff blen bes])) hr1 hmb hF hbf (vs := vs) (e := ρ.t 5) (by rw [AH.get_set, if_neg hne]; exact hgb)
      refine ⟨_, q1, ext1.trans q2, rfl, rfl, by rw [AH.get_set, if_neg (Ne.symm hne)]; exact hg, fun i => ?_, fun _ m' _ _ _ e hm' => ?_⟩
      · rw [AH.get_set, AH.get_set, AH.get_set]
        by_cases e1 : i = bid
        · rw [if_pos e1, if_neg (by omega), if_pos e1]
        · rw [if_neg e1, if_neg e1]
      · cases e
        rw [hmb] at hm'; cases hm'
        exact q3
    | _ => cases hh0
  obtain ⟨g1, hrg, extg, gn, h0n, hg0, hgg, htyp⟩ := hcell
  obtain ⟨h2, hap2, hn2, hg1, hg2, hle⟩ := appendA_set (o' := [.ptr id 0, b]) hg0 (by omega) hap
  have hrg' : HR P F B μ (h0.set id (.tcells (ρ.t 72) [.ptr id 0, b])) w1.heap := hrg.congr (by rw [AH.n_set]; omega) fun i _ => by rw [AH.get_set, hgg]
  have extg' : Ext F fl μ h w.heap μ (h0.set id (.tcells (ρ.t 72) [.ptr id 0, b])) w1.heap := extg.congr (by rw [AH.n_set]; omega) fun i _ => by rw [AH.get_set, hgg]
  have hlen : s.length = bs.size := by rw [← hbs, List.length_map, Array.length_toList]; rfl
  have tk : Takes P μ w1 (ρ.t 9) (ρ.t 5) 1 1 (.string bs) s.length (s.map fun b : Nat => AVal.int .u8 (b : Int)) :=
    Takes.of_row (h := h0.set id (.tcells (ρ.t 72) [.ptr id 0, b])) (F := F) (B := B) hrg' r1 L.t9 (fun k e => by cases e) rfl rfl
  obtain ⟨μ2, x, w2, run2, hr2, ext2, rx, same2, tf⟩ := append_sound_t (ty := ρ.t 37) hrg' (by rw [AH.n_set]; omega) hF rv L.t37 hn (by omega) hby hz hzl tk hap2
  obtain ⟨g4, hr4, ext4, n4, h4id, h4o, ao, n', cap, hx⟩ : ∃ g4, HR P F B μ2 g4 w2.heap ∧ Ext F fl μ h w.heap μ2 g4 w2.heap ∧ g4.n = h4.n ∧ g4.get id = some (.tcells (ρ.t 72) [.ptr id 0, b]) ∧ (∀ i, i ≠ id → g4.get i = h4.get i) ∧ ∃ ao n' cap, x = .slice ao n' cap := by
    unfold asRow at hh4
    cases b' with
    | nilsl =>
      cases hh4
      refine ⟨h2, hr2, extg'.trans ext2, hn2, by rw [hg2, if_pos rfl], fun i hi => by rw [hg2, if_neg hi], ?_⟩
      simp only [Rep] at rx
      exact ⟨_, _, _, rx⟩
    | sl rid roff rlen res =>
      simp only at hh4
      split at hh4
      case h_2 => cases hh4
      rename_i vs hgr
      obtain ⟨hrf, hh5⟩ := bif_some hh4
      clear hh4
      rw [nble, decide_eq_true_eq] at hrf
      cases hh5
      have hne : rid ≠ id := by
        rintro rfl
        rw [hg1] at hgr; cases hgr
      obtain ⟨mr, oc, cp, hmr, hx, _⟩ := rep_sl rx
      obtain ⟨q1, q2⟩ := hr_asRow hr2 hmr hF hrf (vs := vs) (e := ρ.t 5) (by rw [hg2, if_neg hne]; exact hgr) (tf htyp _ _ _ _ _ rfl hmr)
      refine ⟨_, q1, (extg'.trans ext2).trans q2, by rw [AH.n_set, AH.n_set, hn2], by rw [AH.get_set, if_neg (Ne.symm hne), hg2, if_pos rfl], fun i hi => ?_, _, _, _, hx⟩
      rw [AH.get_set, AH.get_set, hg2, if_neg hi]
    | _ => cases hh4
  subst hx
  have hm2 : μ2 id = some m := by rw [ext2.keep id (by rw [AH.n_set]; omega)]; exact hm
  obtain ⟨a2, p2, v2, hg3, _, _, hbk2, rv2, _, rp2⟩ := bufOf_spec (bt := ρ.t 72) (b := b) hr4 hm2 (by omega) (by
    unfold bufOf; rw [h4id]; simp [nbeq])
  have ha2 : a2 = .ptr id 0 := by rw [h4id] at hg3; simp at hg3; exact hg3.symm
  subst ha2
  have hbk3 : (w2.setCell ⟨m.b, 1, none⟩ (.slice ao n' cap)).heap[m.b]? = some (.cells #[p2, .slice ao n' cap] (ρ.t 72) (0, 0)) := by
    rw [bset hbk2]; rfl
  obtain ⟨hr3, ext3⟩ := hr_bnew (w' := w2.setCell ⟨m.b, 1, none⟩ (.slice ao n' cap)) hr4 hm2 hF hid h4id (setCell_size _ _ _) (fun k hk => Below.heap_setCell _ _ _ _ hk) hbk3 ho hmc rp2 rx ⟨_, hbk2⟩
  have hcg : ∀ i, (h4.set id (.tcells (ρ.t 72) [.ptr id 0, b'])).get i = (g4.set id (.tcells (ρ.t 72) [.ptr id 0, b'])).get i := fun i => by
    rw [AH.get_set, AH.get_set]
    by_cases e : i = id
    · rw [if_pos e, if_pos e]
    · rw [if_neg e, if_neg e, h4o i e]
  refine ⟨μ2, .tuple #[.int .i64 bs.size, .nilIface], w2.setCell ⟨m.b, 1, none⟩ (.slice ao n' cap), ⟨.inr (.inl ⟨_, _, w, enters_of L.f166 (by kernel_rfl) rfl _ _, ?_⟩), (same1.trans same2).trans ⟨rfl, rfl⟩⟩, hr3.congr (by rw [AH.n_set, AH.n_set, n4]) fun i _ => hcg i, (ext4.trans ext3).congr (by rw [AH.n_set, AH.n_set, n4]) fun i _ => hcg i, ?_⟩
  · rw [ho]
    exact writeString_walk L X m.b bs w w1 w2 bv ao n' cap hcc (by rw [Lib.cell_of_heap hbk1]; rfl) run2 hbk2
  · simp only [Rep]
    refine ⟨_, rfl, Reps.cons ?_ (Reps.cons ?_ Reps.nil)⟩
    · simp only [Rep]; rw [hlen]
    · simp only [Rep]

theorem bLen_ok (L : Lays.n170 P ρ) {args : List AVal} {v : AVal} {h' : AH} (ha : pBLen (ρ.t 72) fl args h = some (v, h')) : CallOk P F B fl (ρ.f 170) args h v h' := by
  intro hF hfl μ vs w hr ra
  unfold pBLen at ha
  split at ha
  case h_2 => cases ha
  rename_i id off
  obtain ⟨hc0, ha2⟩ := bif_some ha
  clear ha
  simp only [Bool.and_eq_true, nbeq, nble, decide_eq_true_eq] at hc0
  obtain ⟨rfl, hid⟩ := hc0
  have ha := ha2
  clear ha2
  split at ha
  case h_2 => cases ha
  rename_i b hb
  obtain ⟨x0, l0, hl0, r0, ra⟩ := Reps.cons_iff.1 ra
  rw [Reps.nil_iff.1 ra] at hl0
  obtain ⟨m, hm, rfl⟩ := rep_ptr r0
  have hvs : vs = #[.pointer (some ⟨m.b, m.o + 0, none⟩)] := by
    apply Array.ext'; rw [hl0]
  subst hvs
  obtain ⟨a, p, bv, hg, ho, hc, hbk, rv, hp, _⟩ := bufOf_spec hr hm (by omega) hb
  have hc1 : w.cell? ⟨m.b, 1, none⟩ = some bv := by rw [Lib.cell_of_heap hbk]; rfl
  have fin : ∀ (n : Nat), (∃ ao cap, bv = .slice ao n cap) → v = .int .i64 n → h' = h → ∃ μ' x w', (Goes P (callFunc (ρ.f 170) #[.pointer (some ⟨m.b, m.o + 0, none⟩)]) w x w' ∧ Same w w') ∧ HR P F B μ' h' w'.heap ∧ Ext F fl μ h w.heap μ' h' w'.heap ∧ Rep μ' v x := by
    rintro n ⟨ao, cap, rfl⟩ rfl rfl
    refine ⟨μ, .int .i64 n, w, ⟨.inr (.inl ⟨_, _, w, enters_of L.f170 (by kernel_rfl) rfl _ _, ?_⟩), Same.refl w⟩, hr, Ext.refl _ _ _ _ _ hr.dom, by simp only [Rep]⟩
    rw [ho]
    exact bLen_walk L m.b w ao n cap hc1
  cases b <;> simp only [reduceCtorEq, Option.some.injEq, Prod.mk.injEq] at ha
  · simp only [Rep] at rv; exact fin 0 ⟨_, _, rv⟩ ha.1.symm ha.2.symm
  · obtain ⟨_, _, _, _, e, _⟩ := rep_sl rv
    exact fin _ ⟨_, _, e⟩ ha.1.symm ha.2.symm
end Go.Proofs.YtndlfkibcelhmaaGreatDoor.Ai
end
section
/- strings.Builder's Grow and String. -/
set_option linter.unusedVariables false
namespace Go.Proofs.YtndlfkibcelhmaaGreatDoor.Ai
open Go Go.Proofs Go.Shelf Go.RowKit
variable {P : Program} {F B fl : Nat} {μ : Mu} {h : AH} {ρ : Ren}

set_option maxHeartbeats 2000000 in
set_option maxRecDepth 1000000 in
theorem grow_walk (L : Lays.n241 P ρ) (X : Builder.Extra P ρ) (b n : Nat) (w : World) (hbk : w.heap[b]? = some (.cells #[.pointer (some ⟨b, 0, none⟩), .slice none 0 0] (ρ.t 72) (0, 0))) (hn : n ≤ 281474976710656) :
    ∃ cs : Array Value, Calls P (ρ.f 241) #[.pointer (some ⟨b, 0, none⟩), .int .i64 n] w fun e w' => e = .returned (.tuple #[]) ∧
      w' = (w.drew.drew.drew.alloc (.cells cs (ρ.t 5))).setCell ⟨b, 1, none⟩ (.slice (some ⟨w.heap.size, 0, none⟩) 0 cs.size) := by
  obtain ⟨cs, hrun, hle, hmax⟩ := Lib.run_makeNoZero (P := P) w.drew #[(ρ.t 3)] (ρ.t 37) (ρ.t 5) L.t37 n hn
  refine ⟨cs, ?_⟩
  have hw : IntKind.i64.wrap (IntKind.i64.wrap 0 + (n : Int)) = n := by
    rw [IntKind.wrap_i64, IntKind.wrap_i64]
    omega
  have hcall : (callFunc (ρ.f 277) #[.int .i64 (IntKind.i64.wrap (IntKind.i64.wrap 0 + (n : Int)))]).run P w.drew = .ok (.value (.slice (some ⟨w.drew.heap.size, 0, none⟩) n cs.size)) (w.drew.drew.drew.alloc (.cells cs (ρ.t 5))) := by
    rw [hw, run_callFunc_extern L.f277 (by kernel_rfl) (by kernel_rfl) (by kernel_rfl) (e := Extern.BytealgMakeNoZero.makeNoZero #[(ρ.t 3)] #[(ρ.t 37)]) (by kernel_rfl), hrun]
    rfl
  have c1 : w.drew.cell? ⟨b, 1, none⟩ = some (.slice none 0 0) := by
    have : w.drew.heap[b]? = _ := hbk
    rw [Lib.cell_of_heap this]; rfl
  have c2 : (w.alloc (.cells cs (ρ.t 5))).cell? ⟨b, 1, none⟩ = some (.slice none 0 0) := by
    have : (w.alloc (.cells cs (ρ.t 5))).heap[b]? = _ := (Lib.alloc_old w _ b (heap_lt hbk)).trans hbk
    rw [Lib.cell_of_heap this]; rfl
  have f2 : (w.alloc (.cells cs (ρ.t 5))).frozen? ⟨b, 1, none⟩ = false := Lib.frozen_of_heap ((Lib.alloc_old w _ b (heap_lt hbk)).trans hbk) 1
  have hcopy : ∀ W : World, (Builtin.copy_ #[(ρ.t 37), (ρ.t 37)] (ρ.t 3) #[.slice (some ⟨w.heap.size, 0, none⟩) 0 cs.size, .slice none 0 0]).run P W = .ok (goInt 0) W :=
    fun W => run_copy_none W (ρ.t 37) (ρ.t 37) (ρ.t 3) (ρ.t 5) _ _ 0 cs.size 0 0 L.t37 X.sizeByte rfl
  clear hw
  have mixed := L.mixed
  have t72 := L.t72; have a72 := L.a72; have z72 := L.z72; have v72 := L.v72; have u72 := run_underlying L.t72
  have t70 := L.t70; have a70 := L.a70; have z70 := L.z70; have v70 := L.v70; have u70 := run_underlying L.t70
  have t37 := L.t37; have a37 := L.a37; have z37 := L.z37; have v37 := L.v37; have u37 := run_underlying L.t37
  have t3 := L.t3; have a3 := L.a3; have z3 := L.z3; have v3 := L.v3; have u3 := run_underlying L.t3
  have t5 := X.t5; have a5 := X.a5; have z5 := X.z5; have v5 := X.v5; have u5 := run_underlying X.t5
  go_enter L.f241, Body.n241_ntmps ρ
  go_wp2
  go_region_o
  all_goals (go_wp2; go_end0; exact ⟨rfl, rfl⟩)

set_option maxHeartbeats 2000000 in
set_option maxRecDepth 1000000 in
theorem growTop_walk (L : Lays.n165 P ρ) (X : Builder.Extra P ρ) (b n : Nat) (w w1 : World) (hbk : w1.heap[b]? = some (.cells #[.pointer (some ⟨b, 0, none⟩), .slice none 0 0] (ρ.t 72) (0, 0))) (hn : n ≤ 281474976710656) (hn0 : 0 < n)
    (hcc : Calls P (ρ.f 240) #[.pointer (some ⟨b, 0, none⟩)] w fun e w' => e = .returned (.tuple #[]) ∧ w' = w1) :
    ∃ cs : Array Value, Calls P (ρ.f 165) #[.pointer (some ⟨b, 0, none⟩), .int .i64 n] w fun e w' => e = .returned (.tuple #[]) ∧
      w' = (w1.drew.drew.drew.drew.alloc (.cells cs (ρ.t 5))).setCell ⟨b, 1, none⟩ (.slice (some ⟨w1.heap.size, 0, none⟩) 0 cs.size) := by
  obtain ⟨cs, hgrow⟩ := grow_walk { L with } X b n w1.drew hbk hn
  refine ⟨cs, ?_⟩
  have c1 : w1.cell? ⟨b, 1, none⟩ = some (.slice none 0 0) := by rw [Lib.cell_of_heap hbk]; rfl
  have mixed := L.mixed
  have t72 := L.t72; have a72 := L.a72; have z72 := L.z72; have v72 := L.v72; have u72 := run_underlying L.t72
  have t70 := L.t70; have a70 := L.a70; have z70 := L.z70; have v70 := L.v70; have u70 := run_underlying L.t70
  have t37 := L.t37; have a37 := L.a37; have z37 := L.z37; have v37 := L.v37; have u37 := run_underlying L.t37
  have t3 := L.t3; have a3 := L.a3; have z3 := L.z3; have v3 := L.v3; have u3 := run_underlying L.t3
  have t9 := L.t9; have a9 := L.a9; have z9 := L.z9; have v9 := L.v9; have u9 := run_underlying L.t9
  have t4 := L.t4; have a4 := L.a4; have z4 := L.z4; have v4 := L.v4; have u4 := run_underlying L.t4
  have t164 := L.t164; have a164 := L.a164; have z164 := L.z164; have v164 := L.v164; have u164 := run_underlying L.t164
  have t5 := X.t5; have a5 := X.a5; have z5 := X.z5; have v5 := X.v5; have u5 := run_underlying X.t5
  have e240 : ∀ args w, (callFunc (ρ.f 240) args).run P w = .ok (.enter (ρ.f 240) args) w := enters_of L.f240 (by kernel_rfl) rfl
  have e241 : ∀ args w, (callFunc (ρ.f 241) args).run P w = .ok (.enter (ρ.f 241) args) w := enters_of L.f241 (by kernel_rfl) rfl
  go_enter L.f165, Body.n165_ntmps ρ
  have c1' : w1.drew.cell? ⟨b, 1, none⟩ = some (.slice none 0 0) := c1
  go_wp2_with (go_at_fn (ρ.f 240); refine hcc.mono ?_; rintro e w' ⟨rfl, rfl⟩)
  go_region_o
  all_goals go_wp2_with (go_at_fn (ρ.f 241); refine hgrow.mono ?_; rintro e w' ⟨rfl, rfl⟩)
  all_goals first
    | (exfalso; omega)
    | (go_end0; exact ⟨rfl, rfl⟩)
end Go.Proofs.YtndlfkibcelhmaaGreatDoor.Ai
end
section
/- strings.Builder's Grow and String keep the relation. -/
set_option linter.unusedVariables false
namespace Go.Proofs.YtndlfkibcelhmaaGreatDoor.Ai
open Go Go.Proofs Go.Shelf Go.RowKit
variable {P : Program} {F B fl : Nat} {μ : Mu} {h : AH} {ρ : Ren}

theorem HR.drew {w : World} (hr : HR P F B μ h w.heap) : HR P F B μ h w.drew.heap := hr

theorem bGrow_ok (L : Lays.n165 P ρ) (X : Builder.Extra P ρ) {args : List AVal} {v : AVal} {h' : AH} (ha : pGrow (ρ.t 72) (ρ.t 5) fl args h = some (v, h')) : CallOk P F B fl (ρ.f 165) args h v h' := by
  intro hF hfl μ vs w hr ra
  unfold pGrow at ha
  split at ha
  case h_2 => cases ha
  rename_i id off n
  obtain ⟨hc0, ha2⟩ := bif_some ha
  clear ha
  simp only [Bool.and_eq_true, nbeq, nble, decide_eq_true_eq] at hc0
  obtain ⟨⟨⟨rfl, hid⟩, hn0⟩, hn1⟩ := hc0
  have ha := ha2
  clear ha2
  split at ha
  case h_2 => cases ha
  rename_i hb
  cases ha
  have hn0 : 0 < n := by have := hn0; simp [Nat.blt] at this; omega
  have hn1 : n < 1000000 := by have := hn1; simp [Nat.blt] at this; omega
  obtain ⟨x0, l0, hl0, r0, ra⟩ := Reps.cons_iff.1 ra
  obtain ⟨x1, l1, hl1, r1, ra⟩ := Reps.cons_iff.1 ra
  rw [Reps.nil_iff.1 ra] at hl1
  rw [hl1] at hl0
  obtain ⟨m, hm, rfl⟩ := rep_ptr r0
  have hx1 := rep_int r1
  subst hx1
  have hvs : vs = #[.pointer (some ⟨m.b, m.o + 0, none⟩), .int .i64 n] := by
    apply Array.ext'; rw [hl0]; rfl
  subst hvs
  obtain ⟨w1, bv, hcc, same1, hbk1, rv, ho, hmc, hr1, ext1, o, hg⟩ := copyCheck_ok (B := B) { L with } X.toX72 hr hm hF hid hb
  have hidn : id < h.n := hr.dom id m hm
  simp only [Rep] at rv
  subst rv
  obtain ⟨cs, hcall⟩ := growTop_walk L X m.b n w w1 hbk1 (by omega) hn0 hcc
  -- the new row
  have hr2 := hr1.push (by rw [AH.n_set]; omega) (.trow (ρ.t 5) []) (.cells cs (ρ.t 5)) cs.size ⟨cs, 0, 0, rfl, by simp, fun i v hv => by simp at hv, fun _ => ⟨by simp, fun i _ hi => by omega⟩⟩
  have ext2 : Ext F fl μ (h.set id (.tcells (ρ.t 72) [.ptr id 0, .nilsl])) w1.heap _ _ _ := Ext.push (F := F) (fl := fl) hr1 (.trow (ρ.t 5) []) (.cells cs (ρ.t 5)) ⟨w1.heap.size, 0, cs.size⟩ rfl
  rw [AH.n_set] at hr2 ext2
  have hw4 : (w1.drew.drew.drew.drew.alloc (.cells cs (ρ.t 5))).heap = w1.heap.push (.cells cs (ρ.t 5)) := rfl
  have hgx : ((h.set id (.tcells (ρ.t 72) [.ptr id 0, .nilsl])).push (.trow (ρ.t 5) [])).get id = some (.tcells (ρ.t 72) [.ptr id 0, .nilsl]) := by
    rw [AH.get_push, AH.n_set, if_neg (by omega), AH.get_set, if_pos rfl]
  have hm2 : (μ.put h.n ⟨w1.heap.size, 0, cs.size⟩) id = some m := by rw [Mu.put_ne _ _ (by omega)]; exact hm
  have hbk2 : (w1.drew.drew.drew.drew.alloc (.cells cs (ρ.t 5))).heap[m.b]? = some (.cells #[.pointer (some ⟨m.b, 0, none⟩), .slice none 0 0] (ρ.t 72) (0, 0)) := by
    rw [hw4, Array.getElem?_push, if_neg (by have := heap_lt hbk1; omega)]; exact hbk1
  have hbk3 : ((w1.drew.drew.drew.drew.alloc (.cells cs (ρ.t 5))).setCell ⟨m.b, 1, none⟩ (.slice (some ⟨w1.heap.size, 0, none⟩) 0 cs.size)).heap[m.b]? = some (.cells #[.pointer (some ⟨m.b, 0, none⟩), .slice (some ⟨w1.heap.size, 0, none⟩) 0 cs.size] (ρ.t 72) (0, 0)) := by
    rw [bset hbk2]; rfl
  have rp : Rep (μ.put h.n ⟨w1.heap.size, 0, cs.size⟩) (.ptr id 0) (.pointer (some ⟨m.b, 0, none⟩)) := by
    simp only [Rep]; exact ⟨m, hm2, by rw [ho]⟩
  have rx : Rep (μ.put h.n ⟨w1.heap.size, 0, cs.size⟩) (.sl h.n 0 0 1) (.slice (some ⟨w1.heap.size, 0, none⟩) 0 cs.size) := by
    simp only [Rep]
    exact ⟨_, 0, cs.size, Mu.put_same _ _ _, rfl, by omega, fun h => by omega, by simp, by simp⟩
  obtain ⟨hr3, ext3⟩ := hr_bnew (w := w1.drew.drew.drew.drew.alloc (.cells cs (ρ.t 5))) (w' := (w1.drew.drew.drew.drew.alloc (.cells cs (ρ.t 5))).setCell ⟨m.b, 1, none⟩ (.slice (some ⟨w1.heap.size, 0, none⟩) 0 cs.size)) (by rw [hw4]; exact hr2) hm2 hF hid hgx (setCell_size _ _ _) (fun k hk => Below.heap_setCell _ _ _ _ hk) hbk3 ho hmc rp rx ⟨_, hbk2⟩
  have hcg : ∀ i, ((h.push (.trow (ρ.t 5) [])).set id (.tcells (ρ.t 72) [.ptr id 0, .sl h.n 0 0 1])).get i = (((h.set id (.tcells (ρ.t 72) [.ptr id 0, .nilsl])).push (.trow (ρ.t 5) [])).set id (.tcells (ρ.t 72) [.ptr id 0, .sl h.n 0 0 1])).get i := fun i => by
    rw [AH.get_set, AH.get_set, AH.get_push, AH.get_push, AH.n_set, AH.get_set]
    by_cases e : i = id
    · rw [if_pos e, if_pos e]
    · rw [if_neg e, if_neg e, if_neg e]
  rw [hw4] at ext3
  refine ⟨_, undef, (w1.drew.drew.drew.drew.alloc (.cells cs (ρ.t 5))).setCell ⟨m.b, 1, none⟩ (.slice (some ⟨w1.heap.size, 0, none⟩) 0 cs.size), ⟨.inr (.inl ⟨_, _, w, enters_of L.f165 (by kernel_rfl) rfl _ _, ?_⟩), same1.trans ⟨rfl, rfl⟩⟩, hr3.congr rfl fun i _ => hcg i, ((ext1.trans ext2).trans ext3).congr rfl fun i _ => hcg i, Rep.undef⟩
  rw [ho]
  exact hcall
end Go.Proofs.YtndlfkibcelhmaaGreatDoor.Ai
end
section
/- strings.Builder's String keeps the relation. -/
set_option linter.unusedVariables false
namespace Go.Proofs.YtndlfkibcelhmaaGreatDoor.Ai
open Go Go.Proofs Go.Shelf Go.RowKit
variable {P : Program} {F B fl : Nat} {μ : Mu} {h : AH} {ρ : Ren}

theorem liesAt_bytes_at {e : TypeId} (hc : P.cellsOf e = 1) (count o n : Nat) (hn : o + n ≤ count) : liesAt P P.depth e count o e n = true := by
  have hd : P.depth = (2 * (P.types.size + Made.depth) + 1) + 1 := rfl
  rw [hd]
  simp only [liesAt, Bool.or_eq_true]
  left
  rw [hd]
  simp [rowAt, hc, hn, sameLayout, Nat.mod_one]

theorem run_unsafeString_at (w : World) (pt it ty e : TypeId) (hp : P.underlying pt = some (.pointer e)) (hc : P.cellsOf e = 1) (g o cells : Nat) (hsh : w.shape? g = some (e, cells)) (l : List UInt8) (h0 : l ≠ []) (hn : o + l.length ≤ cells) (h63 : l.length ≤ 9223372036854775807)
    (hcell : ∀ j x, l[j]? = some x → w.cell? ((⟨g, o, none⟩ : Addr).add j) = some (.int .u8 x.toNat)) :
    (Builtin.unsafeString_ #[pt, it] ty #[.pointer (some ⟨g, o, none⟩), .int .i64 l.length]).run P w = .ok (.string ⟨l.toArray⟩) (w.freeze ⟨g, o, none⟩ l.length) := by
  have hl : l.length ≠ 0 := by simpa using h0
  have hlb := Lib.run_loadBytes (P := P) w l ⟨g, o, none⟩ .empty hcell
  have hlies := liesAt_bytes_at (P := P) hc (cells / P.cellsOf e) o l.length (by rw [hc]; simpa using hn)
  have h63' : ¬ (9223372036854775807 : Int) < (l.length : Int) := by omega
  have hdef : Builtin.unsafeString_ #[pt, it] ty #[.pointer (some ⟨g, o, none⟩), .int .i64 l.length] =
      (do
        let n ← asInt (.int .i64 l.length)
        if n < 0 then runtimePanic (.error "unsafe.String: len out of range")
        if n > IntKind.i64.max then unsupported (.unsafePointer "String: a length above the largest int")
        if n = 0 then pure (.string .empty)
        else if ← variablesAt ⟨g, o, none⟩ (← elemOf pt) n.toNat then do
          let s ← loadBytes ⟨g, o, none⟩ .empty n.toNat
          freeze ⟨g, o, none⟩ n.toNat
          pure (.string s)
        else unsupported (.unsafePointer "String: not so many bytes at ptr")) := rfl
  rw [hdef]
  have hmax : IntKind.i64.max = 9223372036854775807 := rfl
  have hneg : ¬ (l.length : Int) < 0 := by omega
  simp [asInt, asIntOf, hmax, h63', hneg, hl, variablesAt, hsh, elemOf, run_underlying hp, hlies, hlb]

set_option maxHeartbeats 2000000 in
set_option maxRecDepth 100000 in
theorem string_walk (L : Lays.n169 P ρ) (X : Builder.Extra P ρ) (b g o cap cells : Nat) (p : Value) (l : List UInt8) (w : World) (hbk : w.heap[b]? = some (.cells #[p, .slice (some ⟨g, o, none⟩) l.length cap] (ρ.t 72) (0, 0))) (h0 : l ≠ []) (hcap : l.length ≤ cap)
    (hsh : w.shape? g = some ((ρ.t 5), cells)) (hn : o + l.length ≤ cells) (h63 : l.length ≤ 9223372036854775807) (hcell : ∀ j x, l[j]? = some x → w.cell? ((⟨g, o, none⟩ : Addr).add j) = some (.int .u8 x.toNat)) :
    Calls P (ρ.f 169) #[.pointer (some ⟨b, 0, none⟩)] w fun e w' => e = .returned (.string ⟨l.toArray⟩) ∧ w' = w.drew.freeze ⟨g, o, none⟩ l.length := by
  have hl0 : l.length ≠ 0 := by simpa using h0
  have c1 : w.drew.cell? ⟨b, 1, none⟩ = some (.slice (some ⟨g, o, none⟩) l.length cap) := by
    have : w.drew.heap[b]? = some (.cells #[p, .slice (some ⟨g, o, none⟩) l.length cap] (ρ.t 72) (0, 0)) := hbk
    rw [Lib.cell_of_heap this]; rfl
  have hSD : (Builtin.unsafeSliceData_ #[(ρ.t 37)] (ρ.t 127) #[.slice (some ⟨g, o, none⟩) l.length cap]).run P w.drew = .ok (.pointer (some ⟨g, o, none⟩)) w.drew :=
    Lib.run_unsafeSliceData_row _ _ _ _ _ _ (by omega)
  have hUS : (Builtin.unsafeString_ #[(ρ.t 127), (ρ.t 3)] (ρ.t 9) #[.pointer (some ⟨g, o, none⟩), .int .i64 l.length]).run P w.drew = .ok (.string ⟨l.toArray⟩) (w.drew.freeze ⟨g, o, none⟩ l.length) :=
    run_unsafeString_at w.drew (ρ.t 127) (ρ.t 3) (ρ.t 9) (ρ.t 5) L.t127 X.cellsByte g o cells hsh l h0 hn h63 hcell
  have mixed := L.mixed
  have t72 := L.t72; have a72 := L.a72; have z72 := L.z72; have v72 := L.v72; have u72 := run_underlying L.t72
  have t70 := L.t70; have a70 := L.a70; have z70 := L.z70; have v70 := L.v70; have u70 := run_underlying L.t70
  have t37 := L.t37; have a37 := L.a37; have z37 := L.z37; have v37 := L.v37; have u37 := run_underlying L.t37
  have t127 := L.t127; have a127 := L.a127; have z127 := L.z127; have v127 := L.v127; have u127 := run_underlying L.t127
  have t3 := L.t3; have a3 := L.a3; have z3 := L.z3; have v3 := L.v3; have u3 := run_underlying L.t3
  have t9 := L.t9; have a9 := L.a9; have z9 := L.z9; have v9 := L.v9; have u9 := run_underlying L.t9
  have t5 := X.t5; have a5 := X.a5; have z5 := X.z5; have v5 := X.v5; have u5 := run_underlying X.t5
  go_enter L.f169, Body.n169_ntmps ρ
  go_wp2
  go_region_o
  all_goals (go_wp2; go_ret; exact ⟨rfl, rfl⟩)

set_option maxHeartbeats 2000000 in
set_option maxRecDepth 100000 in
theorem stringNil_walk (L : Lays.n169 P ρ) (X : Builder.Extra P ρ) (b : Nat) (p : Value) (w : World) (hbk : w.heap[b]? = some (.cells #[p, .slice none 0 0] (ρ.t 72) (0, 0))) :
    Calls P (ρ.f 169) #[.pointer (some ⟨b, 0, none⟩)] w fun e w' => e = .returned (.string ⟨#[]⟩) ∧ w' = w.drew := by
  have hUS := Any.unsafeString_none L X
  have c1 : w.drew.cell? ⟨b, 1, none⟩ = some (.slice none 0 0) := by
    have : w.drew.heap[b]? = some (.cells #[p, .slice none 0 0] (ρ.t 72) (0, 0)) := hbk
    rw [Lib.cell_of_heap this]; rfl
  have hSD : (Builtin.unsafeSliceData_ #[(ρ.t 37)] (ρ.t 127) #[.slice none 0 0]).run P w.drew = .ok (.pointer none) w.drew := rfl
  have mixed := L.mixed
  have t72 := L.t72; have a72 := L.a72; have z72 := L.z72; have v72 := L.v72; have u72 := run_underlying L.t72
  have t70 := L.t70; have a70 := L.a70; have z70 := L.z70; have v70 := L.v70; have u70 := run_underlying L.t70
  have t37 := L.t37; have a37 := L.a37; have z37 := L.z37; have v37 := L.v37; have u37 := run_underlying L.t37
  have t127 := L.t127; have a127 := L.a127; have z127 := L.z127; have v127 := L.v127; have u127 := run_underlying L.t127
  have t3 := L.t3; have a3 := L.a3; have z3 := L.z3; have v3 := L.v3; have u3 := run_underlying L.t3
  have t9 := L.t9; have a9 := L.a9; have z9 := L.z9; have v9 := L.v9; have u9 := run_underlying L.t9
  have t5 := X.t5; have a5 := X.a5; have z5 := X.z5; have v5 := X.v5; have u5 := run_underlying X.t5
  go_enter L.f169, Body.n169_ntmps ρ
  go_wp2
  go_region_o
  all_goals (go_wp2; go_ret; exact ⟨rfl, rfl⟩)

theorem bytesL_spec : ∀ {vs : List AVal} {s : List Nat}, bytesL vs = some s → vs = s.map (fun n : Nat => AVal.int .u8 (n : Int)) ∧ ∀ n ∈ s, n < 256 := by
  intro vs
  induction vs with
  | nil => intro s h; simp [bytesL] at h; subst h; simp
  | cons v vs ih =>
    intro s h
    unfold bytesL at h
    split at h
    · cases ‹_ :: _ = []›
    · rename_i n l e
      cases e
      obtain ⟨hc, h2⟩ := bif_some h
      simp only [Option.map_eq_some_iff] at h2
      obtain ⟨s', hs', rfl⟩ := h2
      obtain ⟨h3, h4⟩ := ih hs'
      refine ⟨by rw [List.map_cons, ← h3]; rfl, ?_⟩
      intro k hk
      rcases List.mem_cons.1 hk with rfl | hk
      · simp [Nat.blt] at hc; omega
      · exact h4 k hk
    · cases h

theorem bString_ok (L : Lays.n169 P ρ) (X : Builder.Extra P ρ) {args : List AVal} {v : AVal} {h' : AH} (ha : pBString (ρ.t 72) (ρ.t 5) fl args h = some (v, h')) : CallOk P F B fl (ρ.f 169) args h v h' := by
  intro hF hfl μ vs w hr ra
  unfold pBString at ha
  split at ha
  case h_2 => cases ha
  rename_i id off
  obtain ⟨hc0, ha2⟩ := bif_some ha
  clear ha
  simp only [Bool.and_eq_true, nbeq, nble, decide_eq_true_eq] at hc0
  obtain ⟨rfl, hid⟩ := hc0
  have ha := ha2
  clear ha2
  obtain ⟨x0, l0, hl0, r0, ra⟩ := Reps.cons_iff.1 ra
  rw [Reps.nil_iff.1 ra] at hl0
  obtain ⟨m, hm, rfl⟩ := rep_ptr r0
  have hvs : vs = #[.pointer (some ⟨m.b, m.o + 0, none⟩)] := by
    apply Array.ext'; rw [hl0]
  subst hvs
  split at ha
  · rename_i hb
    cases ha
    obtain ⟨a, p, bv, hg, ho, hc, hbk, rv, hp, _⟩ := bufOf_spec hr hm (by omega) hb
    simp only [Rep] at rv
    subst rv
    refine ⟨μ, .string ⟨#[]⟩, w.drew, ⟨.inr (.inl ⟨_, _, w, enters_of L.f169 (by kernel_rfl) rfl _ _, ?_⟩), ⟨rfl, rfl⟩⟩, hr, Ext.refl _ _ _ _ _ hr.dom, by simp only [Rep]; exact ⟨_, rfl, rfl⟩⟩
    rw [ho]
    exact stringNil_walk L X m.b p w hbk
  · rename_i bid o n es hb
    obtain ⟨hc1, ha2⟩ := bif_some ha
    clear ha
    simp only [Bool.and_eq_true, nbeq, nble, decide_eq_true_eq] at hc1
    obtain ⟨⟨⟨⟨hbf, hn0⟩, rfl⟩, rfl⟩, hn9⟩ := hc1
    have hn9 : n < 1000000 := by have := hn9; simp [Nat.blt] at this; omega
    have ha := ha2
    clear ha2
    have hn0 : 0 < n := by have := hn0; simp [Nat.blt] at this; omega
    split at ha
    case h_2 => cases ha
    rename_i t ws hgb
    obtain ⟨hc2, ha2⟩ := bif_some ha
    clear ha
    simp only [Bool.and_eq_true, nbeq, decide_eq_true_eq] at hc2
    obtain ⟨rfl, hwl⟩ := hc2
    have ha := ha2
    clear ha2
    split at ha
    case h_2 => cases ha
    rename_i s hs
    cases ha
    obtain ⟨hws, hs256⟩ := bytesL_spec hs
    obtain ⟨a, p, bv, hg, ho, hc, hbk, rv, hp, _⟩ := bufOf_spec hr hm (by omega) hb
    obtain ⟨mb, oc, cap, hmb, rfl, hlc, hoc, ho1, ho2⟩ := rep_sl rv
    have hoc := hoc hn0
    simp only [Nat.add_zero] at hoc
    subst hoc
    obtain ⟨cs, lo, hi, hcb, hcl, hcells, how⟩ := hr.obj bid mb _ hmb hgb
    obtain ⟨hsz, _⟩ := how (by omega)
    have hsl : s.length = n := by rw [← hwl, hws, List.length_map]
    have hlen : (s.map UInt8.ofNat).length = n := by rw [List.length_map, hsl]
    have hmap : (s.map UInt8.ofNat).map UInt8.toNat = s := by
      rw [List.map_map]
      conv => rhs; rw [← List.map_id s]
      apply List.map_congr_left
      intro k hk
      have := hs256 k hk
      simp [UInt8.toNat_ofNat']
      omega
    have hl : Live h bid := ⟨_, hgb, by simp⟩
    have hlt := heap_lt hcb
    have hcell : ∀ j x, (s.map UInt8.ofNat)[j]? = some x → w.cell? ((⟨mb.b, mb.o, none⟩ : Addr).add j) = some (.int .u8 x.toNat) := by
      intro j x hx
      rw [List.getElem?_map, Option.map_eq_some_iff] at hx
      obtain ⟨k, hk, rfl⟩ := hx
      obtain ⟨y, hy, ry⟩ := hcells j (.int .u8 (k : Int)) (by rw [hws, List.getElem?_map, hk]; rfl)
      have hy2 := rep_int ry
      subst hy2
      have hk256 := hs256 k (List.mem_of_getElem? hk)
      rw [show (UInt8.ofNat k).toNat = k by simp [UInt8.toNat_ofNat']; omega]
      have e : (⟨mb.b, mb.o, none⟩ : Addr).add j = ⟨mb.b, mb.o + j, none⟩ := by
        unfold Addr.add; by_cases hj : j = 0 <;> simp [hj]
      rw [e]
      simp only [World.cell?, hcb]
      exact hy
    have hw := string_walk L X m.b mb.b mb.o cap cs.size p (s.map UInt8.ofNat) w (by rw [hlen]; exact hbk) (by rw [← List.length_pos_iff, hlen]; exact hn0) (by omega) (by simp [World.shape?, hcb]) (by rw [hlen, hsz]; omega) (by rw [hlen]; omega) hcell
    rw [hlen] at hw
    have hfs : (w.drew.freeze ⟨mb.b, mb.o, none⟩ n).heap.size = w.heap.size := by
      unfold World.freeze; split
      · rfl
      · exact Array.size_modify
    have hfo : ∀ b, b ≠ mb.b → (w.drew.freeze ⟨mb.b, mb.o, none⟩ n).heap[b]? = w.heap[b]? := by
      intro b hb
      unfold World.freeze; split
      · rfl
      · simp only [Array.getElem?_modify]
        rw [if_neg (by omega)]; rfl
    refine ⟨μ, .string ⟨(s.map UInt8.ofNat).toArray⟩, w.drew.freeze ⟨mb.b, mb.o, none⟩ n, ⟨.inr (.inl ⟨_, _, w, enters_of L.f169 (by kernel_rfl) rfl _ _, ?_⟩), ?_⟩, hr.upd hmb (by omega) hl .dead _ hfs hfo trivial, Ext.upd hr hmb hbf hl .dead _ hfs hfo ?_, ?_⟩
    · rw [ho]; exact hw
    · unfold World.freeze; split <;> exact ⟨rfl, rfl⟩
    · intro l hl'; rw [hcb] at hl'; cases hl'
    · simp only [Rep]; exact ⟨_, rfl, by simpa using hmap⟩
  · cases ha
end Go.Proofs.YtndlfkibcelhmaaGreatDoor.Ai
end
