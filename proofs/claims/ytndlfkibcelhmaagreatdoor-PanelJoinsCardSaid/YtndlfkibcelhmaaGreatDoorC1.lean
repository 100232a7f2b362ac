/- What the functions come to, in the evaluator. -/
import Derived.Test.YtndlfkibcelhmaaGreatDoorC0
set_option linter.all false
section
namespace Go.Proofs.YtndlfkibcelhmaaGreatDoor.Ai
open Go
set_option maxRecDepth 10000
set_option maxHeartbeats 4000000
set_option linter.all false
set_option pp.maxSteps 1200

def widenOf (p : Pn) (n : Int) : Pn := ⟨p.name, p.width + n, p.left, p.right⟩
def byErr (p : Pn) (n : Int) : Int := firstErr [panelErr p, rangeErr n (-128) 128]
theorem byErr_ok {p : Pn} {n : Int} (h : byErr p n = 0) : panelErr p = 0 ∧ -128 ≤ n ∧ n ≤ 128 := by
  unfold byErr at h
  simp only [firstErr] at h
  by_cases a : panelErr p = 0
  · rw [if_pos a] at h
    by_cases b : rangeErr n (-128) 128 = 0
    · refine ⟨a, ?_⟩
      unfold rangeErr at b; split at b <;> omega
    · rw [if_neg b] at h; exact absurd h b
  · rw [if_neg a] at h; exact absurd h a
def widenErr (p : Pn) (n : Int) : Int := if byErr p n = 0 then panelErr (widenOf p n) else byErr p n
def widenRes (p : Pn) (n : Int) : Pn := if byErr p n = 0 then pieceOf (widenOf p n) else noPanel
theorem PSmall.widen {p : Pn} (a : PSmall p) (n : Int) : PSmall (widenOf p n) := ⟨a.name, a.left, a.right⟩

theorem pWiden_cl {fl : Nat} {h : AH} {l r : AVal} {p : Pn} (n : Int) (hf : fl ≤ h.n) (hv : PV h l r p) (hs : PSmall p) :
    Cl T fl 37 [.agg [.str p.name, .int .i64 p.width, l, r], .int .i64 n] h fun x h' => (∃ v, x = .tuple [v, .int .i64 (widenErr p n)] ∧ PA h' v (widenRes p n)) ∧ Keep h h' := by
  refine Cl.code (fn := F37) rfl rfl ?_
  simp only [F37]
  have hlc := hv.left.one
  have hrc := hv.right.one
  have hG : ∀ G : AH, G = (h.push (.cells [.str p.name, .int .i64 p.width, l, r])).push (.cells [.str [], .int .i64 0, .nilsl, .nilsl]) →
      G.n = h.n + 1 + 1 ∧ Keep h G ∧ G.cells h.n = some [.str p.name, .int .i64 p.width, l, r] ∧ G.cells (h.n + 1) = some [.str [], .int .i64 0, .nilsl, .nilsl] := by
    rintro G rfl
    refine ⟨rfl, ((Keep.refl h).push _).push _, ?_, AH.cells_push_eq rfl⟩
    simp (maxSteps := 10000000) (disch := first | omega | (simp only [AH.push_n, AH.set_n]; first | done | omega)) only [go_sem]
  simp (maxSteps := 10000000) (disch := first | omega | (simp only [AH.push_n, AH.set_n]; first | done | omega)) only [go_sem, reduceCtorEq, Nat.reduceEqDiff, Nat.reduceAdd]
  generalize (h.push (.cells [.str p.name, .int .i64 p.width, l, r])).push (.cells [.str [], .int .i64 0, .nilsl, .nilsl]) = G at *
  obtain ⟨Gn, Gk, Ga, Gb⟩ := hG G rfl
  clear hG
  refine ClS.by (pCheckPanel_cl (Nat.le_trans hf Gk.n) (hv.keep Gk) hs) ?_
  rintro x g1 ⟨rfl, hk1⟩
  have n1 := hk1.n
  simp (maxSteps := 10000000) (disch := first | omega | (simp only [AH.push_n, AH.set_n]; first | done | omega)) only [go_sem, Nat.reduceEqDiff, Int.reduceNeg]
  refine ClS.by (pWithin_cl n (-128) 128) ?_
  rintro x g ⟨rfl, rfl⟩
  simp (maxSteps := 10000000) (disch := first | omega | (simp only [AH.push_n, AH.set_n]; first | done | omega)) only [go_sem, Nat.reduceEqDiff, Nat.reduceAdd, Nat.reduceLeDiff, Int.reduceNeg]
  refine ClS.by (pFirst_cl (Vw.new (E := IntE) (g := g1) [panelErr p, rangeErr n (-128) 128]) (by simp)) ?_
  rintro x g ⟨rfl, rfl⟩
  have k3 : Keep G (g1.push (.cells [.int .i64 (panelErr p), .int .i64 (rangeErr n (-128) 128)])) := hk1.push _
  have hE : encs IntE [panelErr p, rangeErr n (-128) 128] = [.int .i64 (panelErr p), .int .i64 (rangeErr n (-128) 128)] := rfl
  try rw [hE]
  generalize g1.push (.cells [.int .i64 (panelErr p), .int .i64 (rangeErr n (-128) 128)]) = g3 at *
  have kk3 := Gk.trans k3
  have n3 := k3.n
  have a3 := (k3.cells (i := h.n) (by omega)).trans Ga
  have b3 := (k3.cells (i := h.n + 1) (by omega)).trans Gb
  have hB : firstErr [panelErr p, rangeErr n (-128) 128] = byErr p n := rfl
  rw [hB]
  have hfn : fl ≤ h.n + 1 := by omega
  by_cases he : byErr p n = 0
  case neg =>
    have e1 : widenErr p n = byErr p n := by unfold widenErr; rw [if_neg he]
    have e2 : widenRes p n = noPanel := by unfold widenRes; rw [if_neg he]
    simp (maxSteps := 10000000) (disch := first | omega | (simp only [AH.push_n, AH.set_n]; first | done | omega)) only [go_sem, Nat.reduceEqDiff, Nat.reduceAdd, Int.reduceNeg, he, b3]
    rw [e1, e2]
    exact ⟨⟨_, ⟨rfl, rfl⟩, noPanel_pa _⟩, kk3.set (by omega) _⟩
  have e1 : widenErr p n = panelErr (widenOf p n) := by unfold widenErr; rw [if_pos he]
  have e2 : widenRes p n = pieceOf (widenOf p n) := by unfold widenRes; rw [if_pos he]
  obtain ⟨ep, hn1, hn2⟩ := byErr_ok he
  have op := pok ep
  have hw := op.ok.width
  simp (maxSteps := 10000000) (disch := first | omega | (simp only [AH.push_n, AH.set_n]; first | done | omega)) only [go_sem, Nat.reduceEqDiff, Int.reduceNeg, he, a3]
  refine ClS.by (cloneEd_cl (Nat.le_refl _) (hv.keep kk3).left op.ok.left.len') ?_
  rintro jl g6 ⟨hjl, hk6, hol⟩
  have k6 := k3.trans hk6
  have kk6 := Gk.trans k6
  have n6 := k6.n
  have a6 := (k6.cells (i := h.n) (by omega)).trans Ga
  simp (maxSteps := 10000000) (disch := first | omega | (simp only [AH.push_n, AH.set_n]; first | done | omega)) only [go_sem, Nat.reduceEqDiff, Int.reduceNeg, a6]
  refine ClS.by (cloneEd_cl (Nat.le_refl _) (hv.keep kk6).right op.ok.right.len') ?_
  rintro jr g7 ⟨hjr, hk7, hor⟩
  have k7 := k6.trans hk7
  have kk7 := Gk.trans k7
  have hjlc := hjl.one
  have hjrc := hjr.one
  simp (maxSteps := 10000000) (disch := first | omega | (simp only [AH.push_n, AH.set_n]; first | done | omega)) only [go_sem, Nat.reduceEqDiff, Nat.reduceAdd, Nat.reduceLeDiff, Int.reduceNeg, hjlc.1, hjrc.1]
  refine ClS.by (checked_cl (q := widenOf p n) (Nat.le_trans hf kk7.n) ⟨hjl.keep hk7, hjr⟩ (hs.widen n)) ?_
  rintro x g8 ⟨⟨l', r', rfl, hv', hoo⟩, hk8⟩
  have k8 := k7.trans hk8
  have kk8 := Gk.trans k8
  have n8 := k8.n
  have b8 := (k8.cells (i := h.n + 1) (by omega)).trans Gb
  obtain ⟨ol', or'⟩ := hoo G.n (hol.mono (by omega)) (hor.mono (by omega))
  have hl' := hv'.left.one
  have hr' := hv'.right.one
  have ks := Keep.set kk8 (j := h.n + 1) (by omega)
  simp (maxSteps := 10000000) (disch := first | omega | (simp only [AH.push_n, AH.set_n]; first | done | omega)) only [go_sem, Nat.reduceEqDiff, Nat.reduceAdd, Int.reduceNeg, b8, hl'.2, hr'.2]
  rw [e1, e2]
  exact ⟨⟨_, ⟨rfl, rfl⟩, ⟨⟨l', r', rfl, ⟨hv'.left.set _ (ol'.off (by omega)), hv'.right.set _ (or'.off (by omega))⟩⟩⟩⟩, ks _⟩

theorem piece_badA {fl : Nat} {h : AH} {v : AVal} {e : Int} {w : AVal} {q : Pn} (hf : fl ≤ h.n) (ha : PA h v noPanel) (hb : PA h w q) (he : e ≠ 0) :
    Cl T fl 40 [v, .int .i64 e, .int .i64 e, w] h fun x h' => x = .bool true ∧ Keep h h' := by
  obtain ⟨l, r, rfl, hv⟩ := ha.form
  exact piece_bad hf hv hb he

inductive Fit (e1 : Int) (S : Pn) (e : Int) (Q : Pn) : Prop where
  | bad (h : e ≠ 0) (h1 : S = noPanel) (h2 : e1 = e)
  | ok (h : e = 0) (h1 : S = pieceOf Q) (h2 : e1 = panelErr Q) (h3 : PSmall Q) (h4 : Q.left.length ≤ 1000000) (h5 : Q.right.length ≤ 1000000)
theorem piece_cl {fl : Nat} {h : AH} {v w : AVal} {e1 e : Int} {S Q : Pn} (f : Fit e1 S e Q) (hf : fl ≤ h.n) (ha : PA h v S) (hb : PA h w Q) :
    Cl T fl 40 [v, .int .i64 e1, .int .i64 e, w] h fun x h' => x = .bool true ∧ Keep h h' := by
  cases f with
  | bad h h1 h2 => subst h1; subst h2; exact piece_badA hf ha hb h
  | ok h h1 h2 h3 h4 h5 => subst h; subst h1; subst h2; exact piece_ok hf ha hb h3 h4 h5
theorem condS_cut {fl : Nat} {v : AVal} {a b : ACode} {ts : Tm} {h : AH} {N : Tm → AH → Prop} {Q : KE} {t u w : Nat} (R : Tm → AH → Prop)
    (hc : condS v (wS T fl a ts h (fun e ts' h' => e = .norm ∧ R ts' h') u) (wS T fl b ts h (fun e ts' h' => e = .norm ∧ R ts' h') w) t) (hr : ∀ ts' h', R ts' h' → N ts' h') : condS v (wS T fl a ts h (seqK N Q) u) (wS T fl b ts h (seqK N Q) w) t := by
  have key : ∀ (c : ACode) (z : Nat), wS T fl c ts h (fun e ts' h' => e = .norm ∧ R ts' h') z → wS T fl c ts h (seqK N Q) z := fun c z x => wS_mono x fun e ts' h' ⟨he, hx⟩ => by
    subst he; exact hr ts' h' hx
  unfold condS at *
  exact condK_mono hc (key a u) (key b w)

theorem panelJoins_cl {fl : Nat} {h : AH} {l r l2 r2 : AVal} {p o : Pn} {n2 : Int} (hf : fl ≤ h.n) (hv : PV h l r p) (hu : PV h l2 r2 o) (hn2 : -9223372036854775808 ≤ n2 ∧ n2 < 9223372036854775808) :
    Cl T fl 6 [.agg [.str p.name, .int .i64 p.width, l, r], .agg [.str o.name, .int .i64 o.width, l2, r2], .int .i64 n2] h fun x _ => x = .bool true := by
  refine Cl.code (fn := F6) rfl rfl ?_
  simp only [F6]
  have hlc := hv.left.one
  have hrc := hv.right.one
  have hlc2 := hu.left.one
  have hrc2 := hu.right.one
  have hG : ∀ G : AH, G = (h.push (.cells [.str p.name, .int .i64 p.width, l, r])).push (.cells [.str o.name, .int .i64 o.width, l2, r2]) →
      G.n = h.n + 1 + 1 ∧ Keep h G ∧ G.cells h.n = some [.str p.name, .int .i64 p.width, l, r] ∧ G.cells (h.n + 1) = some [.str o.name, .int .i64 o.width, l2, r2] := by
    rintro G rfl
    refine ⟨rfl, ((Keep.refl h).push _).push _, ?_, AH.cells_push_eq rfl⟩
    simp (maxSteps := 10000000) (disch := first | omega | (simp only [AH.push_n, AH.set_n]; first | done | omega)) only [go_sem]
  simp (maxSteps := 10000000) (disch := first | omega | (simp only [AH.push_n, AH.set_n]; first | done | omega)) only [go_sem, reduceCtorEq, Nat.reduceEqDiff, Nat.reduceAdd]
  refine ClS.by awake_cl ?_
  rintro x g ⟨rfl, rfl⟩
  simp (maxSteps := 10000000) (disch := first | omega | (simp only [AH.push_n, AH.set_n]; first | done | omega)) only [go_sem, Nat.reduceEqDiff, Nat.reduceAdd]
  generalize (h.push (.cells [.str p.name, .int .i64 p.width, l, r])).push (.cells [.str o.name, .int .i64 o.width, l2, r2]) = G at *
  obtain ⟨Gn, Gk, Ga, Gb⟩ := hG G rfl
  clear hG
  refine ClS.by (short_cl (Nat.le_trans hf Gk.n) (hv.keep Gk) 40) ?_
  rintro x g1 ⟨⟨b, rfl, hb⟩, k1⟩
  have n1 := k1.n
  have a1 := (k1.cells (i := h.n) (by omega)).trans Ga
  have b1 := (k1.cells (i := h.n + 1) (by omega)).trans Gb
  cases b
  case false =>
    simp (maxSteps := 10000000) (disch := first | omega | (simp only [AH.push_n, AH.set_n]; first | done | omega)) only [go_sem, Nat.reduceEqDiff]
    refine ClS.by awake_cl ?_
    rintro x g ⟨rfl, rfl⟩
    simp (maxSteps := 10000000) (disch := first | omega | (simp only [AH.push_n, AH.set_n]; first | done | omega)) only [go_sem]
  have ps := hb rfl
  simp (maxSteps := 10000000) (disch := first | omega | (simp only [AH.push_n, AH.set_n]; first | done | omega)) only [go_sem, Nat.reduceEqDiff, Nat.reduceAdd, b1]
  refine ClS.by (short_cl (Nat.le_trans hf (Gk.trans k1).n) (hu.keep (Gk.trans k1)) 40) ?_
  rintro x g2 ⟨⟨b, rfl, hb2⟩, hk2⟩
  have k2 := k1.trans hk2
  have n2' := k2.n
  have a2 := (k2.cells (i := h.n) (by omega)).trans Ga
  have b2 := (k2.cells (i := h.n + 1) (by omega)).trans Gb
  cases b
  case false =>
    simp (maxSteps := 10000000) (disch := first | omega | (simp only [AH.push_n, AH.set_n]; first | done | omega)) only [go_sem, Nat.reduceEqDiff]
    refine ClS.by awake_cl ?_
    rintro x g ⟨rfl, rfl⟩
    simp (maxSteps := 10000000) (disch := first | omega | (simp only [AH.push_n, AH.set_n]; first | done | omega)) only [go_sem]
  have os := hb2 rfl
  have hsl : p.left.length ≤ 1000 := by have := ps.left.len; omega
  have hsr : p.right.length ≤ 1000 := by have := ps.right.len; omega
  have htl : o.left.length ≤ 1000 := by have := os.left.len; omega
  have htr : o.right.length ≤ 1000 := by have := os.right.len; omega
  have kk2 := Gk.trans k2
  simp (maxSteps := 10000000) (disch := first | omega | (simp only [AH.push_n, AH.set_n]; first | done | omega)) only [go_sem, Nat.reduceEqDiff, Nat.reduceAdd, a2]
  refine ClS.by (given_cl (Nat.le_refl _) (hv.keep kk2) hsl hsr) ?_
  rintro x g3 ⟨⟨pl, pr, rfl, hp3, _, _⟩, hk3⟩
  have k3 := k2.trans hk3
  have kk3 := Gk.trans k3
  have n3 := k3.n
  have b3 := (k3.cells (i := h.n + 1) (by omega)).trans Gb
  simp (maxSteps := 10000000) (disch := first | omega | (simp only [AH.push_n, AH.set_n]; first | done | omega)) only [go_sem, Nat.reduceEqDiff, Nat.reduceAdd, b3]
  refine ClS.by (given_cl (Nat.le_trans hf kk3.n) (hu.keep kk3) htl htr) ?_
  rintro x g4 ⟨⟨ol, or, rfl, ho4, _, _⟩, hk4⟩
  have k4 := k3.trans hk4
  have kk4 := Gk.trans k4
  simp (maxSteps := 10000000) (disch := first | omega | (simp only [AH.push_n, AH.set_n]; first | done | omega)) only [go_sem, Nat.reduceEqDiff]
  refine ClS.by (pStack_cl (Nat.le_trans hf kk4.n) (hp3.keep hk4) ho4 ps.small os.small) ?_
  rintro x g5 ⟨⟨sv, rfl, hsv⟩, hk5⟩
  have k5 := k4.trans hk5
  have kk5 := Gk.trans k5
  have n5 := k5.n
  have hf5 : fl ≤ g5.n := Nat.le_trans hf kk5.n
  obtain ⟨sl, sr, hse, hsv'⟩ := hsv.form
  rw [hse]
  have s1 := hsv'.left.one
  have s2 := hsv'.right.one
  have a5 := (k5.cells (i := h.n) (by omega)).trans Ga
  simp (maxSteps := 10000000) (disch := first | omega | (simp only [AH.push_n, AH.set_n]; first | done | omega)) only [go_sem, Nat.reduceEqDiff, Nat.reduceAdd, s1.2, s2.2, a5]
  have hG : ∀ H : AH, H = (g5.push (.cells [.str [], .int .i64 0, .nilsl, .nilsl])).set g5.n (.cells [.str (stackRes p o).name, .int .i64 (stackRes p o).width, sl, sr]) →
      H.n = g5.n + 1 ∧ Keep g5 H ∧ H.cells g5.n = some [.str (stackRes p o).name, .int .i64 (stackRes p o).width, sl, sr] := by
    rintro H rfl
    exact ⟨rfl, ((Keep.refl g5).push _).set (Nat.le_refl _) _, AH.cells_set_eq⟩
  generalize (g5.push (.cells [.str [], .int .i64 0, .nilsl, .nilsl])).set g5.n (.cells [.str (stackRes p o).name, .int .i64 (stackRes p o).width, sl, sr]) = H at *
  obtain ⟨Hn, Hk, HA⟩ := hG H rfl
  clear hG
  generalize hAe : g5.n = A at *
  have kH := k5.trans Hk
  have kkH := Gk.trans kH
  have svH := hsv'.keep Hk
  refine ClS.by (given_cl (Nat.le_trans hf kkH.n) (hv.keep kkH) hsl hsr) ?_
  rintro x g6 ⟨⟨wl0, wr0, rfl, hp6, _, _⟩, hk6⟩
  have k6 := kH.trans hk6
  have kk6 := Gk.trans k6
  simp (maxSteps := 10000000) (disch := first | omega | (simp only [AH.push_n, AH.set_n]; first | done | omega)) only [go_sem, Nat.reduceEqDiff]
  refine ClS.by (pWiden_cl n2 (Nat.le_trans hf kk6.n) hp6 ps.small) ?_
  rintro x g7 ⟨⟨wv, rfl, hwv⟩, hk7⟩
  have k7 := k6.trans hk7
  have kk7 := Gk.trans k7
  have n7 := (hk6.trans hk7).n
  have hf7 : fl ≤ g7.n := Nat.le_trans hf kk7.n
  obtain ⟨wl, wr, hwe, hwv'⟩ := hwv.form
  rw [hwe]
  have t1 := hwv'.left.one
  have t2 := hwv'.right.one
  have A7 := ((hk6.trans hk7).cells (i := A) (by omega)).trans HA
  have a7 := (k7.cells (i := h.n) (by omega)).trans Ga
  have b7 := (k7.cells (i := h.n + 1) (by omega)).trans Gb
  simp (maxSteps := 10000000) (disch := first | omega | (simp only [AH.push_n, AH.set_n]; first | done | omega)) only [go_sem, Nat.reduceEqDiff, Nat.reduceAdd, t1.2, t2.2, a7]
  have hG : ∀ H : AH, H = (g7.push (.cells [.str [], .int .i64 0, .nilsl, .nilsl])).set g7.n (.cells [.str (widenRes p n2).name, .int .i64 (widenRes p n2).width, wl, wr]) →
      H.n = g7.n + 1 ∧ Keep g7 H ∧ H.cells g7.n = some [.str (widenRes p n2).name, .int .i64 (widenRes p n2).width, wl, wr] := by
    rintro H rfl
    exact ⟨rfl, ((Keep.refl g7).push _).set (Nat.le_refl _) _, AH.cells_set_eq⟩
  generalize (g7.push (.cells [.str [], .int .i64 0, .nilsl, .nilsl])).set g7.n (.cells [.str (widenRes p n2).name, .int .i64 (widenRes p n2).width, wl, wr]) = I at *
  obtain ⟨In, Ik, IB⟩ := hG I rfl
  clear hG
  rw [← In]
  have hBe : g7.n = I.n - 1 := by omega
  generalize hBe2 : g7.n = B at *
  have kI := k7.trans Ik
  have kkI := Gk.trans kI
  have svI := svH.keep ((hk6.trans hk7).trans Ik)
  have wvI := hwv'.keep Ik
  have AI := (Ik.cells (i := A) (by omega)).trans A7
  have bI := (Ik.cells (i := h.n + 1) (by omega)).trans b7
  refine ClS.by (refCheckPanel_cl (Nat.le_refl _) (hv.keep kkI) ps.small) ?_
  rintro x g8 ⟨rfl, hk8⟩
  have n8 := hk8.n
  have b8 := (hk8.cells (i := h.n + 1) (by omega)).trans bI
  simp (maxSteps := 10000000) (disch := first | omega | (simp only [AH.push_n, AH.set_n]; first | done | omega)) only [go_sem, Nat.reduceEqDiff, Nat.reduceAdd, b8]
  refine ClS.by (refCheckPanel_cl (Nat.le_trans hf (kkI.trans hk8).n) (hu.keep (kkI.trans hk8)) os.small) ?_
  rintro x g9 ⟨rfl, hk9⟩
  simp (maxSteps := 10000000) (disch := first | omega | (simp only [AH.push_n, AH.set_n]; first | done | omega)) only [go_sem, Nat.reduceEqDiff, Nat.reduceAdd, Nat.reduceLeDiff]
  refine ClS.by (lawFirst_cl (Vw.new (E := IntE) (g := g9) [panelErr p, panelErr o]) (by simp)) ?_
  rintro x g ⟨rfl, rfl⟩
  have hE : encs IntE [panelErr p, panelErr o] = [.int .i64 (panelErr p), .int .i64 (panelErr o)] := rfl
  try rw [hE]
  have k10 : Keep I (g9.push (.cells [.int .i64 (panelErr p), .int .i64 (panelErr o)])) := (hk8.trans hk9).push _
  generalize g9.push (.cells [.int .i64 (panelErr p), .int .i64 (panelErr o)]) = g10 at *
  rw [show firstErr [panelErr p, panelErr o] = bothErr p o from rfl]
  have n10 := k10.n
  have a10 := ((kI.trans k10).cells (i := h.n) (by omega)).trans Ga
  simp (maxSteps := 10000000) (disch := first | omega | (simp only [AH.push_n, AH.set_n]; first | done | omega)) only [go_sem, Nat.reduceEqDiff, Nat.reduceAdd, a10]
  refine ClS.by (refCheckPanel_cl (Nat.le_trans hf (kkI.trans k10).n) (hv.keep (kkI.trans k10)) ps.small) ?_
  rintro x g11 ⟨rfl, hk11⟩
  simp (maxSteps := 10000000) (disch := first | omega | (simp only [AH.push_n, AH.set_n]; first | done | omega)) only [go_sem, Nat.reduceEqDiff, Int.reduceNeg]
  refine ClS.by (checkRange_cl n2 (-128) 128) ?_
  rintro x g ⟨rfl, rfl⟩
  simp (maxSteps := 10000000) (disch := first | omega | (simp only [AH.push_n, AH.set_n]; first | done | omega)) only [go_sem, Nat.reduceEqDiff, Nat.reduceAdd, Nat.reduceLeDiff, Int.reduceNeg]
  refine ClS.by (lawFirst_cl (Vw.new (E := IntE) (g := g11) [panelErr p, rangeErr n2 (-128) 128]) (by simp)) ?_
  rintro x g ⟨rfl, rfl⟩
  have hE2 : encs IntE [panelErr p, rangeErr n2 (-128) 128] = [.int .i64 (panelErr p), .int .i64 (rangeErr n2 (-128) 128)] := rfl
  try rw [hE2]
  have k12 : Keep I (g11.push (.cells [.int .i64 (panelErr p), .int .i64 (rangeErr n2 (-128) 128)])) := (k10.trans hk11).push _
  generalize g11.push (.cells [.int .i64 (panelErr p), .int .i64 (rangeErr n2 (-128) 128)]) = g12 at *
  rw [show firstErr [panelErr p, rangeErr n2 (-128) 128] = byErr p n2 from rfl]
  have n12 := k12.n
  have a12 := ((kI.trans k12).cells (i := h.n) (by omega)).trans Ga
  have hf12 : fl ≤ g12.n := Nat.le_trans hf (kkI.trans k12).n
  simp (maxSteps := 10000000) (disch := first | omega | (simp only [AH.push_n, AH.set_n]; first | done | omega)) only [go_sem, Nat.reduceEqDiff, Nat.reduceAdd, Int.reduceNeg, a12, hlc.2, hrc.2]
  have hG : ∀ J : AH, J = ((g12.push (.cells [.str [], .int .i64 0, .nilsl, .nilsl])).push (.cells [.str [], .int .i64 0, .nilsl, .nilsl])).set (g12.n + 1) (.cells [.str p.name, .int .i64 p.width, l, r]) →
      J.n = g12.n + 2 ∧ Keep g12 J ∧ J.cells g12.n = some [.str [], .int .i64 0, .nilsl, .nilsl] ∧ J.cells (g12.n + 1) = some [.str p.name, .int .i64 p.width, l, r] := by
    rintro J rfl
    refine ⟨rfl, (((Keep.refl g12).push _).push _).set (by omega) _, ?_, AH.cells_set_eq⟩
    simp (maxSteps := 10000000) (disch := first | omega | (simp only [AH.push_n, AH.set_n]; first | done | omega)) only [go_sem]
  generalize ((g12.push (.cells [.str [], .int .i64 0, .nilsl, .nilsl])).push (.cells [.str [], .int .i64 0, .nilsl, .nilsl])).set (g12.n + 1) (.cells [.str p.name, .int .i64 p.width, l, r]) = J at *
  obtain ⟨Jn, Jk, JC, JD⟩ := hG J rfl
  clear hG
  generalize hCe : g12.n = C at *
  have kJ := k12.trans Jk
  have kkJ := kkI.trans kJ
  have nJ := kJ.n
  have aJ := ((kI.trans kJ).cells (i := h.n) (by omega)).trans Ga
  have bJ := ((kI.trans kJ).cells (i := h.n + 1) (by omega)).trans Gb
  have hAI : A < I.n := by omega
  have hfC : fl ≤ C := by omega
  refine condS_cut (fun ts g => ∃ e Q cl cr, Fit (stackErr p o) (stackRes p o) e Q ∧ Keep I g ∧ C + 1 < g.n ∧ g.cells C = some [.str Q.name, .int .i64 Q.width, cl, cr] ∧ PV g cl cr Q ∧ Off cl (C + 1) ∧ Off cr (C + 1) ∧ g.cells (C + 1) = some [.str p.name, .int .i64 p.width, l, r] ∧
    tg ts 2 = .int .i64 n2 ∧ tg ts 3 = .ptr h.n 0 ∧ tg ts 7 = .ptr A 0 ∧ tg ts 8 = .int .i64 (stackErr p o) ∧ tg ts 9 = .ptr B 0 ∧ tg ts 10 = .int .i64 (widenErr p n2) ∧ tg ts 11 = .int .i64 e ∧ tg ts 12 = .int .i64 (byErr p n2) ∧ tg ts 13 = .ptr C 0 ∧ tg ts 14 = .ptr (C + 1) 0) ?_ ?_
  · by_cases he : bothErr p o = 0
    case neg =>
      have e1 : stackErr p o = bothErr p o := by unfold stackErr; rw [if_pos he]
      have e2 : stackRes p o = noPanel := by unfold stackRes; rw [if_neg (fun x => he x.1)]
      simp (maxSteps := 10000000) (disch := first | omega | (simp only [AH.push_n, AH.set_n]; first | done | omega)) only [go_sem, Nat.reduceEqDiff, Int.reduceNeg, he]
      exact ⟨bothErr p o, noPanel, .nilsl, .nilsl, Fit.bad he e2 e1, kJ, by omega, JC, ⟨Vw.nil, Vw.nil⟩, Off.of_nil, Off.of_nil, JD, rfl⟩
    obtain ⟨ep, eo⟩ := bothErr_ok he
    have op := pok ep
    have oo := pok eo
    simp (maxSteps := 10000000) (disch := first | omega | (simp only [AH.push_n, AH.set_n]; first | done | omega)) only [go_sem, Nat.reduceEqDiff, Nat.reduceAdd, Int.reduceNeg, he, aJ, bJ]
    refine ClS.by (refStack_cl (Nat.le_trans hf kkJ.n) (hv.keep kkJ) (hu.keep kkJ) op.ok oo.ok) ?_
    rintro x g13 ⟨⟨ql, qr, rfl, hq, oql, oqr⟩, hk13⟩
    have n13 := hk13.n
    have C13 := (hk13.cells (i := C) (by omega)).trans JC
    have D13 := (hk13.cells (i := C + 1) (by omega)).trans JD
    have q1 := hq.left.one
    have q2 := hq.right.one
    simp (maxSteps := 10000000) (disch := first | omega | (simp only [AH.push_n, AH.set_n]; first | done | omega)) only [go_sem, Nat.reduceEqDiff, Nat.reduceAdd, Int.reduceNeg, C13, q1.2, q2.2]
    refine ClS.by (lawWhen_cl _ 24) ?_
    rintro x g ⟨rfl, rfl⟩
    have ks := Keep.set (kJ.trans hk13) (j := C) (by omega)
    have hq' : ∀ X, PV (g13.set C X) ql qr (stackOf p o) := fun X => ⟨hq.left.set _ (oql.off (by omega)), hq.right.set _ (oqr.off (by omega))⟩
    have hD : ∀ X, (g13.set C X).cells (C + 1) = some [.str p.name, .int .i64 p.width, l, r] := fun X => (AH.cells_set_ne (by omega)).trans D13
    by_cases hg : topGap p = 2 * o.width
    · have e1 : stackErr p o = panelErr (stackOf p o) := by unfold stackErr; rw [if_neg (by omega), if_neg (by simpa using hg)]
      have e2 : stackRes p o = pieceOf (stackOf p o) := by unfold stackRes; rw [if_pos ⟨he, hg⟩]
      have hw : whenErr (!decide (topGap p = 2 * o.width)) 24 = 0 := by simp [whenErr, hg]
      rw [hw]
      simp (maxSteps := 10000000) (disch := first | omega | (simp only [AH.push_n, AH.set_n]; first | done | omega)) only [go_sem, Nat.reduceEqDiff, Int.reduceNeg]
      exact ⟨0, stackOf p o, ql, qr, Fit.ok rfl e2 e1 (ps.small.stack os.small) (by simp only [stackOf, List.length_append]; omega) (by simp only [stackOf, List.length_append]; omega), ks _, by omega, ⟨rfl, rfl, rfl, rfl⟩, hq' _, oql.off (by omega), oqr.off (by omega), D13, rfl⟩
    · have e1 : stackErr p o = 24 := by unfold stackErr; rw [if_neg (by omega), if_pos hg]
      have e2 : stackRes p o = noPanel := by unfold stackRes; rw [if_neg (fun x => hg x.2)]
      have hw : whenErr (!decide (topGap p = 2 * o.width)) 24 = 24 := by simp [whenErr, hg]
      rw [hw]
      simp (maxSteps := 10000000) (disch := first | omega | (simp only [AH.push_n, AH.set_n]; first | done | omega)) only [go_sem, Nat.reduceEqDiff, Int.reduceNeg]
      exact ⟨24, stackOf p o, ql, qr, Fit.bad (by decide) e2 e1, ks _, by omega, ⟨rfl, rfl, rfl, rfl⟩, hq' _, oql.off (by omega), oqr.off (by omega), D13, rfl⟩
  rintro ts g ⟨e, Q, cl, cr, hfit, kg, ng, gC, hQ, ocl, ocr, gD, t2, t3, t7, t8, t9, t10, t11, t12, t13, t14⟩
  have kkg := kkI.trans kg
  have ag := ((kI.trans kg).cells (i := h.n) (by omega)).trans Ga
  simp (maxSteps := 10000000) (disch := first | omega | (simp only [AH.push_n, AH.set_n]; first | done | omega)) only [go_sem, t12]
  refine condS_cut (fun ts g' => ∃ Q2, Fit (widenErr p n2) (widenRes p n2) (byErr p n2) Q2 ∧ Keep I g' ∧ C + 1 < g'.n ∧ g'.cells C = some [.str Q.name, .int .i64 Q.width, cl, cr] ∧ PV g' cl cr Q ∧ g'.cells (C + 1) = some [.str Q2.name, .int .i64 Q2.width, l, r] ∧ PV g' l r Q2 ∧
    tg ts 7 = .ptr A 0 ∧ tg ts 8 = .int .i64 (stackErr p o) ∧ tg ts 9 = .ptr B 0 ∧ tg ts 10 = .int .i64 (widenErr p n2) ∧ tg ts 11 = .int .i64 e ∧ tg ts 12 = .int .i64 (byErr p n2) ∧ tg ts 13 = .ptr C 0 ∧ tg ts 14 = .ptr (C + 1) 0) ?_ ?_
  · by_cases he : byErr p n2 = 0
    case neg =>
      have e1 : widenErr p n2 = byErr p n2 := by unfold widenErr; rw [if_neg he]
      have e2 : widenRes p n2 = noPanel := by unfold widenRes; rw [if_neg he]
      simp (maxSteps := 10000000) (disch := first | omega | (simp only [AH.push_n, AH.set_n]; first | done | omega)) only [go_sem, Nat.reduceEqDiff, he, t7, t8, t9, t10, t11, t12, t13, t14]
      exact ⟨p, Fit.bad he e2 e1, kg, ng, gC, hQ, gD, hv.keep kkg⟩
    obtain ⟨ep, hb1, hb2⟩ := byErr_ok he
    have op := pok ep
    have hw := op.ok.width
    have e1 : widenErr p n2 = panelErr (widenOf p n2) := by unfold widenErr; rw [if_pos he]
    have e2 : widenRes p n2 = pieceOf (widenOf p n2) := by unfold widenRes; rw [if_pos he]
    have hfC1 : fl ≤ C + 1 := by omega
    simp (maxSteps := 10000000) (disch := first | omega | (simp only [AH.push_n, AH.set_n]; first | done | omega)) only [go_sem, Nat.reduceEqDiff, Nat.reduceAdd, Nat.reduceLeDiff, he, t2, t3, t7, t8, t9, t10, t11, t12, t13, t14, ag, gD]
    have hvg := hv.keep kkg
    have ofl : ∀ i, addrId l = some i → i ≠ C + 1 := fun i e => by have := hv.left.lt e; omega
    have ofr : ∀ i, addrId r = some i → i ≠ C + 1 := fun i e => by have := hv.right.lt e; omega
    have ks := Keep.set kg (j := C + 1) (by omega)
    exact ⟨widenOf p n2, Fit.ok rfl e2 e1 (ps.small.widen n2) (by simp only [widenOf]; omega) (by simp only [widenOf]; omega), ks _, ng, gC, ⟨hQ.left.set _ ocl, hQ.right.set _ ocr⟩, ⟨rfl, rfl⟩, ⟨hvg.left.set _ fun e => ofl _ e rfl, hvg.right.set _ fun e => ofr _ e rfl⟩⟩
  clear t2 t3 t7 t8 t9 t10 t11 t12 t13 t14
  rintro ts g' ⟨Q2, hfit2, kg', ng', gC', hQ', gD', hQ2, t7, t8, t9, t10, t11, t12, t13, t14⟩
  have Ag := (kg'.cells (i := A) (by omega)).trans AI
  have Bg := (kg'.cells (i := B) (by omega)).trans IB
  have svg : PV g' sl sr (stackRes p o) := svI.keep kg'
  have wvg : PV g' wl wr (widenRes p n2) := wvI.keep kg'
  simp (maxSteps := 10000000) (disch := first | omega | (simp only [AH.push_n, AH.set_n]; first | done | omega)) only [go_sem, Nat.reduceEqDiff, Nat.reduceAdd, t7, t8, t11, t13, Ag, gC']
  refine ClS.by (piece_cl hfit (Nat.le_trans hf (kkI.trans kg').n) svg.pa hQ'.pa) ?_
  rintro x g14 ⟨rfl, hk14⟩
  have Bg4 := (hk14.cells (i := B) (by omega)).trans Bg
  have Dg4 := (hk14.cells (i := C + 1) (by omega)).trans gD'
  simp (maxSteps := 10000000) (disch := first | omega | (simp only [AH.push_n, AH.set_n]; first | done | omega)) only [go_sem, Nat.reduceEqDiff, Nat.reduceAdd, t9, t10, t12, t14, Bg4, Dg4]
  refine ClS.by (piece_cl hfit2 (Nat.le_trans hf ((kkI.trans kg').trans hk14).n) (wvg.keep hk14).pa (hQ2.keep hk14).pa) ?_
  rintro x g15 ⟨rfl, hk15⟩
  simp (maxSteps := 10000000) (disch := first | omega | (simp only [AH.push_n, AH.set_n]; first | done | omega)) only [go_sem, Nat.reduceEqDiff]
end Go.Proofs.YtndlfkibcelhmaaGreatDoor.Ai
end
