/- What the functions come to, in the evaluator. -/
import Derived.Test.YtndlfkibcelhmaaGreatDoorC0
set_option linter.all false
section
namespace Go.Proofs.YtndlfkibcelhmaaGreatDoor.Ai
open Go
set_option maxRecDepth 10000
set_option maxHeartbeats 4000000
set_option linter.all false
set_option pp.maxSteps 1200

def encM (l : List (Int × Int)) : List (AVal × AVal) := l.map fun e => (.int .u8 e.1, .int .i64 e.2)
def lkI : List (Int × Int) → Int → Option Int
  | [], _ => none
  | (c, v) :: l, x => if x = c then some v else lkI l x
def putI : List (Int × Int) → Int → Int → List (Int × Int)
  | [], c, v => [(c, v)]
  | (c', v') :: l, c, v => if c = c' then (c, v) :: l else (c', v') :: putI l c v
def cntM (l : List (Int × Int)) (c : Int) : Int := (lkI l c).getD 0
theorem eqA_u8 (a b : Int) : eqA ⟨false, [.i]⟩ (.int .u8 a) (.int .u8 b) = some (decide (a = b)) := by
  simp only [eqA_one]
  simp [eqS, eqK, eqI]
theorem findA_enc (c : Int) : ∀ l, findA ⟨false, [.i]⟩ (.int .u8 c) (encM l) = some ((lkI l c).map fun v => .int .i64 v)
  | [] => rfl
  | (c', v') :: l => by
    simp only [encM, List.map_cons, findA, eqA_u8, lkI]
    by_cases e : c = c'
    · simp [e]
    · simp only [e, decide_false, if_false]
      exact findA_enc c l
theorem putA_enc (c v : Int) : ∀ l, putA ⟨false, [.i]⟩ (.int .u8 c) (.int .i64 v) (encM l) = some (encM (putI l c v))
  | [] => rfl
  | (c', v') :: l => by
    simp only [encM, List.map_cons, putA, eqA_u8, putI]
    by_cases e : c = c'
    · simp [e]
    · simp only [e, decide_false, if_false]
      have := putA_enc c v l
      unfold encM at this
      rw [this]; rfl
theorem lk_put (c v x : Int) : ∀ l, lkI (putI l c v) x = if x = c then some v else lkI l x
  | [] => by simp [putI, lkI]
  | (c', v') :: l => by
    simp only [putI]
    by_cases e : c = c'
    · subst e; simp only [if_true, lkI]; split <;> rfl
    · simp only [e, if_false, lkI, lk_put c v x l]
      by_cases e1 : x = c'
      · rw [if_pos e1, if_neg (by omega), if_pos e1]
      · rw [if_neg e1, if_neg e1]
theorem cntM_put (l : List (Int × Int)) (c v x : Int) : cntM (putI l c v) x = if x = c then v else cntM l x := by
  unfold cntM; rw [lk_put]; split <;> rfl
theorem lookup_cnt {g : AH} {M : Nat} {l : List (Int × Int)} (hM : g.get M = some (.map (encM l))) (c : Int) : lookupA ⟨false, [.i]⟩ (.int .i64 0) false g (.map M) (.int .u8 c) = some (.int .i64 (cntM l c)) := by
  unfold lookupA
  simp only [eqA_u8, entsOf, hM, findA_enc, cond_false]
  unfold cntM
  cases lkI l c <;> rfl
theorem upd_cnt {fl : Nat} {g : AH} {M : Nat} {l : List (Int × Int)} (hM : g.get M = some (.map (encM l))) (hfl : fl ≤ M) (c v : Int) : mapUpdA fl ⟨false, [.i]⟩ g (.map M) (.int .u8 c) (.int .i64 v) = some (g.set M (.map (encM (putI l c v)))) := by
  unfold mapUpdA
  simp only [eqA_u8, hM, nble, hfl, decide_true, cond_true, putA_enc, Option.map_some]

def cnt (c : Int) : List Sp → Int
  | [] => 0
  | s :: l => (if (s.c : Int) = c then 1 else 0) + cnt c l
theorem cnt_app (c : Int) : ∀ a b, cnt c (a ++ b) = cnt c a + cnt c b
  | [], b => by simp [cnt]
  | s :: a, b => by simp only [List.cons_append, cnt, cnt_app c a b]; omega
theorem cnt_snoc (c : Int) (l : List Sp) (k : Nat) (hk : k < l.length) : cnt c (l.take (k + 1)) = cnt c (l.take k) + (if (l[k].c : Int) = c then 1 else 0) := by
  rw [List.take_succ_eq_append_getElem hk, cnt_app]; simp [cnt]
theorem cnt_bd (c : Int) : ∀ l : List Sp, 0 ≤ cnt c l ∧ cnt c l ≤ l.length
  | [] => by simp [cnt]
  | s :: l => by have := cnt_bd c l; simp only [cnt, List.length_cons]; split <;> omega

structure LetI (base : AH) (l0 : ALoop) (id b M : Nat) (m0 : List (Int × Int)) (S : List Sp) (k : Nat) (g : AH) : Prop where
  n : base.n ≤ g.n
  loop : g.get id = some (.loop l0)
  map : ∃ l, g.get M = some (.map (encM l)) ∧ ∀ c, cntM l c = cntM m0 c + cnt c (S.take k)
  old : ∀ j, j < base.n → j ≠ M → j ≠ id → g.get j = base.get j

theorem letters_visits {fl : Nat} {base : AH} {tm : Tm} {id b M : Nat} {m0 : List (Int × Int)} {S : List Sp} (hfM : fl ≤ M) (hfi : fl ≤ id) (hMi : M < id) (hbi : b < id) (hbM : b ≠ M) (hib : id < base.n) (t5 : tg tm 5 = .ptr b 0) (hb : base.cells b = some [.map M])
    (hm : ∀ c, 0 ≤ cntM m0 c ∧ cntM m0 c ≤ 100000) (hS : S.length ≤ 1000) :
    Visits fl id S (LetI base ⟨.ready, .none, tm, [28], (.region [oo 8 (.alloc [.int .u8 0, .bool false]), ⟨none, .store 2 (.t 8) (.t 28), none⟩]), (.block 3 (.region [oo 29 (.load 1 false (.t 5)), oo 30 (.fieldAddr 0 (.t 8)), oo 31 (.load 1 false (.t 30)), ⟨some 32, .lookup ⟨false, [.i]⟩ (.int .i64 0) false (.t 29) (.t 31), none⟩, oo 33 (.bin .add .num (.t 32) (ci 1)), ⟨none, .mapUpd ⟨false, [.i]⟩ (.t 29) (.t 31) (.t 33), none⟩]))⟩ id b M m0 S) (fun _ j => j = M ∨ j = id) where
  keep k h' h'' x hk := ⟨Nat.le_trans x.n hk.n, (hk.get _ (by have := x.n; omega)).trans x.loop, by
    obtain ⟨l, h1, h2⟩ := x.map
    exact ⟨l, (hk.get _ (by have := x.n; omega)).trans h1, h2⟩, fun j h1 h2 h3 => (hk.get j (by have := x.n; omega)).trans (x.old j h1 h2 h3)⟩
  fl k h' x := by have := x.n; omega
  frame k h' h'' x hk j hj := ⟨by have := x.n; rcases hj with rfl | rfl <;> omega, hj⟩
  step k g x hk := by
    have hn := x.n
    have hloop := x.loop
    have hbg : g.cells b = some [.map M] := (AH.cells_congr (x.old b (by omega) hbM (by omega))).trans hb
    obtain ⟨l, hM, hc⟩ := x.map
    have hcs := fun c => cnt_snoc c S k hk
    have hcb := cnt_bd S[k].c (S.take k)
    rw [List.length_take] at hcb
    have hcc := hc S[k].c
    have hmm := hm S[k].c
    refine Yl.code hfi hloop rfl ?_
    have hfg : fl ≤ g.n := by omega
    have hMg : M < g.n := by omega
    have hig : id < g.n := by omega
    have hbg2 : b < g.n := by omega
    simp (maxSteps := 10000000) (disch := first | omega | (simp only [AH.push_n, AH.set_n]; first | done | omega)) only [go_sem, Nat.reduceEqDiff, Nat.reduceAdd, t5, hloop, hbg]
    generalize hL : (⟨.busy, .none, tm, [28], (.region [oo 8 (.alloc [.int .u8 0, .bool false]), ⟨none, .store 2 (.t 8) (.t 28), none⟩]), (.block 3 (.region [oo 29 (.load 1 false (.t 5)), oo 30 (.fieldAddr 0 (.t 8)), oo 31 (.load 1 false (.t 30)), ⟨some 32, .lookup ⟨false, [.i]⟩ (.int .i64 0) false (.t 29) (.t 31), none⟩, oo 33 (.bin .add .num (.t 32) (ci 1)), ⟨none, .mapUpd ⟨false, [.i]⟩ (.t 29) (.t 31) (.t 33), none⟩]))⟩ : ALoop) = lb at *
    have M1 : (((g.push (.cells [.int .u8 0, .bool false])).set g.n (.cells [.int .u8 S[k].c, .bool S[k].o])).set id (.loop lb)).get M = some (.map (encM l)) := by
      rw [AH.get_set_ne (by omega), AH.get_set_ne (by omega), AH.get_push_lt (by omega)]; exact hM
    have hl1 := lookup_cnt M1 S[k].c
    have hw : wrapK .i64 (cntM l S[k].c + 1) = cntM l S[k].c + 1 := wrapK_i64 (by omega) (by omega)
    have hu1 := upd_cnt M1 hfM S[k].c (cntM l S[k].c + 1)
    simp (maxSteps := 10000000) (disch := first | omega | (simp only [AH.push_n, AH.set_n]; first | done | omega)) only [go_sem, Nat.reduceEqDiff, hl1, hw, hu1]
    subst hL
    have hMi' : id ≠ M := by omega
    simp (maxSteps := 10000000) (disch := first | omega | (simp only [AH.push_n, AH.set_n]; first | done | omega)) only [go_sem]
    refine ⟨⟨by simp; omega, AH.get_set_eq, ⟨_, (AH.get_set_ne (by omega)).trans AH.get_set_eq, fun c => ?_⟩, fun j h1 h2 h3 => ?_⟩, by omega, fun j hj hf => ⟨?_, hf⟩⟩
    · rw [cntM_put, hcs c, hc c]
      by_cases e : c = S[k].c
      · subst e; rw [if_pos rfl, if_pos rfl, hcc]; omega
      · rw [if_neg e, if_neg (by omega)]; omega
    · rw [AH.get_set_ne h3, AH.get_set_ne h2, AH.get_set_ne h3, AH.get_set_ne (by omega), AH.get_push_lt (by omega)]; exact x.old j h1 h2 h3
    · have h2 : j ≠ M := fun e => hf (.inl e)
      have h3 : j ≠ id := fun e => hf (.inr e)
      rw [AH.get_set_ne h3, AH.get_set_ne h2, AH.get_set_ne h3, AH.get_set_ne (by omega), AH.get_push_lt (by omega)]
theorem cells_of_map {g : AH} {M : Nat} {l : List (AVal × AVal)} (h : g.get M = some (.map l)) {i : Nat} {vs : List AVal} (hc : g.cells i = some vs) : i ≠ M := by
  rintro rfl
  rw [AH.cells_get, h] at hc
  cases hc
theorem lettersLoop_cl {fl : Nat} {g : AH} {tm : Tm} {v : AVal} {es : List Ed} {b bx M : Nat} {l : List (Int × Int)} (hfM : fl ≤ M) (hfg : fl ≤ g.n) (hMg : M < g.n) (hbg : b < g.n) (hb : g.cells b = some [.map M]) (hM : g.get M = some (.map (encM l))) (hm : ∀ c, 0 ≤ cntM l c ∧ cntM l c ≤ 100000)
    (hv : Vw EdE g v es) (fit : SideFit es) (t5 : tg tm 5 = .ptr b 0) (hbx : g.cells bx = some [v]) (hbxg : bx < g.n) :
    Cl T fl 180 [.yld g.n, .ptr bx 0] (g.push (.loop ⟨.ready, .none, tm, [28], (.region [oo 8 (.alloc [.int .u8 0, .bool false]), ⟨none, .store 2 (.t 8) (.t 28), none⟩]), (.block 3 (.region [oo 29 (.load 1 false (.t 5)), oo 30 (.fieldAddr 0 (.t 8)), oo 31 (.load 1 false (.t 30)), ⟨some 32, .lookup ⟨false, [.i]⟩ (.int .i64 0) false (.t 29) (.t 31), none⟩, oo 33 (.bin .add .num (.t 32) (ci 1)), ⟨none, .mapUpd ⟨false, [.i]⟩ (.t 29) (.t 31) (.t 33), none⟩]))⟩)) fun _ h' =>
      LetI (g.push (.loop ⟨.ready, .none, tm, [28], (.region [oo 8 (.alloc [.int .u8 0, .bool false]), ⟨none, .store 2 (.t 8) (.t 28), none⟩]), (.block 3 (.region [oo 29 (.load 1 false (.t 5)), oo 30 (.fieldAddr 0 (.t 8)), oo 31 (.load 1 false (.t 30)), ⟨some 32, .lookup ⟨false, [.i]⟩ (.int .i64 0) false (.t 29) (.t 31), none⟩, oo 33 (.bin .add .num (.t 32) (ci 1)), ⟨none, .mapUpd ⟨false, [.i]⟩ (.t 29) (.t 31) (.t 33), none⟩]))⟩)) ⟨.ready, .none, tm, [28], (.region [oo 8 (.alloc [.int .u8 0, .bool false]), ⟨none, .store 2 (.t 8) (.t 28), none⟩]), (.block 3 (.region [oo 29 (.load 1 false (.t 5)), oo 30 (.fieldAddr 0 (.t 8)), oo 31 (.load 1 false (.t 30)), ⟨some 32, .lookup ⟨false, [.i]⟩ (.int .i64 0) false (.t 29) (.t 31), none⟩, oo 33 (.bin .add .num (.t 32) (ci 1)), ⟨none, .mapUpd ⟨false, [.i]⟩ (.t 29) (.t 31) (.t 33), none⟩]))⟩ g.n b M l (stepsOf es) (stepsOf es).length h' := by
  have hst := fit.steps
  have hvx : ∀ i, addrId v = some i → i ≠ M := fun i e => by
    cases v <;> first | exact hv.elim | cases e
    obtain ⟨_, _, _, vs, h4, _⟩ := hv
    exact cells_of_map hM h4
  refine Cl.mono (lettersVisit_cl (letters_visits (base := g.push (.loop ⟨.ready, .none, tm, [28], (.region [oo 8 (.alloc [.int .u8 0, .bool false]), ⟨none, .store 2 (.t 8) (.t 28), none⟩]), (.block 3 (.region [oo 29 (.load 1 false (.t 5)), oo 30 (.fieldAddr 0 (.t 8)), oo 31 (.load 1 false (.t 30)), ⟨some 32, .lookup ⟨false, [.i]⟩ (.int .i64 0) false (.t 29) (.t 31), none⟩, oo 33 (.bin .add .num (.t 32) (ci 1)), ⟨none, .mapUpd ⟨false, [.i]⟩ (.t 29) (.t 31) (.t 33), none⟩]))⟩)) (m0 := l) (S := stepsOf es) hfM hfg hMg hbg (cells_of_map hM hb) (by simp) t5 (by rw [AH.cells_push_lt hbg]; exact hb) hm (by omega)) ?_ (hv.push _) (by rw [AH.cells_push_lt hbxg]; exact hbx) (by simp; omega) ?_ ?_ fit.len fit.times fit.words) fun _ _ x => x.1
  · exact ⟨Nat.le_refl _, AH.get_push_eq rfl, ⟨l, (AH.get_push_lt hMg).trans hM, fun c => by simp [cnt]⟩, fun j h1 h2 h3 => rfl⟩
  · rintro (e | e)
    · exact cells_of_map hM hbx e
    · omega
  · rintro i e (h | h)
    · exact hvx i e h
    · have := hv.lt e; omega
end Go.Proofs.YtndlfkibcelhmaaGreatDoor.Ai
end
section
namespace Go.Proofs.YtndlfkibcelhmaaGreatDoor.Ai
open Go
set_option maxRecDepth 10000
set_option maxHeartbeats 4000000
set_option linter.all false
set_option pp.maxSteps 1200

def stepsBoth (p : Pn) : List Sp := stepsOf p.left ++ stepsOf p.right
def letters3 (p : Pn) : List Int := [cnt 78 (stepsBoth p), cnt 66 (stepsBoth p), cnt 84 (stepsBoth p)]
theorem cntM_nil (c : Int) : cntM [] c = 0 := rfl

theorem pLetters_cl {fl : Nat} {h : AH} {l r : AVal} {p : Pn} (hf : fl ≤ h.n) (hv : PV h l r p) (hs : PSmall p) :
    Cl T fl 62 [.agg [.str p.name, .int .i64 p.width, l, r]] h fun x h' => x = .tuple [.agg (intsA (if panelErr p = 0 then letters3 p else [0, 0, 0])), .int .i64 (panelErr p)] ∧ Keep h h' := by
  refine Cl.code (fn := F62) rfl rfl ?_
  simp only [F62]
  have hlc := hv.left.one
  have hrc := hv.right.one
  have k0 : Keep h ((h.push (.cells [.str p.name, .int .i64 p.width, l, r])).push (.cells [.int .i64 0, .int .i64 0, .int .i64 0])) := ((Keep.refl h).push _).push _
  have c0 : ((h.push (.cells [.str p.name, .int .i64 p.width, l, r])).push (.cells [.int .i64 0, .int .i64 0, .int .i64 0])).cells h.n = some [.str p.name, .int .i64 p.width, l, r] := by simp (maxSteps := 10000000) (disch := first | omega | (simp only [AH.push_n, AH.set_n]; first | done | omega)) only [go_sem]
  have d0 : ((h.push (.cells [.str p.name, .int .i64 p.width, l, r])).push (.cells [.int .i64 0, .int .i64 0, .int .i64 0])).cells (h.n + 1) = some [.int .i64 0, .int .i64 0, .int .i64 0] := by simp (maxSteps := 10000000) (disch := first | omega | (simp only [AH.push_n, AH.set_n]; first | done | omega)) only [go_sem]
  have n0 : h.n + 1 < ((h.push (.cells [.str p.name, .int .i64 p.width, l, r])).push (.cells [.int .i64 0, .int .i64 0, .int .i64 0])).n := by simp
  simp (maxSteps := 10000000) (disch := first | omega | (simp only [AH.push_n, AH.set_n]; first | done | omega)) only [go_sem, Nat.reduceEqDiff, Nat.reduceAdd]
  generalize (h.push (.cells [.str p.name, .int .i64 p.width, l, r])).push (.cells [.int .i64 0, .int .i64 0, .int .i64 0]) = g0 at *
  refine ClS.by (pCheckPanel_cl (Nat.le_trans hf k0.n) (hv.keep k0) hs) ?_
  rintro x g1 ⟨rfl, hk1⟩
  have k1 := k0.trans hk1
  have n1 := Nat.lt_of_lt_of_le n0 hk1.n
  have c1 := (hk1.cells (i := h.n) (by omega)).trans c0
  have d1 := (hk1.cells n0).trans d0
  by_cases he : panelErr p = 0
  case neg =>
    simp (maxSteps := 10000000) (disch := first | omega | (simp only [AH.push_n, AH.set_n]; first | done | omega)) only [go_sem, Nat.reduceEqDiff, Nat.reduceAdd, he, d1]
    exact ⟨rfl, k1.set (by omega) _⟩
  have o := pok he
  have hf1 : fl ≤ g1.n := Nat.le_trans hf k1.n
  simp (maxSteps := 10000000) (disch := first | omega | (simp only [AH.push_n, AH.set_n]; first | done | omega)) only [go_sem, Nat.reduceEqDiff, Nat.reduceAdd, Nat.reduceLeDiff, he, c1, hlc.1, hrc.1]
  have hG : ∀ G : AH, G = (((g1.push (.map [])).push (.cells [.nilmap])).set (g1.n + 1) (.cells [.map g1.n])).push (.cells [l, r]) →
      G.n = g1.n + 3 ∧ Keep g1 G ∧ G.get g1.n = some (.map (encM [])) ∧ G.cells (g1.n + 1) = some [.map g1.n] ∧ G.cells (g1.n + 2) = some [l, r] := by
    rintro G rfl
    refine ⟨rfl, ((((Keep.refl g1).push _).push _).set (by omega) _).push _, ?_, ?_, AH.cells_push_eq rfl⟩
    · rw [AH.get_push_lt (by simp; omega), AH.get_set_ne (by omega), AH.get_push_lt (by simp), AH.get_push_eq rfl]; rfl
    · rw [AH.cells_push_lt (by simp), AH.cells_set_eq]
  generalize (((g1.push (.map [])).push (.cells [.nilmap])).set (g1.n + 1) (.cells [.map g1.n])).push (.cells [l, r]) = G at *
  obtain ⟨Gn, Gk, GM, Gb, Ga⟩ := hG G rfl
  clear hG
  have e22 : ((2 : Nat) : Int) = 2 := rfl
  refine wS_unroll ?_
  simp (maxSteps := 10000000) (disch := first | omega | (simp only [AH.push_n, AH.set_n]; first | done | omega)) only [go_sem, Nat.reduceEqDiff, Nat.reduceLT, Int.reduceLT, Int.reduceToNat, Ga, e22]
  refine ClS.by (letters_cl l hlc.1) ?_
  rintro x g2 ⟨rfl, rfl⟩
  simp (maxSteps := 10000000) (disch := first | omega | (simp only [AH.push_n, AH.set_n]; first | done | omega)) only [go_sem]
  have k2 : Keep G (G.push (.cells [l])) := (Keep.refl G).push _
  have bx2 : (G.push (.cells [l])).cells G.n = some [l] := AH.cells_push_eq rfl
  have n2 : (G.push (.cells [l])).n = G.n + 1 := rfl
  generalize G.push (.cells [l]) = g2 at *
  have kg2 := k1.trans (Gk.trans k2)
  rw [← n2]
  refine ClS.by (lettersLoop_cl (g := g2) (v := l) (es := p.left) (b := g1.n + 1) (M := g1.n) (l := []) (by omega) (by omega) (by omega) (by omega) ((k2.cells (by omega)).trans Gb) ((k2.get g1.n (by omega)).trans GM) (fun c => by rw [cntM_nil]; omega) ((hv.keep kg2).left) o.ok.left.fit ?_ bx2 (by omega)) ?_
  · simp (maxSteps := 10000000) (disch := first | omega | (simp only [AH.push_n, AH.set_n]; first | done | omega)) only [go_sem, Nat.reduceEqDiff]
  rintro _ g3 hI
  have hloop := hI.loop
  have hn3 := hI.n
  simp only [AH.push_n] at hn3
  obtain ⟨m1, hM1, hc1⟩ := hI.map
  have old3 : ∀ j, j < g2.n → j ≠ g1.n → g3.get j = g2.get j := fun j h1 h2 => (hI.old j (by simp; omega) h2 (by omega)).trans (AH.get_push_lt h1)
  simp (maxSteps := 10000000) (disch := first | omega | (simp only [AH.push_n, AH.set_n]; first | done | omega)) only [go_sem, Nat.reduceEqDiff, Int.reduceAdd, hloop]
  have hkk : ∀ X, (g3.set g2.n X).n = g3.n := fun _ => rfl
  have M3 : ∀ X, (g3.set g2.n X).get g1.n = some (.map (encM m1)) := fun X => (AH.get_set_ne (by omega)).trans hM1
  have O3 : ∀ X j, j < g2.n → j ≠ g1.n → (g3.set g2.n X).get j = g2.get j := fun X j h1 h2 => (AH.get_set_ne (by omega)).trans (old3 j h1 h2)
  generalize hq3 : g3.set g2.n _ = q3
  have M3 := hq3 ▸ M3 _
  have O3 := fun j h1 h2 => hq3 ▸ O3 _ j h1 h2
  have hkk := hq3 ▸ hkk _
  have kq : Keep h q3 := ⟨by omega, fun j hj => (O3 j (by omega) (by omega)).trans (kg2.get j hj)⟩
  have hf3 : fl ≤ q3.n := Nat.le_trans hf kq.n
  have b3 : q3.cells (g1.n + 1) = some [.map g1.n] := (AH.cells_congr (O3 _ (by omega) (by omega))).trans ((k2.cells (by omega)).trans Gb)
  have a3 : q3.cells (g1.n + 2) = some [l, r] := (AH.cells_congr (O3 _ (by omega) (by omega))).trans ((k2.cells (by omega)).trans Ga)
  have d3 : q3.cells (h.n + 1) = some [.int .i64 0, .int .i64 0, .int .i64 0] := (AH.cells_congr (O3 _ (by omega) (by omega))).trans (((Gk.trans k2).cells n1).trans d1)
  clear hq3
  refine wS_unroll ?_
  simp (maxSteps := 10000000) (disch := first | omega | (simp only [AH.push_n, AH.set_n]; first | done | omega)) only [go_sem, Nat.reduceEqDiff, Nat.reduceLT, Int.reduceLT, Int.reduceToNat, a3]
  refine ClS.by (letters_cl r hrc.1) ?_
  rintro x g4 ⟨rfl, rfl⟩
  simp (maxSteps := 10000000) (disch := first | omega | (simp only [AH.push_n, AH.set_n]; first | done | omega)) only [go_sem]
  have k4 : Keep q3 (q3.push (.cells [r])) := (Keep.refl q3).push _
  have bx4 : (q3.push (.cells [r])).cells q3.n = some [r] := AH.cells_push_eq rfl
  have n4 : (q3.push (.cells [r])).n = q3.n + 1 := rfl
  generalize q3.push (.cells [r]) = g4 at *
  rw [← n4]
  have hm1 : ∀ c, 0 ≤ cntM m1 c ∧ cntM m1 c ≤ 100000 := fun c => by
    rw [hc1 c, List.take_length, cntM_nil]
    have := cnt_bd c (stepsOf p.left)
    have := o.ok.left.steps
    omega
  refine ClS.by (lettersLoop_cl (g := g4) (v := r) (es := p.right) (b := g1.n + 1) (M := g1.n) (l := m1) (by omega) (by omega) (by omega) (by omega) ((k4.cells (by omega)).trans b3) ((k4.get g1.n (by omega)).trans M3) hm1 ((hv.keep (kq.trans k4)).right) o.ok.right.fit ?_ bx4 (by omega)) ?_
  · simp (maxSteps := 10000000) (disch := first | omega | (simp only [AH.push_n, AH.set_n]; first | done | omega)) only [go_sem, Nat.reduceEqDiff]
  rintro _ g5 hI5
  have hloop5 := hI5.loop
  have hn5 := hI5.n
  simp only [AH.push_n] at hn5
  obtain ⟨m2, hM2, hc2⟩ := hI5.map
  have old5 : ∀ j, j < g4.n → j ≠ g1.n → g5.get j = g4.get j := fun j h1 h2 => (hI5.old j (by simp; omega) h2 (by omega)).trans (AH.get_push_lt h1)
  simp (maxSteps := 10000000) (disch := first | omega | (simp only [AH.push_n, AH.set_n]; first | done | omega)) only [go_sem, Nat.reduceEqDiff, Int.reduceAdd, hloop5]
  have hkk5 : ∀ X, (g5.set g4.n X).n = g5.n := fun _ => rfl
  have M5 : ∀ X, (g5.set g4.n X).get g1.n = some (.map (encM m2)) := fun X => (AH.get_set_ne (by omega)).trans hM2
  have O5 : ∀ X j, j < g4.n → j ≠ g1.n → (g5.set g4.n X).get j = g4.get j := fun X j h1 h2 => (AH.get_set_ne (by omega)).trans (old5 j h1 h2)
  generalize hq5 : g5.set g4.n _ = q5
  have M5 := hq5 ▸ M5 _
  have O5 := fun j h1 h2 => hq5 ▸ O5 _ j h1 h2
  have hkk5 := hq5 ▸ hkk5 _
  have kq5 : Keep h q5 := ⟨by omega, fun j hj => (O5 j (by omega) (by omega)).trans ((k4.get j (by omega)).trans (kq.get j hj))⟩
  have b5 : q5.cells (g1.n + 1) = some [.map g1.n] := (AH.cells_congr (O5 _ (by omega) (by omega))).trans ((k4.cells (by omega)).trans b3)
  have d5 : q5.cells (h.n + 1) = some [.int .i64 0, .int .i64 0, .int .i64 0] := (AH.cells_congr (O5 _ (by omega) (by omega))).trans ((k4.cells (by omega)).trans d3)
  clear hq5
  have hcc : ∀ c, cntM m2 c = cnt c (stepsBoth p) := fun c => by
    rw [hc2 c, hc1 c, List.take_length, List.take_length, cntM_nil, stepsBoth, cnt_app]; omega
  refine wS_unroll ?_
  simp (maxSteps := 10000000) (disch := first | omega | (simp only [AH.push_n, AH.set_n]; first | done | omega)) only [go_sem, Nat.reduceEqDiff, Int.reduceLT]
  have l1 := lookup_cnt M5 78
  have l2 := lookup_cnt M5 66
  have l3 := lookup_cnt M5 84
  rw [hcc] at l1 l2 l3
  simp (maxSteps := 10000000) (disch := first | omega | (simp only [AH.push_n, AH.set_n]; first | done | omega)) only [go_sem, Nat.reduceEqDiff, Nat.reduceAdd, Nat.reduceLeDiff, b5, l1, l2, l3, d5]
  rw [if_pos he]
  exact ⟨⟨rfl, he.symm⟩, kq5.set (by omega) _⟩
end Go.Proofs.YtndlfkibcelhmaaGreatDoor.Ai
end
section
namespace Go.Proofs.YtndlfkibcelhmaaGreatDoor.Ai
open Go
set_option maxRecDepth 10000
set_option maxHeartbeats 4000000
set_option linter.all false
set_option pp.maxSteps 1200

end Go.Proofs.YtndlfkibcelhmaaGreatDoor.Ai
end
section
namespace Go.Proofs.YtndlfkibcelhmaaGreatDoor.Ai
open Go
set_option maxRecDepth 10000
set_option maxHeartbeats 4000000
set_option linter.all false
set_option pp.maxSteps 1200

theorem mem_repSteps {w : List Nat} {o : Bool} {s : Sp} : ∀ {n : Nat}, s ∈ repSteps n w o → s.c ∈ w
  | 0, h => by simp [repSteps] at h
  | n + 1, h => by
    simp only [repSteps, List.mem_append, wordSteps, List.mem_map] at h
    rcases h with h | ⟨c, hc, rfl⟩
    · exact mem_repSteps h
    · exact hc
theorem steps_letters : ∀ {l : List Ed}, edgesErr l = 0 → ∀ s ∈ stepsOf l, letterC s.c
  | [], _, s, h => by simp [stepsOf] at h
  | e :: l, he, s, h => by
    have h0 := edgesErr_all he e (List.mem_cons_self ..)
    have hl : edgesErr l = 0 := by simpa [edgesErr, h0] using he
    simp only [stepsOf, List.mem_append] at h
    rcases h with h | h
    · exact (edgeErr_ok h0).2.2.1 _ (mem_repSteps h)
    · exact steps_letters hl s h
theorem cnt_sum : ∀ {l : List Sp}, (∀ s ∈ l, letterC s.c) → cnt 78 l + cnt 66 l + cnt 84 l = l.length
  | [], _ => by simp [cnt]
  | s :: l, h => by
    have h1 := cnt_sum (l := l) fun x hx => h x (List.mem_cons_of_mem _ hx)
    have h2 := h s (List.mem_cons_self ..)
    unfold letterC at h2
    simp only [cnt, List.length_cons]
    rcases h2 with h2 | h2 | h2 <;> simp [h2] <;> omega
theorem refLetters_cl {fl : Nat} {h : AH} {l r : AVal} {p : Pn} (hf : fl ≤ h.n) (hv : PV h l r p) (o : PanelOk p) :
    Cl T fl 69 [.agg [.str p.name, .int .i64 p.width, l, r]] h fun x h' => x = .agg (intsA (letters3 p)) ∧ Keep h h' := by
  refine Cl.code (fn := F69) rfl rfl ?_
  simp only [F69]
  simp (maxSteps := 10000000) (disch := first | omega | (simp only [AH.push_n, AH.set_n]; first | done | omega)) only [go_sem, Nat.reduceEqDiff]
  have hG : ∀ G : AH, G = ((h.push (.cells [.str p.name, .int .i64 p.width, l, r])).push (.cells [.int .i64 0, .int .i64 0, .int .i64 0])).push (.cells [.int .i64 0, .int .i64 0, .int .i64 0]) →
      G.n = h.n + 1 + 1 + 1 ∧ Keep h G ∧ G.cells h.n = some [.str p.name, .int .i64 p.width, l, r] ∧ G.cells (h.n + 1) = some [.int .i64 0, .int .i64 0, .int .i64 0] ∧ G.cells (h.n + 1 + 1) = some [.int .i64 0, .int .i64 0, .int .i64 0] := by
    rintro G rfl
    refine ⟨rfl, (((Keep.refl h).push _).push _).push _, ?_, ?_, AH.cells_push_eq rfl⟩
    · simp (maxSteps := 10000000) (disch := first | omega | (simp only [AH.push_n, AH.set_n]; first | done | omega)) only [go_sem]
    · simp (maxSteps := 10000000) (disch := first | omega | (simp only [AH.push_n, AH.set_n]; first | done | omega)) only [go_sem]
  generalize ((h.push (.cells [.str p.name, .int .i64 p.width, l, r])).push (.cells [.int .i64 0, .int .i64 0, .int .i64 0])).push (.cells [.int .i64 0, .int .i64 0, .int .i64 0]) = G at *
  obtain ⟨Gn, Gk, Ga, Gb, Gc⟩ := hG G rfl
  clear hG
  rw [← Gn]
  refine ClS.by (steps_cl (Nat.le_refl _) ((hv.keep Gk).left) o.left.edges o.left.len) ?_
  rintro x g1 ⟨hx1, hk1, ho1⟩
  have n1 := hk1.n
  have k1 := Gk.trans hk1
  have a1 := (hk1.cells (i := h.n) (by omega)).trans Ga
  have b1 := (hk1.cells (i := h.n + 1) (by omega)).trans Gb
  have c1 := (hk1.cells (i := h.n + 1 + 1) (by omega)).trans Gc
  simp (maxSteps := 10000000) (disch := first | omega | (simp only [AH.push_n, AH.set_n]; first | done | omega)) only [go_sem, Nat.reduceEqDiff, a1]
  refine ClS.by (steps_cl (Nat.le_trans hf k1.n) ((hv.keep k1).right) o.right.edges o.right.len) ?_
  rintro y g2 ⟨hx2, hk2, ho2⟩
  have n2 := hk2.n
  have k2 := k1.trans hk2
  have b2 := (hk2.cells (i := h.n + 1) (by omega)).trans b1
  have c2 := (hk2.cells (i := h.n + 1 + 1) (by omega)).trans c1
  have sL := o.left.steps
  have sR := o.right.steps
  simp (maxSteps := 10000000) (disch := first | omega | (simp only [AH.push_n, AH.set_n]; first | done | omega)) only [go_sem, Nat.reduceEqDiff]
  refine append_to (E := SpE) (ys := stepsOf p.right) (hx1.keep hk2) (ho1.mono (by omega)) (by omega) hx2 (by simp only [maxRow]; omega) ?_
  intro v g3 ha
  have n3 := ha.n
  have hvS : Vw SpE g3 v (stepsBoth p) := ha.vw
  have hSl : (stepsBoth p).length ≤ 1024 := by unfold stepsBoth; rw [List.length_append]; omega
  have hall : ∀ s ∈ stepsBoth p, letterC s.c := fun s hs => by
    unfold stepsBoth at hs
    rcases List.mem_append.1 hs with hs | hs
    · exact steps_letters o.left.edges s hs
    · exact steps_letters o.right.edges s hs
  have hsum := cnt_sum hall
  have k3 := ha.keep k2 (ho1.mono (by omega))
  have b3 := (ha.cells (i := h.n + 1) (by omega) (ho1.off (by omega))).trans b2
  have c3 := (ha.cells (i := h.n + 1 + 1) (by omega) (ho1.off (by omega))).trans c2
  have hvo : Off v (h.n + 1 + 1) := (ha.old _ (by omega) (ho1.off (by omega))).2
  unfold letters3
  generalize stepsBoth p = S at *
  simp (maxSteps := 10000000) (disch := first | omega | (simp only [AH.push_n, AH.set_n]; first | done | omega)) only [go_sem]
  refine wS_loop (fun m ts g => ∃ k, k ≤ S.length ∧ m = S.length - k ∧ g.n = g3.n ∧ (∀ j, j ≠ h.n + 1 + 1 → g.get j = g3.get j) ∧ g.cells (h.n + 1 + 1) = some [.int .i64 (cnt 78 (S.take k)), .int .i64 (cnt 66 (S.take k)), .int .i64 (k - cnt 78 (S.take k) - cnt 66 (S.take k))] ∧
    tg ts 2 = .ptr (h.n + 1) 0 ∧ tg ts 3 = .ptr (h.n + 1 + 1) 0 ∧ tg ts 4 = v ∧ tg ts 5 = .int .i64 k) S.length
    ⟨0, by omega, by omega, rfl, fun _ _ => rfl, by simpa [cnt] using c3, by simp, by simp, by simp, by simp⟩ ?_
  rintro m ts g ⟨k, hk, rfl, gn, gk, gc, t2, t3, t4, t5⟩
  have hvg : Vw SpE g v S := hvS.congr (by omega) fun i e => gk i fun ei => hvo (ei ▸ e)
  by_cases hlt : k < S.length
  · obtain ⟨id, off, vs, hve, hid, hc, r0, _, _⟩ := hvg.sp hlt
    have q1 := cnt_bd 78 (S.take k)
    have q2 := cnt_bd 66 (S.take k)
    have s1 := cnt_snoc 78 S k hlt
    have s2 := cnt_snoc 66 S k hlt
    rw [List.length_take] at q1 q2
    rw [hve] at t4
    have e2 : (k : Int) < S.length := by omega
    have hB : fl ≤ h.n + 1 + 1 := by omega
    by_cases l1 : (S[k].c : Int) = 78
    · rw [if_pos l1] at s1
      rw [if_neg (by omega), Int.add_zero] at s2
      simp (maxSteps := 10000000) (disch := first | omega | (simp only [AH.push_n, AH.set_n]; first | done | omega)) only [go_sem, Nat.reduceEqDiff, Nat.reduceAdd, Nat.reduceLeDiff, Nat.reduceLT, Int.reduceToNat, t2, t3, t4, t5, e2, hlt, hc, r0, l1, gc]
      refine ⟨_, by omega, k + 1, by omega, rfl, gn, fun j hj => (AH.get_set_ne hj).trans (gk j hj), ⟨s1.symm, s2.symm, by omega⟩, hve.symm, by omega⟩
    · by_cases l2 : (S[k].c : Int) = 66
      · rw [if_neg l1, Int.add_zero] at s1
        rw [if_pos l2] at s2
        simp (maxSteps := 10000000) (disch := first | omega | (simp only [AH.push_n, AH.set_n]; first | done | omega)) only [go_sem, Nat.reduceEqDiff, Nat.reduceAdd, Nat.reduceLeDiff, Nat.reduceLT, Int.reduceEq, Int.reduceToNat, t2, t3, t4, t5, e2, hlt, hc, r0, l2, gc]
        refine ⟨_, by omega, k + 1, by omega, rfl, gn, fun j hj => (AH.get_set_ne hj).trans (gk j hj), ⟨s1.symm, s2.symm, by omega⟩, hve.symm, by omega⟩
      · rw [if_neg l1, Int.add_zero] at s1
        rw [if_neg l2, Int.add_zero] at s2
        simp (maxSteps := 10000000) (disch := first | omega | (simp only [AH.push_n, AH.set_n]; first | done | omega)) only [go_sem, Nat.reduceEqDiff, Nat.reduceAdd, Nat.reduceLT, Int.reduceToNat, t2, t3, t4, t5, e2, hlt, hc, r0, l1, l2, gc]
        refine ⟨_, by omega, k + 1, by omega, rfl, gn, fun j hj => (AH.get_set_ne hj).trans (gk j hj), ⟨s1.symm, s2.symm, by omega⟩, hve.symm, by omega⟩
  · have : k = S.length := by omega
    subst this
    have e2 : ¬ (S.length : Int) < S.length := by omega
    rw [List.take_length] at gc
    have bg := (AH.cells_congr (gk (h.n + 1) (by omega))).trans b3
    have kg : Keep h g := ⟨by have := k3.n; omega, fun j hj => (gk j (by omega)).trans (k3.get j hj)⟩
    simp (maxSteps := 10000000) (disch := first | omega | (simp only [AH.push_n, AH.set_n]; first | done | omega)) only [go_sem, Nat.reduceEqDiff, Nat.reduceAdd, t2, t3, t4, t5, hvg.len, e2, gc, bg]
    refine ⟨?_, kg.set (by omega) _⟩
    rw [show (S.length : Int) - cnt 78 S - cnt 66 S = cnt 84 S by omega]; rfl

theorem panelOutlines_cl {fl : Nat} {h : AH} {l r : AVal} {p : Pn} {b1 : Bool} (hf : fl ≤ h.n) (hv : PV h l r p) :
    Cl T fl 11 [.agg [.str p.name, .int .i64 p.width, l, r], .bool b1] h fun x _ => x = .bool true := by
  refine Cl.code (fn := F11) rfl rfl ?_
  simp only [F11]
  have hlc := hv.left.one
  have hrc := hv.right.one
  have k0 : Keep h (h.push (.cells [.str p.name, .int .i64 p.width, l, r])) := (Keep.refl h).push _
  have c0 : (h.push (.cells [.str p.name, .int .i64 p.width, l, r])).cells h.n = some [.str p.name, .int .i64 p.width, l, r] := AH.cells_push_eq rfl
  have n0 : h.n < (h.push (.cells [.str p.name, .int .i64 p.width, l, r])).n := by simp
  simp (maxSteps := 10000000) (disch := first | omega | (simp only [AH.push_n, AH.set_n]; first | done | omega)) only [go_sem, reduceCtorEq, Nat.reduceAdd]
  refine ClS.by awake_cl ?_
  rintro x g ⟨rfl, rfl⟩
  simp (maxSteps := 10000000) (disch := first | omega | (simp only [AH.push_n, AH.set_n]; first | done | omega)) only [go_sem, Nat.reduceEqDiff, Nat.reduceAdd]
  generalize h.push (.cells [.str p.name, .int .i64 p.width, l, r]) = g0 at *
  refine ClS.by (short_cl (Nat.le_trans hf k0.n) (hv.keep k0) 40) ?_
  rintro x g1 ⟨⟨b, rfl, hb⟩, hk1⟩
  have k1 := k0.trans hk1
  have n1 := Nat.lt_of_lt_of_le n0 hk1.n
  have c1 := (hk1.cells n0).trans c0
  cases b
  case false =>
    simp (maxSteps := 10000000) (disch := first | omega | (simp only [AH.push_n, AH.set_n]; first | done | omega)) only [go_sem, Nat.reduceEqDiff]
    refine ClS.by awake_cl ?_
    rintro x g ⟨rfl, rfl⟩
    simp (maxSteps := 10000000) (disch := first | omega | (simp only [AH.push_n, AH.set_n]; first | done | omega)) only [go_sem]
  have ps := hb rfl
  have hsl : p.left.length ≤ 1000 := by have := ps.left.len; omega
  have hsr : p.right.length ≤ 1000 := by have := ps.right.len; omega
  simp (maxSteps := 10000000) (disch := first | omega | (simp only [AH.push_n, AH.set_n]; first | done | omega)) only [go_sem, Nat.reduceEqDiff, Nat.reduceAdd, c1]
  refine ClS.by (given_cl (Nat.le_trans hf k1.n) (hv.keep k1) hsl hsr) ?_
  rintro x g2 ⟨⟨l', r', rfl, hv2, _, _⟩, hk2⟩
  have k2 := k1.trans hk2
  have n2 := Nat.lt_of_lt_of_le n1 hk2.n
  have c2 := (hk2.cells n1).trans c1
  simp (maxSteps := 10000000) (disch := first | omega | (simp only [AH.push_n, AH.set_n]; first | done | omega)) only [go_sem, Nat.reduceEqDiff]
  refine ClS.by (pOutlineF_cl (Nat.le_trans hf k2.n) hv2 ps.small b1) ?_
  rintro x g3 ⟨ov, rfl, hov, hk3⟩
  have k3 := k2.trans hk3
  have n3 := Nat.lt_of_lt_of_le n2 hk3.n
  have c3 := (hk3.cells n2).trans c2
  simp (maxSteps := 10000000) (disch := first | omega | (simp only [AH.push_n, AH.set_n]; first | done | omega)) only [go_sem, Nat.reduceEqDiff, Nat.reduceAdd, c3]
  refine ClS.by (given_cl (Nat.le_trans hf k3.n) (hv.keep k3) hsl hsr) ?_
  rintro x g4 ⟨⟨l', r', rfl, hv4, _, _⟩, hk4⟩
  have k4 := k3.trans hk4
  have n4 := Nat.lt_of_lt_of_le n3 hk4.n
  have c4 := (hk4.cells n3).trans c3
  simp (maxSteps := 10000000) (disch := first | omega | (simp only [AH.push_n, AH.set_n]; first | done | omega)) only [go_sem]
  refine ClS.by (pCornersF_cl (Nat.le_trans hf k4.n) hv4 ps.small) ?_
  rintro x g5 ⟨rfl, hk5⟩
  have k5 := k4.trans hk5
  have n5 := Nat.lt_of_lt_of_le n4 hk5.n
  have c5 := (hk5.cells n4).trans c4
  have hf5 : fl ≤ g5.n := Nat.le_trans hf k5.n
  obtain ⟨C1, C2, C3, C4, C5, C6, C7, C8, hC⟩ : ∃ a b c d e f g h, (if panelErr p = 0 then cornersOf p else [0, 0, 0, 0, 0, 0, 0, 0]) = [a, b, c, d, e, f, g, h] := by
    split
    · exact ⟨_, _, _, _, _, _, _, _, rfl⟩
    · exact ⟨_, _, _, _, _, _, _, _, rfl⟩
  rw [hC]
  have hiC : intsA [C1, C2, C3, C4, C5, C6, C7, C8] = [.int .i64 C1, .int .i64 C2, .int .i64 C3, .int .i64 C4, .int .i64 C5, .int .i64 C6, .int .i64 C7, .int .i64 C8] := rfl
  rw [hiC]
  simp (maxSteps := 10000000) (disch := first | omega | (simp only [AH.push_n, AH.set_n]; first | done | omega)) only [go_sem, Nat.reduceEqDiff, Nat.reduceAdd, c5]
  have hG : ∀ G : AH, G = (g5.push (.cells [.int .i64 0, .int .i64 0, .int .i64 0, .int .i64 0, .int .i64 0, .int .i64 0, .int .i64 0, .int .i64 0])).set g5.n (.cells [.int .i64 C1, .int .i64 C2, .int .i64 C3, .int .i64 C4, .int .i64 C5, .int .i64 C6, .int .i64 C7, .int .i64 C8]) →
      G.n = g5.n + 1 ∧ Keep g5 G ∧ G.cells g5.n = some [.int .i64 C1, .int .i64 C2, .int .i64 C3, .int .i64 C4, .int .i64 C5, .int .i64 C6, .int .i64 C7, .int .i64 C8] := by
    rintro G rfl
    exact ⟨rfl, ((Keep.refl g5).push _).set (Nat.le_refl _) _, AH.cells_set_eq⟩
  generalize (g5.push (.cells [.int .i64 0, .int .i64 0, .int .i64 0, .int .i64 0, .int .i64 0, .int .i64 0, .int .i64 0, .int .i64 0])).set g5.n (.cells [.int .i64 C1, .int .i64 C2, .int .i64 C3, .int .i64 C4, .int .i64 C5, .int .i64 C6, .int .i64 C7, .int .i64 C8]) = G at *
  obtain ⟨Gn, Gk, Gc⟩ := hG G rfl
  clear hG
  generalize hA5 : g5.n = A at *
  have kG := k5.trans Gk
  have cG := (Gk.cells (i := h.n) (by omega)).trans c5
  refine ClS.by (given_cl (Nat.le_trans hf kG.n) (hv.keep kG) hsl hsr) ?_
  rintro x g6 ⟨⟨l', r', rfl, hv6, _, _⟩, hk6⟩
  have k6 := kG.trans hk6
  have n6 := hk6.n
  have c6 := (hk6.cells (i := h.n) (by omega)).trans cG
  have q6 := (hk6.cells (i := A) (by omega)).trans Gc
  simp (maxSteps := 10000000) (disch := first | omega | (simp only [AH.push_n, AH.set_n]; first | done | omega)) only [go_sem]
  refine ClS.by (pStripsF_cl (Nat.le_trans hf k6.n) hv6 ps.small) ?_
  rintro x g7 ⟨sv, rfl, hsv, hk7⟩
  have k7 := k6.trans hk7
  have n7 := hk7.n
  have c7 := (hk7.cells (i := h.n) (by omega)).trans c6
  have q7 := (hk7.cells (i := A) (by omega)).trans q6
  simp (maxSteps := 10000000) (disch := first | omega | (simp only [AH.push_n, AH.set_n]; first | done | omega)) only [go_sem, Nat.reduceEqDiff, Nat.reduceAdd, c7]
  refine ClS.by (given_cl (Nat.le_trans hf k7.n) (hv.keep k7) hsl hsr) ?_
  rintro x g8 ⟨⟨l', r', rfl, hv8, _, _⟩, hk8⟩
  have k8 := k7.trans hk8
  have n8 := hk8.n
  have c8 := (hk8.cells (i := h.n) (by omega)).trans c7
  have q8 := (hk8.cells (i := A) (by omega)).trans q7
  simp (maxSteps := 10000000) (disch := first | omega | (simp only [AH.push_n, AH.set_n]; first | done | omega)) only [go_sem]
  refine ClS.by (pArea_cl (Nat.le_trans hf k8.n) hv8 ps.small) ?_
  rintro x g9 ⟨rfl, hk9⟩
  have k9 := k8.trans hk9
  have n9 := hk9.n
  have c9 := (hk9.cells (i := h.n) (by omega)).trans c8
  have q9 := (hk9.cells (i := A) (by omega)).trans q8
  simp (maxSteps := 10000000) (disch := first | omega | (simp only [AH.push_n, AH.set_n]; first | done | omega)) only [go_sem, Nat.reduceEqDiff, Nat.reduceAdd, c9]
  refine ClS.by (given_cl (Nat.le_trans hf k9.n) (hv.keep k9) hsl hsr) ?_
  rintro x g10 ⟨⟨l', r', rfl, hv10, _, _⟩, hk10⟩
  have k10 := k9.trans hk10
  have n10 := hk10.n
  have c10 := (hk10.cells (i := h.n) (by omega)).trans c9
  have q10 := (hk10.cells (i := A) (by omega)).trans q9
  simp (maxSteps := 10000000) (disch := first | omega | (simp only [AH.push_n, AH.set_n]; first | done | omega)) only [go_sem]
  refine ClS.by (pLetters_cl (Nat.le_trans hf k10.n) hv10 ps.small) ?_
  rintro x g11 ⟨rfl, hk11⟩
  have k11 := k10.trans hk11
  have n11 := hk11.n
  have c11 := (hk11.cells (i := h.n) (by omega)).trans c10
  have q11 := (hk11.cells (i := A) (by omega)).trans q10
  have hf11 : fl ≤ g11.n := Nat.le_trans hf k11.n
  obtain ⟨L1, L2, L3, hL⟩ : ∃ a b c, (if panelErr p = 0 then letters3 p else [0, 0, 0]) = [a, b, c] := by
    split
    · exact ⟨_, _, _, rfl⟩
    · exact ⟨_, _, _, rfl⟩
  rw [hL]
  have hiL : intsA [L1, L2, L3] = [.int .i64 L1, .int .i64 L2, .int .i64 L3] := rfl
  rw [hiL]
  simp (maxSteps := 10000000) (disch := first | omega | (simp only [AH.push_n, AH.set_n]; first | done | omega)) only [go_sem, Nat.reduceEqDiff, Nat.reduceAdd, c11]
  have hG : ∀ G' : AH, G' = (g11.push (.cells [.int .i64 0, .int .i64 0, .int .i64 0])).set g11.n (.cells [.int .i64 L1, .int .i64 L2, .int .i64 L3]) →
      G'.n = g11.n + 1 ∧ Keep g11 G' ∧ G'.cells g11.n = some [.int .i64 L1, .int .i64 L2, .int .i64 L3] := by
    rintro G' rfl
    exact ⟨rfl, ((Keep.refl g11).push _).set (Nat.le_refl _) _, AH.cells_set_eq⟩
  generalize (g11.push (.cells [.int .i64 0, .int .i64 0, .int .i64 0])).set g11.n (.cells [.int .i64 L1, .int .i64 L2, .int .i64 L3]) = G' at *
  obtain ⟨Hn, Hk, Hc⟩ := hG G' rfl
  clear hG
  generalize hB11 : g11.n = B at *
  have kH := k11.trans Hk
  have cH := (Hk.cells (i := h.n) (by omega)).trans c11
  have qH := (Hk.cells (i := A) (by omega)).trans q11
  refine ClS.by (refCheckPanel_cl (Nat.le_trans hf kH.n) (hv.keep kH) ps.small) ?_
  rintro x g12 ⟨rfl, hk12⟩
  have k12 := kH.trans hk12
  have n12 := hk12.n
  have c12 := (hk12.cells (i := h.n) (by omega)).trans cH
  have q12 := (hk12.cells (i := A) (by omega)).trans qH
  have p12 := (hk12.cells (i := B) (by omega)).trans Hc
  have hsv12 := (((((hsv.keep hk8).keep hk9).keep hk10).keep hk11).keep Hk).keep hk12
  have hov12 := (((((((((hov.keep hk4).keep hk5).keep Gk).keep hk6).keep hk7).keep hk8).keep hk9).keep hk10).keep hk11).keep Hk |>.keep hk12
  by_cases he : panelErr p = 0
  case neg =>
    rw [if_neg he] at hsv12 hov12 hC hL
    injection hC with e1 hC; injection hC with e2 hC; injection hC with e3 hC; injection hC with e4 hC; injection hC with e5 hC; injection hC with e6 hC; injection hC with e7 hC; injection hC with e8 hC
    injection hL with f1 hL; injection hL with f2 hL; injection hL with f3 hL
    subst e1; subst e2; subst e3; subst e4; subst e5; subst e6; subst e7; subst e8; subst f1; subst f2; subst f3
    simp (maxSteps := 10000000) (disch := first | omega | (simp only [AH.push_n, AH.set_n]; first | done | omega)) only [go_sem, Nat.reduceEqDiff, Nat.reduceAdd, he, hov12.len, hsv12.len, q12, p12, Int.natCast_zero]
  have o := pok he
  rw [if_pos he] at hsv12 hov12 hC hL
  simp (maxSteps := 10000000) (disch := first | omega | (simp only [AH.push_n, AH.set_n]; first | done | omega)) only [go_sem, Nat.reduceEqDiff, Nat.reduceAdd, Int.reduceAdd, he, c12]
  refine ClS.by (outline_cl (Nat.le_trans hf k12.n) (hv.keep k12) o.ok.left o.ok.right o.ok.width b1) ?_
  rintro x g13 ⟨hro, hk13, _⟩
  have k13 := k12.trans hk13
  have n13 := hk13.n
  have c13 := (hk13.cells (i := h.n) (by omega)).trans c12
  have q13 := (hk13.cells (i := A) (by omega)).trans q12
  have p13 := (hk13.cells (i := B) (by omega)).trans p12
  simp (maxSteps := 10000000) (disch := first | omega | (simp only [AH.push_n, AH.set_n]; first | done | omega)) only [go_sem, Nat.reduceEqDiff]
  refine ClS.by (sameKnots_cl (hov12.keep hk13) hro (by have := outlineOf_len o.ok.left o.ok.right b1; omega)) ?_
  rintro x g ⟨rfl, rfl⟩
  have dt1 : decide (outlineOf p b1 = outlineOf p b1) = true := decide_eq_true rfl
  simp (maxSteps := 10000000) (disch := first | omega | (simp only [AH.push_n, AH.set_n]; first | done | omega)) only [go_sem, Nat.reduceEqDiff, Nat.reduceAdd, q13, c13]
  refine ClS.by (refCorners_cl (Nat.le_refl _) (hv.keep k13) o.ok.left o.ok.right o.ok.width) ?_
  rintro x g14 ⟨rfl, hk14⟩
  have k14 := k13.trans hk14
  have n14 := hk14.n
  have c14 := (hk14.cells (i := h.n) (by omega)).trans c13
  have p14 := (hk14.cells (i := B) (by omega)).trans p13
  rw [hC, hiC]
  simp (maxSteps := 10000000) (disch := first | omega | (simp only [AH.push_n, AH.set_n]; first | done | omega)) only [go_sem, Nat.reduceEqDiff]
  refine ClS.by (lawStrips_cl (Nat.le_refl _) ((hsv12.keep hk13).keep hk14) (by rw [stripsOf_len]; have := o.high; omega)) ?_
  rintro x g15 ⟨hls, hk15⟩
  have k15 := k14.trans hk15
  have n15 := hk15.n
  have c15 := (hk15.cells (i := h.n) (by omega)).trans c14
  have p15 := (hk15.cells (i := B) (by omega)).trans p14
  simp (maxSteps := 10000000) (disch := first | omega | (simp only [AH.push_n, AH.set_n]; first | done | omega)) only [go_sem, Nat.reduceEqDiff, Nat.reduceAdd, c15]
  refine ClS.by (refStrips_cl (Nat.le_trans hf k15.n) (hv.keep k15) o) ?_
  rintro x g16 ⟨hrs, hk16, _⟩
  have k16 := k15.trans hk16
  have n16 := hk16.n
  have c16 := (hk16.cells (i := h.n) (by omega)).trans c15
  have p16 := (hk16.cells (i := B) (by omega)).trans p15
  simp (maxSteps := 10000000) (disch := first | omega | (simp only [AH.push_n, AH.set_n]; first | done | omega)) only [go_sem, Nat.reduceEqDiff]
  refine ClS.by (sameStrips_cl (hls.keep hk16) hrs (by rw [stripsOf_len]; have := o.high; omega)) ?_
  rintro x g ⟨rfl, rfl⟩
  have dt2 : decide (stripsOf p = stripsOf p) = true := decide_eq_true rfl
  simp (maxSteps := 10000000) (disch := first | omega | (simp only [AH.push_n, AH.set_n]; first | done | omega)) only [go_sem, Nat.reduceEqDiff, Nat.reduceAdd, c16]
  refine ClS.by (refArea_cl (Nat.le_trans hf k16.n) (hv.keep k16) o) ?_
  rintro x g17 ⟨rfl, hk17⟩
  have k17 := k16.trans hk17
  have n17 := hk17.n
  have c17 := (hk17.cells (i := h.n) (by omega)).trans c16
  have p17 := (hk17.cells (i := B) (by omega)).trans p16
  simp (maxSteps := 10000000) (disch := first | omega | (simp only [AH.push_n, AH.set_n]; first | done | omega)) only [go_sem, Nat.reduceEqDiff, Nat.reduceAdd, p17, c17]
  refine ClS.by (refLetters_cl (Nat.le_refl _) (hv.keep k17) o.ok) ?_
  rintro x g18 ⟨rfl, hk18⟩
  rw [hL, hiL]
  simp (maxSteps := 10000000) (disch := first | omega | (simp only [AH.push_n, AH.set_n]; first | done | omega)) only [go_sem, Nat.reduceEqDiff]
end Go.Proofs.YtndlfkibcelhmaaGreatDoor.Ai
end
