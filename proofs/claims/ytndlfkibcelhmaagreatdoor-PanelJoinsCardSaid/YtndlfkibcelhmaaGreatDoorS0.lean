/- Soundness joined with the loaded program. -/
import Derived.Test.YtndlfkibcelhmaaGreatDoorK0
import Derived.Test.YtndlfkibcelhmaaGreatDoorK1
import Derived.Test.YtndlfkibcelhmaaGreatDoorK2
import Derived.Test.YtndlfkibcelhmaaGreatDoorK3
import Derived.Test.YtndlfkibcelhmaaGreatDoorK4
import Derived.Test.YtndlfkibcelhmaaGreatDoorK5
import Derived.Test.YtndlfkibcelhmaaGreatDoorK6
import Derived.Test.YtndlfkibcelhmaaGreatDoorK7
import Derived.Test.YtndlfkibcelhmaaGreatDoorB0
import Derived.Test.YtndlfkibcelhmaaGreatDoorA2
import Derived.Test.YtndlfkibcelhmaaGreatDoorA1
import Derived.Test.YtndlfkibcelhmaaGreatDoorW0
import Derived.Test.YtndlfkibcelhmaaGreatDoorProg
set_option linter.all false
section
set_option maxRecDepth 100000
namespace Go.Proofs.YtndlfkibcelhmaaGreatDoor.Ai
open Go Go.Proofs
def Tr.All {α : Type} (Q : Nat → α → Prop) : Tr α → (Nat → Nat) → Prop
  | .leaf, _ => True
  | .node l v r, ix => (match v with | none => True | some x => Q (ix 0) x) ∧ Tr.All Q l (fun i => ix (2 * i + 1)) ∧ Tr.All Q r (fun i => ix (2 * i + 2))
theorem Tr.All.get {α : Type} {Q : Nat → α → Prop} : ∀ {t : Tr α} {ix : Nat → Nat}, Tr.All Q t ix → ∀ {i : Nat} {x : α}, t.get i = some x → Q (ix i) x
  | .leaf, _, _, _, _, h => by rw [Tr.get_leaf] at h; cases h
  | .node l v r, ix, ⟨h1, h2, h3⟩, i, x, h => by
    rw [Tr.get_node] at h
    split at h
    · rename_i e
      subst e
      subst h
      exact h1
    · split at h
      · have := Tr.All.get h2 h
        rwa [show 2 * (i / 2) + 1 = i by omega] at this
      · have := Tr.All.get h3 h
        rwa [show 2 * (i / 2 - 1) + 2 = i by omega] at this
set_option maxHeartbeats 4000000 in
theorem fns_all : Tr.All (fun f fn => ∃ func, Tryz.prog.funcs[f]? = some func ∧ cFunc Tryz.prog func = some fn ∧ (func.name == "runtime.NumGoroutine") = false) fnsT (fun i => i) :=
  ⟨trivial, ⟨trivial, ⟨trivial, ⟨trivial, ⟨trivial, ⟨g31, ⟨g63, ⟨g127, ⟨g255, trivial, trivial⟩, trivial⟩, ⟨g191, trivial, trivial⟩⟩, ⟨g95, ⟨trivial, ⟨g287, trivial, trivial⟩, trivial⟩, ⟨g223, trivial, trivial⟩⟩⟩, ⟨g47, ⟨trivial, trivial, ⟨g207, trivial, trivial⟩⟩, ⟨g111, ⟨g175, trivial, trivial⟩, trivial⟩⟩⟩, ⟨trivial, ⟨g39, ⟨trivial, ⟨g135, trivial, trivial⟩, ⟨g199, trivial, trivial⟩⟩, ⟨trivial, ⟨g167, trivial, trivial⟩, trivial⟩⟩, ⟨trivial, ⟨g87, ⟨g151, trivial, trivial⟩, ⟨g215, trivial, trivial⟩⟩, ⟨g119, trivial, trivial⟩⟩⟩⟩, ⟨trivial, ⟨g19, ⟨g35, trivial, ⟨g99, ⟨g163, ⟨g291, trivial, trivial⟩, trivial⟩, ⟨g227, trivial, trivial⟩⟩⟩, ⟨trivial, trivial, ⟨g115, ⟨g179, trivial, trivial⟩, ⟨g243, trivial, trivial⟩⟩⟩⟩, ⟨g27, ⟨trivial, ⟨trivial, ⟨g139, ⟨g267, trivial, trivial⟩, trivial⟩, trivial⟩, ⟨g107, ⟨g171, ⟨g299, trivial, trivial⟩, trivial⟩, ⟨g235, trivial, trivial⟩⟩⟩, ⟨g59, ⟨g91, ⟨trivial, ⟨g283, trivial, trivial⟩, trivial⟩, ⟨g219, trivial, trivial⟩⟩, ⟨g123, ⟨g187, trivial, trivial⟩, trivial⟩⟩⟩⟩⟩, ⟨trivial, ⟨trivial, ⟨g17, ⟨trivial, ⟨g65, trivial, ⟨g193, trivial, trivial⟩⟩, ⟨trivial, ⟨trivial, ⟨g289, trivial, trivial⟩, trivial⟩, ⟨g225, trivial, trivial⟩⟩⟩, ⟨g49, ⟨trivial, ⟨g145, ⟨g273, trivial, trivial⟩, trivial⟩, trivial⟩, ⟨g113, ⟨g177, trivial, trivial⟩, ⟨g241, trivial, trivial⟩⟩⟩⟩, ⟨g25, ⟨g41, ⟨g73, ⟨g137, ⟨g265, trivial, trivial⟩, trivial⟩, ⟨g201, trivial, trivial⟩⟩, ⟨g105, ⟨g169, ⟨g297, trivial, trivial⟩, trivial⟩, trivial⟩⟩, ⟨g57, ⟨g89, trivial, ⟨g217, trivial, trivial⟩⟩, ⟨trivial, ⟨g185, trivial, trivial⟩, trivial⟩⟩⟩⟩, ⟨trivial, ⟨g21, ⟨g37, ⟨trivial, ⟨g133, trivial, trivial⟩, ⟨g197, trivial, trivial⟩⟩, ⟨g101, ⟨trivial, ⟨g293, trivial, trivial⟩, trivial⟩, trivial⟩⟩, ⟨trivial, ⟨trivial, trivial, ⟨g213, trivial, trivial⟩⟩, ⟨trivial, ⟨g181, trivial, trivial⟩, trivial⟩⟩⟩, ⟨trivial, ⟨g45, ⟨trivial, ⟨trivial, ⟨g269, trivial, trivial⟩, trivial⟩, trivial⟩, ⟨g109, ⟨trivial, ⟨g301, trivial, trivial⟩, trivial⟩, ⟨g237, trivial, trivial⟩⟩⟩, ⟨g61, ⟨g93, ⟨trivial, ⟨g285, trivial, trivial⟩, trivial⟩, ⟨g221, trivial, trivial⟩⟩, ⟨trivial, ⟨g189, trivial, trivial⟩, trivial⟩⟩⟩⟩⟩⟩, ⟨trivial, ⟨trivial, ⟨trivial, ⟨trivial, ⟨trivial, ⟨g64, trivial, ⟨g192, trivial, trivial⟩⟩, ⟨g96, ⟨trivial, ⟨g288, trivial, trivial⟩, trivial⟩, ⟨g224, trivial, trivial⟩⟩⟩, ⟨trivial, ⟨trivial, ⟨trivial, ⟨g272, trivial, trivial⟩, trivial⟩, trivial⟩, ⟨g112, ⟨g176, trivial, trivial⟩, ⟨g240, trivial, trivial⟩⟩⟩⟩, ⟨trivial, ⟨g40, ⟨trivial, ⟨g136, ⟨g264, trivial, trivial⟩, trivial⟩, ⟨g200, trivial, trivial⟩⟩, ⟨g104, ⟨g168, ⟨g296, trivial, trivial⟩, trivial⟩, ⟨g232, trivial, trivial⟩⟩⟩, ⟨g56, ⟨g88, ⟨g152, trivial, trivial⟩, ⟨g216, trivial, trivial⟩⟩, ⟨g120, ⟨g184, trivial, trivial⟩, trivial⟩⟩⟩⟩, ⟨trivial, ⟨g20, ⟨g36, trivial, ⟨g100, ⟨trivial, ⟨g292, trivial, trivial⟩, trivial⟩, ⟨g228, trivial, trivial⟩⟩⟩, ⟨trivial, ⟨trivial, ⟨g148, trivial, trivial⟩, trivial⟩, ⟨trivial, ⟨g180, trivial, trivial⟩, ⟨g244, trivial, trivial⟩⟩⟩⟩, ⟨g28, ⟨g44, ⟨g76, ⟨g140, trivial, trivial⟩, trivial⟩, ⟨g108, ⟨g172, ⟨g300, trivial, trivial⟩, trivial⟩, ⟨g236, trivial, trivial⟩⟩⟩, ⟨trivial, ⟨g92, ⟨trivial, ⟨g284, trivial, trivial⟩, trivial⟩, trivial⟩, ⟨g124, ⟨g188, trivial, trivial⟩, trivial⟩⟩⟩⟩⟩, ⟨g6, ⟨trivial, ⟨g18, ⟨g34, ⟨trivial, trivial, ⟨g194, trivial, trivial⟩⟩, ⟨trivial, ⟨g162, ⟨g290, trivial, trivial⟩, trivial⟩, ⟨g226, trivial, trivial⟩⟩⟩, ⟨trivial, ⟨trivial, ⟨trivial, ⟨g274, trivial, trivial⟩, trivial⟩, trivial⟩, ⟨g114, ⟨g178, trivial, trivial⟩, ⟨g242, trivial, trivial⟩⟩⟩⟩, ⟨trivial, ⟨g42, ⟨trivial, ⟨g138, ⟨g266, trivial, trivial⟩, trivial⟩, ⟨g202, trivial, trivial⟩⟩, ⟨g106, ⟨g170, ⟨g298, trivial, trivial⟩, trivial⟩, ⟨g234, trivial, trivial⟩⟩⟩, ⟨g58, ⟨g90, trivial, trivial⟩, ⟨g122, ⟨g186, trivial, trivial⟩, trivial⟩⟩⟩⟩, ⟨trivial, ⟨g22, ⟨g38, ⟨trivial, ⟨g134, trivial, trivial⟩, ⟨g198, trivial, trivial⟩⟩, ⟨trivial, ⟨g166, trivial, trivial⟩, trivial⟩⟩, ⟨trivial, ⟨g86, ⟨g150, trivial, trivial⟩, ⟨g214, trivial, trivial⟩⟩, ⟨g118, ⟨g182, trivial, trivial⟩, trivial⟩⟩⟩, ⟨trivial, ⟨trivial, ⟨trivial, ⟨trivial, ⟨g270, trivial, trivial⟩, trivial⟩, ⟨g206, trivial, trivial⟩⟩, ⟨g110, trivial, ⟨g238, trivial, trivial⟩⟩⟩, ⟨g62, ⟨g94, trivial, ⟨g222, trivial, trivial⟩⟩, ⟨g126, ⟨g190, trivial, trivial⟩, trivial⟩⟩⟩⟩⟩⟩⟩
theorem fns_ok : ∀ f fn, fnsT.get f = some fn → ∃ func, Tryz.prog.funcs[f]? = some func ∧ cFunc Tryz.prog func = some fn ∧ (func.name == "runtime.NumGoroutine") = false := fun f fn h => fns_all.get h
end Go.Proofs.YtndlfkibcelhmaaGreatDoor.Ai
end
section
/- The library contracts' premises at the loaded program. -/
set_option maxRecDepth 100000
namespace Go.Proofs.YtndlfkibcelhmaaGreatDoor.Ai
open Go Go.Proofs Go.Shelf
def renB : Ren where
  f := fun | 165 => 220 | 166 => 121 | 169 => 125 | 170 => 124 | 240 => 183 | 241 => 239 | 276 => 218 | 277 => 268 | n => n
  t := fun | 0 => 0 | 3 => 3 | 4 => 4 | 5 => 5 | 9 => 9 | 20 => 20 | 37 => 178 | 70 => 177 | 72 => 180 | 75 => 182 | 80 => 187 | 127 => 246 | 164 => 277 | n => n
  g := fun n => n
theorem lays_n165 : Lays.n165 Tryz.prog renB where
  mixed := by kernel_rfl
  f165 := Tryz.func220.trans (congrArg some (by kernel_rfl))
  f240 := Tryz.func183.trans (congrArg some (by kernel_rfl))
  f241 := Tryz.func239.trans (congrArg some (by kernel_rfl))
  f276 := Tryz.func218.trans (congrArg some (by kernel_rfl))
  f277 := Tryz.func268.trans (congrArg some (by kernel_rfl))
  t0 := Tryz.underlying0
  a0 := Tryz.isAgg0
  z0 := Tryz.sizeOf0
  v0 := Tryz.zeroValue0
  t3 := Tryz.underlying3
  a3 := Tryz.isAgg3
  z3 := Tryz.sizeOf3
  v3 := Tryz.zeroValue3
  t4 := Tryz.underlying4
  a4 := Tryz.isAgg4
  z4 := Tryz.sizeOf4
  v4 := Tryz.zeroValue4
  t9 := Tryz.underlying9
  a9 := Tryz.isAgg9
  z9 := Tryz.sizeOf9
  v9 := Tryz.zeroValue9
  t20 := Tryz.underlying20
  a20 := Tryz.isAgg20
  z20 := Tryz.sizeOf20
  v20 := Tryz.zeroValue20
  t37 := Tryz.underlying178
  a37 := Tryz.isAgg178
  z37 := Tryz.sizeOf178
  v37 := Tryz.zeroValue178
  t70 := Tryz.underlying177
  a70 := Tryz.isAgg177
  z70 := Tryz.sizeOf177
  v70 := Tryz.zeroValue177
  t72 := Tryz.underlying180
  a72 := Tryz.isAgg180
  z72 := Tryz.sizeOf180
  v72 := Tryz.zeroValue180
  t164 := Tryz.underlying277
  a164 := Tryz.isAgg277
  z164 := Tryz.sizeOf277
  v164 := Tryz.zeroValue277
theorem lays_n166 : Lays.n166 Tryz.prog renB where
  mixed := by kernel_rfl
  f166 := Tryz.func121.trans (congrArg some (by kernel_rfl))
  f240 := Tryz.func183.trans (congrArg some (by kernel_rfl))
  f276 := Tryz.func218.trans (congrArg some (by kernel_rfl))
  t0 := Tryz.underlying0
  a0 := Tryz.isAgg0
  z0 := Tryz.sizeOf0
  v0 := Tryz.zeroValue0
  t3 := Tryz.underlying3
  a3 := Tryz.isAgg3
  z3 := Tryz.sizeOf3
  v3 := Tryz.zeroValue3
  t4 := Tryz.underlying4
  a4 := Tryz.isAgg4
  z4 := Tryz.sizeOf4
  v4 := Tryz.zeroValue4
  t9 := Tryz.underlying9
  a9 := Tryz.isAgg9
  z9 := Tryz.sizeOf9
  v9 := Tryz.zeroValue9
  t20 := Tryz.underlying20
  a20 := Tryz.isAgg20
  z20 := Tryz.sizeOf20
  v20 := Tryz.zeroValue20
  t37 := Tryz.underlying178
  a37 := Tryz.isAgg178
  z37 := Tryz.sizeOf178
  v37 := Tryz.zeroValue178
  t70 := Tryz.underlying177
  a70 := Tryz.isAgg177
  z70 := Tryz.sizeOf177
  v70 := Tryz.zeroValue177
  t72 := Tryz.underlying180
  a72 := Tryz.isAgg180
  z72 := Tryz.sizeOf180
  v72 := Tryz.zeroValue180
  t75 := Tryz.underlying182
  a75 := Tryz.isAgg182
  z75 := Tryz.sizeOf182
  v75 := Tryz.zeroValue182
  t164 := Tryz.underlying277
  a164 := Tryz.isAgg277
  z164 := Tryz.sizeOf277
  v164 := Tryz.zeroValue277
theorem lays_n169 : Lays.n169 Tryz.prog renB where
  mixed := by kernel_rfl
  f169 := Tryz.func125.trans (congrArg some (by kernel_rfl))
  t0 := Tryz.underlying0
  a0 := Tryz.isAgg0
  z0 := Tryz.sizeOf0
  v0 := Tryz.zeroValue0
  t3 := Tryz.underlying3
  a3 := Tryz.isAgg3
  z3 := Tryz.sizeOf3
  v3 := Tryz.zeroValue3
  t9 := Tryz.underlying9
  a9 := Tryz.isAgg9
  z9 := Tryz.sizeOf9
  v9 := Tryz.zeroValue9
  t37 := Tryz.underlying178
  a37 := Tryz.isAgg178
  z37 := Tryz.sizeOf178
  v37 := Tryz.zeroValue178
  t70 := Tryz.underlying177
  a70 := Tryz.isAgg177
  z70 := Tryz.sizeOf177
  v70 := Tryz.zeroValue177
  t72 := Tryz.underlying180
  a72 := Tryz.isAgg180
  z72 := Tryz.sizeOf180
  v72 := Tryz.zeroValue180
  t127 := Tryz.underlying246
  a127 := Tryz.isAgg246
  z127 := Tryz.sizeOf246
  v127 := Tryz.zeroValue246
theorem lays_n170 : Lays.n170 Tryz.prog renB where
  mixed := by kernel_rfl
  f170 := Tryz.func124.trans (congrArg some (by kernel_rfl))
  t0 := Tryz.underlying0
  a0 := Tryz.isAgg0
  z0 := Tryz.sizeOf0
  v0 := Tryz.zeroValue0
  t3 := Tryz.underlying3
  a3 := Tryz.isAgg3
  z3 := Tryz.sizeOf3
  v3 := Tryz.zeroValue3
  t37 := Tryz.underlying178
  a37 := Tryz.isAgg178
  z37 := Tryz.sizeOf178
  v37 := Tryz.zeroValue178
  t70 := Tryz.underlying177
  a70 := Tryz.isAgg177
  z70 := Tryz.sizeOf177
  v70 := Tryz.zeroValue177
  t72 := Tryz.underlying180
  a72 := Tryz.isAgg180
  z72 := Tryz.sizeOf180
  v72 := Tryz.zeroValue180
theorem extraB : Builder.Extra Tryz.prog renB where
  sizeBuilder := by kernel_rfl
  liesBuilder := by kernel_rfl
  t5 := Tryz.underlying5
  a5 := Tryz.isAgg5
  z5 := Tryz.sizeOf5
  v5 := Tryz.zeroValue5
  infoByte := by kernel_rfl
  cellsByte := by kernel_rfl
  sizeByte := by kernel_rfl
  neB5 := by decide

theorem prims0_ok : ∀ f p, primT0 f = some p → ∀ {F B : Nat} fl args h v h', p fl args h = some (v, h') → CallOk Tryz.prog F B fl f args h v h' := by
  intro f p hp F B fl args h v h' hx
  unfold primT0 at hp
  cases e1 : Nat.beq f 124 with
  | true =>
    rw [e1] at hp; cases hp
    rw [nbeq, decide_eq_true_eq] at e1; subst e1
    exact bLen_ok (ρ := renB) lays_n170 hx
  | false =>
  rw [e1] at hp; simp only [cond_false] at hp
  cases e2 : Nat.beq f 245 with
  | true =>
    rw [e2] at hp; cases hp
    rw [nbeq, decide_eq_true_eq] at e2; subst e2
    exact indexByteString_ok Tryz.func245 (by kernel_rfl) (by kernel_rfl) (by kernel_rfl) (by kernel_rfl) hx
  | false =>
  rw [e2] at hp; simp only [cond_false] at hp
  cases e3 : Nat.beq f 271 with
  | true =>
    rw [e3] at hp; cases hp
    rw [nbeq, decide_eq_true_eq] at e3; subst e3
    exact countString_ok Tryz.func271 (by kernel_rfl) (by kernel_rfl) (by kernel_rfl) (by kernel_rfl) hx
  | false =>
  rw [e3] at hp; simp only [cond_false] at hp
  cases e4 : Nat.beq f 121 with
  | true =>
    rw [e4] at hp; cases hp
    rw [nbeq, decide_eq_true_eq] at e4; subst e4
    exact writeString_ok (ρ := renB) lays_n166 extraB (by kernel_rfl) (by kernel_rfl) (z := [.int .u8 0]) (by kernel_rfl) rfl hx
  | false =>
  rw [e4] at hp; simp only [cond_false] at hp
  cases e5 : Nat.beq f 220 with
  | true =>
    rw [e5] at hp; cases hp
    rw [nbeq, decide_eq_true_eq] at e5; subst e5
    exact bGrow_ok (ρ := renB) lays_n165 extraB hx
  | false =>
  rw [e5] at hp; simp only [cond_false] at hp
  cases e6 : Nat.beq f 125 with
  | true =>
    rw [e6] at hp; cases hp
    rw [nbeq, decide_eq_true_eq] at e6; subst e6
    exact bString_ok (ρ := renB) lays_n169 extraB hx
  | false =>
  rw [e6] at hp; cases hp
end Go.Proofs.YtndlfkibcelhmaaGreatDoor.Ai
end
section
set_option maxRecDepth 100000
namespace Go.Proofs.YtndlfkibcelhmaaGreatDoor.Ai
open Go Go.Proofs

theorem tab0_ok (F B : Nat) : TabOk Tryz.prog F B T0 where
  fns f fn h := fns_ok f fn h
  prim f p hp fl args h v h' hx := prims0_ok f p hp fl args h v h' hx
theorem env0_ok (F B : Nat) (m : Nat) : EnvOk Tryz.prog F B (aCall T0 m) := call_ok (tab0_ok F B) (fun E hE fl nt hfl => drawn_ok hE hfl) m
theorem globals8 : Tryz.prog.globals.size = 8 := by kernel_rfl
theorem awake_of {E : Env} (hE : ∀ B, EnvOk Tryz.prog 8 B E) {h1 : AH} (hr : E.call 8 17 [] h0 = some (.bool true, h1)) {F B fl : Nat} {h : AH} : CallOk Tryz.prog F B fl 17 [] h (.bool true) h := by
  unfold h0 at hr
  exact closed_ok (E := E) (G := 8) (f := 17) hE globals8 hr
theorem awake_call {F B fl : Nat} {h : AH} : CallOk Tryz.prog F B fl 17 [] h (.bool true) h :=
  awake_run0.elim fun _ hr => awake_of (fun B => env0_ok 8 B 300) hr
theorem prims_ok : ∀ f p, primT f = some p → ∀ {F B : Nat} fl args h v h', p fl args h = some (v, h') → CallOk Tryz.prog F B fl f args h v h' := by
  intro f p hp F B fl args h v h' hx
  unfold primT at hp
  cases e1 : Nat.beq f 17 with
  | true =>
    rw [e1] at hp
    simp only [cond_true, Option.some.injEq] at hp
    subst hp
    rw [nbeq, decide_eq_true_eq] at e1
    subst e1
    match args, hx with
    | [], hx =>
      simp only [pTrue, Option.some.injEq, Prod.mk.injEq] at hx
      obtain ⟨rfl, rfl⟩ := hx
      exact awake_call
  | false =>
    rw [e1] at hp
    simp only [cond_false] at hp
    exact prims0_ok f p hp fl args h v h' hx
theorem tab_ok (F B : Nat) : TabOk Tryz.prog F B T where
  fns f fn h := fns_ok f fn h
  prim f p hp fl args h v h' hx := prims_ok f p hp fl args h v h' hx
theorem env_ok (F B : Nat) (m : Nat) : EnvOk Tryz.prog F B (aCall T m) := call_ok (tab_ok F B) (fun E hE fl nt hfl => drawn_ok hE hfl) m

/-- What a contract says of the machine. -/
theorem cl_calls {F B fl : Nat} {f : FuncId} {args : List AVal} {h : AH} {Q : AVal → AH → Prop} (hc : Cl T fl f args h Q) (hF : F ≤ fl) (hfl : fl ≤ h.n) {μ : Mu} {vs : Array Value} {w : World} (hr : HR Tryz.prog F B μ h w.heap) (ra : Reps μ args vs.toList) :
    ∃ v h' μ' x w', Q v h' ∧ Goes Tryz.prog (callFunc f vs) w x w' ∧ Same w w' ∧ HR Tryz.prog F B μ' h' w'.heap ∧ Ext F fl μ h w.heap μ' h' w'.heap ∧ Rep μ' v x := by
  obtain ⟨v, h', ⟨k, hk⟩, hq⟩ := hc
  obtain ⟨μ', x, w', ⟨h1, h2⟩, h3, h4, h5⟩ := (env_ok F B k).call fl f args h v h' (hk k (Nat.le_refl _)) hF hfl μ vs w hr ra
  exact ⟨v, h', μ', x, w', hq, h1, h2, h3, h4, h5⟩
end Go.Proofs.YtndlfkibcelhmaaGreatDoor.Ai
end
