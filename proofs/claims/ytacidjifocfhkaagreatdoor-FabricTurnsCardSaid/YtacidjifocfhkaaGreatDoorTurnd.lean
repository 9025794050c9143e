/-
  Part 4 of the proof of: PROVED: for every number of harts and ways and every list of turns, FabricTurns returns true, and all arguments read afterwards as they read before. CONDITIONS: the five errors of package api that the row lists read, when the call begins, as the program's text lays them (the card ties them); nothing else is asked.
-/
import Derived.Test.YtacidjifocfhkaaGreatDoorTurnc
import Derived.Test.YtacidjifocfhkaaGreatDoorProg
import Derived.KernelRfl
namespace Go.Proofs
open Go Go.NW
set_option linter.unusedVariables false
set_option maxRecDepth 100000
namespace YtacidjifocfhkaaGreatDoor
def F109_5 (t6 : Value) (H : Hp) (Q : RT1) : Prop :=
  Q t6 H
def F109_9 (t6 t25 t26 t27 : Value) (H : Hp) (R8 : RT4) (Q : RT1) : Prop :=
  q (Bin Tryz.prog H .lss 3 false t27 t26) fun t28_1 =>
  condV t28_1 (
    q (Ix 1 t25 t27) fun t29_2 =>
    q (Ld H t29_2) fun t30_3 =>
    dm Tryz.prog (Builtin.append_ #[153, 153] 0 #[t6, t30_3]) H (fun t33_4 H_4 =>
    q (Bin Tryz.prog H_4 .add 3 true t27 (Value.int IntKind.i64 1)) fun t34_5 =>
    R8 t33_4 t25 t26 t34_5 H_4)) (
    F109_5 t6 H Q)
def F109_8 (t6 t25 t26 t27 : Value) (H : Hp) (Q : RT1) : Prop :=
  ∃ (I : RT2) (μ : Value → Value → Hp → Nat), I t6 t27 H ∧ ∀ n6 n27 H1, I n6 n27 H1 → F109_9 n6 t25 t26 n27 H1 (fun m6 m25 m26 m27 H2 => m25 = t25 ∧ m26 = t26 ∧ (I m6 m27 H2 ∧ μ m6 m27 H2 < μ n6 n27 H1)) Q
def F109_7 (t6 t25 t26 t27 : Value) (H : Hp) (Q : RT1) : Prop := F109_8 t6 t25 t26 t27 H Q
def F109_10 (t0 t6 : Value) (H : Hp) (Q : RT1) : Prop :=
  q (pv Tryz.prog (Builtin.len_ #[141] 0 #[t0])) fun t26_6 =>
  F109_7 t6 t0 t26_6 (Value.int IntKind.i64 0) H Q
def F109_6 (t0 t6 : Value) (H : Hp) (Q : RT1) : Prop := F109_10 t0 t6 H Q
def F109_4 (t0 t6 : Value) (H : Hp) (Q : RT1) : Prop := F109_6 t0 t6 H Q
def F109_11 (t0 t3 : Value) (H : Hp) (Q : RT1) : Prop :=
  NCalls Tryz.prog 135 #[(Value.slice none 0 0), t3] H (fun t24_7 H_7 =>
  F109_4 t0 t24_7 H_7 Q)
def F109_3 (t0 t3 : Value) (H : Hp) (Q : RT1) : Prop := F109_11 t0 t3 H Q
def F109_18 (t0 t3 t9 t10 t11 : Value) (H : Hp) (R14 : RT5) (Q : RT1) : Prop :=
  q (Bin Tryz.prog H .add 3 true t11 (Value.int IntKind.i64 1)) fun t22_8 =>
  R14 t0 t3 t9 t10 t22_8 H
def F109_19 (t0 t3 t9 t10 t11 : Value) (H : Hp) (R14 : RT5) (Q : RT1) : Prop :=
  q (Ix 1 t9 t11) fun t13_9 =>
  q (Ld H t13_9) fun t14_10 =>
  q (pv Tryz.prog (Builtin.len_ #[153] 0 #[t14_10])) fun t17_11 =>
  q (Bin Tryz.prog H .add 3 false t3 t17_11) fun t18_12 =>
  q (Bin Tryz.prog H .lss 3 true t18_12 (Value.int IntKind.i64 0)) fun t20_13 =>
  condV t20_13 (
    q (pv Tryz.prog (Instr.makeInterface 9 (Value.string { data := #[108, 101, 110, 32, 111, 117, 116, 32, 111, 102, 32, 114, 97, 110, 103, 101] }))) fun t21_14 =>
    False) (
    F109_18 t0 t18_12 t9 t10 t11 H R14 Q)
def F109_17 (t0 t3 t9 t10 t11 : Value) (H : Hp) (R14 : RT5) (Q : RT1) : Prop := F109_19 t0 t3 t9 t10 t11 H R14 Q
def F109_20 (t0 t3 t9 t10 t11 t12 : Value) (H : Hp) (R14 : RT5) (Q : RT1) : Prop :=
  condV t12 (
    F109_17 t0 t3 t9 t10 t11 H R14 Q) (
    F109_3 t0 t3 H Q)
def F109_16 (t0 t3 t9 t10 t11 t12 : Value) (H : Hp) (R14 : RT5) (Q : RT1) : Prop := F109_20 t0 t3 t9 t10 t11 t12 H R14 Q
def F109_21 (t0 t3 t9 t10 t11 : Value) (H : Hp) (R14 : RT5) (Q : RT1) : Prop :=
  q (Bin Tryz.prog H .lss 3 false t11 t10) fun t12_16 =>
  F109_16 t0 t3 t9 t10 t11 t12_16 H R14 Q
def F109_15 (t0 t3 t9 t10 t11 : Value) (H : Hp) (R14 : RT5) (Q : RT1) : Prop := F109_21 t0 t3 t9 t10 t11 H R14 Q
def F109_14 (t0 t3 t9 t10 t11 : Value) (H : Hp) (Q : RT1) : Prop :=
  ∃ (I : RT2) (μ : Value → Value → Hp → Nat), I t3 t11 H ∧ ∀ n3 n11 H1, I n3 n11 H1 → F109_15 t0 n3 t9 t10 n11 H1 (fun m0 m3 m9 m10 m11 H2 => m0 = t0 ∧ m9 = t9 ∧ m10 = t10 ∧ (I m3 m11 H2 ∧ μ m3 m11 H2 < μ n3 n11 H1)) Q
def F109_13 (t0 t3 t9 t10 t11 : Value) (H : Hp) (Q : RT1) : Prop := F109_14 t0 t3 t9 t10 t11 H Q
def F109_22 (t0 t3 : Value) (H : Hp) (Q : RT1) : Prop :=
  q (pv Tryz.prog (Builtin.len_ #[141] 0 #[t0])) fun t10_17 =>
  F109_13 t0 t3 t0 t10_17 (Value.int IntKind.i64 0) H Q
def F109_12 (t0 t3 : Value) (H : Hp) (Q : RT1) : Prop := F109_22 t0 t3 H Q
def F109_2 (t0 t3 : Value) (H : Hp) (Q : RT1) : Prop := F109_12 t0 t3 H Q
def F109_23 (t0 : Value) (H : Hp) (Q : RT1) : Prop :=
  F109_2 t0 (Value.int IntKind.i64 0) H Q
def F109_1 (t0 : Value) (H : Hp) (Q : RT1) : Prop := F109_23 t0 H Q
def F109_24 (t0 : Value) (H : Hp) (Q : RT1) : Prop :=
  F109_1 t0 H Q
def F109_0 (t0 : Value) (H : Hp) (Q : RT1) : Prop := F109_24 t0 H Q
theorem A109_5 {fr : Fr} {H : Hp} {Q : RT1} (h : F109_5 (fr 6) H Q) : xCode Tryz.prog 36 (Code.r (Code.r (Code.r (Code.r (Code.r (bodyOf Tryz.f109)))))) (xRet Tryz.prog [.tmp 2] Q) fr H :=
  Eq.mp (by kernel_rfl) h
abbrev K109_0 (Q : RT1) : QT := thenK (fun fr H => F109_5 (fr 6) H Q) (xRet Tryz.prog [.tmp 2] Q)
theorem A109_9 {fr : Fr} {H : Hp} {R8 : RT4} {Q : RT1} (h : F109_9 (fr 6) (fr 25) (fr 26) (fr 27) H R8 Q) : xCode Tryz.prog 36 (Code.l (Code.l (Code.r (Code.l (Code.r (Code.r (Code.r (Code.r (bodyOf Tryz.f109))))))))) (thenK (fun fr H => R8 (fr 6) (fr 25) (fr 26) (fr 27) H) (blockK 2 (K109_0 Q))) fr H :=
  Eq.mp (by kernel_rfl) h
theorem A109_8 {fr : Fr} {H : Hp} {Q : RT1} (h : F109_8 (fr 6) (fr 25) (fr 26) (fr 27) H Q) : xCode Tryz.prog 36 (Code.l (Code.r (Code.l (Code.r (Code.r (Code.r (Code.r (bodyOf Tryz.f109)))))))) (blockK 2 (K109_0 Q)) fr H := by
  obtain ⟨I, μ, h0, hr⟩ := h
  refine loop_cut (a := (Code.l (Code.l (Code.r (Code.l (Code.r (Code.r (Code.r (Code.r (bodyOf Tryz.f109)))))))))) (by kernel_rfl) (fun fr1 H1 => fr1 25 = fr 25 ∧ fr1 26 = fr 26 ∧ I (fr1 6) (fr1 27) H1) (fun fr1 H1 => μ (fr1 6) (fr1 27) H1) (by exact ⟨rfl, rfl, h0⟩) ?_
  intro fr1 H1 hI
  obtain ⟨hu25, hu26, hI⟩ := hI
  have hb := hr (fr1 6) (fr1 27) H1 hI
  rw [← hu25] at hb; rw [← hu26] at hb
  refine ⟨_, ?_, A109_9 hb⟩
  intro fr2 H2 hj
  obtain ⟨ku25, ku26, hI2, hlt⟩ := hj
  exact ⟨⟨(ku25.trans hu25), (ku26.trans hu26), hI2⟩, hlt⟩
theorem A109_7 {fr : Fr} {H : Hp} {Q : RT1} (h : F109_7 (fr 6) (fr 25) (fr 26) (fr 27) H Q) : xCode Tryz.prog 36 (Code.r (Code.l (Code.r (Code.r (Code.r (Code.r (bodyOf Tryz.f109))))))) (K109_0 Q) fr H :=
  block_cut (by kernel_rfl) (A109_8 h)
theorem A109_10 {fr : Fr} {H : Hp} {Q : RT1} (h : F109_10 (fr 0) (fr 6) H Q) : xCode Tryz.prog 36 (Code.l (Code.l (Code.r (Code.r (Code.r (Code.r (bodyOf Tryz.f109))))))) (thenK (fun fr H => F109_7 (fr 6) (fr 25) (fr 26) (fr 27) H Q) (K109_0 Q)) fr H :=
  Eq.mp (by kernel_rfl) h
theorem A109_6 {fr : Fr} {H : Hp} {Q : RT1} (h : F109_6 (fr 0) (fr 6) H Q) : xCode Tryz.prog 36 (Code.l (Code.r (Code.r (Code.r (Code.r (bodyOf Tryz.f109)))))) (K109_0 Q) fr H :=
  seq_cut (by kernel_rfl) (fun _ _ h => A109_7 h) (A109_10 h)
theorem A109_4 {fr : Fr} {H : Hp} {Q : RT1} (h : F109_4 (fr 0) (fr 6) H Q) : xCode Tryz.prog 36 (Code.r (Code.r (Code.r (Code.r (bodyOf Tryz.f109))))) (xRet Tryz.prog [.tmp 2] Q) fr H :=
  seq_cut (by kernel_rfl) (fun _ _ h => A109_5 h) (A109_6 h)
theorem A109_11 {fr : Fr} {H : Hp} {Q : RT1} (h : F109_11 (fr 0) (fr 3) H Q) : xCode Tryz.prog 36 (Code.l (Code.r (Code.r (Code.r (bodyOf Tryz.f109))))) (thenK (fun fr H => F109_4 (fr 0) (fr 6) H Q) (xRet Tryz.prog [.tmp 2] Q)) fr H :=
  Eq.mp (by kernel_rfl) h
theorem A109_3 {fr : Fr} {H : Hp} {Q : RT1} (h : F109_3 (fr 0) (fr 3) H Q) : xCode Tryz.prog 36 (Code.r (Code.r (Code.r (bodyOf Tryz.f109)))) (xRet Tryz.prog [.tmp 2] Q) fr H :=
  seq_cut (by kernel_rfl) (fun _ _ h => A109_4 h) (A109_11 h)
abbrev K109_1 (Q : RT1) : QT := thenK (fun fr H => F109_3 (fr 0) (fr 3) H Q) (xRet Tryz.prog [.tmp 2] Q)
abbrev K109_2 (R14 : RT5) (Q : RT1) : QT := thenK (fun fr H => R14 (fr 0) (fr 3) (fr 9) (fr 10) (fr 11) H) (blockK 0 (K109_1 Q))
theorem A109_18 {fr : Fr} {H : Hp} {R14 : RT5} {Q : RT1} (h : F109_18 (fr 0) (fr 3) (fr 9) (fr 10) (fr 11) H R14 Q) : xCode Tryz.prog 36 (Code.r (Code.r (Code.r (Code.l (Code.l (Code.r (Code.l (Code.r (Code.r (bodyOf Tryz.f109)))))))))) (K109_2 R14 Q) fr H :=
  Eq.mp (by kernel_rfl) h
theorem A109_19 {fr : Fr} {H : Hp} {R14 : RT5} {Q : RT1} (h : F109_19 (fr 0) (fr 3) (fr 9) (fr 10) (fr 11) H R14 Q) : xCode Tryz.prog 36 (Code.l (Code.r (Code.r (Code.l (Code.l (Code.r (Code.l (Code.r (Code.r (bodyOf Tryz.f109)))))))))) (thenK (fun fr H => F109_18 (fr 0) (fr 3) (fr 9) (fr 10) (fr 11) H R14 Q) (K109_2 R14 Q)) fr H :=
  Eq.mp (by kernel_rfl) h
theorem A109_17 {fr : Fr} {H : Hp} {R14 : RT5} {Q : RT1} (h : F109_17 (fr 0) (fr 3) (fr 9) (fr 10) (fr 11) H R14 Q) : xCode Tryz.prog 36 (Code.r (Code.r (Code.l (Code.l (Code.r (Code.l (Code.r (Code.r (bodyOf Tryz.f109))))))))) (K109_2 R14 Q) fr H :=
  seq_cut (by kernel_rfl) (fun _ _ h => A109_18 h) (A109_19 h)
theorem A109_20 {fr : Fr} {H : Hp} {R14 : RT5} {Q : RT1} (h : F109_20 (fr 0) (fr 3) (fr 9) (fr 10) (fr 11) (fr 12) H R14 Q) : xCode Tryz.prog 36 (Code.l (Code.r (Code.l (Code.l (Code.r (Code.l (Code.r (Code.r (bodyOf Tryz.f109))))))))) (thenK (fun fr H => F109_17 (fr 0) (fr 3) (fr 9) (fr 10) (fr 11) H R14 Q) (K109_2 R14 Q)) fr H :=
  Eq.mp (by kernel_rfl) h
theorem A109_16 {fr : Fr} {H : Hp} {R14 : RT5} {Q : RT1} (h : F109_16 (fr 0) (fr 3) (fr 9) (fr 10) (fr 11) (fr 12) H R14 Q) : xCode Tryz.prog 36 (Code.r (Code.l (Code.l (Code.r (Code.l (Code.r (Code.r (bodyOf Tryz.f109)))))))) (K109_2 R14 Q) fr H :=
  seq_cut (by kernel_rfl) (fun _ _ h => A109_17 h) (A109_20 h)
theorem A109_21 {fr : Fr} {H : Hp} {R14 : RT5} {Q : RT1} (h : F109_21 (fr 0) (fr 3) (fr 9) (fr 10) (fr 11) H R14 Q) : xCode Tryz.prog 36 (Code.l (Code.l (Code.l (Code.r (Code.l (Code.r (Code.r (bodyOf Tryz.f109)))))))) (thenK (fun fr H => F109_16 (fr 0) (fr 3) (fr 9) (fr 10) (fr 11) (fr 12) H R14 Q) (K109_2 R14 Q)) fr H :=
  Eq.mp (by kernel_rfl) h
theorem A109_15 {fr : Fr} {H : Hp} {R14 : RT5} {Q : RT1} (h : F109_15 (fr 0) (fr 3) (fr 9) (fr 10) (fr 11) H R14 Q) : xCode Tryz.prog 36 (Code.l (Code.l (Code.r (Code.l (Code.r (Code.r (bodyOf Tryz.f109))))))) (K109_2 R14 Q) fr H :=
  seq_cut (by kernel_rfl) (fun _ _ h => A109_16 h) (A109_21 h)
theorem A109_14 {fr : Fr} {H : Hp} {Q : RT1} (h : F109_14 (fr 0) (fr 3) (fr 9) (fr 10) (fr 11) H Q) : xCode Tryz.prog 36 (Code.l (Code.r (Code.l (Code.r (Code.r (bodyOf Tryz.f109)))))) (blockK 0 (K109_1 Q)) fr H := by
  obtain ⟨I, μ, h0, hr⟩ := h
  refine loop_cut (a := (Code.l (Code.l (Code.r (Code.l (Code.r (Code.r (bodyOf Tryz.f109)))))))) (by kernel_rfl) (fun fr1 H1 => fr1 0 = fr 0 ∧ fr1 9 = fr 9 ∧ fr1 10 = fr 10 ∧ I (fr1 3) (fr1 11) H1) (fun fr1 H1 => μ (fr1 3) (fr1 11) H1) (by exact ⟨rfl, rfl, rfl, h0⟩) ?_
  intro fr1 H1 hI
  obtain ⟨hu0, hu9, hu10, hI⟩ := hI
  have hb := hr (fr1 3) (fr1 11) H1 hI
  rw [← hu0] at hb; rw [← hu9] at hb; rw [← hu10] at hb
  refine ⟨_, ?_, A109_15 hb⟩
  intro fr2 H2 hj
  obtain ⟨ku0, ku9, ku10, hI2, hlt⟩ := hj
  exact ⟨⟨(ku0.trans hu0), (ku9.trans hu9), (ku10.trans hu10), hI2⟩, hlt⟩
theorem A109_13 {fr : Fr} {H : Hp} {Q : RT1} (h : F109_13 (fr 0) (fr 3) (fr 9) (fr 10) (fr 11) H Q) : xCode Tryz.prog 36 (Code.r (Code.l (Code.r (Code.r (bodyOf Tryz.f109))))) (K109_1 Q) fr H :=
  block_cut (by kernel_rfl) (A109_14 h)
theorem A109_22 {fr : Fr} {H : Hp} {Q : RT1} (h : F109_22 (fr 0) (fr 3) H Q) : xCode Tryz.prog 36 (Code.l (Code.l (Code.r (Code.r (bodyOf Tryz.f109))))) (thenK (fun fr H => F109_13 (fr 0) (fr 3) (fr 9) (fr 10) (fr 11) H Q) (K109_1 Q)) fr H :=
  Eq.mp (by kernel_rfl) h
theorem A109_12 {fr : Fr} {H : Hp} {Q : RT1} (h : F109_12 (fr 0) (fr 3) H Q) : xCode Tryz.prog 36 (Code.l (Code.r (Code.r (bodyOf Tryz.f109)))) (K109_1 Q) fr H :=
  seq_cut (by kernel_rfl) (fun _ _ h => A109_13 h) (A109_22 h)
theorem A109_2 {fr : Fr} {H : Hp} {Q : RT1} (h : F109_2 (fr 0) (fr 3) H Q) : xCode Tryz.prog 36 (Code.r (Code.r (bodyOf Tryz.f109))) (xRet Tryz.prog [.tmp 2] Q) fr H :=
  seq_cut (by kernel_rfl) (fun _ _ h => A109_3 h) (A109_12 h)
theorem A109_23 {fr : Fr} {H : Hp} {Q : RT1} (h : F109_23 (fr 0) H Q) : xCode Tryz.prog 36 (Code.l (Code.r (bodyOf Tryz.f109))) (thenK (fun fr H => F109_2 (fr 0) (fr 3) H Q) (xRet Tryz.prog [.tmp 2] Q)) fr H :=
  Eq.mp (by kernel_rfl) h
theorem A109_1 {fr : Fr} {H : Hp} {Q : RT1} (h : F109_1 (fr 0) H Q) : xCode Tryz.prog 36 (Code.r (bodyOf Tryz.f109)) (xRet Tryz.prog [.tmp 2] Q) fr H :=
  seq_cut (by kernel_rfl) (fun _ _ h => A109_2 h) (A109_23 h)
theorem A109_24 {fr : Fr} {H : Hp} {Q : RT1} (h : F109_24 (fr 0) H Q) : xCode Tryz.prog 36 (Code.l (bodyOf Tryz.f109)) (thenK (fun fr H => F109_1 (fr 0) H Q) (xRet Tryz.prog [.tmp 2] Q)) fr H :=
  Eq.mp (by kernel_rfl) h
theorem A109_0 {fr : Fr} {H : Hp} {Q : RT1} (h : F109_0 (fr 0) H Q) : xCode Tryz.prog 36 (bodyOf Tryz.f109) (xRet Tryz.prog [.tmp 2] Q) fr H :=
  seq_cut (by kernel_rfl) (fun _ _ h => A109_1 h) (A109_24 h)
theorem E109 {t0 : Value} {H : Hp} {Q : RT1} (h : F109_0 t0 H Q) : NCalls Tryz.prog 109 #[t0] H Q :=
  NCalls.ofBody (by kernel_rfl) Tryz.func109 (by kernel_rfl) (by kernel_rfl) (Eq.mp (by kernel_rfl) (A109_0 (fr := fun i => (#[t0] : Array Value).getD i undef) (H := H) (Q := Q) (Eq.mp (by kernel_rfl) h)))
def F110_0 (t0 t1 : Value) (H : Hp) (Q : RT1) : Prop :=
  q (pv Tryz.prog (Builtin.len_ #[153] 0 #[t0])) fun t6_1 =>
  q (pv Tryz.prog (convert 3 130 t6_1)) fun t10_2 =>
  NCalls Tryz.prog 137 #[t10_2] H (fun t11_3 H_3 =>
  NCalls Tryz.prog 136 #[t0, (Value.int IntKind.i64 0), t6_1, t11_3, t1] H_3 (fun t13_4 H_4 =>
  Q (Value.tuple #[]) H_4))
theorem A110_0 {fr : Fr} {H : Hp} {Q : RT1} (h : F110_0 (fr 0) (fr 1) H Q) : xCode Tryz.prog 14 (bodyOf Tryz.f110) (xRet Tryz.prog [] Q) fr H :=
  Eq.mp (by kernel_rfl) h
theorem E110 {t0 t1 : Value} {H : Hp} {Q : RT1} (h : F110_0 t0 t1 H Q) : NCalls Tryz.prog 110 #[t0, t1] H Q :=
  NCalls.ofBody (by kernel_rfl) Tryz.func110 (by kernel_rfl) (by kernel_rfl) (Eq.mp (by kernel_rfl) (A110_0 (fr := fun i => (#[t0, t1] : Array Value).getD i undef) (H := H) (Q := Q) (Eq.mp (by kernel_rfl) h)))
def F111_0 (t0 t1 : Value) (H : Hp) (Q : RT1) : Prop :=
  New (Value.cells t0) 123 H (fun t2_1 H_1 =>
  New (Value.cells t1) 123 H_1 (fun t3_2 H_2 =>
  q (Fa 0 t2_1) fun t5_3 =>
  q (Ld H_2 t5_3) fun t6_4 =>
  q (Fa 0 t3_2) fun t7_5 =>
  q (Ld H_2 t7_5) fun t8_6 =>
  q (Bin Tryz.prog H_2 .sub 3 false t6_4 t8_6) fun t9_7 =>
  Q t9_7 H_2))
theorem A111_0 {fr : Fr} {H : Hp} {Q : RT1} (h : F111_0 (fr 0) (fr 1) H Q) : xCode Tryz.prog 10 (bodyOf Tryz.f111) (xRet Tryz.prog [.tmp 4] Q) fr H :=
  Eq.mp (by kernel_rfl) h
theorem E111 {t0 t1 : Value} {H : Hp} {Q : RT1} (h : F111_0 t0 t1 H Q) : NCalls Tryz.prog 111 #[t0, t1] H Q :=
  NCalls.ofBody (by kernel_rfl) Tryz.func111 (by kernel_rfl) (by kernel_rfl) (Eq.mp (by kernel_rfl) (A111_0 (fr := fun i => (#[t0, t1] : Array Value).getD i undef) (H := H) (Q := Q) (Eq.mp (by kernel_rfl) h)))
def F112_0 (t0 t1 : Value) (H : Hp) (Q : RT1) : Prop :=
  NCalls Tryz.prog 138 #[t0, t1] H (fun t7_1 H_1 =>
  q (Bin Tryz.prog H_1 .geq 3 true t7_1 (Value.int IntKind.i64 0)) fun t8_2 =>
  Q t8_2 H_1)
theorem A112_0 {fr : Fr} {H : Hp} {Q : RT1} (h : F112_0 (fr 0) (fr 1) H Q) : xCode Tryz.prog 9 (bodyOf Tryz.f112) (xRet Tryz.prog [.tmp 4] Q) fr H :=
  Eq.mp (by kernel_rfl) h
theorem E112 {t0 t1 : Value} {H : Hp} {Q : RT1} (h : F112_0 t0 t1 H Q) : NCalls Tryz.prog 112 #[t0, t1] H Q :=
  NCalls.ofBody (by kernel_rfl) Tryz.func112 (by kernel_rfl) (by kernel_rfl) (Eq.mp (by kernel_rfl) (A112_0 (fr := fun i => (#[t0, t1] : Array Value).getD i undef) (H := H) (Q := Q) (Eq.mp (by kernel_rfl) h)))
def F113_0 (t0 t1 t2 : Value) (H : Hp) (Q : RT1) : Prop :=
  New #[Value.int IntKind.i64 0, Value.int IntKind.i64 0, Value.int IntKind.i64 0, Value.int IntKind.i64 0, Value.int IntKind.u32 0, Value.int IntKind.u32 0, Value.int IntKind.u32 0, Value.int IntKind.u32 0, Value.bool false, Value.bool false, Value.bool false] 66 H (fun t6_1 H_1 =>
  NCalls Tryz.prog 85 #[t0, t1] H_1 (fun t10_2 H_2 =>
  New #[Value.int IntKind.i64 0, Value.int IntKind.i64 0, Value.int IntKind.i64 0, Value.int IntKind.i64 0, Value.int IntKind.u32 0, Value.int IntKind.u32 0, Value.int IntKind.u32 0, Value.int IntKind.u32 0, Value.bool false, Value.bool false, Value.bool false] 66 H_2 (fun t7_3 H_3 =>
  St 11 H_3 t7_3 t10_2 ((fun u_4 H_4 =>
  q (Nz t0) fun t12_5 =>
  q (Fa 3 t12_5) fun t13_6 =>
  q (LdA 4 H_4 t13_6) fun t14_7 =>
  q (Fa 4 t7_3) fun t17_8 =>
  NCalls Tryz.prog 133 #[t2] H_4 (fun t16_9 H_9 =>
  (LdA 4 H_9 t13_6) = some t14_7 ∧ (
  St 4 H_9 t17_8 t14_7 ((fun u_10 H_10 =>
  q (Fa 8 t7_3) fun t18_11 =>
  St 1 H_10 t18_11 (Value.bool true) ((fun u_12 H_12 =>
  q (Fa 9 t7_3) fun t19_13 =>
  St 1 H_12 t19_13 t16_9 ((fun u_14 H_14 =>
  q (LdA 11 H_14 t7_3) fun t20_15 =>
  St 11 H_14 t6_1 t20_15 ((fun u_16 H_16 =>
  q (LdA 11 H_16 t6_1) fun r_17 =>
  Q r_17 H_16) undef)) undef)) undef)) undef)))) undef))))
theorem A113_0 {fr : Fr} {H : Hp} {Q : RT1} (h : F113_0 (fr 0) (fr 1) (fr 2) H Q) : xCode Tryz.prog 21 (bodyOf Tryz.f113) (xRet Tryz.prog [.cell 6 66] Q) fr H :=
  Eq.mp (by kernel_rfl) h
theorem E113 {t0 t1 t2 : Value} {H : Hp} {Q : RT1} (h : F113_0 t0 t1 t2 H Q) : NCalls Tryz.prog 113 #[t0, t1, t2] H Q :=
  NCalls.ofBody (by kernel_rfl) Tryz.func113 (by kernel_rfl) (by kernel_rfl) (Eq.mp (by kernel_rfl) (A113_0 (fr := fun i => (#[t0, t1, t2] : Array Value).getD i undef) (H := H) (Q := Q) (Eq.mp (by kernel_rfl) h)))
def F114_4 (t0 t1 t6 t7 : Value) (H : Hp) (Q : RT1) : Prop :=
  q (Bin Tryz.prog H .lss 3 false t7 t6) fun t34_1 =>
  q (gd t34_1 true (some t0)) fun t36_2 =>
  q (gd t34_1 true (some t7)) fun t37_3 =>
  q (gd t34_1 true (Ix 1 t36_2 t37_3)) fun t38_4 =>
  q (gd t34_1 true (Ld H t38_4)) fun t39_5 =>
  q (gd t34_1 true (some t1)) fun t40_6 =>
  q (gd t34_1 true (Bin Tryz.prog H .eql 3 false t39_5 t40_6)) fun t41_7 =>
  q (gd t34_1 true (some t41_7)) fun t42_8 =>
  q (gd t42_8 false (some t0)) fun t43_9 =>
  q (gd t42_8 false (some t7)) fun t44_10 =>
  q (gd t42_8 false (Ix 1 t43_9 t44_10)) fun t45_11 =>
  q (gd t42_8 false (Ld H t45_11)) fun t46_12 =>
  gl t42_8 false (fun K => NCalls Tryz.prog 140 #[t46_12] H K) H fun t47_13 H_13 =>
  q (gd t42_8 false (some t47_13)) fun t48_14 =>
  q (gd t48_14 true (some t1)) fun t49_15 =>
  gl t48_14 true (fun K => NCalls Tryz.prog 140 #[t49_15] H_13 K) H_13 fun t50_16 H_16 =>
  q (gd t42_8 false (Pk t48_14 t50_16 (Value.bool false))) fun t51_17 =>
  q (gd t34_1 true (Pk t42_8 (Value.bool true) t51_17)) fun t52_18 =>
  q (Pk t34_1 t52_18 (Value.bool false)) fun t53_19 =>
  Q (Value.tuple #[t7, t53_19]) H_16
def F114_7 (t0 t1 t6 t7 t8 : Value) (H : Hp) (R6 : RT5) (Q : RT1) : Prop :=
  q (Bin Tryz.prog H .lss 3 false t7 t8) fun t15_20 =>
  condV t15_20 (
    q (Bin Tryz.prog H .add 3 false t7 t8) fun t18_21 =>
    q (pv Tryz.prog (convert 3 130 t18_21)) fun t19_22 =>
    q (Bin Tryz.prog H .shr 130 true t19_22 (Value.int IntKind.u64 1)) fun t20_23 =>
    q (pv Tryz.prog (convert 130 3 t20_23)) fun t21_24 =>
    q (Ix 1 t0 t21_24) fun t24_25 =>
    q (Ld H t24_25) fun t25_26 =>
    NCalls Tryz.prog 139 #[t25_26, t1] H (fun t27_27 H_27 =>
    condV t27_27 (
      q (Bin Tryz.prog H_27 .add 3 true t21_24 (Value.int IntKind.i64 1)) fun t29_28 =>
      R6 t0 t1 t6 t29_28 t8 H_27) (
      R6 t0 t1 t6 t7 t21_24 H_27))) (
    F114_4 t0 t1 t6 t7 H Q)
def F114_6 (t0 t1 t6 t7 t8 : Value) (H : Hp) (Q : RT1) : Prop :=
  ∃ (I : RT2) (μ : Value → Value → Hp → Nat), I t7 t8 H ∧ ∀ n7 n8 H1, I n7 n8 H1 → F114_7 t0 t1 t6 n7 n8 H1 (fun m0 m1 m6 m7 m8 H2 => m0 = t0 ∧ m1 = t1 ∧ m6 = t6 ∧ (I m7 m8 H2 ∧ μ m7 m8 H2 < μ n7 n8 H1)) Q
def F114_5 (t0 t1 t6 t7 t8 : Value) (H : Hp) (Q : RT1) : Prop := F114_6 t0 t1 t6 t7 t8 H Q
def F114_3 (t0 t1 t6 t7 t8 : Value) (H : Hp) (Q : RT1) : Prop := F114_5 t0 t1 t6 t7 t8 H Q
def F114_8 (t0 t1 t6 : Value) (H : Hp) (Q : RT1) : Prop :=
  F114_3 t0 t1 t6 (Value.int IntKind.i64 0) t6 H Q
def F114_2 (t0 t1 t6 : Value) (H : Hp) (Q : RT1) : Prop := F114_8 t0 t1 t6 H Q
def F114_9 (t0 t1 : Value) (H : Hp) (Q : RT1) : Prop :=
  q (pv Tryz.prog (Builtin.len_ #[49] 0 #[t0])) fun t11_29 =>
  F114_2 t0 t1 t11_29 H Q
def F114_1 (t0 t1 : Value) (H : Hp) (Q : RT1) : Prop := F114_9 t0 t1 H Q
def F114_10 (t0 t1 : Value) (H : Hp) (Q : RT1) : Prop :=
  F114_1 t0 t1 H Q
def F114_0 (t0 t1 : Value) (H : Hp) (Q : RT1) : Prop := F114_10 t0 t1 H Q
theorem A114_4 {fr : Fr} {H : Hp} {Q : RT1} (h : F114_4 (fr 0) (fr 1) (fr 6) (fr 7) H Q) : xCode Tryz.prog 54 (Code.r (Code.r (Code.r (Code.r (bodyOf Tryz.f114))))) (xRet Tryz.prog [.tmp 4, .tmp 5] Q) fr H :=
  Eq.mp (by kernel_rfl) h
abbrev K114_3 (Q : RT1) : QT := thenK (fun fr H => F114_4 (fr 0) (fr 1) (fr 6) (fr 7) H Q) (xRet Tryz.prog [.tmp 4, .tmp 5] Q)
theorem A114_7 {fr : Fr} {H : Hp} {R6 : RT5} {Q : RT1} (h : F114_7 (fr 0) (fr 1) (fr 6) (fr 7) (fr 8) H R6 Q) : xCode Tryz.prog 54 (Code.l (Code.l (Code.l (Code.r (Code.r (Code.r (bodyOf Tryz.f114))))))) (thenK (fun fr H => R6 (fr 0) (fr 1) (fr 6) (fr 7) (fr 8) H) (blockK 0 (K114_3 Q))) fr H :=
  Eq.mp (by kernel_rfl) h
theorem A114_6 {fr : Fr} {H : Hp} {Q : RT1} (h : F114_6 (fr 0) (fr 1) (fr 6) (fr 7) (fr 8) H Q) : xCode Tryz.prog 54 (Code.l (Code.l (Code.r (Code.r (Code.r (bodyOf Tryz.f114)))))) (blockK 0 (K114_3 Q)) fr H := by
  obtain ⟨I, μ, h0, hr⟩ := h
  refine loop_cut (a := (Code.l (Code.l (Code.l (Code.r (Code.r (Code.r (bodyOf Tryz.f114)))))))) (by kernel_rfl) (fun fr1 H1 => fr1 0 = fr 0 ∧ fr1 1 = fr 1 ∧ fr1 6 = fr 6 ∧ I (fr1 7) (fr1 8) H1) (fun fr1 H1 => μ (fr1 7) (fr1 8) H1) (by exact ⟨rfl, rfl, rfl, h0⟩) ?_
  intro fr1 H1 hI
  obtain ⟨hu0, hu1, hu6, hI⟩ := hI
  have hb := hr (fr1 7) (fr1 8) H1 hI
  rw [← hu0] at hb; rw [← hu1] at hb; rw [← hu6] at hb
  refine ⟨_, ?_, A114_7 hb⟩
  intro fr2 H2 hj
  obtain ⟨ku0, ku1, ku6, hI2, hlt⟩ := hj
  exact ⟨⟨(ku0.trans hu0), (ku1.trans hu1), (ku6.trans hu6), hI2⟩, hlt⟩
theorem A114_5 {fr : Fr} {H : Hp} {Q : RT1} (h : F114_5 (fr 0) (fr 1) (fr 6) (fr 7) (fr 8) H Q) : xCode Tryz.prog 54 (Code.l (Code.r (Code.r (Code.r (bodyOf Tryz.f114))))) (K114_3 Q) fr H :=
  block_cut (by kernel_rfl) (A114_6 h)
theorem A114_3 {fr : Fr} {H : Hp} {Q : RT1} (h : F114_3 (fr 0) (fr 1) (fr 6) (fr 7) (fr 8) H Q) : xCode Tryz.prog 54 (Code.r (Code.r (Code.r (bodyOf Tryz.f114)))) (xRet Tryz.prog [.tmp 4, .tmp 5] Q) fr H :=
  seq_cut (by kernel_rfl) (fun _ _ h => A114_4 h) (A114_5 h)
theorem A114_8 {fr : Fr} {H : Hp} {Q : RT1} (h : F114_8 (fr 0) (fr 1) (fr 6) H Q) : xCode Tryz.prog 54 (Code.l (Code.r (Code.r (bodyOf Tryz.f114)))) (thenK (fun fr H => F114_3 (fr 0) (fr 1) (fr 6) (fr 7) (fr 8) H Q) (xRet Tryz.prog [.tmp 4, .tmp 5] Q)) fr H :=
  Eq.mp (by kernel_rfl) h
theorem A114_2 {fr : Fr} {H : Hp} {Q : RT1} (h : F114_2 (fr 0) (fr 1) (fr 6) H Q) : xCode Tryz.prog 54 (Code.r (Code.r (bodyOf Tryz.f114))) (xRet Tryz.prog [.tmp 4, .tmp 5] Q) fr H :=
  seq_cut (by kernel_rfl) (fun _ _ h => A114_3 h) (A114_8 h)
theorem A114_9 {fr : Fr} {H : Hp} {Q : RT1} (h : F114_9 (fr 0) (fr 1) H Q) : xCode Tryz.prog 54 (Code.l (Code.r (bodyOf Tryz.f114))) (thenK (fun fr H => F114_2 (fr 0) (fr 1) (fr 6) H Q) (xRet Tryz.prog [.tmp 4, .tmp 5] Q)) fr H :=
  Eq.mp (by kernel_rfl) h
theorem A114_1 {fr : Fr} {H : Hp} {Q : RT1} (h : F114_1 (fr 0) (fr 1) H Q) : xCode Tryz.prog 54 (Code.r (bodyOf Tryz.f114)) (xRet Tryz.prog [.tmp 4, .tmp 5] Q) fr H :=
  seq_cut (by kernel_rfl) (fun _ _ h => A114_2 h) (A114_9 h)
theorem A114_10 {fr : Fr} {H : Hp} {Q : RT1} (h : F114_10 (fr 0) (fr 1) H Q) : xCode Tryz.prog 54 (Code.l (bodyOf Tryz.f114)) (thenK (fun fr H => F114_1 (fr 0) (fr 1) H Q) (xRet Tryz.prog [.tmp 4, .tmp 5] Q)) fr H :=
  Eq.mp (by kernel_rfl) h
theorem A114_0 {fr : Fr} {H : Hp} {Q : RT1} (h : F114_0 (fr 0) (fr 1) H Q) : xCode Tryz.prog 54 (bodyOf Tryz.f114) (xRet Tryz.prog [.tmp 4, .tmp 5] Q) fr H :=
  seq_cut (by kernel_rfl) (fun _ _ h => A114_1 h) (A114_10 h)
theorem E114 {t0 t1 : Value} {H : Hp} {Q : RT1} (h : F114_0 t0 t1 H Q) : NCalls Tryz.prog 114 #[t0, t1] H Q :=
  NCalls.ofBody (by kernel_rfl) Tryz.func114 (by kernel_rfl) (by kernel_rfl) (Eq.mp (by kernel_rfl) (A114_0 (fr := fun i => (#[t0, t1] : Array Value).getD i undef) (H := H) (Q := Q) (Eq.mp (by kernel_rfl) h)))
def F115_0 (t0 t1 t2 : Value) (H : Hp) (Q : RT1) : Prop :=
  q (Sl 1 t0 (some t1) none none) fun t12_1 =>
  q (pv Tryz.prog (Builtin.len_ #[49] 0 #[t2])) fun t14_2 =>
  q (Bin Tryz.prog H .eql 3 true t14_2 (Value.int IntKind.i64 0)) fun t16_3 =>
  condV t16_3 (
    Q t0 H) (
    q (pv Tryz.prog (Builtin.len_ #[49] 0 #[t0])) fun t19_4 =>
    q (Bin Tryz.prog H .eql 3 false t1 t19_4) fun t22_5 =>
    condV t22_5 (
      dm Tryz.prog (Builtin.append_ #[49, 49] 0 #[t0, t2]) H (fun t25_6 H_6 =>
      Q t25_6 H_6)) (
      q (Bin Tryz.prog H .add 3 false t19_4 t14_2) fun t28_7 =>
      q (pv Tryz.prog (Builtin.cap_ #[49] 0 #[t0])) fun t30_8 =>
      q (Bin Tryz.prog H .gtr 3 false t28_7 t30_8) fun t31_9 =>
      condV t31_9 (
        q (Sl 1 t0 none (some t1) none) fun t34_10 =>
        q (Bin Tryz.prog H .add 3 false t19_4 t14_2) fun t37_11 =>
        q (Bin Tryz.prog H .sub 3 false t37_11 t1) fun t39_12 =>
        dm Tryz.prog (Builtin.append_ #[49, 3] 0 #[t34_10, t39_12]) H (fun t40_13 H_13 =>
        q (Sl 1 t40_13 (some t1) none none) fun t43_14 =>
        dm Tryz.prog (Builtin.copy_ #[49, 49] 0 #[t43_14, t2]) H_13 (fun t45_15 H_15 =>
        q (Bin Tryz.prog H_15 .add 3 false t1 t14_2) fun t49_16 =>
        q (Sl 1 t40_13 (some t49_16) none none) fun t50_17 =>
        q (Sl 1 t0 (some t1) none none) fun t53_18 =>
        dm Tryz.prog (Builtin.copy_ #[49, 49] 0 #[t50_17, t53_18]) H_15 (fun t54_19 H_19 =>
        Q t40_13 H_19)))) (
        q (Bin Tryz.prog H .add 3 false t19_4 t14_2) fun t59_20 =>
        q (Sl 1 t0 none (some t59_20) none) fun t60_21 =>
        q (Bin Tryz.prog H .add 3 false t1 t14_2) fun t65_22 =>
        q (Sl 1 t60_21 (some t65_22) none none) fun t66_23 =>
        NCalls Tryz.prog 141 #[t2, t66_23] H (fun t67_24 H_24 =>
        q (pv Tryz.prog (Op.unary .not t67_24)) fun t68_25 =>
        condV t68_25 (
          q (Bin Tryz.prog H_24 .add 3 false t1 t14_2) fun t72_26 =>
          q (Sl 1 t60_21 (some t72_26) none none) fun t73_27 =>
          q (Sl 1 t60_21 (some t1) none none) fun t76_28 =>
          dm Tryz.prog (Builtin.copy_ #[49, 49] 0 #[t73_27, t76_28]) H_24 (fun t77_29 H_29 =>
          q (Sl 1 t60_21 (some t1) none none) fun t80_30 =>
          dm Tryz.prog (Builtin.copy_ #[49, 49] 0 #[t80_30, t2]) H_29 (fun t82_31 H_31 =>
          Q t60_21 H_31))) (
          q (Sl 1 t60_21 (some t19_4) none none) fun t86_32 =>
          dm Tryz.prog (Builtin.copy_ #[49, 49] 0 #[t86_32, t2]) H_24 (fun t88_33 H_33 =>
          q (Sl 1 t60_21 (some t1) none none) fun t91_34 =>
          NCalls Tryz.prog 142 #[t91_34, t14_2] H_33 (fun t93_35 H_35 =>
          Q t60_21 H_35)))))))
theorem A115_0 {fr : Fr} {H : Hp} {Q : RT1} (h : F115_0 (fr 0) (fr 1) (fr 2) H Q) : xCode Tryz.prog 95 (bodyOf Tryz.f115) (xRet Tryz.prog [.tmp 6] Q) fr H :=
  Eq.mp (by kernel_rfl) h
theorem E115 {t0 t1 t2 : Value} {H : Hp} {Q : RT1} (h : F115_0 t0 t1 t2 H Q) : NCalls Tryz.prog 115 #[t0, t1, t2] H Q :=
  NCalls.ofBody (by kernel_rfl) Tryz.func115 (by kernel_rfl) (by kernel_rfl) (Eq.mp (by kernel_rfl) (A115_0 (fr := fun i => (#[t0, t1, t2] : Array Value).getD i undef) (H := H) (Q := Q) (Eq.mp (by kernel_rfl) h)))
def F116_2 (H : Hp) (Q : RT1) : Prop :=
  Q (Value.int IntKind.i64 (-1)) H
def F116_6 (t0 t1 t7 t8 : Value) (H : Hp) (R5 : RT4) (Q : RT1) : Prop :=
  q (Bin Tryz.prog H .lss 3 false t8 t7) fun t9_1 =>
  condV t9_1 (
    q (Ix 6 t0 t8) fun t14_2 =>
    q (LdA 6 H t14_2) fun t15_3 =>
    CallV Tryz.prog t1 [t15_3] H (fun t16_4 H_4 =>
    condV t16_4 (
      Q t8 H_4) (
      q (Bin Tryz.prog H_4 .add 3 true t8 (Value.int IntKind.i64 1)) fun t18_5 =>
      R5 t0 t1 t7 t18_5 H_4))) (
    F116_2 H Q)
def F116_5 (t0 t1 t7 t8 : Value) (H : Hp) (Q : RT1) : Prop :=
  ∃ (I : RT1) (μ : Value → Hp → Nat), I t8 H ∧ ∀ n8 H1, I n8 H1 → F116_6 t0 t1 t7 n8 H1 (fun m0 m1 m7 m8 H2 => m0 = t0 ∧ m1 = t1 ∧ m7 = t7 ∧ (I m8 H2 ∧ μ m8 H2 < μ n8 H1)) Q
def F116_4 (t0 t1 t7 t8 : Value) (H : Hp) (Q : RT1) : Prop := F116_5 t0 t1 t7 t8 H Q
def F116_7 (t0 t1 : Value) (H : Hp) (Q : RT1) : Prop :=
  q (pv Tryz.prog (Builtin.len_ #[153] 0 #[t0])) fun t7_6 =>
  F116_4 t0 t1 t7_6 (Value.int IntKind.i64 0) H Q
def F116_3 (t0 t1 : Value) (H : Hp) (Q : RT1) : Prop := F116_7 t0 t1 H Q
def F116_1 (t0 t1 : Value) (H : Hp) (Q : RT1) : Prop := F116_3 t0 t1 H Q
def F116_8 (t0 t1 : Value) (H : Hp) (Q : RT1) : Prop :=
  F116_1 t0 t1 H Q
def F116_0 (t0 t1 : Value) (H : Hp) (Q : RT1) : Prop := F116_8 t0 t1 H Q
theorem A116_2 {fr : Fr} {H : Hp} {Q : RT1} (h : F116_2 H Q) : xCode Tryz.prog 19 (Code.r (Code.r (bodyOf Tryz.f116))) (xRet Tryz.prog [.tmp 4] Q) fr H :=
  Eq.mp (by kernel_rfl) h
abbrev K116_4 (Q : RT1) : QT := thenK (fun fr H => F116_2 H Q) (xRet Tryz.prog [.tmp 4] Q)
theorem A116_6 {fr : Fr} {H : Hp} {R5 : RT4} {Q : RT1} (h : F116_6 (fr 0) (fr 1) (fr 7) (fr 8) H R5 Q) : xCode Tryz.prog 19 (Code.l (Code.l (Code.r (Code.l (Code.r (bodyOf Tryz.f116)))))) (thenK (fun fr H => R5 (fr 0) (fr 1) (fr 7) (fr 8) H) (blockK 0 (K116_4 Q))) fr H :=
  Eq.mp (by kernel_rfl) h
theorem A116_5 {fr : Fr} {H : Hp} {Q : RT1} (h : F116_5 (fr 0) (fr 1) (fr 7) (fr 8) H Q) : xCode Tryz.prog 19 (Code.l (Code.r (Code.l (Code.r (bodyOf Tryz.f116))))) (blockK 0 (K116_4 Q)) fr H := by
  obtain ⟨I, μ, h0, hr⟩ := h
  refine loop_cut (a := (Code.l (Code.l (Code.r (Code.l (Code.r (bodyOf Tryz.f116))))))) (by kernel_rfl) (fun fr1 H1 => fr1 0 = fr 0 ∧ fr1 1 = fr 1 ∧ fr1 7 = fr 7 ∧ I (fr1 8) H1) (fun fr1 H1 => μ (fr1 8) H1) (by exact ⟨rfl, rfl, rfl, h0⟩) ?_
  intro fr1 H1 hI
  obtain ⟨hu0, hu1, hu7, hI⟩ := hI
  have hb := hr (fr1 8) H1 hI
  rw [← hu0] at hb; rw [← hu1] at hb; rw [← hu7] at hb
  refine ⟨_, ?_, A116_6 hb⟩
  intro fr2 H2 hj
  obtain ⟨ku0, ku1, ku7, hI2, hlt⟩ := hj
  exact ⟨⟨(ku0.trans hu0), (ku1.trans hu1), (ku7.trans hu7), hI2⟩, hlt⟩
theorem A116_4 {fr : Fr} {H : Hp} {Q : RT1} (h : F116_4 (fr 0) (fr 1) (fr 7) (fr 8) H Q) : xCode Tryz.prog 19 (Code.r (Code.l (Code.r (bodyOf Tryz.f116)))) (K116_4 Q) fr H :=
  block_cut (by kernel_rfl) (A116_5 h)
theorem A116_7 {fr : Fr} {H : Hp} {Q : RT1} (h : F116_7 (fr 0) (fr 1) H Q) : xCode Tryz.prog 19 (Code.l (Code.l (Code.r (bodyOf Tryz.f116)))) (thenK (fun fr H => F116_4 (fr 0) (fr 1) (fr 7) (fr 8) H Q) (K116_4 Q)) fr H :=
  Eq.mp (by kernel_rfl) h
theorem A116_3 {fr : Fr} {H : Hp} {Q : RT1} (h : F116_3 (fr 0) (fr 1) H Q) : xCode Tryz.prog 19 (Code.l (Code.r (bodyOf Tryz.f116))) (K116_4 Q) fr H :=
  seq_cut (by kernel_rfl) (fun _ _ h => A116_4 h) (A116_7 h)
theorem A116_1 {fr : Fr} {H : Hp} {Q : RT1} (h : F116_1 (fr 0) (fr 1) H Q) : xCode Tryz.prog 19 (Code.r (bodyOf Tryz.f116)) (xRet Tryz.prog [.tmp 4] Q) fr H :=
  seq_cut (by kernel_rfl) (fun _ _ h => A116_2 h) (A116_3 h)
theorem A116_8 {fr : Fr} {H : Hp} {Q : RT1} (h : F116_8 (fr 0) (fr 1) H Q) : xCode Tryz.prog 19 (Code.l (bodyOf Tryz.f116)) (thenK (fun fr H => F116_1 (fr 0) (fr 1) H Q) (xRet Tryz.prog [.tmp 4] Q)) fr H :=
  Eq.mp (by kernel_rfl) h
theorem A116_0 {fr : Fr} {H : Hp} {Q : RT1} (h : F116_0 (fr 0) (fr 1) H Q) : xCode Tryz.prog 19 (bodyOf Tryz.f116) (xRet Tryz.prog [.tmp 4] Q) fr H :=
  seq_cut (by kernel_rfl) (fun _ _ h => A116_1 h) (A116_8 h)
theorem E116 {t0 t1 : Value} {H : Hp} {Q : RT1} (h : F116_0 t0 t1 H Q) : NCalls Tryz.prog 116 #[t0, t1] H Q :=
  NCalls.ofBody (by kernel_rfl) Tryz.func116 (by kernel_rfl) (by kernel_rfl) (Eq.mp (by kernel_rfl) (A116_0 (fr := fun i => (#[t0, t1] : Array Value).getD i undef) (H := H) (Q := Q) (Eq.mp (by kernel_rfl) h)))
def F117_0 (t0 t1 : Value) (H : Hp) (Q : RT1) : Prop :=
  New (Value.cells t0) 123 H (fun t2_1 H_1 =>
  q (Fa 0 t2_1) fun t4_2 =>
  q (Ld H_1 t4_2) fun t5_3 =>
  q (Ld H_1 t1) fun t6_4 =>
  q (Bin Tryz.prog H_1 .eql 3 false t5_3 t6_4) fun t7_5 =>
  Q t7_5 H_1)
theorem A117_0 {fr : Fr} {H : Hp} {Q : RT1} (h : F117_0 (fr 0) (fr 1) H Q) : xCode Tryz.prog 8 (bodyOf Tryz.f117) (xRet Tryz.prog [.tmp 3] Q) fr H :=
  Eq.mp (by kernel_rfl) h
theorem E117 {t0 t1 : Value} {H : Hp} {Q : RT1} (h : F117_0 t0 t1 H Q) : NCalls Tryz.prog 117 #[t0, t1] H Q :=
  NCalls.ofBody (by kernel_rfl) Tryz.func117 (by kernel_rfl) (by kernel_rfl) (Eq.mp (by kernel_rfl) (A117_0 (fr := fun i => (#[t0, t1] : Array Value).getD i undef) (H := H) (Q := Q) (Eq.mp (by kernel_rfl) h)))
def F118_0 (t0 : Value) (H : Hp) (Q : RT1) : Prop :=
  q (Bin Tryz.prog H .eql 153 true t0 (Value.slice none 0 0)) fun t4_1 =>
  condV t4_1 (
    Q (Value.slice none 0 0) H) (
    Bsl #[Value.int IntKind.i64 0, Value.int IntKind.i64 0, Value.int IntKind.u32 0, Value.int IntKind.u32 0, Value.int IntKind.u32 0, Value.int IntKind.u32 0] 6 123 0 [] H (fun t5_2 H_2 =>
    dm Tryz.prog (Builtin.append_ #[153, 153] 0 #[t5_2, t0]) H_2 (fun t7_3 H_3 =>
    Q t7_3 H_3)))
theorem A118_0 {fr : Fr} {H : Hp} {Q : RT1} (h : F118_0 (fr 0) H Q) : xCode Tryz.prog 8 (bodyOf Tryz.f118) (xRet Tryz.prog [.tmp 2] Q) fr H :=
  Eq.mp (by kernel_rfl) h
theorem E118 {t0 : Value} {H : Hp} {Q : RT1} (h : F118_0 t0 H Q) : NCalls Tryz.prog 118 #[t0] H Q :=
  NCalls.ofBody (by kernel_rfl) Tryz.func118 (by kernel_rfl) (by kernel_rfl) (Eq.mp (by kernel_rfl) (A118_0 (fr := fun i => (#[t0] : Array Value).getD i undef) (H := H) (Q := Q) (Eq.mp (by kernel_rfl) h)))
def F119_0 (t0 t1 t2 : Value) (H : Hp) (Q : RT1) : Prop :=
  q (pv Tryz.prog (Builtin.len_ #[153] 0 #[t0])) fun t12_1 =>
  q (Sl 6 t0 (some t1) (some t2) (some t12_1)) fun t13_2 =>
  q (Bin Tryz.prog H .eql 3 false t1 t2) fun t16_3 =>
  condV t16_3 (
    Q t0 H) (
    q (pv Tryz.prog (Builtin.len_ #[153] 0 #[t0])) fun t19_4 =>
    q (Sl 6 t0 none (some t1) none) fun t22_5 =>
    q (Sl 6 t0 (some t2) none none) fun t25_6 =>
    dm Tryz.prog (Builtin.append_ #[153, 153] 0 #[t22_5, t25_6]) H (fun t26_7 H_7 =>
    q (pv Tryz.prog (Builtin.len_ #[153] 0 #[t26_7])) fun t29_8 =>
    q (Sl 6 t26_7 (some t29_8) (some t19_4) none) fun t31_9 =>
    dm Tryz.prog (Builtin.clear_ #[153] 0 #[t31_9]) H_7 (fun u_10 H_10 =>
    Q t26_7 H_10)))
theorem A119_0 {fr : Fr} {H : Hp} {Q : RT1} (h : F119_0 (fr 0) (fr 1) (fr 2) H Q) : xCode Tryz.prog 33 (bodyOf Tryz.f119) (xRet Tryz.prog [.tmp 6] Q) fr H :=
  Eq.mp (by kernel_rfl) h
theorem E119 {t0 t1 t2 : Value} {H : Hp} {Q : RT1} (h : F119_0 t0 t1 t2 H Q) : NCalls Tryz.prog 119 #[t0, t1, t2] H Q :=
  NCalls.ofBody (by kernel_rfl) Tryz.func119 (by kernel_rfl) (by kernel_rfl) (Eq.mp (by kernel_rfl) (A119_0 (fr := fun i => (#[t0, t1, t2] : Array Value).getD i undef) (H := H) (Q := Q) (Eq.mp (by kernel_rfl) h)))
def F120_0 (t0 t1 : Value) (H : Hp) (Q : RT1) : Prop :=
  q (Bin Tryz.prog H .geq 3 true t0 (Value.int IntKind.i64 0)) fun t5_1 =>
  q (gd t5_1 true (some t0)) fun t7_2 =>
  q (gd t5_1 true (Ld H t1)) fun t8_3 =>
  q (gd t5_1 true (Nz t8_3)) fun t9_4 =>
  q (gd t5_1 true (Fa 0 t9_4)) fun t10_5 =>
  q (gd t5_1 true (Ld H t10_5)) fun t11_6 =>
  q (gd t5_1 true (Bin Tryz.prog H .lss 3 false t7_2 t11_6)) fun t12_7 =>
  q (Pk t5_1 t12_7 (Value.bool false)) fun t13_8 =>
  Q t13_8 H
theorem A120_0 {fr : Fr} {H : Hp} {Q : RT1} (h : F120_0 (fr 0) (fr 1) H Q) : xCode Tryz.prog 14 (bodyOf Tryz.f120) (xRet Tryz.prog [.tmp 3] Q) fr H :=
  Eq.mp (by kernel_rfl) h
theorem E120 {t0 t1 : Value} {H : Hp} {Q : RT1} (h : F120_0 t0 t1 H Q) : NCalls Tryz.prog 120 #[t0, t1] H Q :=
  NCalls.ofBody (by kernel_rfl) Tryz.func120 (by kernel_rfl) (by kernel_rfl) (Eq.mp (by kernel_rfl) (A120_0 (fr := fun i => (#[t0, t1] : Array Value).getD i undef) (H := H) (Q := Q) (Eq.mp (by kernel_rfl) h)))
def F121_2 (H : Hp) (Q : RT1) : Prop :=
  Q (Value.int IntKind.i64 (-1)) H
def F121_6 (t0 t1 t7 t8 : Value) (H : Hp) (R5 : RT4) (Q : RT1) : Prop :=
  q (Bin Tryz.prog H .lss 3 false t8 t7) fun t9_1 =>
  condV t9_1 (
    q (Ix 12 t0 t8) fun t14_2 =>
    q (LdA 12 H t14_2) fun t15_3 =>
    CallV Tryz.prog t1 [t15_3] H (fun t16_4 H_4 =>
    condV t16_4 (
      Q t8 H_4) (
      q (Bin Tryz.prog H_4 .add 3 true t8 (Value.int IntKind.i64 1)) fun t18_5 =>
      R5 t0 t1 t7 t18_5 H_4))) (
    F121_2 H Q)
def F121_5 (t0 t1 t7 t8 : Value) (H : Hp) (Q : RT1) : Prop :=
  ∃ (I : RT1) (μ : Value → Hp → Nat), I t8 H ∧ ∀ n8 H1, I n8 H1 → F121_6 t0 t1 t7 n8 H1 (fun m0 m1 m7 m8 H2 => m0 = t0 ∧ m1 = t1 ∧ m7 = t7 ∧ (I m8 H2 ∧ μ m8 H2 < μ n8 H1)) Q
def F121_4 (t0 t1 t7 t8 : Value) (H : Hp) (Q : RT1) : Prop := F121_5 t0 t1 t7 t8 H Q
def F121_7 (t0 t1 : Value) (H : Hp) (Q : RT1) : Prop :=
  q (pv Tryz.prog (Builtin.len_ #[38] 0 #[t0])) fun t7_6 =>
  F121_4 t0 t1 t7_6 (Value.int IntKind.i64 0) H Q
def F121_3 (t0 t1 : Value) (H : Hp) (Q : RT1) : Prop := F121_7 t0 t1 H Q
def F121_1 (t0 t1 : Value) (H : Hp) (Q : RT1) : Prop := F121_3 t0 t1 H Q
def F121_8 (t0 t1 : Value) (H : Hp) (Q : RT1) : Prop :=
  F121_1 t0 t1 H Q
def F121_0 (t0 t1 : Value) (H : Hp) (Q : RT1) : Prop := F121_8 t0 t1 H Q
theorem A121_2 {fr : Fr} {H : Hp} {Q : RT1} (h : F121_2 H Q) : xCode Tryz.prog 19 (Code.r (Code.r (bodyOf Tryz.f121))) (xRet Tryz.prog [.tmp 4] Q) fr H :=
  Eq.mp (by kernel_rfl) h
abbrev K121_5 (Q : RT1) : QT := thenK (fun fr H => F121_2 H Q) (xRet Tryz.prog [.tmp 4] Q)
theorem A121_6 {fr : Fr} {H : Hp} {R5 : RT4} {Q : RT1} (h : F121_6 (fr 0) (fr 1) (fr 7) (fr 8) H R5 Q) : xCode Tryz.prog 19 (Code.l (Code.l (Code.r (Code.l (Code.r (bodyOf Tryz.f121)))))) (thenK (fun fr H => R5 (fr 0) (fr 1) (fr 7) (fr 8) H) (blockK 0 (K121_5 Q))) fr H :=
  Eq.mp (by kernel_rfl) h
theorem A121_5 {fr : Fr} {H : Hp} {Q : RT1} (h : F121_5 (fr 0) (fr 1) (fr 7) (fr 8) H Q) : xCode Tryz.prog 19 (Code.l (Code.r (Code.l (Code.r (bodyOf Tryz.f121))))) (blockK 0 (K121_5 Q)) fr H := by
  obtain ⟨I, μ, h0, hr⟩ := h
  refine loop_cut (a := (Code.l (Code.l (Code.r (Code.l (Code.r (bodyOf Tryz.f121))))))) (by kernel_rfl) (fun fr1 H1 => fr1 0 = fr 0 ∧ fr1 1 = fr 1 ∧ fr1 7 = fr 7 ∧ I (fr1 8) H1) (fun fr1 H1 => μ (fr1 8) H1) (by exact ⟨rfl, rfl, rfl, h0⟩) ?_
  intro fr1 H1 hI
  obtain ⟨hu0, hu1, hu7, hI⟩ := hI
  have hb := hr (fr1 8) H1 hI
  rw [← hu0] at hb; rw [← hu1] at hb; rw [← hu7] at hb
  refine ⟨_, ?_, A121_6 hb⟩
  intro fr2 H2 hj
  obtain ⟨ku0, ku1, ku7, hI2, hlt⟩ := hj
  exact ⟨⟨(ku0.trans hu0), (ku1.trans hu1), (ku7.trans hu7), hI2⟩, hlt⟩
theorem A121_4 {fr : Fr} {H : Hp} {Q : RT1} (h : F121_4 (fr 0) (fr 1) (fr 7) (fr 8) H Q) : xCode Tryz.prog 19 (Code.r (Code.l (Code.r (bodyOf Tryz.f121)))) (K121_5 Q) fr H :=
  block_cut (by kernel_rfl) (A121_5 h)
theorem A121_7 {fr : Fr} {H : Hp} {Q : RT1} (h : F121_7 (fr 0) (fr 1) H Q) : xCode Tryz.prog 19 (Code.l (Code.l (Code.r (bodyOf Tryz.f121)))) (thenK (fun fr H => F121_4 (fr 0) (fr 1) (fr 7) (fr 8) H Q) (K121_5 Q)) fr H :=
  Eq.mp (by kernel_rfl) h
theorem A121_3 {fr : Fr} {H : Hp} {Q : RT1} (h : F121_3 (fr 0) (fr 1) H Q) : xCode Tryz.prog 19 (Code.l (Code.r (bodyOf Tryz.f121))) (K121_5 Q) fr H :=
  seq_cut (by kernel_rfl) (fun _ _ h => A121_4 h) (A121_7 h)
theorem A121_1 {fr : Fr} {H : Hp} {Q : RT1} (h : F121_1 (fr 0) (fr 1) H Q) : xCode Tryz.prog 19 (Code.r (bodyOf Tryz.f121)) (xRet Tryz.prog [.tmp 4] Q) fr H :=
  seq_cut (by kernel_rfl) (fun _ _ h => A121_2 h) (A121_3 h)
theorem A121_8 {fr : Fr} {H : Hp} {Q : RT1} (h : F121_8 (fr 0) (fr 1) H Q) : xCode Tryz.prog 19 (Code.l (bodyOf Tryz.f121)) (thenK (fun fr H => F121_1 (fr 0) (fr 1) H Q) (xRet Tryz.prog [.tmp 4] Q)) fr H :=
  Eq.mp (by kernel_rfl) h
theorem A121_0 {fr : Fr} {H : Hp} {Q : RT1} (h : F121_0 (fr 0) (fr 1) H Q) : xCode Tryz.prog 19 (bodyOf Tryz.f121) (xRet Tryz.prog [.tmp 4] Q) fr H :=
  seq_cut (by kernel_rfl) (fun _ _ h => A121_1 h) (A121_8 h)
theorem E121 {t0 t1 : Value} {H : Hp} {Q : RT1} (h : F121_0 t0 t1 H Q) : NCalls Tryz.prog 121 #[t0, t1] H Q :=
  NCalls.ofBody (by kernel_rfl) Tryz.func121 (by kernel_rfl) (by kernel_rfl) (Eq.mp (by kernel_rfl) (A121_0 (fr := fun i => (#[t0, t1] : Array Value).getD i undef) (H := H) (Q := Q) (Eq.mp (by kernel_rfl) h)))
def F122_0 (t0 t1 : Value) (H : Hp) (Q : RT1) : Prop :=
  New (Value.cells t0) 68 H (fun t2_1 H_1 =>
  q (Fa 0 t2_1) fun t4_2 =>
  q (Ld H_1 t4_2) fun t5_3 =>
  q (Ld H_1 t1) fun t6_4 =>
  q (Bin Tryz.prog H_1 .eql 3 false t5_3 t6_4) fun t7_5 =>
  Q t7_5 H_1)
theorem A122_0 {fr : Fr} {H : Hp} {Q : RT1} (h : F122_0 (fr 0) (fr 1) H Q) : xCode Tryz.prog 8 (bodyOf Tryz.f122) (xRet Tryz.prog [.tmp 3] Q) fr H :=
  Eq.mp (by kernel_rfl) h
theorem E122 {t0 t1 : Value} {H : Hp} {Q : RT1} (h : F122_0 t0 t1 H Q) : NCalls Tryz.prog 122 #[t0, t1] H Q :=
  NCalls.ofBody (by kernel_rfl) Tryz.func122 (by kernel_rfl) (by kernel_rfl) (Eq.mp (by kernel_rfl) (A122_0 (fr := fun i => (#[t0, t1] : Array Value).getD i undef) (H := H) (Q := Q) (Eq.mp (by kernel_rfl) h)))
def F123_0 (t0 : Value) (H : Hp) (Q : RT1) : Prop :=
  q (Bin Tryz.prog H .eql 63 true t0 (Value.slice none 0 0)) fun t4_1 =>
  condV t4_1 (
    Q (Value.slice none 0 0) H) (
    Bsl #[Value.bool false] 1 4 0 [] H (fun t5_2 H_2 =>
    dm Tryz.prog (Builtin.append_ #[63, 63] 0 #[t5_2, t0]) H_2 (fun t7_3 H_3 =>
    Q t7_3 H_3)))
theorem A123_0 {fr : Fr} {H : Hp} {Q : RT1} (h : F123_0 (fr 0) H Q) : xCode Tryz.prog 8 (bodyOf Tryz.f123) (xRet Tryz.prog [.tmp 2] Q) fr H :=
  Eq.mp (by kernel_rfl) h
theorem E123 {t0 : Value} {H : Hp} {Q : RT1} (h : F123_0 t0 H Q) : NCalls Tryz.prog 123 #[t0] H Q :=
  NCalls.ofBody (by kernel_rfl) Tryz.func123 (by kernel_rfl) (by kernel_rfl) (Eq.mp (by kernel_rfl) (A123_0 (fr := fun i => (#[t0] : Array Value).getD i undef) (H := H) (Q := Q) (Eq.mp (by kernel_rfl) h)))
def F124_0 (t0 : Value) (H : Hp) (Q : RT1) : Prop :=
  q (Nz t0) fun t4_1 =>
  q (Fa 11 t4_1) fun t5_2 =>
  q (Ld H t5_2) fun t6_3 =>
  q (Bin Tryz.prog H .neq 3 true t6_3 (Value.int IntKind.i64 (-1))) fun t7_4 =>
  q (gd t7_4 false (some t0)) fun t9_5 =>
  q (gd t7_4 false (Nz t9_5)) fun t10_6 =>
  q (gd t7_4 false (Fa 12 t10_6)) fun t11_7 =>
  q (gd t7_4 false (Ld H t11_7)) fun t12_8 =>
  gl t7_4 false (fun K => NCalls Tryz.prog 143 #[t12_8, (Value.bool true)] H K) H fun t13_9 H_9 =>
  q (Pk t7_4 (Value.bool true) t13_9) fun t14_10 =>
  Q t14_10 H_9
theorem A124_0 {fr : Fr} {H : Hp} {Q : RT1} (h : F124_0 (fr 0) H Q) : xCode Tryz.prog 15 (bodyOf Tryz.f124) (xRet Tryz.prog [.tmp 2] Q) fr H :=
  Eq.mp (by kernel_rfl) h
theorem E124 {t0 : Value} {H : Hp} {Q : RT1} (h : F124_0 t0 H Q) : NCalls Tryz.prog 124 #[t0] H Q :=
  NCalls.ofBody (by kernel_rfl) Tryz.func124 (by kernel_rfl) (by kernel_rfl) (Eq.mp (by kernel_rfl) (A124_0 (fr := fun i => (#[t0] : Array Value).getD i undef) (H := H) (Q := Q) (Eq.mp (by kernel_rfl) h)))
def F125_7 (t0 t4 : Value) (H : Hp) (Q : RT1) : Prop :=
  q (Nz t0) fun t81_1 =>
  q (Fa 2 t81_1) fun t82_2 =>
  q (LdA 4 H t82_2) fun t83_3 =>
  NCalls Tryz.prog 144 #[t0, t83_3, (Value.bool false), t4] H (fun t85_4 H_4 =>
  Q t85_4 H_4)
def F125_8 (t0 t3 t4 : Value) (H : Hp) (Q : RT1) : Prop :=
  condV t4 (
    q (Nz t0) fun t65_5 =>
    q (Fa 7 t65_5) fun t66_6 =>
    q (Ld H t66_6) fun t67_7 =>
    q (Nz t0) fun t70_8 =>
    q (Fa 6 t70_8) fun t71_9 =>
    St 1 H t71_9 t3 ((fun u_10 H_10 =>
    q (Ix 1 t67_7 t3) fun t72_11 =>
    St 1 H_10 t72_11 (Value.bool false) ((fun u_12 H_12 =>
    F125_7 t0 t4 H_12 Q) undef)) undef)) (
    q (Nz t0) fun t74_13 =>
    q (Fa 7 t74_13) fun t75_14 =>
    q (Ld H t75_14) fun t76_15 =>
    q (Ix 1 t76_15 t3) fun t78_16 =>
    St 1 H t78_16 (Value.bool true) ((fun u_17 H_17 =>
    F125_7 t0 t4 H_17 Q) undef))
def F125_6 (t0 t3 t4 : Value) (H : Hp) (Q : RT1) : Prop := F125_8 t0 t3 t4 H Q
def F125_12 (t0 t3 t4 t44 t45 t46 : Value) (H : Hp) (R11 : RT6) (Q : RT1) : Prop :=
  q (Bin Tryz.prog H .lss 3 false t46 t45) fun t47_18 =>
  condV t47_18 (
    q (Ix 1 t44 t46) fun t49_19 =>
    q (Ld H t49_19) fun t50_20 =>
    q (gd t4 true (some t50_20)) fun t53_21 =>
    q (gd t4 true (pv Tryz.prog (Op.unary .not t53_21))) fun t54_22 =>
    q (gd t4 true (some t54_22)) fun t55_23 =>
    q (gd t55_23 false (some t46)) fun t56_24 =>
    q (gd t55_23 false (some t3)) fun t57_25 =>
    q (gd t55_23 false (Bin Tryz.prog H .eql 3 false t56_24 t57_25)) fun t58_26 =>
    q (gd t4 true (Pk t55_23 (Value.bool true) t58_26)) fun t59_27 =>
    q (Pk t4 t59_27 (Value.bool false)) fun t60_28 =>
    q (Bin Tryz.prog H .add 3 true t46 (Value.int IntKind.i64 1)) fun t61_29 =>
    R11 t0 t3 t60_28 t44 t45 t61_29 H) (
    F125_6 t0 t3 t4 H Q)
def F125_11 (t0 t3 t4 t44 t45 t46 : Value) (H : Hp) (Q : RT1) : Prop :=
  ∃ (I : RT2) (μ : Value → Value → Hp → Nat), I t4 t46 H ∧ ∀ n4 n46 H1, I n4 n46 H1 → F125_12 t0 t3 n4 t44 t45 n46 H1 (fun m0 m3 m4 m44 m45 m46 H2 => m0 = t0 ∧ m3 = t3 ∧ m44 = t44 ∧ m45 = t45 ∧ (I m4 m46 H2 ∧ μ m4 m46 H2 < μ n4 n46 H1)) Q
def F125_10 (t0 t3 t4 t44 t45 t46 : Value) (H : Hp) (Q : RT1) : Prop := F125_11 t0 t3 t4 t44 t45 t46 H Q
def F125_13 (t0 t3 t4 : Value) (H : Hp) (Q : RT1) : Prop :=
  q (Nz t0) fun t42_30 =>
  q (Fa 7 t42_30) fun t43_31 =>
  q (Ld H t43_31) fun t44_32 =>
  q (pv Tryz.prog (Builtin.len_ #[63] 0 #[t44_32])) fun t45_33 =>
  F125_10 t0 t3 t4 t44_32 t45_33 (Value.int IntKind.i64 0) H Q
def F125_9 (t0 t3 t4 : Value) (H : Hp) (Q : RT1) : Prop := F125_13 t0 t3 t4 H Q
def F125_5 (t0 t3 t4 : Value) (H : Hp) (Q : RT1) : Prop := F125_9 t0 t3 t4 H Q
def F125_14 (t0 t3 : Value) (H : Hp) (Q : RT1) : Prop :=
  F125_5 t0 t3 (Value.bool true) H Q
def F125_4 (t0 t3 : Value) (H : Hp) (Q : RT1) : Prop := F125_14 t0 t3 H Q
def F125_15 (t0 t3 : Value) (H : Hp) (Q : RT1) : Prop :=
  q (Nz t0) fun t39_34 =>
  q (Fa 6 t39_34) fun t40_35 =>
  St 1 H t40_35 (Value.int IntKind.i64 (-1)) ((fun u_36 H_36 =>
  F125_4 t0 t3 H_36 Q) undef)
def F125_3 (t0 t3 : Value) (H : Hp) (Q : RT1) : Prop := F125_15 t0 t3 H Q
def F125_16 (t0 t3 : Value) (H : Hp) (Q : RT1) : Prop :=
  q (Nz t0) fun t12_37 =>
  q (Fa 6 t12_37) fun t13_38 =>
  q (Ld H t13_38) fun t14_39 =>
  q (Bin Tryz.prog H .neq 3 true t14_39 (Value.int IntKind.i64 (-1))) fun t15_40 =>
  q (gd t15_40 true (some t0)) fun t17_41 =>
  q (gd t15_40 true (Nz t17_41)) fun t18_42 =>
  q (gd t15_40 true (Fa 6 t18_42)) fun t19_43 =>
  q (gd t15_40 true (Ld H t19_43)) fun t20_44 =>
  q (gd t15_40 true (some t3)) fun t21_45 =>
  q (gd t15_40 true (Bin Tryz.prog H .neq 3 false t20_44 t21_45)) fun t22_46 =>
  q (Pk t15_40 t22_46 (Value.bool false)) fun t23_47 =>
  condV t23_47 (
    q (Nz t0) fun t26_48 =>
    q (Fa 6 t26_48) fun t27_49 =>
    q (Ld H t27_49) fun t28_50 =>
    q (Nz t0) fun t29_51 =>
    q (Fa 11 t29_51) fun t30_52 =>
    St 1 H t30_52 t28_50 ((fun u_53 H_53 =>
    q (Nz t0) fun t33_54 =>
    q (Fa 6 t33_54) fun t34_55 =>
    q (Ld H_53 t34_55) fun t35_56 =>
    NCalls Tryz.prog 127 #[t0, t35_56, (Value.int IntKind.i64 5)] H_53 (fun t36_57 H_57 =>
    Bsl #[Value.int IntKind.i64 0, Value.int IntKind.i64 0, Value.int IntKind.i64 0, Value.int IntKind.i64 0, Value.int IntKind.u32 0, Value.int IntKind.u32 0, Value.int IntKind.u32 0, Value.int IntKind.u32 0, Value.bool false, Value.bool false, Value.bool false] 11 66 1 [(0, t36_57)] H_57 (fun t37_58 H_58 =>
    Q t37_58 H_58))) undef)) (
    F125_3 t0 t3 H Q)
def F125_2 (t0 t3 : Value) (H : Hp) (Q : RT1) : Prop := F125_16 t0 t3 H Q
def F125_17 (t0 : Value) (H : Hp) (Q : RT1) : Prop :=
  q (Nz t0) fun t8_59 =>
  q (Fa 9 t8_59) fun t9_60 =>
  q (Ld H t9_60) fun t10_61 =>
  F125_2 t0 t10_61 H Q
def F125_1 (t0 : Value) (H : Hp) (Q : RT1) : Prop := F125_17 t0 H Q
def F125_18 (t0 : Value) (H : Hp) (Q : RT1) : Prop :=
  F125_1 t0 H Q
def F125_0 (t0 : Value) (H : Hp) (Q : RT1) : Prop := F125_18 t0 H Q
theorem A125_7 {fr : Fr} {H : Hp} {Q : RT1} (h : F125_7 (fr 0) (fr 4) H Q) : xCode Tryz.prog 86 (Code.r (Code.r (Code.r (Code.r (Code.r (Code.r (Code.r (bodyOf Tryz.f125)))))))) (xRet Tryz.prog [.tmp 2] Q) fr H :=
  Eq.mp (by kernel_rfl) h
theorem A125_8 {fr : Fr} {H : Hp} {Q : RT1} (h : F125_8 (fr 0) (fr 3) (fr 4) H Q) : xCode Tryz.prog 86 (Code.l (Code.r (Code.r (Code.r (Code.r (Code.r (Code.r (bodyOf Tryz.f125)))))))) (thenK (fun fr H => F125_7 (fr 0) (fr 4) H Q) (xRet Tryz.prog [.tmp 2] Q)) fr H :=
  Eq.mp (by kernel_rfl) h
theorem A125_6 {fr : Fr} {H : Hp} {Q : RT1} (h : F125_6 (fr 0) (fr 3) (fr 4) H Q) : xCode Tryz.prog 86 (Code.r (Code.r (Code.r (Code.r (Code.r (Code.r (bodyOf Tryz.f125))))))) (xRet Tryz.prog [.tmp 2] Q) fr H :=
  seq_cut (by kernel_rfl) (fun _ _ h => A125_7 h) (A125_8 h)
abbrev K125_6 (Q : RT1) : QT := thenK (fun fr H => F125_6 (fr 0) (fr 3) (fr 4) H Q) (xRet Tryz.prog [.tmp 2] Q)
theorem A125_12 {fr : Fr} {H : Hp} {R11 : RT6} {Q : RT1} (h : F125_12 (fr 0) (fr 3) (fr 4) (fr 44) (fr 45) (fr 46) H R11 Q) : xCode Tryz.prog 86 (Code.l (Code.l (Code.r (Code.l (Code.r (Code.r (Code.r (Code.r (Code.r (bodyOf Tryz.f125)))))))))) (thenK (fun fr H => R11 (fr 0) (fr 3) (fr 4) (fr 44) (fr 45) (fr 46) H) (blockK 0 (K125_6 Q))) fr H :=
  Eq.mp (by kernel_rfl) h
theorem A125_11 {fr : Fr} {H : Hp} {Q : RT1} (h : F125_11 (fr 0) (fr 3) (fr 4) (fr 44) (fr 45) (fr 46) H Q) : xCode Tryz.prog 86 (Code.l (Code.r (Code.l (Code.r (Code.r (Code.r (Code.r (Code.r (bodyOf Tryz.f125))))))))) (blockK 0 (K125_6 Q)) fr H := by
  obtain ⟨I, μ, h0, hr⟩ := h
  refine loop_cut (a := (Code.l (Code.l (Code.r (Code.l (Code.r (Code.r (Code.r (Code.r (Code.r (bodyOf Tryz.f125))))))))))) (by kernel_rfl) (fun fr1 H1 => fr1 0 = fr 0 ∧ fr1 3 = fr 3 ∧ fr1 44 = fr 44 ∧ fr1 45 = fr 45 ∧ I (fr1 4) (fr1 46) H1) (fun fr1 H1 => μ (fr1 4) (fr1 46) H1) (by exact ⟨rfl, rfl, rfl, rfl, h0⟩) ?_
  intro fr1 H1 hI
  obtain ⟨hu0, hu3, hu44, hu45, hI⟩ := hI
  have hb := hr (fr1 4) (fr1 46) H1 hI
  rw [← hu0] at hb; rw [← hu3] at hb; rw [← hu44] at hb; rw [← hu45] at hb
  refine ⟨_, ?_, A125_12 hb⟩
  intro fr2 H2 hj
  obtain ⟨ku0, ku3, ku44, ku45, hI2, hlt⟩ := hj
  exact ⟨⟨(ku0.trans hu0), (ku3.trans hu3), (ku44.trans hu44), (ku45.trans hu45), hI2⟩, hlt⟩
theorem A125_10 {fr : Fr} {H : Hp} {Q : RT1} (h : F125_10 (fr 0) (fr 3) (fr 4) (fr 44) (fr 45) (fr 46) H Q) : xCode Tryz.prog 86 (Code.r (Code.l (Code.r (Code.r (Code.r (Code.r (Code.r (bodyOf Tryz.f125)))))))) (K125_6 Q) fr H :=
  block_cut (by kernel_rfl) (A125_11 h)
theorem A125_13 {fr : Fr} {H : Hp} {Q : RT1} (h : F125_13 (fr 0) (fr 3) (fr 4) H Q) : xCode Tryz.prog 86 (Code.l (Code.l (Code.r (Code.r (Code.r (Code.r (Code.r (bodyOf Tryz.f125)))))))) (thenK (fun fr H => F125_10 (fr 0) (fr 3) (fr 4) (fr 44) (fr 45) (fr 46) H Q) (K125_6 Q)) fr H :=
  Eq.mp (by kernel_rfl) h
theorem A125_9 {fr : Fr} {H : Hp} {Q : RT1} (h : F125_9 (fr 0) (fr 3) (fr 4) H Q) : xCode Tryz.prog 86 (Code.l (Code.r (Code.r (Code.r (Code.r (Code.r (bodyOf Tryz.f125))))))) (K125_6 Q) fr H :=
  seq_cut (by kernel_rfl) (fun _ _ h => A125_10 h) (A125_13 h)
theorem A125_5 {fr : Fr} {H : Hp} {Q : RT1} (h : F125_5 (fr 0) (fr 3) (fr 4) H Q) : xCode Tryz.prog 86 (Code.r (Code.r (Code.r (Code.r (Code.r (bodyOf Tryz.f125)))))) (xRet Tryz.prog [.tmp 2] Q) fr H :=
  seq_cut (by kernel_rfl) (fun _ _ h => A125_6 h) (A125_9 h)
theorem A125_14 {fr : Fr} {H : Hp} {Q : RT1} (h : F125_14 (fr 0) (fr 3) H Q) : xCode Tryz.prog 86 (Code.l (Code.r (Code.r (Code.r (Code.r (bodyOf Tryz.f125)))))) (thenK (fun fr H => F125_5 (fr 0) (fr 3) (fr 4) H Q) (xRet Tryz.prog [.tmp 2] Q)) fr H :=
  Eq.mp (by kernel_rfl) h
theorem A125_4 {fr : Fr} {H : Hp} {Q : RT1} (h : F125_4 (fr 0) (fr 3) H Q) : xCode Tryz.prog 86 (Code.r (Code.r (Code.r (Code.r (bodyOf Tryz.f125))))) (xRet Tryz.prog [.tmp 2] Q) fr H :=
  seq_cut (by kernel_rfl) (fun _ _ h => A125_5 h) (A125_14 h)
theorem A125_15 {fr : Fr} {H : Hp} {Q : RT1} (h : F125_15 (fr 0) (fr 3) H Q) : xCode Tryz.prog 86 (Code.l (Code.r (Code.r (Code.r (bodyOf Tryz.f125))))) (thenK (fun fr H => F125_4 (fr 0) (fr 3) H Q) (xRet Tryz.prog [.tmp 2] Q)) fr H :=
  Eq.mp (by kernel_rfl) h
theorem A125_3 {fr : Fr} {H : Hp} {Q : RT1} (h : F125_3 (fr 0) (fr 3) H Q) : xCode Tryz.prog 86 (Code.r (Code.r (Code.r (bodyOf Tryz.f125)))) (xRet Tryz.prog [.tmp 2] Q) fr H :=
  seq_cut (by kernel_rfl) (fun _ _ h => A125_4 h) (A125_15 h)
theorem A125_16 {fr : Fr} {H : Hp} {Q : RT1} (h : F125_16 (fr 0) (fr 3) H Q) : xCode Tryz.prog 86 (Code.l (Code.r (Code.r (bodyOf Tryz.f125)))) (thenK (fun fr H => F125_3 (fr 0) (fr 3) H Q) (xRet Tryz.prog [.tmp 2] Q)) fr H :=
  Eq.mp (by kernel_rfl) h
theorem A125_2 {fr : Fr} {H : Hp} {Q : RT1} (h : F125_2 (fr 0) (fr 3) H Q) : xCode Tryz.prog 86 (Code.r (Code.r (bodyOf Tryz.f125))) (xRet Tryz.prog [.tmp 2] Q) fr H :=
  seq_cut (by kernel_rfl) (fun _ _ h => A125_3 h) (A125_16 h)
theorem A125_17 {fr : Fr} {H : Hp} {Q : RT1} (h : F125_17 (fr 0) H Q) : xCode Tryz.prog 86 (Code.l (Code.r (bodyOf Tryz.f125))) (thenK (fun fr H => F125_2 (fr 0) (fr 3) H Q) (xRet Tryz.prog [.tmp 2] Q)) fr H :=
  Eq.mp (by kernel_rfl) h
theorem A125_1 {fr : Fr} {H : Hp} {Q : RT1} (h : F125_1 (fr 0) H Q) : xCode Tryz.prog 86 (Code.r (bodyOf Tryz.f125)) (xRet Tryz.prog [.tmp 2] Q) fr H :=
  seq_cut (by kernel_rfl) (fun _ _ h => A125_2 h) (A125_17 h)
theorem A125_18 {fr : Fr} {H : Hp} {Q : RT1} (h : F125_18 (fr 0) H Q) : xCode Tryz.prog 86 (Code.l (bodyOf Tryz.f125)) (thenK (fun fr H => F125_1 (fr 0) H Q) (xRet Tryz.prog [.tmp 2] Q)) fr H :=
  Eq.mp (by kernel_rfl) h
theorem A125_0 {fr : Fr} {H : Hp} {Q : RT1} (h : F125_0 (fr 0) H Q) : xCode Tryz.prog 86 (bodyOf Tryz.f125) (xRet Tryz.prog [.tmp 2] Q) fr H :=
  seq_cut (by kernel_rfl) (fun _ _ h => A125_1 h) (A125_18 h)
theorem E125 {t0 : Value} {H : Hp} {Q : RT1} (h : F125_0 t0 H Q) : NCalls Tryz.prog 125 #[t0] H Q :=
  NCalls.ofBody (by kernel_rfl) Tryz.func125 (by kernel_rfl) (by kernel_rfl) (Eq.mp (by kernel_rfl) (A125_0 (fr := fun i => (#[t0] : Array Value).getD i undef) (H := H) (Q := Q) (Eq.mp (by kernel_rfl) h)))
def F126_5 (t0 t3 : Value) (H : Hp) (Q : RT1) : Prop :=
  q (pv Tryz.prog (Builtin.len_ #[117] 0 #[t3])) fun t90_1 =>
  q (Bin Tryz.prog H .gtr 3 true t90_1 (Value.int IntKind.i64 0)) fun t91_2 =>
  condV t91_2 (
    Q t3 H) (
    NCalls Tryz.prog 128 #[t0] H (fun t94_3 H_3 =>
    Q t94_3 H_3))
def F126_12 (t0 t3 t59 t60 : Value) (H : Hp) (R8 : RT4) (Q : RT1) : Prop :=
  q (Bin Tryz.prog H .add 3 true t60 (Value.int IntKind.i64 1)) fun t88_4 =>
  R8 t0 t3 t59 t88_4 H
def F126_16 (t0 t3 t6 t59 t60 : Value) (H : Hp) (R8 : RT4) (Q : RT1) : Prop :=
  q (Nz t0) fun t77_5 =>
  q (Fa 11 t77_5) fun t78_6 =>
  q (Ld H t78_6) fun t79_7 =>
  q (Bin Tryz.prog H .eql 3 false t79_7 t6) fun t81_8 =>
  condV t81_8 (
    NCalls Tryz.prog 127 #[t0, t6, (Value.int IntKind.i64 6)] H (fun t85_9 H_9 =>
    Bsl #[Value.int IntKind.i64 0, Value.int IntKind.i64 0, Value.int IntKind.i64 0, Value.int IntKind.i64 0, Value.int IntKind.u32 0, Value.int IntKind.u32 0, Value.int IntKind.u32 0, Value.int IntKind.u32 0, Value.bool false, Value.bool false, Value.bool false] 11 66 1 [(0, t85_9)] H_9 (fun t86_10 H_10 =>
    dm Tryz.prog (Builtin.append_ #[117, 117] 0 #[t3, t86_10]) H_10 (fun t87_11 H_11 =>
    F126_12 t0 t87_11 t59 t60 H_11 R8 Q)))) (
    F126_12 t0 t3 t59 t60 H R8 Q)
def F126_17 (t0 t3 t6 t59 t60 : Value) (H : Hp) (R8 : RT4) (Q : RT1) : Prop :=
  q (Nz t0) fun t64_12 =>
  q (Fa 12 t64_12) fun t65_13 =>
  q (Ld H t65_13) fun t66_14 =>
  q (Ix 1 t66_14 t6) fun t68_15 =>
  q (Ld H t68_15) fun t69_16 =>
  condV t69_16 (
    NCalls Tryz.prog 127 #[t0, t6, (Value.int IntKind.i64 4)] H (fun t73_17 H_17 =>
    Bsl #[Value.int IntKind.i64 0, Value.int IntKind.i64 0, Value.int IntKind.i64 0, Value.int IntKind.i64 0, Value.int IntKind.u32 0, Value.int IntKind.u32 0, Value.int IntKind.u32 0, Value.int IntKind.u32 0, Value.bool false, Value.bool false, Value.bool false] 11 66 1 [(0, t73_17)] H_17 (fun t74_18 H_18 =>
    dm Tryz.prog (Builtin.append_ #[117, 117] 0 #[t3, t74_18]) H_18 (fun t75_19 H_19 =>
    F126_16 t0 t75_19 t6 t59 t60 H_19 R8 Q)))) (
    F126_16 t0 t3 t6 t59 t60 H R8 Q)
def F126_15 (t0 t3 t6 t59 t60 : Value) (H : Hp) (R8 : RT4) (Q : RT1) : Prop := F126_17 t0 t3 t6 t59 t60 H R8 Q
def F126_18 (t0 t3 t59 t60 : Value) (H : Hp) (R8 : RT4) (Q : RT1) : Prop :=
  F126_15 t0 t3 t60 t59 t60 H R8 Q
def F126_14 (t0 t3 t59 t60 : Value) (H : Hp) (R8 : RT4) (Q : RT1) : Prop := F126_18 t0 t3 t59 t60 H R8 Q
def F126_13 (t0 t3 t59 t60 : Value) (H : Hp) (R8 : RT4) (Q : RT1) : Prop := F126_14 t0 t3 t59 t60 H R8 Q
def F126_11 (t0 t3 t59 t60 : Value) (H : Hp) (R8 : RT4) (Q : RT1) : Prop := F126_13 t0 t3 t59 t60 H R8 Q
def F126_19 (t0 t3 t59 t60 t61 : Value) (H : Hp) (R8 : RT4) (Q : RT1) : Prop :=
  condV t61 (
    F126_11 t0 t3 t59 t60 H R8 Q) (
    F126_5 t0 t3 H Q)
def F126_10 (t0 t3 t59 t60 t61 : Value) (H : Hp) (R8 : RT4) (Q : RT1) : Prop := F126_19 t0 t3 t59 t60 t61 H R8 Q
def F126_20 (t0 t3 t59 t60 : Value) (H : Hp) (R8 : RT4) (Q : RT1) : Prop :=
  q (Bin Tryz.prog H .lss 3 false t60 t59) fun t61_20 =>
  F126_10 t0 t3 t59 t60 t61_20 H R8 Q
def F126_9 (t0 t3 t59 t60 : Value) (H : Hp) (R8 : RT4) (Q : RT1) : Prop := F126_20 t0 t3 t59 t60 H R8 Q
def F126_8 (t0 t3 t59 t60 : Value) (H : Hp) (Q : RT1) : Prop :=
  ∃ (I : RT2) (μ : Value → Value → Hp → Nat), I t3 t60 H ∧ ∀ n3 n60 H1, I n3 n60 H1 → F126_9 t0 n3 t59 n60 H1 (fun m0 m3 m59 m60 H2 => m0 = t0 ∧ m59 = t59 ∧ (I m3 m60 H2 ∧ μ m3 m60 H2 < μ n3 n60 H1)) Q
def F126_7 (t0 t3 t59 t60 : Value) (H : Hp) (Q : RT1) : Prop := F126_8 t0 t3 t59 t60 H Q
def F126_21 (t0 t3 : Value) (H : Hp) (Q : RT1) : Prop :=
  q (Nz t0) fun t57_21 =>
  q (Fa 1 t57_21) fun t58_22 =>
  q (Ld H t58_22) fun t59_23 =>
  F126_7 t0 t3 t59_23 (Value.int IntKind.i64 0) H Q
def F126_6 (t0 t3 : Value) (H : Hp) (Q : RT1) : Prop := F126_21 t0 t3 H Q
def F126_4 (t0 t3 : Value) (H : Hp) (Q : RT1) : Prop := F126_6 t0 t3 H Q
def F126_22 (t0 t3 : Value) (H : Hp) (Q : RT1) : Prop :=
  q (Nz t0) fun t34_24 =>
  q (Fa 6 t34_24) fun t35_25 =>
  q (Ld H t35_25) fun t36_26 =>
  q (Bin Tryz.prog H .neq 3 true t36_26 (Value.int IntKind.i64 (-1))) fun t37_27 =>
  q (gd t37_27 true (some t0)) fun t39_28 =>
  q (gd t37_27 true (Nz t39_28)) fun t40_29 =>
  q (gd t37_27 true (Fa 6 t40_29)) fun t41_30 =>
  q (gd t37_27 true (Ld H t41_30)) fun t42_31 =>
  q (gd t37_27 true (some t0)) fun t43_32 =>
  q (gd t37_27 true (Nz t43_32)) fun t44_33 =>
  q (gd t37_27 true (Fa 9 t44_33)) fun t45_34 =>
  q (gd t37_27 true (Ld H t45_34)) fun t46_35 =>
  q (gd t37_27 true (Bin Tryz.prog H .neq 3 false t42_31 t46_35)) fun t47_36 =>
  q (Pk t37_27 t47_36 (Value.bool false)) fun t48_37 =>
  condV t48_37 (
    q (Nz t0) fun t51_38 =>
    q (Fa 6 t51_38) fun t52_39 =>
    q (Ld H t52_39) fun t53_40 =>
    q (Nz t0) fun t54_41 =>
    q (Fa 11 t54_41) fun t55_42 =>
    St 1 H t55_42 t53_40 ((fun u_43 H_43 =>
    F126_4 t0 t3 H_43 Q) undef)) (
    F126_4 t0 t3 H Q)
def F126_3 (t0 t3 : Value) (H : Hp) (Q : RT1) : Prop := F126_22 t0 t3 H Q
def F126_29 (t0 t3 t10 t11 t12 : Value) (H : Hp) (R25 : RT5) (Q : RT1) : Prop :=
  q (Bin Tryz.prog H .add 3 true t12 (Value.int IntKind.i64 1)) fun t32_44 =>
  R25 t0 t3 t10 t11 t32_44 H
def F126_30 (t0 t3 t10 t11 t12 : Value) (H : Hp) (R25 : RT5) (Q : RT1) : Prop :=
  q (Ix 1 t10 t12) fun t15_45 =>
  q (Ld H t15_45) fun t16_46 =>
  q (gd t16_46 true (some t12)) fun t19_47 =>
  q (gd t16_46 true (some t0)) fun t20_48 =>
  q (gd t16_46 true (Nz t20_48)) fun t21_49 =>
  q (gd t16_46 true (Fa 9 t21_49)) fun t22_50 =>
  q (gd t16_46 true (Ld H t22_50)) fun t23_51 =>
  q (gd t16_46 true (Bin Tryz.prog H .neq 3 false t19_47 t23_51)) fun t24_52 =>
  q (Pk t16_46 t24_52 (Value.bool false)) fun t25_53 =>
  condV t25_53 (
    q (Nz t0) fun t27_54 =>
    q (Fa 12 t27_54) fun t28_55 =>
    q (Ld H t28_55) fun t29_56 =>
    q (Ix 1 t29_56 t12) fun t31_57 =>
    St 1 H t31_57 (Value.bool true) ((fun u_58 H_58 =>
    F126_29 t0 t3 t10 t11 t12 H_58 R25 Q) undef)) (
    F126_29 t0 t3 t10 t11 t12 H R25 Q)
def F126_28 (t0 t3 t10 t11 t12 : Value) (H : Hp) (R25 : RT5) (Q : RT1) : Prop := F126_30 t0 t3 t10 t11 t12 H R25 Q
def F126_31 (t0 t3 t10 t11 t12 t13 : Value) (H : Hp) (R25 : RT5) (Q : RT1) : Prop :=
  condV t13 (
    F126_28 t0 t3 t10 t11 t12 H R25 Q) (
    F126_3 t0 t3 H Q)
def F126_27 (t0 t3 t10 t11 t12 t13 : Value) (H : Hp) (R25 : RT5) (Q : RT1) : Prop := F126_31 t0 t3 t10 t11 t12 t13 H R25 Q
def F126_32 (t0 t3 t10 t11 t12 : Value) (H : Hp) (R25 : RT5) (Q : RT1) : Prop :=
  q (Bin Tryz.prog H .lss 3 false t12 t11) fun t13_59 =>
  F126_27 t0 t3 t10 t11 t12 t13_59 H R25 Q
def F126_26 (t0 t3 t10 t11 t12 : Value) (H : Hp) (R25 : RT5) (Q : RT1) : Prop := F126_32 t0 t3 t10 t11 t12 H R25 Q
def F126_25 (t0 t3 t10 t11 t12 : Value) (H : Hp) (Q : RT1) : Prop :=
  ∃ (I : RT1) (μ : Value → Hp → Nat), I t12 H ∧ ∀ n12 H1, I n12 H1 → F126_26 t0 t3 t10 t11 n12 H1 (fun m0 m3 m10 m11 m12 H2 => m0 = t0 ∧ m3 = t3 ∧ m10 = t10 ∧ m11 = t11 ∧ (I m12 H2 ∧ μ m12 H2 < μ n12 H1)) Q
def F126_24 (t0 t3 t10 t11 t12 : Value) (H : Hp) (Q : RT1) : Prop := F126_25 t0 t3 t10 t11 t12 H Q
def F126_33 (t0 t3 : Value) (H : Hp) (Q : RT1) : Prop :=
  q (Nz t0) fun t8_60 =>
  q (Fa 7 t8_60) fun t9_61 =>
  q (Ld H t9_61) fun t10_62 =>
  q (pv Tryz.prog (Builtin.len_ #[63] 0 #[t10_62])) fun t11_63 =>
  F126_24 t0 t3 t10_62 t11_63 (Value.int IntKind.i64 0) H Q
def F126_23 (t0 t3 : Value) (H : Hp) (Q : RT1) : Prop := F126_33 t0 t3 H Q
def F126_2 (t0 t3 : Value) (H : Hp) (Q : RT1) : Prop := F126_23 t0 t3 H Q
def F126_34 (t0 : Value) (H : Hp) (Q : RT1) : Prop :=
  F126_2 t0 (Value.slice none 0 0) H Q
def F126_1 (t0 : Value) (H : Hp) (Q : RT1) : Prop := F126_34 t0 H Q
def F126_35 (t0 : Value) (H : Hp) (Q : RT1) : Prop :=
  F126_1 t0 H Q
def F126_0 (t0 : Value) (H : Hp) (Q : RT1) : Prop := F126_35 t0 H Q
theorem A126_5 {fr : Fr} {H : Hp} {Q : RT1} (h : F126_5 (fr 0) (fr 3) H Q) : xCode Tryz.prog 95 (Code.r (Code.r (Code.r (Code.r (Code.r (bodyOf Tryz.f126)))))) (xRet Tryz.prog [.tmp 2] Q) fr H :=
  Eq.mp (by kernel_rfl) h
abbrev K126_7 (Q : RT1) : QT := thenK (fun fr H => F126_5 (fr 0) (fr 3) H Q) (xRet Tryz.prog [.tmp 2] Q)
abbrev K126_8 (R8 : RT4) (Q : RT1) : QT := thenK (fun fr H => R8 (fr 0) (fr 3) (fr 59) (fr 60) H) (blockK 2 (K126_7 Q))
theorem A126_12 {fr : Fr} {H : Hp} {R8 : RT4} {Q : RT1} (h : F126_12 (fr 0) (fr 3) (fr 59) (fr 60) H R8 Q) : xCode Tryz.prog 95 (Code.r (Code.r (Code.r (Code.l (Code.l (Code.r (Code.l (Code.r (Code.r (Code.r (Code.r (bodyOf Tryz.f126)))))))))))) (K126_8 R8 Q) fr H :=
  Eq.mp (by kernel_rfl) h
abbrev K126_9 (R8 : RT4) (Q : RT1) : QT := thenK (fun fr H => F126_12 (fr 0) (fr 3) (fr 59) (fr 60) H R8 Q) (K126_8 R8 Q)
theorem A126_16 {fr : Fr} {H : Hp} {R8 : RT4} {Q : RT1} (h : F126_16 (fr 0) (fr 3) (fr 6) (fr 59) (fr 60) H R8 Q) : xCode Tryz.prog 95 (Code.r (Code.r (Code.l (Code.l (Code.r (Code.r (Code.l (Code.l (Code.r (Code.l (Code.r (Code.r (Code.r (Code.r (bodyOf Tryz.f126))))))))))))))) (blockK 3 (K126_9 R8 Q)) fr H :=
  Eq.mp (by kernel_rfl) h
theorem A126_17 {fr : Fr} {H : Hp} {R8 : RT4} {Q : RT1} (h : F126_17 (fr 0) (fr 3) (fr 6) (fr 59) (fr 60) H R8 Q) : xCode Tryz.prog 95 (Code.l (Code.r (Code.l (Code.l (Code.r (Code.r (Code.l (Code.l (Code.r (Code.l (Code.r (Code.r (Code.r (Code.r (bodyOf Tryz.f126))))))))))))))) (thenK (fun fr H => F126_16 (fr 0) (fr 3) (fr 6) (fr 59) (fr 60) H R8 Q) (blockK 3 (K126_9 R8 Q))) fr H :=
  Eq.mp (by kernel_rfl) h
theorem A126_15 {fr : Fr} {H : Hp} {R8 : RT4} {Q : RT1} (h : F126_15 (fr 0) (fr 3) (fr 6) (fr 59) (fr 60) H R8 Q) : xCode Tryz.prog 95 (Code.r (Code.l (Code.l (Code.r (Code.r (Code.l (Code.l (Code.r (Code.l (Code.r (Code.r (Code.r (Code.r (bodyOf Tryz.f126)))))))))))))) (blockK 3 (K126_9 R8 Q)) fr H :=
  seq_cut (by kernel_rfl) (fun _ _ h => A126_16 h) (A126_17 h)
theorem A126_18 {fr : Fr} {H : Hp} {R8 : RT4} {Q : RT1} (h : F126_18 (fr 0) (fr 3) (fr 59) (fr 60) H R8 Q) : xCode Tryz.prog 95 (Code.l (Code.l (Code.l (Code.r (Code.r (Code.l (Code.l (Code.r (Code.l (Code.r (Code.r (Code.r (Code.r (bodyOf Tryz.f126)))))))))))))) (thenK (fun fr H => F126_15 (fr 0) (fr 3) (fr 6) (fr 59) (fr 60) H R8 Q) (blockK 3 (K126_9 R8 Q))) fr H :=
  Eq.mp (by kernel_rfl) h
theorem A126_14 {fr : Fr} {H : Hp} {R8 : RT4} {Q : RT1} (h : F126_14 (fr 0) (fr 3) (fr 59) (fr 60) H R8 Q) : xCode Tryz.prog 95 (Code.l (Code.l (Code.r (Code.r (Code.l (Code.l (Code.r (Code.l (Code.r (Code.r (Code.r (Code.r (bodyOf Tryz.f126))))))))))))) (blockK 3 (K126_9 R8 Q)) fr H :=
  seq_cut (by kernel_rfl) (fun _ _ h => A126_15 h) (A126_18 h)
theorem A126_13 {fr : Fr} {H : Hp} {R8 : RT4} {Q : RT1} (h : F126_13 (fr 0) (fr 3) (fr 59) (fr 60) H R8 Q) : xCode Tryz.prog 95 (Code.l (Code.r (Code.r (Code.l (Code.l (Code.r (Code.l (Code.r (Code.r (Code.r (Code.r (bodyOf Tryz.f126)))))))))))) (K126_9 R8 Q) fr H :=
  block_cut (by kernel_rfl) (A126_14 h)
theorem A126_11 {fr : Fr} {H : Hp} {R8 : RT4} {Q : RT1} (h : F126_11 (fr 0) (fr 3) (fr 59) (fr 60) H R8 Q) : xCode Tryz.prog 95 (Code.r (Code.r (Code.l (Code.l (Code.r (Code.l (Code.r (Code.r (Code.r (Code.r (bodyOf Tryz.f126))))))))))) (K126_8 R8 Q) fr H :=
  seq_cut (by kernel_rfl) (fun _ _ h => A126_12 h) (A126_13 h)
theorem A126_19 {fr : Fr} {H : Hp} {R8 : RT4} {Q : RT1} (h : F126_19 (fr 0) (fr 3) (fr 59) (fr 60) (fr 61) H R8 Q) : xCode Tryz.prog 95 (Code.l (Code.r (Code.l (Code.l (Code.r (Code.l (Code.r (Code.r (Code.r (Code.r (bodyOf Tryz.f126))))))))))) (thenK (fun fr H => F126_11 (fr 0) (fr 3) (fr 59) (fr 60) H R8 Q) (K126_8 R8 Q)) fr H :=
  Eq.mp (by kernel_rfl) h
theorem A126_10 {fr : Fr} {H : Hp} {R8 : RT4} {Q : RT1} (h : F126_10 (fr 0) (fr 3) (fr 59) (fr 60) (fr 61) H R8 Q) : xCode Tryz.prog 95 (Code.r (Code.l (Code.l (Code.r (Code.l (Code.r (Code.r (Code.r (Code.r (bodyOf Tryz.f126)))))))))) (K126_8 R8 Q) fr H :=
  seq_cut (by kernel_rfl) (fun _ _ h => A126_11 h) (A126_19 h)
theorem A126_20 {fr : Fr} {H : Hp} {R8 : RT4} {Q : RT1} (h : F126_20 (fr 0) (fr 3) (fr 59) (fr 60) H R8 Q) : xCode Tryz.prog 95 (Code.l (Code.l (Code.l (Code.r (Code.l (Code.r (Code.r (Code.r (Code.r (bodyOf Tryz.f126)))))))))) (thenK (fun fr H => F126_10 (fr 0) (fr 3) (fr 59) (fr 60) (fr 61) H R8 Q) (K126_8 R8 Q)) fr H :=
  Eq.mp (by kernel_rfl) h
theorem A126_9 {fr : Fr} {H : Hp} {R8 : RT4} {Q : RT1} (h : F126_9 (fr 0) (fr 3) (fr 59) (fr 60) H R8 Q) : xCode Tryz.prog 95 (Code.l (Code.l (Code.r (Code.l (Code.r (Code.r (Code.r (Code.r (bodyOf Tryz.f126))))))))) (K126_8 R8 Q) fr H :=
  seq_cut (by kernel_rfl) (fun _ _ h => A126_10 h) (A126_20 h)
theorem A126_8 {fr : Fr} {H : Hp} {Q : RT1} (h : F126_8 (fr 0) (fr 3) (fr 59) (fr 60) H Q) : xCode Tryz.prog 95 (Code.l (Code.r (Code.l (Code.r (Code.r (Code.r (Code.r (bodyOf Tryz.f126)))))))) (blockK 2 (K126_7 Q)) fr H := by
  obtain ⟨I, μ, h0, hr⟩ := h
  refine loop_cut (a := (Code.l (Code.l (Code.r (Code.l (Code.r (Code.r (Code.r (Code.r (bodyOf Tryz.f126)))))))))) (by kernel_rfl) (fun fr1 H1 => fr1 0 = fr 0 ∧ fr1 59 = fr 59 ∧ I (fr1 3) (fr1 60) H1) (fun fr1 H1 => μ (fr1 3) (fr1 60) H1) (by exact ⟨rfl, rfl, h0⟩) ?_
  intro fr1 H1 hI
  obtain ⟨hu0, hu59, hI⟩ := hI
  have hb := hr (fr1 3) (fr1 60) H1 hI
  rw [← hu0] at hb; rw [← hu59] at hb
  refine ⟨_, ?_, A126_9 hb⟩
  intro fr2 H2 hj
  obtain ⟨ku0, ku59, hI2, hlt⟩ := hj
  exact ⟨⟨(ku0.trans hu0), (ku59.trans hu59), hI2⟩, hlt⟩
theorem A126_7 {fr : Fr} {H : Hp} {Q : RT1} (h : F126_7 (fr 0) (fr 3) (fr 59) (fr 60) H Q) : xCode Tryz.prog 95 (Code.r (Code.l (Code.r (Code.r (Code.r (Code.r (bodyOf Tryz.f126))))))) (K126_7 Q) fr H :=
  block_cut (by kernel_rfl) (A126_8 h)
theorem A126_21 {fr : Fr} {H : Hp} {Q : RT1} (h : F126_21 (fr 0) (fr 3) H Q) : xCode Tryz.prog 95 (Code.l (Code.l (Code.r (Code.r (Code.r (Code.r (bodyOf Tryz.f126))))))) (thenK (fun fr H => F126_7 (fr 0) (fr 3) (fr 59) (fr 60) H Q) (K126_7 Q)) fr H :=
  Eq.mp (by kernel_rfl) h
theorem A126_6 {fr : Fr} {H : Hp} {Q : RT1} (h : F126_6 (fr 0) (fr 3) H Q) : xCode Tryz.prog 95 (Code.l (Code.r (Code.r (Code.r (Code.r (bodyOf Tryz.f126)))))) (K126_7 Q) fr H :=
  seq_cut (by kernel_rfl) (fun _ _ h => A126_7 h) (A126_21 h)
theorem A126_4 {fr : Fr} {H : Hp} {Q : RT1} (h : F126_4 (fr 0) (fr 3) H Q) : xCode Tryz.prog 95 (Code.r (Code.r (Code.r (Code.r (bodyOf Tryz.f126))))) (xRet Tryz.prog [.tmp 2] Q) fr H :=
  seq_cut (by kernel_rfl) (fun _ _ h => A126_5 h) (A126_6 h)
theorem A126_22 {fr : Fr} {H : Hp} {Q : RT1} (h : F126_22 (fr 0) (fr 3) H Q) : xCode Tryz.prog 95 (Code.l (Code.r (Code.r (Code.r (bodyOf Tryz.f126))))) (thenK (fun fr H => F126_4 (fr 0) (fr 3) H Q) (xRet Tryz.prog [.tmp 2] Q)) fr H :=
  Eq.mp (by kernel_rfl) h
theorem A126_3 {fr : Fr} {H : Hp} {Q : RT1} (h : F126_3 (fr 0) (fr 3) H Q) : xCode Tryz.prog 95 (Code.r (Code.r (Code.r (bodyOf Tryz.f126)))) (xRet Tryz.prog [.tmp 2] Q) fr H :=
  seq_cut (by kernel_rfl) (fun _ _ h => A126_4 h) (A126_22 h)
abbrev K126_10 (Q : RT1) : QT := thenK (fun fr H => F126_3 (fr 0) (fr 3) H Q) (xRet Tryz.prog [.tmp 2] Q)
abbrev K126_11 (R25 : RT5) (Q : RT1) : QT := thenK (fun fr H => R25 (fr 0) (fr 3) (fr 10) (fr 11) (fr 12) H) (blockK 0 (K126_10 Q))
theorem A126_29 {fr : Fr} {H : Hp} {R25 : RT5} {Q : RT1} (h : F126_29 (fr 0) (fr 3) (fr 10) (fr 11) (fr 12) H R25 Q) : xCode Tryz.prog 95 (Code.r (Code.r (Code.r (Code.l (Code.l (Code.r (Code.l (Code.r (Code.r (bodyOf Tryz.f126)))))))))) (K126_11 R25 Q) fr H :=
  Eq.mp (by kernel_rfl) h
theorem A126_30 {fr : Fr} {H : Hp} {R25 : RT5} {Q : RT1} (h : F126_30 (fr 0) (fr 3) (fr 10) (fr 11) (fr 12) H R25 Q) : xCode Tryz.prog 95 (Code.l (Code.r (Code.r (Code.l (Code.l (Code.r (Code.l (Code.r (Code.r (bodyOf Tryz.f126)))))))))) (thenK (fun fr H => F126_29 (fr 0) (fr 3) (fr 10) (fr 11) (fr 12) H R25 Q) (K126_11 R25 Q)) fr H :=
  Eq.mp (by kernel_rfl) h
theorem A126_28 {fr : Fr} {H : Hp} {R25 : RT5} {Q : RT1} (h : F126_28 (fr 0) (fr 3) (fr 10) (fr 11) (fr 12) H R25 Q) : xCode Tryz.prog 95 (Code.r (Code.r (Code.l (Code.l (Code.r (Code.l (Code.r (Code.r (bodyOf Tryz.f126))))))))) (K126_11 R25 Q) fr H :=
  seq_cut (by kernel_rfl) (fun _ _ h => A126_29 h) (A126_30 h)
theorem A126_31 {fr : Fr} {H : Hp} {R25 : RT5} {Q : RT1} (h : F126_31 (fr 0) (fr 3) (fr 10) (fr 11) (fr 12) (fr 13) H R25 Q) : xCode Tryz.prog 95 (Code.l (Code.r (Code.l (Code.l (Code.r (Code.l (Code.r (Code.r (bodyOf Tryz.f126))))))))) (thenK (fun fr H => F126_28 (fr 0) (fr 3) (fr 10) (fr 11) (fr 12) H R25 Q) (K126_11 R25 Q)) fr H :=
  Eq.mp (by kernel_rfl) h
theorem A126_27 {fr : Fr} {H : Hp} {R25 : RT5} {Q : RT1} (h : F126_27 (fr 0) (fr 3) (fr 10) (fr 11) (fr 12) (fr 13) H R25 Q) : xCode Tryz.prog 95 (Code.r (Code.l (Code.l (Code.r (Code.l (Code.r (Code.r (bodyOf Tryz.f126)))))))) (K126_11 R25 Q) fr H :=
  seq_cut (by kernel_rfl) (fun _ _ h => A126_28 h) (A126_31 h)
theorem A126_32 {fr : Fr} {H : Hp} {R25 : RT5} {Q : RT1} (h : F126_32 (fr 0) (fr 3) (fr 10) (fr 11) (fr 12) H R25 Q) : xCode Tryz.prog 95 (Code.l (Code.l (Code.l (Code.r (Code.l (Code.r (Code.r (bodyOf Tryz.f126)))))))) (thenK (fun fr H => F126_27 (fr 0) (fr 3) (fr 10) (fr 11) (fr 12) (fr 13) H R25 Q) (K126_11 R25 Q)) fr H :=
  Eq.mp (by kernel_rfl) h
theorem A126_26 {fr : Fr} {H : Hp} {R25 : RT5} {Q : RT1} (h : F126_26 (fr 0) (fr 3) (fr 10) (fr 11) (fr 12) H R25 Q) : xCode Tryz.prog 95 (Code.l (Code.l (Code.r (Code.l (Code.r (Code.r (bodyOf Tryz.f126))))))) (K126_11 R25 Q) fr H :=
  seq_cut (by kernel_rfl) (fun _ _ h => A126_27 h) (A126_32 h)
theorem A126_25 {fr : Fr} {H : Hp} {Q : RT1} (h : F126_25 (fr 0) (fr 3) (fr 10) (fr 11) (fr 12) H Q) : xCode Tryz.prog 95 (Code.l (Code.r (Code.l (Code.r (Code.r (bodyOf Tryz.f126)))))) (blockK 0 (K126_10 Q)) fr H := by
  obtain ⟨I, μ, h0, hr⟩ := h
  refine loop_cut (a := (Code.l (Code.l (Code.r (Code.l (Code.r (Code.r (bodyOf Tryz.f126)))))))) (by kernel_rfl) (fun fr1 H1 => fr1 0 = fr 0 ∧ fr1 3 = fr 3 ∧ fr1 10 = fr 10 ∧ fr1 11 = fr 11 ∧ I (fr1 12) H1) (fun fr1 H1 => μ (fr1 12) H1) (by exact ⟨rfl, rfl, rfl, rfl, h0⟩) ?_
  intro fr1 H1 hI
  obtain ⟨hu0, hu3, hu10, hu11, hI⟩ := hI
  have hb := hr (fr1 12) H1 hI
  rw [← hu0] at hb; rw [← hu3] at hb; rw [← hu10] at hb; rw [← hu11] at hb
  refine ⟨_, ?_, A126_26 hb⟩
  intro fr2 H2 hj
  obtain ⟨ku0, ku3, ku10, ku11, hI2, hlt⟩ := hj
  exact ⟨⟨(ku0.trans hu0), (ku3.trans hu3), (ku10.trans hu10), (ku11.trans hu11), hI2⟩, hlt⟩
theorem A126_24 {fr : Fr} {H : Hp} {Q : RT1} (h : F126_24 (fr 0) (fr 3) (fr 10) (fr 11) (fr 12) H Q) : xCode Tryz.prog 95 (Code.r (Code.l (Code.r (Code.r (bodyOf Tryz.f126))))) (K126_10 Q) fr H :=
  block_cut (by kernel_rfl) (A126_25 h)
theorem A126_33 {fr : Fr} {H : Hp} {Q : RT1} (h : F126_33 (fr 0) (fr 3) H Q) : xCode Tryz.prog 95 (Code.l (Code.l (Code.r (Code.r (bodyOf Tryz.f126))))) (thenK (fun fr H => F126_24 (fr 0) (fr 3) (fr 10) (fr 11) (fr 12) H Q) (K126_10 Q)) fr H :=
  Eq.mp (by kernel_rfl) h
theorem A126_23 {fr : Fr} {H : Hp} {Q : RT1} (h : F126_23 (fr 0) (fr 3) H Q) : xCode Tryz.prog 95 (Code.l (Code.r (Code.r (bodyOf Tryz.f126)))) (K126_10 Q) fr H :=
  seq_cut (by kernel_rfl) (fun _ _ h => A126_24 h) (A126_33 h)
theorem A126_2 {fr : Fr} {H : Hp} {Q : RT1} (h : F126_2 (fr 0) (fr 3) H Q) : xCode Tryz.prog 95 (Code.r (Code.r (bodyOf Tryz.f126))) (xRet Tryz.prog [.tmp 2] Q) fr H :=
  seq_cut (by kernel_rfl) (fun _ _ h => A126_3 h) (A126_23 h)
theorem A126_34 {fr : Fr} {H : Hp} {Q : RT1} (h : F126_34 (fr 0) H Q) : xCode Tryz.prog 95 (Code.l (Code.r (bodyOf Tryz.f126))) (thenK (fun fr H => F126_2 (fr 0) (fr 3) H Q) (xRet Tryz.prog [.tmp 2] Q)) fr H :=
  Eq.mp (by kernel_rfl) h
theorem A126_1 {fr : Fr} {H : Hp} {Q : RT1} (h : F126_1 (fr 0) H Q) : xCode Tryz.prog 95 (Code.r (bodyOf Tryz.f126)) (xRet Tryz.prog [.tmp 2] Q) fr H :=
  seq_cut (by kernel_rfl) (fun _ _ h => A126_2 h) (A126_34 h)
theorem A126_35 {fr : Fr} {H : Hp} {Q : RT1} (h : F126_35 (fr 0) H Q) : xCode Tryz.prog 95 (Code.l (bodyOf Tryz.f126)) (thenK (fun fr H => F126_1 (fr 0) H Q) (xRet Tryz.prog [.tmp 2] Q)) fr H :=
  Eq.mp (by kernel_rfl) h
theorem A126_0 {fr : Fr} {H : Hp} {Q : RT1} (h : F126_0 (fr 0) H Q) : xCode Tryz.prog 95 (bodyOf Tryz.f126) (xRet Tryz.prog [.tmp 2] Q) fr H :=
  seq_cut (by kernel_rfl) (fun _ _ h => A126_1 h) (A126_35 h)
theorem E126 {t0 : Value} {H : Hp} {Q : RT1} (h : F126_0 t0 H Q) : NCalls Tryz.prog 126 #[t0] H Q :=
  NCalls.ofBody (by kernel_rfl) Tryz.func126 (by kernel_rfl) (by kernel_rfl) (Eq.mp (by kernel_rfl) (A126_0 (fr := fun i => (#[t0] : Array Value).getD i undef) (H := H) (Q := Q) (Eq.mp (by kernel_rfl) h)))
def F127_0 (t0 t1 t2 : Value) (H : Hp) (Q : RT1) : Prop :=
  New #[Value.int IntKind.i64 0, Value.int IntKind.i64 0, Value.int IntKind.i64 0, Value.int IntKind.i64 0, Value.int IntKind.u32 0, Value.int IntKind.u32 0, Value.int IntKind.u32 0, Value.int IntKind.u32 0, Value.bool false, Value.bool false, Value.bool false] 66 H (fun t6_1 H_1 =>
  q (Nz t0) fun t9_2 =>
  q (Fa 0 t9_2) fun t10_3 =>
  q (Ld H_1 t10_3) fun t11_4 =>
  q (pv Tryz.prog (Instr.build 66 #[(0, t2), (1, t11_4), (2, (Value.int IntKind.i64 (-1))), (3, t1)])) fun t13_5 =>
  St 11 H_1 t6_1 t13_5 ((fun u_6 H_6 =>
  q (LdA 11 H_6 t6_1) fun r_7 =>
  Q r_7 H_6) undef))
theorem A127_0 {fr : Fr} {H : Hp} {Q : RT1} (h : F127_0 (fr 0) (fr 1) (fr 2) H Q) : xCode Tryz.prog 14 (bodyOf Tryz.f127) (xRet Tryz.prog [.cell 6 66] Q) fr H :=
  Eq.mp (by kernel_rfl) h
theorem E127 {t0 t1 t2 : Value} {H : Hp} {Q : RT1} (h : F127_0 t0 t1 t2 H Q) : NCalls Tryz.prog 127 #[t0, t1, t2] H Q :=
  NCalls.ofBody (by kernel_rfl) Tryz.func127 (by kernel_rfl) (by kernel_rfl) (Eq.mp (by kernel_rfl) (A127_0 (fr := fun i => (#[t0, t1, t2] : Array Value).getD i undef) (H := H) (Q := Q) (Eq.mp (by kernel_rfl) h)))
def F128_0 (t0 : Value) (H : Hp) (Q : RT1) : Prop :=
  NCalls Tryz.prog 124 #[t0] H (fun t5_1 H_1 =>
  condV t5_1 (
    Q (Value.slice none 0 0) H_1) (
    q (Nz t0) fun t7_2 =>
    q (Fa 6 t7_2) fun t8_3 =>
    q (Ld H_1 t8_3) fun t9_4 =>
    q (Nz t0) fun t12_5 =>
    q (Fa 9 t12_5) fun t13_6 =>
    q (Ld H_1 t13_6) fun t14_7 =>
    q (Nz t0) fun t15_8 =>
    q (Fa 6 t15_8) fun t16_9 =>
    St 1 H_1 t16_9 t14_7 ((fun u_10 H_10 =>
    q (Nz t0) fun t18_11 =>
    q (Fa 7 t18_11) fun t19_12 =>
    q (Ld H_10 t19_12) fun t20_13 =>
    dm Tryz.prog (Builtin.clear_ #[63] 0 #[t20_13]) H_10 (fun u_14 H_14 =>
    q (Nz t0) fun t24_15 =>
    q (Fa 9 t24_15) fun t25_16 =>
    q (Ld H_14 t25_16) fun t26_17 =>
    q (Bin Tryz.prog H_14 .eql 3 false t9_4 t26_17) fun t27_18 =>
    condV t27_18 (
      q (Nz t0) fun t30_19 =>
      q (Fa 9 t30_19) fun t31_20 =>
      q (Ld H_14 t31_20) fun t32_21 =>
      NCalls Tryz.prog 127 #[t0, t32_21, (Value.int IntKind.i64 8)] H_14 (fun t33_22 H_22 =>
      Bsl #[Value.int IntKind.i64 0, Value.int IntKind.i64 0, Value.int IntKind.i64 0, Value.int IntKind.i64 0, Value.int IntKind.u32 0, Value.int IntKind.u32 0, Value.int IntKind.u32 0, Value.int IntKind.u32 0, Value.bool false, Value.bool false, Value.bool false] 11 66 1 [(0, t33_22)] H_22 (fun t34_23 H_23 =>
      Q t34_23 H_23))) (
      q (Nz t0) fun t37_24 =>
      q (Fa 13 t37_24) fun t38_25 =>
      q (Fa 8 t38_25) fun t39_26 =>
      q (Ld H_14 t39_26) fun t40_27 =>
      condV t40_27 (
        q (Nz t0) fun t43_28 =>
        q (Fa 13 t43_28) fun t44_29 =>
        q (Fa 4 t44_29) fun t45_30 =>
        q (LdA 4 H_14 t45_30) fun t46_31 =>
        q (Nz t0) fun t48_32 =>
        q (Fa 13 t48_32) fun t49_33 =>
        q (Fa 9 t49_33) fun t50_34 =>
        q (Ld H_14 t50_34) fun t51_35 =>
        NCalls Tryz.prog 144 #[t0, t46_31, t51_35, (Value.bool true)] H_14 (fun t52_36 H_36 =>
        Q t52_36 H_36)) (
        q (Nz t0) fun t55_37 =>
        q (Fa 2 t55_37) fun t56_38 =>
        q (LdA 4 H_14 t56_38) fun t57_39 =>
        NCalls Tryz.prog 144 #[t0, t57_39, (Value.bool false), (Value.bool true)] H_14 (fun t58_40 H_40 =>
        Q t58_40 H_40))))) undef)))
theorem A128_0 {fr : Fr} {H : Hp} {Q : RT1} (h : F128_0 (fr 0) H Q) : xCode Tryz.prog 59 (bodyOf Tryz.f128) (xRet Tryz.prog [.tmp 2] Q) fr H :=
  Eq.mp (by kernel_rfl) h
theorem E128 {t0 : Value} {H : Hp} {Q : RT1} (h : F128_0 t0 H Q) : NCalls Tryz.prog 128 #[t0] H Q :=
  NCalls.ofBody (by kernel_rfl) Tryz.func128 (by kernel_rfl) (by kernel_rfl) (Eq.mp (by kernel_rfl) (A128_0 (fr := fun i => (#[t0] : Array Value).getD i undef) (H := H) (Q := Q) (Eq.mp (by kernel_rfl) h)))
def F129_5 (t0 t5 : Value) (H : Hp) (Q : RT1) : Prop :=
  q (LdA 4 H t5) fun t45_1 =>
  NCalls Tryz.prog 144 #[t0, t45_1, (Value.bool false), (Value.bool false)] H (fun t46_2 H_2 =>
  Q t46_2 H_2)
def F129_9 (t0 t5 : Value) (H : Hp) (Q : RT1) : Prop :=
  q (Nz t0) fun t42_3 =>
  q (Fa 6 t42_3) fun t43_4 =>
  St 1 H t43_4 (Value.int IntKind.i64 (-1)) ((fun u_5 H_5 =>
  F129_5 t0 t5 H_5 Q) undef)
def F129_10 (t0 t3 t5 : Value) (H : Hp) (Q : RT1) : Prop :=
  q (Fa 8 t3) fun t30_6 =>
  q (Ld H t30_6) fun t31_7 =>
  condV t31_7 (
    q (Nz t0) fun t33_8 =>
    q (Fa 7 t33_8) fun t34_9 =>
    q (Ld H t34_9) fun t35_10 =>
    q (Nz t0) fun t37_11 =>
    q (Fa 6 t37_11) fun t38_12 =>
    q (Ld H t38_12) fun t39_13 =>
    q (Ix 1 t35_10 t39_13) fun t40_14 =>
    St 1 H t40_14 (Value.bool true) ((fun u_15 H_15 =>
    F129_9 t0 t5 H_15 Q) undef)) (
    F129_9 t0 t5 H Q)
def F129_8 (t0 t3 t5 : Value) (H : Hp) (Q : RT1) : Prop := F129_10 t0 t3 t5 H Q
def F129_11 (t0 t5 : Value) (H : Hp) (Q : RT1) : Prop :=
  F129_5 t0 t5 H Q
def F129_7 (t0 t3 t5 t29 : Value) (H : Hp) (Q : RT1) : Prop := condV t29 (F129_8 t0 t3 t5 H Q) (F129_11 t0 t5 H Q)
def F129_12 (t0 t3 t5 : Value) (H : Hp) (Q : RT1) : Prop :=
  q (Fa 9 t3) fun t27_16 =>
  q (Ld H t27_16) fun t28_17 =>
  q (pv Tryz.prog (Op.unary .not t28_17)) fun t29_18 =>
  F129_7 t0 t3 t5 t29_18 H Q
def F129_6 (t0 t3 t5 : Value) (H : Hp) (Q : RT1) : Prop := F129_12 t0 t3 t5 H Q
def F129_4 (t0 t3 t5 : Value) (H : Hp) (Q : RT1) : Prop := F129_6 t0 t3 t5 H Q
def F129_13 (t0 t3 t5 : Value) (H : Hp) (Q : RT1) : Prop :=
  q (Fa 9 t3) fun t19_19 =>
  q (Ld H t19_19) fun t20_20 =>
  q (gd t20_20 false (Fa 8 t3)) fun t22_21 =>
  q (gd t20_20 false (Ld H t22_21)) fun t23_22 =>
  q (Pk t20_20 (Value.bool true) t23_22) fun t24_23 =>
  condV t24_23 (
    q (Fa 4 t3) fun t25_24 =>
    q (LdA 4 H t25_24) fun t26_25 =>
    St 4 H t5 t26_25 ((fun u_26 H_26 =>
    F129_4 t0 t3 t5 H_26 Q) undef)) (
    F129_4 t0 t3 t5 H Q)
def F129_3 (t0 t3 t5 : Value) (H : Hp) (Q : RT1) : Prop := F129_13 t0 t3 t5 H Q
def F129_14 (t0 t3 : Value) (H : Hp) (Q : RT1) : Prop :=
  q (Nz t0) fun t16_27 =>
  q (Fa 2 t16_27) fun t17_28 =>
  q (LdA 4 H t17_28) fun t18_29 =>
  New #[Value.int IntKind.u32 0, Value.int IntKind.u32 0, Value.int IntKind.u32 0, Value.int IntKind.u32 0] 52 H (fun t5_30 H_30 =>
  St 4 H_30 t5_30 t18_29 ((fun u_31 H_31 =>
  F129_3 t0 t3 t5_30 H_31 Q) undef))
def F129_2 (t0 t3 : Value) (H : Hp) (Q : RT1) : Prop := F129_14 t0 t3 H Q
def F129_15 (t0 t3 : Value) (H : Hp) (Q : RT1) : Prop :=
  q (Nz t0) fun t7_32 =>
  q (Fa 7 t7_32) fun t8_33 =>
  q (Ld H t8_33) fun t9_34 =>
  q (Nz t0) fun t11_35 =>
  q (Fa 9 t11_35) fun t12_36 =>
  q (Ld H t12_36) fun t13_37 =>
  q (Ix 1 t9_34 t13_37) fun t14_38 =>
  St 1 H t14_38 (Value.bool true) ((fun u_39 H_39 =>
  F129_2 t0 t3 H_39 Q) undef)
def F129_1 (t0 t3 : Value) (H : Hp) (Q : RT1) : Prop := F129_15 t0 t3 H Q
def F129_16 (t0 t1 : Value) (H : Hp) (Q : RT1) : Prop :=
  New (Value.cells t1) 66 H (fun t3_40 H_40 =>
  F129_1 t0 t3_40 H_40 Q)
def F129_0 (t0 t1 : Value) (H : Hp) (Q : RT1) : Prop := F129_16 t0 t1 H Q
theorem A129_5 {fr : Fr} {H : Hp} {Q : RT1} (h : F129_5 (fr 0) (fr 5) H Q) : xCode Tryz.prog 47 (Code.r (Code.r (Code.r (Code.r (Code.r (bodyOf Tryz.f129)))))) (xRet Tryz.prog [.tmp 4] Q) fr H :=
  Eq.mp (by kernel_rfl) h
abbrev K129_12 (Q : RT1) : QT := thenK (fun fr H => F129_5 (fr 0) (fr 5) H Q) (xRet Tryz.prog [.tmp 4] Q)
theorem A129_9 {fr : Fr} {H : Hp} {Q : RT1} (h : F129_9 (fr 0) (fr 5) H Q) : xCode Tryz.prog 47 (Code.r (Code.l (Code.r (Code.l (Code.r (Code.r (Code.r (Code.r (bodyOf Tryz.f129))))))))) (K129_12 Q) fr H :=
  Eq.mp (by kernel_rfl) h
theorem A129_10 {fr : Fr} {H : Hp} {Q : RT1} (h : F129_10 (fr 0) (fr 3) (fr 5) H Q) : xCode Tryz.prog 47 (Code.l (Code.l (Code.r (Code.l (Code.r (Code.r (Code.r (Code.r (bodyOf Tryz.f129))))))))) (thenK (fun fr H => F129_9 (fr 0) (fr 5) H Q) (K129_12 Q)) fr H :=
  Eq.mp (by kernel_rfl) h
theorem A129_8 {fr : Fr} {H : Hp} {Q : RT1} (h : F129_8 (fr 0) (fr 3) (fr 5) H Q) : xCode Tryz.prog 47 (Code.l (Code.r (Code.l (Code.r (Code.r (Code.r (Code.r (bodyOf Tryz.f129)))))))) (K129_12 Q) fr H :=
  seq_cut (by kernel_rfl) (fun _ _ h => A129_9 h) (A129_10 h)
theorem A129_11 {fr : Fr} {H : Hp} {Q : RT1} (h : F129_11 (fr 0) (fr 5) H Q) : xCode Tryz.prog 47 (Code.r (Code.r (Code.l (Code.r (Code.r (Code.r (Code.r (bodyOf Tryz.f129)))))))) (K129_12 Q) fr H :=
  Eq.mp (by kernel_rfl) h
theorem A129_7 {fr : Fr} {H : Hp} {Q : RT1} (h : F129_7 (fr 0) (fr 3) (fr 5) (fr 29) H Q) : xCode Tryz.prog 47 (Code.r (Code.l (Code.r (Code.r (Code.r (Code.r (bodyOf Tryz.f129))))))) (K129_12 Q) fr H :=
  cond_cut (x := (Go.Operand.tmp 29)) (by kernel_rfl) (fun h => A129_8 h) (fun h => A129_11 h) h
theorem A129_12 {fr : Fr} {H : Hp} {Q : RT1} (h : F129_12 (fr 0) (fr 3) (fr 5) H Q) : xCode Tryz.prog 47 (Code.l (Code.l (Code.r (Code.r (Code.r (Code.r (bodyOf Tryz.f129))))))) (thenK (fun fr H => F129_7 (fr 0) (fr 3) (fr 5) (fr 29) H Q) (K129_12 Q)) fr H :=
  Eq.mp (by kernel_rfl) h
theorem A129_6 {fr : Fr} {H : Hp} {Q : RT1} (h : F129_6 (fr 0) (fr 3) (fr 5) H Q) : xCode Tryz.prog 47 (Code.l (Code.r (Code.r (Code.r (Code.r (bodyOf Tryz.f129)))))) (K129_12 Q) fr H :=
  seq_cut (by kernel_rfl) (fun _ _ h => A129_7 h) (A129_12 h)
theorem A129_4 {fr : Fr} {H : Hp} {Q : RT1} (h : F129_4 (fr 0) (fr 3) (fr 5) H Q) : xCode Tryz.prog 47 (Code.r (Code.r (Code.r (Code.r (bodyOf Tryz.f129))))) (xRet Tryz.prog [.tmp 4] Q) fr H :=
  seq_cut (by kernel_rfl) (fun _ _ h => A129_5 h) (A129_6 h)
theorem A129_13 {fr : Fr} {H : Hp} {Q : RT1} (h : F129_13 (fr 0) (fr 3) (fr 5) H Q) : xCode Tryz.prog 47 (Code.l (Code.r (Code.r (Code.r (bodyOf Tryz.f129))))) (thenK (fun fr H => F129_4 (fr 0) (fr 3) (fr 5) H Q) (xRet Tryz.prog [.tmp 4] Q)) fr H :=
  Eq.mp (by kernel_rfl) h
theorem A129_3 {fr : Fr} {H : Hp} {Q : RT1} (h : F129_3 (fr 0) (fr 3) (fr 5) H Q) : xCode Tryz.prog 47 (Code.r (Code.r (Code.r (bodyOf Tryz.f129)))) (xRet Tryz.prog [.tmp 4] Q) fr H :=
  seq_cut (by kernel_rfl) (fun _ _ h => A129_4 h) (A129_13 h)
theorem A129_14 {fr : Fr} {H : Hp} {Q : RT1} (h : F129_14 (fr 0) (fr 3) H Q) : xCode Tryz.prog 47 (Code.l (Code.r (Code.r (bodyOf Tryz.f129)))) (thenK (fun fr H => F129_3 (fr 0) (fr 3) (fr 5) H Q) (xRet Tryz.prog [.tmp 4] Q)) fr H :=
  Eq.mp (by kernel_rfl) h
theorem A129_2 {fr : Fr} {H : Hp} {Q : RT1} (h : F129_2 (fr 0) (fr 3) H Q) : xCode Tryz.prog 47 (Code.r (Code.r (bodyOf Tryz.f129))) (xRet Tryz.prog [.tmp 4] Q) fr H :=
  seq_cut (by kernel_rfl) (fun _ _ h => A129_3 h) (A129_14 h)
theorem A129_15 {fr : Fr} {H : Hp} {Q : RT1} (h : F129_15 (fr 0) (fr 3) H Q) : xCode Tryz.prog 47 (Code.l (Code.r (bodyOf Tryz.f129))) (thenK (fun fr H => F129_2 (fr 0) (fr 3) H Q) (xRet Tryz.prog [.tmp 4] Q)) fr H :=
  Eq.mp (by kernel_rfl) h
theorem A129_1 {fr : Fr} {H : Hp} {Q : RT1} (h : F129_1 (fr 0) (fr 3) H Q) : xCode Tryz.prog 47 (Code.r (bodyOf Tryz.f129)) (xRet Tryz.prog [.tmp 4] Q) fr H :=
  seq_cut (by kernel_rfl) (fun _ _ h => A129_2 h) (A129_15 h)
theorem A129_16 {fr : Fr} {H : Hp} {Q : RT1} (h : F129_16 (fr 0) (fr 1) H Q) : xCode Tryz.prog 47 (Code.l (bodyOf Tryz.f129)) (thenK (fun fr H => F129_1 (fr 0) (fr 3) H Q) (xRet Tryz.prog [.tmp 4] Q)) fr H :=
  Eq.mp (by kernel_rfl) h
theorem A129_0 {fr : Fr} {H : Hp} {Q : RT1} (h : F129_0 (fr 0) (fr 1) H Q) : xCode Tryz.prog 47 (bodyOf Tryz.f129) (xRet Tryz.prog [.tmp 4] Q) fr H :=
  seq_cut (by kernel_rfl) (fun _ _ h => A129_1 h) (A129_16 h)
theorem E129 {t0 t1 : Value} {H : Hp} {Q : RT1} (h : F129_0 t0 t1 H Q) : NCalls Tryz.prog 129 #[t0, t1] H Q :=
  NCalls.ofBody (by kernel_rfl) Tryz.func129 (by kernel_rfl) (by kernel_rfl) (Eq.mp (by kernel_rfl) (A129_0 (fr := fun i => (#[t0, t1] : Array Value).getD i undef) (H := H) (Q := Q) (Eq.mp (by kernel_rfl) h)))
def F130_0 (t0 t1 t2 t3 : Value) (H : Hp) (Q : RT1) : Prop :=
  NCalls Tryz.prog 90 #[t0, t1, t2, t3] H (fun t13_1 H_1 =>
  q (pv Tryz.prog (Op.unary .not t13_1)) fun t14_2 =>
  condV t14_2 (
    Q (Value.int IntKind.i64 0) H_1) (
    q (Nz t0) fun t16_3 =>
    q (Fa 1 t16_3) fun t17_4 =>
    q (Ld H_1 t17_4) fun t18_5 =>
    q (Nz t0) fun t20_6 =>
    q (Fa 3 t20_6) fun t21_7 =>
    q (Ld H_1 t21_7) fun t22_8 =>
    NCalls Tryz.prog 91 #[t22_8, t1, t2, t3] H_1 (fun t26_9 H_9 =>
    (Ld H_9 t17_4) = some t18_5 ∧ (
    q (Bin Tryz.prog H_9 .sub 3 false t18_5 t26_9) fun t27_10 =>
    Q t27_10 H_9))))
theorem A130_0 {fr : Fr} {H : Hp} {Q : RT1} (h : F130_0 (fr 0) (fr 1) (fr 2) (fr 3) H Q) : xCode Tryz.prog 28 (bodyOf Tryz.f130) (xRet Tryz.prog [.tmp 8] Q) fr H :=
  Eq.mp (by kernel_rfl) h
theorem E130 {t0 t1 t2 t3 : Value} {H : Hp} {Q : RT1} (h : F130_0 t0 t1 t2 t3 H Q) : NCalls Tryz.prog 130 #[t0, t1, t2, t3] H Q :=
  NCalls.ofBody (by kernel_rfl) Tryz.func130 (by kernel_rfl) (by kernel_rfl) (Eq.mp (by kernel_rfl) (A130_0 (fr := fun i => (#[t0, t1, t2, t3] : Array Value).getD i undef) (H := H) (Q := Q) (Eq.mp (by kernel_rfl) h)))
def F131_5 (t6 : Value) (H : Hp) (Q : RT1) : Prop :=
  Q t6 H
def F131_9 (t6 t25 t26 t27 : Value) (H : Hp) (R8 : RT4) (Q : RT1) : Prop :=
  q (Bin Tryz.prog H .lss 3 false t27 t26) fun t28_1 =>
  condV t28_1 (
    q (Ix 1 t25 t27) fun t29_2 =>
    q (Ld H t29_2) fun t30_3 =>
    dm Tryz.prog (Builtin.append_ #[38, 38] 0 #[t6, t30_3]) H (fun t33_4 H_4 =>
    q (Bin Tryz.prog H_4 .add 3 true t27 (Value.int IntKind.i64 1)) fun t34_5 =>
    R8 t33_4 t25 t26 t34_5 H_4)) (
    F131_5 t6 H Q)
def F131_8 (t6 t25 t26 t27 : Value) (H : Hp) (Q : RT1) : Prop :=
  ∃ (I : RT2) (μ : Value → Value → Hp → Nat), I t6 t27 H ∧ ∀ n6 n27 H1, I n6 n27 H1 → F131_9 n6 t25 t26 n27 H1 (fun m6 m25 m26 m27 H2 => m25 = t25 ∧ m26 = t26 ∧ (I m6 m27 H2 ∧ μ m6 m27 H2 < μ n6 n27 H1)) Q
def F131_7 (t6 t25 t26 t27 : Value) (H : Hp) (Q : RT1) : Prop := F131_8 t6 t25 t26 t27 H Q
def F131_10 (t0 t6 : Value) (H : Hp) (Q : RT1) : Prop :=
  q (pv Tryz.prog (Builtin.len_ #[209] 0 #[t0])) fun t26_6 =>
  F131_7 t6 t0 t26_6 (Value.int IntKind.i64 0) H Q
def F131_6 (t0 t6 : Value) (H : Hp) (Q : RT1) : Prop := F131_10 t0 t6 H Q
def F131_4 (t0 t6 : Value) (H : Hp) (Q : RT1) : Prop := F131_6 t0 t6 H Q
def F131_11 (t0 t3 : Value) (H : Hp) (Q : RT1) : Prop :=
  NCalls Tryz.prog 145 #[(Value.slice none 0 0), t3] H (fun t24_7 H_7 =>
  F131_4 t0 t24_7 H_7 Q)
def F131_3 (t0 t3 : Value) (H : Hp) (Q : RT1) : Prop := F131_11 t0 t3 H Q
def F131_18 (t0 t3 t9 t10 t11 : Value) (H : Hp) (R14 : RT5) (Q : RT1) : Prop :=
  q (Bin Tryz.prog H .add 3 true t11 (Value.int IntKind.i64 1)) fun t22_8 =>
  R14 t0 t3 t9 t10 t22_8 H
def F131_19 (t0 t3 t9 t10 t11 : Value) (H : Hp) (R14 : RT5) (Q : RT1) : Prop :=
  q (Ix 1 t9 t11) fun t13_9 =>
  q (Ld H t13_9) fun t14_10 =>
  q (pv Tryz.prog (Builtin.len_ #[38] 0 #[t14_10])) fun t17_11 =>
  q (Bin Tryz.prog H .add 3 false t3 t17_11) fun t18_12 =>
  q (Bin Tryz.prog H .lss 3 true t18_12 (Value.int IntKind.i64 0)) fun t20_13 =>
  condV t20_13 (
    q (pv Tryz.prog (Instr.makeInterface 9 (Value.string { data := #[108, 101, 110, 32, 111, 117, 116, 32, 111, 102, 32, 114, 97, 110, 103, 101] }))) fun t21_14 =>
    False) (
    F131_18 t0 t18_12 t9 t10 t11 H R14 Q)
def F131_17 (t0 t3 t9 t10 t11 : Value) (H : Hp) (R14 : RT5) (Q : RT1) : Prop := F131_19 t0 t3 t9 t10 t11 H R14 Q
def F131_20 (t0 t3 t9 t10 t11 t12 : Value) (H : Hp) (R14 : RT5) (Q : RT1) : Prop :=
  condV t12 (
    F131_17 t0 t3 t9 t10 t11 H R14 Q) (
    F131_3 t0 t3 H Q)
def F131_16 (t0 t3 t9 t10 t11 t12 : Value) (H : Hp) (R14 : RT5) (Q : RT1) : Prop := F131_20 t0 t3 t9 t10 t11 t12 H R14 Q
def F131_21 (t0 t3 t9 t10 t11 : Value) (H : Hp) (R14 : RT5) (Q : RT1) : Prop :=
  q (Bin Tryz.prog H .lss 3 false t11 t10) fun t12_16 =>
  F131_16 t0 t3 t9 t10 t11 t12_16 H R14 Q
def F131_15 (t0 t3 t9 t10 t11 : Value) (H : Hp) (R14 : RT5) (Q : RT1) : Prop := F131_21 t0 t3 t9 t10 t11 H R14 Q
def F131_14 (t0 t3 t9 t10 t11 : Value) (H : Hp) (Q : RT1) : Prop :=
  ∃ (I : RT2) (μ : Value → Value → Hp → Nat), I t3 t11 H ∧ ∀ n3 n11 H1, I n3 n11 H1 → F131_15 t0 n3 t9 t10 n11 H1 (fun m0 m3 m9 m10 m11 H2 => m0 = t0 ∧ m9 = t9 ∧ m10 = t10 ∧ (I m3 m11 H2 ∧ μ m3 m11 H2 < μ n3 n11 H1)) Q
def F131_13 (t0 t3 t9 t10 t11 : Value) (H : Hp) (Q : RT1) : Prop := F131_14 t0 t3 t9 t10 t11 H Q
def F131_22 (t0 t3 : Value) (H : Hp) (Q : RT1) : Prop :=
  q (pv Tryz.prog (Builtin.len_ #[209] 0 #[t0])) fun t10_17 =>
  F131_13 t0 t3 t0 t10_17 (Value.int IntKind.i64 0) H Q
def F131_12 (t0 t3 : Value) (H : Hp) (Q : RT1) : Prop := F131_22 t0 t3 H Q
def F131_2 (t0 t3 : Value) (H : Hp) (Q : RT1) : Prop := F131_12 t0 t3 H Q
def F131_23 (t0 : Value) (H : Hp) (Q : RT1) : Prop :=
  F131_2 t0 (Value.int IntKind.i64 0) H Q
def F131_1 (t0 : Value) (H : Hp) (Q : RT1) : Prop := F131_23 t0 H Q
def F131_24 (t0 : Value) (H : Hp) (Q : RT1) : Prop :=
  F131_1 t0 H Q
def F131_0 (t0 : Value) (H : Hp) (Q : RT1) : Prop := F131_24 t0 H Q
theorem A131_5 {fr : Fr} {H : Hp} {Q : RT1} (h : F131_5 (fr 6) H Q) : xCode Tryz.prog 36 (Code.r (Code.r (Code.r (Code.r (Code.r (bodyOf Tryz.f131)))))) (xRet Tryz.prog [.tmp 2] Q) fr H :=
  Eq.mp (by kernel_rfl) h
abbrev K131_13 (Q : RT1) : QT := thenK (fun fr H => F131_5 (fr 6) H Q) (xRet Tryz.prog [.tmp 2] Q)
theorem A131_9 {fr : Fr} {H : Hp} {R8 : RT4} {Q : RT1} (h : F131_9 (fr 6) (fr 25) (fr 26) (fr 27) H R8 Q) : xCode Tryz.prog 36 (Code.l (Code.l (Code.r (Code.l (Code.r (Code.r (Code.r (Code.r (bodyOf Tryz.f131))))))))) (thenK (fun fr H => R8 (fr 6) (fr 25) (fr 26) (fr 27) H) (blockK 2 (K131_13 Q))) fr H :=
  Eq.mp (by kernel_rfl) h
theorem A131_8 {fr : Fr} {H : Hp} {Q : RT1} (h : F131_8 (fr 6) (fr 25) (fr 26) (fr 27) H Q) : xCode Tryz.prog 36 (Code.l (Code.r (Code.l (Code.r (Code.r (Code.r (Code.r (bodyOf Tryz.f131)))))))) (blockK 2 (K131_13 Q)) fr H := by
  obtain ⟨I, μ, h0, hr⟩ := h
  refine loop_cut (a := (Code.l (Code.l (Code.r (Code.l (Code.r (Code.r (Code.r (Code.r (bodyOf Tryz.f131)))))))))) (by kernel_rfl) (fun fr1 H1 => fr1 25 = fr 25 ∧ fr1 26 = fr 26 ∧ I (fr1 6) (fr1 27) H1) (fun fr1 H1 => μ (fr1 6) (fr1 27) H1) (by exact ⟨rfl, rfl, h0⟩) ?_
  intro fr1 H1 hI
  obtain ⟨hu25, hu26, hI⟩ := hI
  have hb := hr (fr1 6) (fr1 27) H1 hI
  rw [← hu25] at hb; rw [← hu26] at hb
  refine ⟨_, ?_, A131_9 hb⟩
  intro fr2 H2 hj
  obtain ⟨ku25, ku26, hI2, hlt⟩ := hj
  exact ⟨⟨(ku25.trans hu25), (ku26.trans hu26), hI2⟩, hlt⟩
theorem A131_7 {fr : Fr} {H : Hp} {Q : RT1} (h : F131_7 (fr 6) (fr 25) (fr 26) (fr 27) H Q) : xCode Tryz.prog 36 (Code.r (Code.l (Code.r (Code.r (Code.r (Code.r (bodyOf Tryz.f131))))))) (K131_13 Q) fr H :=
  block_cut (by kernel_rfl) (A131_8 h)
theorem A131_10 {fr : Fr} {H : Hp} {Q : RT1} (h : F131_10 (fr 0) (fr 6) H Q) : xCode Tryz.prog 36 (Code.l (Code.l (Code.r (Code.r (Code.r (Code.r (bodyOf Tryz.f131))))))) (thenK (fun fr H => F131_7 (fr 6) (fr 25) (fr 26) (fr 27) H Q) (K131_13 Q)) fr H :=
  Eq.mp (by kernel_rfl) h
theorem A131_6 {fr : Fr} {H : Hp} {Q : RT1} (h : F131_6 (fr 0) (fr 6) H Q) : xCode Tryz.prog 36 (Code.l (Code.r (Code.r (Code.r (Code.r (bodyOf Tryz.f131)))))) (K131_13 Q) fr H :=
  seq_cut (by kernel_rfl) (fun _ _ h => A131_7 h) (A131_10 h)
theorem A131_4 {fr : Fr} {H : Hp} {Q : RT1} (h : F131_4 (fr 0) (fr 6) H Q) : xCode Tryz.prog 36 (Code.r (Code.r (Code.r (Code.r (bodyOf Tryz.f131))))) (xRet Tryz.prog [.tmp 2] Q) fr H :=
  seq_cut (by kernel_rfl) (fun _ _ h => A131_5 h) (A131_6 h)
theorem A131_11 {fr : Fr} {H : Hp} {Q : RT1} (h : F131_11 (fr 0) (fr 3) H Q) : xCode Tryz.prog 36 (Code.l (Code.r (Code.r (Code.r (bodyOf Tryz.f131))))) (thenK (fun fr H => F131_4 (fr 0) (fr 6) H Q) (xRet Tryz.prog [.tmp 2] Q)) fr H :=
  Eq.mp (by kernel_rfl) h
theorem A131_3 {fr : Fr} {H : Hp} {Q : RT1} (h : F131_3 (fr 0) (fr 3) H Q) : xCode Tryz.prog 36 (Code.r (Code.r (Code.r (bodyOf Tryz.f131)))) (xRet Tryz.prog [.tmp 2] Q) fr H :=
  seq_cut (by kernel_rfl) (fun _ _ h => A131_4 h) (A131_11 h)
abbrev K131_14 (Q : RT1) : QT := thenK (fun fr H => F131_3 (fr 0) (fr 3) H Q) (xRet Tryz.prog [.tmp 2] Q)
abbrev K131_15 (R14 : RT5) (Q : RT1) : QT := thenK (fun fr H => R14 (fr 0) (fr 3) (fr 9) (fr 10) (fr 11) H) (blockK 0 (K131_14 Q))
theorem A131_18 {fr : Fr} {H : Hp} {R14 : RT5} {Q : RT1} (h : F131_18 (fr 0) (fr 3) (fr 9) (fr 10) (fr 11) H R14 Q) : xCode Tryz.prog 36 (Code.r (Code.r (Code.r (Code.l (Code.l (Code.r (Code.l (Code.r (Code.r (bodyOf Tryz.f131)))))))))) (K131_15 R14 Q) fr H :=
  Eq.mp (by kernel_rfl) h
theorem A131_19 {fr : Fr} {H : Hp} {R14 : RT5} {Q : RT1} (h : F131_19 (fr 0) (fr 3) (fr 9) (fr 10) (fr 11) H R14 Q) : xCode Tryz.prog 36 (Code.l (Code.r (Code.r (Code.l (Code.l (Code.r (Code.l (Code.r (Code.r (bodyOf Tryz.f131)))))))))) (thenK (fun fr H => F131_18 (fr 0) (fr 3) (fr 9) (fr 10) (fr 11) H R14 Q) (K131_15 R14 Q)) fr H :=
  Eq.mp (by kernel_rfl) h
theorem A131_17 {fr : Fr} {H : Hp} {R14 : RT5} {Q : RT1} (h : F131_17 (fr 0) (fr 3) (fr 9) (fr 10) (fr 11) H R14 Q) : xCode Tryz.prog 36 (Code.r (Code.r (Code.l (Code.l (Code.r (Code.l (Code.r (Code.r (bodyOf Tryz.f131))))))))) (K131_15 R14 Q) fr H :=
  seq_cut (by kernel_rfl) (fun _ _ h => A131_18 h) (A131_19 h)
theorem A131_20 {fr : Fr} {H : Hp} {R14 : RT5} {Q : RT1} (h : F131_20 (fr 0) (fr 3) (fr 9) (fr 10) (fr 11) (fr 12) H R14 Q) : xCode Tryz.prog 36 (Code.l (Code.r (Code.l (Code.l (Code.r (Code.l (Code.r (Code.r (bodyOf Tryz.f131))))))))) (thenK (fun fr H => F131_17 (fr 0) (fr 3) (fr 9) (fr 10) (fr 11) H R14 Q) (K131_15 R14 Q)) fr H :=
  Eq.mp (by kernel_rfl) h
theorem A131_16 {fr : Fr} {H : Hp} {R14 : RT5} {Q : RT1} (h : F131_16 (fr 0) (fr 3) (fr 9) (fr 10) (fr 11) (fr 12) H R14 Q) : xCode Tryz.prog 36 (Code.r (Code.l (Code.l (Code.r (Code.l (Code.r (Code.r (bodyOf Tryz.f131)))))))) (K131_15 R14 Q) fr H :=
  seq_cut (by kernel_rfl) (fun _ _ h => A131_17 h) (A131_20 h)
theorem A131_21 {fr : Fr} {H : Hp} {R14 : RT5} {Q : RT1} (h : F131_21 (fr 0) (fr 3) (fr 9) (fr 10) (fr 11) H R14 Q) : xCode Tryz.prog 36 (Code.l (Code.l (Code.l (Code.r (Code.l (Code.r (Code.r (bodyOf Tryz.f131)))))))) (thenK (fun fr H => F131_16 (fr 0) (fr 3) (fr 9) (fr 10) (fr 11) (fr 12) H R14 Q) (K131_15 R14 Q)) fr H :=
  Eq.mp (by kernel_rfl) h
theorem A131_15 {fr : Fr} {H : Hp} {R14 : RT5} {Q : RT1} (h : F131_15 (fr 0) (fr 3) (fr 9) (fr 10) (fr 11) H R14 Q) : xCode Tryz.prog 36 (Code.l (Code.l (Code.r (Code.l (Code.r (Code.r (bodyOf Tryz.f131))))))) (K131_15 R14 Q) fr H :=
  seq_cut (by kernel_rfl) (fun _ _ h => A131_16 h) (A131_21 h)
theorem A131_14 {fr : Fr} {H : Hp} {Q : RT1} (h : F131_14 (fr 0) (fr 3) (fr 9) (fr 10) (fr 11) H Q) : xCode Tryz.prog 36 (Code.l (Code.r (Code.l (Code.r (Code.r (bodyOf Tryz.f131)))))) (blockK 0 (K131_14 Q)) fr H := by
  obtain ⟨I, μ, h0, hr⟩ := h
  refine loop_cut (a := (Code.l (Code.l (Code.r (Code.l (Code.r (Code.r (bodyOf Tryz.f131)))))))) (by kernel_rfl) (fun fr1 H1 => fr1 0 = fr 0 ∧ fr1 9 = fr 9 ∧ fr1 10 = fr 10 ∧ I (fr1 3) (fr1 11) H1) (fun fr1 H1 => μ (fr1 3) (fr1 11) H1) (by exact ⟨rfl, rfl, rfl, h0⟩) ?_
  intro fr1 H1 hI
  obtain ⟨hu0, hu9, hu10, hI⟩ := hI
  have hb := hr (fr1 3) (fr1 11) H1 hI
  rw [← hu0] at hb; rw [← hu9] at hb; rw [← hu10] at hb
  refine ⟨_, ?_, A131_15 hb⟩
  intro fr2 H2 hj
  obtain ⟨ku0, ku9, ku10, hI2, hlt⟩ := hj
  exact ⟨⟨(ku0.trans hu0), (ku9.trans hu9), (ku10.trans hu10), hI2⟩, hlt⟩
theorem A131_13 {fr : Fr} {H : Hp} {Q : RT1} (h : F131_13 (fr 0) (fr 3) (fr 9) (fr 10) (fr 11) H Q) : xCode Tryz.prog 36 (Code.r (Code.l (Code.r (Code.r (bodyOf Tryz.f131))))) (K131_14 Q) fr H :=
  block_cut (by kernel_rfl) (A131_14 h)
theorem A131_22 {fr : Fr} {H : Hp} {Q : RT1} (h : F131_22 (fr 0) (fr 3) H Q) : xCode Tryz.prog 36 (Code.l (Code.l (Code.r (Code.r (bodyOf Tryz.f131))))) (thenK (fun fr H => F131_13 (fr 0) (fr 3) (fr 9) (fr 10) (fr 11) H Q) (K131_14 Q)) fr H :=
  Eq.mp (by kernel_rfl) h
theorem A131_12 {fr : Fr} {H : Hp} {Q : RT1} (h : F131_12 (fr 0) (fr 3) H Q) : xCode Tryz.prog 36 (Code.l (Code.r (Code.r (bodyOf Tryz.f131)))) (K131_14 Q) fr H :=
  seq_cut (by kernel_rfl) (fun _ _ h => A131_13 h) (A131_22 h)
theorem A131_2 {fr : Fr} {H : Hp} {Q : RT1} (h : F131_2 (fr 0) (fr 3) H Q) : xCode Tryz.prog 36 (Code.r (Code.r (bodyOf Tryz.f131))) (xRet Tryz.prog [.tmp 2] Q) fr H :=
  seq_cut (by kernel_rfl) (fun _ _ h => A131_3 h) (A131_12 h)
theorem A131_23 {fr : Fr} {H : Hp} {Q : RT1} (h : F131_23 (fr 0) H Q) : xCode Tryz.prog 36 (Code.l (Code.r (bodyOf Tryz.f131))) (thenK (fun fr H => F131_2 (fr 0) (fr 3) H Q) (xRet Tryz.prog [.tmp 2] Q)) fr H :=
  Eq.mp (by kernel_rfl) h
theorem A131_1 {fr : Fr} {H : Hp} {Q : RT1} (h : F131_1 (fr 0) H Q) : xCode Tryz.prog 36 (Code.r (bodyOf Tryz.f131)) (xRet Tryz.prog [.tmp 2] Q) fr H :=
  seq_cut (by kernel_rfl) (fun _ _ h => A131_2 h) (A131_23 h)
theorem A131_24 {fr : Fr} {H : Hp} {Q : RT1} (h : F131_24 (fr 0) H Q) : xCode Tryz.prog 36 (Code.l (bodyOf Tryz.f131)) (thenK (fun fr H => F131_1 (fr 0) H Q) (xRet Tryz.prog [.tmp 2] Q)) fr H :=
  Eq.mp (by kernel_rfl) h
theorem A131_0 {fr : Fr} {H : Hp} {Q : RT1} (h : F131_0 (fr 0) H Q) : xCode Tryz.prog 36 (bodyOf Tryz.f131) (xRet Tryz.prog [.tmp 2] Q) fr H :=
  seq_cut (by kernel_rfl) (fun _ _ h => A131_1 h) (A131_24 h)
theorem E131 {t0 : Value} {H : Hp} {Q : RT1} (h : F131_0 t0 H Q) : NCalls Tryz.prog 131 #[t0] H Q :=
  NCalls.ofBody (by kernel_rfl) Tryz.func131 (by kernel_rfl) (by kernel_rfl) (Eq.mp (by kernel_rfl) (A131_0 (fr := fun i => (#[t0] : Array Value).getD i undef) (H := H) (Q := Q) (Eq.mp (by kernel_rfl) h)))
def F132_2 (t0 : Value) (H : Hp) (Q : RT1) : Prop :=
  q (Nz t0) fun t80_1 =>
  q (Fa 7 t80_1) fun t81_2 =>
  St 1 H t81_2 (Value.int IntKind.i64 0) ((fun u_3 H_3 =>
  q (Nz t0) fun t82_4 =>
  q (Fa 8 t82_4) fun t83_5 =>
  St 1 H_3 t83_5 (Value.int IntKind.i64 0) ((fun u_6 H_6 =>
  Q (Value.slice none 0 0) H_6) undef)) undef)
def F132_7 (t0 : Value) (H : Hp) (Q : RT1) : Prop :=
  q (Nz t0) fun t10_7 =>
  q (Fa 2 t10_7) fun t11_8 =>
  St 1 H t11_8 (Value.int IntKind.i64 0) ((fun u_9 H_9 =>
  NCalls Tryz.prog 85 #[t0, (Value.int IntKind.i64 10)] H_9 (fun t13_10 H_10 =>
  Bsl #[Value.int IntKind.i64 0, Value.int IntKind.i64 0, Value.int IntKind.i64 0, Value.int IntKind.i64 0, Value.int IntKind.u32 0, Value.int IntKind.u32 0, Value.int IntKind.u32 0, Value.int IntKind.u32 0, Value.bool false, Value.bool false, Value.bool false] 11 66 1 [(0, t13_10)] H_10 (fun t14_11 H_11 =>
  Q t14_11 H_11))) undef)
def F132_10 (t0 : Value) (H : Hp) (Q : RT1) : Prop :=
  NCalls Tryz.prog 146 #[t0] H (fun t18_12 H_12 =>
  Bsl #[Value.int IntKind.i64 0, Value.int IntKind.i64 0, Value.int IntKind.i64 0, Value.int IntKind.i64 0, Value.int IntKind.u32 0, Value.int IntKind.u32 0, Value.int IntKind.u32 0, Value.int IntKind.u32 0, Value.bool false, Value.bool false, Value.bool false] 11 66 1 [(0, t18_12)] H_12 (fun t19_13 H_13 =>
  Q t19_13 H_13))
def F132_13 (t0 : Value) (H : Hp) (Q : RT1) : Prop :=
  NCalls Tryz.prog 147 #[t0] H (fun t23_14 H_14 =>
  Bsl #[Value.int IntKind.i64 0, Value.int IntKind.i64 0, Value.int IntKind.i64 0, Value.int IntKind.i64 0, Value.int IntKind.u32 0, Value.int IntKind.u32 0, Value.int IntKind.u32 0, Value.int IntKind.u32 0, Value.bool false, Value.bool false, Value.bool false] 11 66 1 [(0, t23_14)] H_14 (fun t24_15 H_15 =>
  Q t24_15 H_15))
def F132_18 (t0 : Value) (H : Hp) (Q : RT1) : Prop :=
  q (Nz t0) fun t62_16 =>
  q (Fa 7 t62_16) fun t63_17 =>
  St 1 H t63_17 (Value.int IntKind.i64 0) ((fun u_18 H_18 =>
  NCalls Tryz.prog 85 #[t0, (Value.int IntKind.i64 12)] H_18 (fun t65_19 H_19 =>
  Bsl #[Value.int IntKind.i64 0, Value.int IntKind.i64 0, Value.int IntKind.i64 0, Value.int IntKind.i64 0, Value.int IntKind.u32 0, Value.int IntKind.u32 0, Value.int IntKind.u32 0, Value.int IntKind.u32 0, Value.bool false, Value.bool false, Value.bool false] 11 66 1 [(0, t65_19)] H_19 (fun t66_20 H_20 =>
  Q t66_20 H_20))) undef)
def F132_19 (t0 t3 : Value) (H : Hp) (Q : RT1) : Prop :=
  q (Nz t0) fun t37_21 =>
  q (Fa 7 t37_21) fun t38_22 =>
  q (Ld H t38_22) fun t39_23 =>
  q (Bin Tryz.prog H .eql 3 true t39_23 (Value.int IntKind.i64 2)) fun t40_24 =>
  q (gd t40_24 true (Fa 9 t3)) fun t42_25 =>
  q (gd t40_24 true (Ld H t42_25)) fun t43_26 =>
  q (Pk t40_24 t43_26 (Value.bool false)) fun t44_27 =>
  condV t44_27 (
    q (Nz t0) fun t46_28 =>
    q (Fa 2 t46_28) fun t47_29 =>
    St 1 H t47_29 (Value.int IntKind.i64 4) ((fun u_30 H_30 =>
    F132_18 t0 H_30 Q) undef)) (
    q (Nz t0) fun t50_31 =>
    q (Fa 7 t50_31) fun t51_32 =>
    q (Ld H t51_32) fun t52_33 =>
    q (Bin Tryz.prog H .eql 3 true t52_33 (Value.int IntKind.i64 2)) fun t53_34 =>
    q (gd t53_34 false (Fa 10 t3)) fun t55_35 =>
    q (gd t53_34 false (Ld H t55_35)) fun t56_36 =>
    q (Pk t53_34 (Value.bool true) t56_36) fun t57_37 =>
    condV t57_37 (
      q (Nz t0) fun t59_38 =>
      q (Fa 2 t59_38) fun t60_39 =>
      St 1 H t60_39 (Value.int IntKind.i64 2) ((fun u_40 H_40 =>
      F132_18 t0 H_40 Q) undef)) (
      q (Nz t0) fun t33_41 =>
      q (Fa 2 t33_41) fun t34_42 =>
      St 1 H t34_42 (Value.int IntKind.i64 1) ((fun u_43 H_43 =>
      F132_18 t0 H_43 Q) undef)))
def F132_17 (t0 t3 : Value) (H : Hp) (Q : RT1) : Prop := F132_19 t0 t3 H Q
def F132_20 (t0 t3 : Value) (H : Hp) (Q : RT1) : Prop :=
  q (Fa 4 t3) fun t28_44 =>
  q (LdA 4 H t28_44) fun t29_45 =>
  q (Nz t0) fun t30_46 =>
  q (Fa 3 t30_46) fun t31_47 =>
  St 4 H t31_47 t29_45 ((fun u_48 H_48 =>
  F132_17 t0 t3 H_48 Q) undef)
def F132_16 (t0 t3 : Value) (H : Hp) (Q : RT1) : Prop := F132_20 t0 t3 H Q
def F132_21 (t0 t6 : Value) (H : Hp) (Q : RT1) : Prop :=
  q (Bin Tryz.prog H .eql 3 true t6 (Value.int IntKind.i64 8)) fun t68_49 =>
  condV t68_49 (
    q (Nz t0) fun t71_50 =>
    q (Fa 2 t71_50) fun t72_51 =>
    St 1 H t72_51 (Value.int IntKind.i64 4) ((fun u_52 H_52 =>
    q (Nz t0) fun t73_53 =>
    q (Fa 7 t73_53) fun t74_54 =>
    St 1 H_52 t74_54 (Value.int IntKind.i64 0) ((fun u_55 H_55 =>
    NCalls Tryz.prog 85 #[t0, (Value.int IntKind.i64 12)] H_55 (fun t76_56 H_56 =>
    Bsl #[Value.int IntKind.i64 0, Value.int IntKind.i64 0, Value.int IntKind.i64 0, Value.int IntKind.i64 0, Value.int IntKind.u32 0, Value.int IntKind.u32 0, Value.int IntKind.u32 0, Value.int IntKind.u32 0, Value.bool false, Value.bool false, Value.bool false] 11 66 1 [(0, t76_56)] H_56 (fun t77_57 H_57 =>
    Q t77_57 H_57))) undef)) undef)) (
    F132_2 t0 H Q)
def F132_15 (t0 t3 t6 t25 : Value) (H : Hp) (Q : RT1) : Prop := condV t25 (F132_16 t0 t3 H Q) (F132_21 t0 t6 H Q)
def F132_22 (t0 t3 t6 : Value) (H : Hp) (Q : RT1) : Prop :=
  q (Bin Tryz.prog H .eql 3 true t6 (Value.int IntKind.i64 7)) fun t26_58 =>
  F132_15 t0 t3 t6 t26_58 H Q
def F132_14 (t0 t3 t6 : Value) (H : Hp) (Q : RT1) : Prop := F132_22 t0 t3 t6 H Q
def F132_12 (t0 t3 t6 t20 : Value) (H : Hp) (Q : RT1) : Prop := condV t20 (F132_13 t0 H Q) (F132_14 t0 t3 t6 H Q)
def F132_23 (t0 t3 t6 : Value) (H : Hp) (Q : RT1) : Prop :=
  q (Bin Tryz.prog H .eql 3 true t6 (Value.int IntKind.i64 6)) fun t21_59 =>
  F132_12 t0 t3 t6 t21_59 H Q
def F132_11 (t0 t3 t6 : Value) (H : Hp) (Q : RT1) : Prop := F132_23 t0 t3 t6 H Q
def F132_9 (t0 t3 t6 t15 : Value) (H : Hp) (Q : RT1) : Prop := condV t15 (F132_10 t0 H Q) (F132_11 t0 t3 t6 H Q)
def F132_24 (t0 t3 t6 : Value) (H : Hp) (Q : RT1) : Prop :=
  q (Bin Tryz.prog H .eql 3 true t6 (Value.int IntKind.i64 5)) fun t16_60 =>
  F132_9 t0 t3 t6 t16_60 H Q
def F132_8 (t0 t3 t6 : Value) (H : Hp) (Q : RT1) : Prop := F132_24 t0 t3 t6 H Q
def F132_6 (t0 t3 t6 t7 : Value) (H : Hp) (Q : RT1) : Prop := condV t7 (F132_7 t0 H Q) (F132_8 t0 t3 t6 H Q)
def F132_25 (t0 t3 t6 : Value) (H : Hp) (Q : RT1) : Prop :=
  q (Bin Tryz.prog H .eql 3 true t6 (Value.int IntKind.i64 4)) fun t8_61 =>
  F132_6 t0 t3 t6 t8_61 H Q
def F132_5 (t0 t3 t6 : Value) (H : Hp) (Q : RT1) : Prop := F132_25 t0 t3 t6 H Q
def F132_4 (t0 t3 t6 : Value) (H : Hp) (Q : RT1) : Prop := F132_5 t0 t3 t6 H Q
def F132_26 (t0 t3 : Value) (H : Hp) (Q : RT1) : Prop :=
  q (Fa 0 t3) fun t5_62 =>
  q (Ld H t5_62) fun t6_63 =>
  F132_4 t0 t3 t6_63 H Q
def F132_3 (t0 t3 : Value) (H : Hp) (Q : RT1) : Prop := F132_26 t0 t3 H Q
def F132_1 (t0 t3 : Value) (H : Hp) (Q : RT1) : Prop := F132_3 t0 t3 H Q
def F132_27 (t0 t1 : Value) (H : Hp) (Q : RT1) : Prop :=
  New (Value.cells t1) 66 H (fun t3_64 H_64 =>
  F132_1 t0 t3_64 H_64 Q)
def F132_0 (t0 t1 : Value) (H : Hp) (Q : RT1) : Prop := F132_27 t0 t1 H Q
theorem A132_2 {fr : Fr} {H : Hp} {Q : RT1} (h : F132_2 (fr 0) H Q) : xCode Tryz.prog 84 (Code.r (Code.r (bodyOf Tryz.f132))) (xRet Tryz.prog [.tmp 4] Q) fr H :=
  Eq.mp (by kernel_rfl) h
abbrev K132_16 (Q : RT1) : QT := thenK (fun fr H => F132_2 (fr 0) H Q) (xRet Tryz.prog [.tmp 4] Q)
theorem A132_7 {fr : Fr} {H : Hp} {Q : RT1} (h : F132_7 (fr 0) H Q) : xCode Tryz.prog 84 (Code.l (Code.r (Code.l (Code.r (Code.l (Code.r (bodyOf Tryz.f132))))))) (blockK 0 (K132_16 Q)) fr H :=
  Eq.mp (by kernel_rfl) h
theorem A132_10 {fr : Fr} {H : Hp} {Q : RT1} (h : F132_10 (fr 0) H Q) : xCode Tryz.prog 84 (Code.l (Code.r (Code.r (Code.r (Code.l (Code.r (Code.l (Code.r (bodyOf Tryz.f132))))))))) (blockK 0 (K132_16 Q)) fr H :=
  Eq.mp (by kernel_rfl) h
theorem A132_13 {fr : Fr} {H : Hp} {Q : RT1} (h : F132_13 (fr 0) H Q) : xCode Tryz.prog 84 (Code.l (Code.r (Code.r (Code.r (Code.r (Code.r (Code.l (Code.r (Code.l (Code.r (bodyOf Tryz.f132))))))))))) (blockK 0 (K132_16 Q)) fr H :=
  Eq.mp (by kernel_rfl) h
theorem A132_18 {fr : Fr} {H : Hp} {Q : RT1} (h : F132_18 (fr 0) H Q) : xCode Tryz.prog 84 (Code.r (Code.r (Code.l (Code.r (Code.r (Code.r (Code.r (Code.r (Code.r (Code.r (Code.l (Code.r (Code.l (Code.r (bodyOf Tryz.f132))))))))))))))) (blockK 0 (K132_16 Q)) fr H :=
  Eq.mp (by kernel_rfl) h
theorem A132_19 {fr : Fr} {H : Hp} {Q : RT1} (h : F132_19 (fr 0) (fr 3) H Q) : xCode Tryz.prog 84 (Code.l (Code.r (Code.l (Code.r (Code.r (Code.r (Code.r (Code.r (Code.r (Code.r (Code.l (Code.r (Code.l (Code.r (bodyOf Tryz.f132))))))))))))))) (thenK (fun fr H => F132_18 (fr 0) H Q) (blockK 0 (K132_16 Q))) fr H :=
  Eq.mp (by kernel_rfl) h
theorem A132_17 {fr : Fr} {H : Hp} {Q : RT1} (h : F132_17 (fr 0) (fr 3) H Q) : xCode Tryz.prog 84 (Code.r (Code.l (Code.r (Code.r (Code.r (Code.r (Code.r (Code.r (Code.r (Code.l (Code.r (Code.l (Code.r (bodyOf Tryz.f132)))))))))))))) (blockK 0 (K132_16 Q)) fr H :=
  seq_cut (by kernel_rfl) (fun _ _ h => A132_18 h) (A132_19 h)
theorem A132_20 {fr : Fr} {H : Hp} {Q : RT1} (h : F132_20 (fr 0) (fr 3) H Q) : xCode Tryz.prog 84 (Code.l (Code.l (Code.r (Code.r (Code.r (Code.r (Code.r (Code.r (Code.r (Code.l (Code.r (Code.l (Code.r (bodyOf Tryz.f132)))))))))))))) (thenK (fun fr H => F132_17 (fr 0) (fr 3) H Q) (blockK 0 (K132_16 Q))) fr H :=
  Eq.mp (by kernel_rfl) h
theorem A132_16 {fr : Fr} {H : Hp} {Q : RT1} (h : F132_16 (fr 0) (fr 3) H Q) : xCode Tryz.prog 84 (Code.l (Code.r (Code.r (Code.r (Code.r (Code.r (Code.r (Code.r (Code.l (Code.r (Code.l (Code.r (bodyOf Tryz.f132))))))))))))) (blockK 0 (K132_16 Q)) fr H :=
  seq_cut (by kernel_rfl) (fun _ _ h => A132_17 h) (A132_20 h)
theorem A132_21 {fr : Fr} {H : Hp} {Q : RT1} (h : F132_21 (fr 0) (fr 6) H Q) : xCode Tryz.prog 84 (Code.r (Code.r (Code.r (Code.r (Code.r (Code.r (Code.r (Code.r (Code.l (Code.r (Code.l (Code.r (bodyOf Tryz.f132))))))))))))) (blockK 0 (K132_16 Q)) fr H :=
  Eq.mp (by kernel_rfl) h
theorem A132_15 {fr : Fr} {H : Hp} {Q : RT1} (h : F132_15 (fr 0) (fr 3) (fr 6) (fr 25) H Q) : xCode Tryz.prog 84 (Code.r (Code.r (Code.r (Code.r (Code.r (Code.r (Code.r (Code.l (Code.r (Code.l (Code.r (bodyOf Tryz.f132)))))))))))) (blockK 0 (K132_16 Q)) fr H :=
  cond_cut (x := (Go.Operand.tmp 25)) (by kernel_rfl) (fun h => A132_16 h) (fun h => A132_21 h) h
theorem A132_22 {fr : Fr} {H : Hp} {Q : RT1} (h : F132_22 (fr 0) (fr 3) (fr 6) H Q) : xCode Tryz.prog 84 (Code.l (Code.r (Code.r (Code.r (Code.r (Code.r (Code.r (Code.l (Code.r (Code.l (Code.r (bodyOf Tryz.f132)))))))))))) (thenK (fun fr H => F132_15 (fr 0) (fr 3) (fr 6) (fr 25) H Q) (blockK 0 (K132_16 Q))) fr H :=
  Eq.mp (by kernel_rfl) h
theorem A132_14 {fr : Fr} {H : Hp} {Q : RT1} (h : F132_14 (fr 0) (fr 3) (fr 6) H Q) : xCode Tryz.prog 84 (Code.r (Code.r (Code.r (Code.r (Code.r (Code.r (Code.l (Code.r (Code.l (Code.r (bodyOf Tryz.f132))))))))))) (blockK 0 (K132_16 Q)) fr H :=
  seq_cut (by kernel_rfl) (fun _ _ h => A132_15 h) (A132_22 h)
theorem A132_12 {fr : Fr} {H : Hp} {Q : RT1} (h : F132_12 (fr 0) (fr 3) (fr 6) (fr 20) H Q) : xCode Tryz.prog 84 (Code.r (Code.r (Code.r (Code.r (Code.r (Code.l (Code.r (Code.l (Code.r (bodyOf Tryz.f132)))))))))) (blockK 0 (K132_16 Q)) fr H :=
  cond_cut (x := (Go.Operand.tmp 20)) (by kernel_rfl) (fun h => A132_13 h) (fun h => A132_14 h) h
theorem A132_23 {fr : Fr} {H : Hp} {Q : RT1} (h : F132_23 (fr 0) (fr 3) (fr 6) H Q) : xCode Tryz.prog 84 (Code.l (Code.r (Code.r (Code.r (Code.r (Code.l (Code.r (Code.l (Code.r (bodyOf Tryz.f132)))))))))) (thenK (fun fr H => F132_12 (fr 0) (fr 3) (fr 6) (fr 20) H Q) (blockK 0 (K132_16 Q))) fr H :=
  Eq.mp (by kernel_rfl) h
theorem A132_11 {fr : Fr} {H : Hp} {Q : RT1} (h : F132_11 (fr 0) (fr 3) (fr 6) H Q) : xCode Tryz.prog 84 (Code.r (Code.r (Code.r (Code.r (Code.l (Code.r (Code.l (Code.r (bodyOf Tryz.f132))))))))) (blockK 0 (K132_16 Q)) fr H :=
  seq_cut (by kernel_rfl) (fun _ _ h => A132_12 h) (A132_23 h)
theorem A132_9 {fr : Fr} {H : Hp} {Q : RT1} (h : F132_9 (fr 0) (fr 3) (fr 6) (fr 15) H Q) : xCode Tryz.prog 84 (Code.r (Code.r (Code.r (Code.l (Code.r (Code.l (Code.r (bodyOf Tryz.f132)))))))) (blockK 0 (K132_16 Q)) fr H :=
  cond_cut (x := (Go.Operand.tmp 15)) (by kernel_rfl) (fun h => A132_10 h) (fun h => A132_11 h) h
theorem A132_24 {fr : Fr} {H : Hp} {Q : RT1} (h : F132_24 (fr 0) (fr 3) (fr 6) H Q) : xCode Tryz.prog 84 (Code.l (Code.r (Code.r (Code.l (Code.r (Code.l (Code.r (bodyOf Tryz.f132)))))))) (thenK (fun fr H => F132_9 (fr 0) (fr 3) (fr 6) (fr 15) H Q) (blockK 0 (K132_16 Q))) fr H :=
  Eq.mp (by kernel_rfl) h
theorem A132_8 {fr : Fr} {H : Hp} {Q : RT1} (h : F132_8 (fr 0) (fr 3) (fr 6) H Q) : xCode Tryz.prog 84 (Code.r (Code.r (Code.l (Code.r (Code.l (Code.r (bodyOf Tryz.f132))))))) (blockK 0 (K132_16 Q)) fr H :=
  seq_cut (by kernel_rfl) (fun _ _ h => A132_9 h) (A132_24 h)
theorem A132_6 {fr : Fr} {H : Hp} {Q : RT1} (h : F132_6 (fr 0) (fr 3) (fr 6) (fr 7) H Q) : xCode Tryz.prog 84 (Code.r (Code.l (Code.r (Code.l (Code.r (bodyOf Tryz.f132)))))) (blockK 0 (K132_16 Q)) fr H :=
  cond_cut (x := (Go.Operand.tmp 7)) (by kernel_rfl) (fun h => A132_7 h) (fun h => A132_8 h) h
theorem A132_25 {fr : Fr} {H : Hp} {Q : RT1} (h : F132_25 (fr 0) (fr 3) (fr 6) H Q) : xCode Tryz.prog 84 (Code.l (Code.l (Code.r (Code.l (Code.r (bodyOf Tryz.f132)))))) (thenK (fun fr H => F132_6 (fr 0) (fr 3) (fr 6) (fr 7) H Q) (blockK 0 (K132_16 Q))) fr H :=
  Eq.mp (by kernel_rfl) h
theorem A132_5 {fr : Fr} {H : Hp} {Q : RT1} (h : F132_5 (fr 0) (fr 3) (fr 6) H Q) : xCode Tryz.prog 84 (Code.l (Code.r (Code.l (Code.r (bodyOf Tryz.f132))))) (blockK 0 (K132_16 Q)) fr H :=
  seq_cut (by kernel_rfl) (fun _ _ h => A132_6 h) (A132_25 h)
theorem A132_4 {fr : Fr} {H : Hp} {Q : RT1} (h : F132_4 (fr 0) (fr 3) (fr 6) H Q) : xCode Tryz.prog 84 (Code.r (Code.l (Code.r (bodyOf Tryz.f132)))) (K132_16 Q) fr H :=
  block_cut (by kernel_rfl) (A132_5 h)
theorem A132_26 {fr : Fr} {H : Hp} {Q : RT1} (h : F132_26 (fr 0) (fr 3) H Q) : xCode Tryz.prog 84 (Code.l (Code.l (Code.r (bodyOf Tryz.f132)))) (thenK (fun fr H => F132_4 (fr 0) (fr 3) (fr 6) H Q) (K132_16 Q)) fr H :=
  Eq.mp (by kernel_rfl) h
theorem A132_3 {fr : Fr} {H : Hp} {Q : RT1} (h : F132_3 (fr 0) (fr 3) H Q) : xCode Tryz.prog 84 (Code.l (Code.r (bodyOf Tryz.f132))) (K132_16 Q) fr H :=
  seq_cut (by kernel_rfl) (fun _ _ h => A132_4 h) (A132_26 h)
theorem A132_1 {fr : Fr} {H : Hp} {Q : RT1} (h : F132_1 (fr 0) (fr 3) H Q) : xCode Tryz.prog 84 (Code.r (bodyOf Tryz.f132)) (xRet Tryz.prog [.tmp 4] Q) fr H :=
  seq_cut (by kernel_rfl) (fun _ _ h => A132_2 h) (A132_3 h)
theorem A132_27 {fr : Fr} {H : Hp} {Q : RT1} (h : F132_27 (fr 0) (fr 1) H Q) : xCode Tryz.prog 84 (Code.l (bodyOf Tryz.f132)) (thenK (fun fr H => F132_1 (fr 0) (fr 3) H Q) (xRet Tryz.prog [.tmp 4] Q)) fr H :=
  Eq.mp (by kernel_rfl) h
theorem A132_0 {fr : Fr} {H : Hp} {Q : RT1} (h : F132_0 (fr 0) (fr 1) H Q) : xCode Tryz.prog 84 (bodyOf Tryz.f132) (xRet Tryz.prog [.tmp 4] Q) fr H :=
  seq_cut (by kernel_rfl) (fun _ _ h => A132_1 h) (A132_27 h)
theorem E132 {t0 t1 : Value} {H : Hp} {Q : RT1} (h : F132_0 t0 t1 H Q) : NCalls Tryz.prog 132 #[t0, t1] H Q :=
  NCalls.ofBody (by kernel_rfl) Tryz.func132 (by kernel_rfl) (by kernel_rfl) (Eq.mp (by kernel_rfl) (A132_0 (fr := fun i => (#[t0, t1] : Array Value).getD i undef) (H := H) (Q := Q) (Eq.mp (by kernel_rfl) h)))
def F133_0 (t0 : Value) (H : Hp) (Q : RT1) : Prop :=
  q (Bin Tryz.prog H .eql 3 true t0 (Value.int IntKind.i64 3)) fun t4_1 =>
  q (gd t4_1 false (some t0)) fun t6_2 =>
  q (gd t4_1 false (Bin Tryz.prog H .eql 3 true t6_2 (Value.int IntKind.i64 4))) fun t7_3 =>
  q (Pk t4_1 (Value.bool true) t7_3) fun t8_4 =>
  Q t8_4 H
theorem A133_0 {fr : Fr} {H : Hp} {Q : RT1} (h : F133_0 (fr 0) H Q) : xCode Tryz.prog 9 (bodyOf Tryz.f133) (xRet Tryz.prog [.tmp 2] Q) fr H :=
  Eq.mp (by kernel_rfl) h
theorem E133 {t0 : Value} {H : Hp} {Q : RT1} (h : F133_0 t0 H Q) : NCalls Tryz.prog 133 #[t0] H Q :=
  NCalls.ofBody (by kernel_rfl) Tryz.func133 (by kernel_rfl) (by kernel_rfl) (Eq.mp (by kernel_rfl) (A133_0 (fr := fun i => (#[t0] : Array Value).getD i undef) (H := H) (Q := Q) (Eq.mp (by kernel_rfl) h)))
def F135_3 (t0 : Value) (H : Hp) (Q : RT1) : Prop :=
  Q t0 H
def F135_4 (t0 t1 : Value) (H : Hp) (Q : RT1) : Prop :=
  q (pv Tryz.prog (Builtin.cap_ #[153] 0 #[t0])) fun t10_1 =>
  q (pv Tryz.prog (Builtin.len_ #[153] 0 #[t0])) fun t12_2 =>
  q (Bin Tryz.prog H .sub 3 false t10_1 t12_2) fun t13_3 =>
  q (Bin Tryz.prog H .sub 3 false t1 t13_3) fun t14_4 =>
  q (Bin Tryz.prog H .gtr 3 true t14_4 (Value.int IntKind.i64 0)) fun t16_5 =>
  condV t16_5 (
    q (pv Tryz.prog (Builtin.cap_ #[153] 0 #[t0])) fun t19_6 =>
    q (Sl 6 t0 none (some t19_6) none) fun t20_7 =>
    dm Tryz.prog (Builtin.append_ #[153, 3] 0 #[t20_7, t14_4]) H (fun t22_8 H_8 =>
    q (pv Tryz.prog (Builtin.len_ #[153] 0 #[t0])) fun t24_9 =>
    q (Sl 6 t22_8 none (some t24_9) none) fun t25_10 =>
    F135_3 t25_10 H_8 Q)) (
    F135_3 t0 H Q)
def F135_2 (t0 t1 : Value) (H : Hp) (Q : RT1) : Prop := F135_4 t0 t1 H Q
def F135_5 (t0 t1 : Value) (H : Hp) (Q : RT1) : Prop :=
  q (Bin Tryz.prog H .lss 3 true t1 (Value.int IntKind.i64 0)) fun t6_11 =>
  condV t6_11 (
    q (pv Tryz.prog (Instr.makeInterface 9 (Value.string { data := #[99, 97, 110, 110, 111, 116, 32, 98, 101, 32, 110, 101, 103, 97, 116, 105, 118, 101] }))) fun t7_12 =>
    False) (
    F135_2 t0 t1 H Q)
def F135_1 (t0 t1 : Value) (H : Hp) (Q : RT1) : Prop := F135_5 t0 t1 H Q
def F135_6 (t0 t1 : Value) (H : Hp) (Q : RT1) : Prop :=
  F135_1 t0 t1 H Q
def F135_0 (t0 t1 : Value) (H : Hp) (Q : RT1) : Prop := F135_6 t0 t1 H Q
theorem A135_3 {fr : Fr} {H : Hp} {Q : RT1} (h : F135_3 (fr 0) H Q) : xCode Tryz.prog 27 (Code.r (Code.r (Code.r (bodyOf Tryz.f135)))) (xRet Tryz.prog [.tmp 4] Q) fr H :=
  Eq.mp (by kernel_rfl) h
theorem A135_4 {fr : Fr} {H : Hp} {Q : RT1} (h : F135_4 (fr 0) (fr 1) H Q) : xCode Tryz.prog 27 (Code.l (Code.r (Code.r (bodyOf Tryz.f135)))) (thenK (fun fr H => F135_3 (fr 0) H Q) (xRet Tryz.prog [.tmp 4] Q)) fr H :=
  Eq.mp (by kernel_rfl) h
theorem A135_2 {fr : Fr} {H : Hp} {Q : RT1} (h : F135_2 (fr 0) (fr 1) H Q) : xCode Tryz.prog 27 (Code.r (Code.r (bodyOf Tryz.f135))) (xRet Tryz.prog [.tmp 4] Q) fr H :=
  seq_cut (by kernel_rfl) (fun _ _ h => A135_3 h) (A135_4 h)
theorem A135_5 {fr : Fr} {H : Hp} {Q : RT1} (h : F135_5 (fr 0) (fr 1) H Q) : xCode Tryz.prog 27 (Code.l (Code.r (bodyOf Tryz.f135))) (thenK (fun fr H => F135_2 (fr 0) (fr 1) H Q) (xRet Tryz.prog [.tmp 4] Q)) fr H :=
  Eq.mp (by kernel_rfl) h
theorem A135_1 {fr : Fr} {H : Hp} {Q : RT1} (h : F135_1 (fr 0) (fr 1) H Q) : xCode Tryz.prog 27 (Code.r (bodyOf Tryz.f135)) (xRet Tryz.prog [.tmp 4] Q) fr H :=
  seq_cut (by kernel_rfl) (fun _ _ h => A135_2 h) (A135_5 h)
theorem A135_6 {fr : Fr} {H : Hp} {Q : RT1} (h : F135_6 (fr 0) (fr 1) H Q) : xCode Tryz.prog 27 (Code.l (bodyOf Tryz.f135)) (thenK (fun fr H => F135_1 (fr 0) (fr 1) H Q) (xRet Tryz.prog [.tmp 4] Q)) fr H :=
  Eq.mp (by kernel_rfl) h
theorem A135_0 {fr : Fr} {H : Hp} {Q : RT1} (h : F135_0 (fr 0) (fr 1) H Q) : xCode Tryz.prog 27 (bodyOf Tryz.f135) (xRet Tryz.prog [.tmp 4] Q) fr H :=
  seq_cut (by kernel_rfl) (fun _ _ h => A135_1 h) (A135_6 h)
theorem E135 {t0 t1 : Value} {H : Hp} {Q : RT1} (h : F135_0 t0 t1 H Q) : NCalls Tryz.prog 135 #[t0, t1] H Q :=
  NCalls.ofBody (by kernel_rfl) Tryz.func135 (by kernel_rfl) (by kernel_rfl) (Eq.mp (by kernel_rfl) (A135_0 (fr := fun i => (#[t0, t1] : Array Value).getD i undef) (H := H) (Q := Q) (Eq.mp (by kernel_rfl) h)))
def F136_12 (t0 t1 t2 t3 t4 t10 t11 t12 t13 : Value) (H : Hp) (R3 : RT7) (Q : RT1) : Prop :=
  q (Bin Tryz.prog H .gtr 3 true t1 (Value.int IntKind.i64 0)) fun t82_1 =>
  q (gd t82_1 true (some t4)) fun t84_2 =>
  q (gd t82_1 true (some t0)) fun t85_3 =>
  q (gd t82_1 true (some t1)) fun t86_4 =>
  q (gd t82_1 true (Bin Tryz.prog H .sub 3 true t86_4 (Value.int IntKind.i64 1))) fun t87_5 =>
  q (gd t82_1 true (Ix 6 t85_3 t87_5)) fun t88_6 =>
  q (gd t82_1 true (LdA 6 H t88_6)) fun t89_7 =>
  q (gd t82_1 true (some t0)) fun t90_8 =>
  q (gd t82_1 true (some t13)) fun t91_9 =>
  q (gd t82_1 true (Ix 6 t90_8 t91_9)) fun t92_10 =>
  q (gd t82_1 true (LdA 6 H t92_10)) fun t93_11 =>
  gl t82_1 true (fun K => CallV Tryz.prog t84_2 [t89_7, t93_11] H K) H fun t94_12 H_12 =>
  q (gd t82_1 true (Bin Tryz.prog H_12 .lss 3 true t94_12 (Value.int IntKind.i64 0))) fun t95_13 =>
  q (gd t82_1 true (pv Tryz.prog (Op.unary .not t95_13))) fun t96_14 =>
  q (Pk t82_1 t96_14 (Value.bool false)) fun t97_15 =>
  condV t97_15 (
    NCalls Tryz.prog 156 #[t0, t1, t2, t13, t4] H_12 (fun t103_16 H_16 =>
    R3 t0 t103_16 t2 t3 t4 t10 t11 H_16)) (
    NCalls Tryz.prog 157 #[t0, t1, t2, t13, t4] H_12 (fun t111_17 H_17 =>
    q (Ex 0 t111_17) fun t112_18 =>
    q (Ex 1 t111_17) fun t113_19 =>
    q (Bin Tryz.prog H_17 .sub 3 false t112_18 t1) fun t117_20 =>
    q (Bin Tryz.prog H_17 .sub 3 false t2 t112_18) fun t120_21 =>
    q (Bin Tryz.prog H_17 .quo 3 true t12 (Value.int IntKind.i64 8)) fun t122_22 =>
    q (Bin Tryz.prog H_17 .lss 3 false t117_20 t120_21) fun t125_23 =>
    condV t125_23 (
      q (Bin Tryz.prog H_17 .geq 3 false t117_20 t122_22) fun t128_24 =>
      NCalls Tryz.prog 136 #[t0, t1, t112_18, t3, t4] H_17 (fun t134_25 H_25 =>
      q (Bin Tryz.prog H_25 .add 3 true t112_18 (Value.int IntKind.i64 1)) fun t136_26 =>
      R3 t0 t136_26 t2 t3 t4 t128_24 t113_19 H_25)) (
      q (Bin Tryz.prog H_17 .geq 3 false t120_21 t122_22) fun t139_27 =>
      q (Bin Tryz.prog H_17 .add 3 true t112_18 (Value.int IntKind.i64 1)) fun t142_28 =>
      NCalls Tryz.prog 136 #[t0, t142_28, t2, t3, t4] H_17 (fun t146_29 H_29 =>
      R3 t0 t1 t112_18 t3 t4 t139_27 t113_19 H_29))))
def F136_13 (t0 t1 t2 t3 t4 t10 t11 t12 t13 t14 : Value) (H : Hp) (R3 : RT7) (Q : RT1) : Prop :=
  q (gd t10 true (some t11)) fun t70_30 =>
  q (Pk t10 t70_30 (Value.bool false)) fun t71_31 =>
  q (gd t71_31 true (some t14)) fun t73_32 =>
  q (gd t71_31 true (Bin Tryz.prog H .eql 216 true t73_32 (Value.int IntKind.i64 1))) fun t74_33 =>
  q (Pk t71_31 t74_33 (Value.bool false)) fun t75_34 =>
  condV t75_34 (
    NCalls Tryz.prog 155 #[t0, t1, t2, t4] H (fun t80_35 H_35 =>
    condV t80_35 (
      Q (Value.tuple #[]) H_35) (
      F136_12 t0 t1 t2 t3 t4 t10 t11 t12 t13 H_35 R3 Q))) (
    F136_12 t0 t1 t2 t3 t4 t10 t11 t12 t13 H R3 Q)
def F136_11 (t0 t1 t2 t3 t4 t10 t11 t12 t13 t14 : Value) (H : Hp) (R3 : RT7) (Q : RT1) : Prop := F136_13 t0 t1 t2 t3 t4 t10 t11 t12 t13 t14 H R3 Q
def F136_14 (t0 t1 t2 t3 t4 t10 t11 t12 t13 t14 : Value) (H : Hp) (R3 : RT7) (Q : RT1) : Prop :=
  q (Bin Tryz.prog H .eql 216 true t14 (Value.int IntKind.i64 2)) fun t56_36 =>
  condV t56_36 (
    NCalls Tryz.prog 154 #[t0, t1, t2, t4] H (fun t61_37 H_37 =>
    q (Bin Tryz.prog H_37 .sub 3 true t2 (Value.int IntKind.i64 1)) fun t63_38 =>
    q (Bin Tryz.prog H_37 .sub 3 false t13 t1) fun t66_39 =>
    q (Bin Tryz.prog H_37 .sub 3 false t63_38 t66_39) fun t67_40 =>
    F136_11 t0 t1 t2 t3 t4 t10 t11 t12 t67_40 (Value.int IntKind.i64 1) H_37 R3 Q)) (
    F136_11 t0 t1 t2 t3 t4 t10 t11 t12 t13 t14 H R3 Q)
def F136_10 (t0 t1 t2 t3 t4 t10 t11 t12 t13 t14 : Value) (H : Hp) (R3 : RT7) (Q : RT1) : Prop := F136_14 t0 t1 t2 t3 t4 t10 t11 t12 t13 t14 H R3 Q
def F136_15 (t0 t1 t2 t3 t4 t10 t11 t12 : Value) (H : Hp) (R3 : RT7) (Q : RT1) : Prop :=
  NCalls Tryz.prog 153 #[t0, t1, t2, t4] H (fun t52_41 H_41 =>
  q (Ex 0 t52_41) fun t53_42 =>
  q (Ex 1 t52_41) fun t54_43 =>
  F136_10 t0 t1 t2 t3 t4 t10 t11 t12 t53_42 t54_43 H_41 R3 Q)
def F136_9 (t0 t1 t2 t3 t4 t10 t11 t12 : Value) (H : Hp) (R3 : RT7) (Q : RT1) : Prop := F136_15 t0 t1 t2 t3 t4 t10 t11 t12 H R3 Q
def F136_16 (t0 t1 t2 t3 t4 t10 t11 t12 : Value) (H : Hp) (R3 : RT7) (Q : RT1) : Prop :=
  q (pv Tryz.prog (Op.unary .not t10)) fun t39_44 =>
  condV t39_44 (
    NCalls Tryz.prog 152 #[t0, t1, t2, t4] H (fun t44_45 H_45 =>
    q (Bin Tryz.prog H_45 .sub 3 true t3 (Value.int IntKind.i64 1)) fun t46_46 =>
    F136_9 t0 t1 t2 t46_46 t4 t10 t11 t12 H_45 R3 Q)) (
    F136_9 t0 t1 t2 t3 t4 t10 t11 t12 H R3 Q)
def F136_8 (t0 t1 t2 t3 t4 t10 t11 t12 : Value) (H : Hp) (R3 : RT7) (Q : RT1) : Prop := F136_16 t0 t1 t2 t3 t4 t10 t11 t12 H R3 Q
def F136_17 (t0 t1 t2 t3 t4 t10 t11 t12 : Value) (H : Hp) (R3 : RT7) (Q : RT1) : Prop :=
  q (Bin Tryz.prog H .eql 3 true t3 (Value.int IntKind.i64 0)) fun t32_47 =>
  condV t32_47 (
    NCalls Tryz.prog 151 #[t0, t1, t2, t4] H (fun t37_48 H_48 =>
    Q (Value.tuple #[]) H_48)) (
    F136_8 t0 t1 t2 t3 t4 t10 t11 t12 H R3 Q)
def F136_7 (t0 t1 t2 t3 t4 t10 t11 t12 : Value) (H : Hp) (R3 : RT7) (Q : RT1) : Prop := F136_17 t0 t1 t2 t3 t4 t10 t11 t12 H R3 Q
def F136_18 (t0 t1 t2 t3 t4 t10 t11 t12 : Value) (H : Hp) (R3 : RT7) (Q : RT1) : Prop :=
  q (Bin Tryz.prog H .leq 3 true t12 (Value.int IntKind.i64 12)) fun t25_49 =>
  condV t25_49 (
    NCalls Tryz.prog 150 #[t0, t1, t2, t4] H (fun t30_50 H_50 =>
    Q (Value.tuple #[]) H_50)) (
    F136_7 t0 t1 t2 t3 t4 t10 t11 t12 H R3 Q)
def F136_6 (t0 t1 t2 t3 t4 t10 t11 t12 : Value) (H : Hp) (R3 : RT7) (Q : RT1) : Prop := F136_18 t0 t1 t2 t3 t4 t10 t11 t12 H R3 Q
def F136_19 (t0 t1 t2 t3 t4 t10 t11 : Value) (H : Hp) (R3 : RT7) (Q : RT1) : Prop :=
  q (Bin Tryz.prog H .sub 3 false t2 t1) fun t23_51 =>
  F136_6 t0 t1 t2 t3 t4 t10 t11 t23_51 H R3 Q
def F136_5 (t0 t1 t2 t3 t4 t10 t11 : Value) (H : Hp) (R3 : RT7) (Q : RT1) : Prop := F136_19 t0 t1 t2 t3 t4 t10 t11 H R3 Q
def F136_4 (t0 t1 t2 t3 t4 t10 t11 : Value) (H : Hp) (R3 : RT7) (Q : RT1) : Prop := F136_5 t0 t1 t2 t3 t4 t10 t11 H R3 Q
def F136_3 (t0 t1 t2 t3 t4 t10 t11 : Value) (H : Hp) (Q : RT1) : Prop :=
  ∃ (I : RT5) (μ : Value → Value → Value → Value → Value → Hp → Nat), I t1 t2 t3 t10 t11 H ∧ ∀ n1 n2 n3 n10 n11 H1, I n1 n2 n3 n10 n11 H1 → F136_4 t0 n1 n2 n3 t4 n10 n11 H1 (fun m0 m1 m2 m3 m4 m10 m11 H2 => m0 = t0 ∧ m4 = t4 ∧ (I m1 m2 m3 m10 m11 H2 ∧ μ m1 m2 m3 m10 m11 H2 < μ n1 n2 n3 n10 n11 H1)) Q
def F136_2 (t0 t1 t2 t3 t4 t10 t11 : Value) (H : Hp) (Q : RT1) : Prop := F136_3 t0 t1 t2 t3 t4 t10 t11 H Q
def F136_20 (t0 t1 t2 t3 t4 t10 : Value) (H : Hp) (Q : RT1) : Prop :=
  F136_2 t0 t1 t2 t3 t4 t10 (Value.bool true) H Q
def F136_1 (t0 t1 t2 t3 t4 t10 : Value) (H : Hp) (Q : RT1) : Prop := F136_20 t0 t1 t2 t3 t4 t10 H Q
def F136_21 (t0 t1 t2 t3 t4 : Value) (H : Hp) (Q : RT1) : Prop :=
  F136_1 t0 t1 t2 t3 t4 (Value.bool true) H Q
def F136_0 (t0 t1 t2 t3 t4 : Value) (H : Hp) (Q : RT1) : Prop := F136_21 t0 t1 t2 t3 t4 H Q
abbrev K136_18 (R3 : RT7) (Q : RT1) : QT := thenK (fun fr H => R3 (fr 0) (fr 1) (fr 2) (fr 3) (fr 4) (fr 10) (fr 11) H) (blockK 0 (xRet Tryz.prog [] Q))
theorem A136_12 {fr : Fr} {H : Hp} {R3 : RT7} {Q : RT1} (h : F136_12 (fr 0) (fr 1) (fr 2) (fr 3) (fr 4) (fr 10) (fr 11) (fr 12) (fr 13) H R3 Q) : xCode Tryz.prog 148 (Code.r (Code.r (Code.r (Code.r (Code.r (Code.r (Code.r (Code.l (Code.l (Code.l (Code.r (Code.r (bodyOf Tryz.f136))))))))))))) (blockK 1 (K136_18 R3 Q)) fr H :=
  Eq.mp (by kernel_rfl) h
theorem A136_13 {fr : Fr} {H : Hp} {R3 : RT7} {Q : RT1} (h : F136_13 (fr 0) (fr 1) (fr 2) (fr 3) (fr 4) (fr 10) (fr 11) (fr 12) (fr 13) (fr 14) H R3 Q) : xCode Tryz.prog 148 (Code.l (Code.r (Code.r (Code.r (Code.r (Code.r (Code.r (Code.l (Code.l (Code.l (Code.r (Code.r (bodyOf Tryz.f136))))))))))))) (thenK (fun fr H => F136_12 (fr 0) (fr 1) (fr 2) (fr 3) (fr 4) (fr 10) (fr 11) (fr 12) (fr 13) H R3 Q) (blockK 1 (K136_18 R3 Q))) fr H :=
  Eq.mp (by kernel_rfl) h
theorem A136_11 {fr : Fr} {H : Hp} {R3 : RT7} {Q : RT1} (h : F136_11 (fr 0) (fr 1) (fr 2) (fr 3) (fr 4) (fr 10) (fr 11) (fr 12) (fr 13) (fr 14) H R3 Q) : xCode Tryz.prog 148 (Code.r (Code.r (Code.r (Code.r (Code.r (Code.r (Code.l (Code.l (Code.l (Code.r (Code.r (bodyOf Tryz.f136)))))))))))) (blockK 1 (K136_18 R3 Q)) fr H :=
  seq_cut (by kernel_rfl) (fun _ _ h => A136_12 h) (A136_13 h)
theorem A136_14 {fr : Fr} {H : Hp} {R3 : RT7} {Q : RT1} (h : F136_14 (fr 0) (fr 1) (fr 2) (fr 3) (fr 4) (fr 10) (fr 11) (fr 12) (fr 13) (fr 14) H R3 Q) : xCode Tryz.prog 148 (Code.l (Code.r (Code.r (Code.r (Code.r (Code.r (Code.l (Code.l (Code.l (Code.r (Code.r (bodyOf Tryz.f136)))))))))))) (thenK (fun fr H => F136_11 (fr 0) (fr 1) (fr 2) (fr 3) (fr 4) (fr 10) (fr 11) (fr 12) (fr 13) (fr 14) H R3 Q) (blockK 1 (K136_18 R3 Q))) fr H :=
  Eq.mp (by kernel_rfl) h
theorem A136_10 {fr : Fr} {H : Hp} {R3 : RT7} {Q : RT1} (h : F136_10 (fr 0) (fr 1) (fr 2) (fr 3) (fr 4) (fr 10) (fr 11) (fr 12) (fr 13) (fr 14) H R3 Q) : xCode Tryz.prog 148 (Code.r (Code.r (Code.r (Code.r (Code.r (Code.l (Code.l (Code.l (Code.r (Code.r (bodyOf Tryz.f136))))))))))) (blockK 1 (K136_18 R3 Q)) fr H :=
  seq_cut (by kernel_rfl) (fun _ _ h => A136_11 h) (A136_14 h)
theorem A136_15 {fr : Fr} {H : Hp} {R3 : RT7} {Q : RT1} (h : F136_15 (fr 0) (fr 1) (fr 2) (fr 3) (fr 4) (fr 10) (fr 11) (fr 12) H R3 Q) : xCode Tryz.prog 148 (Code.l (Code.r (Code.r (Code.r (Code.r (Code.l (Code.l (Code.l (Code.r (Code.r (bodyOf Tryz.f136))))))))))) (thenK (fun fr H => F136_10 (fr 0) (fr 1) (fr 2) (fr 3) (fr 4) (fr 10) (fr 11) (fr 12) (fr 13) (fr 14) H R3 Q) (blockK 1 (K136_18 R3 Q))) fr H :=
  Eq.mp (by kernel_rfl) h
theorem A136_9 {fr : Fr} {H : Hp} {R3 : RT7} {Q : RT1} (h : F136_9 (fr 0) (fr 1) (fr 2) (fr 3) (fr 4) (fr 10) (fr 11) (fr 12) H R3 Q) : xCode Tryz.prog 148 (Code.r (Code.r (Code.r (Code.r (Code.l (Code.l (Code.l (Code.r (Code.r (bodyOf Tryz.f136)))))))))) (blockK 1 (K136_18 R3 Q)) fr H :=
  seq_cut (by kernel_rfl) (fun _ _ h => A136_10 h) (A136_15 h)
theorem A136_16 {fr : Fr} {H : Hp} {R3 : RT7} {Q : RT1} (h : F136_16 (fr 0) (fr 1) (fr 2) (fr 3) (fr 4) (fr 10) (fr 11) (fr 12) H R3 Q) : xCode Tryz.prog 148 (Code.l (Code.r (Code.r (Code.r (Code.l (Code.l (Code.l (Code.r (Code.r (bodyOf Tryz.f136)))))))))) (thenK (fun fr H => F136_9 (fr 0) (fr 1) (fr 2) (fr 3) (fr 4) (fr 10) (fr 11) (fr 12) H R3 Q) (blockK 1 (K136_18 R3 Q))) fr H :=
  Eq.mp (by kernel_rfl) h
theorem A136_8 {fr : Fr} {H : Hp} {R3 : RT7} {Q : RT1} (h : F136_8 (fr 0) (fr 1) (fr 2) (fr 3) (fr 4) (fr 10) (fr 11) (fr 12) H R3 Q) : xCode Tryz.prog 148 (Code.r (Code.r (Code.r (Code.l (Code.l (Code.l (Code.r (Code.r (bodyOf Tryz.f136))))))))) (blockK 1 (K136_18 R3 Q)) fr H :=
  seq_cut (by kernel_rfl) (fun _ _ h => A136_9 h) (A136_16 h)
theorem A136_17 {fr : Fr} {H : Hp} {R3 : RT7} {Q : RT1} (h : F136_17 (fr 0) (fr 1) (fr 2) (fr 3) (fr 4) (fr 10) (fr 11) (fr 12) H R3 Q) : xCode Tryz.prog 148 (Code.l (Code.r (Code.r (Code.l (Code.l (Code.l (Code.r (Code.r (bodyOf Tryz.f136))))))))) (thenK (fun fr H => F136_8 (fr 0) (fr 1) (fr 2) (fr 3) (fr 4) (fr 10) (fr 11) (fr 12) H R3 Q) (blockK 1 (K136_18 R3 Q))) fr H :=
  Eq.mp (by kernel_rfl) h
theorem A136_7 {fr : Fr} {H : Hp} {R3 : RT7} {Q : RT1} (h : F136_7 (fr 0) (fr 1) (fr 2) (fr 3) (fr 4) (fr 10) (fr 11) (fr 12) H R3 Q) : xCode Tryz.prog 148 (Code.r (Code.r (Code.l (Code.l (Code.l (Code.r (Code.r (bodyOf Tryz.f136)))))))) (blockK 1 (K136_18 R3 Q)) fr H :=
  seq_cut (by kernel_rfl) (fun _ _ h => A136_8 h) (A136_17 h)
theorem A136_18 {fr : Fr} {H : Hp} {R3 : RT7} {Q : RT1} (h : F136_18 (fr 0) (fr 1) (fr 2) (fr 3) (fr 4) (fr 10) (fr 11) (fr 12) H R3 Q) : xCode Tryz.prog 148 (Code.l (Code.r (Code.l (Code.l (Code.l (Code.r (Code.r (bodyOf Tryz.f136)))))))) (thenK (fun fr H => F136_7 (fr 0) (fr 1) (fr 2) (fr 3) (fr 4) (fr 10) (fr 11) (fr 12) H R3 Q) (blockK 1 (K136_18 R3 Q))) fr H :=
  Eq.mp (by kernel_rfl) h
theorem A136_6 {fr : Fr} {H : Hp} {R3 : RT7} {Q : RT1} (h : F136_6 (fr 0) (fr 1) (fr 2) (fr 3) (fr 4) (fr 10) (fr 11) (fr 12) H R3 Q) : xCode Tryz.prog 148 (Code.r (Code.l (Code.l (Code.l (Code.r (Code.r (bodyOf Tryz.f136))))))) (blockK 1 (K136_18 R3 Q)) fr H :=
  seq_cut (by kernel_rfl) (fun _ _ h => A136_7 h) (A136_18 h)
theorem A136_19 {fr : Fr} {H : Hp} {R3 : RT7} {Q : RT1} (h : F136_19 (fr 0) (fr 1) (fr 2) (fr 3) (fr 4) (fr 10) (fr 11) H R3 Q) : xCode Tryz.prog 148 (Code.l (Code.l (Code.l (Code.l (Code.r (Code.r (bodyOf Tryz.f136))))))) (thenK (fun fr H => F136_6 (fr 0) (fr 1) (fr 2) (fr 3) (fr 4) (fr 10) (fr 11) (fr 12) H R3 Q) (blockK 1 (K136_18 R3 Q))) fr H :=
  Eq.mp (by kernel_rfl) h
theorem A136_5 {fr : Fr} {H : Hp} {R3 : RT7} {Q : RT1} (h : F136_5 (fr 0) (fr 1) (fr 2) (fr 3) (fr 4) (fr 10) (fr 11) H R3 Q) : xCode Tryz.prog 148 (Code.l (Code.l (Code.l (Code.r (Code.r (bodyOf Tryz.f136)))))) (blockK 1 (K136_18 R3 Q)) fr H :=
  seq_cut (by kernel_rfl) (fun _ _ h => A136_6 h) (A136_19 h)
theorem A136_4 {fr : Fr} {H : Hp} {R3 : RT7} {Q : RT1} (h : F136_4 (fr 0) (fr 1) (fr 2) (fr 3) (fr 4) (fr 10) (fr 11) H R3 Q) : xCode Tryz.prog 148 (Code.l (Code.l (Code.r (Code.r (bodyOf Tryz.f136))))) (K136_18 R3 Q) fr H :=
  block_cut (by kernel_rfl) (A136_5 h)
theorem A136_3 {fr : Fr} {H : Hp} {Q : RT1} (h : F136_3 (fr 0) (fr 1) (fr 2) (fr 3) (fr 4) (fr 10) (fr 11) H Q) : xCode Tryz.prog 148 (Code.l (Code.r (Code.r (bodyOf Tryz.f136)))) (blockK 0 (xRet Tryz.prog [] Q)) fr H := by
  obtain ⟨I, μ, h0, hr⟩ := h
  refine loop_cut (a := (Code.l (Code.l (Code.r (Code.r (bodyOf Tryz.f136)))))) (by kernel_rfl) (fun fr1 H1 => fr1 0 = fr 0 ∧ fr1 4 = fr 4 ∧ I (fr1 1) (fr1 2) (fr1 3) (fr1 10) (fr1 11) H1) (fun fr1 H1 => μ (fr1 1) (fr1 2) (fr1 3) (fr1 10) (fr1 11) H1) (by exact ⟨rfl, rfl, h0⟩) ?_
  intro fr1 H1 hI
  obtain ⟨hu0, hu4, hI⟩ := hI
  have hb := hr (fr1 1) (fr1 2) (fr1 3) (fr1 10) (fr1 11) H1 hI
  rw [← hu0] at hb; rw [← hu4] at hb
  refine ⟨_, ?_, A136_4 hb⟩
  intro fr2 H2 hj
  obtain ⟨ku0, ku4, hI2, hlt⟩ := hj
  exact ⟨⟨(ku0.trans hu0), (ku4.trans hu4), hI2⟩, hlt⟩
theorem A136_2 {fr : Fr} {H : Hp} {Q : RT1} (h : F136_2 (fr 0) (fr 1) (fr 2) (fr 3) (fr 4) (fr 10) (fr 11) H Q) : xCode Tryz.prog 148 (Code.r (Code.r (bodyOf Tryz.f136))) (xRet Tryz.prog [] Q) fr H :=
  block_cut (by kernel_rfl) (A136_3 h)
theorem A136_20 {fr : Fr} {H : Hp} {Q : RT1} (h : F136_20 (fr 0) (fr 1) (fr 2) (fr 3) (fr 4) (fr 10) H Q) : xCode Tryz.prog 148 (Code.l (Code.r (bodyOf Tryz.f136))) (thenK (fun fr H => F136_2 (fr 0) (fr 1) (fr 2) (fr 3) (fr 4) (fr 10) (fr 11) H Q) (xRet Tryz.prog [] Q)) fr H :=
  Eq.mp (by kernel_rfl) h
theorem A136_1 {fr : Fr} {H : Hp} {Q : RT1} (h : F136_1 (fr 0) (fr 1) (fr 2) (fr 3) (fr 4) (fr 10) H Q) : xCode Tryz.prog 148 (Code.r (bodyOf Tryz.f136)) (xRet Tryz.prog [] Q) fr H :=
  seq_cut (by kernel_rfl) (fun _ _ h => A136_2 h) (A136_20 h)
theorem A136_21 {fr : Fr} {H : Hp} {Q : RT1} (h : F136_21 (fr 0) (fr 1) (fr 2) (fr 3) (fr 4) H Q) : xCode Tryz.prog 148 (Code.l (bodyOf Tryz.f136)) (thenK (fun fr H => F136_1 (fr 0) (fr 1) (fr 2) (fr 3) (fr 4) (fr 10) H Q) (xRet Tryz.prog [] Q)) fr H :=
  Eq.mp (by kernel_rfl) h
theorem A136_0 {fr : Fr} {H : Hp} {Q : RT1} (h : F136_0 (fr 0) (fr 1) (fr 2) (fr 3) (fr 4) H Q) : xCode Tryz.prog 148 (bodyOf Tryz.f136) (xRet Tryz.prog [] Q) fr H :=
  seq_cut (by kernel_rfl) (fun _ _ h => A136_1 h) (A136_21 h)
theorem E136 {t0 t1 t2 t3 t4 : Value} {H : Hp} {Q : RT1} (h : F136_0 t0 t1 t2 t3 t4 H Q) : NCalls Tryz.prog 136 #[t0, t1, t2, t3, t4] H Q :=
  NCalls.ofBody (by kernel_rfl) Tryz.func136 (by kernel_rfl) (by kernel_rfl) (Eq.mp (by kernel_rfl) (A136_0 (fr := fun i => (#[t0, t1, t2, t3, t4] : Array Value).getD i undef) (H := H) (Q := Q) (Eq.mp (by kernel_rfl) h)))
def F137_0 (t0 : Value) (H : Hp) (Q : RT1) : Prop :=
  condV (Value.bool false) (
    q (pv Tryz.prog (convert 130 40 t0)) fun t4_1 =>
    NCalls Tryz.prog 158 #[t4_1] H (fun t5_2 H_2 =>
    Q t5_2 H_2)) (
    NCalls Tryz.prog 159 #[t0] H (fun t7_3 H_3 =>
    Q t7_3 H_3))
theorem A137_0 {fr : Fr} {H : Hp} {Q : RT1} (h : F137_0 (fr 0) H Q) : xCode Tryz.prog 8 (bodyOf Tryz.f137) (xRet Tryz.prog [.tmp 2] Q) fr H :=
  Eq.mp (by kernel_rfl) h
theorem E137 {t0 : Value} {H : Hp} {Q : RT1} (h : F137_0 t0 H Q) : NCalls Tryz.prog 137 #[t0] H Q :=
  NCalls.ofBody (by kernel_rfl) Tryz.func137 (by kernel_rfl) (by kernel_rfl) (Eq.mp (by kernel_rfl) (A137_0 (fr := fun i => (#[t0] : Array Value).getD i undef) (H := H) (Q := Q) (Eq.mp (by kernel_rfl) h)))
def F138_2 (H : Hp) (Q : RT1) : Prop :=
  Q (Value.int IntKind.i64 (-1)) H
def F138_6 (t0 t1 t7 t8 : Value) (H : Hp) (R5 : RT4) (Q : RT1) : Prop :=
  q (Bin Tryz.prog H .lss 3 false t8 t7) fun t9_1 =>
  condV t9_1 (
    q (Ix 1 t0 t8) fun t14_2 =>
    q (Ld H t14_2) fun t15_3 =>
    q (Bin Tryz.prog H .eql 3 false t1 t15_3) fun t16_4 =>
    condV t16_4 (
      Q t8 H) (
      q (Bin Tryz.prog H .add 3 true t8 (Value.int IntKind.i64 1)) fun t18_5 =>
      R5 t0 t1 t7 t18_5 H)) (
    F138_2 H Q)
def F138_5 (t0 t1 t7 t8 : Value) (H : Hp) (Q : RT1) : Prop :=
  ∃ (I : RT1) (μ : Value → Hp → Nat), I t8 H ∧ ∀ n8 H1, I n8 H1 → F138_6 t0 t1 t7 n8 H1 (fun m0 m1 m7 m8 H2 => m0 = t0 ∧ m1 = t1 ∧ m7 = t7 ∧ (I m8 H2 ∧ μ m8 H2 < μ n8 H1)) Q
def F138_4 (t0 t1 t7 t8 : Value) (H : Hp) (Q : RT1) : Prop := F138_5 t0 t1 t7 t8 H Q
def F138_7 (t0 t1 : Value) (H : Hp) (Q : RT1) : Prop :=
  q (pv Tryz.prog (Builtin.len_ #[49] 0 #[t0])) fun t7_6 =>
  F138_4 t0 t1 t7_6 (Value.int IntKind.i64 0) H Q
def F138_3 (t0 t1 : Value) (H : Hp) (Q : RT1) : Prop := F138_7 t0 t1 H Q
def F138_1 (t0 t1 : Value) (H : Hp) (Q : RT1) : Prop := F138_3 t0 t1 H Q
def F138_8 (t0 t1 : Value) (H : Hp) (Q : RT1) : Prop :=
  F138_1 t0 t1 H Q
def F138_0 (t0 t1 : Value) (H : Hp) (Q : RT1) : Prop := F138_8 t0 t1 H Q
theorem A138_2 {fr : Fr} {H : Hp} {Q : RT1} (h : F138_2 H Q) : xCode Tryz.prog 19 (Code.r (Code.r (bodyOf Tryz.f138))) (xRet Tryz.prog [.tmp 4] Q) fr H :=
  Eq.mp (by kernel_rfl) h
abbrev K138_19 (Q : RT1) : QT := thenK (fun fr H => F138_2 H Q) (xRet Tryz.prog [.tmp 4] Q)
theorem A138_6 {fr : Fr} {H : Hp} {R5 : RT4} {Q : RT1} (h : F138_6 (fr 0) (fr 1) (fr 7) (fr 8) H R5 Q) : xCode Tryz.prog 19 (Code.l (Code.l (Code.r (Code.l (Code.r (bodyOf Tryz.f138)))))) (thenK (fun fr H => R5 (fr 0) (fr 1) (fr 7) (fr 8) H) (blockK 0 (K138_19 Q))) fr H :=
  Eq.mp (by kernel_rfl) h
theorem A138_5 {fr : Fr} {H : Hp} {Q : RT1} (h : F138_5 (fr 0) (fr 1) (fr 7) (fr 8) H Q) : xCode Tryz.prog 19 (Code.l (Code.r (Code.l (Code.r (bodyOf Tryz.f138))))) (blockK 0 (K138_19 Q)) fr H := by
  obtain ⟨I, μ, h0, hr⟩ := h
  refine loop_cut (a := (Code.l (Code.l (Code.r (Code.l (Code.r (bodyOf Tryz.f138))))))) (by kernel_rfl) (fun fr1 H1 => fr1 0 = fr 0 ∧ fr1 1 = fr 1 ∧ fr1 7 = fr 7 ∧ I (fr1 8) H1) (fun fr1 H1 => μ (fr1 8) H1) (by exact ⟨rfl, rfl, rfl, h0⟩) ?_
  intro fr1 H1 hI
  obtain ⟨hu0, hu1, hu7, hI⟩ := hI
  have hb := hr (fr1 8) H1 hI
  rw [← hu0] at hb; rw [← hu1] at hb; rw [← hu7] at hb
  refine ⟨_, ?_, A138_6 hb⟩
  intro fr2 H2 hj
  obtain ⟨ku0, ku1, ku7, hI2, hlt⟩ := hj
  exact ⟨⟨(ku0.trans hu0), (ku1.trans hu1), (ku7.trans hu7), hI2⟩, hlt⟩
theorem A138_4 {fr : Fr} {H : Hp} {Q : RT1} (h : F138_4 (fr 0) (fr 1) (fr 7) (fr 8) H Q) : xCode Tryz.prog 19 (Code.r (Code.l (Code.r (bodyOf Tryz.f138)))) (K138_19 Q) fr H :=
  block_cut (by kernel_rfl) (A138_5 h)
theorem A138_7 {fr : Fr} {H : Hp} {Q : RT1} (h : F138_7 (fr 0) (fr 1) H Q) : xCode Tryz.prog 19 (Code.l (Code.l (Code.r (bodyOf Tryz.f138)))) (thenK (fun fr H => F138_4 (fr 0) (fr 1) (fr 7) (fr 8) H Q) (K138_19 Q)) fr H :=
  Eq.mp (by kernel_rfl) h
theorem A138_3 {fr : Fr} {H : Hp} {Q : RT1} (h : F138_3 (fr 0) (fr 1) H Q) : xCode Tryz.prog 19 (Code.l (Code.r (bodyOf Tryz.f138))) (K138_19 Q) fr H :=
  seq_cut (by kernel_rfl) (fun _ _ h => A138_4 h) (A138_7 h)
theorem A138_1 {fr : Fr} {H : Hp} {Q : RT1} (h : F138_1 (fr 0) (fr 1) H Q) : xCode Tryz.prog 19 (Code.r (bodyOf Tryz.f138)) (xRet Tryz.prog [.tmp 4] Q) fr H :=
  seq_cut (by kernel_rfl) (fun _ _ h => A138_2 h) (A138_3 h)
theorem A138_8 {fr : Fr} {H : Hp} {Q : RT1} (h : F138_8 (fr 0) (fr 1) H Q) : xCode Tryz.prog 19 (Code.l (bodyOf Tryz.f138)) (thenK (fun fr H => F138_1 (fr 0) (fr 1) H Q) (xRet Tryz.prog [.tmp 4] Q)) fr H :=
  Eq.mp (by kernel_rfl) h
theorem A138_0 {fr : Fr} {H : Hp} {Q : RT1} (h : F138_0 (fr 0) (fr 1) H Q) : xCode Tryz.prog 19 (bodyOf Tryz.f138) (xRet Tryz.prog [.tmp 4] Q) fr H :=
  seq_cut (by kernel_rfl) (fun _ _ h => A138_1 h) (A138_8 h)
theorem E138 {t0 t1 : Value} {H : Hp} {Q : RT1} (h : F138_0 t0 t1 H Q) : NCalls Tryz.prog 138 #[t0, t1] H Q :=
  NCalls.ofBody (by kernel_rfl) Tryz.func138 (by kernel_rfl) (by kernel_rfl) (Eq.mp (by kernel_rfl) (A138_0 (fr := fun i => (#[t0, t1] : Array Value).getD i undef) (H := H) (Q := Q) (Eq.mp (by kernel_rfl) h)))
def F139_0 (t0 t1 : Value) (H : Hp) (Q : RT1) : Prop :=
  NCalls Tryz.prog 160 #[t0] H (fun t6_1 H_1 =>
  q (gd t6_1 true (some t1)) fun t8_2 =>
  gl t6_1 true (fun K => NCalls Tryz.prog 160 #[t8_2] H_1 K) H_1 fun t9_3 H_3 =>
  q (gd t6_1 true (pv Tryz.prog (Op.unary .not t9_3))) fun t10_4 =>
  q (Pk t6_1 t10_4 (Value.bool false)) fun t11_5 =>
  q (gd t11_5 false (some t0)) fun t13_6 =>
  q (gd t11_5 false (some t1)) fun t14_7 =>
  q (gd t11_5 false (Bin Tryz.prog H_3 .lss 3 false t13_6 t14_7)) fun t15_8 =>
  q (Pk t11_5 (Value.bool true) t15_8) fun t16_9 =>
  Q t16_9 H_3)
theorem A139_0 {fr : Fr} {H : Hp} {Q : RT1} (h : F139_0 (fr 0) (fr 1) H Q) : xCode Tryz.prog 17 (bodyOf Tryz.f139) (xRet Tryz.prog [.tmp 4] Q) fr H :=
  Eq.mp (by kernel_rfl) h
theorem E139 {t0 t1 : Value} {H : Hp} {Q : RT1} (h : F139_0 t0 t1 H Q) : NCalls Tryz.prog 139 #[t0, t1] H Q :=
  NCalls.ofBody (by kernel_rfl) Tryz.func139 (by kernel_rfl) (by kernel_rfl) (Eq.mp (by kernel_rfl) (A139_0 (fr := fun i => (#[t0, t1] : Array Value).getD i undef) (H := H) (Q := Q) (Eq.mp (by kernel_rfl) h)))
def F140_0 (t0 : Value) (H : Hp) (Q : RT1) : Prop :=
  q (Bin Tryz.prog H .neq 3 false t0 t0) fun t5_1 =>
  Q t5_1 H
theorem A140_0 {fr : Fr} {H : Hp} {Q : RT1} (h : F140_0 (fr 0) H Q) : xCode Tryz.prog 6 (bodyOf Tryz.f140) (xRet Tryz.prog [.tmp 2] Q) fr H :=
  Eq.mp (by kernel_rfl) h
theorem E140 {t0 : Value} {H : Hp} {Q : RT1} (h : F140_0 t0 H Q) : NCalls Tryz.prog 140 #[t0] H Q :=
  NCalls.ofBody (by kernel_rfl) Tryz.func140 (by kernel_rfl) (by kernel_rfl) (Eq.mp (by kernel_rfl) (A140_0 (fr := fun i => (#[t0] : Array Value).getD i undef) (H := H) (Q := Q) (Eq.mp (by kernel_rfl) h)))
def F143_0 (t0 t1 : Value) (H : Hp) (Q : RT1) : Prop :=
  NCalls Tryz.prog 162 #[t0, t1] H (fun t7_1 H_1 =>
  q (Bin Tryz.prog H_1 .geq 3 true t7_1 (Value.int IntKind.i64 0)) fun t8_2 =>
  Q t8_2 H_1)
theorem A143_0 {fr : Fr} {H : Hp} {Q : RT1} (h : F143_0 (fr 0) (fr 1) H Q) : xCode Tryz.prog 9 (bodyOf Tryz.f143) (xRet Tryz.prog [.tmp 4] Q) fr H :=
  Eq.mp (by kernel_rfl) h
theorem E143 {t0 t1 : Value} {H : Hp} {Q : RT1} (h : F143_0 t0 t1 H Q) : NCalls Tryz.prog 143 #[t0, t1] H Q :=
  NCalls.ofBody (by kernel_rfl) Tryz.func143 (by kernel_rfl) (by kernel_rfl) (Eq.mp (by kernel_rfl) (A143_0 (fr := fun i => (#[t0, t1] : Array Value).getD i undef) (H := H) (Q := Q) (Eq.mp (by kernel_rfl) h)))
def F144_0 (t0 t1 t2 t3 : Value) (H : Hp) (Q : RT1) : Prop :=
  New (Value.cells t1) 52 H (fun t5_1 H_1 =>
  q (Nz t0) fun t12_2 =>
  q (Fa 9 t12_2) fun t13_3 =>
  q (Ld H_1 t13_3) fun t14_4 =>
  NCalls Tryz.prog 127 #[t0, t14_4, (Value.int IntKind.i64 7)] H_1 (fun t15_5 H_5 =>
  New #[Value.int IntKind.i64 0, Value.int IntKind.i64 0, Value.int IntKind.i64 0, Value.int IntKind.i64 0, Value.int IntKind.u32 0, Value.int IntKind.u32 0, Value.int IntKind.u32 0, Value.int IntKind.u32 0, Value.bool false, Value.bool false, Value.bool false] 66 H_5 (fun t9_6 H_6 =>
  St 11 H_6 t9_6 t15_5 ((fun u_7 H_7 =>
  q (LdA 4 H_7 t5_1) fun t16_8 =>
  q (Fa 4 t9_6) fun t19_9 =>
  St 4 H_7 t19_9 t16_8 ((fun u_10 H_10 =>
  q (Fa 8 t9_6) fun t20_11 =>
  St 1 H_10 t20_11 (Value.bool true) ((fun u_12 H_12 =>
  q (Fa 9 t9_6) fun t21_13 =>
  St 1 H_12 t21_13 t2 ((fun u_14 H_14 =>
  q (Fa 10 t9_6) fun t22_15 =>
  St 1 H_14 t22_15 t3 ((fun u_16 H_16 =>
  q (LdA 11 H_16 t9_6) fun t23_17 =>
  Bsl #[Value.int IntKind.i64 0, Value.int IntKind.i64 0, Value.int IntKind.i64 0, Value.int IntKind.i64 0, Value.int IntKind.u32 0, Value.int IntKind.u32 0, Value.int IntKind.u32 0, Value.int IntKind.u32 0, Value.bool false, Value.bool false, Value.bool false] 11 66 1 [(0, t23_17)] H_16 (fun t24_18 H_18 =>
  Q t24_18 H_18)) undef)) undef)) undef)) undef)) undef))))
theorem A144_0 {fr : Fr} {H : Hp} {Q : RT1} (h : F144_0 (fr 0) (fr 1) (fr 2) (fr 3) H Q) : xCode Tryz.prog 25 (bodyOf Tryz.f144) (xRet Tryz.prog [.tmp 8] Q) fr H :=
  Eq.mp (by kernel_rfl) h
theorem E144 {t0 t1 t2 t3 : Value} {H : Hp} {Q : RT1} (h : F144_0 t0 t1 t2 t3 H Q) : NCalls Tryz.prog 144 #[t0, t1, t2, t3] H Q :=
  NCalls.ofBody (by kernel_rfl) Tryz.func144 (by kernel_rfl) (by kernel_rfl) (Eq.mp (by kernel_rfl) (A144_0 (fr := fun i => (#[t0, t1, t2, t3] : Array Value).getD i undef) (H := H) (Q := Q) (Eq.mp (by kernel_rfl) h)))
def F145_3 (t0 : Value) (H : Hp) (Q : RT1) : Prop :=
  Q t0 H
def F145_4 (t0 t1 : Value) (H : Hp) (Q : RT1) : Prop :=
  q (pv Tryz.prog (Builtin.cap_ #[38] 0 #[t0])) fun t10_1 =>
  q (pv Tryz.prog (Builtin.len_ #[38] 0 #[t0])) fun t12_2 =>
  q (Bin Tryz.prog H .sub 3 false t10_1 t12_2) fun t13_3 =>
  q (Bin Tryz.prog H .sub 3 false t1 t13_3) fun t14_4 =>
  q (Bin Tryz.prog H .gtr 3 true t14_4 (Value.int IntKind.i64 0)) fun t16_5 =>
  condV t16_5 (
    q (pv Tryz.prog (Builtin.cap_ #[38] 0 #[t0])) fun t19_6 =>
    q (Sl 12 t0 none (some t19_6) none) fun t20_7 =>
    dm Tryz.prog (Builtin.append_ #[38, 3] 0 #[t20_7, t14_4]) H (fun t22_8 H_8 =>
    q (pv Tryz.prog (Builtin.len_ #[38] 0 #[t0])) fun t24_9 =>
    q (Sl 12 t22_8 none (some t24_9) none) fun t25_10 =>
    F145_3 t25_10 H_8 Q)) (
    F145_3 t0 H Q)
def F145_2 (t0 t1 : Value) (H : Hp) (Q : RT1) : Prop := F145_4 t0 t1 H Q
def F145_5 (t0 t1 : Value) (H : Hp) (Q : RT1) : Prop :=
  q (Bin Tryz.prog H .lss 3 true t1 (Value.int IntKind.i64 0)) fun t6_11 =>
  condV t6_11 (
    q (pv Tryz.prog (Instr.makeInterface 9 (Value.string { data := #[99, 97, 110, 110, 111, 116, 32, 98, 101, 32, 110, 101, 103, 97, 116, 105, 118, 101] }))) fun t7_12 =>
    False) (
    F145_2 t0 t1 H Q)
def F145_1 (t0 t1 : Value) (H : Hp) (Q : RT1) : Prop := F145_5 t0 t1 H Q
def F145_6 (t0 t1 : Value) (H : Hp) (Q : RT1) : Prop :=
  F145_1 t0 t1 H Q
def F145_0 (t0 t1 : Value) (H : Hp) (Q : RT1) : Prop := F145_6 t0 t1 H Q
theorem A145_3 {fr : Fr} {H : Hp} {Q : RT1} (h : F145_3 (fr 0) H Q) : xCode Tryz.prog 27 (Code.r (Code.r (Code.r (bodyOf Tryz.f145)))) (xRet Tryz.prog [.tmp 4] Q) fr H :=
  Eq.mp (by kernel_rfl) h
theorem A145_4 {fr : Fr} {H : Hp} {Q : RT1} (h : F145_4 (fr 0) (fr 1) H Q) : xCode Tryz.prog 27 (Code.l (Code.r (Code.r (bodyOf Tryz.f145)))) (thenK (fun fr H => F145_3 (fr 0) H Q) (xRet Tryz.prog [.tmp 4] Q)) fr H :=
  Eq.mp (by kernel_rfl) h
theorem A145_2 {fr : Fr} {H : Hp} {Q : RT1} (h : F145_2 (fr 0) (fr 1) H Q) : xCode Tryz.prog 27 (Code.r (Code.r (bodyOf Tryz.f145))) (xRet Tryz.prog [.tmp 4] Q) fr H :=
  seq_cut (by kernel_rfl) (fun _ _ h => A145_3 h) (A145_4 h)
theorem A145_5 {fr : Fr} {H : Hp} {Q : RT1} (h : F145_5 (fr 0) (fr 1) H Q) : xCode Tryz.prog 27 (Code.l (Code.r (bodyOf Tryz.f145))) (thenK (fun fr H => F145_2 (fr 0) (fr 1) H Q) (xRet Tryz.prog [.tmp 4] Q)) fr H :=
  Eq.mp (by kernel_rfl) h
theorem A145_1 {fr : Fr} {H : Hp} {Q : RT1} (h : F145_1 (fr 0) (fr 1) H Q) : xCode Tryz.prog 27 (Code.r (bodyOf Tryz.f145)) (xRet Tryz.prog [.tmp 4] Q) fr H :=
  seq_cut (by kernel_rfl) (fun _ _ h => A145_2 h) (A145_5 h)
theorem A145_6 {fr : Fr} {H : Hp} {Q : RT1} (h : F145_6 (fr 0) (fr 1) H Q) : xCode Tryz.prog 27 (Code.l (bodyOf Tryz.f145)) (thenK (fun fr H => F145_1 (fr 0) (fr 1) H Q) (xRet Tryz.prog [.tmp 4] Q)) fr H :=
  Eq.mp (by kernel_rfl) h
theorem A145_0 {fr : Fr} {H : Hp} {Q : RT1} (h : F145_0 (fr 0) (fr 1) H Q) : xCode Tryz.prog 27 (bodyOf Tryz.f145) (xRet Tryz.prog [.tmp 4] Q) fr H :=
  seq_cut (by kernel_rfl) (fun _ _ h => A145_1 h) (A145_6 h)
theorem E145 {t0 t1 : Value} {H : Hp} {Q : RT1} (h : F145_0 t0 t1 H Q) : NCalls Tryz.prog 145 #[t0, t1] H Q :=
  NCalls.ofBody (by kernel_rfl) Tryz.func145 (by kernel_rfl) (by kernel_rfl) (Eq.mp (by kernel_rfl) (A145_0 (fr := fun i => (#[t0, t1] : Array Value).getD i undef) (H := H) (Q := Q) (Eq.mp (by kernel_rfl) h)))
def F146_5 (t2 t4 : Value) (H : Hp) (Q : RT1) : Prop :=
  q (LdA 11 H t4) fun t35_1 =>
  St 11 H t2 t35_1 ((fun u_2 H_2 =>
  q (LdA 11 H_2 t2) fun r_3 =>
  Q r_3 H_2) undef)
def F146_6 (t2 t3 t4 : Value) (H : Hp) (Q : RT1) : Prop :=
  q (Nz t3) fun t25_4 =>
  q (Ld H t25_4) fun t26_5 =>
  q (Bin Tryz.prog H .eql 3 true t26_5 (Value.int IntKind.i64 4)) fun t28_6 =>
  condV t28_6 (
    q (Nz t3) fun t30_7 =>
    St 1 H t30_7 (Value.int IntKind.i64 3) ((fun u_8 H_8 =>
    F146_5 t2 t4 H_8 Q) undef)) (
    q (Bin Tryz.prog H .eql 3 true t26_5 (Value.int IntKind.i64 2)) fun t32_9 =>
    condV t32_9 (
      q (Nz t3) fun t34_10 =>
      St 1 H t34_10 (Value.int IntKind.i64 1) ((fun u_11 H_11 =>
      F146_5 t2 t4 H_11 Q) undef)) (
      F146_5 t2 t4 H Q))
def F146_4 (t2 t3 t4 : Value) (H : Hp) (Q : RT1) : Prop := F146_6 t2 t3 t4 H Q
def F146_7 (t0 t2 t3 : Value) (H : Hp) (Q : RT1) : Prop :=
  q (Nz t3) fun t21_12 =>
  q (Ld H t21_12) fun t22_13 =>
  NCalls Tryz.prog 113 #[t0, (Value.int IntKind.i64 11), t22_13] H (fun t23_14 H_14 =>
  New #[Value.int IntKind.i64 0, Value.int IntKind.i64 0, Value.int IntKind.i64 0, Value.int IntKind.i64 0, Value.int IntKind.u32 0, Value.int IntKind.u32 0, Value.int IntKind.u32 0, Value.int IntKind.u32 0, Value.bool false, Value.bool false, Value.bool false] 66 H_14 (fun t4_15 H_15 =>
  St 11 H_15 t4_15 t23_14 ((fun u_16 H_16 =>
  F146_4 t2 t3 t4_15 H_16 Q) undef)))
def F146_3 (t0 t2 t3 : Value) (H : Hp) (Q : RT1) : Prop := F146_7 t0 t2 t3 H Q
def F146_8 (t0 t2 t3 : Value) (H : Hp) (Q : RT1) : Prop :=
  q (Nz t3) fun t8_17 =>
  q (Ld H t8_17) fun t9_18 =>
  q (Bin Tryz.prog H .eql 3 true t9_18 (Value.int IntKind.i64 0)) fun t10_19 =>
  q (gd t10_19 false (some t3)) fun t12_20 =>
  q (gd t10_19 false (Nz t12_20)) fun t13_21 =>
  q (gd t10_19 false (Ld H t13_21)) fun t14_22 =>
  q (gd t10_19 false (Bin Tryz.prog H .eql 3 true t14_22 (Value.int IntKind.i64 1))) fun t15_23 =>
  q (Pk t10_19 (Value.bool true) t15_23) fun t16_24 =>
  condV t16_24 (
    NCalls Tryz.prog 85 #[t0, (Value.int IntKind.i64 11)] H (fun t18_25 H_25 =>
    St 11 H_25 t2 t18_25 ((fun u_26 H_26 =>
    q (LdA 11 H_26 t2) fun r_27 =>
    Q r_27 H_26) undef))) (
    F146_3 t0 t2 t3 H Q)
def F146_2 (t0 t2 t3 : Value) (H : Hp) (Q : RT1) : Prop := F146_8 t0 t2 t3 H Q
def F146_9 (t0 t2 : Value) (H : Hp) (Q : RT1) : Prop :=
  NCalls Tryz.prog 163 #[t0] H (fun t6_28 H_28 =>
  F146_2 t0 t2 t6_28 H_28 Q)
def F146_1 (t0 t2 : Value) (H : Hp) (Q : RT1) : Prop := F146_9 t0 t2 H Q
def F146_10 (t0 : Value) (H : Hp) (Q : RT1) : Prop :=
  New #[Value.int IntKind.i64 0, Value.int IntKind.i64 0, Value.int IntKind.i64 0, Value.int IntKind.i64 0, Value.int IntKind.u32 0, Value.int IntKind.u32 0, Value.int IntKind.u32 0, Value.int IntKind.u32 0, Value.bool false, Value.bool false, Value.bool false] 66 H (fun t2_29 H_29 =>
  F146_1 t0 t2_29 H_29 Q)
def F146_0 (t0 : Value) (H : Hp) (Q : RT1) : Prop := F146_10 t0 H Q
theorem A146_5 {fr : Fr} {H : Hp} {Q : RT1} (h : F146_5 (fr 2) (fr 4) H Q) : xCode Tryz.prog 36 (Code.r (Code.r (Code.r (Code.r (Code.r (bodyOf Tryz.f146)))))) (xRet Tryz.prog [.cell 2 66] Q) fr H :=
  Eq.mp (by kernel_rfl) h
theorem A146_6 {fr : Fr} {H : Hp} {Q : RT1} (h : F146_6 (fr 2) (fr 3) (fr 4) H Q) : xCode Tryz.prog 36 (Code.l (Code.r (Code.r (Code.r (Code.r (bodyOf Tryz.f146)))))) (thenK (fun fr H => F146_5 (fr 2) (fr 4) H Q) (xRet Tryz.prog [.cell 2 66] Q)) fr H :=
  Eq.mp (by kernel_rfl) h
theorem A146_4 {fr : Fr} {H : Hp} {Q : RT1} (h : F146_4 (fr 2) (fr 3) (fr 4) H Q) : xCode Tryz.prog 36 (Code.r (Code.r (Code.r (Code.r (bodyOf Tryz.f146))))) (xRet Tryz.prog [.cell 2 66] Q) fr H :=
  seq_cut (by kernel_rfl) (fun _ _ h => A146_5 h) (A146_6 h)
theorem A146_7 {fr : Fr} {H : Hp} {Q : RT1} (h : F146_7 (fr 0) (fr 2) (fr 3) H Q) : xCode Tryz.prog 36 (Code.l (Code.r (Code.r (Code.r (bodyOf Tryz.f146))))) (thenK (fun fr H => F146_4 (fr 2) (fr 3) (fr 4) H Q) (xRet Tryz.prog [.cell 2 66] Q)) fr H :=
  Eq.mp (by kernel_rfl) h
theorem A146_3 {fr : Fr} {H : Hp} {Q : RT1} (h : F146_3 (fr 0) (fr 2) (fr 3) H Q) : xCode Tryz.prog 36 (Code.r (Code.r (Code.r (bodyOf Tryz.f146)))) (xRet Tryz.prog [.cell 2 66] Q) fr H :=
  seq_cut (by kernel_rfl) (fun _ _ h => A146_4 h) (A146_7 h)
theorem A146_8 {fr : Fr} {H : Hp} {Q : RT1} (h : F146_8 (fr 0) (fr 2) (fr 3) H Q) : xCode Tryz.prog 36 (Code.l (Code.r (Code.r (bodyOf Tryz.f146)))) (thenK (fun fr H => F146_3 (fr 0) (fr 2) (fr 3) H Q) (xRet Tryz.prog [.cell 2 66] Q)) fr H :=
  Eq.mp (by kernel_rfl) h
theorem A146_2 {fr : Fr} {H : Hp} {Q : RT1} (h : F146_2 (fr 0) (fr 2) (fr 3) H Q) : xCode Tryz.prog 36 (Code.r (Code.r (bodyOf Tryz.f146))) (xRet Tryz.prog [.cell 2 66] Q) fr H :=
  seq_cut (by kernel_rfl) (fun _ _ h => A146_3 h) (A146_8 h)
theorem A146_9 {fr : Fr} {H : Hp} {Q : RT1} (h : F146_9 (fr 0) (fr 2) H Q) : xCode Tryz.prog 36 (Code.l (Code.r (bodyOf Tryz.f146))) (thenK (fun fr H => F146_2 (fr 0) (fr 2) (fr 3) H Q) (xRet Tryz.prog [.cell 2 66] Q)) fr H :=
  Eq.mp (by kernel_rfl) h
theorem A146_1 {fr : Fr} {H : Hp} {Q : RT1} (h : F146_1 (fr 0) (fr 2) H Q) : xCode Tryz.prog 36 (Code.r (bodyOf Tryz.f146)) (xRet Tryz.prog [.cell 2 66] Q) fr H :=
  seq_cut (by kernel_rfl) (fun _ _ h => A146_2 h) (A146_9 h)
theorem A146_10 {fr : Fr} {H : Hp} {Q : RT1} (h : F146_10 (fr 0) H Q) : xCode Tryz.prog 36 (Code.l (bodyOf Tryz.f146)) (thenK (fun fr H => F146_1 (fr 0) (fr 2) H Q) (xRet Tryz.prog [.cell 2 66] Q)) fr H :=
  Eq.mp (by kernel_rfl) h
theorem A146_0 {fr : Fr} {H : Hp} {Q : RT1} (h : F146_0 (fr 0) H Q) : xCode Tryz.prog 36 (bodyOf Tryz.f146) (xRet Tryz.prog [.cell 2 66] Q) fr H :=
  seq_cut (by kernel_rfl) (fun _ _ h => A146_1 h) (A146_10 h)
theorem E146 {t0 : Value} {H : Hp} {Q : RT1} (h : F146_0 t0 H Q) : NCalls Tryz.prog 146 #[t0] H Q :=
  NCalls.ofBody (by kernel_rfl) Tryz.func146 (by kernel_rfl) (by kernel_rfl) (Eq.mp (by kernel_rfl) (A146_0 (fr := fun i => (#[t0] : Array Value).getD i undef) (H := H) (Q := Q) (Eq.mp (by kernel_rfl) h)))
def F147_4 (t2 t3 t4 : Value) (H : Hp) (Q : RT1) : Prop :=
  q (Nz t3) fun t25_1 =>
  St 1 H t25_1 (Value.int IntKind.i64 0) ((fun u_2 H_2 =>
  q (LdA 11 H_2 t4) fun t26_3 =>
  St 11 H_2 t2 t26_3 ((fun u_4 H_4 =>
  q (LdA 11 H_4 t2) fun r_5 =>
  Q r_5 H_4) undef)) undef)
def F147_5 (t0 t2 t3 t4 : Value) (H : Hp) (Q : RT1) : Prop :=
  q (Nz t3) fun t10_6 =>
  q (Ld H t10_6) fun t11_7 =>
  q (Bin Tryz.prog H .neq 3 true t11_7 (Value.int IntKind.i64 0)) fun t12_8 =>
  q (gd t12_8 true (some t3)) fun t14_9 =>
  q (gd t12_8 true (Nz t14_9)) fun t15_10 =>
  q (gd t12_8 true (Ld H t15_10)) fun t16_11 =>
  q (gd t12_8 true (Bin Tryz.prog H .neq 3 true t16_11 (Value.int IntKind.i64 1))) fun t17_12 =>
  q (Pk t12_8 t17_12 (Value.bool false)) fun t18_13 =>
  condV t18_13 (
    q (Nz t3) fun t21_14 =>
    q (Ld H t21_14) fun t22_15 =>
    NCalls Tryz.prog 113 #[t0, (Value.int IntKind.i64 11), t22_15] H (fun t23_16 H_16 =>
    St 11 H_16 t4 t23_16 ((fun u_17 H_17 =>
    F147_4 t2 t3 t4 H_17 Q) undef))) (
    F147_4 t2 t3 t4 H Q)
def F147_3 (t0 t2 t3 t4 : Value) (H : Hp) (Q : RT1) : Prop := F147_5 t0 t2 t3 t4 H Q
def F147_6 (t0 t2 t3 : Value) (H : Hp) (Q : RT1) : Prop :=
  NCalls Tryz.prog 85 #[t0, (Value.int IntKind.i64 11)] H (fun t8_18 H_18 =>
  New #[Value.int IntKind.i64 0, Value.int IntKind.i64 0, Value.int IntKind.i64 0, Value.int IntKind.i64 0, Value.int IntKind.u32 0, Value.int IntKind.u32 0, Value.int IntKind.u32 0, Value.int IntKind.u32 0, Value.bool false, Value.bool false, Value.bool false] 66 H_18 (fun t4_19 H_19 =>
  St 11 H_19 t4_19 t8_18 ((fun u_20 H_20 =>
  F147_3 t0 t2 t3 t4_19 H_20 Q) undef)))
def F147_2 (t0 t2 t3 : Value) (H : Hp) (Q : RT1) : Prop := F147_6 t0 t2 t3 H Q
def F147_7 (t0 t2 : Value) (H : Hp) (Q : RT1) : Prop :=
  NCalls Tryz.prog 163 #[t0] H (fun t6_21 H_21 =>
  F147_2 t0 t2 t6_21 H_21 Q)
def F147_1 (t0 t2 : Value) (H : Hp) (Q : RT1) : Prop := F147_7 t0 t2 H Q
def F147_8 (t0 : Value) (H : Hp) (Q : RT1) : Prop :=
  New #[Value.int IntKind.i64 0, Value.int IntKind.i64 0, Value.int IntKind.i64 0, Value.int IntKind.i64 0, Value.int IntKind.u32 0, Value.int IntKind.u32 0, Value.int IntKind.u32 0, Value.int IntKind.u32 0, Value.bool false, Value.bool false, Value.bool false] 66 H (fun t2_22 H_22 =>
  F147_1 t0 t2_22 H_22 Q)
def F147_0 (t0 : Value) (H : Hp) (Q : RT1) : Prop := F147_8 t0 H Q
theorem A147_4 {fr : Fr} {H : Hp} {Q : RT1} (h : F147_4 (fr 2) (fr 3) (fr 4) H Q) : xCode Tryz.prog 27 (Code.r (Code.r (Code.r (Code.r (bodyOf Tryz.f147))))) (xRet Tryz.prog [.cell 2 66] Q) fr H :=
  Eq.mp (by kernel_rfl) h
theorem A147_5 {fr : Fr} {H : Hp} {Q : RT1} (h : F147_5 (fr 0) (fr 2) (fr 3) (fr 4) H Q) : xCode Tryz.prog 27 (Code.l (Code.r (Code.r (Code.r (bodyOf Tryz.f147))))) (thenK (fun fr H => F147_4 (fr 2) (fr 3) (fr 4) H Q) (xRet Tryz.prog [.cell 2 66] Q)) fr H :=
  Eq.mp (by kernel_rfl) h
theorem A147_3 {fr : Fr} {H : Hp} {Q : RT1} (h : F147_3 (fr 0) (fr 2) (fr 3) (fr 4) H Q) : xCode Tryz.prog 27 (Code.r (Code.r (Code.r (bodyOf Tryz.f147)))) (xRet Tryz.prog [.cell 2 66] Q) fr H :=
  seq_cut (by kernel_rfl) (fun _ _ h => A147_4 h) (A147_5 h)
theorem A147_6 {fr : Fr} {H : Hp} {Q : RT1} (h : F147_6 (fr 0) (fr 2) (fr 3) H Q) : xCode Tryz.prog 27 (Code.l (Code.r (Code.r (bodyOf Tryz.f147)))) (thenK (fun fr H => F147_3 (fr 0) (fr 2) (fr 3) (fr 4) H Q) (xRet Tryz.prog [.cell 2 66] Q)) fr H :=
  Eq.mp (by kernel_rfl) h
theorem A147_2 {fr : Fr} {H : Hp} {Q : RT1} (h : F147_2 (fr 0) (fr 2) (fr 3) H Q) : xCode Tryz.prog 27 (Code.r (Code.r (bodyOf Tryz.f147))) (xRet Tryz.prog [.cell 2 66] Q) fr H :=
  seq_cut (by kernel_rfl) (fun _ _ h => A147_3 h) (A147_6 h)
theorem A147_7 {fr : Fr} {H : Hp} {Q : RT1} (h : F147_7 (fr 0) (fr 2) H Q) : xCode Tryz.prog 27 (Code.l (Code.r (bodyOf Tryz.f147))) (thenK (fun fr H => F147_2 (fr 0) (fr 2) (fr 3) H Q) (xRet Tryz.prog [.cell 2 66] Q)) fr H :=
  Eq.mp (by kernel_rfl) h
theorem A147_1 {fr : Fr} {H : Hp} {Q : RT1} (h : F147_1 (fr 0) (fr 2) H Q) : xCode Tryz.prog 27 (Code.r (bodyOf Tryz.f147)) (xRet Tryz.prog [.cell 2 66] Q) fr H :=
  seq_cut (by kernel_rfl) (fun _ _ h => A147_2 h) (A147_7 h)
theorem A147_8 {fr : Fr} {H : Hp} {Q : RT1} (h : F147_8 (fr 0) H Q) : xCode Tryz.prog 27 (Code.l (bodyOf Tryz.f147)) (thenK (fun fr H => F147_1 (fr 0) (fr 2) H Q) (xRet Tryz.prog [.cell 2 66] Q)) fr H :=
  Eq.mp (by kernel_rfl) h
theorem A147_0 {fr : Fr} {H : Hp} {Q : RT1} (h : F147_0 (fr 0) H Q) : xCode Tryz.prog 27 (bodyOf Tryz.f147) (xRet Tryz.prog [.cell 2 66] Q) fr H :=
  seq_cut (by kernel_rfl) (fun _ _ h => A147_1 h) (A147_8 h)
theorem E147 {t0 : Value} {H : Hp} {Q : RT1} (h : F147_0 t0 H Q) : NCalls Tryz.prog 147 #[t0] H Q :=
  NCalls.ofBody (by kernel_rfl) Tryz.func147 (by kernel_rfl) (by kernel_rfl) (Eq.mp (by kernel_rfl) (A147_0 (fr := fun i => (#[t0] : Array Value).getD i undef) (H := H) (Q := Q) (Eq.mp (by kernel_rfl) h)))
def F150_5 (t0 t1 t2 t3 t8 : Value) (H : Hp) (R2 : RT5) (Q : RT1) : Prop :=
  q (Bin Tryz.prog H .add 3 true t8 (Value.int IntKind.i64 1)) fun t16_1 =>
  R2 t0 t1 t2 t3 t16_1 H
def F150_10 (t0 t1 t2 t3 t8 t9 : Value) (H : Hp) (R2 : RT5) (R9 : RT6) (Q : RT1) : Prop :=
  q (Bin Tryz.prog H .gtr 3 false t9 t1) fun t20_2 =>
  q (gd t20_2 true (some t3)) fun t22_3 =>
  q (gd t20_2 true (some t0)) fun t23_4 =>
  q (gd t20_2 true (some t9)) fun t24_5 =>
  q (gd t20_2 true (Ix 6 t23_4 t24_5)) fun t25_6 =>
  q (gd t20_2 true (LdA 6 H t25_6)) fun t26_7 =>
  q (gd t20_2 true (some t0)) fun t27_8 =>
  q (gd t20_2 true (some t9)) fun t28_9 =>
  q (gd t20_2 true (Bin Tryz.prog H .sub 3 true t28_9 (Value.int IntKind.i64 1))) fun t29_10 =>
  q (gd t20_2 true (Ix 6 t27_8 t29_10)) fun t30_11 =>
  q (gd t20_2 true (LdA 6 H t30_11)) fun t31_12 =>
  gl t20_2 true (fun K => CallV Tryz.prog t22_3 [t26_7, t31_12] H K) H fun t32_13 H_13 =>
  q (gd t20_2 true (Bin Tryz.prog H_13 .lss 3 true t32_13 (Value.int IntKind.i64 0))) fun t33_14 =>
  q (Pk t20_2 t33_14 (Value.bool false)) fun t34_15 =>
  condV t34_15 (
    q (Bin Tryz.prog H_13 .sub 3 true t9 (Value.int IntKind.i64 1)) fun t41_16 =>
    q (Bin Tryz.prog H_13 .sub 3 true t9 (Value.int IntKind.i64 1)) fun t44_17 =>
    q (Ix 6 t0 t44_17) fun t45_18 =>
    q (LdA 6 H_13 t45_18) fun t46_19 =>
    q (Ix 6 t0 t9) fun t49_20 =>
    q (LdA 6 H_13 t49_20) fun t50_21 =>
    q (Ix 6 t0 t9) fun t51_22 =>
    St 6 H_13 t51_22 t46_19 ((fun u_23 H_23 =>
    q (Ix 6 t0 t41_16) fun t52_24 =>
    St 6 H_23 t52_24 t50_21 ((fun u_25 H_25 =>
    q (Bin Tryz.prog H_25 .sub 3 true t9 (Value.int IntKind.i64 1)) fun t36_26 =>
    R9 t0 t1 t2 t3 t8 t36_26 H_25) undef)) undef)) (
    F150_5 t0 t1 t2 t3 t8 H_13 R2 Q)
def F150_9 (t0 t1 t2 t3 t8 t9 : Value) (H : Hp) (R2 : RT5) (Q : RT1) : Prop :=
  ∃ (I : RT1) (μ : Value → Hp → Nat), I t9 H ∧ ∀ n9 H1, I n9 H1 → F150_10 t0 t1 t2 t3 t8 n9 H1 R2 (fun m0 m1 m2 m3 m8 m9 H2 => m0 = t0 ∧ m1 = t1 ∧ m2 = t2 ∧ m3 = t3 ∧ m8 = t8 ∧ (I m9 H2 ∧ μ m9 H2 < μ n9 H1)) Q
def F150_8 (t0 t1 t2 t3 t8 t9 : Value) (H : Hp) (R2 : RT5) (Q : RT1) : Prop := F150_9 t0 t1 t2 t3 t8 t9 H R2 Q
def F150_11 (t0 t1 t2 t3 t8 : Value) (H : Hp) (R2 : RT5) (Q : RT1) : Prop :=
  F150_8 t0 t1 t2 t3 t8 t8 H R2 Q
def F150_7 (t0 t1 t2 t3 t8 : Value) (H : Hp) (R2 : RT5) (Q : RT1) : Prop := F150_11 t0 t1 t2 t3 t8 H R2 Q
def F150_6 (t0 t1 t2 t3 t8 : Value) (H : Hp) (R2 : RT5) (Q : RT1) : Prop := F150_7 t0 t1 t2 t3 t8 H R2 Q
def F150_4 (t0 t1 t2 t3 t8 : Value) (H : Hp) (R2 : RT5) (Q : RT1) : Prop := F150_6 t0 t1 t2 t3 t8 H R2 Q
def F150_12 (t0 t1 t2 t3 t8 : Value) (H : Hp) (R2 : RT5) (Q : RT1) : Prop :=
  q (Bin Tryz.prog H .lss 3 false t8 t2) fun t14_27 =>
  condV t14_27 (
    F150_4 t0 t1 t2 t3 t8 H R2 Q) (
    Q (Value.tuple #[]) H)
def F150_3 (t0 t1 t2 t3 t8 : Value) (H : Hp) (R2 : RT5) (Q : RT1) : Prop := F150_12 t0 t1 t2 t3 t8 H R2 Q
def F150_2 (t0 t1 t2 t3 t8 : Value) (H : Hp) (Q : RT1) : Prop :=
  ∃ (I : RT1) (μ : Value → Hp → Nat), I t8 H ∧ ∀ n8 H1, I n8 H1 → F150_3 t0 t1 t2 t3 n8 H1 (fun m0 m1 m2 m3 m8 H2 => m0 = t0 ∧ m1 = t1 ∧ m2 = t2 ∧ m3 = t3 ∧ (I m8 H2 ∧ μ m8 H2 < μ n8 H1)) Q
def F150_1 (t0 t1 t2 t3 t8 : Value) (H : Hp) (Q : RT1) : Prop := F150_2 t0 t1 t2 t3 t8 H Q
def F150_13 (t0 t1 t2 t3 : Value) (H : Hp) (Q : RT1) : Prop :=
  q (Bin Tryz.prog H .add 3 true t1 (Value.int IntKind.i64 1)) fun t11_28 =>
  F150_1 t0 t1 t2 t3 t11_28 H Q
def F150_0 (t0 t1 t2 t3 : Value) (H : Hp) (Q : RT1) : Prop := F150_13 t0 t1 t2 t3 H Q
abbrev K150_20 (R2 : RT5) (Q : RT1) : QT := thenK (fun fr H => R2 (fr 0) (fr 1) (fr 2) (fr 3) (fr 8) H) (blockK 0 (xRet Tryz.prog [] Q))
theorem A150_5 {fr : Fr} {H : Hp} {R2 : RT5} {Q : RT1} (h : F150_5 (fr 0) (fr 1) (fr 2) (fr 3) (fr 8) H R2 Q) : xCode Tryz.prog 53 (Code.r (Code.r (Code.l (Code.l (Code.r (bodyOf Tryz.f150)))))) (K150_20 R2 Q) fr H :=
  Eq.mp (by kernel_rfl) h
abbrev K150_21 (R2 : RT5) (Q : RT1) : QT := thenK (fun fr H => F150_5 (fr 0) (fr 1) (fr 2) (fr 3) (fr 8) H R2 Q) (K150_20 R2 Q)
theorem A150_10 {fr : Fr} {H : Hp} {R2 : RT5} {R9 : RT6} {Q : RT1} (h : F150_10 (fr 0) (fr 1) (fr 2) (fr 3) (fr 8) (fr 9) H R2 R9 Q) : xCode Tryz.prog 53 (Code.l (Code.l (Code.r (Code.l (Code.l (Code.r (Code.l (Code.l (Code.r (bodyOf Tryz.f150)))))))))) (thenK (fun fr H => R9 (fr 0) (fr 1) (fr 2) (fr 3) (fr 8) (fr 9) H) (blockK 2 (blockK 1 (K150_21 R2 Q)))) fr H :=
  Eq.mp (by kernel_rfl) h
theorem A150_9 {fr : Fr} {H : Hp} {R2 : RT5} {Q : RT1} (h : F150_9 (fr 0) (fr 1) (fr 2) (fr 3) (fr 8) (fr 9) H R2 Q) : xCode Tryz.prog 53 (Code.l (Code.r (Code.l (Code.l (Code.r (Code.l (Code.l (Code.r (bodyOf Tryz.f150))))))))) (blockK 2 (blockK 1 (K150_21 R2 Q))) fr H := by
  obtain ⟨I, μ, h0, hr⟩ := h
  refine loop_cut (a := (Code.l (Code.l (Code.r (Code.l (Code.l (Code.r (Code.l (Code.l (Code.r (bodyOf Tryz.f150))))))))))) (by kernel_rfl) (fun fr1 H1 => fr1 0 = fr 0 ∧ fr1 1 = fr 1 ∧ fr1 2 = fr 2 ∧ fr1 3 = fr 3 ∧ fr1 8 = fr 8 ∧ I (fr1 9) H1) (fun fr1 H1 => μ (fr1 9) H1) (by exact ⟨rfl, rfl, rfl, rfl, rfl, h0⟩) ?_
  intro fr1 H1 hI
  obtain ⟨hu0, hu1, hu2, hu3, hu8, hI⟩ := hI
  have hb := hr (fr1 9) H1 hI
  rw [← hu0] at hb; rw [← hu1] at hb; rw [← hu2] at hb; rw [← hu3] at hb; rw [← hu8] at hb
  refine ⟨_, ?_, A150_10 hb⟩
  intro fr2 H2 hj
  obtain ⟨ku0, ku1, ku2, ku3, ku8, hI2, hlt⟩ := hj
  exact ⟨⟨(ku0.trans hu0), (ku1.trans hu1), (ku2.trans hu2), (ku3.trans hu3), (ku8.trans hu8), hI2⟩, hlt⟩
theorem A150_8 {fr : Fr} {H : Hp} {R2 : RT5} {Q : RT1} (h : F150_8 (fr 0) (fr 1) (fr 2) (fr 3) (fr 8) (fr 9) H R2 Q) : xCode Tryz.prog 53 (Code.r (Code.l (Code.l (Code.r (Code.l (Code.l (Code.r (bodyOf Tryz.f150)))))))) (blockK 1 (K150_21 R2 Q)) fr H :=
  block_cut (by kernel_rfl) (A150_9 h)
theorem A150_11 {fr : Fr} {H : Hp} {R2 : RT5} {Q : RT1} (h : F150_11 (fr 0) (fr 1) (fr 2) (fr 3) (fr 8) H R2 Q) : xCode Tryz.prog 53 (Code.l (Code.l (Code.l (Code.r (Code.l (Code.l (Code.r (bodyOf Tryz.f150)))))))) (thenK (fun fr H => F150_8 (fr 0) (fr 1) (fr 2) (fr 3) (fr 8) (fr 9) H R2 Q) (blockK 1 (K150_21 R2 Q))) fr H :=
  Eq.mp (by kernel_rfl) h
theorem A150_7 {fr : Fr} {H : Hp} {R2 : RT5} {Q : RT1} (h : F150_7 (fr 0) (fr 1) (fr 2) (fr 3) (fr 8) H R2 Q) : xCode Tryz.prog 53 (Code.l (Code.l (Code.r (Code.l (Code.l (Code.r (bodyOf Tryz.f150))))))) (blockK 1 (K150_21 R2 Q)) fr H :=
  seq_cut (by kernel_rfl) (fun _ _ h => A150_8 h) (A150_11 h)
theorem A150_6 {fr : Fr} {H : Hp} {R2 : RT5} {Q : RT1} (h : F150_6 (fr 0) (fr 1) (fr 2) (fr 3) (fr 8) H R2 Q) : xCode Tryz.prog 53 (Code.l (Code.r (Code.l (Code.l (Code.r (bodyOf Tryz.f150)))))) (K150_21 R2 Q) fr H :=
  block_cut (by kernel_rfl) (A150_7 h)
theorem A150_4 {fr : Fr} {H : Hp} {R2 : RT5} {Q : RT1} (h : F150_4 (fr 0) (fr 1) (fr 2) (fr 3) (fr 8) H R2 Q) : xCode Tryz.prog 53 (Code.r (Code.l (Code.l (Code.r (bodyOf Tryz.f150))))) (K150_20 R2 Q) fr H :=
  seq_cut (by kernel_rfl) (fun _ _ h => A150_5 h) (A150_6 h)
theorem A150_12 {fr : Fr} {H : Hp} {R2 : RT5} {Q : RT1} (h : F150_12 (fr 0) (fr 1) (fr 2) (fr 3) (fr 8) H R2 Q) : xCode Tryz.prog 53 (Code.l (Code.l (Code.l (Code.r (bodyOf Tryz.f150))))) (thenK (fun fr H => F150_4 (fr 0) (fr 1) (fr 2) (fr 3) (fr 8) H R2 Q) (K150_20 R2 Q)) fr H :=
  Eq.mp (by kernel_rfl) h
theorem A150_3 {fr : Fr} {H : Hp} {R2 : RT5} {Q : RT1} (h : F150_3 (fr 0) (fr 1) (fr 2) (fr 3) (fr 8) H R2 Q) : xCode Tryz.prog 53 (Code.l (Code.l (Code.r (bodyOf Tryz.f150)))) (K150_20 R2 Q) fr H :=
  seq_cut (by kernel_rfl) (fun _ _ h => A150_4 h) (A150_12 h)
theorem A150_2 {fr : Fr} {H : Hp} {Q : RT1} (h : F150_2 (fr 0) (fr 1) (fr 2) (fr 3) (fr 8) H Q) : xCode Tryz.prog 53 (Code.l (Code.r (bodyOf Tryz.f150))) (blockK 0 (xRet Tryz.prog [] Q)) fr H := by
  obtain ⟨I, μ, h0, hr⟩ := h
  refine loop_cut (a := (Code.l (Code.l (Code.r (bodyOf Tryz.f150))))) (by kernel_rfl) (fun fr1 H1 => fr1 0 = fr 0 ∧ fr1 1 = fr 1 ∧ fr1 2 = fr 2 ∧ fr1 3 = fr 3 ∧ I (fr1 8) H1) (fun fr1 H1 => μ (fr1 8) H1) (by exact ⟨rfl, rfl, rfl, rfl, h0⟩) ?_
  intro fr1 H1 hI
  obtain ⟨hu0, hu1, hu2, hu3, hI⟩ := hI
  have hb := hr (fr1 8) H1 hI
  rw [← hu0] at hb; rw [← hu1] at hb; rw [← hu2] at hb; rw [← hu3] at hb
  refine ⟨_, ?_, A150_3 hb⟩
  intro fr2 H2 hj
  obtain ⟨ku0, ku1, ku2, ku3, hI2, hlt⟩ := hj
  exact ⟨⟨(ku0.trans hu0), (ku1.trans hu1), (ku2.trans hu2), (ku3.trans hu3), hI2⟩, hlt⟩
theorem A150_1 {fr : Fr} {H : Hp} {Q : RT1} (h : F150_1 (fr 0) (fr 1) (fr 2) (fr 3) (fr 8) H Q) : xCode Tryz.prog 53 (Code.r (bodyOf Tryz.f150)) (xRet Tryz.prog [] Q) fr H :=
  block_cut (by kernel_rfl) (A150_2 h)
theorem A150_13 {fr : Fr} {H : Hp} {Q : RT1} (h : F150_13 (fr 0) (fr 1) (fr 2) (fr 3) H Q) : xCode Tryz.prog 53 (Code.l (bodyOf Tryz.f150)) (thenK (fun fr H => F150_1 (fr 0) (fr 1) (fr 2) (fr 3) (fr 8) H Q) (xRet Tryz.prog [] Q)) fr H :=
  Eq.mp (by kernel_rfl) h
theorem A150_0 {fr : Fr} {H : Hp} {Q : RT1} (h : F150_0 (fr 0) (fr 1) (fr 2) (fr 3) H Q) : xCode Tryz.prog 53 (bodyOf Tryz.f150) (xRet Tryz.prog [] Q) fr H :=
  seq_cut (by kernel_rfl) (fun _ _ h => A150_1 h) (A150_13 h)
theorem E150 {t0 t1 t2 t3 : Value} {H : Hp} {Q : RT1} (h : F150_0 t0 t1 t2 t3 H Q) : NCalls Tryz.prog 150 #[t0, t1, t2, t3] H Q :=
  NCalls.ofBody (by kernel_rfl) Tryz.func150 (by kernel_rfl) (by kernel_rfl) (Eq.mp (by kernel_rfl) (A150_0 (fr := fun i => (#[t0, t1, t2, t3] : Array Value).getD i undef) (H := H) (Q := Q) (Eq.mp (by kernel_rfl) h)))
def F160_0 (t0 : Value) (H : Hp) (Q : RT1) : Prop :=
  q (Bin Tryz.prog H .neq 3 false t0 t0) fun t5_1 =>
  Q t5_1 H
theorem A160_0 {fr : Fr} {H : Hp} {Q : RT1} (h : F160_0 (fr 0) H Q) : xCode Tryz.prog 6 (bodyOf Tryz.f160) (xRet Tryz.prog [.tmp 2] Q) fr H :=
  Eq.mp (by kernel_rfl) h
theorem E160 {t0 : Value} {H : Hp} {Q : RT1} (h : F160_0 t0 H Q) : NCalls Tryz.prog 160 #[t0] H Q :=
  NCalls.ofBody (by kernel_rfl) Tryz.func160 (by kernel_rfl) (by kernel_rfl) (Eq.mp (by kernel_rfl) (A160_0 (fr := fun i => (#[t0] : Array Value).getD i undef) (H := H) (Q := Q) (Eq.mp (by kernel_rfl) h)))
def F162_2 (H : Hp) (Q : RT1) : Prop :=
  Q (Value.int IntKind.i64 (-1)) H
def F162_6 (t0 t1 t7 t8 : Value) (H : Hp) (R5 : RT4) (Q : RT1) : Prop :=
  q (Bin Tryz.prog H .lss 3 false t8 t7) fun t9_1 =>
  condV t9_1 (
    q (Ix 1 t0 t8) fun t14_2 =>
    q (Ld H t14_2) fun t15_3 =>
    q (Bin Tryz.prog H .eql 4 false t1 t15_3) fun t16_4 =>
    condV t16_4 (
      Q t8 H) (
      q (Bin Tryz.prog H .add 3 true t8 (Value.int IntKind.i64 1)) fun t18_5 =>
      R5 t0 t1 t7 t18_5 H)) (
    F162_2 H Q)
def F162_5 (t0 t1 t7 t8 : Value) (H : Hp) (Q : RT1) : Prop :=
  ∃ (I : RT1) (μ : Value → Hp → Nat), I t8 H ∧ ∀ n8 H1, I n8 H1 → F162_6 t0 t1 t7 n8 H1 (fun m0 m1 m7 m8 H2 => m0 = t0 ∧ m1 = t1 ∧ m7 = t7 ∧ (I m8 H2 ∧ μ m8 H2 < μ n8 H1)) Q
def F162_4 (t0 t1 t7 t8 : Value) (H : Hp) (Q : RT1) : Prop := F162_5 t0 t1 t7 t8 H Q
def F162_7 (t0 t1 : Value) (H : Hp) (Q : RT1) : Prop :=
  q (pv Tryz.prog (Builtin.len_ #[63] 0 #[t0])) fun t7_6 =>
  F162_4 t0 t1 t7_6 (Value.int IntKind.i64 0) H Q
def F162_3 (t0 t1 : Value) (H : Hp) (Q : RT1) : Prop := F162_7 t0 t1 H Q
def F162_1 (t0 t1 : Value) (H : Hp) (Q : RT1) : Prop := F162_3 t0 t1 H Q
def F162_8 (t0 t1 : Value) (H : Hp) (Q : RT1) : Prop :=
  F162_1 t0 t1 H Q
def F162_0 (t0 t1 : Value) (H : Hp) (Q : RT1) : Prop := F162_8 t0 t1 H Q
theorem A162_2 {fr : Fr} {H : Hp} {Q : RT1} (h : F162_2 H Q) : xCode Tryz.prog 19 (Code.r (Code.r (bodyOf Tryz.f162))) (xRet Tryz.prog [.tmp 4] Q) fr H :=
  Eq.mp (by kernel_rfl) h
abbrev K162_22 (Q : RT1) : QT := thenK (fun fr H => F162_2 H Q) (xRet Tryz.prog [.tmp 4] Q)
theorem A162_6 {fr : Fr} {H : Hp} {R5 : RT4} {Q : RT1} (h : F162_6 (fr 0) (fr 1) (fr 7) (fr 8) H R5 Q) : xCode Tryz.prog 19 (Code.l (Code.l (Code.r (Code.l (Code.r (bodyOf Tryz.f162)))))) (thenK (fun fr H => R5 (fr 0) (fr 1) (fr 7) (fr 8) H) (blockK 0 (K162_22 Q))) fr H :=
  Eq.mp (by kernel_rfl) h
theorem A162_5 {fr : Fr} {H : Hp} {Q : RT1} (h : F162_5 (fr 0) (fr 1) (fr 7) (fr 8) H Q) : xCode Tryz.prog 19 (Code.l (Code.r (Code.l (Code.r (bodyOf Tryz.f162))))) (blockK 0 (K162_22 Q)) fr H := by
  obtain ⟨I, μ, h0, hr⟩ := h
  refine loop_cut (a := (Code.l (Code.l (Code.r (Code.l (Code.r (bodyOf Tryz.f162))))))) (by kernel_rfl) (fun fr1 H1 => fr1 0 = fr 0 ∧ fr1 1 = fr 1 ∧ fr1 7 = fr 7 ∧ I (fr1 8) H1) (fun fr1 H1 => μ (fr1 8) H1) (by exact ⟨rfl, rfl, rfl, h0⟩) ?_
  intro fr1 H1 hI
  obtain ⟨hu0, hu1, hu7, hI⟩ := hI
  have hb := hr (fr1 8) H1 hI
  rw [← hu0] at hb; rw [← hu1] at hb; rw [← hu7] at hb
  refine ⟨_, ?_, A162_6 hb⟩
  intro fr2 H2 hj
  obtain ⟨ku0, ku1, ku7, hI2, hlt⟩ := hj
  exact ⟨⟨(ku0.trans hu0), (ku1.trans hu1), (ku7.trans hu7), hI2⟩, hlt⟩
theorem A162_4 {fr : Fr} {H : Hp} {Q : RT1} (h : F162_4 (fr 0) (fr 1) (fr 7) (fr 8) H Q) : xCode Tryz.prog 19 (Code.r (Code.l (Code.r (bodyOf Tryz.f162)))) (K162_22 Q) fr H :=
  block_cut (by kernel_rfl) (A162_5 h)
theorem A162_7 {fr : Fr} {H : Hp} {Q : RT1} (h : F162_7 (fr 0) (fr 1) H Q) : xCode Tryz.prog 19 (Code.l (Code.l (Code.r (bodyOf Tryz.f162)))) (thenK (fun fr H => F162_4 (fr 0) (fr 1) (fr 7) (fr 8) H Q) (K162_22 Q)) fr H :=
  Eq.mp (by kernel_rfl) h
theorem A162_3 {fr : Fr} {H : Hp} {Q : RT1} (h : F162_3 (fr 0) (fr 1) H Q) : xCode Tryz.prog 19 (Code.l (Code.r (bodyOf Tryz.f162))) (K162_22 Q) fr H :=
  seq_cut (by kernel_rfl) (fun _ _ h => A162_4 h) (A162_7 h)
theorem A162_1 {fr : Fr} {H : Hp} {Q : RT1} (h : F162_1 (fr 0) (fr 1) H Q) : xCode Tryz.prog 19 (Code.r (bodyOf Tryz.f162)) (xRet Tryz.prog [.tmp 4] Q) fr H :=
  seq_cut (by kernel_rfl) (fun _ _ h => A162_2 h) (A162_3 h)
theorem A162_8 {fr : Fr} {H : Hp} {Q : RT1} (h : F162_8 (fr 0) (fr 1) H Q) : xCode Tryz.prog 19 (Code.l (bodyOf Tryz.f162)) (thenK (fun fr H => F162_1 (fr 0) (fr 1) H Q) (xRet Tryz.prog [.tmp 4] Q)) fr H :=
  Eq.mp (by kernel_rfl) h
theorem A162_0 {fr : Fr} {H : Hp} {Q : RT1} (h : F162_0 (fr 0) (fr 1) H Q) : xCode Tryz.prog 19 (bodyOf Tryz.f162) (xRet Tryz.prog [.tmp 4] Q) fr H :=
  seq_cut (by kernel_rfl) (fun _ _ h => A162_1 h) (A162_8 h)
theorem E162 {t0 t1 : Value} {H : Hp} {Q : RT1} (h : F162_0 t0 t1 H Q) : NCalls Tryz.prog 162 #[t0, t1] H Q :=
  NCalls.ofBody (by kernel_rfl) Tryz.func162 (by kernel_rfl) (by kernel_rfl) (Eq.mp (by kernel_rfl) (A162_0 (fr := fun i => (#[t0, t1] : Array Value).getD i undef) (H := H) (Q := Q) (Eq.mp (by kernel_rfl) h)))
def F163_0 (t0 : Value) (H : Hp) (Q : RT1) : Prop :=
  q (Nz t0) fun t4_1 =>
  q (Fa 7 t4_1) fun t5_2 =>
  q (Ld H t5_2) fun t6_3 =>
  q (Bin Tryz.prog H .eql 3 true t6_3 (Value.int IntKind.i64 3)) fun t7_4 =>
  condV t7_4 (
    q (Nz t0) fun t9_5 =>
    q (Fa 8 t9_5) fun t10_6 =>
    Q t10_6 H) (
    q (Nz t0) fun t12_7 =>
    q (Fa 2 t12_7) fun t13_8 =>
    Q t13_8 H)
theorem A163_0 {fr : Fr} {H : Hp} {Q : RT1} (h : F163_0 (fr 0) H Q) : xCode Tryz.prog 14 (bodyOf Tryz.f163) (xRet Tryz.prog [.tmp 2] Q) fr H :=
  Eq.mp (by kernel_rfl) h
theorem E163 {t0 : Value} {H : Hp} {Q : RT1} (h : F163_0 t0 H Q) : NCalls Tryz.prog 163 #[t0] H Q :=
  NCalls.ofBody (by kernel_rfl) Tryz.func163 (by kernel_rfl) (by kernel_rfl) (Eq.mp (by kernel_rfl) (A163_0 (fr := fun i => (#[t0] : Array Value).getD i undef) (H := H) (Q := Q) (Eq.mp (by kernel_rfl) h)))
def F159_4 (t0 t2 : Value) (H : Hp) (Q : RT1) : Prop :=
  q (pv Tryz.prog (convert 223 5 t0)) fun t21_1 =>
  q (pv Tryz.prog (Instr.index 9 (Value.string { data := #[0, 1, 2, 2, 3, 3, 3, 3, 4, 4, 4, 4, 4, 4, 4, 4, 5, 5, 5, 5, 5, 5, 5, 5, 5, 5, 5, 5, 5, 5, 5, 5, 6, 6, 6, 6, 6, 6, 6, 6, 6, 6, 6, 6, 6, 6, 6, 6, 6, 6, 6, 6, 6, 6, 6, 6, 6, 6, 6, 6, 6, 6, 6, 6, 7, 7, 7, 7, 7, 7, 7, 7, 7, 7, 7, 7, 7, 7, 7, 7, 7, 7, 7, 7, 7, 7, 7, 7, 7, 7, 7, 7, 7, 7, 7, 7, 7, 7, 7, 7, 7, 7, 7, 7, 7, 7, 7, 7, 7, 7, 7, 7, 7, 7, 7, 7, 7, 7, 7, 7, 7, 7, 7, 7, 7, 7, 7, 7, 8, 8, 8, 8, 8, 8, 8, 8, 8, 8, 8, 8, 8, 8, 8, 8, 8, 8, 8, 8, 8, 8, 8, 8, 8, 8, 8, 8, 8, 8, 8, 8, 8, 8, 8, 8, 8, 8, 8, 8, 8, 8, 8, 8, 8, 8, 8, 8, 8, 8, 8, 8, 8, 8, 8, 8, 8, 8, 8, 8, 8, 8, 8, 8, 8, 8, 8, 8, 8, 8, 8, 8, 8, 8, 8, 8, 8, 8, 8, 8, 8, 8, 8, 8, 8, 8, 8, 8, 8, 8, 8, 8, 8, 8, 8, 8, 8, 8, 8, 8, 8, 8, 8, 8, 8, 8, 8, 8, 8, 8, 8, 8, 8, 8, 8, 8, 8, 8, 8, 8, 8, 8, 8, 8, 8, 8, 8, 8] }) t21_1)) fun t22_2 =>
  q (pv Tryz.prog (convert 5 3 t22_2)) fun t23_3 =>
  q (Bin Tryz.prog H .add 3 false t2 t23_3) fun t24_4 =>
  Q t24_4 H
def F159_5 (t0 t2 : Value) (H : Hp) (Q : RT1) : Prop :=
  q (Bin Tryz.prog H .geq 223 true t0 (Value.int IntKind.u64 256)) fun t14_5 =>
  condV t14_5 (
    q (Bin Tryz.prog H .shr 223 true t0 (Value.int IntKind.u64 8)) fun t16_6 =>
    q (Bin Tryz.prog H .add 3 true t2 (Value.int IntKind.i64 8)) fun t18_7 =>
    F159_4 t16_6 t18_7 H Q) (
    F159_4 t0 t2 H Q)
def F159_3 (t0 t2 : Value) (H : Hp) (Q : RT1) : Prop := F159_5 t0 t2 H Q
def F159_6 (t0 t2 : Value) (H : Hp) (Q : RT1) : Prop :=
  q (Bin Tryz.prog H .geq 223 true t0 (Value.int IntKind.u64 65536)) fun t8_8 =>
  condV t8_8 (
    q (Bin Tryz.prog H .shr 223 true t0 (Value.int IntKind.u64 16)) fun t10_9 =>
    q (Bin Tryz.prog H .add 3 true t2 (Value.int IntKind.i64 16)) fun t12_10 =>
    F159_3 t10_9 t12_10 H Q) (
    F159_3 t0 t2 H Q)
def F159_2 (t0 t2 : Value) (H : Hp) (Q : RT1) : Prop := F159_6 t0 t2 H Q
def F159_7 (t0 t2 : Value) (H : Hp) (Q : RT1) : Prop :=
  q (Bin Tryz.prog H .geq 223 true t0 (Value.int IntKind.u64 4294967296)) fun t4_11 =>
  condV t4_11 (
    q (Bin Tryz.prog H .shr 223 true t0 (Value.int IntKind.u64 32)) fun t6_12 =>
    F159_2 t6_12 (Value.int IntKind.i64 32) H Q) (
    F159_2 t0 t2 H Q)
def F159_1 (t0 t2 : Value) (H : Hp) (Q : RT1) : Prop := F159_7 t0 t2 H Q
def F159_8 (t0 : Value) (H : Hp) (Q : RT1) : Prop :=
  F159_1 t0 (Value.int IntKind.i64 0) H Q
def F159_0 (t0 : Value) (H : Hp) (Q : RT1) : Prop := F159_8 t0 H Q
theorem A159_4 {fr : Fr} {H : Hp} {Q : RT1} (h : F159_4 (fr 0) (fr 2) H Q) : xCode Tryz.prog 25 (Code.r (Code.r (Code.r (Code.r (bodyOf Tryz.f159))))) (xRet Tryz.prog [.tmp 2] Q) fr H :=
  Eq.mp (by kernel_rfl) h
theorem A159_5 {fr : Fr} {H : Hp} {Q : RT1} (h : F159_5 (fr 0) (fr 2) H Q) : xCode Tryz.prog 25 (Code.l (Code.r (Code.r (Code.r (bodyOf Tryz.f159))))) (thenK (fun fr H => F159_4 (fr 0) (fr 2) H Q) (xRet Tryz.prog [.tmp 2] Q)) fr H :=
  Eq.mp (by kernel_rfl) h
theorem A159_3 {fr : Fr} {H : Hp} {Q : RT1} (h : F159_3 (fr 0) (fr 2) H Q) : xCode Tryz.prog 25 (Code.r (Code.r (Code.r (bodyOf Tryz.f159)))) (xRet Tryz.prog [.tmp 2] Q) fr H :=
  seq_cut (by kernel_rfl) (fun _ _ h => A159_4 h) (A159_5 h)
theorem A159_6 {fr : Fr} {H : Hp} {Q : RT1} (h : F159_6 (fr 0) (fr 2) H Q) : xCode Tryz.prog 25 (Code.l (Code.r (Code.r (bodyOf Tryz.f159)))) (thenK (fun fr H => F159_3 (fr 0) (fr 2) H Q) (xRet Tryz.prog [.tmp 2] Q)) fr H :=
  Eq.mp (by kernel_rfl) h
theorem A159_2 {fr : Fr} {H : Hp} {Q : RT1} (h : F159_2 (fr 0) (fr 2) H Q) : xCode Tryz.prog 25 (Code.r (Code.r (bodyOf Tryz.f159))) (xRet Tryz.prog [.tmp 2] Q) fr H :=
  seq_cut (by kernel_rfl) (fun _ _ h => A159_3 h) (A159_6 h)
theorem A159_7 {fr : Fr} {H : Hp} {Q : RT1} (h : F159_7 (fr 0) (fr 2) H Q) : xCode Tryz.prog 25 (Code.l (Code.r (bodyOf Tryz.f159))) (thenK (fun fr H => F159_2 (fr 0) (fr 2) H Q) (xRet Tryz.prog [.tmp 2] Q)) fr H :=
  Eq.mp (by kernel_rfl) h
theorem A159_1 {fr : Fr} {H : Hp} {Q : RT1} (h : F159_1 (fr 0) (fr 2) H Q) : xCode Tryz.prog 25 (Code.r (bodyOf Tryz.f159)) (xRet Tryz.prog [.tmp 2] Q) fr H :=
  seq_cut (by kernel_rfl) (fun _ _ h => A159_2 h) (A159_7 h)
theorem A159_8 {fr : Fr} {H : Hp} {Q : RT1} (h : F159_8 (fr 0) H Q) : xCode Tryz.prog 25 (Code.l (bodyOf Tryz.f159)) (thenK (fun fr H => F159_1 (fr 0) (fr 2) H Q) (xRet Tryz.prog [.tmp 2] Q)) fr H :=
  Eq.mp (by kernel_rfl) h
theorem A159_0 {fr : Fr} {H : Hp} {Q : RT1} (h : F159_0 (fr 0) H Q) : xCode Tryz.prog 25 (bodyOf Tryz.f159) (xRet Tryz.prog [.tmp 2] Q) fr H :=
  seq_cut (by kernel_rfl) (fun _ _ h => A159_1 h) (A159_8 h)
theorem E159 {t0 : Value} {H : Hp} {Q : RT1} (h : F159_0 t0 H Q) : NCalls Tryz.prog 159 #[t0] H Q :=
  NCalls.ofBody (by kernel_rfl) Tryz.func159 (by kernel_rfl) (by kernel_rfl) (Eq.mp (by kernel_rfl) (A159_0 (fr := fun i => (#[t0] : Array Value).getD i undef) (H := H) (Q := Q) (Eq.mp (by kernel_rfl) h)))
end YtacidjifocfhkaaGreatDoor
end Go.Proofs
namespace Go.NW
open Go
@[simp] theorem q_some (v : Value) (K : Value → Prop) : q (some v) K = K v := rfl
@[simp] theorem Nz_some (a : Addr) : Nz (.pointer (some a)) = some (.pointer (some a)) := rfl
@[simp] theorem add_mk (b o n : Nat) : Addr.add ⟨b, o, none⟩ n = ⟨b, o + n, none⟩ := by unfold Addr.add; split <;> simp_all
@[simp] theorem Fa_some (n : Nat) (a : Addr) : Fa n (.pointer (some a)) = some (.pointer (some (a.add n))) := rfl
@[simp] theorem Pk_bool (b : Bool) (x y : Value) : Pk (.bool b) x y = some (if b then x else y) := rfl
@[simp] theorem Ex_tuple (i : Nat) (vs : Array Value) : Ex i (.tuple vs) = vs[i]? := rfl
@[simp] theorem gd_bool (b w : Bool) (e : Option Value) : gd (.bool b) w e = if b = w then e else some undef := rfl
@[simp] theorem gd_undef (w : Bool) (e : Option Value) : gd undef w e = some undef := rfl
@[simp] theorem gl_bool (b w : Bool) (run : (RT1) → Prop) (H : Hp) (K : RT1) : gl (.bool b) w run H K = if b = w then run K else K undef H := rfl
@[simp] theorem gl_undef (w : Bool) (run : (RT1) → Prop) (H : Hp) (K : RT1) : gl undef w run H K = K undef H := rfl
@[simp] theorem condV_bool (c : Bool) (A B : Prop) : condV (.bool c) A B = if c then A else B := rfl
@[simp] theorem Ld_some (H : Hp) (a : Addr) : Ld H (.pointer (some a)) = cellAt H a := rfl
@[simp] theorem LdA_some (n : Nat) (H : Hp) (a : Addr) : LdA n H (.pointer (some a)) = (cellsAt H a n).map .agg := rfl
@[simp] theorem cells_agg (c : Array Value) : Value.cells (.agg c) = c := rfl
@[simp] theorem cells_int (k : IntKind) (n : Int) : Value.cells (.int k n) = #[.int k n] := rfl
@[simp] theorem cells_bool (b : Bool) : Value.cells (.bool b) = #[.bool b] := rfl
@[simp] theorem cells_ptr (o : Option Addr) : Value.cells (.pointer o) = #[.pointer o] := rfl
@[simp] theorem cells_slice (o : Option Addr) (n c : Nat) : Value.cells (.slice o n c) = #[.slice o n c] := rfl
@[simp] theorem cells_map (o : Option Nat) : Value.cells (.map o) = #[.map o] := rfl
@[simp] theorem cells_iface (t : TypeId) (v : Value) : Value.cells (.iface t v) = #[.iface t v] := rfl
@[simp] theorem cells_nilIface : Value.cells .nilIface = #[.nilIface] := rfl
@[simp] theorem one_int (k : IntKind) (n : Int) : one (.int k n) = true := rfl
@[simp] theorem one_bool (b : Bool) : one (.bool b) = true := rfl
@[simp] theorem one_ptr (o : Option Addr) : one (.pointer o) = true := rfl
@[simp] theorem one_slice (o : Option Addr) (n c : Nat) : one (.slice o n c) = true := rfl
@[simp] theorem one_map (o : Option Nat) : one (.map o) = true := rfl
@[simp] theorem one_iface (t : TypeId) (v : Value) : one (.iface t v) = true := rfl
@[simp] theorem one_nilIface : one .nilIface = true := rfl
/-- block b is a row of these cells, and may be written -/
def blk (H : Hp) (b : Nat) (c : Array Value) : Prop := ∃ T, H[b]? = some (.cells c T (0, 0))
/-- nothing that was there has turned, but these -/
structure Ext (S : List Nat) (H H' : Hp) : Prop where
  size : H.size ≤ H'.size
  same : ∀ i, i < H.size → i ∉ S → H'[i]? = H[i]?
theorem Ext.refl (S : List Nat) (H : Hp) : Ext S H H := ⟨Nat.le_refl _, fun _ _ _ => rfl⟩
theorem Ext.trans {S : List Nat} {A B C : Hp} (h : Ext S A B) (k : Ext S B C) : Ext S A C :=
  ⟨Nat.le_trans h.size k.size, fun i hi hn => (k.same i (Nat.lt_of_lt_of_le hi h.size) hn).trans (h.same i hi hn)⟩
theorem Ext.mono {S S' : List Nat} {A B : Hp} (h : Ext S A B) (hs : ∀ i ∈ S, i ∈ S') : Ext S' A B :=
  ⟨h.size, fun i hi hn => h.same i hi fun hm => hn (hs i hm)⟩
/-- what was written lay beyond -/
theorem Ext.fresh {S S' : List Nat} {A B C : Hp} (h : Ext S' A B) (k : Ext S B C) (hs : ∀ i ∈ S, i ∈ S' ∨ A.size ≤ i) : Ext S' A C :=
  ⟨Nat.le_trans h.size k.size, fun i hi hn => (k.same i (Nat.lt_of_lt_of_le hi h.size) fun hm => by rcases hs i hm with h' | h'; exact hn h'; omega).trans (h.same i hi hn)⟩
theorem get_lt {H : Hp} {b : Nat} {o : Obj} (h : H[b]? = some o) : b < H.size := by
  rcases Nat.lt_or_ge b H.size with h' | h'
  · exact h'
  · simp [Array.getElem?_eq_none h'] at h
theorem blk.lt {H : Hp} {b : Nat} {c : Array Value} (h : blk H b c) : b < H.size := by obtain ⟨T, h⟩ := h; exact get_lt h
theorem blk.ext {S : List Nat} {H H' : Hp} {b : Nat} {c : Array Value} (h : blk H b c) (e : Ext S H H') (hn : b ∉ S) : blk H' b c := by
  have hl := h.lt
  obtain ⟨T, h⟩ := h
  exact ⟨T, (e.same b hl hn).trans h⟩
theorem blk.cell {H : Hp} {b : Nat} {c : Array Value} (h : blk H b c) (o : Nat) : cellAt H ⟨b, o, none⟩ = c[o]? := by
  obtain ⟨T, h⟩ := h; simp [cellAt, h]
theorem blk.cells {H : Hp} {b : Nat} {c : Array Value} (h : blk H b c) (o n : Nat) : cellsAt H ⟨b, o, none⟩ n = if o + n ≤ c.size then some (c.extract o (o + n)) else none := by
  obtain ⟨T, h⟩ := h; simp [cellsAt, h]
theorem Ext.push (H : Hp) (o : Obj) : Ext [] H (H.push o) :=
  ⟨by simp, fun i hi _ => by rw [Array.getElem?_push, if_neg (by omega)]⟩
theorem New_i {cells : Array Value} {T : TypeId} {H : Hp} {K : RT1}
    (h : ∀ H' b, b = H.size → Ext [] H H' → H'.size = H.size + 1 → blk H' b cells → K (.pointer (some ⟨b, 0, none⟩)) H') : New cells T H K :=
  h _ _ rfl (.push H _) (by simp) ⟨T, by simp⟩
theorem St_i {n : Nat} {H : Hp} {b o : Nat} {x : Value} {K : Hp → Prop} {c : Array Value} (hb : blk H b c) (hn : x.cells.size = n) (ho : o + n ≤ c.size) (h1 : x.cells.toList.all one = true)
    (h : ∀ H', Ext [b] H H' → H'.size = H.size → blk H' b (wrL c o x.cells.toList) → K H') : St n H (.pointer (some ⟨b, o, none⟩)) x K := by
  obtain ⟨T, hb'⟩ := hb
  have hlt := get_lt hb'
  have hbeq : Nat.beq x.cells.size n = true := by rw [hn]; simp
  simp only [St, putAt, hb', hbeq, ho, h1, Option.isNone_none, decide_true, Bool.and_self, if_true]
  refine h _ ⟨by simp, ?_⟩ (by simp) ⟨T, ?_⟩
  · intro i hi hni
    simp only [List.mem_cons, List.not_mem_nil, or_false] at hni
    rw [Array.getElem?_setIfInBounds, if_neg (fun e => hni e.symm)]
  · rw [Array.getElem?_setIfInBounds]; simp [hlt]
theorem Bsl_i {zero : Array Value} {size e len : Nat} {parts : List (Nat × Value)} {H : Hp} {K : RT1} {cells : Array Value} (hc : bslCells zero size len parts = some cells)
    (h : ∀ H' b, b = H.size → Ext [] H H' → H'.size = H.size + 1 → blk H' b cells → K (.slice (some ⟨b, 0, none⟩) len len) H') : Bsl zero size e len parts H K := by
  unfold Bsl
  rw [hc]
  exact h _ _ rfl (.push H _) (by simp) ⟨e, by simp⟩
end Go.NW
namespace Go.Proofs
open Go Go.NW
set_option maxRecDepth 100000
namespace YtacidjifocfhkaaGreatDoor
@[simp] theorem Bin_add_3 (H : Hp) (l : Bool) (a b : Int) : Bin Tryz.prog H .add 3 l (.int .i64 a) (.int .i64 b) = some (.int .i64 (IntKind.wrap .i64 (a + b))) := by kernel_rfl
@[simp] theorem Bin_add_40 (H : Hp) (l : Bool) (a b : Int) : Bin Tryz.prog H .add 40 l (.int .u32 a) (.int .u32 b) = some (.int .u32 (IntKind.wrap .u32 (a + b))) := by kernel_rfl
@[simp] theorem Bin_and_3 (H : Hp) (l : Bool) (a b : Int) : Bin Tryz.prog H .and 3 l (.int .i64 a) (.int .i64 b) = some (.int .i64 (IntKind.wrap .i64 ((BitVec.ofInt (IntKind.bits .i64) a &&& BitVec.ofInt (IntKind.bits .i64) b).toNat : Nat))) := by kernel_rfl
@[simp] theorem Bin_and_40 (H : Hp) (l : Bool) (a b : Int) : Bin Tryz.prog H .and 40 l (.int .u32 a) (.int .u32 b) = some (.int .u32 (IntKind.wrap .u32 ((BitVec.ofInt (IntKind.bits .u32) a &&& BitVec.ofInt (IntKind.bits .u32) b).toNat : Nat))) := by kernel_rfl
@[simp] theorem Bin_andNot_40 (H : Hp) (l : Bool) (a b : Int) : Bin Tryz.prog H .andNot 40 l (.int .u32 a) (.int .u32 b) = some (.int .u32 (IntKind.wrap .u32 ((BitVec.ofInt (IntKind.bits .u32) a &&& ~~~ BitVec.ofInt (IntKind.bits .u32) b).toNat : Nat))) := by kernel_rfl
@[simp] theorem Bin_eql_111 (H : Hp) (l : Bool) (a : Option Addr) : Bin Tryz.prog H .eql 111 l (.pointer a) (.pointer none) = some (.bool (a.isNone)) := by cases a <;> kernel_rfl
@[simp] theorem Bin_eql_153 (H : Hp) (l : Bool) (a : Option Addr) (n c : Nat) : Bin Tryz.prog H .eql 153 l (.slice a n c) (.slice none 0 0) = some (.bool (a.isNone)) := by cases a <;> kernel_rfl
@[simp] theorem Bin_eql_168 (H : Hp) (l : Bool) (a : Option Addr) : Bin Tryz.prog H .eql 168 l (.pointer a) (.pointer none) = some (.bool (a.isNone)) := by cases a <;> kernel_rfl
@[simp] theorem Bin_eql_216 (H : Hp) (l : Bool) (a b : Int) : Bin Tryz.prog H .eql 216 l (.int .i64 a) (.int .i64 b) = some (.bool ((a == b))) := by kernel_rfl
@[simp] theorem Bin_eql_26_nil (H : Hp) : Bin Tryz.prog H .eql 26 true .nilIface .nilIface = some (.bool true) := by kernel_rfl
@[simp] theorem Bin_eql_26_some (H : Hp) (l : Bool) (t : TypeId) (v : Value) : Bin Tryz.prog H .eql 26 l (.iface t v) .nilIface = some (.bool false) := by kernel_rfl
@[simp] theorem Bin_eql_3 (H : Hp) (l : Bool) (a b : Int) : Bin Tryz.prog H .eql 3 l (.int .i64 a) (.int .i64 b) = some (.bool ((a == b))) := by kernel_rfl
@[simp] theorem Bin_eql_30 (H : Hp) (l : Bool) (a : Option Addr) : Bin Tryz.prog H .eql 30 l (.pointer a) (.pointer none) = some (.bool (a.isNone)) := by cases a <;> kernel_rfl
@[simp] theorem Bin_eql_33 (H : Hp) (l : Bool) (a : Option Addr) : Bin Tryz.prog H .eql 33 l (.pointer a) (.pointer none) = some (.bool (a.isNone)) := by cases a <;> kernel_rfl
@[simp] theorem Bin_eql_38 (H : Hp) (l : Bool) (a : Option Addr) (n c : Nat) : Bin Tryz.prog H .eql 38 l (.slice a n c) (.slice none 0 0) = some (.bool (a.isNone)) := by cases a <;> kernel_rfl
@[simp] theorem Bin_eql_4 (H : Hp) (l : Bool) (a b : Bool) : Bin Tryz.prog H .eql 4 l (.bool a) (.bool b) = some (.bool ((a == b))) := by kernel_rfl
@[simp] theorem Bin_eql_40 (H : Hp) (l : Bool) (a b : Int) : Bin Tryz.prog H .eql 40 l (.int .u32 a) (.int .u32 b) = some (.bool ((a == b))) := by kernel_rfl
@[simp] theorem Bin_eql_63 (H : Hp) (l : Bool) (a : Option Addr) (n c : Nat) : Bin Tryz.prog H .eql 63 l (.slice a n c) (.slice none 0 0) = some (.bool (a.isNone)) := by cases a <;> kernel_rfl
@[simp] theorem Bin_eql_81 (H : Hp) (l : Bool) (a : Option Addr) (n c : Nat) : Bin Tryz.prog H .eql 81 l (.slice a n c) (.slice none 0 0) = some (.bool (a.isNone)) := by cases a <;> kernel_rfl
@[simp] theorem Bin_geq_223 (H : Hp) (l : Bool) (a b : Int) : Bin Tryz.prog H .geq 223 l (.int .u64 a) (.int .u64 b) = some (.bool (decide (a ≥ b))) := by kernel_rfl
@[simp] theorem Bin_geq_3 (H : Hp) (l : Bool) (a b : Int) : Bin Tryz.prog H .geq 3 l (.int .i64 a) (.int .i64 b) = some (.bool (decide (a ≥ b))) := by kernel_rfl
@[simp] theorem Bin_geq_40 (H : Hp) (l : Bool) (a b : Int) : Bin Tryz.prog H .geq 40 l (.int .u32 a) (.int .u32 b) = some (.bool (decide (a ≥ b))) := by kernel_rfl
@[simp] theorem Bin_gtr_3 (H : Hp) (l : Bool) (a b : Int) : Bin Tryz.prog H .gtr 3 l (.int .i64 a) (.int .i64 b) = some (.bool (decide (a > b))) := by kernel_rfl
@[simp] theorem Bin_leq_3 (H : Hp) (l : Bool) (a b : Int) : Bin Tryz.prog H .leq 3 l (.int .i64 a) (.int .i64 b) = some (.bool (decide (a ≤ b))) := by kernel_rfl
@[simp] theorem Bin_lss_3 (H : Hp) (l : Bool) (a b : Int) : Bin Tryz.prog H .lss 3 l (.int .i64 a) (.int .i64 b) = some (.bool (decide (a < b))) := by kernel_rfl
@[simp] theorem Bin_mul_3 (H : Hp) (l : Bool) (a b : Int) : Bin Tryz.prog H .mul 3 l (.int .i64 a) (.int .i64 b) = some (.int .i64 (IntKind.wrap .i64 (a * b))) := by kernel_rfl
@[simp] theorem Bin_mul_40 (H : Hp) (l : Bool) (a b : Int) : Bin Tryz.prog H .mul 40 l (.int .u32 a) (.int .u32 b) = some (.int .u32 (IntKind.wrap .u32 (a * b))) := by kernel_rfl
@[simp] theorem Bin_neq_111 (H : Hp) (l : Bool) (a : Option Addr) : Bin Tryz.prog H .neq 111 l (.pointer a) (.pointer none) = some (.bool (!a.isNone)) := by cases a <;> kernel_rfl
@[simp] theorem Bin_neq_26_nil (H : Hp) : Bin Tryz.prog H .neq 26 true .nilIface .nilIface = some (.bool false) := by kernel_rfl
@[simp] theorem Bin_neq_26_some (H : Hp) (l : Bool) (t : TypeId) (v : Value) : Bin Tryz.prog H .neq 26 l (.iface t v) .nilIface = some (.bool true) := by kernel_rfl
@[simp] theorem Bin_neq_3 (H : Hp) (l : Bool) (a b : Int) : Bin Tryz.prog H .neq 3 l (.int .i64 a) (.int .i64 b) = some (.bool ((a != b))) := by kernel_rfl
@[simp] theorem Bin_neq_33 (H : Hp) (l : Bool) (a : Option Addr) : Bin Tryz.prog H .neq 33 l (.pointer a) (.pointer none) = some (.bool (!a.isNone)) := by cases a <;> kernel_rfl
@[simp] theorem Bin_neq_4 (H : Hp) (l : Bool) (a b : Bool) : Bin Tryz.prog H .neq 4 l (.bool a) (.bool b) = some (.bool (!(a == b))) := by kernel_rfl
@[simp] theorem Bin_neq_40 (H : Hp) (l : Bool) (a b : Int) : Bin Tryz.prog H .neq 40 l (.int .u32 a) (.int .u32 b) = some (.bool ((a != b))) := by kernel_rfl
@[simp] theorem Bin_neq_5 (H : Hp) (l : Bool) (a b : Int) : Bin Tryz.prog H .neq 5 l (.int .u8 a) (.int .u8 b) = some (.bool ((a != b))) := by kernel_rfl
@[simp] theorem Bin_or_40 (H : Hp) (l : Bool) (a b : Int) : Bin Tryz.prog H .or 40 l (.int .u32 a) (.int .u32 b) = some (.int .u32 (IntKind.wrap .u32 ((BitVec.ofInt (IntKind.bits .u32) a ||| BitVec.ofInt (IntKind.bits .u32) b).toNat : Nat))) := by kernel_rfl
theorem Bin_quo_3 (H : Hp) (l : Bool) (a b : Int) (hb : b ≠ 0) : Bin Tryz.prog H .quo 3 l (.int .i64 a) (.int .i64 b) = some (.int .i64 (IntKind.wrap .i64 (a.tdiv b))) :=
  (by kernel_rfl : Bin Tryz.prog H .quo 3 l (.int .i64 a) (.int .i64 b) = pv Tryz.prog (Op.intDiv .quo .i64 a b)).trans (by unfold Op.intDiv; rw [if_neg hb]; rfl)
theorem Bin_quo_40 (H : Hp) (l : Bool) (a b : Int) (hb : b ≠ 0) : Bin Tryz.prog H .quo 40 l (.int .u32 a) (.int .u32 b) = some (.int .u32 (IntKind.wrap .u32 (a.tdiv b))) :=
  (by kernel_rfl : Bin Tryz.prog H .quo 40 l (.int .u32 a) (.int .u32 b) = pv Tryz.prog (Op.intDiv .quo .u32 a b)).trans (by unfold Op.intDiv; rw [if_neg hb]; rfl)
theorem Bin_rem_3 (H : Hp) (l : Bool) (a b : Int) (hb : b ≠ 0) : Bin Tryz.prog H .rem 3 l (.int .i64 a) (.int .i64 b) = some (.int .i64 (a.tmod b)) :=
  (by kernel_rfl : Bin Tryz.prog H .rem 3 l (.int .i64 a) (.int .i64 b) = pv Tryz.prog (Op.intDiv .rem .i64 a b)).trans (by unfold Op.intDiv; rw [if_neg hb]; rfl)
theorem Bin_rem_40 (H : Hp) (l : Bool) (a b : Int) (hb : b ≠ 0) : Bin Tryz.prog H .rem 40 l (.int .u32 a) (.int .u32 b) = some (.int .u32 (a.tmod b)) :=
  (by kernel_rfl : Bin Tryz.prog H .rem 40 l (.int .u32 a) (.int .u32 b) = pv Tryz.prog (Op.intDiv .rem .u32 a b)).trans (by unfold Op.intDiv; rw [if_neg hb]; rfl)
theorem Bin_shl_130_i64 (H : Hp) (l : Bool) (a b : Int) (hb : 0 ≤ b) : Bin Tryz.prog H .shl 130 l (.int .u64 a) (.int .i64 b) = some (.int .u64 (IntKind.wrap .u64 (a * 2 ^ (min b.toNat (IntKind.bits .u64))))) :=
  (by kernel_rfl : Bin Tryz.prog H .shl 130 l (.int .u64 a) (.int .i64 b) = pv Tryz.prog (Op.shift .shl .u64 a .i64 b)).trans (by unfold Op.shift; rw [if_neg (by omega)]; rfl)
theorem Bin_shl_3_u64 (H : Hp) (l : Bool) (a b : Int) (hb : 0 ≤ b) : Bin Tryz.prog H .shl 3 l (.int .i64 a) (.int .u64 b) = some (.int .i64 (IntKind.wrap .i64 (a * 2 ^ (min b.toNat (IntKind.bits .i64))))) :=
  (by kernel_rfl : Bin Tryz.prog H .shl 3 l (.int .i64 a) (.int .u64 b) = pv Tryz.prog (Op.shift .shl .i64 a .u64 b)).trans (by unfold Op.shift; rw [if_neg (by omega)]; rfl)
theorem Bin_shl_40_i64 (H : Hp) (l : Bool) (a b : Int) (hb : 0 ≤ b) : Bin Tryz.prog H .shl 40 l (.int .u32 a) (.int .i64 b) = some (.int .u32 (IntKind.wrap .u32 (a * 2 ^ (min b.toNat (IntKind.bits .u32))))) :=
  (by kernel_rfl : Bin Tryz.prog H .shl 40 l (.int .u32 a) (.int .i64 b) = pv Tryz.prog (Op.shift .shl .u32 a .i64 b)).trans (by unfold Op.shift; rw [if_neg (by omega)]; rfl)
theorem Bin_shl_40_u32 (H : Hp) (l : Bool) (a b : Int) (hb : 0 ≤ b) : Bin Tryz.prog H .shl 40 l (.int .u32 a) (.int .u32 b) = some (.int .u32 (IntKind.wrap .u32 (a * 2 ^ (min b.toNat (IntKind.bits .u32))))) :=
  (by kernel_rfl : Bin Tryz.prog H .shl 40 l (.int .u32 a) (.int .u32 b) = pv Tryz.prog (Op.shift .shl .u32 a .u32 b)).trans (by unfold Op.shift; rw [if_neg (by omega)]; rfl)
theorem Bin_shr_130_u64 (H : Hp) (l : Bool) (a b : Int) (hb : 0 ≤ b) : Bin Tryz.prog H .shr 130 l (.int .u64 a) (.int .u64 b) = some (.int .u64 (a.fdiv (2 ^ (min b.toNat (IntKind.bits .u64))))) :=
  (by kernel_rfl : Bin Tryz.prog H .shr 130 l (.int .u64 a) (.int .u64 b) = pv Tryz.prog (Op.shift .shr .u64 a .u64 b)).trans (by unfold Op.shift; rw [if_neg (by omega)]; rfl)
theorem Bin_shr_40_i64 (H : Hp) (l : Bool) (a b : Int) (hb : 0 ≤ b) : Bin Tryz.prog H .shr 40 l (.int .u32 a) (.int .i64 b) = some (.int .u32 (a.fdiv (2 ^ (min b.toNat (IntKind.bits .u32))))) :=
  (by kernel_rfl : Bin Tryz.prog H .shr 40 l (.int .u32 a) (.int .i64 b) = pv Tryz.prog (Op.shift .shr .u32 a .i64 b)).trans (by unfold Op.shift; rw [if_neg (by omega)]; rfl)
theorem Bin_shr_40_u32 (H : Hp) (l : Bool) (a b : Int) (hb : 0 ≤ b) : Bin Tryz.prog H .shr 40 l (.int .u32 a) (.int .u32 b) = some (.int .u32 (a.fdiv (2 ^ (min b.toNat (IntKind.bits .u32))))) :=
  (by kernel_rfl : Bin Tryz.prog H .shr 40 l (.int .u32 a) (.int .u32 b) = pv Tryz.prog (Op.shift .shr .u32 a .u32 b)).trans (by unfold Op.shift; rw [if_neg (by omega)]; rfl)
@[simp] theorem Bin_sub_3 (H : Hp) (l : Bool) (a b : Int) : Bin Tryz.prog H .sub 3 l (.int .i64 a) (.int .i64 b) = some (.int .i64 (IntKind.wrap .i64 (a - b))) := by kernel_rfl
@[simp] theorem Bin_sub_40 (H : Hp) (l : Bool) (a b : Int) : Bin Tryz.prog H .sub 40 l (.int .u32 a) (.int .u32 b) = some (.int .u32 (IntKind.wrap .u32 (a - b))) := by kernel_rfl
@[simp] theorem cv_130_3 (a : Int) : pv Tryz.prog (convert 130 3 (.int .u64 a)) = some (.int .i64 (IntKind.wrap .i64 a)) := by kernel_rfl
@[simp] theorem cv_130_40 (a : Int) : pv Tryz.prog (convert 130 40 (.int .u64 a)) = some (.int .u32 (IntKind.wrap .u32 a)) := by kernel_rfl
@[simp] theorem cv_223_5 (a : Int) : pv Tryz.prog (convert 223 5 (.int .u64 a)) = some (.int .u8 (IntKind.wrap .u8 a)) := by kernel_rfl
@[simp] theorem cv_3_130 (a : Int) : pv Tryz.prog (convert 3 130 (.int .i64 a)) = some (.int .u64 (IntKind.wrap .u64 a)) := by kernel_rfl
@[simp] theorem cv_3_40 (a : Int) : pv Tryz.prog (convert 3 40 (.int .i64 a)) = some (.int .u32 (IntKind.wrap .u32 a)) := by kernel_rfl
@[simp] theorem cv_40_3 (a : Int) : pv Tryz.prog (convert 40 3 (.int .u32 a)) = some (.int .i64 (IntKind.wrap .i64 a)) := by kernel_rfl
@[simp] theorem cv_40_5 (a : Int) : pv Tryz.prog (convert 40 5 (.int .u32 a)) = some (.int .u8 (IntKind.wrap .u8 a)) := by kernel_rfl
@[simp] theorem cv_5_3 (a : Int) : pv Tryz.prog (convert 5 3 (.int .u8 a)) = some (.int .i64 (IntKind.wrap .i64 a)) := by kernel_rfl
@[simp] theorem cv_5_40 (a : Int) : pv Tryz.prog (convert 5 40 (.int .u8 a)) = some (.int .u32 (IntKind.wrap .u32 a)) := by kernel_rfl
@[simp] theorem cap_153 (a : Option Addr) (n c : Nat) : pv Tryz.prog (Builtin.cap_ #[153] 0 #[.slice a n c]) = some (.int .i64 c) := by kernel_rfl
@[simp] theorem cap_38 (a : Option Addr) (n c : Nat) : pv Tryz.prog (Builtin.cap_ #[38] 0 #[.slice a n c]) = some (.int .i64 c) := by kernel_rfl
@[simp] theorem cap_49 (a : Option Addr) (n c : Nat) : pv Tryz.prog (Builtin.cap_ #[49] 0 #[.slice a n c]) = some (.int .i64 c) := by kernel_rfl
@[simp] theorem len_117 (a : Option Addr) (n c : Nat) : pv Tryz.prog (Builtin.len_ #[117] 0 #[.slice a n c]) = some (.int .i64 n) := by kernel_rfl
@[simp] theorem len_141 (a : Option Addr) (n c : Nat) : pv Tryz.prog (Builtin.len_ #[141] 0 #[.slice a n c]) = some (.int .i64 n) := by kernel_rfl
@[simp] theorem len_153 (a : Option Addr) (n c : Nat) : pv Tryz.prog (Builtin.len_ #[153] 0 #[.slice a n c]) = some (.int .i64 n) := by kernel_rfl
@[simp] theorem len_209 (a : Option Addr) (n c : Nat) : pv Tryz.prog (Builtin.len_ #[209] 0 #[.slice a n c]) = some (.int .i64 n) := by kernel_rfl
@[simp] theorem len_212 (a : Option Addr) (n c : Nat) : pv Tryz.prog (Builtin.len_ #[212] 0 #[.slice a n c]) = some (.int .i64 n) := by kernel_rfl
@[simp] theorem len_38 (a : Option Addr) (n c : Nat) : pv Tryz.prog (Builtin.len_ #[38] 0 #[.slice a n c]) = some (.int .i64 n) := by kernel_rfl
@[simp] theorem len_48 (a : Option Addr) (n c : Nat) : pv Tryz.prog (Builtin.len_ #[48] 0 #[.slice a n c]) = some (.int .i64 n) := by kernel_rfl
@[simp] theorem len_49 (a : Option Addr) (n c : Nat) : pv Tryz.prog (Builtin.len_ #[49] 0 #[.slice a n c]) = some (.int .i64 n) := by kernel_rfl
@[simp] theorem len_50 (a : Option Addr) (n c : Nat) : pv Tryz.prog (Builtin.len_ #[50] 0 #[.slice a n c]) = some (.int .i64 n) := by kernel_rfl
@[simp] theorem len_58 (a : Option Addr) (n c : Nat) : pv Tryz.prog (Builtin.len_ #[58] 0 #[.slice a n c]) = some (.int .i64 n) := by kernel_rfl
@[simp] theorem len_63 (a : Option Addr) (n c : Nat) : pv Tryz.prog (Builtin.len_ #[63] 0 #[.slice a n c]) = some (.int .i64 n) := by kernel_rfl
@[simp] theorem len_81 (a : Option Addr) (n c : Nat) : pv Tryz.prog (Builtin.len_ #[81] 0 #[.slice a n c]) = some (.int .i64 n) := by kernel_rfl
@[simp] theorem len_95 (a : Option Addr) (n c : Nat) : pv Tryz.prog (Builtin.len_ #[95] 0 #[.slice a n c]) = some (.int .i64 n) := by kernel_rfl
@[simp] theorem len_97 (a : Option Addr) (n c : Nat) : pv Tryz.prog (Builtin.len_ #[97] 0 #[.slice a n c]) = some (.int .i64 n) := by kernel_rfl
@[simp] theorem un_not (a : Bool) : pv Tryz.prog (Op.unary .not (.bool a)) = some (.bool !a) := by kernel_rfl
@[simp] theorem mi_168 (v : Value) : pv Tryz.prog (Instr.makeInterface 168 v) = some (.iface 168 v) := by kernel_rfl
@[simp] theorem mi_9 (v : Value) : pv Tryz.prog (Instr.makeInterface 9 v) = some (.iface 9 v) := by kernel_rfl
@[simp] theorem max_3 (a b : Int) : pv Tryz.prog (Builtin.max_ #[3, 3] 0 #[.int .i64 a, .int .i64 b]) = some (.int .i64 (if b > a then b else a)) := by kernel_rfl
@[simp] theorem bld_23_0_1_2_3 (x0 : Int) (x1 : Int) (x2 : Int) (x3 : Int) : pv Tryz.prog (Instr.build 23 #[(0, (.int .i64 x0)), (1, (.int .i64 x1)), (2, (.int .i64 x2)), (3, (.int .i64 x3))]) = some (.agg #[(.int .i64 x0), (.int .i64 x1), (.int .i64 x2), (.int .i64 x3)]) := by kernel_rfl
@[simp] theorem bld_93_0 (x0 : Option Addr) (x0n x0c : Nat) : pv Tryz.prog (Instr.build 93 #[(0, (.slice x0 x0n x0c))]) = some (.agg #[(.slice x0 x0n x0c)]) := by kernel_rfl
@[simp] theorem bld_105_0_1 (x0 : Option Addr) (x1 : Option Nat) : pv Tryz.prog (Instr.build 105 #[(0, (.pointer x0)), (1, (.map x1))]) = some (.agg #[(.pointer x0), (.map x1), (Go.Value.slice none 0 0)]) := by kernel_rfl
@[simp] theorem bld_99_0 (x0 : Option Addr) : pv Tryz.prog (Instr.build 99 #[(0, (.pointer x0))]) = some (.agg #[(.pointer x0), (Go.Value.slice none 0 0), (Go.Value.pointer none), (Go.Value.slice none 0 0)]) := by kernel_rfl
@[simp] theorem bld_123_0_1 (x0 : Int) (x1 : Int) : pv Tryz.prog (Instr.build 123 #[(0, (.int .i64 x0)), (1, (.int .i64 x1))]) = some (.agg #[(.int .i64 x0), (.int .i64 x1), (Go.Value.int Go.IntKind.u32 0), (Go.Value.int Go.IntKind.u32 0), (Go.Value.int Go.IntKind.u32 0), (Go.Value.int Go.IntKind.u32 0)]) := by kernel_rfl
@[simp] theorem bld_54_0_3_4 (x0 : Int) (x30 x31 x32 x33 : Value) (x4 : Bool) : pv Tryz.prog (Instr.build 54 #[(0, (.int .i64 x0)), (3, (.agg #[x30, x31, x32, x33])), (4, (.bool x4))]) = some (.agg #[(.int .i64 x0), (Go.Value.slice none 0 0), (Go.Value.slice none 0 0), x30, x31, x32, x33, (.bool x4), (Go.Value.bool false)]) := by kernel_rfl
@[simp] theorem bld_54  : pv Tryz.prog (Instr.build 54 #[]) = some (.agg #[(Go.Value.int Go.IntKind.i64 0), (Go.Value.slice none 0 0), (Go.Value.slice none 0 0), (Go.Value.int Go.IntKind.u32 0), (Go.Value.int Go.IntKind.u32 0), (Go.Value.int Go.IntKind.u32 0), (Go.Value.int Go.IntKind.u32 0), (Go.Value.bool false), (Go.Value.bool false)]) := by kernel_rfl
@[simp] theorem bld_83_0 (x0 : Option Addr) (x0n x0c : Nat) : pv Tryz.prog (Instr.build 83 #[(0, (.slice x0 x0n x0c))]) = some (.agg #[(.slice x0 x0n x0c)]) := by kernel_rfl
@[simp] theorem bld_143_0_1 (x0 : Int) (x1 : Option Addr) (x1n x1c : Nat) : pv Tryz.prog (Instr.build 143 #[(0, (.int .i64 x0)), (1, (.slice x1 x1n x1c))]) = some (.agg #[(.int .i64 x0), (.slice x1 x1n x1c)]) := by kernel_rfl
@[simp] theorem bld_90_0 (x0 : Int) : pv Tryz.prog (Instr.build 90 #[(0, (.int .i64 x0))]) = some (.agg #[(.int .i64 x0), (Go.Value.slice none 0 0)]) := by kernel_rfl
@[simp] theorem bld_148_0_1 (x0 : Int) (x1 : Int) : pv Tryz.prog (Instr.build 148 #[(0, (.int .i64 x0)), (1, (.int .i64 x1))]) = some (.agg #[(.int .i64 x0), (.int .i64 x1), (Go.Value.int Go.IntKind.i64 0), (Go.Value.slice none 0 0)]) := by kernel_rfl
@[simp] theorem bld_150_0_1_2_3_4_8_9 (x0 : Int) (x1 : Int) (x20 x21 x22 x23 : Value) (x3 : Int) (x4 : Option Addr) (x4n x4c : Nat) (x8 : Int) (x9 : Option Addr) (x9n x9c : Nat) : pv Tryz.prog (Instr.build 150 #[(0, (.int .i64 x0)), (1, (.int .i64 x1)), (2, (.agg #[x20, x21, x22, x23])), (3, (.int .i64 x3)), (4, (.slice x4 x4n x4c)), (8, (.int .i64 x8)), (9, (.slice x9 x9n x9c))]) = some (.agg #[(.int .i64 x0), (.int .i64 x1), x20, x21, x22, x23, (.int .i64 x3), (.slice x4 x4n x4c), (Go.Value.bool false), (Go.Value.int Go.IntKind.i64 0), (Go.Value.int Go.IntKind.i64 0), (.int .i64 x8), (.slice x9 x9n x9c), (Go.Value.int Go.IntKind.i64 0), (Go.Value.int Go.IntKind.i64 0), (Go.Value.int Go.IntKind.i64 0), (Go.Value.int Go.IntKind.i64 0), (Go.Value.int Go.IntKind.u32 0), (Go.Value.int Go.IntKind.u32 0), (Go.Value.int Go.IntKind.u32 0), (Go.Value.int Go.IntKind.u32 0), (Go.Value.bool false), (Go.Value.bool false), (Go.Value.bool false)]) := by kernel_rfl
@[simp] theorem bld_170_0_1 (x0 : Int) (x1 : TypeId) (y1 : Value) : pv Tryz.prog (Instr.build 170 #[(0, (.int .i64 x0)), (1, (.iface x1 y1))]) = some (.agg #[(.int .i64 x0), (.iface x1 y1)]) := by kernel_rfl
@[simp] theorem bld_170_0_1_nil (x0 : Int) : pv Tryz.prog (Instr.build 170 #[(0, (.int .i64 x0)), (1, .nilIface)]) = some (.agg #[(.int .i64 x0), .nilIface]) := by kernel_rfl
@[simp] theorem bld_68_0_1 (x0 : Int) (x10 x11 x12 x13 x14 x15 x16 x17 x18 x19 x110 : Value) : pv Tryz.prog (Instr.build 68 #[(0, (.int .i64 x0)), (1, (.agg #[x10, x11, x12, x13, x14, x15, x16, x17, x18, x19, x110]))]) = some (.agg #[(.int .i64 x0), x10, x11, x12, x13, x14, x15, x16, x17, x18, x19, x110]) := by kernel_rfl
@[simp] theorem bld_52  : pv Tryz.prog (Instr.build 52 #[]) = some (.agg #[(Go.Value.int Go.IntKind.u32 0), (Go.Value.int Go.IntKind.u32 0), (Go.Value.int Go.IntKind.u32 0), (Go.Value.int Go.IntKind.u32 0)]) := by kernel_rfl
@[simp] theorem bld_66  : pv Tryz.prog (Instr.build 66 #[]) = some (.agg #[(Go.Value.int Go.IntKind.i64 0), (Go.Value.int Go.IntKind.i64 0), (Go.Value.int Go.IntKind.i64 0), (Go.Value.int Go.IntKind.i64 0), (Go.Value.int Go.IntKind.u32 0), (Go.Value.int Go.IntKind.u32 0), (Go.Value.int Go.IntKind.u32 0), (Go.Value.int Go.IntKind.u32 0), (Go.Value.bool false), (Go.Value.bool false), (Go.Value.bool false)]) := by kernel_rfl
@[simp] theorem bld_123  : pv Tryz.prog (Instr.build 123 #[]) = some (.agg #[(Go.Value.int Go.IntKind.i64 0), (Go.Value.int Go.IntKind.i64 0), (Go.Value.int Go.IntKind.u32 0), (Go.Value.int Go.IntKind.u32 0), (Go.Value.int Go.IntKind.u32 0), (Go.Value.int Go.IntKind.u32 0)]) := by kernel_rfl
@[simp] theorem bld_152_0_1 (x0 : Int) (x1 : Int) : pv Tryz.prog (Instr.build 152 #[(0, (.int .i64 x0)), (1, (.int .i64 x1))]) = some (.agg #[(.int .i64 x0), (.int .i64 x1), (Go.Value.int Go.IntKind.i64 0), (Go.Value.int Go.IntKind.u32 0), (Go.Value.int Go.IntKind.u32 0), (Go.Value.int Go.IntKind.u32 0), (Go.Value.int Go.IntKind.u32 0), (Go.Value.int Go.IntKind.i64 0), (Go.Value.int Go.IntKind.i64 0)]) := by kernel_rfl
@[simp] theorem bld_66_0_1_2_3 (x0 : Int) (x1 : Int) (x2 : Int) (x3 : Int) : pv Tryz.prog (Instr.build 66 #[(0, (.int .i64 x0)), (1, (.int .i64 x1)), (2, (.int .i64 x2)), (3, (.int .i64 x3))]) = some (.agg #[(.int .i64 x0), (.int .i64 x1), (.int .i64 x2), (.int .i64 x3), (Go.Value.int Go.IntKind.u32 0), (Go.Value.int Go.IntKind.u32 0), (Go.Value.int Go.IntKind.u32 0), (Go.Value.int Go.IntKind.u32 0), (Go.Value.bool false), (Go.Value.bool false), (Go.Value.bool false)]) := by kernel_rfl
@[simp] theorem bld_198_0_1_2 (x0 : Int) (x1 : Int) (x2 : Int) : pv Tryz.prog (Instr.build 198 #[(0, (.int .i64 x0)), (1, (.int .i64 x1)), (2, (.int .i64 x2))]) = some (.agg #[(.int .i64 x0), (.int .i64 x1), (.int .i64 x2)]) := by kernel_rfl
@[simp] theorem bld_90  : pv Tryz.prog (Instr.build 90 #[]) = some (.agg #[(Go.Value.int Go.IntKind.i64 0), (Go.Value.slice none 0 0)]) := by kernel_rfl
@[simp] theorem bld_90_0_1 (x0 : Int) (x1 : Option Addr) (x1n x1c : Nat) : pv Tryz.prog (Instr.build 90 #[(0, (.int .i64 x0)), (1, (.slice x1 x1n x1c))]) = some (.agg #[(.int .i64 x0), (.slice x1 x1n x1c)]) := by kernel_rfl
end YtacidjifocfhkaaGreatDoor
end Go.Proofs
namespace Go.Pm
structure Words where
  a : Int
  b : Int
  c : Int
  d : Int
  deriving DecidableEq
def Words.zero : Words := ⟨0, 0, 0, 0⟩
structure Msg where
  kind : Int
  line : Int
  frm : Int
  to : Int
  data : Words := .zero
  has : Bool := false
  dirty : Bool := false
  alone : Bool := false
  deriving DecidableEq
def Msg.zero : Msg := { kind := 0, line := 0, frm := 0, to := 0 }
/-- a line in a cache -/
structure Lone where
  line : Int
  hart : Int
  state : Int := 0
  data : Words := .zero
  waits : Int := 0
  kept : Int := 0
  deriving DecidableEq
namespace Lone
def dirty (s : Int) : Bool := s == 3 || s == 4
def can (l : Lone) (w : Bool) : Bool := if l.waits ≠ 0 ∨ l.state = 0 then false else !w || l.state == 2 || l.state == 4
def msg (l : Lone) (k : Int) : Msg := { kind := k, line := l.line, frm := l.hart, to := -1 }
def withD (l : Lone) (k s : Int) : Msg := { l.msg k with data := l.data, has := true, dirty := dirty s }
def ask (l : Lone) (w : Bool) : Lone × List Msg × Bool :=
  if l.waits ≠ 0 ∨ l.can w = true then (l, [], false) else
  let k := if w then 2 else 1
  ({ l with waits := k }, [l.msg k], true)
def evict (l : Lone) : Lone × List Msg × Bool :=
  if l.waits ≠ 0 ∨ l.state = 0 then (l, [], false) else
  if l.state = 1 then ({ l with state := 0 }, [], true) else
  ({ l with state := 0, waits := 3, kept := l.state }, [l.withD 3 l.state], true)
def set (l : Lone) (d : Words) : Lone × Bool := if l.can true then ({ l with data := d, state := 4 }, true) else (l, false)
def takes (l : Lone) (m : Msg) : Bool :=
  if m.to ≠ l.hart ∨ m.frm ≠ -1 ∨ m.line ≠ l.line then false else
  if m.kind = 4 ∨ m.kind = 5 ∨ m.kind = 6 then true else
  if m.kind = 7 then l.waits == 1 || l.waits == 2 else
  if m.kind = 8 then l.waits == 2 && l.state != 0 else
  if m.kind = 9 then l.waits == 3 else false
def held (l : Lone) : Int := if l.waits = 3 then l.kept else l.state
def setHeld (l : Lone) (s : Int) : Lone := if l.waits = 3 then { l with kept := s } else { l with state := s }
def share (l : Lone) : Lone × Msg :=
  let s := l.held
  if s = 0 ∨ s = 1 then (l, l.msg 11) else
  (if s = 4 then l.setHeld 3 else if s = 2 then l.setHeld 1 else l, l.withD 11 s)
def lose (l : Lone) : Lone × Msg :=
  let s := l.held
  (l.setHeld 0, if s ≠ 0 ∧ s ≠ 1 then l.withD 11 s else l.msg 11)
def take1 (l : Lone) (m : Msg) : Lone × List Msg :=
  if m.kind = 4 then ({ l with state := 0 }, [l.msg 10]) else
  if m.kind = 5 then (l.share.1, [l.share.2]) else
  if m.kind = 6 then (l.lose.1, [l.lose.2]) else
  if m.kind = 7 then ({ l with data := m.data, waits := 0, state := if l.waits = 2 ∧ m.dirty = true then 4 else if l.waits = 2 ∨ m.alone = true then 2 else 1 }, [l.msg 12]) else
  if m.kind = 8 then ({ l with state := 4, waits := 0 }, [l.msg 12]) else
  ({ l with waits := 0, kept := 0 }, [])
def take (l : Lone) (m : Msg) : Lone × List Msg × Bool :=
  if l.takes m then ((l.take1 m).1, (l.take1 m).2, l.state != 0 && (l.take1 m).1.state == 0) else (l, [], false)
end Lone
/-- the home of a line -/
structure Home where
  line : Int
  harts : Nat
  data : Words
  owner : Int := -1
  sharers : List Bool
  busy : Bool := false
  serves : Int := 0
  by_ : Int := 0
  asked : Int := -1
  inv : List Bool
  back : Msg := .zero
  deriving DecidableEq
namespace Home
def new (line : Int) (harts : Nat) (data : Words) : Home := { line := line, harts := harts, data := data, sharers := List.replicate harts false, inv := List.replicate harts false }
def waits (h : Home) : Bool := h.asked != -1 || decide (true ∈ h.inv)
def to (h : Home) (hart kind : Int) : Msg := { kind := kind, line := h.line, frm := -1, to := hart }
def hand (h : Home) (data : Words) (dirty alone : Bool) : Msg := { h.to h.serves 7 with data := data, has := true, dirty := dirty, alone := alone }
def takes (h : Home) (m : Msg) : Bool :=
  if m.line ≠ h.line ∨ m.to ≠ -1 ∨ m.frm < 0 ∨ m.frm ≥ h.harts then false else
  if m.kind = 1 ∨ m.kind = 2 ∨ m.kind = 3 then !h.busy else
  if m.kind = 10 then h.busy && h.inv.getD m.frm.toNat false else
  if m.kind = 11 then h.busy && h.asked == m.frm else
  if m.kind = 12 then h.busy && !h.waits && h.serves == m.frm else false
/-- are there no sharers but r, from place i on? -/
def aloneFrom (r : Int) : List Bool → Nat → Bool
  | [], _ => true
  | s :: ss, i => (!s || ((i : Int) == r)) && aloneFrom r ss (i + 1)
def share (h : Home) : Home × List Msg :=
  if h.owner ≠ -1 ∧ h.owner ≠ h.serves then ({ h with asked := h.owner }, [h.to h.owner 5]) else
  if aloneFrom h.serves h.sharers 0 then
    let h' := { h with owner := h.serves, sharers := h.sharers.set h.serves.toNat false }
    (h', [h'.hand h.data false true])
  else
    let h' := { h with owner := -1, sharers := h.sharers.set h.serves.toNat true }
    (h', [h'.hand h.data false false])
def shared (h : Home) (m : Msg) : Home × List Msg :=
  let s1 := h.sharers.set h.serves.toNat true
  let data := if m.dirty = true ∨ m.has = true then m.data else h.data
  let h' := if m.dirty then { h with sharers := s1 } else { h with sharers := if m.has then s1.set h.owner.toNat true else s1, owner := -1 }
  (h', [h'.hand data false false])
def owned (h : Home) : Home × List Msg :=
  if h.waits then (h, []) else
  let h' := { h with owner := h.serves, sharers := List.replicate h.sharers.length false }
  (h', [if h.owner = h.serves then h'.to h.serves 8 else if h.back.has then h'.hand h.back.data h.back.dirty true else h'.hand h.data false true])
/-- who is told to drop, from place i on -/
def invFrom (serves : Int) : List Bool → List Bool → Nat → List Bool
  | s :: ss, v :: vs, i => (v || (s && ((i : Int) != serves))) :: invFrom serves ss vs (i + 1)
  | _, vs, _ => vs
def askL (h : Home) : List Bool → Nat → List Msg
  | [], _ => []
  | v :: vs, i => (if v then [h.to i 4] else []) ++ (if h.asked = (i : Int) then [h.to i 6] else []) ++ askL h vs (i + 1)
def own (h : Home) : Home × List Msg :=
  let h1 := { h with inv := invFrom h.serves h.sharers h.inv 0 }
  let h2 := if h1.owner ≠ -1 ∧ h1.owner ≠ h1.serves then { h1 with asked := h1.owner } else h1
  let l := askL h2 h2.inv 0
  if l.length > 0 then (h2, l) else h2.owned
def take (h : Home) (m : Msg) : Home × List Msg :=
  if !h.takes m then (h, []) else
  if m.kind = 1 ∨ m.kind = 2 then
    let h1 := { h with busy := true, serves := m.frm, by_ := m.kind, back := .zero }
    if m.kind = 1 then h1.share else h1.own
  else if m.kind = 3 then
    let h1 := if m.frm = h.owner then { h with data := if m.dirty then m.data else h.data, owner := -1 } else h
    ({ h1 with sharers := h1.sharers.set m.frm.toNat false }, [h.to m.frm 9])
  else if m.kind = 10 then ({ h with inv := h.inv.set m.frm.toNat false } : Home).owned
  else if m.kind = 11 then
    let h1 := { h with asked := -1, back := m }
    if h1.by_ = 1 then h1.shared m else h1.owned
  else ({ h with busy := false }, [])
/-- what holds of every home -/
structure Wf (h : Home) : Prop where
  harts : h.harts ≤ 1000
  sh : h.sharers.length = h.harts
  iv : h.inv.length = h.harts
  ow : -1 ≤ h.owner ∧ h.owner < h.harts
  sv : h.busy = true → 0 ≤ h.serves ∧ h.serves < h.harts
  ak : h.asked ≠ -1 → h.owner = h.asked
def held (h : Home) : Bool := h.busy && h.by_ == 2 && h.back.dirty && h.waits
end Home
end Go.Pm
namespace Go.NW
open Go
/-- v is a slice whose elements are xs, n cells each, in block b (of a nil one b says nothing) -/
def Slc (H : Hp) (n : Nat) (v : Value) (xs : List (List Value)) (b : Nat) : Prop :=
  (∀ x ∈ xs, x.length = n) ∧
  ((v = .slice none 0 0 ∧ xs = []) ∨
   ∃ o cap c, v = .slice (some ⟨b, o, none⟩) xs.length cap ∧ xs.length ≤ cap ∧ blk H b c ∧ o + cap * n ≤ c.size ∧ (c.toList.drop o).take (xs.length * n) = xs.flatten)
theorem Slc.nil (H : Hp) (n b : Nat) : Slc H n (.slice none 0 0) [] b := ⟨by simp, .inl ⟨rfl, rfl⟩⟩
theorem Slc.ext {S : List Nat} {H H' : Hp} {n : Nat} {v : Value} {xs : List (List Value)} {b : Nat} (h : Slc H n v xs b) (e : Ext S H H') (hn : b ∉ S) : Slc H' n v xs b := by
  obtain ⟨h1, h2⟩ := h
  refine ⟨h1, ?_⟩
  rcases h2 with h2 | ⟨o, cap, c, hv, hl, hb, hs, hx⟩
  · exact .inl h2
  · exact .inr ⟨o, cap, c, hv, hl, hb.ext e hn, hs, hx⟩
theorem Slc.shape {H : Hp} {n : Nat} {v : Value} {xs : List (List Value)} {b : Nat} (h : Slc H n v xs b) : ∃ a cap, v = .slice a xs.length cap ∧ xs.length ≤ cap ∧ (a = none → xs = []) := by
  obtain ⟨h1, ⟨rfl, rfl⟩ | ⟨o, cap, c, hv, hl, hb, hs, hx⟩⟩ := h
  · exact ⟨none, 0, rfl, Nat.le_refl _, fun _ => rfl⟩
  · exact ⟨_, cap, hv, hl, by simp⟩
theorem Slc.lt {H : Hp} {n : Nat} {v : Value} {xs : List (List Value)} {b : Nat} (h : Slc H n v xs b) (hne : xs ≠ []) : b < H.size := by
  obtain ⟨h1, ⟨rfl, rfl⟩ | ⟨o, cap, c, hv, hl, hb, hs, hx⟩⟩ := h
  · exact (hne rfl).elim
  · exact hb.lt
theorem flatten_get {n : Nat} : ∀ {xs : List (List Value)} (_ : ∀ x ∈ xs, x.length = n) {i : Nat} (hi : i < xs.length) (k : Nat), k < n → xs.flatten[i * n + k]? = (xs[i])[k]?
  | [], _, i, hi, _, _ => by simp at hi
  | x :: xs, h, 0, _, k, hk => by
    have hx := h x (by simp)
    simp [List.getElem?_append, hx, hk]
  | x :: xs, h, i + 1, hi, k, hk => by
    have hx := h x (by simp)
    have := flatten_get (xs := xs) (fun y hy => h y (by simp [hy])) (i := i) (by simpa using hi) k hk
    simp only [List.flatten_cons, List.getElem_cons_succ]
    rw [List.getElem?_append_right (by rw [hx, Nat.succ_mul]; omega), hx, show (i + 1) * n + k - n = i * n + k by rw [Nat.succ_mul]; omega]
    exact this
theorem flatten_len {n : Nat} : ∀ {xs : List (List Value)} (_ : ∀ x ∈ xs, x.length = n), xs.flatten.length = xs.length * n
  | [], _ => by simp
  | x :: xs, h => by
    have hx := h x (by simp)
    have := flatten_len (xs := xs) (fun y hy => h y (by simp [hy]))
    simp only [List.flatten_cons, List.length_append, this, hx, List.length_cons, Nat.succ_mul]; omega
/-- an element's place, and what lies there -/
theorem Slc.at {H : Hp} {n : Nat} {v : Value} {xs : List (List Value)} {b : Nat} (h : Slc H n v xs b) {i : Nat} (hi : i < xs.length) :
    ∃ o, (∀ k, Ix n v (.int k i) = some (.pointer (some ⟨b, o, none⟩))) ∧ (∀ j, j < n → cellAt H ⟨b, o + j, none⟩ = (xs[i])[j]?) ∧ cellsAt H ⟨b, o, none⟩ n = some (xs[i]).toArray := by
  obtain ⟨h1, ⟨rfl, rfl⟩ | ⟨o, cap, c, hv, hl, hb, hs, hx⟩⟩ := h
  · simp at hi
  · have hin : i * n + n ≤ xs.length * n := by
      have := Nat.mul_le_mul_right n (Nat.succ_le_of_lt hi)
      rw [Nat.succ_mul] at this; exact this
    have hcap : xs.length * n ≤ cap * n := Nat.mul_le_mul_right n hl
    have hget : ∀ j, j < n → c[o + i * n + j]? = (xs[i])[j]? := by
      intro j hj
      have e := flatten_get h1 hi j hj
      rw [← hx, List.getElem?_take, if_pos (by omega), List.getElem?_drop] at e
      rw [← e, ← Array.getElem?_toList]
      congr 1; omega
    have hlen : (xs[i]).length = n := h1 _ (List.getElem_mem hi)
    refine ⟨o + i * n, ?_, ?_, ?_⟩
    · intro k
      subst hv
      simp only [Ix]
      rw [if_pos ⟨by omega, by omega⟩]
      simp
    · intro j hj
      rw [hb.cell]
      exact hget j hj
    · rw [hb.cells, if_pos (by omega)]
      congr 1
      apply Array.ext_getElem?
      intro j
      rw [Array.getElem?_extract]
      by_cases hj : j < n
      · rw [if_pos (by omega), hget j hj]; simp
      · rw [if_neg (by omega)]
        simp [hlen]; omega
theorem Slc.of {H : Hp} {n : Nat} {xs : List (List Value)} {b cap : Nat} {c : Array Value} (h1 : ∀ x ∈ xs, x.length = n) (hb : blk H b c) (hl : xs.length ≤ cap) (hs : cap * n ≤ c.size)
    (hx : c.toList.take (xs.length * n) = xs.flatten) : Slc H n (.slice (some ⟨b, 0, none⟩) xs.length cap) xs b :=
  ⟨h1, .inr ⟨0, cap, c, rfl, hl, hb, by simpa using hs, by simpa using hx⟩⟩
/-- what a slice type must be -/
structure SlTy (P : Program) (T E n : Nat) : Prop where
  u : P.underlying T = some (.slice E)
  i : ∃ inf z, P.info? E = some inf ∧ inf.size = n ∧ inf.zero = some z ∧ z.cells.size = n ∧ inf.bytes ≤ 4096 ∧ z.cells.toList.all one = true
section
variable {P : Program}
theorem rd_firstCells {H : Hp} {n : Nat} {v : Value} {xs : List (List Value)} {b : Nat} (h : Slc H n v xs b) : rd P H (Builtin.firstCells n xs.length v) = some xs.flatten.toArray := by
  obtain ⟨h1, ⟨rfl, rfl⟩ | ⟨o, cap, c, hv, hl, hb, hs, hx⟩⟩ := h
  · rfl
  · subst hv
    have hcap : xs.length * n ≤ cap * n := Nat.mul_le_mul_right n hl
    simp only [Builtin.firstCells]
    refine rd_loadCells ?_
    rw [hb.cells, if_pos (by omega)]
    congr 1
    apply Array.ext'
    rw [← hx]
    simp [List.extract_eq_take_drop]
theorem growBy_le (newLen : Nat) : ∀ (r c : Nat), c ≤ newLen + (newLen + 768) / 4 → Builtin.growBy newLen r c ≤ newLen + (newLen + 768) / 4
  | 0, c, h => h
  | r + 1, c, h => by
    simp only [Builtin.growBy]
    split
    · exact h
    · exact growBy_le newLen r _ (by omega)
theorem nextcap_le (need cap : Nat) (h : cap < need) : Builtin.nextslicecap need cap ≤ 2 * need + 192 := by
  unfold Builtin.nextslicecap
  split
  · omega
  · split
    · omega
    · have := growBy_le need 4 cap (by omega); omega
theorem wrL_get (vs : List Value) : ∀ (c : Array Value) (off i : Nat), off + vs.length ≤ c.size → (wrL c off vs)[i]? = if off ≤ i ∧ i < off + vs.length then vs[i - off]? else c[i]? := by
  induction vs with
  | nil => intro c off i h; simp only [wrL, List.length_nil]; rw [if_neg (by omega)]
  | cons v vs ih =>
    intro c off i h
    simp only [List.length_cons] at h ⊢
    rw [wrL, ih _ _ _ (by simp; omega)]
    by_cases h1 : off + 1 ≤ i ∧ i < off + 1 + vs.length
    · rw [if_pos h1, if_pos (by omega), show i - off = (i - (off + 1)) + 1 by omega, List.getElem?_cons_succ]
    · rw [if_neg h1, Array.getElem?_setIfInBounds]
      by_cases h2 : off = i
      · subst h2; rw [if_pos rfl, if_pos (by omega), if_pos (by omega)]; simp
      · rw [if_neg h2, if_neg (by omega)]
/-- append of a slice's elements -/
theorem append_i {T E n : Nat} (ty : SlTy P T E n) {H : Hp} {s x : Value} {xs ys : List (List Value)} {b b2 : Nat} {K : RT1} (hs : Slc H n s xs b) (hx : Slc H n x ys b2)
    (h1 : ∀ y ∈ ys, y.all one = true) (hlen : xs.length + ys.length ≤ 2 ^ 30)
    (h : ∀ H' v b', Ext [b] H H' → Slc H' n v (xs ++ ys) b' → (b' = b ∨ H.size ≤ b') → K v H') : dm P (Builtin.append_ #[T, T] 0 #[s, x]) H K := by
  obtain ⟨inf, z, hi, hn, hz, hzs, hby, hz1⟩ := ty.i
  have hsz : elemSize P E = some n := by simp [elemSize, hi, hn]
  obtain ⟨a, cap, hv, hcap, hnone⟩ := hs.shape
  obtain ⟨a2, cap2, hv2, hcap2, hnone2⟩ := hx.shape
  have f1 := rd_firstCells (P := P) hs
  have f2 := rd_firstCells (P := P) hx
  subst hv
  subst hv2
  have hzv : ∀ H, rd P H (zeroValue E) = some z := fun H => by simp only [zeroValue, rd_b, rd_typeInfo hi, Option.bind_some, hz]; rfl
  unfold Builtin.append_
  refine (dm_b (underlying T) _ _ _).2 ((rd_dm _ (rd_underlying ty.u) _).2 ?_)
  refine (dm_b (sizeOf E) _ _ _).2 ((rd_dm _ (rd_sizeOf hsz) _).2 ?_)
  refine (dm_b (underlying T) _ _ _).2 ((rd_dm _ (rd_underlying ty.u) _).2 ?_)
  show dm P (ite (xs.length + ys.length ≤ cap) _ _) H K
  by_cases hfit : xs.length + ys.length ≤ cap
  · rw [if_pos hfit]
    refine (dm_b (Builtin.firstCells n ys.length (.slice a2 ys.length cap2)) _ _ _).2 ((rd_dm _ f2 _).2 ?_)
    obtain ⟨g1, ⟨he, hnil⟩ | ⟨o, cap', c, he, hl, hb, hsize, hflat⟩⟩ := hs
    · -- nil and nothing to append
      simp only [Value.slice.injEq] at he
      obtain ⟨rfl, _, rfl⟩ := he
      subst hnil
      have hys : ys = [] := by cases ys with | nil => rfl | cons y ys => simp at hfit
      subst hys
      simp only [List.length_nil, Nat.add_zero]
      exact h H _ b (.refl _ _) (by simpa using Slc.nil H n b) (.inl rfl)
    · simp only [Value.slice.injEq] at he
      obtain ⟨rfl, _, rfl⟩ := he
      simp only
      have hyl := flatten_len (n := n) (xs := ys) hx.1
      have hmul : xs.length * n + ys.length * n ≤ cap * n := by rw [← Nat.add_mul]; exact Nat.mul_le_mul_right n hfit
      refine (dm_b _ _ _ _).2 ?_
      obtain ⟨T0, hb0⟩ := hb
      refine dm_storeCells (T := T0) (a := Addr.add ⟨b, o, none⟩ (xs.length * n)) (by simp) ys.flatten H c 0 _ (by simpa using hb0) (by simp only [add_mk, Nat.add_zero]; rw [hyl]; omega) ?_ ?_
      · simp only [List.all_flatten, List.all_eq_true]
        intro y hy; exact List.all_eq_true.1 (h1 y hy)
      · simp only [add_mk, Nat.add_zero]
        have hlt := get_lt hb0
        refine h _ _ b ⟨by simp, fun i hi hni => ?_⟩ ?_ (.inl rfl)
        · simp only [List.mem_cons, List.not_mem_nil, or_false] at hni
          rw [Array.getElem?_setIfInBounds, if_neg (fun e => hni e.symm)]
        · refine ⟨fun y hy => ?_, .inr ⟨o, cap, wrL c (o + xs.length * n) ys.flatten, by simp, by simpa using hfit, ⟨T0, by rw [Array.getElem?_setIfInBounds]; simp [hlt]⟩, by rw [wrL_size]; exact hsize, ?_⟩⟩
          · rcases List.mem_append.1 hy with hy | hy
            · exact g1 y hy
            · exact hx.1 y hy
          · apply List.ext_getElem?
            intro j
            rw [List.getElem?_take, List.getElem?_drop, Array.getElem?_toList, wrL_get _ _ _ _ (by omega), List.flatten_append, List.length_append, Nat.add_mul]
            have hxl := flatten_len (n := n) (xs := xs) g1
            by_cases hj : j < xs.length * n
            · rw [if_pos (by omega), if_neg (by omega), List.getElem?_append_left (by omega)]
              have e := congrArg (fun l : List Value => l[j]?) hflat
              simp only [List.getElem?_take, List.getElem?_drop, Array.getElem?_toList] at e
              rw [if_pos hj] at e
              exact e
            · by_cases hj2 : j < xs.length * n + ys.length * n
              · rw [if_pos hj2, if_pos (by omega), List.getElem?_append_right (by omega)]
                congr 1; omega
              · rw [if_neg hj2, List.getElem?_eq_none (by rw [List.length_append, hxl, hyl]; omega)]
  · rw [if_neg hfit]
    refine (dm_b (typeInfo E) _ _ _).2 ((rd_dm _ (rd_typeInfo hi) _).2 ?_)
    have hmax : ¬ (((xs.length + ys.length : Nat) : Int) > IntKind.i64.max ∧ (false = true ∨ inf.bytes = 0)) := by
      have : IntKind.i64.max = 9223372036854775807 := by rfl
      rw [this]; omega
    show dm P (ite (((xs.length + ys.length : Nat) : Int) > IntKind.i64.max ∧ (false = true ∨ inf.bytes = 0)) _ _) H K
    rw [if_neg hmax]
    refine (dm_b (typeInfo E) _ _ _).2 ((rd_dm _ (rd_typeInfo hi) _).2 ?_)
    have hnext := nextcap_le (xs.length + ys.length) cap (by omega)
    have hmulb : Builtin.nextslicecap (xs.length + ys.length) cap * inf.bytes ≤ (2 * (xs.length + ys.length) + 192) * 4096 := Nat.mul_le_mul hnext hby
    show dm P (ite (Builtin.nextslicecap (xs.length + ys.length) cap * inf.bytes > 2 ^ 48) _ _) H K
    rw [if_neg (by omega)]
    refine (dm_b (choose (.appendCap (xs.length + ys.length) cap E)) _ _ _).2 ?_
    intro t
    refine (dm_b (typeInfo E) _ _ _).2 ((rd_dm _ (rd_typeInfo hi) _).2 ?_)
    refine (dm_b (askRoom _) _ _ _).2 ?_
    have hask : ∀ (m : Nat) (K : Unit → Hp → Prop), K () H → dm P (askRoom m) H K := by
      intro m K hk; unfold askRoom; split
      · exact hk
      · exact hk
    refine hask _ _ ?_
    refine (dm_b (Builtin.firstCells n xs.length (.slice a xs.length cap)) _ _ _).2 ((rd_dm _ f1 _).2 ?_)
    refine (dm_b (Builtin.firstCells n ys.length (.slice a2 ys.length cap2)) _ _ _).2 ((rd_dm _ f2 _).2 ?_)
    refine (dm_b (zeroValue E) _ _ _).2 ((rd_dm _ (hzv H) _).2 ?_)
    refine (dm_b (newRow E _) _ _ _).2 ?_
    have hq : xs.length + ys.length ≤ Question.cut (.appendCap (xs.length + ys.length) cap E) t := by simp [Question.cut]
    generalize Question.cut (.appendCap (xs.length + ys.length) cap E) t = nc at hq
    refine h _ _ H.size ((Ext.push H _).mono (by simp)) ?_ (.inr (Nat.le_refl _))
    have hxl := flatten_len (n := n) (xs := xs) hs.1
    have hyl := flatten_len (n := n) (xs := ys) hx.1
    have e0 : xs.length + ys.length = (xs ++ ys).length := by simp
    rw [e0]
    refine Slc.of (fun y hy => ?_) ⟨E, by simp; rfl⟩ (by simpa using hq) ?_ ?_
    · rcases List.mem_append.1 hy with hy | hy
      · exact hs.1 y hy
      · exact hx.1 y hy
    · simp only [Builtin.zeroCells, Array.size_append, List.size_toArray, Array.size_map, Array.size_range, hzs]
      rw [List.length_append, hxl, hyl, ← Nat.add_mul, ← Nat.add_mul]
      refine Nat.mul_le_mul_right n ?_
      omega
    · simp only [Array.toList_append, List.append_assoc, List.length_append, Nat.add_mul]
      rw [← List.append_assoc, List.take_append_of_le_length (by rw [List.length_append, hxl, hyl]; omega), List.take_of_length_le (by rw [List.length_append, hxl, hyl]; omega)]
      simp
/-- make -/
theorem makeSlice_i {T E n : Nat} (ty : SlTy P T E n) {H : Hp} {l c : Int} {K : RT1} {z : Value} (hz : (P.info? E).bind (·.zero) = some z) (h0 : 0 ≤ l) (h1 : l ≤ c) (h2 : c ≤ 2 ^ 30)
    (h : ∀ H', Ext [] H H' → H'.size = H.size + 1 → blk H' H.size ((List.replicate c.toNat z.cells.toList).flatten).toArray → K (.slice (some ⟨H.size, 0, none⟩) l.toNat c.toNat) H') : dm P (Instr.makeSlice T (.int .i64 l) (.int .i64 c)) H K := by
  obtain ⟨inf, z', hi, hn, hz', hzs, hby, hz1⟩ := ty.i
  have hzz : z' = z := by simp [hi, hz'] at hz; exact hz
  subst hzz
  have hsz : elemSize P E = some n := by simp [elemSize, hi, hn]
  have hzv : rd P H (zeroValue E) = some z' := by simp only [zeroValue, rd_b, rd_typeInfo hi, Option.bind_some, hz']; rfl
  unfold Instr.makeSlice
  refine (dm_b (underlying T) _ _ _).2 ((rd_dm _ (rd_underlying ty.u) _).2 ?_)
  refine (dm_b (asInt (.int .i64 l)) _ _ _).2 ((rd_dm (a := l) _ rfl _).2 ?_)
  refine (dm_b (asInt (.int .i64 c)) _ _ _).2 ((rd_dm (a := c) _ rfl _).2 ?_)
  refine (dm_b (typeInfo E) _ _ _).2 ((rd_dm _ (rd_typeInfo hi) _).2 ?_)
  have wl : IntKind.wrap .i64 l = l := by unfold IntKind.wrap; simp [IntKind.bits, IntKind.signed]; omega
  have wc : IntKind.wrap .i64 c = c := by unfold IntKind.wrap; simp [IntKind.bits, IntKind.signed]; omega
  have hb : (inf.bytes : Int) * c ≤ 4096 * 2 ^ 30 := by
    refine Int.le_trans (Int.mul_le_mul_of_nonneg_right (b := 4096) (by omega) (by omega)) ?_
    omega
  dsimp only
  rw [wl, wc]
  have htl : (decide (c < 0) || decide ((inf.bytes : Int) * c > 2 ^ 48)) = false := by
    simp only [Bool.or_eq_false_iff, decide_eq_false_iff_not]; omega
  have hcond : ¬ ((decide (c < 0) || decide ((inf.bytes : Int) * c > 2 ^ 48) || decide (l < 0) || decide (l > c)) = true) := by
    rw [htl]; simp; omega
  rw [if_neg hcond]
  refine (dm_b (askRoom _) _ _ _).2 ?_
  have hask : ∀ (m : Nat) (K : Unit → Hp → Prop), K () H → dm P (askRoom m) H K := by
    intro m K hk; unfold askRoom; split
    · exact hk
    · exact hk
  refine hask _ _ ?_
  refine (dm_b (sizeOf E) _ _ _).2 ((rd_dm _ (rd_sizeOf hsz) _).2 ?_)
  have hzs' : z'.cells.toList.length = n := by simpa using hzs
  have hrep : ∀ (k : Nat) (y : List Value), y.length = n → (List.range (k * n)).map (fun i => y[i % n]?.getD default) = (List.replicate k y).flatten := by
    intro k y hy
    apply List.ext_getElem?
    intro i
    have hfl : (List.replicate k y).flatten.length = k * n := by
      have := flatten_len (n := n) (xs := List.replicate k y) (by intro x hx; rw [List.eq_of_mem_replicate hx]; exact hy)
      simpa using this
    by_cases hik : i < k * n
    · have hn0 : 0 < n := by
        rcases Nat.eq_zero_or_pos n with h0 | h0
        · subst h0; simp at hik
        · exact h0
      have hq : i / n < k := by rw [Nat.div_lt_iff_lt_mul hn0]; exact hik
      have hm : i % n < n := Nat.mod_lt _ hn0
      have e := flatten_get (n := n) (xs := List.replicate k y) (by intro x hx; rw [List.eq_of_mem_replicate hx]; exact hy) (i := i / n) (by simpa using hq) (i % n) hm
      rw [show i / n * n + i % n = i by rw [Nat.mul_comm]; exact Nat.div_add_mod i n] at e
      rw [e]
      simp [hik, hy, hm]
    · rw [List.getElem?_eq_none (by simp; omega), List.getElem?_eq_none (by omega)]
  by_cases hk0 : c.toNat * n = 0
  · rw [if_pos hk0]
    have e0 : ((List.replicate c.toNat z'.cells.toList).flatten).toArray = #[] := by
      have := flatten_len (n := n) (xs := List.replicate c.toNat z'.cells.toList) (by intro x hx; rw [List.eq_of_mem_replicate hx]; exact hzs')
      rw [List.length_replicate, hk0] at this
      rw [List.eq_nil_of_length_eq_zero this]
    rw [e0] at h
    have e1 : (Array.range (c.toNat * n)).map ((#[] : Array Value)[· % (#[] : Array Value).size]!) = #[] := by rw [hk0]; simp
    simp only [pure_bind]
    rw [e1]
    exact h _ (.push H _) (by simp) ⟨E, by simp⟩
  · rw [if_neg hk0]
    refine (dm_b (zeroValue E) _ _ _).2 ((rd_dm _ hzv _).2 ?_)
    simp only [pure_bind]
    have e1 : (Array.range (c.toNat * n)).map (z'.cells[· % z'.cells.size]!) = ((List.replicate c.toNat z'.cells.toList).flatten).toArray := by
      rw [← hrep c.toNat z'.cells.toList hzs']
      apply Array.ext'
      simp [hzs, List.range_eq_range', Array.toList_range]
      intro a _
      rw [Array.getElem!_eq_getD, Array.getD_eq_getD_getElem?]
    rw [e1]
    exact h _ (.push H _) (by simp) ⟨E, by simp⟩
end
end Go.NW
namespace Go.Proofs
open Go Go.NW Go.Pm
set_option maxRecDepth 20000
set_option linter.unusedSimpArgs false
set_option linter.unusedVariables false
namespace YtacidjifocfhkaaGreatDoor
def wordsC (d : Words) : Array Value := #[.int .u32 d.a, .int .u32 d.b, .int .u32 d.c, .int .u32 d.d]
def msgC (m : Msg) : Array Value := #[.int .i64 m.kind, .int .i64 m.line, .int .i64 m.frm, .int .i64 m.to, .int .u32 m.data.a, .int .u32 m.data.b, .int .u32 m.data.c, .int .u32 m.data.d, .bool m.has, .bool m.dirty, .bool m.alone]
def loneC (l : Lone) : Array Value := #[.int .i64 l.line, .int .i64 l.hart, .int .i64 l.state, .int .u32 l.data.a, .int .u32 l.data.b, .int .u32 l.data.c, .int .u32 l.data.d, .int .i64 l.waits, .int .i64 l.kept]
abbrev at0 (b : Nat) : Value := .pointer (some ⟨b, 0, none⟩)
theorem fin {Q : RT1} {v v' : Value} {H : Hp} (h : Q v' H) (e : v = v') : Q v H := e ▸ h
theorem Can_spec {H : Hp} {b : Nat} {l : Lone} {w : Bool} {Q : RT1} (hb : blk H b (loneC l)) (hq : Q (.bool (l.can w)) H) : NCalls Tryz.prog 46 #[at0 b, .bool w] H Q := by
  refine E46 ?_
  unfold F46_0
  by_cases h1 : l.waits = 0 <;> by_cases h2 : l.state = 0 <;> cases w <;> by_cases h3 : l.state = 2 <;> simp [hb.cell, loneC, h1, h2, h3] <;> exact fin hq (by simp [Lone.can, h1, h2, h3])
theorem Waits_spec {H : Hp} {b : Nat} {l : Lone} {Q : RT1} (hb : blk H b (loneC l)) (hq : Q (.int .i64 l.waits) H) : NCalls Tryz.prog 47 #[at0 b] H Q := by
  refine E47 ?_
  unfold F47_0
  simpa [hb.cell, loneC] using hq
theorem State_spec {H : Hp} {b : Nat} {l : Lone} {Q : RT1} (hb : blk H b (loneC l)) (hq : Q (.int .i64 l.state) H) : NCalls Tryz.prog 63 #[at0 b] H Q := by
  refine E63 ?_
  unfold F63_0
  simpa [hb.cell, loneC] using hq
theorem dirty_spec {H : Hp} {s : Int} {Q : RT1} (hq : Q (.bool (Lone.dirty s)) H) : NCalls Tryz.prog 133 #[.int .i64 s] H Q := by
  refine E133 ?_
  unfold F133_0
  by_cases h1 : s = 3 <;> simp [h1] <;> exact fin hq (by simp [Lone.dirty, h1])
def lineD (l : Lone) : Words × Bool := if l.state = 0 then (.zero, false) else (l.data, true)
theorem Data_spec {H : Hp} {b : Nat} {l : Lone} {Q : RT1} (hb : blk H b (loneC l))
    (hq : ∀ H', Ext [] H H' → Q (.tuple #[.agg (wordsC (lineD l).1), .bool (lineD l).2]) H') : NCalls Tryz.prog 56 #[at0 b] H Q := by
  refine E56 ?_
  unfold F56_0
  refine New_i fun H1 b1 hb1 e1 s1 k1 => ?_
  have hb' := hb.ext e1 (by simp)
  by_cases h : l.state = 0
  all_goals
    simp [hb'.cell, hb'.cells, loneC, h]
    refine St_i k1 (by simp) (by simp) (by simp) fun H2 e2 s2 k2 => ?_
    simp [wrL] at k2
    simp [k2.cells]
    exact fin (hq _ (e1.fresh e2 (by simp [hb1]))) (by simp [lineD, wordsC, h, Words.zero])
theorem msg_spec {H : Hp} {b : Nat} {l : Lone} {k : Int} {Q : RT1} (hb : blk H b (loneC l))
    (hq : ∀ H', Ext [] H H' → Q (.agg (msgC (l.msg k))) H') : NCalls Tryz.prog 85 #[at0 b, .int .i64 k] H Q := by
  refine E85 ?_
  unfold F85_0
  refine New_i fun H1 b1 hb1 e1 s1 k1 => ?_
  have hb' := hb.ext e1 (by simp)
  simp [hb'.cell, loneC]
  refine St_i k1 (by simp) (by simp) (by simp) fun H2 e2 s2 k2 => ?_
  simp [wrL] at k2
  simp [k2.cells]
  exact fin (hq _ (e1.fresh e2 (by simp [hb1]))) (by simp [msgC, Lone.msg, Words.zero])
theorem with_spec {H : Hp} {b : Nat} {l : Lone} {k s : Int} {Q : RT1} (hb : blk H b (loneC l))
    (hq : ∀ H', Ext [] H H' → Q (.agg (msgC (l.withD k s))) H') : NCalls Tryz.prog 113 #[at0 b, .int .i64 k, .int .i64 s] H Q := by
  refine E113 ?_
  unfold F113_0
  refine New_i fun H1 b1 hb1 e1 s1 k1 => ?_
  have l1 := hb.lt
  replace hb := hb.ext e1 (by simp)
  refine msg_spec hb fun H2 e2 => ?_
  have e2s := e2.size
  replace k1 := k1.ext e2 (by simp)
  replace hb := hb.ext e2 (by simp)
  refine New_i fun H3 b3 hb3 e3 s3 k3 => ?_
  replace k1 := k1.ext e3 (by simp)
  replace hb := hb.ext e3 (by simp)
  refine St_i k3 (by simp [msgC]) (by simp) (by simp [msgC]) fun H4 e4 s4 k4 => ?_
  replace k1 := k1.ext e4 (by simp; omega)
  replace hb := hb.ext e4 (by simp; omega)
  simp [wrL, msgC, Lone.msg, Words.zero] at k4
  simp [hb.cells, loneC]
  refine dirty_spec ?_
  simp [hb.cells, loneC]
  refine St_i k4 (by simp) (by simp) (by simp) fun H5 e5 s5 k5 => ?_
  replace k1 := k1.ext e5 (by simp; omega)
  simp [wrL] at k5 ⊢
  refine St_i k5 (by simp) (by simp) (by simp) fun H6 e6 s6 k6 => ?_
  replace k1 := k1.ext e6 (by simp; omega)
  simp [wrL] at k6 ⊢
  refine St_i k6 (by simp) (by simp) (by simp) fun H7 e7 s7 k7 => ?_
  replace k1 := k1.ext e7 (by simp; omega)
  simp [wrL] at k7 ⊢
  simp [k7.cells]
  refine St_i k1 (by simp) (by simp) (by simp) fun H8 e8 s8 k8 => ?_
  simp [wrL] at k8 ⊢
  simp [k8.cells]
  refine fin (hq _ ?_) (by simp [msgC, Lone.withD, Lone.msg])
  exact (((((((e1.trans e2).trans e3).fresh e4 (by simp; omega)).fresh e5 (by simp; omega)).fresh e6 (by simp; omega)).fresh e7 (by simp; omega)).fresh e8 (by simp; omega))
/-- some messages in new memory -/
def Msgs (H : Hp) (v : Value) (ms : List Msg) (b : Nat) : Prop := Slc H 11 v (ms.map fun m => (msgC m).toList) b
theorem Msgs.nil (H : Hp) (b : Nat) : Msgs H (.slice none 0 0) [] b := Slc.nil H 11 b
theorem msg_slice {H : Hp} {m : Msg} {K : RT1} (h : ∀ H' b v, b = H.size → Ext [] H H' → Msgs H' v [m] b → K v H') :
    Bsl #[Value.int IntKind.i64 0, Value.int IntKind.i64 0, Value.int IntKind.i64 0, Value.int IntKind.i64 0, Value.int IntKind.u32 0, Value.int IntKind.u32 0, Value.int IntKind.u32 0, Value.int IntKind.u32 0, Value.bool false, Value.bool false, Value.bool false] 11 66 1 [(0, .agg (msgC m))] H K := by
  refine Bsl_i (cells := msgC m) ?_ fun H' b hb e s k => h H' b _ hb e ?_
  · kernel_rfl
  · exact Slc.of (xs := [(msgC m).toList]) (by simp [msgC]) k (by simp) (by simp [msgC]) (by simp [msgC])
theorem Ask_spec {H : Hp} {b : Nat} {l : Lone} {w : Bool} {Q : RT1} (hb : blk H b (loneC l))
    (hq : ∀ H' v bm, Ext [b] H H' → blk H' b (loneC (l.ask w).1) → Msgs H' v (l.ask w).2.1 bm → H.size ≤ bm → Q (.tuple #[v, .bool (l.ask w).2.2]) H') : NCalls Tryz.prog 51 #[at0 b, .bool w] H Q := by
  refine E51 ?_
  unfold F51_0 F51_8 F51_1 F51_7
  by_cases h : l.waits ≠ 0 ∨ l.can w = true
  · have hq' := hq H (.slice none 0 0) H.size (.refl _ _)
    rw [show l.ask w = (l, [], false) by simp [Lone.ask, h]] at hq'
    have hq' := hq' hb (Msgs.nil _ _) (Nat.le_refl _)
    by_cases h1 : l.waits = 0
    · have h2 : l.can w = true := by simpa [h1] using h
      simp [hb.cell, loneC, h1]
      refine Can_spec hb ?_
      simpa [h2] using hq'
    · simp [hb.cell, loneC, h1]
      exact hq'
  · have h1 : l.waits = 0 := Classical.not_not.1 fun e => h (.inl e)
    have h2 : l.can w = false := by
      cases hc : l.can w with
      | true => exact (h (.inr hc)).elim
      | false => rfl
    simp [hb.cell, loneC, h1]
    refine Can_spec hb ?_
    simp [h2]
    unfold F51_2 F51_6
    simp
    refine St_i hb (by simp) (by simp [loneC]) (by simp) fun H1 e1 s1 k1 => ?_
    unfold F51_3 F51_5
    have key : ∀ H2 (kk : Int), Ext [b] H H2 → blk H2 b (loneC { l with waits := kk }) → kk = (if w = true then 2 else 1) → F51_4 (at0 b) H2 Q := by
      intro H2 kk e2 k2 hk
      unfold F51_4
      simp [k2.cell, loneC]
      refine msg_spec k2 fun H3 e3 => ?_
      refine msg_slice fun H4 bm v hbm e4 hm => ?_
      have hq' := hq H4 v bm ((e2.trans (e3.mono (by simp))).trans (e4.mono (by simp)))
      rw [show l.ask w = ({ l with waits := kk }, [l.msg kk], true) by simp [Lone.ask, h1, h2, hk]] at hq'
      refine hq' ((k2.ext e3 (by simp)).ext e4 (by simp)) ?_ (by have := e2.size; have := e3.size; omega)
      exact hm
    cases w with
    | true =>
      simp
      refine St_i k1 (by simp) (by simp [loneC, wrL]) (by simp) fun H2 e2 s2 k2 => ?_
      exact key H2 2 (e1.trans e2) (by simpa [loneC, wrL] using k2) rfl
    | false =>
      simp
      exact key H1 1 e1 (by simpa [loneC, wrL] using k1) rfl
theorem Evict_spec {H : Hp} {b : Nat} {l : Lone} {Q : RT1} (hb : blk H b (loneC l))
    (hq : ∀ H' v bm, Ext [b] H H' → blk H' b (loneC l.evict.1) → Msgs H' v l.evict.2.1 bm → H.size ≤ bm → Q (.tuple #[v, .bool l.evict.2.2]) H') : NCalls Tryz.prog 81 #[at0 b] H Q := by
  refine E81 ?_
  unfold F81_0
  by_cases h : l.waits ≠ 0 ∨ l.state = 0
  · have hq' := hq H (.slice none 0 0) H.size (.refl _ _)
    rw [show l.evict = (l, [], false) by simp [Lone.evict, h]] at hq'
    have hq' := hq' hb (Msgs.nil _ _) (Nat.le_refl _)
    by_cases h1 : l.waits = 0
    · have h2 : l.state = 0 := by simpa [h1] using h
      simp [hb.cell, loneC, h1, h2]
      exact hq'
    · simp [hb.cell, loneC, h1]
      exact hq'
  · have h1 : l.waits = 0 := Classical.not_not.1 fun e => h (.inl e)
    have h2 : ¬ l.state = 0 := fun e => h (.inr e)
    simp [hb.cell, loneC, h1, h2]
    refine St_i hb (by simp) (by simp [loneC]) (by simp) fun H1 e1 s1 k1 => ?_
    simp [loneC, wrL] at k1
    by_cases h3 : l.state = 1
    · simp [h3]
      have hq' := hq H1 (.slice none 0 0) H.size e1
      rw [show l.evict = ({ l with state := 0 }, [], true) by simp [Lone.evict, h1, h2, h3]] at hq'
      exact hq' (by simpa [loneC] using k1) (Msgs.nil _ _) (Nat.le_refl _)
    · simp [h3]
      refine St_i k1 (by simp) (by simp) (by simp) fun H2 e2 s2 k2 => ?_
      simp [wrL] at k2 ⊢
      refine St_i k2 (by simp) (by simp) (by simp) fun H3 e3 s3 k3 => ?_
      simp [wrL] at k3 ⊢
      have k3' : blk H3 b (loneC { l with state := 0, waits := 3, kept := l.state }) := by simpa [loneC] using k3
      refine with_spec k3' fun H4 e4 => ?_
      refine msg_slice fun H5 bm v hbm e5 hm => ?_
      have hq' := hq H5 v bm ((((e1.trans e2).trans e3).trans (e4.mono (by simp))).trans (e5.mono (by simp)))
      rw [show l.evict = ({ l with state := 0, waits := 3, kept := l.state }, [l.withD 3 l.state], true) by simp [Lone.evict, h1, h2, h3]] at hq'
      exact hq' ((k3'.ext e4 (by simp)).ext e5 (by simp)) hm (by have := e4.size; omega)
theorem Set_spec {H : Hp} {b : Nat} {l : Lone} {d : Words} {Q : RT1} (hb : blk H b (loneC l))
    (hq : ∀ H', Ext [b] H H' → blk H' b (loneC (l.set d).1) → Q (.bool (l.set d).2) H') : NCalls Tryz.prog 59 #[at0 b, .agg (wordsC d)] H Q := by
  refine E59 ?_
  unfold F59_0
  refine New_i fun H1 b1 hb1 e1 s1 k1 => ?_
  have l1 := hb.lt
  replace hb := hb.ext e1 (by simp)
  refine Can_spec hb ?_
  cases hc : l.can true with
  | false =>
    simp
    have hq' := hq H1 (e1.mono (by simp))
    rw [show l.set d = (l, false) by simp [Lone.set, hc]] at hq'
    exact hq' hb
  | true =>
    simp [k1.cells, wordsC]
    refine St_i hb (by simp) (by simp [loneC]) (by simp) fun H2 e2 s2 k2 => ?_
    simp [loneC, wrL] at k2 ⊢
    refine St_i k2 (by simp) (by simp) (by simp) fun H3 e3 s3 k3 => ?_
    simp [wrL] at k3 ⊢
    have hq' := hq H3 (((e1.mono (by simp)).trans e2).trans e3)
    rw [show l.set d = ({ l with data := d, state := 4 }, true) by simp [Lone.set, hc]] at hq'
    exact hq' (by simpa [loneC] using k3)
theorem Takes_spec {H : Hp} {b : Nat} {l : Lone} {m : Msg} {Q : RT1} (hb : blk H b (loneC l))
    (hq : ∀ H', Ext [] H H' → Q (.bool (l.takes m)) H') : NCalls Tryz.prog 102 #[at0 b, .agg (msgC m)] H Q := by
  refine E102 ?_
  unfold F102_0 F102_11
  refine New_i fun H1 b1 hb1 e1 s1 k1 => ?_
  replace hb := hb.ext e1 (by simp)
  replace hq := hq H1 e1
  unfold F102_1 F102_10
  by_cases h1 : m.to = l.hart
  · by_cases h2 : m.frm = -1
    · by_cases h3 : m.line = l.line
      · simp [hb.cell, k1.cell, msgC, loneC, h1, h2, h3]
        unfold F102_2 F102_4 F102_9 F102_5 F102_6 F102_8
        by_cases k4 : m.kind = 4
        · simp [k1.cell, msgC, k4, F102_7]; exact fin hq (by simp [Lone.takes, h1, h2, h3, k4])
        by_cases k5 : m.kind = 5
        · simp [k1.cell, msgC, k5, F102_7]; exact fin hq (by simp [Lone.takes, h1, h2, h3, k5])
        by_cases k6 : m.kind = 6
        · simp [k1.cell, msgC, k6, F102_7]; exact fin hq (by simp [Lone.takes, h1, h2, h3, k6])
        by_cases k7 : m.kind = 7
        · by_cases w : l.waits = 1 <;> simp [k1.cell, hb.cell, loneC, msgC, k7, F102_7, w] <;> exact fin hq (by simp [Lone.takes, h1, h2, h3, k7, w])
        by_cases k8 : m.kind = 8
        · by_cases w : l.waits = 2 <;> simp [k1.cell, hb.cell, loneC, msgC, k8, F102_7, w] <;> exact fin hq (by simp [Lone.takes, h1, h2, h3, k8, w])
        by_cases k9 : m.kind = 9
        · simp [k1.cell, hb.cell, loneC, msgC, k9, F102_7]; exact fin hq (by simp [Lone.takes, h1, h2, h3, k9])
        · simp [k1.cell, msgC, k4, k5, k6, k7, k8, k9, F102_7, F102_3]; exact fin hq (by simp [Lone.takes, h1, h2, h3, k4, k5, k6, k7, k8, k9])
      · simp [hb.cell, k1.cell, msgC, loneC, h1, h2, h3]; exact fin hq (by simp [Lone.takes, h1, h2, h3])
    · simp [hb.cell, k1.cell, msgC, loneC, h1, h2]; exact fin hq (by simp [Lone.takes, h1, h2])
  · simp [hb.cell, k1.cell, msgC, loneC, h1]; exact fin hq (by simp [Lone.takes, h1])
end YtacidjifocfhkaaGreatDoor
end Go.Proofs
namespace Go.Proofs
open Go Go.NW Go.Pm
set_option maxRecDepth 20000
set_option linter.unusedSimpArgs false
set_option linter.unusedVariables false
namespace YtacidjifocfhkaaGreatDoor
theorem held_spec {H : Hp} {b : Nat} {l : Lone} {Q : RT1} (hb : blk H b (loneC l))
    (hq : Q (.pointer (some ⟨b, if l.waits = 3 then 8 else 2, none⟩)) H) : NCalls Tryz.prog 163 #[at0 b] H Q := by
  refine E163 ?_
  unfold F163_0
  by_cases h : l.waits = 3 <;> simp [hb.cell, loneC, h] at hq ⊢ <;> exact hq
theorem held_cell {H : Hp} {b : Nat} {l : Lone} (hb : blk H b (loneC l)) : cellAt H ⟨b, if l.waits = 3 then 8 else 2, none⟩ = some (.int .i64 l.held) := by
  by_cases h : l.waits = 3 <;> simp [hb.cell, loneC, Lone.held, h]
theorem held_set {b : Nat} {l : Lone} {s : Int} : wrL (loneC l) (if l.waits = 3 then 8 else 2) [.int .i64 s] = loneC (l.setHeld s) := by
  by_cases h : l.waits = 3 <;> simp [wrL, loneC, Lone.setHeld, h]
theorem held_lt {l : Lone} : (if l.waits = 3 then 8 else 2) + 1 ≤ (loneC l).size := by split <;> simp [loneC]
theorem share_spec {H : Hp} {b : Nat} {l : Lone} {Q : RT1} (hb : blk H b (loneC l))
    (hq : ∀ H', Ext [b] H H' → blk H' b (loneC l.share.1) → Q (.agg (msgC l.share.2)) H') : NCalls Tryz.prog 146 #[at0 b] H Q := by
  refine E146 ?_
  unfold F146_0 F146_10
  have l1 := hb.lt
  refine New_i fun H1 b1 hb1 e1 s1 k1 => ?_
  replace hb := hb.ext e1 (by simp)
  unfold F146_1 F146_9
  refine held_spec hb ?_
  unfold F146_2 F146_8
  by_cases h : l.held = 0 ∨ l.held = 1
  · have hm : ∀ H', Ext [b] H H' → blk H' b (loneC l) → Q (.agg (msgC (l.msg 11))) H' := by
      intro H' e k
      have := hq H' e
      rw [show l.share = (l, l.msg 11) by simp [Lone.share, h]] at this
      exact this k
    have fi : NCalls Tryz.prog 85 #[at0 b, .int .i64 11] H1 (fun t18_25 H_25 => St 11 H_25 (at0 b1) t18_25 ((fun u_26 H_26 => q (LdA 11 H_26 (at0 b1)) fun r_27 => Q r_27 H_26) undef)) := by
      refine msg_spec hb fun H2 e2 => ?_
      replace k1 := k1.ext e2 (by simp)
      replace hb := hb.ext e2 (by simp)
      refine St_i k1 (by simp [msgC]) (by simp) (by simp [msgC]) fun H3 e3 s3 k3 => ?_
      simp [wrL, msgC, Lone.msg] at k3
      simp [k3.cells]
      refine fin (hm H3 (((e1.trans e2).mono (by simp)).fresh e3 (by simp; omega)) (hb.ext e3 (by simp; omega))) ?_
      simp [msgC, Lone.msg]
    by_cases h1 : l.held = 0
    · simp [held_cell hb, h1]
      simpa using fi
    · have h2 : l.held = 1 := h.resolve_left h1
      simp [held_cell hb, h2]
      simpa using fi
  · have h1 : ¬ l.held = 0 := fun e => h (.inl e)
    have h2 : ¬ l.held = 1 := fun e => h (.inr e)
    simp [held_cell hb, h1, h2]
    unfold F146_3 F146_7
    simp [held_cell hb]
    refine with_spec hb fun H2 e2 => ?_
    have z2 := e2.size
    replace k1 := k1.ext e2 (by simp)
    replace hb := hb.ext e2 (by simp)
    refine New_i fun H3 b3 hb3 e3 s3 k3 => ?_
    replace k1 := k1.ext e3 (by simp)
    replace hb := hb.ext e3 (by simp)
    refine St_i k3 (by simp [msgC]) (by simp) (by simp [msgC]) fun H4 e4 s4 k4 => ?_
    replace k1 := k1.ext e4 (by simp; omega)
    replace hb := hb.ext e4 (by simp; omega)
    have k4' : blk H4 b3 (msgC (l.withD 11 l.held)) := by simpa [wrL, msgC] using k4
    unfold F146_4 F146_6
    have E4 : Ext [b] H H4 := (((e1.trans e2).trans e3).mono (by simp)).fresh e4 (by simp; omega)
    have key : ∀ H5, Ext [b] H4 H5 → blk H5 b (loneC l.share.1) → F146_5 (at0 b1) (at0 b3) H5 Q := by
      intro H5 e5 k5
      unfold F146_5
      have k3 := k4'.ext e5 (by simp; omega)
      have kb := k1.ext e5 (by simp; omega)
      simp [k3.cells, msgC]
      refine St_i kb (by simp) (by simp) (by simp) fun H6 e6 s6 k6 => ?_
      simp [wrL] at k6 ⊢
      simp [k6.cells]
      refine fin (hq H6 ((E4.trans e5).fresh e6 (by simp; omega)) (k5.ext e6 (by simp; omega))) ?_
      simp [Lone.share, h1, h2, msgC]
    simp [held_cell hb]
    by_cases h4 : l.held = 4
    · simp [h4]
      refine St_i hb (by simp) held_lt (by simp) fun H5 e5 s5 k5 => ?_
      refine key H5 e5 ?_
      rw [cells_int] at k5
      rw [held_set (b := b)] at k5
      rw [show l.share.1 = l.setHeld 3 by simp [Lone.share, h1, h2, h4]]
      exact k5
    · by_cases h5 : l.held = 2
      · simp [h4, h5]
        refine St_i hb (by simp) held_lt (by simp) fun H5 e5 s5 k5 => ?_
        refine key H5 e5 ?_
        rw [cells_int] at k5
        rw [held_set (b := b)] at k5
        rw [show l.share.1 = l.setHeld 1 by simp [Lone.share, h1, h2, h4, h5]]
        exact k5
      · simp [h4, h5]
        refine key H4 (.refl _ _) ?_
        rw [show l.share.1 = l by simp [Lone.share, h1, h2, h4, h5]]
        exact hb
theorem lose_spec {H : Hp} {b : Nat} {l : Lone} {Q : RT1} (hb : blk H b (loneC l))
    (hq : ∀ H', Ext [b] H H' → blk H' b (loneC l.lose.1) → Q (.agg (msgC l.lose.2)) H') : NCalls Tryz.prog 147 #[at0 b] H Q := by
  refine E147 ?_
  unfold F147_0 F147_8
  have l1 := hb.lt
  refine New_i fun H1 b1 hb1 e1 s1 k1 => ?_
  replace hb := hb.ext e1 (by simp)
  unfold F147_1 F147_7
  refine held_spec hb ?_
  unfold F147_2 F147_6
  refine msg_spec hb fun H2 e2 => ?_
  have z2 := e2.size
  replace k1 := k1.ext e2 (by simp)
  replace hb := hb.ext e2 (by simp)
  refine New_i fun H3 b3 hb3 e3 s3 k3 => ?_
  replace k1 := k1.ext e3 (by simp)
  replace hb := hb.ext e3 (by simp)
  refine St_i k3 (by simp [msgC]) (by simp) (by simp [msgC]) fun H4 e4 s4 k4 => ?_
  replace k1 := k1.ext e4 (by simp; omega)
  replace hb := hb.ext e4 (by simp; omega)
  have k4' : blk H4 b3 (msgC (l.msg 11)) := by simpa [wrL, msgC] using k4
  have E4 : Ext [b] H H4 := (((e1.trans e2).trans e3).mono (by simp)).fresh e4 (by simp; omega)
  unfold F147_3 F147_5
  have key : ∀ H5, H4.size ≤ H5.size → blk H5 b (loneC l) → blk H5 b1 (msgC .zero) → blk H5 b3 (msgC l.lose.2) → Ext [b] H H5 → F147_4 (at0 b1) (.pointer (some ⟨b, if l.waits = 3 then 8 else 2, none⟩)) (at0 b3) H5 Q := by
    intro H5 z5 kb kb1 kb3 E5
    unfold F147_4
    simp
    refine St_i kb (by simp) held_lt (by simp) fun H6 e6 s6 k6 => ?_
    rw [cells_int] at k6
    rw [held_set (b := b)] at k6
    have kb3 := kb3.ext e6 (by simp; omega)
    have kb1 := kb1.ext e6 (by simp; omega)
    simp [kb3.cells, msgC]
    refine St_i kb1 (by simp) (by simp [msgC]) (by simp) fun H7 e7 s7 k7 => ?_
    simp [wrL, msgC] at k7 ⊢
    simp [k7.cells]
    refine fin (hq H7 ((E5.trans e6).fresh e7 (by simp; omega)) (k6.ext e7 (by simp; omega))) ?_
    simp [msgC]
  by_cases h1 : l.held = 0
  · simp [held_cell hb, h1]
    refine key H4 (Nat.le_refl _) hb k1 ?_ E4
    rw [show l.lose.2 = l.msg 11 by simp [Lone.lose, h1]]; exact k4'
  · by_cases h2 : l.held = 1
    · simp [held_cell hb, h2]
      refine key H4 (Nat.le_refl _) hb k1 ?_ E4
      rw [show l.lose.2 = l.msg 11 by simp [Lone.lose, h2]]; exact k4'
    · simp [held_cell hb, h1, h2]
      refine with_spec hb fun H5 e5 => ?_
      have z5 := e5.size
      replace k1 := k1.ext e5 (by simp)
      replace hb := hb.ext e5 (by simp)
      replace k4' := k4'.ext e5 (by simp)
      refine St_i k4' (by simp [msgC]) (by simp [msgC]) (by simp [msgC]) fun H6 e6 s6 k6 => ?_
      refine key H6 (by omega) (hb.ext e6 (by simp; omega)) (k1.ext e6 (by simp; omega)) ?_ ((E4.trans (e5.mono (by simp))).fresh e6 (by simp; omega))
      rw [show l.lose.2 = l.withD 11 l.held by simp [Lone.lose, h1, h2]]
      simpa [wrL, msgC] using k6
theorem New_lone {H : Hp} {l h : Int} {Q : RT1}
    (hq : ∀ H' b, b = H.size → Ext [] H H' → blk H' b (loneC { line := l, hart := h }) → Q (at0 b) H') : NCalls Tryz.prog 84 #[.int .i64 l, .int .i64 h] H Q := by
  refine E84 ?_
  unfold F84_0
  simp
  refine New_i fun H1 b1 hb1 e1 s1 k1 => ?_
  exact hq H1 b1 hb1 e1 (by simpa [loneC, Words.zero] using k1)
theorem Clone_lone {H : Hp} {b : Nat} {l : Lone} {Q : RT1} (hb : blk H b (loneC l))
    (hq : ∀ H' b', b' = H.size → Ext [] H H' → blk H' b' (loneC l) → Q (at0 b') H') : NCalls Tryz.prog 101 #[at0 b] H Q := by
  refine E101 ?_
  unfold F101_0
  simp [hb.cells, loneC]
  refine New_i fun H1 b1 hb1 e1 s1 k1 => ?_
  refine St_i k1 (by simp) (by simp) (by simp) fun H2 e2 s2 k2 => ?_
  exact hq H2 b1 hb1 (e1.fresh e2 (by simp; omega)) (by simpa [loneC, wrL] using k2)
def keptD (l : Lone) : Bool := l.waits == 3 && Lone.dirty l.kept
theorem Kept_spec {H : Hp} {b : Nat} {l : Lone} {Q : RT1} (hb : blk H b (loneC l))
    (hq : ∀ H', Ext [] H H' → Q (.tuple #[.agg (wordsC l.data), .bool (keptD l)]) H') : NCalls Tryz.prog 105 #[at0 b] H Q := by
  refine E105 ?_
  unfold F105_0
  refine New_i fun H1 b1 hb1 e1 s1 k1 => ?_
  replace hb := hb.ext e1 (by simp)
  by_cases h : l.waits = 3
  all_goals
    simp [hb.cell, hb.cells, loneC, h]
    try (refine dirty_spec ?_)
    try simp [hb.cell, hb.cells, loneC]
    refine St_i k1 (by simp) (by simp) (by simp) fun H2 e2 s2 k2 => ?_
    simp [wrL] at k2
    simp [k2.cells]
    exact fin (hq _ (e1.fresh e2 (by simp [hb1]))) (by simp [keptD, wordsC, h])
theorem take1_spec {H : Hp} {b : Nat} {l : Lone} {m : Msg} {Q : RT1} (hb : blk H b (loneC l)) (hm : l.takes m = true)
    (hq : ∀ H' v bm, Ext [b] H H' → blk H' b (loneC (l.take1 m).1) → Msgs H' v (l.take1 m).2 bm → H.size ≤ bm → Q v H') : NCalls Tryz.prog 132 #[at0 b, .agg (msgC m)] H Q := by
  refine E132 ?_
  unfold F132_0 F132_27
  have l1 := hb.lt
  refine New_i fun H1 b1 hb1 e1 s1 k1 => ?_
  replace hb := hb.ext e1 (by simp)
  unfold F132_1 F132_3 F132_26
  simp [k1.cell, msgC]
  unfold F132_4 F132_5 F132_25
  have one : ∀ (H2 H3 : Hp) (l2 : Lone) (x : Msg) (K : RT1), Ext [b] H H2 → blk H2 b (loneC l2) → (∀ H' v bm, Ext [b] H H' → blk H' b (loneC l2) → Msgs H' v [x] bm → H.size ≤ bm → K v H') →
      Bsl #[Value.int IntKind.i64 0, Value.int IntKind.i64 0, Value.int IntKind.i64 0, Value.int IntKind.i64 0, Value.int IntKind.u32 0, Value.int IntKind.u32 0, Value.int IntKind.u32 0, Value.int IntKind.u32 0, Value.bool false, Value.bool false, Value.bool false] 11 66 1 [(0, .agg (msgC x))] H2 K := by
    intro H2 H3 l2 x K e2 k2 hk
    refine msg_slice fun H4 bm v hbm e4 hms => ?_
    exact hk H4 v bm (e2.trans (e4.mono (by simp))) (k2.ext e4 (by simp)) hms (by have := e2.size; omega)
  have done : ∀ (H2 : Hp) (l2 : Lone), Ext [b] H H2 → blk H2 b (loneC l2) → l.take1 m = (l2, [l2.msg 12]) →
      NCalls Tryz.prog 85 #[at0 b, .int .i64 12] H2 (fun t65_19 H_19 => Bsl #[Value.int IntKind.i64 0, Value.int IntKind.i64 0, Value.int IntKind.i64 0, Value.int IntKind.i64 0, Value.int IntKind.u32 0, Value.int IntKind.u32 0, Value.int IntKind.u32 0, Value.int IntKind.u32 0, Value.bool false, Value.bool false, Value.bool false] 11 66 1 [(0, t65_19)] H_19 (fun t66_20 H_20 => Q t66_20 H_20)) := by
    intro H2 l2 e2 k2 ht
    rw [ht] at hq
    refine msg_spec k2 fun H3 e3 => ?_
    exact one H3 H3 l2 _ _ (e2.trans (e3.mono (by simp))) (k2.ext e3 (by simp)) hq
  by_cases k4 : m.kind = 4
  · simp [k4, F132_6, F132_7]
    refine St_i hb (by simp) (by simp [loneC]) (by simp) fun H2 e2 s2 k2 => ?_
    have k2' : blk H2 b (loneC { l with state := 0 }) := by simpa [wrL, loneC] using k2
    rw [show l.take1 m = ({ l with state := 0 }, [l.msg 10]) by simp [Lone.take1, k4]] at hq
    refine msg_spec k2' fun H3 e3 => ?_
    exact one H3 H3 _ _ _ (((e1.mono (by simp)).trans e2).trans (e3.mono (by simp))) (k2'.ext e3 (by simp)) hq
  simp [k4, F132_6, F132_8, F132_24]
  by_cases k5 : m.kind = 5
  · simp [k5, F132_9, F132_10]
    rw [show l.take1 m = (l.share.1, [l.share.2]) by simp [Lone.take1, k5]] at hq
    refine share_spec hb fun H2 e2 k2 => ?_
    exact one H2 H2 _ _ _ ((e1.mono (by simp)).trans e2) k2 hq
  simp [k5, F132_9, F132_11, F132_23]
  by_cases k6 : m.kind = 6
  · simp [k6, F132_12, F132_13]
    rw [show l.take1 m = (l.lose.1, [l.lose.2]) by simp [Lone.take1, k6]] at hq
    refine lose_spec hb fun H2 e2 k2 => ?_
    exact one H2 H2 _ _ _ ((e1.mono (by simp)).trans e2) k2 hq
  simp [k6, F132_12, F132_14, F132_22]
  by_cases k7 : m.kind = 7
  · simp [k7, F132_15, F132_16, F132_20]
    simp [k1.cells, msgC]
    refine St_i hb (by simp) (by simp [loneC]) (by simp) fun H2 e2 s2 k2 => ?_
    have z2 := hb.lt
    replace k1 := k1.ext e2 (by simp; omega)
    have k2' : blk H2 b (loneC { l with data := m.data }) := by simpa [wrL, loneC] using k2
    unfold F132_17 F132_19
    have fi : ∀ (H3 : Hp) (s : Int), Ext [b] H H3 → blk H3 b (loneC { l with data := m.data, state := s }) → s = (if l.waits = 2 ∧ m.dirty = true then 4 else if l.waits = 2 ∨ m.alone = true then 2 else 1) → F132_18 (at0 b) H3 Q := by
      intro H3 s e3 k3 hs
      unfold F132_18
      simp
      refine St_i k3 (by simp) (by simp [loneC]) (by simp) fun H4 e4 s4 k4' => ?_
      refine done H4 { l with data := m.data, state := s, waits := 0 } (e3.trans e4) (by simpa [wrL, loneC] using k4') ?_
      simp [Lone.take1, k4, k5, k6, k7, hs, Lone.msg]
    have E2 : Ext [b] H H2 := (e1.mono (by simp)).trans e2
    by_cases w : l.waits = 2
    · cases hd : m.dirty with
      | true =>
        simp [k2'.cell, k1.cell, msgC, loneC, w, hd]
        refine St_i k2' (by simp) (by simp [loneC]) (by simp) fun H3 e3 s3 k3 => ?_
        exact fi H3 4 (E2.trans e3) (by simpa [wrL, loneC] using k3) (by simp [w, hd])
      | false =>
        simp [k2'.cell, k1.cell, msgC, loneC, w, hd]
        refine St_i k2' (by simp) (by simp [loneC]) (by simp) fun H3 e3 s3 k3 => ?_
        exact fi H3 2 (E2.trans e3) (by simpa [wrL, loneC] using k3) (by simp [w, hd])
    · cases hd : m.alone with
      | true =>
        simp [k2'.cell, k1.cell, msgC, loneC, w, hd]
        refine St_i k2' (by simp) (by simp [loneC]) (by simp) fun H3 e3 s3 k3 => ?_
        exact fi H3 2 (E2.trans e3) (by simpa [wrL, loneC] using k3) (by simp [w, hd])
      | false =>
        simp [k2'.cell, k1.cell, msgC, loneC, w, hd]
        refine St_i k2' (by simp) (by simp [loneC]) (by simp) fun H3 e3 s3 k3 => ?_
        exact fi H3 1 (E2.trans e3) (by simpa [wrL, loneC] using k3) (by simp [w, hd])
  simp [k7, F132_15, F132_21]
  by_cases k8 : m.kind = 8
  · simp [k8]
    refine St_i hb (by simp) (by simp [loneC]) (by simp) fun H2 e2 s2 k2 => ?_
    simp [wrL, loneC] at k2
    refine St_i k2 (by simp) (by simp) (by simp) fun H3 e3 s3 k3 => ?_
    refine done H3 { l with state := 4, waits := 0 } (((e1.mono (by simp)).trans e2).trans e3) (by simpa [wrL, loneC] using k3) ?_
    simp [Lone.take1, k4, k5, k6, k7, k8, Lone.msg]
  · simp [k8, F132_2]
    refine St_i hb (by simp) (by simp [loneC]) (by simp) fun H2 e2 s2 k2 => ?_
    simp [wrL, loneC] at k2
    refine St_i k2 (by simp) (by simp) (by simp) fun H3 e3 s3 k3 => ?_
    rw [show l.take1 m = ({ l with waits := 0, kept := 0 }, []) by simp [Lone.take1, k4, k5, k6, k7, k8]] at hq
    exact hq H3 _ H.size (((e1.mono (by simp)).trans e2).trans e3) (by simpa [wrL, loneC] using k3) (Msgs.nil _ _) (Nat.le_refl _)
theorem Take_spec {H : Hp} {b : Nat} {l : Lone} {m : Msg} {Q : RT1} (hb : blk H b (loneC l))
    (hq : ∀ H' v bm, Ext [b] H H' → blk H' b (loneC (l.take m).1) → Msgs H' v (l.take m).2.1 bm → H.size ≤ bm → Q (.tuple #[v, .bool (l.take m).2.2]) H') :
    NCalls Tryz.prog 103 #[at0 b, .agg (msgC m)] H Q := by
  refine E103 ?_
  unfold F103_0
  have l1 := hb.lt
  refine New_i fun H1 b1 hb1 e1 s1 k1 => ?_
  replace hb := hb.ext e1 (by simp)
  have er : (msgC m).extract 0 11 = msgC m := by simp [msgC]
  simp [k1.cells, show (msgC m).size = 11 by simp [msgC], er]
  refine Takes_spec hb fun H2 e2 => ?_
  have z2 := e2.size
  replace k1 := k1.ext e2 (by simp)
  replace hb := hb.ext e2 (by simp)
  cases ht : l.takes m with
  | false =>
    simp
    rw [show l.take m = (l, [], false) by simp [Lone.take, ht]] at hq
    exact hq H2 _ H.size ((e1.trans e2).mono (by simp)) hb (Msgs.nil _ _) (Nat.le_refl _)
  | true =>
    simp [hb.cell, loneC, k1.cells, show (msgC m).size = 11 by simp [msgC], er]
    rw [show l.take m = ((l.take1 m).1, (l.take1 m).2, l.state != 0 && (l.take1 m).1.state == 0) by simp [Lone.take, ht]] at hq
    refine take1_spec hb ht fun H3 v bm e3 k3 hms hbm => ?_
    have hq' := hq H3 v bm (((e1.trans e2).mono (by simp)).trans e3) k3 hms (by omega)
    by_cases h0 : l.state = 0
    · simp [h0] at hq' ⊢; exact hq'
    · have hb0 : (l.state != 0) = true := by simp [h0]
      rw [hb0, Bool.true_and] at hq'
      simp [h0, k3.cell, loneC]
      exact hq'
end YtacidjifocfhkaaGreatDoor
end Go.Proofs
namespace Go.Proofs
open Go Go.NW Go.Pm
set_option maxRecDepth 20000
set_option linter.unusedSimpArgs false
set_option linter.unusedVariables false
namespace YtacidjifocfhkaaGreatDoor
theorem ty_63 : SlTy Tryz.prog 63 4 1 := ⟨by kernel_rfl, Tryz.t4, (Value.bool false), by kernel_rfl, by kernel_rfl, by kernel_rfl, by kernel_rfl, Nat.le_of_ble_eq_true (by kernel_rfl), by kernel_rfl⟩
theorem ty_97 : SlTy Tryz.prog 97 108 1 := ⟨by kernel_rfl, Tryz.t108, (Value.pointer none), by kernel_rfl, by kernel_rfl, by kernel_rfl, by kernel_rfl, Nat.le_of_ble_eq_true (by kernel_rfl), by kernel_rfl⟩
theorem ty_38 : SlTy Tryz.prog 38 68 12 := ⟨by kernel_rfl, Tryz.t68, (Value.agg #[Value.int IntKind.i64 0, Value.int IntKind.i64 0, Value.int IntKind.i64 0, Value.int IntKind.i64 0, Value.int IntKind.i64 0, Value.int IntKind.u32 0, Value.int IntKind.u32 0, Value.int IntKind.u32 0, Value.int IntKind.u32 0, Value.bool false, Value.bool false, Value.bool false]), by kernel_rfl, by kernel_rfl, by kernel_rfl, by kernel_rfl, Nat.le_of_ble_eq_true (by kernel_rfl), by kernel_rfl⟩
theorem ty_153 : SlTy Tryz.prog 153 123 6 := ⟨by kernel_rfl, Tryz.t123, (Value.agg #[Value.int IntKind.i64 0, Value.int IntKind.i64 0, Value.int IntKind.u32 0, Value.int IntKind.u32 0, Value.int IntKind.u32 0, Value.int IntKind.u32 0]), by kernel_rfl, by kernel_rfl, by kernel_rfl, by kernel_rfl, Nat.le_of_ble_eq_true (by kernel_rfl), by kernel_rfl⟩
theorem ty_49 : SlTy Tryz.prog 49 3 1 := ⟨by kernel_rfl, Tryz.t3, (Value.int IntKind.i64 0), by kernel_rfl, by kernel_rfl, by kernel_rfl, by kernel_rfl, Nat.le_of_ble_eq_true (by kernel_rfl), by kernel_rfl⟩
theorem ty_117 : SlTy Tryz.prog 117 66 11 := ⟨by kernel_rfl, Tryz.t66, (Value.agg #[Value.int IntKind.i64 0, Value.int IntKind.i64 0, Value.int IntKind.i64 0, Value.int IntKind.i64 0, Value.int IntKind.u32 0, Value.int IntKind.u32 0, Value.int IntKind.u32 0, Value.int IntKind.u32 0, Value.bool false, Value.bool false, Value.bool false]), by kernel_rfl, by kernel_rfl, by kernel_rfl, by kernel_rfl, Nat.le_of_ble_eq_true (by kernel_rfl), by kernel_rfl⟩
theorem ty_81 : SlTy Tryz.prog 81 5 1 := ⟨by kernel_rfl, Tryz.t5, (Value.int IntKind.u8 0), by kernel_rfl, by kernel_rfl, by kernel_rfl, by kernel_rfl, Nat.le_of_ble_eq_true (by kernel_rfl), by kernel_rfl⟩
theorem ty_95 : SlTy Tryz.prog 95 102 1 := ⟨by kernel_rfl, Tryz.t102, (Value.pointer none), by kernel_rfl, by kernel_rfl, by kernel_rfl, by kernel_rfl, Nat.le_of_ble_eq_true (by kernel_rfl), by kernel_rfl⟩
theorem ty_141 : SlTy Tryz.prog 141 153 1 := ⟨by kernel_rfl, Tryz.t153, (Value.slice none 0 0), by kernel_rfl, by kernel_rfl, by kernel_rfl, by kernel_rfl, Nat.le_of_ble_eq_true (by kernel_rfl), by kernel_rfl⟩
theorem Clone_63 {H : Hp} {v : Value} {xs : List (List Value)} {b : Nat} {Q : RT1} (hs : Slc H 1 v xs b) (h1 : ∀ x ∈ xs, x.all one = true) (hl : xs.length ≤ 2 ^ 30)
    (hq : ∀ H' v' b', Ext [] H H' → Slc H' 1 v' xs b' → H.size ≤ b' → Q v' H') : NCalls Tryz.prog 123 #[v] H Q := by
  refine E123 ?_
  unfold F123_0
  obtain ⟨a, cap, hv, hcap, hn⟩ := hs.shape
  subst hv
  cases a with
  | none =>
    have := hn rfl
    subst this
    simp
    exact hq H _ H.size (.refl _ _) (Slc.nil _ _ _) (Nat.le_refl _)
  | some a =>
    simp
    refine Bsl_i (cells := #[]) (by kernel_rfl) fun H1 b1 hb1 e1 s1 k1 => ?_
    refine append_i ty_63 (xs := []) (ys := xs) (b := b1) (Slc.of (by simp) k1 (by simp) (by simp) (by simp)) (hs.ext e1 (by simp)) h1 (by simpa using hl) fun H2 v2 b2 e2 s2 hb2 => ?_
    exact hq H2 v2 b2 (e1.fresh e2 (by simp; omega)) (by simpa using s2) (by omega)
theorem Clone_38 {H : Hp} {v : Value} {xs : List (List Value)} {b : Nat} {Q : RT1} (hs : Slc H 12 v xs b) (h1 : ∀ x ∈ xs, x.all one = true) (hl : xs.length ≤ 2 ^ 30)
    (hq : ∀ H' v' b', Ext [] H H' → Slc H' 12 v' xs b' → H.size ≤ b' → Q v' H') : NCalls Tryz.prog 88 #[v] H Q := by
  refine E88 ?_
  unfold F88_0
  obtain ⟨a, cap, hv, hcap, hn⟩ := hs.shape
  subst hv
  cases a with
  | none =>
    have := hn rfl
    subst this
    simp
    exact hq H _ H.size (.refl _ _) (Slc.nil _ _ _) (Nat.le_refl _)
  | some a =>
    simp
    refine Bsl_i (cells := #[]) (by kernel_rfl) fun H1 b1 hb1 e1 s1 k1 => ?_
    refine append_i ty_38 (xs := []) (ys := xs) (b := b1) (Slc.of (by simp) k1 (by simp) (by simp) (by simp)) (hs.ext e1 (by simp)) h1 (by simpa using hl) fun H2 v2 b2 e2 s2 hb2 => ?_
    exact hq H2 v2 b2 (e1.fresh e2 (by simp; omega)) (by simpa using s2) (by omega)
theorem Clone_153 {H : Hp} {v : Value} {xs : List (List Value)} {b : Nat} {Q : RT1} (hs : Slc H 6 v xs b) (h1 : ∀ x ∈ xs, x.all one = true) (hl : xs.length ≤ 2 ^ 30)
    (hq : ∀ H' v' b', Ext [] H H' → Slc H' 6 v' xs b' → H.size ≤ b' → Q v' H') : NCalls Tryz.prog 118 #[v] H Q := by
  refine E118 ?_
  unfold F118_0
  obtain ⟨a, cap, hv, hcap, hn⟩ := hs.shape
  subst hv
  cases a with
  | none =>
    have := hn rfl
    subst this
    simp
    exact hq H _ H.size (.refl _ _) (Slc.nil _ _ _) (Nat.le_refl _)
  | some a =>
    simp
    refine Bsl_i (cells := #[]) (by kernel_rfl) fun H1 b1 hb1 e1 s1 k1 => ?_
    refine append_i ty_153 (xs := []) (ys := xs) (b := b1) (Slc.of (by simp) k1 (by simp) (by simp) (by simp)) (hs.ext e1 (by simp)) h1 (by simpa using hl) fun H2 v2 b2 e2 s2 hb2 => ?_
    exact hq H2 v2 b2 (e1.fresh e2 (by simp; omega)) (by simpa using s2) (by omega)
def iv : Value → Int
  | .int _ n => n
  | _ => 0
@[simp] theorem iv_int (k : IntKind) (n : Int) : iv (.int k n) = n := rfl
theorem w64 {n : Int} (h1 : -9223372036854775808 ≤ n) (h2 : n < 9223372036854775808) : IntKind.wrap .i64 n = n := by
  unfold IntKind.wrap; simp [IntKind.bits, IntKind.signed]; omega
theorem wu32 {n : Int} (h1 : 0 ≤ n) (h2 : n < 4294967296) : IntKind.wrap .u32 n = n := by
  unfold IntKind.wrap; simp [IntKind.bits, IntKind.signed]; omega
def boolsC (bs : List Bool) : List (List Value) := bs.map fun b => [.bool b]
def intsC (ns : List Int) : List (List Value) := ns.map fun n => [.int .i64 n]
/-- the first place of x -/
def idx {α : Type} [DecidableEq α] (x : α) : List α → Option Nat
  | [] => none
  | y :: ys => if x = y then some 0 else (idx x ys).map (· + 1)
def idxV {α : Type} [DecidableEq α] (x : α) (l : List α) : Int := match idx x l with | some i => i | none => -1
theorem idx_mem {α : Type} [DecidableEq α] {x : α} : ∀ {l : List α}, (idx x l).isSome = decide (x ∈ l)
  | [] => by simp [idx]
  | y :: ys => by
    simp only [idx, List.mem_cons]
    by_cases h : x = y
    · simp [h]
    · simp [h, idx_mem (l := ys)]
theorem idx_drop {α : Type} [DecidableEq α] {x : α} : ∀ {l : List α} {k : Nat}, (∀ j, j < k → l[j]? ≠ some x) → k ≤ l.length → idx x l = (idx x (l.drop k)).map (· + k)
  | l, 0, _, _ => by simp
  | [], k + 1, _, h => by simp at h
  | y :: ys, k + 1, h, hl => by
    have h0 := h 0 (by omega)
    have : x ≠ y := by intro e; subst e; simp at h0
    rw [idx, if_neg this, idx_drop (l := ys) (k := k) (fun j hj => by have := h (j + 1) (by omega); simpa using this) (by simpa using hl)]
    simp only [List.drop_succ_cons, Option.map_map]
    congr 1
theorem Index_63 {H : Hp} {v : Value} {xs : List Bool} {x : Bool} {b : Nat} {Q : RT1} (hs : Slc H 1 v (boolsC xs) b) (hl : xs.length ≤ 2 ^ 30)
    (hq : Q (.int .i64 (idxV x xs)) H) : NCalls Tryz.prog 162 #[v, .bool x] H Q := by
  refine E162 ?_
  unfold F162_0 F162_8 F162_1 F162_3 F162_7
  obtain ⟨a, cap, hv, hcap, hn⟩ := hs.shape
  have hlen : (boolsC xs).length = xs.length := by simp [boolsC]
  have hs' := hs
  subst hv
  simp [hlen]
  unfold F162_4 F162_5
  refine ⟨fun v H' => H' = H ∧ ∃ k : Nat, v = .int .i64 k ∧ k ≤ xs.length ∧ ∀ j, j < k → xs[j]? ≠ some x, fun v _ => xs.length - (iv v).toNat, ⟨rfl, 0, rfl, by omega, by omega⟩, ?_⟩
  rintro n8 H1 ⟨rfl, k, rfl, hk, hno⟩
  unfold F162_6
  by_cases hlt : k < xs.length
  · obtain ⟨o, hix, hcell, _⟩ := hs'.at (i := k) (by omega)
    have hc := hcell 0 (by omega)
    have hx : ((boolsC xs)[k]'(by omega))[0]? = some (.bool xs[k]) := by simp [boolsC]
    rw [hx] at hc
    rw [hlen] at hix
    simp at hc
    simp [show (k : Int) < xs.length by omega, hix, hc]
    by_cases he : x = xs[k]
    · simp [he]
      have e : idx x xs = some k := by
        rw [idx_drop hno (by omega), List.drop_eq_getElem_cons hlt, idx, if_pos he]; simp
      refine fin hq ?_
      simp [idxV, e]
    · simp [he]
      rw [w64 (by omega) (by omega)]
      refine ⟨⟨k + 1, by simp, by omega, ?_⟩, by simp; omega⟩
      intro j hj
      rcases Nat.lt_or_eq_of_le (Nat.le_of_lt_succ hj) with h | h
      · exact hno j h
      · subst h; rw [List.getElem?_eq_getElem hlt]; intro e; exact he (by simpa using e.symm)
  · simp [show ¬ ((k : Int) < xs.length) by omega]
    unfold F162_2
    have hkl : k = xs.length := by omega
    subst hkl
    refine fin hq ?_
    rw [idxV, idx_drop hno (Nat.le_refl _)]
    simp [idx]
theorem idxV_ge {α : Type} [DecidableEq α] {x : α} {l : List α} : (0 ≤ idxV x l) ↔ x ∈ l := by
  have := idx_mem (x := x) (l := l)
  unfold idxV
  cases h : idx x l with
  | none => simp [h] at this; simp [this]
  | some i => simp [h] at this; simp [this]
theorem Index_49 {H : Hp} {v : Value} {xs : List Int} {x : Int} {b : Nat} {Q : RT1} (hs : Slc H 1 v (intsC xs) b) (hl : xs.length ≤ 2 ^ 30)
    (hq : Q (.int .i64 (idxV x xs)) H) : NCalls Tryz.prog 138 #[v, .int .i64 x] H Q := by
  refine E138 ?_
  unfold F138_0 F138_8 F138_1 F138_3 F138_7
  obtain ⟨a, cap, hv, hcap, hn⟩ := hs.shape
  have hlen : (intsC xs).length = xs.length := by simp [intsC]
  have hs' := hs
  subst hv
  simp [hlen]
  unfold F138_4 F138_5
  refine ⟨fun v H' => H' = H ∧ ∃ k : Nat, v = .int .i64 k ∧ k ≤ xs.length ∧ ∀ j, j < k → xs[j]? ≠ some x, fun v _ => xs.length - (iv v).toNat, ⟨rfl, 0, rfl, by omega, by omega⟩, ?_⟩
  rintro n8 H1 ⟨rfl, k, rfl, hk, hno⟩
  unfold F138_6
  by_cases hlt : k < xs.length
  · obtain ⟨o, hix, hcell, _⟩ := hs'.at (i := k) (by omega)
    have hc := hcell 0 (by omega)
    have hx : ((intsC xs)[k]'(by omega))[0]? = some (.int .i64 xs[k]) := by simp [intsC]
    rw [hx] at hc
    rw [hlen] at hix
    simp at hc
    simp [show (k : Int) < xs.length by omega, hix, hc]
    by_cases he : x = xs[k]
    · simp [he]
      have e : idx x xs = some k := by
        rw [idx_drop hno (by omega), List.drop_eq_getElem_cons hlt, idx, if_pos he]; simp
      refine fin hq ?_
      simp [idxV, e]
    · simp [he]
      rw [w64 (by omega) (by omega)]
      refine ⟨⟨k + 1, by simp, by omega, ?_⟩, by simp; omega⟩
      intro j hj
      rcases Nat.lt_or_eq_of_le (Nat.le_of_lt_succ hj) with h | h
      · exact hno j h
      · subst h; rw [List.getElem?_eq_getElem hlt]; intro e; exact he (by simpa using e.symm)
  · simp [show ¬ ((k : Int) < xs.length) by omega]
    unfold F138_2
    have hkl : k = xs.length := by omega
    subst hkl
    refine fin hq ?_
    rw [idxV, idx_drop hno (Nat.le_refl _)]
    simp [idx]
theorem Contains_63 {H : Hp} {v : Value} {xs : List Bool} {x : Bool} {b : Nat} {Q : RT1} (hs : Slc H 1 v (boolsC xs) b) (hl : xs.length ≤ 2 ^ 30)
    (hq : Q (.bool (decide (x ∈ xs))) H) : NCalls Tryz.prog 143 #[v, .bool x] H Q := by
  refine E143 ?_
  unfold F143_0
  refine Index_63 hs hl ?_
  simp
  refine fin hq ?_
  simp [idxV_ge]
theorem Contains_49 {H : Hp} {v : Value} {xs : List Int} {x : Int} {b : Nat} {Q : RT1} (hs : Slc H 1 v (intsC xs) b) (hl : xs.length ≤ 2 ^ 30)
    (hq : Q (.bool (decide (x ∈ xs))) H) : NCalls Tryz.prog 112 #[v, .int .i64 x] H Q := by
  refine E112 ?_
  unfold F112_0
  refine Index_49 hs hl ?_
  simp
  refine fin hq ?_
  simp [idxV_ge]
end YtacidjifocfhkaaGreatDoor
end Go.Proofs
namespace Go.NW
open Go
theorem flatten_set {n : Nat} : ∀ {xs : List (List Value)} (_ : ∀ x ∈ xs, x.length = n) {i : Nat} {y : List Value} (_ : y.length = n) (_ : i < xs.length) (j : Nat),
    (xs.set i y).flatten[j]? = if i * n ≤ j ∧ j < i * n + n then y[j - i * n]? else xs.flatten[j]?
  | [], _, i, _, _, hi, _ => by simp at hi
  | x :: xs, h, 0, y, hy, _, j => by
    have hx := h x (by simp)
    simp only [List.set_cons_zero, List.flatten_cons, Nat.zero_mul, Nat.zero_le, true_and, Nat.zero_add, Nat.sub_zero]
    by_cases hj : j < n
    · rw [if_pos hj, List.getElem?_append_left (by omega)]
    · rw [if_neg hj, List.getElem?_append_right (by omega), List.getElem?_append_right (by omega), hx, hy]
  | x :: xs, h, i + 1, y, hy, hi, j => by
    have hx := h x (by simp)
    have ih := flatten_set (xs := xs) (fun z hz => h z (by simp [hz])) (i := i) hy (by simpa using hi) (j - n)
    simp only [List.set_cons_succ, List.flatten_cons, Nat.succ_mul]
    by_cases hj : j < n
    · rw [List.getElem?_append_left (by omega), List.getElem?_append_left (by omega), if_neg (by omega)]
    · rw [List.getElem?_append_right (by omega), List.getElem?_append_right (by omega), hx, ih]
      by_cases hc : i * n ≤ j - n ∧ j - n < i * n + n
      · rw [if_pos hc, if_pos (by omega)]; congr 1; omega
      · rw [if_neg hc, if_neg (by omega)]
theorem Slc.st {H : Hp} {n : Nat} {v : Value} {xs : List (List Value)} {b : Nat} (h : Slc H n v xs b) {i : Nat} (hi : i < xs.length) {x : Value} (hx : x.cells.size = n) (h1 : x.cells.toList.all one = true) :
    ∃ o, (∀ k, Ix n v (.int k i) = some (.pointer (some ⟨b, o, none⟩))) ∧
      ∀ K : Hp → Prop, (∀ H', Ext [b] H H' → H'.size = H.size → Slc H' n v (xs.set i x.cells.toList) b → K H') → St n H (.pointer (some ⟨b, o, none⟩)) x K := by
  obtain ⟨g1, ⟨rfl, rfl⟩ | ⟨o, cap, c, hv, hl, hb, hs, hflat⟩⟩ := h
  · simp at hi
  · have hin : i * n + n ≤ xs.length * n := by
      have := Nat.mul_le_mul_right n (Nat.succ_le_of_lt hi)
      rw [Nat.succ_mul] at this; exact this
    have hcap : xs.length * n ≤ cap * n := Nat.mul_le_mul_right n hl
    refine ⟨o + i * n, ?_, ?_⟩
    · intro k
      subst hv
      simp only [Ix]
      rw [if_pos ⟨by omega, by omega⟩]
      simp
    · intro K hK
      refine St_i hb hx (by omega) h1 fun H' e s k => hK H' e s ⟨?_, .inr ⟨o, cap, _, by simpa using hv, by simpa using hl, k, by rw [wrL_size]; exact hs, ?_⟩⟩
      · intro y hy
        rcases List.mem_or_eq_of_mem_set hy with hy | hy
        · exact g1 y hy
        · subst hy; simpa using hx
      · apply List.ext_getElem?
        intro j
        rw [flatten_set g1 (by simpa using hx) hi j, List.getElem?_take, List.getElem?_drop, Array.getElem?_toList, wrL_get _ _ _ _ (by simp [hx]; omega), List.length_set]
        have e := congrArg (fun l : List Value => l[j]?) hflat
        simp only [List.getElem?_take, List.getElem?_drop, Array.getElem?_toList] at e
        have hxl : x.cells.toList.length = n := by simpa using hx
        by_cases hj : j < xs.length * n
        · rw [if_pos hj] at e ⊢
          by_cases hc : i * n ≤ j ∧ j < i * n + n
          · rw [if_pos (by omega), if_pos hc]; congr 1; omega
          · rw [if_neg (by omega), if_neg hc]; exact e
        · rw [if_neg hj] at e ⊢
          rw [if_neg (by omega)]; exact e
/-- the first elements -/
theorem Slc.take {H : Hp} {n : Nat} {v : Value} {xs : List (List Value)} {b k : Nat} (h : Slc H n v xs b) (hk : k ≤ xs.length) (hne : xs ≠ []) (kk : IntKind) :
    ∃ v', Sl n v none (some (.int kk k)) none = some v' ∧ Slc H n v' (xs.take k) b := by
  obtain ⟨g1, ⟨rfl, rfl⟩ | ⟨o, cap, c, rfl, hl, hb, hs, hflat⟩⟩ := h
  · exact (hne rfl).elim
  · refine ⟨.slice (some ⟨b, o, none⟩) k cap, ?_, ?_⟩
    · simp only [Sl, bnd, Option.bind_some]
      rw [if_pos ⟨by omega, by omega⟩]
      simp
    · refine ⟨fun x hx => g1 x (List.mem_of_mem_take hx), .inr ⟨o, cap, c, by simp; omega, by simp; omega, hb, hs, ?_⟩⟩
      have hkl : (xs.take k).length = k := by simp; omega
      rw [hkl]
      have hkn : k * n ≤ xs.length * n := Nat.mul_le_mul_right n hk
      have e : (c.toList.drop o).take (k * n) = (xs.flatten).take (k * n) := by rw [← hflat, List.take_take, Nat.min_eq_left hkn]
      rw [e]
      have fl := flatten_len (n := n) (xs := xs.take k) (fun x hx => g1 x (List.mem_of_mem_take hx))
      conv => lhs; rw [← List.take_append_drop k xs]
      rw [List.flatten_append, List.take_append_of_le_length (by rw [fl, hkl]; exact Nat.le_refl _), List.take_of_length_le (by rw [fl, hkl]; exact Nat.le_refl _)]
/-- the elements from one on -/
theorem Slc.drop {H : Hp} {n : Nat} {v : Value} {xs : List (List Value)} {b k : Nat} (h : Slc H n v xs b) (hk : k ≤ xs.length) (hne : xs ≠ []) (kk : IntKind) :
    ∃ v', Sl n v (some (.int kk k)) none none = some v' ∧ Slc H n v' (xs.drop k) b := by
  obtain ⟨g1, ⟨rfl, rfl⟩ | ⟨o, cap, c, rfl, hl, hb, hs, hflat⟩⟩ := h
  · exact (hne rfl).elim
  · have hkn : k * n ≤ xs.length * n := Nat.mul_le_mul_right n hk
    have hcn : xs.length * n ≤ cap * n := Nat.mul_le_mul_right n hl
    have hck : cap * n = k * n + (cap - k) * n := by rw [← Nat.add_mul]; congr 1; omega
    have hxk : xs.length * n = k * n + (xs.length - k) * n := by rw [← Nat.add_mul]; congr 1; omega
    have fl := flatten_len (n := n) (xs := xs.take k) (fun x hx => g1 x (List.mem_of_mem_take hx))
    have hkl : (xs.take k).length = k := by simp; omega
    have ed : (xs.drop k).flatten = xs.flatten.drop (k * n) := by
      have e0 : xs.flatten = (xs.take k).flatten ++ (xs.drop k).flatten := by rw [← List.flatten_append, List.take_append_drop]
      have fl' : k * n = (xs.take k).flatten.length := by rw [fl, hkl]
      rw [e0, fl', List.drop_left]
    refine ⟨.slice (some ⟨b, if cap = k then o else o + k * n, none⟩) (xs.length - k) (cap - k), ?_, ?_⟩
    · simp only [Sl, bnd, Option.bind_some]
      rw [if_pos ⟨by omega, by omega⟩]
      simp only [Option.bind_some, Int.toNat_natCast]
      split <;> simp
    · refine ⟨fun x hx => g1 x (List.mem_of_mem_drop hx), .inr ⟨if cap = k then o else o + k * n, cap - k, c, by simp, by simp; omega, hb, ?_, ?_⟩⟩
      · split <;> omega
      · have hdl : (xs.drop k).length = xs.length - k := by simp
        rw [hdl, ed, ← hflat]
        split
        · rename_i hc
          have : xs.length - k = 0 := by omega
          rw [this]
          have hx0 : xs.length = k := by omega
          rw [hx0]
          simp
        · rw [List.drop_take, List.drop_drop]
          congr 1
          omega
/-- clear -/
theorem clear_i {P : Program} {T E n : Nat} (ty : SlTy P T E n) {z : Value} (hz : (P.info? E).bind (·.zero) = some z) {H : Hp} {v : Value} {xs : List (List Value)} {b : Nat} {K : RT1} (hs : Slc H n v xs b)
    (h : ∀ H', Ext [b] H H' → H'.size = H.size → Slc H' n v (List.replicate xs.length z.cells.toList) b → K (.tuple #[]) H') : dm P (Builtin.clear_ #[T] 0 #[v]) H K := by
  obtain ⟨inf, z', hi, hn, hz', hzs, hby, hz1⟩ := ty.i
  have hzz : z' = z := by simp [hi, hz'] at hz; exact hz
  subst hzz
  have hzv : rd P H (zeroValue E) = some z' := by simp only [zeroValue, rd_b, rd_typeInfo hi, Option.bind_some, hz']; rfl
  unfold Builtin.clear_
  refine (dm_b (underlying T) _ _ _).2 ((rd_dm _ (rd_underlying ty.u) _).2 ?_)
  obtain ⟨g1, ⟨rfl, rfl⟩ | ⟨o, cap, c, rfl, hl, hb, hsz, hflat⟩⟩ := hs
  · exact h H (.refl _ _) rfl (Slc.nil H n b)
  · cases hx : xs with
    | nil =>
      subst hx
      refine h H (.refl _ _) rfl ⟨by simp, .inr ⟨o, cap, c, rfl, hl, hb, hsz, by simp⟩⟩
    | cons y ys =>
      rw [← hx]
      have hpos : 0 < xs.length := by rw [hx]; simp
      obtain ⟨m, hm⟩ : ∃ m, xs.length = m + 1 := ⟨xs.length - 1, by omega⟩
      have hcap : xs.length * n ≤ cap * n := Nat.mul_le_mul_right n hl
      have hrl : (List.replicate xs.length z'.cells.toList).flatten.length = xs.length * n := by
        have := flatten_len (n := n) (xs := List.replicate xs.length z'.cells.toList) (by intro x hx; rw [List.eq_of_mem_replicate hx]; simpa using hzs)
        simpa using this
      have ez : Builtin.zeroCells z'.cells xs.length = ((List.replicate xs.length z'.cells.toList).flatten).toArray := by
        unfold Builtin.zeroCells
        apply Array.ext'
        apply List.ext_getElem?
        intro i
        by_cases hik : i < xs.length * n
        · have hn0 : 0 < n := by
            rcases Nat.eq_zero_or_pos n with h0 | h0
            · subst h0; simp at hik
            · exact h0
          have hq : i / n < xs.length := by rw [Nat.div_lt_iff_lt_mul hn0]; exact hik
          have hmn : i % n < n := Nat.mod_lt _ hn0
          have e := flatten_get (n := n) (xs := List.replicate xs.length z'.cells.toList) (by intro x hx; rw [List.eq_of_mem_replicate hx]; simpa using hzs) (i := i / n) (by simpa using hq) (i % n) hmn
          rw [show i / n * n + i % n = i by rw [Nat.mul_comm]; exact Nat.div_add_mod i n] at e
          rw [List.toList_toArray, e]
          simp [hzs, hik, hmn]
        · rw [List.getElem?_eq_none (by simp [hzs]; omega), List.toList_toArray, List.getElem?_eq_none (by omega)]
      have goal : dm P (do storeCells ⟨b, o, none⟩ (Builtin.zeroCells z'.cells xs.length).toList; pure (Value.tuple #[])) H K := by
        refine (dm_b _ _ _ _).2 ?_
        obtain ⟨T0, hb0⟩ := hb
        have hlt := get_lt hb0
        rw [ez, List.toList_toArray]
        refine dm_storeCells (T := T0) rfl _ H c 0 _ hb0 (by rw [hrl]; simp only [Nat.add_zero]; omega) ?_ ?_
        · rw [List.all_flatten, List.all_eq_true]
          intro x hx'
          rw [List.eq_of_mem_replicate hx']; exact hz1
        · refine h _ ⟨by simp, fun i hi hni => ?_⟩ (by simp) ⟨fun x hx' => by rw [List.eq_of_mem_replicate hx']; simpa using hzs, .inr ⟨o, cap, wrL c (o + 0) (List.replicate xs.length z'.cells.toList).flatten, by simp, by simpa using hl, ⟨T0, by rw [Array.getElem?_setIfInBounds]; simp [hlt]⟩, by rw [wrL_size]; exact hsz, ?_⟩⟩
          · simp only [List.mem_cons, List.not_mem_nil, or_false] at hni
            rw [Array.getElem?_setIfInBounds, if_neg (fun e => hni e.symm)]
          · apply List.ext_getElem?
            intro j
            rw [List.getElem?_take, List.getElem?_drop, Array.getElem?_toList, wrL_get _ _ _ _ (by rw [hrl]; simp only [Nat.add_zero]; omega), List.length_replicate, hrl]
            by_cases hj : j < xs.length * n
            · rw [if_pos hj, if_pos (by omega)]; congr 1; simp only [Nat.add_zero]; omega
            · rw [if_neg hj, List.getElem?_eq_none (by omega)]
      rw [hm] at goal ⊢
      refine (dm_b (zeroValue E) _ _ _).2 ((rd_dm _ hzv _).2 ?_)
      exact goal
end Go.NW
