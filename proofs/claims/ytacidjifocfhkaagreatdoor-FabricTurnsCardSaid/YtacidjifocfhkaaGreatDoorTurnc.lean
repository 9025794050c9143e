/-
  Part 3 of the proof of: PROVED: for every number of harts and ways and every list of turns, FabricTurns returns true, and all arguments read afterwards as they read before. CONDITIONS: the five errors of package api that the row lists read, when the call begins, as the program's text lays them (the card ties them); nothing else is asked.
-/
import Derived.Test.YtacidjifocfhkaaGreatDoorTurnb
import Derived.Test.YtacidjifocfhkaaGreatDoorProg
import Derived.KernelRfl
namespace Go.Proofs
open Go Go.NW
set_option linter.unusedVariables false
set_option maxRecDepth 100000
namespace YtacidjifocfhkaaGreatDoor
def F13_5 (t6 : Value) (H : Hp) (Q : RT1) : Prop :=
  Q (Value.tuple #[t6, Value.nilIface]) H
def F13_9 (t6 t31 t32 t33 : Value) (H : Hp) (R8 : RT4) (Q : RT1) : Prop :=
  q (Bin Tryz.prog H .lss 3 false t33 t32) fun t34_1 =>
  condV t34_1 (
    q (Ix 1 t31 t33) fun t36_2 =>
    q (Ld H t36_2) fun t37_3 =>
    q (Nz t6) fun t39_4 =>
    q (Fa 0 t39_4) fun t40_5 =>
    q (Ld H t40_5) fun t41_6 =>
    q (Bin Tryz.prog H .mul 3 true (Value.int IntKind.i64 4) t33) fun t43_7 =>
    q (Sl 1 t41_6 (some t43_7) none none) fun t44_8 =>
    NCalls Tryz.prog 38 #[t44_8, (Value.int IntKind.i64 4), t37_3] H (fun t46_9 H_9 =>
    q (Bin Tryz.prog H_9 .add 3 true t33 (Value.int IntKind.i64 1)) fun t47_10 =>
    R8 t6 t31 t32 t47_10 H_9)) (
    F13_5 t6 H Q)
def F13_8 (t6 t31 t32 t33 : Value) (H : Hp) (Q : RT1) : Prop :=
  ∃ (I : RT1) (μ : Value → Hp → Nat), I t33 H ∧ ∀ n33 H1, I n33 H1 → F13_9 t6 t31 t32 n33 H1 (fun m6 m31 m32 m33 H2 => m6 = t6 ∧ m31 = t31 ∧ m32 = t32 ∧ (I m33 H2 ∧ μ m33 H2 < μ n33 H1)) Q
def F13_7 (t6 t31 t32 t33 : Value) (H : Hp) (Q : RT1) : Prop := F13_8 t6 t31 t32 t33 H Q
def F13_10 (t1 t6 : Value) (H : Hp) (Q : RT1) : Prop :=
  q (pv Tryz.prog (Builtin.len_ #[48] 0 #[t1])) fun t32_11 =>
  F13_7 t6 t1 t32_11 (Value.int IntKind.i64 0) H Q
def F13_6 (t1 t6 : Value) (H : Hp) (Q : RT1) : Prop := F13_10 t1 t6 H Q
def F13_4 (t1 t6 : Value) (H : Hp) (Q : RT1) : Prop := F13_6 t1 t6 H Q
def F13_11 (t0 t1 : Value) (H : Hp) (Q : RT1) : Prop :=
  dm Tryz.prog (Instr.makeSlice 81 t0 t0) H (fun t28_12 H_12 =>
  q (pv Tryz.prog (Instr.build 93 #[(0, t28_12)])) fun t29_13 =>
  New (Value.cells t29_13) 93 H_12 (fun t30_14 H_14 =>
  F13_4 t1 t30_14 H_14 Q))
def F13_3 (t0 t1 : Value) (H : Hp) (Q : RT1) : Prop := F13_11 t0 t1 H Q
def F13_12 (t0 t1 : Value) (H : Hp) (Q : RT1) : Prop :=
  q (pv Tryz.prog (Builtin.len_ #[48] 0 #[t1])) fun t22_15 =>
  q (Bin Tryz.prog H .quo 3 true t0 (Value.int IntKind.i64 4)) fun t24_16 =>
  q (Bin Tryz.prog H .gtr 3 false t22_15 t24_16) fun t25_17 =>
  condV t25_17 (
    q (Ld H (Value.pointer (some ⟨1, 0, none⟩))) fun t26_18 =>
    Q (Value.tuple #[(Value.pointer none), t26_18]) H) (
    F13_3 t0 t1 H Q)
def F13_2 (t0 t1 : Value) (H : Hp) (Q : RT1) : Prop := F13_12 t0 t1 H Q
def F13_13 (t0 t1 : Value) (H : Hp) (Q : RT1) : Prop :=
  q (Bin Tryz.prog H .lss 3 true t0 (Value.int IntKind.i64 16)) fun t10_19 =>
  q (gd t10_19 false (some t0)) fun t12_20 =>
  q (gd t10_19 false (Bin Tryz.prog H .gtr 3 true t12_20 (Value.int IntKind.i64 65536))) fun t13_21 =>
  q (Pk t10_19 (Value.bool true) t13_21) fun t14_22 =>
  q (gd t14_22 false (some t0)) fun t16_23 =>
  q (gd t14_22 false (Bin Tryz.prog H .rem 3 true t16_23 (Value.int IntKind.i64 16))) fun t17_24 =>
  q (gd t14_22 false (Bin Tryz.prog H .neq 3 true t17_24 (Value.int IntKind.i64 0))) fun t18_25 =>
  q (Pk t14_22 (Value.bool true) t18_25) fun t19_26 =>
  condV t19_26 (
    q (Ld H (Value.pointer (some ⟨0, 0, none⟩))) fun t20_27 =>
    Q (Value.tuple #[(Value.pointer none), t20_27]) H) (
    F13_2 t0 t1 H Q)
def F13_1 (t0 t1 : Value) (H : Hp) (Q : RT1) : Prop := F13_13 t0 t1 H Q
def F13_14 (t0 t1 : Value) (H : Hp) (Q : RT1) : Prop :=
  F13_1 t0 t1 H Q
def F13_0 (t0 t1 : Value) (H : Hp) (Q : RT1) : Prop := F13_14 t0 t1 H Q
theorem A13_5 {fr : Fr} {H : Hp} {Q : RT1} (h : F13_5 (fr 6) H Q) : xCode Tryz.prog 49 (Code.r (Code.r (Code.r (Code.r (Code.r (bodyOf Tryz.f13)))))) (xRet Tryz.prog [.tmp 4, .tmp 5] Q) fr H :=
  Eq.mp (by kernel_rfl) h
abbrev K13_0 (Q : RT1) : QT := thenK (fun fr H => F13_5 (fr 6) H Q) (xRet Tryz.prog [.tmp 4, .tmp 5] Q)
theorem A13_9 {fr : Fr} {H : Hp} {R8 : RT4} {Q : RT1} (h : F13_9 (fr 6) (fr 31) (fr 32) (fr 33) H R8 Q) : xCode Tryz.prog 49 (Code.l (Code.l (Code.r (Code.l (Code.r (Code.r (Code.r (Code.r (bodyOf Tryz.f13))))))))) (thenK (fun fr H => R8 (fr 6) (fr 31) (fr 32) (fr 33) H) (blockK 0 (K13_0 Q))) fr H :=
  Eq.mp (by kernel_rfl) h
theorem A13_8 {fr : Fr} {H : Hp} {Q : RT1} (h : F13_8 (fr 6) (fr 31) (fr 32) (fr 33) H Q) : xCode Tryz.prog 49 (Code.l (Code.r (Code.l (Code.r (Code.r (Code.r (Code.r (bodyOf Tryz.f13)))))))) (blockK 0 (K13_0 Q)) fr H := by
  obtain ⟨I, μ, h0, hr⟩ := h
  refine loop_cut (a := (Code.l (Code.l (Code.r (Code.l (Code.r (Code.r (Code.r (Code.r (bodyOf Tryz.f13)))))))))) (by kernel_rfl) (fun fr1 H1 => fr1 6 = fr 6 ∧ fr1 31 = fr 31 ∧ fr1 32 = fr 32 ∧ I (fr1 33) H1) (fun fr1 H1 => μ (fr1 33) H1) (by exact ⟨rfl, rfl, rfl, h0⟩) ?_
  intro fr1 H1 hI
  obtain ⟨hu6, hu31, hu32, hI⟩ := hI
  have hb := hr (fr1 33) H1 hI
  rw [← hu6] at hb; rw [← hu31] at hb; rw [← hu32] at hb
  refine ⟨_, ?_, A13_9 hb⟩
  intro fr2 H2 hj
  obtain ⟨ku6, ku31, ku32, hI2, hlt⟩ := hj
  exact ⟨⟨(ku6.trans hu6), (ku31.trans hu31), (ku32.trans hu32), hI2⟩, hlt⟩
theorem A13_7 {fr : Fr} {H : Hp} {Q : RT1} (h : F13_7 (fr 6) (fr 31) (fr 32) (fr 33) H Q) : xCode Tryz.prog 49 (Code.r (Code.l (Code.r (Code.r (Code.r (Code.r (bodyOf Tryz.f13))))))) (K13_0 Q) fr H :=
  block_cut (by kernel_rfl) (A13_8 h)
theorem A13_10 {fr : Fr} {H : Hp} {Q : RT1} (h : F13_10 (fr 1) (fr 6) H Q) : xCode Tryz.prog 49 (Code.l (Code.l (Code.r (Code.r (Code.r (Code.r (bodyOf Tryz.f13))))))) (thenK (fun fr H => F13_7 (fr 6) (fr 31) (fr 32) (fr 33) H Q) (K13_0 Q)) fr H :=
  Eq.mp (by kernel_rfl) h
theorem A13_6 {fr : Fr} {H : Hp} {Q : RT1} (h : F13_6 (fr 1) (fr 6) H Q) : xCode Tryz.prog 49 (Code.l (Code.r (Code.r (Code.r (Code.r (bodyOf Tryz.f13)))))) (K13_0 Q) fr H :=
  seq_cut (by kernel_rfl) (fun _ _ h => A13_7 h) (A13_10 h)
theorem A13_4 {fr : Fr} {H : Hp} {Q : RT1} (h : F13_4 (fr 1) (fr 6) H Q) : xCode Tryz.prog 49 (Code.r (Code.r (Code.r (Code.r (bodyOf Tryz.f13))))) (xRet Tryz.prog [.tmp 4, .tmp 5] Q) fr H :=
  seq_cut (by kernel_rfl) (fun _ _ h => A13_5 h) (A13_6 h)
theorem A13_11 {fr : Fr} {H : Hp} {Q : RT1} (h : F13_11 (fr 0) (fr 1) H Q) : xCode Tryz.prog 49 (Code.l (Code.r (Code.r (Code.r (bodyOf Tryz.f13))))) (thenK (fun fr H => F13_4 (fr 1) (fr 6) H Q) (xRet Tryz.prog [.tmp 4, .tmp 5] Q)) fr H :=
  Eq.mp (by kernel_rfl) h
theorem A13_3 {fr : Fr} {H : Hp} {Q : RT1} (h : F13_3 (fr 0) (fr 1) H Q) : xCode Tryz.prog 49 (Code.r (Code.r (Code.r (bodyOf Tryz.f13)))) (xRet Tryz.prog [.tmp 4, .tmp 5] Q) fr H :=
  seq_cut (by kernel_rfl) (fun _ _ h => A13_4 h) (A13_11 h)
theorem A13_12 {fr : Fr} {H : Hp} {Q : RT1} (h : F13_12 (fr 0) (fr 1) H Q) : xCode Tryz.prog 49 (Code.l (Code.r (Code.r (bodyOf Tryz.f13)))) (thenK (fun fr H => F13_3 (fr 0) (fr 1) H Q) (xRet Tryz.prog [.tmp 4, .tmp 5] Q)) fr H :=
  Eq.mp (by kernel_rfl) h
theorem A13_2 {fr : Fr} {H : Hp} {Q : RT1} (h : F13_2 (fr 0) (fr 1) H Q) : xCode Tryz.prog 49 (Code.r (Code.r (bodyOf Tryz.f13))) (xRet Tryz.prog [.tmp 4, .tmp 5] Q) fr H :=
  seq_cut (by kernel_rfl) (fun _ _ h => A13_3 h) (A13_12 h)
theorem A13_13 {fr : Fr} {H : Hp} {Q : RT1} (h : F13_13 (fr 0) (fr 1) H Q) : xCode Tryz.prog 49 (Code.l (Code.r (bodyOf Tryz.f13))) (thenK (fun fr H => F13_2 (fr 0) (fr 1) H Q) (xRet Tryz.prog [.tmp 4, .tmp 5] Q)) fr H :=
  Eq.mp (by kernel_rfl) h
theorem A13_1 {fr : Fr} {H : Hp} {Q : RT1} (h : F13_1 (fr 0) (fr 1) H Q) : xCode Tryz.prog 49 (Code.r (bodyOf Tryz.f13)) (xRet Tryz.prog [.tmp 4, .tmp 5] Q) fr H :=
  seq_cut (by kernel_rfl) (fun _ _ h => A13_2 h) (A13_13 h)
theorem A13_14 {fr : Fr} {H : Hp} {Q : RT1} (h : F13_14 (fr 0) (fr 1) H Q) : xCode Tryz.prog 49 (Code.l (bodyOf Tryz.f13)) (thenK (fun fr H => F13_1 (fr 0) (fr 1) H Q) (xRet Tryz.prog [.tmp 4, .tmp 5] Q)) fr H :=
  Eq.mp (by kernel_rfl) h
theorem A13_0 {fr : Fr} {H : Hp} {Q : RT1} (h : F13_0 (fr 0) (fr 1) H Q) : xCode Tryz.prog 49 (bodyOf Tryz.f13) (xRet Tryz.prog [.tmp 4, .tmp 5] Q) fr H :=
  seq_cut (by kernel_rfl) (fun _ _ h => A13_1 h) (A13_14 h)
theorem E13 {t0 t1 : Value} {H : Hp} {Q : RT1} (h : F13_0 t0 t1 H Q) : NCalls Tryz.prog 13 #[t0, t1] H Q :=
  NCalls.ofBody (by kernel_rfl) Tryz.func13 (by kernel_rfl) (by kernel_rfl) (Eq.mp (by kernel_rfl) (A13_0 (fr := fun i => (#[t0, t1] : Array Value).getD i undef) (H := H) (Q := Q) (Eq.mp (by kernel_rfl) h)))
def F14_6 (t7 : Value) (H : Hp) (Q : RT1) : Prop :=
  Q (Value.tuple #[t7, Value.nilIface]) H
def F14_10 (t1 t2 t7 t61 t62 : Value) (H : Hp) (R9 : RT5) (Q : RT1) : Prop :=
  q (Bin Tryz.prog H .lss 3 false t62 t61) fun t63_1 =>
  condV t63_1 (
    NCalls Tryz.prog 42 #[t1, t62] H (fun t68_2 H_2 =>
    q (Ex 0 t68_2) fun t69_3 =>
    q (Ex 1 t68_2) fun t70_4 =>
    New #[Value.int IntKind.u32 0, Value.int IntKind.u32 0, Value.int IntKind.u32 0, Value.int IntKind.u32 0] 52 H_2 (fun t11_5 H_5 =>
    St 4 H_5 t11_5 t69_3 ((fun u_6 H_6 =>
    q (Nz t7) fun t73_7 =>
    q (Fa 3 t73_7) fun t74_8 =>
    q (Ld H_6 t74_8) fun t75_9 =>
    q (Fa 0 t2) fun t77_10 =>
    q (Ld H_6 t77_10) fun t78_11 =>
    q (LdA 4 H_6 t11_5) fun t79_12 =>
    NCalls Tryz.prog 43 #[t62, t78_11, t79_12] H_6 (fun t80_13 H_13 =>
    (Ld H_13 t74_8) = some t75_9 ∧ (
    Bsl #[Value.pointer none] 1 108 1 [(0, t80_13)] H_13 (fun t81_14 H_14 =>
    (Ld H_14 t74_8) = some t75_9 ∧ (
    dm Tryz.prog (Builtin.append_ #[97, 97] 0 #[t75_9, t81_14]) H_14 (fun t82_15 H_15 =>
    q (Nz t7) fun t83_16 =>
    q (Fa 3 t83_16) fun t84_17 =>
    St 1 H_15 t84_17 t82_15 ((fun u_18 H_18 =>
    q (Bin Tryz.prog H_18 .add 3 true t62 (Value.int IntKind.i64 1)) fun t85_19 =>
    R9 t1 t2 t7 t61 t85_19 H_18) undef))))))) undef)))) (
    F14_6 t7 H Q)
def F14_9 (t1 t2 t7 t61 t62 : Value) (H : Hp) (Q : RT1) : Prop :=
  ∃ (I : RT1) (μ : Value → Hp → Nat), I t62 H ∧ ∀ n62 H1, I n62 H1 → F14_10 t1 t2 t7 t61 n62 H1 (fun m1 m2 m7 m61 m62 H2 => m1 = t1 ∧ m2 = t2 ∧ m7 = t7 ∧ m61 = t61 ∧ (I m62 H2 ∧ μ m62 H2 < μ n62 H1)) Q
def F14_8 (t1 t2 t7 t61 t62 : Value) (H : Hp) (Q : RT1) : Prop := F14_9 t1 t2 t7 t61 t62 H Q
def F14_11 (t1 t2 t7 : Value) (H : Hp) (Q : RT1) : Prop :=
  NCalls Tryz.prog 41 #[t1] H (fun t60_20 H_20 =>
  q (Bin Tryz.prog H_20 .quo 3 true t60_20 (Value.int IntKind.i64 16)) fun t61_21 =>
  F14_8 t1 t2 t7 t61_21 (Value.int IntKind.i64 0) H_20 Q)
def F14_7 (t1 t2 t7 : Value) (H : Hp) (Q : RT1) : Prop := F14_11 t1 t2 t7 H Q
def F14_5 (t1 t2 t7 : Value) (H : Hp) (Q : RT1) : Prop := F14_7 t1 t2 t7 H Q
def F14_15 (t1 t2 t7 t34 t35 : Value) (H : Hp) (R14 : RT5) (Q : RT1) : Prop :=
  q (Bin Tryz.prog H .lss 3 false t35 t34) fun t36_22 =>
  condV t36_22 (
    q (Fa 1 t2) fun t38_23 =>
    q (Ld H t38_23) fun t39_24 =>
    q (Fa 2 t2) fun t40_25 =>
    q (Ld H t40_25) fun t41_26 =>
    NCalls Tryz.prog 35 #[t39_24, t41_26] H (fun t42_27 H_27 =>
    q (Ex 0 t42_27) fun t43_28 =>
    q (Ex 1 t42_27) fun t44_29 =>
    q (Nz t7) fun t47_30 =>
    q (Fa 1 t47_30) fun t48_31 =>
    q (Ld H_27 t48_31) fun t49_32 =>
    (fun t51_33 H_33 =>
    q (pv Tryz.prog (Instr.build 105 #[(0, t43_28), (1, t51_33)])) fun t52_34 =>
    New (Value.cells t52_34) 105 H_33 (fun t53_35 H_35 =>
    Bsl #[Value.pointer none] 1 102 1 [(0, t53_35)] H_35 (fun t54_36 H_36 =>
    dm Tryz.prog (Builtin.append_ #[95, 95] 0 #[t49_32, t54_36]) H_36 (fun t55_37 H_37 =>
    q (Nz t7) fun t56_38 =>
    q (Fa 1 t56_38) fun t57_39 =>
    St 1 H_37 t57_39 t55_37 ((fun u_40 H_40 =>
    q (Bin Tryz.prog H_40 .add 3 true t35 (Value.int IntKind.i64 1)) fun t58_41 =>
    R14 t1 t2 t7 t34 t58_41 H_40) undef))))) (Value.map (some (Array.size H_27))) (Array.push H_27 (Obj.map #[] 0)))) (
    F14_5 t1 t2 t7 H Q)
def F14_14 (t1 t2 t7 t34 t35 : Value) (H : Hp) (Q : RT1) : Prop :=
  ∃ (I : RT1) (μ : Value → Hp → Nat), I t35 H ∧ ∀ n35 H1, I n35 H1 → F14_15 t1 t2 t7 t34 n35 H1 (fun m1 m2 m7 m34 m35 H2 => m1 = t1 ∧ m2 = t2 ∧ m7 = t7 ∧ m34 = t34 ∧ (I m35 H2 ∧ μ m35 H2 < μ n35 H1)) Q
def F14_13 (t1 t2 t7 t34 t35 : Value) (H : Hp) (Q : RT1) : Prop := F14_14 t1 t2 t7 t34 t35 H Q
def F14_16 (t1 t2 t7 : Value) (H : Hp) (Q : RT1) : Prop :=
  q (Fa 0 t2) fun t33_42 =>
  q (Ld H t33_42) fun t34_43 =>
  F14_13 t1 t2 t7 t34_43 (Value.int IntKind.i64 0) H Q
def F14_12 (t1 t2 t7 : Value) (H : Hp) (Q : RT1) : Prop := F14_16 t1 t2 t7 H Q
def F14_4 (t1 t2 t7 : Value) (H : Hp) (Q : RT1) : Prop := F14_12 t1 t2 t7 H Q
def F14_17 (t1 t2 t7 : Value) (H : Hp) (Q : RT1) : Prop :=
  q (Fa 0 t2) fun t24_44 =>
  q (Ld H t24_44) fun t25_45 =>
  q (Fa 3 t2) fun t26_46 =>
  q (Ld H t26_46) fun t27_47 =>
  NCalls Tryz.prog 40 #[t25_45, t27_47] H (fun t28_48 H_48 =>
  q (Ex 0 t28_48) fun t29_49 =>
  q (Ex 1 t28_48) fun t30_50 =>
  q (Nz t7) fun t31_51 =>
  q (Fa 2 t31_51) fun t32_52 =>
  St 1 H_48 t32_52 t29_49 ((fun u_53 H_53 =>
  F14_4 t1 t2 t7 H_53 Q) undef))
def F14_3 (t1 t2 t7 : Value) (H : Hp) (Q : RT1) : Prop := F14_17 t1 t2 t7 H Q
def F14_18 (t1 t2 : Value) (H : Hp) (Q : RT1) : Prop :=
  NCalls Tryz.prog 39 #[t1] H (fun t19_54 H_54 =>
  q (pv Tryz.prog (Instr.build 99 #[(0, t19_54)])) fun t20_55 =>
  New (Value.cells t20_55) 99 H_54 (fun t21_56 H_56 =>
  F14_3 t1 t2 t21_56 H_56 Q))
def F14_2 (t1 t2 : Value) (H : Hp) (Q : RT1) : Prop := F14_18 t1 t2 H Q
def F14_19 (t1 t2 : Value) (H : Hp) (Q : RT1) : Prop :=
  q (LdA 4 H t2) fun t13_57 =>
  NCalls Tryz.prog 10 #[t13_57] H (fun t14_58 H_58 =>
  q (Bin Tryz.prog H_58 .neq 26 true t14_58 Value.nilIface) fun t16_59 =>
  condV t16_59 (
    Q (Value.tuple #[(Value.pointer none), t14_58]) H_58) (
    F14_2 t1 t2 H_58 Q))
def F14_1 (t1 t2 : Value) (H : Hp) (Q : RT1) : Prop := F14_19 t1 t2 H Q
def F14_20 (t0 t1 : Value) (H : Hp) (Q : RT1) : Prop :=
  New (Value.cells t0) 23 H (fun t2_60 H_60 =>
  F14_1 t1 t2_60 H_60 Q)
def F14_0 (t0 t1 : Value) (H : Hp) (Q : RT1) : Prop := F14_20 t0 t1 H Q
theorem A14_6 {fr : Fr} {H : Hp} {Q : RT1} (h : F14_6 (fr 7) H Q) : xCode Tryz.prog 87 (Code.r (Code.r (Code.r (Code.r (Code.r (Code.r (bodyOf Tryz.f14))))))) (xRet Tryz.prog [.tmp 4, .tmp 5] Q) fr H :=
  Eq.mp (by kernel_rfl) h
abbrev K14_1 (Q : RT1) : QT := thenK (fun fr H => F14_6 (fr 7) H Q) (xRet Tryz.prog [.tmp 4, .tmp 5] Q)
theorem A14_10 {fr : Fr} {H : Hp} {R9 : RT5} {Q : RT1} (h : F14_10 (fr 1) (fr 2) (fr 7) (fr 61) (fr 62) H R9 Q) : xCode Tryz.prog 87 (Code.l (Code.l (Code.r (Code.l (Code.r (Code.r (Code.r (Code.r (Code.r (bodyOf Tryz.f14)))))))))) (thenK (fun fr H => R9 (fr 1) (fr 2) (fr 7) (fr 61) (fr 62) H) (blockK 2 (K14_1 Q))) fr H :=
  Eq.mp (by kernel_rfl) h
theorem A14_9 {fr : Fr} {H : Hp} {Q : RT1} (h : F14_9 (fr 1) (fr 2) (fr 7) (fr 61) (fr 62) H Q) : xCode Tryz.prog 87 (Code.l (Code.r (Code.l (Code.r (Code.r (Code.r (Code.r (Code.r (bodyOf Tryz.f14))))))))) (blockK 2 (K14_1 Q)) fr H := by
  obtain ⟨I, μ, h0, hr⟩ := h
  refine loop_cut (a := (Code.l (Code.l (Code.r (Code.l (Code.r (Code.r (Code.r (Code.r (Code.r (bodyOf Tryz.f14))))))))))) (by kernel_rfl) (fun fr1 H1 => fr1 1 = fr 1 ∧ fr1 2 = fr 2 ∧ fr1 7 = fr 7 ∧ fr1 61 = fr 61 ∧ I (fr1 62) H1) (fun fr1 H1 => μ (fr1 62) H1) (by exact ⟨rfl, rfl, rfl, rfl, h0⟩) ?_
  intro fr1 H1 hI
  obtain ⟨hu1, hu2, hu7, hu61, hI⟩ := hI
  have hb := hr (fr1 62) H1 hI
  rw [← hu1] at hb; rw [← hu2] at hb; rw [← hu7] at hb; rw [← hu61] at hb
  refine ⟨_, ?_, A14_10 hb⟩
  intro fr2 H2 hj
  obtain ⟨ku1, ku2, ku7, ku61, hI2, hlt⟩ := hj
  exact ⟨⟨(ku1.trans hu1), (ku2.trans hu2), (ku7.trans hu7), (ku61.trans hu61), hI2⟩, hlt⟩
theorem A14_8 {fr : Fr} {H : Hp} {Q : RT1} (h : F14_8 (fr 1) (fr 2) (fr 7) (fr 61) (fr 62) H Q) : xCode Tryz.prog 87 (Code.r (Code.l (Code.r (Code.r (Code.r (Code.r (Code.r (bodyOf Tryz.f14)))))))) (K14_1 Q) fr H :=
  block_cut (by kernel_rfl) (A14_9 h)
theorem A14_11 {fr : Fr} {H : Hp} {Q : RT1} (h : F14_11 (fr 1) (fr 2) (fr 7) H Q) : xCode Tryz.prog 87 (Code.l (Code.l (Code.r (Code.r (Code.r (Code.r (Code.r (bodyOf Tryz.f14)))))))) (thenK (fun fr H => F14_8 (fr 1) (fr 2) (fr 7) (fr 61) (fr 62) H Q) (K14_1 Q)) fr H :=
  Eq.mp (by kernel_rfl) h
theorem A14_7 {fr : Fr} {H : Hp} {Q : RT1} (h : F14_7 (fr 1) (fr 2) (fr 7) H Q) : xCode Tryz.prog 87 (Code.l (Code.r (Code.r (Code.r (Code.r (Code.r (bodyOf Tryz.f14))))))) (K14_1 Q) fr H :=
  seq_cut (by kernel_rfl) (fun _ _ h => A14_8 h) (A14_11 h)
theorem A14_5 {fr : Fr} {H : Hp} {Q : RT1} (h : F14_5 (fr 1) (fr 2) (fr 7) H Q) : xCode Tryz.prog 87 (Code.r (Code.r (Code.r (Code.r (Code.r (bodyOf Tryz.f14)))))) (xRet Tryz.prog [.tmp 4, .tmp 5] Q) fr H :=
  seq_cut (by kernel_rfl) (fun _ _ h => A14_6 h) (A14_7 h)
abbrev K14_2 (Q : RT1) : QT := thenK (fun fr H => F14_5 (fr 1) (fr 2) (fr 7) H Q) (xRet Tryz.prog [.tmp 4, .tmp 5] Q)
theorem A14_15 {fr : Fr} {H : Hp} {R14 : RT5} {Q : RT1} (h : F14_15 (fr 1) (fr 2) (fr 7) (fr 34) (fr 35) H R14 Q) : xCode Tryz.prog 87 (Code.l (Code.l (Code.r (Code.l (Code.r (Code.r (Code.r (Code.r (bodyOf Tryz.f14))))))))) (thenK (fun fr H => R14 (fr 1) (fr 2) (fr 7) (fr 34) (fr 35) H) (blockK 0 (K14_2 Q))) fr H :=
  Eq.mp (by kernel_rfl) h
theorem A14_14 {fr : Fr} {H : Hp} {Q : RT1} (h : F14_14 (fr 1) (fr 2) (fr 7) (fr 34) (fr 35) H Q) : xCode Tryz.prog 87 (Code.l (Code.r (Code.l (Code.r (Code.r (Code.r (Code.r (bodyOf Tryz.f14)))))))) (blockK 0 (K14_2 Q)) fr H := by
  obtain ⟨I, μ, h0, hr⟩ := h
  refine loop_cut (a := (Code.l (Code.l (Code.r (Code.l (Code.r (Code.r (Code.r (Code.r (bodyOf Tryz.f14)))))))))) (by kernel_rfl) (fun fr1 H1 => fr1 1 = fr 1 ∧ fr1 2 = fr 2 ∧ fr1 7 = fr 7 ∧ fr1 34 = fr 34 ∧ I (fr1 35) H1) (fun fr1 H1 => μ (fr1 35) H1) (by exact ⟨rfl, rfl, rfl, rfl, h0⟩) ?_
  intro fr1 H1 hI
  obtain ⟨hu1, hu2, hu7, hu34, hI⟩ := hI
  have hb := hr (fr1 35) H1 hI
  rw [← hu1] at hb; rw [← hu2] at hb; rw [← hu7] at hb; rw [← hu34] at hb
  refine ⟨_, ?_, A14_15 hb⟩
  intro fr2 H2 hj
  obtain ⟨ku1, ku2, ku7, ku34, hI2, hlt⟩ := hj
  exact ⟨⟨(ku1.trans hu1), (ku2.trans hu2), (ku7.trans hu7), (ku34.trans hu34), hI2⟩, hlt⟩
theorem A14_13 {fr : Fr} {H : Hp} {Q : RT1} (h : F14_13 (fr 1) (fr 2) (fr 7) (fr 34) (fr 35) H Q) : xCode Tryz.prog 87 (Code.r (Code.l (Code.r (Code.r (Code.r (Code.r (bodyOf Tryz.f14))))))) (K14_2 Q) fr H :=
  block_cut (by kernel_rfl) (A14_14 h)
theorem A14_16 {fr : Fr} {H : Hp} {Q : RT1} (h : F14_16 (fr 1) (fr 2) (fr 7) H Q) : xCode Tryz.prog 87 (Code.l (Code.l (Code.r (Code.r (Code.r (Code.r (bodyOf Tryz.f14))))))) (thenK (fun fr H => F14_13 (fr 1) (fr 2) (fr 7) (fr 34) (fr 35) H Q) (K14_2 Q)) fr H :=
  Eq.mp (by kernel_rfl) h
theorem A14_12 {fr : Fr} {H : Hp} {Q : RT1} (h : F14_12 (fr 1) (fr 2) (fr 7) H Q) : xCode Tryz.prog 87 (Code.l (Code.r (Code.r (Code.r (Code.r (bodyOf Tryz.f14)))))) (K14_2 Q) fr H :=
  seq_cut (by kernel_rfl) (fun _ _ h => A14_13 h) (A14_16 h)
theorem A14_4 {fr : Fr} {H : Hp} {Q : RT1} (h : F14_4 (fr 1) (fr 2) (fr 7) H Q) : xCode Tryz.prog 87 (Code.r (Code.r (Code.r (Code.r (bodyOf Tryz.f14))))) (xRet Tryz.prog [.tmp 4, .tmp 5] Q) fr H :=
  seq_cut (by kernel_rfl) (fun _ _ h => A14_5 h) (A14_12 h)
theorem A14_17 {fr : Fr} {H : Hp} {Q : RT1} (h : F14_17 (fr 1) (fr 2) (fr 7) H Q) : xCode Tryz.prog 87 (Code.l (Code.r (Code.r (Code.r (bodyOf Tryz.f14))))) (thenK (fun fr H => F14_4 (fr 1) (fr 2) (fr 7) H Q) (xRet Tryz.prog [.tmp 4, .tmp 5] Q)) fr H :=
  Eq.mp (by kernel_rfl) h
theorem A14_3 {fr : Fr} {H : Hp} {Q : RT1} (h : F14_3 (fr 1) (fr 2) (fr 7) H Q) : xCode Tryz.prog 87 (Code.r (Code.r (Code.r (bodyOf Tryz.f14)))) (xRet Tryz.prog [.tmp 4, .tmp 5] Q) fr H :=
  seq_cut (by kernel_rfl) (fun _ _ h => A14_4 h) (A14_17 h)
theorem A14_18 {fr : Fr} {H : Hp} {Q : RT1} (h : F14_18 (fr 1) (fr 2) H Q) : xCode Tryz.prog 87 (Code.l (Code.r (Code.r (bodyOf Tryz.f14)))) (thenK (fun fr H => F14_3 (fr 1) (fr 2) (fr 7) H Q) (xRet Tryz.prog [.tmp 4, .tmp 5] Q)) fr H :=
  Eq.mp (by kernel_rfl) h
theorem A14_2 {fr : Fr} {H : Hp} {Q : RT1} (h : F14_2 (fr 1) (fr 2) H Q) : xCode Tryz.prog 87 (Code.r (Code.r (bodyOf Tryz.f14))) (xRet Tryz.prog [.tmp 4, .tmp 5] Q) fr H :=
  seq_cut (by kernel_rfl) (fun _ _ h => A14_3 h) (A14_18 h)
theorem A14_19 {fr : Fr} {H : Hp} {Q : RT1} (h : F14_19 (fr 1) (fr 2) H Q) : xCode Tryz.prog 87 (Code.l (Code.r (bodyOf Tryz.f14))) (thenK (fun fr H => F14_2 (fr 1) (fr 2) H Q) (xRet Tryz.prog [.tmp 4, .tmp 5] Q)) fr H :=
  Eq.mp (by kernel_rfl) h
theorem A14_1 {fr : Fr} {H : Hp} {Q : RT1} (h : F14_1 (fr 1) (fr 2) H Q) : xCode Tryz.prog 87 (Code.r (bodyOf Tryz.f14)) (xRet Tryz.prog [.tmp 4, .tmp 5] Q) fr H :=
  seq_cut (by kernel_rfl) (fun _ _ h => A14_2 h) (A14_19 h)
theorem A14_20 {fr : Fr} {H : Hp} {Q : RT1} (h : F14_20 (fr 0) (fr 1) H Q) : xCode Tryz.prog 87 (Code.l (bodyOf Tryz.f14)) (thenK (fun fr H => F14_1 (fr 1) (fr 2) H Q) (xRet Tryz.prog [.tmp 4, .tmp 5] Q)) fr H :=
  Eq.mp (by kernel_rfl) h
theorem A14_0 {fr : Fr} {H : Hp} {Q : RT1} (h : F14_0 (fr 0) (fr 1) H Q) : xCode Tryz.prog 87 (bodyOf Tryz.f14) (xRet Tryz.prog [.tmp 4, .tmp 5] Q) fr H :=
  seq_cut (by kernel_rfl) (fun _ _ h => A14_1 h) (A14_20 h)
theorem E14 {t0 t1 : Value} {H : Hp} {Q : RT1} (h : F14_0 t0 t1 H Q) : NCalls Tryz.prog 14 #[t0, t1] H Q :=
  NCalls.ofBody (by kernel_rfl) Tryz.func14 (by kernel_rfl) (by kernel_rfl) (Eq.mp (by kernel_rfl) (A14_0 (fr := fun i => (#[t0, t1] : Array Value).getD i undef) (H := H) (Q := Q) (Eq.mp (by kernel_rfl) h)))
def F16_8 (t14 : Value) (H : Hp) (Q : RT1) : Prop :=
  Q t14 H
def F16_9 (t0 t2 t9 t13 t14 : Value) (H : Hp) (Q : RT1) : Prop :=
  condV t14 (
    q (Nz t9) fun t68_1 =>
    q (Fa 0 t68_1) fun t69_2 =>
    q (Ld H t69_2) fun t70_3 =>
    q (pv Tryz.prog (Instr.build 123 #[(0, t2), (1, (Value.int IntKind.i64 1))])) fun t72_4 =>
    NCalls Tryz.prog 52 #[t70_3, t72_4] H (fun t73_5 H_5 =>
    q (Nz t0) fun t75_6 =>
    q (Fa 2 t75_6) fun t76_7 =>
    q (Ld H_5 t76_7) fun t77_8 =>
    NCalls Tryz.prog 53 #[t77_8, t13] H_5 (fun t79_9 H_9 =>
    F16_8 t14 H_9 Q))) (
    F16_8 t14 H Q)
def F16_7 (t0 t2 t9 t13 t14 : Value) (H : Hp) (Q : RT1) : Prop := F16_9 t0 t2 t9 t13 t14 H Q
def F16_10 (t0 t1 t2 t3 t9 : Value) (H : Hp) (Q : RT1) : Prop :=
  NCalls Tryz.prog 50 #[t9, t2, t1] H (fun t61_10 H_10 =>
  NCalls Tryz.prog 51 #[t61_10, t3] H_10 (fun t63_11 H_11 =>
  q (Ex 0 t63_11) fun t64_12 =>
  q (Ex 1 t63_11) fun t65_13 =>
  F16_7 t0 t2 t9 t64_12 t65_13 H_11 Q))
def F16_6 (t0 t1 t2 t3 t9 : Value) (H : Hp) (Q : RT1) : Prop := F16_10 t0 t1 t2 t3 t9 H Q
def F16_11 (t0 t1 t2 t3 t9 t11 t12 : Value) (H : Hp) (Q : RT1) : Prop :=
  q (Bin Tryz.prog H .geq 3 true t11 (Value.int IntKind.i64 4)) fun t48_14 =>
  q (gd t48_14 false (some t9)) fun t50_15 =>
  q (gd t48_14 false (some t0)) fun t51_16 =>
  q (gd t48_14 false (some t2)) fun t52_17 =>
  q (gd t48_14 false (some t12)) fun t53_18 =>
  gl t48_14 false (fun K => NCalls Tryz.prog 49 #[t50_15, t51_16, t52_17, t53_18] H K) H fun t54_19 H_19 =>
  q (gd t48_14 false (pv Tryz.prog (Op.unary .not t54_19))) fun t55_20 =>
  q (Pk t48_14 (Value.bool true) t55_20) fun t56_21 =>
  condV t56_21 (
    Q (Value.bool false) H_19) (
    F16_6 t0 t1 t2 t3 t9 H_19 Q)
def F16_5 (t0 t1 t2 t3 t9 t11 t12 : Value) (H : Hp) (Q : RT1) : Prop := F16_11 t0 t1 t2 t3 t9 t11 t12 H Q
def F16_12 (t0 t1 t2 t3 t9 : Value) (H : Hp) (Q : RT1) : Prop :=
  NCalls Tryz.prog 48 #[t9] H (fun t44_22 H_22 =>
  q (Ex 0 t44_22) fun t45_23 =>
  q (Ex 1 t44_22) fun t46_24 =>
  F16_5 t0 t1 t2 t3 t9 t45_23 t46_24 H_22 Q)
def F16_4 (t0 t1 t2 t3 t9 : Value) (H : Hp) (Q : RT1) : Prop := F16_12 t0 t1 t2 t3 t9 H Q
def F16_13 (t0 t1 t2 t3 t9 : Value) (H : Hp) (Q : RT1) : Prop :=
  NCalls Tryz.prog 45 #[t9, t2] H (fun t29_25 H_25 =>
  q (Bin Tryz.prog H_25 .neq 111 true t29_25 (Value.pointer none)) fun t31_26 =>
  q (gd t31_26 true (some t29_25)) fun t33_27 =>
  q (gd t31_26 true (some t3)) fun t34_28 =>
  gl t31_26 true (fun K => NCalls Tryz.prog 46 #[t33_27, t34_28] H_25 K) H_25 fun t35_29 H_29 =>
  q (gd t31_26 true (some t35_29)) fun t36_30 =>
  q (gd t36_30 false (some t29_25)) fun t37_31 =>
  gl t36_30 false (fun K => NCalls Tryz.prog 47 #[t37_31] H_29 K) H_29 fun t38_32 H_32 =>
  q (gd t36_30 false (Bin Tryz.prog H_32 .neq 3 true t38_32 (Value.int IntKind.i64 0))) fun t39_33 =>
  q (gd t31_26 true (Pk t36_30 (Value.bool true) t39_33)) fun t40_34 =>
  q (Pk t31_26 t40_34 (Value.bool false)) fun t41_35 =>
  condV t41_35 (
    Q (Value.bool false) H_32) (
    F16_4 t0 t1 t2 t3 t9 H_32 Q))
def F16_3 (t0 t1 t2 t3 t9 : Value) (H : Hp) (Q : RT1) : Prop := F16_13 t0 t1 t2 t3 t9 H Q
def F16_14 (t0 t1 t2 t3 : Value) (H : Hp) (Q : RT1) : Prop :=
  q (Nz t0) fun t21_36 =>
  q (Fa 1 t21_36) fun t22_37 =>
  q (Ld H t22_37) fun t23_38 =>
  q (Ix 1 t23_38 t1) fun t25_39 =>
  q (Ld H t25_39) fun t26_40 =>
  F16_3 t0 t1 t2 t3 t26_40 H Q
def F16_2 (t0 t1 t2 t3 : Value) (H : Hp) (Q : RT1) : Prop := F16_14 t0 t1 t2 t3 H Q
def F16_15 (t0 t1 t2 t3 : Value) (H : Hp) (Q : RT1) : Prop :=
  NCalls Tryz.prog 44 #[t0, t1, t2] H (fun t18_41 H_41 =>
  q (pv Tryz.prog (Op.unary .not t18_41)) fun t19_42 =>
  condV t19_42 (
    Q (Value.bool false) H_41) (
    F16_2 t0 t1 t2 t3 H_41 Q))
def F16_1 (t0 t1 t2 t3 : Value) (H : Hp) (Q : RT1) : Prop := F16_15 t0 t1 t2 t3 H Q
def F16_16 (t0 t1 t2 t3 : Value) (H : Hp) (Q : RT1) : Prop :=
  F16_1 t0 t1 t2 t3 H Q
def F16_0 (t0 t1 t2 t3 : Value) (H : Hp) (Q : RT1) : Prop := F16_16 t0 t1 t2 t3 H Q
theorem A16_8 {fr : Fr} {H : Hp} {Q : RT1} (h : F16_8 (fr 14) H Q) : xCode Tryz.prog 81 (Code.r (Code.r (Code.r (Code.r (Code.r (Code.r (Code.r (Code.r (bodyOf Tryz.f16))))))))) (xRet Tryz.prog [.tmp 8] Q) fr H :=
  Eq.mp (by kernel_rfl) h
theorem A16_9 {fr : Fr} {H : Hp} {Q : RT1} (h : F16_9 (fr 0) (fr 2) (fr 9) (fr 13) (fr 14) H Q) : xCode Tryz.prog 81 (Code.l (Code.r (Code.r (Code.r (Code.r (Code.r (Code.r (Code.r (bodyOf Tryz.f16))))))))) (thenK (fun fr H => F16_8 (fr 14) H Q) (xRet Tryz.prog [.tmp 8] Q)) fr H :=
  Eq.mp (by kernel_rfl) h
theorem A16_7 {fr : Fr} {H : Hp} {Q : RT1} (h : F16_7 (fr 0) (fr 2) (fr 9) (fr 13) (fr 14) H Q) : xCode Tryz.prog 81 (Code.r (Code.r (Code.r (Code.r (Code.r (Code.r (Code.r (bodyOf Tryz.f16)))))))) (xRet Tryz.prog [.tmp 8] Q) fr H :=
  seq_cut (by kernel_rfl) (fun _ _ h => A16_8 h) (A16_9 h)
theorem A16_10 {fr : Fr} {H : Hp} {Q : RT1} (h : F16_10 (fr 0) (fr 1) (fr 2) (fr 3) (fr 9) H Q) : xCode Tryz.prog 81 (Code.l (Code.r (Code.r (Code.r (Code.r (Code.r (Code.r (bodyOf Tryz.f16)))))))) (thenK (fun fr H => F16_7 (fr 0) (fr 2) (fr 9) (fr 13) (fr 14) H Q) (xRet Tryz.prog [.tmp 8] Q)) fr H :=
  Eq.mp (by kernel_rfl) h
theorem A16_6 {fr : Fr} {H : Hp} {Q : RT1} (h : F16_6 (fr 0) (fr 1) (fr 2) (fr 3) (fr 9) H Q) : xCode Tryz.prog 81 (Code.r (Code.r (Code.r (Code.r (Code.r (Code.r (bodyOf Tryz.f16))))))) (xRet Tryz.prog [.tmp 8] Q) fr H :=
  seq_cut (by kernel_rfl) (fun _ _ h => A16_7 h) (A16_10 h)
theorem A16_11 {fr : Fr} {H : Hp} {Q : RT1} (h : F16_11 (fr 0) (fr 1) (fr 2) (fr 3) (fr 9) (fr 11) (fr 12) H Q) : xCode Tryz.prog 81 (Code.l (Code.r (Code.r (Code.r (Code.r (Code.r (bodyOf Tryz.f16))))))) (thenK (fun fr H => F16_6 (fr 0) (fr 1) (fr 2) (fr 3) (fr 9) H Q) (xRet Tryz.prog [.tmp 8] Q)) fr H :=
  Eq.mp (by kernel_rfl) h
theorem A16_5 {fr : Fr} {H : Hp} {Q : RT1} (h : F16_5 (fr 0) (fr 1) (fr 2) (fr 3) (fr 9) (fr 11) (fr 12) H Q) : xCode Tryz.prog 81 (Code.r (Code.r (Code.r (Code.r (Code.r (bodyOf Tryz.f16)))))) (xRet Tryz.prog [.tmp 8] Q) fr H :=
  seq_cut (by kernel_rfl) (fun _ _ h => A16_6 h) (A16_11 h)
theorem A16_12 {fr : Fr} {H : Hp} {Q : RT1} (h : F16_12 (fr 0) (fr 1) (fr 2) (fr 3) (fr 9) H Q) : xCode Tryz.prog 81 (Code.l (Code.r (Code.r (Code.r (Code.r (bodyOf Tryz.f16)))))) (thenK (fun fr H => F16_5 (fr 0) (fr 1) (fr 2) (fr 3) (fr 9) (fr 11) (fr 12) H Q) (xRet Tryz.prog [.tmp 8] Q)) fr H :=
  Eq.mp (by kernel_rfl) h
theorem A16_4 {fr : Fr} {H : Hp} {Q : RT1} (h : F16_4 (fr 0) (fr 1) (fr 2) (fr 3) (fr 9) H Q) : xCode Tryz.prog 81 (Code.r (Code.r (Code.r (Code.r (bodyOf Tryz.f16))))) (xRet Tryz.prog [.tmp 8] Q) fr H :=
  seq_cut (by kernel_rfl) (fun _ _ h => A16_5 h) (A16_12 h)
theorem A16_13 {fr : Fr} {H : Hp} {Q : RT1} (h : F16_13 (fr 0) (fr 1) (fr 2) (fr 3) (fr 9) H Q) : xCode Tryz.prog 81 (Code.l (Code.r (Code.r (Code.r (bodyOf Tryz.f16))))) (thenK (fun fr H => F16_4 (fr 0) (fr 1) (fr 2) (fr 3) (fr 9) H Q) (xRet Tryz.prog [.tmp 8] Q)) fr H :=
  Eq.mp (by kernel_rfl) h
theorem A16_3 {fr : Fr} {H : Hp} {Q : RT1} (h : F16_3 (fr 0) (fr 1) (fr 2) (fr 3) (fr 9) H Q) : xCode Tryz.prog 81 (Code.r (Code.r (Code.r (bodyOf Tryz.f16)))) (xRet Tryz.prog [.tmp 8] Q) fr H :=
  seq_cut (by kernel_rfl) (fun _ _ h => A16_4 h) (A16_13 h)
theorem A16_14 {fr : Fr} {H : Hp} {Q : RT1} (h : F16_14 (fr 0) (fr 1) (fr 2) (fr 3) H Q) : xCode Tryz.prog 81 (Code.l (Code.r (Code.r (bodyOf Tryz.f16)))) (thenK (fun fr H => F16_3 (fr 0) (fr 1) (fr 2) (fr 3) (fr 9) H Q) (xRet Tryz.prog [.tmp 8] Q)) fr H :=
  Eq.mp (by kernel_rfl) h
theorem A16_2 {fr : Fr} {H : Hp} {Q : RT1} (h : F16_2 (fr 0) (fr 1) (fr 2) (fr 3) H Q) : xCode Tryz.prog 81 (Code.r (Code.r (bodyOf Tryz.f16))) (xRet Tryz.prog [.tmp 8] Q) fr H :=
  seq_cut (by kernel_rfl) (fun _ _ h => A16_3 h) (A16_14 h)
theorem A16_15 {fr : Fr} {H : Hp} {Q : RT1} (h : F16_15 (fr 0) (fr 1) (fr 2) (fr 3) H Q) : xCode Tryz.prog 81 (Code.l (Code.r (bodyOf Tryz.f16))) (thenK (fun fr H => F16_2 (fr 0) (fr 1) (fr 2) (fr 3) H Q) (xRet Tryz.prog [.tmp 8] Q)) fr H :=
  Eq.mp (by kernel_rfl) h
theorem A16_1 {fr : Fr} {H : Hp} {Q : RT1} (h : F16_1 (fr 0) (fr 1) (fr 2) (fr 3) H Q) : xCode Tryz.prog 81 (Code.r (bodyOf Tryz.f16)) (xRet Tryz.prog [.tmp 8] Q) fr H :=
  seq_cut (by kernel_rfl) (fun _ _ h => A16_2 h) (A16_15 h)
theorem A16_16 {fr : Fr} {H : Hp} {Q : RT1} (h : F16_16 (fr 0) (fr 1) (fr 2) (fr 3) H Q) : xCode Tryz.prog 81 (Code.l (bodyOf Tryz.f16)) (thenK (fun fr H => F16_1 (fr 0) (fr 1) (fr 2) (fr 3) H Q) (xRet Tryz.prog [.tmp 8] Q)) fr H :=
  Eq.mp (by kernel_rfl) h
theorem A16_0 {fr : Fr} {H : Hp} {Q : RT1} (h : F16_0 (fr 0) (fr 1) (fr 2) (fr 3) H Q) : xCode Tryz.prog 81 (bodyOf Tryz.f16) (xRet Tryz.prog [.tmp 8] Q) fr H :=
  seq_cut (by kernel_rfl) (fun _ _ h => A16_1 h) (A16_16 h)
theorem E16 {t0 t1 t2 t3 : Value} {H : Hp} {Q : RT1} (h : F16_0 t0 t1 t2 t3 H Q) : NCalls Tryz.prog 16 #[t0, t1, t2, t3] H Q :=
  NCalls.ofBody (by kernel_rfl) Tryz.func16 (by kernel_rfl) (by kernel_rfl) (Eq.mp (by kernel_rfl) (A16_0 (fr := fun i => (#[t0, t1, t2, t3] : Array Value).getD i undef) (H := H) (Q := Q) (Eq.mp (by kernel_rfl) h)))
def F18_0 (t0 t1 t2 t3 : Value) (H : Hp) (Q : RT1) : Prop :=
  NCalls Tryz.prog 55 #[t0, t1, t2, t3, (Value.bool false)] H (fun t17_1 H_1 =>
  q (Bin Tryz.prog H_1 .eql 111 true t17_1 (Value.pointer none)) fun t19_2 =>
  condV t19_2 (
    Q (Value.tuple #[(Value.int IntKind.u32 0), (Value.bool false)]) H_1) (
    NCalls Tryz.prog 56 #[t17_1] H_1 (fun t22_3 H_3 =>
    q (Ex 0 t22_3) fun t23_4 =>
    q (Ex 1 t22_3) fun t24_5 =>
    New #[Value.int IntKind.u32 0, Value.int IntKind.u32 0, Value.int IntKind.u32 0, Value.int IntKind.u32 0] 52 H_3 (fun t11_6 H_6 =>
    St 4 H_6 t11_6 t23_4 ((fun u_7 H_7 =>
    q (LdA 4 H_7 t11_6) fun t25_8 =>
    NCalls Tryz.prog 57 #[t25_8, t2, t3] H_7 (fun t28_9 H_9 =>
    Q (Value.tuple #[t28_9, (Value.bool true)]) H_9)) undef)))))
theorem A18_0 {fr : Fr} {H : Hp} {Q : RT1} (h : F18_0 (fr 0) (fr 1) (fr 2) (fr 3) H Q) : xCode Tryz.prog 29 (bodyOf Tryz.f18) (xRet Tryz.prog [.tmp 8, .tmp 9] Q) fr H :=
  Eq.mp (by kernel_rfl) h
theorem E18 {t0 t1 t2 t3 : Value} {H : Hp} {Q : RT1} (h : F18_0 t0 t1 t2 t3 H Q) : NCalls Tryz.prog 18 #[t0, t1, t2, t3] H Q :=
  NCalls.ofBody (by kernel_rfl) Tryz.func18 (by kernel_rfl) (by kernel_rfl) (Eq.mp (by kernel_rfl) (A18_0 (fr := fun i => (#[t0, t1, t2, t3] : Array Value).getD i undef) (H := H) (Q := Q) (Eq.mp (by kernel_rfl) h)))
def F19_2 (t0 : Value) (H : Hp) (Q : RT1) : Prop :=
  q (Nz t0) fun t31_1 =>
  q (Fa 2 t31_1) fun t32_2 =>
  q (Ld H t32_2) fun t33_3 =>
  NCalls Tryz.prog 58 #[t33_3] H (fun t34_4 H_4 =>
  q (Bin Tryz.prog H_4 .eql 3 true t34_4 (Value.int IntKind.i64 0)) fun t35_5 =>
  Q t35_5 H_4)
def F19_12 (t0 t3 t19 t20 t21 : Value) (H : Hp) (R5 : RT2) (R11 : RT5) (Q : RT1) : Prop :=
  q (Bin Tryz.prog H .lss 3 false t21 t20) fun t22_6 =>
  condV t22_6 (
    q (Ix 12 t19 t21) fun t23_7 =>
    q (LdA 12 H t23_7) fun t24_8 =>
    New #[Value.int IntKind.i64 0, Value.int IntKind.i64 0, Value.int IntKind.i64 0, Value.int IntKind.i64 0, Value.int IntKind.i64 0, Value.int IntKind.u32 0, Value.int IntKind.u32 0, Value.int IntKind.u32 0, Value.int IntKind.u32 0, Value.bool false, Value.bool false, Value.bool false] 68 H (fun t5_9 H_9 =>
    St 12 H_9 t5_9 t24_8 ((fun u_10 H_10 =>
    q (Fa 0 t5_9) fun t26_11 =>
    q (Ld H_10 t26_11) fun t27_12 =>
    NCalls Tryz.prog 25 #[t0, t27_12] H_10 (fun t28_13 H_13 =>
    condV t28_13 (
      R5 t0 (Value.bool true) H_13) (
      q (Bin Tryz.prog H_13 .add 3 true t21 (Value.int IntKind.i64 1)) fun t29_14 =>
      R11 t0 t3 t19 t20 t29_14 H_13))) undef))) (
    R5 t0 t3 H)
def F19_11 (t0 t3 t19 t20 t21 : Value) (H : Hp) (R5 : RT2) (Q : RT1) : Prop :=
  ∃ (I : RT2) (μ : Value → Value → Hp → Nat), I t3 t21 H ∧ ∀ n3 n21 H1, I n3 n21 H1 → F19_12 t0 n3 t19 t20 n21 H1 R5 (fun m0 m3 m19 m20 m21 H2 => m0 = t0 ∧ m19 = t19 ∧ m20 = t20 ∧ (I m3 m21 H2 ∧ μ m3 m21 H2 < μ n3 n21 H1)) Q
def F19_10 (t0 t3 t19 t20 t21 : Value) (H : Hp) (R5 : RT2) (Q : RT1) : Prop := F19_11 t0 t3 t19 t20 t21 H R5 Q
def F19_13 (t0 t3 : Value) (H : Hp) (R5 : RT2) (Q : RT1) : Prop :=
  q (Nz t0) fun t16_15 =>
  q (Fa 2 t16_15) fun t17_16 =>
  q (Ld H t17_16) fun t18_17 =>
  NCalls Tryz.prog 54 #[t18_17] H (fun t19_18 H_18 =>
  q (pv Tryz.prog (Builtin.len_ #[38] 0 #[t19_18])) fun t20_19 =>
  F19_10 t0 t3 t19_18 t20_19 (Value.int IntKind.i64 0) H_18 R5 Q)
def F19_9 (t0 t3 : Value) (H : Hp) (R5 : RT2) (Q : RT1) : Prop := F19_13 t0 t3 H R5 Q
def F19_14 (t0 : Value) (H : Hp) (R5 : RT2) (Q : RT1) : Prop :=
  F19_9 t0 (Value.bool false) H R5 Q
def F19_8 (t0 : Value) (H : Hp) (R5 : RT2) (Q : RT1) : Prop := F19_14 t0 H R5 Q
def F19_7 (t0 : Value) (H : Hp) (R5 : RT2) (Q : RT1) : Prop := F19_8 t0 H R5 Q
def F19_15 (t0 t3 : Value) (H : Hp) (R5 : RT2) (Q : RT1) : Prop :=
  q (gd t3 true (some t0)) fun t8_20 =>
  q (gd t3 true (Nz t8_20)) fun t9_21 =>
  q (gd t3 true (Fa 2 t9_21)) fun t10_22 =>
  q (gd t3 true (Ld H t10_22)) fun t11_23 =>
  gl t3 true (fun K => NCalls Tryz.prog 58 #[t11_23] H K) H fun t12_24 H_24 =>
  q (gd t3 true (Bin Tryz.prog H_24 .gtr 3 true t12_24 (Value.int IntKind.i64 0))) fun t13_25 =>
  q (Pk t3 t13_25 (Value.bool false)) fun t14_26 =>
  condV t14_26 (
    F19_7 t0 H_24 R5 Q) (
    F19_2 t0 H_24 Q)
def F19_6 (t0 t3 : Value) (H : Hp) (R5 : RT2) (Q : RT1) : Prop := F19_15 t0 t3 H R5 Q
def F19_5 (t0 t3 : Value) (H : Hp) (Q : RT1) : Prop :=
  ∃ (I : RT1) (μ : Value → Hp → Nat), I t3 H ∧ ∀ n3 H1, I n3 H1 → F19_6 t0 n3 H1 (fun m0 m3 H2 => m0 = t0 ∧ (I m3 H2 ∧ μ m3 H2 < μ n3 H1)) Q
def F19_4 (t0 t3 : Value) (H : Hp) (Q : RT1) : Prop := F19_5 t0 t3 H Q
def F19_16 (t0 : Value) (H : Hp) (Q : RT1) : Prop :=
  F19_4 t0 (Value.bool true) H Q
def F19_3 (t0 : Value) (H : Hp) (Q : RT1) : Prop := F19_16 t0 H Q
def F19_1 (t0 : Value) (H : Hp) (Q : RT1) : Prop := F19_3 t0 H Q
def F19_17 (t0 : Value) (H : Hp) (Q : RT1) : Prop :=
  F19_1 t0 H Q
def F19_0 (t0 : Value) (H : Hp) (Q : RT1) : Prop := F19_17 t0 H Q
theorem A19_2 {fr : Fr} {H : Hp} {Q : RT1} (h : F19_2 (fr 0) H Q) : xCode Tryz.prog 36 (Code.r (Code.r (bodyOf Tryz.f19))) (xRet Tryz.prog [.tmp 2] Q) fr H :=
  Eq.mp (by kernel_rfl) h
abbrev K19_3 (Q : RT1) : QT := thenK (fun fr H => F19_2 (fr 0) H Q) (xRet Tryz.prog [.tmp 2] Q)
abbrev K19_4 (R5 : RT2) (Q : RT1) : QT := thenK (fun fr H => R5 (fr 0) (fr 3) H) (blockK 0 (K19_3 Q))
theorem A19_12 {fr : Fr} {H : Hp} {R5 : RT2} {R11 : RT5} {Q : RT1} (h : F19_12 (fr 0) (fr 3) (fr 19) (fr 20) (fr 21) H R5 R11 Q) : xCode Tryz.prog 36 (Code.l (Code.l (Code.r (Code.r (Code.l (Code.r (Code.l (Code.l (Code.r (Code.l (Code.r (bodyOf Tryz.f19)))))))))))) (thenK (fun fr H => R11 (fr 0) (fr 3) (fr 19) (fr 20) (fr 21) H) (blockK 2 (blockK 1 (K19_4 R5 Q)))) fr H :=
  Eq.mp (by kernel_rfl) h
theorem A19_11 {fr : Fr} {H : Hp} {R5 : RT2} {Q : RT1} (h : F19_11 (fr 0) (fr 3) (fr 19) (fr 20) (fr 21) H R5 Q) : xCode Tryz.prog 36 (Code.l (Code.r (Code.r (Code.l (Code.r (Code.l (Code.l (Code.r (Code.l (Code.r (bodyOf Tryz.f19))))))))))) (blockK 2 (blockK 1 (K19_4 R5 Q))) fr H := by
  obtain ⟨I, μ, h0, hr⟩ := h
  refine loop_cut (a := (Code.l (Code.l (Code.r (Code.r (Code.l (Code.r (Code.l (Code.l (Code.r (Code.l (Code.r (bodyOf Tryz.f19))))))))))))) (by kernel_rfl) (fun fr1 H1 => fr1 0 = fr 0 ∧ fr1 19 = fr 19 ∧ fr1 20 = fr 20 ∧ I (fr1 3) (fr1 21) H1) (fun fr1 H1 => μ (fr1 3) (fr1 21) H1) (by exact ⟨rfl, rfl, rfl, h0⟩) ?_
  intro fr1 H1 hI
  obtain ⟨hu0, hu19, hu20, hI⟩ := hI
  have hb := hr (fr1 3) (fr1 21) H1 hI
  rw [← hu0] at hb; rw [← hu19] at hb; rw [← hu20] at hb
  refine ⟨_, ?_, A19_12 hb⟩
  intro fr2 H2 hj
  obtain ⟨ku0, ku19, ku20, hI2, hlt⟩ := hj
  exact ⟨⟨(ku0.trans hu0), (ku19.trans hu19), (ku20.trans hu20), hI2⟩, hlt⟩
theorem A19_10 {fr : Fr} {H : Hp} {R5 : RT2} {Q : RT1} (h : F19_10 (fr 0) (fr 3) (fr 19) (fr 20) (fr 21) H R5 Q) : xCode Tryz.prog 36 (Code.r (Code.r (Code.l (Code.r (Code.l (Code.l (Code.r (Code.l (Code.r (bodyOf Tryz.f19)))))))))) (blockK 1 (K19_4 R5 Q)) fr H :=
  block_cut (by kernel_rfl) (A19_11 h)
theorem A19_13 {fr : Fr} {H : Hp} {R5 : RT2} {Q : RT1} (h : F19_13 (fr 0) (fr 3) H R5 Q) : xCode Tryz.prog 36 (Code.l (Code.r (Code.l (Code.r (Code.l (Code.l (Code.r (Code.l (Code.r (bodyOf Tryz.f19)))))))))) (thenK (fun fr H => F19_10 (fr 0) (fr 3) (fr 19) (fr 20) (fr 21) H R5 Q) (blockK 1 (K19_4 R5 Q))) fr H :=
  Eq.mp (by kernel_rfl) h
theorem A19_9 {fr : Fr} {H : Hp} {R5 : RT2} {Q : RT1} (h : F19_9 (fr 0) (fr 3) H R5 Q) : xCode Tryz.prog 36 (Code.r (Code.l (Code.r (Code.l (Code.l (Code.r (Code.l (Code.r (bodyOf Tryz.f19))))))))) (blockK 1 (K19_4 R5 Q)) fr H :=
  seq_cut (by kernel_rfl) (fun _ _ h => A19_10 h) (A19_13 h)
theorem A19_14 {fr : Fr} {H : Hp} {R5 : RT2} {Q : RT1} (h : F19_14 (fr 0) H R5 Q) : xCode Tryz.prog 36 (Code.l (Code.l (Code.r (Code.l (Code.l (Code.r (Code.l (Code.r (bodyOf Tryz.f19))))))))) (thenK (fun fr H => F19_9 (fr 0) (fr 3) H R5 Q) (blockK 1 (K19_4 R5 Q))) fr H :=
  Eq.mp (by kernel_rfl) h
theorem A19_8 {fr : Fr} {H : Hp} {R5 : RT2} {Q : RT1} (h : F19_8 (fr 0) H R5 Q) : xCode Tryz.prog 36 (Code.l (Code.r (Code.l (Code.l (Code.r (Code.l (Code.r (bodyOf Tryz.f19)))))))) (blockK 1 (K19_4 R5 Q)) fr H :=
  seq_cut (by kernel_rfl) (fun _ _ h => A19_9 h) (A19_14 h)
theorem A19_7 {fr : Fr} {H : Hp} {R5 : RT2} {Q : RT1} (h : F19_7 (fr 0) H R5 Q) : xCode Tryz.prog 36 (Code.r (Code.l (Code.l (Code.r (Code.l (Code.r (bodyOf Tryz.f19))))))) (K19_4 R5 Q) fr H :=
  block_cut (by kernel_rfl) (A19_8 h)
theorem A19_15 {fr : Fr} {H : Hp} {R5 : RT2} {Q : RT1} (h : F19_15 (fr 0) (fr 3) H R5 Q) : xCode Tryz.prog 36 (Code.l (Code.l (Code.l (Code.r (Code.l (Code.r (bodyOf Tryz.f19))))))) (thenK (fun fr H => F19_7 (fr 0) H R5 Q) (K19_4 R5 Q)) fr H :=
  Eq.mp (by kernel_rfl) h
theorem A19_6 {fr : Fr} {H : Hp} {R5 : RT2} {Q : RT1} (h : F19_6 (fr 0) (fr 3) H R5 Q) : xCode Tryz.prog 36 (Code.l (Code.l (Code.r (Code.l (Code.r (bodyOf Tryz.f19)))))) (K19_4 R5 Q) fr H :=
  seq_cut (by kernel_rfl) (fun _ _ h => A19_7 h) (A19_15 h)
theorem A19_5 {fr : Fr} {H : Hp} {Q : RT1} (h : F19_5 (fr 0) (fr 3) H Q) : xCode Tryz.prog 36 (Code.l (Code.r (Code.l (Code.r (bodyOf Tryz.f19))))) (blockK 0 (K19_3 Q)) fr H := by
  obtain ⟨I, μ, h0, hr⟩ := h
  refine loop_cut (a := (Code.l (Code.l (Code.r (Code.l (Code.r (bodyOf Tryz.f19))))))) (by kernel_rfl) (fun fr1 H1 => fr1 0 = fr 0 ∧ I (fr1 3) H1) (fun fr1 H1 => μ (fr1 3) H1) (by exact ⟨rfl, h0⟩) ?_
  intro fr1 H1 hI
  obtain ⟨hu0, hI⟩ := hI
  have hb := hr (fr1 3) H1 hI
  rw [← hu0] at hb
  refine ⟨_, ?_, A19_6 hb⟩
  intro fr2 H2 hj
  obtain ⟨ku0, hI2, hlt⟩ := hj
  exact ⟨⟨(ku0.trans hu0), hI2⟩, hlt⟩
theorem A19_4 {fr : Fr} {H : Hp} {Q : RT1} (h : F19_4 (fr 0) (fr 3) H Q) : xCode Tryz.prog 36 (Code.r (Code.l (Code.r (bodyOf Tryz.f19)))) (K19_3 Q) fr H :=
  block_cut (by kernel_rfl) (A19_5 h)
theorem A19_16 {fr : Fr} {H : Hp} {Q : RT1} (h : F19_16 (fr 0) H Q) : xCode Tryz.prog 36 (Code.l (Code.l (Code.r (bodyOf Tryz.f19)))) (thenK (fun fr H => F19_4 (fr 0) (fr 3) H Q) (K19_3 Q)) fr H :=
  Eq.mp (by kernel_rfl) h
theorem A19_3 {fr : Fr} {H : Hp} {Q : RT1} (h : F19_3 (fr 0) H Q) : xCode Tryz.prog 36 (Code.l (Code.r (bodyOf Tryz.f19))) (K19_3 Q) fr H :=
  seq_cut (by kernel_rfl) (fun _ _ h => A19_4 h) (A19_16 h)
theorem A19_1 {fr : Fr} {H : Hp} {Q : RT1} (h : F19_1 (fr 0) H Q) : xCode Tryz.prog 36 (Code.r (bodyOf Tryz.f19)) (xRet Tryz.prog [.tmp 2] Q) fr H :=
  seq_cut (by kernel_rfl) (fun _ _ h => A19_2 h) (A19_3 h)
theorem A19_17 {fr : Fr} {H : Hp} {Q : RT1} (h : F19_17 (fr 0) H Q) : xCode Tryz.prog 36 (Code.l (bodyOf Tryz.f19)) (thenK (fun fr H => F19_1 (fr 0) H Q) (xRet Tryz.prog [.tmp 2] Q)) fr H :=
  Eq.mp (by kernel_rfl) h
theorem A19_0 {fr : Fr} {H : Hp} {Q : RT1} (h : F19_0 (fr 0) H Q) : xCode Tryz.prog 36 (bodyOf Tryz.f19) (xRet Tryz.prog [.tmp 2] Q) fr H :=
  seq_cut (by kernel_rfl) (fun _ _ h => A19_1 h) (A19_17 h)
theorem E19 {t0 : Value} {H : Hp} {Q : RT1} (h : F19_0 t0 H Q) : NCalls Tryz.prog 19 #[t0] H Q :=
  NCalls.ofBody (by kernel_rfl) Tryz.func19 (by kernel_rfl) (by kernel_rfl) (Eq.mp (by kernel_rfl) (A19_0 (fr := fun i => (#[t0] : Array Value).getD i undef) (H := H) (Q := Q) (Eq.mp (by kernel_rfl) h)))
def F20_0 (t0 t1 t2 t3 t4 : Value) (H : Hp) (Q : RT1) : Prop :=
  NCalls Tryz.prog 55 #[t0, t1, t2, t3, (Value.bool true)] H (fun t18_1 H_1 =>
  q (Bin Tryz.prog H_1 .eql 111 true t18_1 (Value.pointer none)) fun t20_2 =>
  condV t20_2 (
    Q (Value.bool false) H_1) (
    NCalls Tryz.prog 56 #[t18_1] H_1 (fun t23_3 H_3 =>
    q (Ex 0 t23_3) fun t24_4 =>
    q (Ex 1 t23_3) fun t25_5 =>
    New #[Value.int IntKind.u32 0, Value.int IntKind.u32 0, Value.int IntKind.u32 0, Value.int IntKind.u32 0] 52 H_3 (fun t12_6 H_6 =>
    St 4 H_6 t12_6 t24_4 ((fun u_7 H_7 =>
    q (LdA 4 H_7 t12_6) fun t27_8 =>
    NCalls Tryz.prog 60 #[t27_8, t2, t3, t4] H_7 (fun t31_9 H_9 =>
    NCalls Tryz.prog 59 #[t18_1, t31_9] H_9 (fun t32_10 H_10 =>
    Q t32_10 H_10))) undef)))))
theorem A20_0 {fr : Fr} {H : Hp} {Q : RT1} (h : F20_0 (fr 0) (fr 1) (fr 2) (fr 3) (fr 4) H Q) : xCode Tryz.prog 33 (bodyOf Tryz.f20) (xRet Tryz.prog [.tmp 10] Q) fr H :=
  Eq.mp (by kernel_rfl) h
theorem E20 {t0 t1 t2 t3 t4 : Value} {H : Hp} {Q : RT1} (h : F20_0 t0 t1 t2 t3 t4 H Q) : NCalls Tryz.prog 20 #[t0, t1, t2, t3, t4] H Q :=
  NCalls.ofBody (by kernel_rfl) Tryz.func20 (by kernel_rfl) (by kernel_rfl) (Eq.mp (by kernel_rfl) (A20_0 (fr := fun i => (#[t0, t1, t2, t3, t4] : Array Value).getD i undef) (H := H) (Q := Q) (Eq.mp (by kernel_rfl) h)))
def F21_0 (t0 t1 t2 : Value) (H : Hp) (Q : RT1) : Prop :=
  New #[Value.int IntKind.i64 0, Value.int IntKind.i64 0, Value.int IntKind.i64 0, Value.int IntKind.i64 0] 23 H (fun t6_1 H_1 =>
  NCalls Tryz.prog 12 #[t0, (Value.int IntKind.i64 4)] H_1 (fun t8_2 H_2 =>
  q (Bin Tryz.prog H_2 .add 3 true t8_2 (Value.int IntKind.i64 1)) fun t9_3 =>
  NCalls Tryz.prog 12 #[t1, (Value.int IntKind.i64 3)] H_2 (fun t12_4 H_4 =>
  q (pv Tryz.prog (convert 3 130 t12_4)) fun t13_5 =>
  q (Bin Tryz.prog H_4 .shl 3 true (Value.int IntKind.i64 1) t13_5) fun t14_6 =>
  NCalls Tryz.prog 12 #[t2, (Value.int IntKind.i64 3)] H_4 (fun t16_7 H_7 =>
  q (Bin Tryz.prog H_7 .add 3 true t16_7 (Value.int IntKind.i64 1)) fun t17_8 =>
  q (Bin Tryz.prog H_7 .mul 3 true (Value.int IntKind.i64 6) t9_3) fun t19_9 =>
  q (pv Tryz.prog (Instr.build 23 #[(0, t9_3), (1, t14_6), (2, t17_8), (3, t19_9)])) fun t20_10 =>
  St 4 H_7 t6_1 t20_10 ((fun u_11 H_11 =>
  q (LdA 4 H_11 t6_1) fun r_12 =>
  Q r_12 H_11) undef)))))
theorem A21_0 {fr : Fr} {H : Hp} {Q : RT1} (h : F21_0 (fr 0) (fr 1) (fr 2) H Q) : xCode Tryz.prog 21 (bodyOf Tryz.f21) (xRet Tryz.prog [.cell 6 23] Q) fr H :=
  Eq.mp (by kernel_rfl) h
theorem E21 {t0 t1 t2 : Value} {H : Hp} {Q : RT1} (h : F21_0 t0 t1 t2 H Q) : NCalls Tryz.prog 21 #[t0, t1, t2] H Q :=
  NCalls.ofBody (by kernel_rfl) Tryz.func21 (by kernel_rfl) (by kernel_rfl) (Eq.mp (by kernel_rfl) (A21_0 (fr := fun i => (#[t0, t1, t2] : Array Value).getD i undef) (H := H) (Q := Q) (Eq.mp (by kernel_rfl) h)))
def F22_0 (t0 t1 t2 : Value) (H : Hp) (Q : RT1) : Prop :=
  New (Value.cells t0) 23 H (fun t3_1 H_1 =>
  NCalls Tryz.prog 13 #[t1, t2] H_1 (fun t15_2 H_2 =>
  q (Ex 0 t15_2) fun t16_3 =>
  q (Ex 1 t15_2) fun t17_4 =>
  q (Bin Tryz.prog H_2 .eql 30 true t16_3 (Value.pointer none)) fun t19_5 =>
  q (gd t19_5 false (some t17_4)) fun t21_6 =>
  q (gd t19_5 false (Bin Tryz.prog H_2 .neq 26 true t21_6 Value.nilIface)) fun t22_7 =>
  q (Pk t19_5 (Value.bool true) t22_7) fun t23_8 =>
  condV t23_8 (
    Q (Value.tuple #[(Value.pointer none), (Value.bool false)]) H_2) (
    q (LdA 4 H_2 t3_1) fun t25_9 =>
    NCalls Tryz.prog 14 #[t25_9, t16_3] H_2 (fun t27_10 H_10 =>
    q (Ex 0 t27_10) fun t28_11 =>
    q (Ex 1 t27_10) fun t29_12 =>
    q (Bin Tryz.prog H_10 .neq 33 true t28_11 (Value.pointer none)) fun t32_13 =>
    q (gd t32_13 true (some t29_12)) fun t34_14 =>
    q (gd t32_13 true (Bin Tryz.prog H_10 .eql 26 true t34_14 Value.nilIface)) fun t35_15 =>
    q (Pk t32_13 t35_15 (Value.bool false)) fun t36_16 =>
    Q (Value.tuple #[t28_11, t36_16]) H_10))))
theorem A22_0 {fr : Fr} {H : Hp} {Q : RT1} (h : F22_0 (fr 0) (fr 1) (fr 2) H Q) : xCode Tryz.prog 37 (bodyOf Tryz.f22) (xRet Tryz.prog [.tmp 6, .tmp 7] Q) fr H :=
  Eq.mp (by kernel_rfl) h
theorem E22 {t0 t1 t2 : Value} {H : Hp} {Q : RT1} (h : F22_0 t0 t1 t2 H Q) : NCalls Tryz.prog 22 #[t0, t1, t2] H Q :=
  NCalls.ofBody (by kernel_rfl) Tryz.func22 (by kernel_rfl) (by kernel_rfl) (Eq.mp (by kernel_rfl) (A22_0 (fr := fun i => (#[t0, t1, t2] : Array Value).getD i undef) (H := H) (Q := Q) (Eq.mp (by kernel_rfl) h)))
def F25_0 (t0 t1 : Value) (H : Hp) (Q : RT1) : Prop :=
  q (Nz t0) fun t9_1 =>
  q (Fa 2 t9_1) fun t10_2 =>
  q (Ld H t10_2) fun t11_3 =>
  NCalls Tryz.prog 64 #[t11_3, t1] H (fun t13_4 H_4 =>
  q (Ex 0 t13_4) fun t14_5 =>
  q (Ex 1 t13_4) fun t15_6 =>
  New #[Value.int IntKind.i64 0, Value.int IntKind.i64 0, Value.int IntKind.i64 0, Value.int IntKind.i64 0, Value.int IntKind.u32 0, Value.int IntKind.u32 0, Value.int IntKind.u32 0, Value.int IntKind.u32 0, Value.bool false, Value.bool false, Value.bool false] 66 H_4 (fun t5_7 H_7 =>
  St 11 H_7 t5_7 t14_5 ((fun u_8 H_8 =>
  q (pv Tryz.prog (Op.unary .not t15_6)) fun t17_9 =>
  q (gd t17_9 false (Fa 1 t5_7)) fun t19_10 =>
  q (gd t17_9 false (Ld H_8 t19_10)) fun t20_11 =>
  q (gd t17_9 false (some t0)) fun t21_12 =>
  q (gd t17_9 false (Nz t21_12)) fun t22_13 =>
  q (gd t17_9 false (Fa 3 t22_13)) fun t23_14 =>
  q (gd t17_9 false (Ld H_8 t23_14)) fun t24_15 =>
  q (gd t17_9 false (pv Tryz.prog (Builtin.len_ #[97] 0 #[t24_15]))) fun t25_16 =>
  q (gd t17_9 false (Bin Tryz.prog H_8 .geq 3 false t20_11 t25_16)) fun t26_17 =>
  q (Pk t17_9 (Value.bool true) t26_17) fun t27_18 =>
  condV t27_18 (
    Q (Value.bool false) H_8) (
    q (Fa 3 t5_7) fun t28_19 =>
    q (Ld H_8 t28_19) fun t29_20 =>
    q (Bin Tryz.prog H_8 .lss 3 true t29_20 (Value.int IntKind.i64 0)) fun t30_21 =>
    condV t30_21 (
      q (LdA 11 H_8 t5_7) fun t33_22 =>
      NCalls Tryz.prog 65 #[t0, t1, t33_22] H_8 (fun t34_23 H_23 =>
      Q t34_23 H_23)) (
      q (LdA 11 H_8 t5_7) fun t37_24 =>
      NCalls Tryz.prog 66 #[t0, t1, t37_24] H_8 (fun t38_25 H_25 =>
      Q t38_25 H_25)))) undef)))
theorem A25_0 {fr : Fr} {H : Hp} {Q : RT1} (h : F25_0 (fr 0) (fr 1) H Q) : xCode Tryz.prog 39 (bodyOf Tryz.f25) (xRet Tryz.prog [.tmp 4] Q) fr H :=
  Eq.mp (by kernel_rfl) h
theorem E25 {t0 t1 : Value} {H : Hp} {Q : RT1} (h : F25_0 t0 t1 H Q) : NCalls Tryz.prog 25 #[t0, t1] H Q :=
  NCalls.ofBody (by kernel_rfl) Tryz.func25 (by kernel_rfl) (by kernel_rfl) (Eq.mp (by kernel_rfl) (A25_0 (fr := fun i => (#[t0, t1] : Array Value).getD i undef) (H := H) (Q := Q) (Eq.mp (by kernel_rfl) h)))
def F27_3 (t3 : Value) (H : Hp) (Q : RT1) : Prop :=
  Q t3 H
def F27_7 (t0 t3 t14 t15 : Value) (H : Hp) (R6 : RT4) (Q : RT1) : Prop :=
  q (Bin Tryz.prog H .lss 3 false t15 t14) fun t16_1 =>
  condV t16_1 (
    NCalls Tryz.prog 68 #[t0, t15] H (fun t22_2 H_2 =>
    NCalls Tryz.prog 67 #[t3, t15, t22_2] H_2 (fun t23_3 H_3 =>
    q (Bin Tryz.prog H_3 .add 3 true t15 (Value.int IntKind.i64 1)) fun t24_4 =>
    R6 t0 t3 t14 t24_4 H_3))) (
    F27_3 t3 H Q)
def F27_6 (t0 t3 t14 t15 : Value) (H : Hp) (Q : RT1) : Prop :=
  ∃ (I : RT1) (μ : Value → Hp → Nat), I t15 H ∧ ∀ n15 H1, I n15 H1 → F27_7 t0 t3 t14 n15 H1 (fun m0 m3 m14 m15 H2 => m0 = t0 ∧ m3 = t3 ∧ m14 = t14 ∧ (I m15 H2 ∧ μ m15 H2 < μ n15 H1)) Q
def F27_5 (t0 t3 t14 t15 : Value) (H : Hp) (Q : RT1) : Prop := F27_6 t0 t3 t14 t15 H Q
def F27_8 (t0 t3 : Value) (H : Hp) (Q : RT1) : Prop :=
  q (Nz t0) fun t11_5 =>
  q (Fa 3 t11_5) fun t12_6 =>
  q (Ld H t12_6) fun t13_7 =>
  q (pv Tryz.prog (Builtin.len_ #[97] 0 #[t13_7])) fun t14_8 =>
  F27_5 t0 t3 t14_8 (Value.int IntKind.i64 0) H Q
def F27_4 (t0 t3 : Value) (H : Hp) (Q : RT1) : Prop := F27_8 t0 t3 H Q
def F27_2 (t0 t3 : Value) (H : Hp) (Q : RT1) : Prop := F27_4 t0 t3 H Q
def F27_9 (t0 : Value) (H : Hp) (Q : RT1) : Prop :=
  q (Nz t0) fun t6_9 =>
  q (Fa 0 t6_9) fun t7_10 =>
  q (Ld H t7_10) fun t8_11 =>
  NCalls Tryz.prog 39 #[t8_11] H (fun t9_12 H_12 =>
  F27_2 t0 t9_12 H_12 Q)
def F27_1 (t0 : Value) (H : Hp) (Q : RT1) : Prop := F27_9 t0 H Q
def F27_10 (t0 : Value) (H : Hp) (Q : RT1) : Prop :=
  F27_1 t0 H Q
def F27_0 (t0 : Value) (H : Hp) (Q : RT1) : Prop := F27_10 t0 H Q
theorem A27_3 {fr : Fr} {H : Hp} {Q : RT1} (h : F27_3 (fr 3) H Q) : xCode Tryz.prog 26 (Code.r (Code.r (Code.r (bodyOf Tryz.f27)))) (xRet Tryz.prog [.tmp 2] Q) fr H :=
  Eq.mp (by kernel_rfl) h
abbrev K27_9 (Q : RT1) : QT := thenK (fun fr H => F27_3 (fr 3) H Q) (xRet Tryz.prog [.tmp 2] Q)
theorem A27_7 {fr : Fr} {H : Hp} {R6 : RT4} {Q : RT1} (h : F27_7 (fr 0) (fr 3) (fr 14) (fr 15) H R6 Q) : xCode Tryz.prog 26 (Code.l (Code.l (Code.r (Code.l (Code.r (Code.r (bodyOf Tryz.f27))))))) (thenK (fun fr H => R6 (fr 0) (fr 3) (fr 14) (fr 15) H) (blockK 0 (K27_9 Q))) fr H :=
  Eq.mp (by kernel_rfl) h
theorem A27_6 {fr : Fr} {H : Hp} {Q : RT1} (h : F27_6 (fr 0) (fr 3) (fr 14) (fr 15) H Q) : xCode Tryz.prog 26 (Code.l (Code.r (Code.l (Code.r (Code.r (bodyOf Tryz.f27)))))) (blockK 0 (K27_9 Q)) fr H := by
  obtain ⟨I, μ, h0, hr⟩ := h
  refine loop_cut (a := (Code.l (Code.l (Code.r (Code.l (Code.r (Code.r (bodyOf Tryz.f27)))))))) (by kernel_rfl) (fun fr1 H1 => fr1 0 = fr 0 ∧ fr1 3 = fr 3 ∧ fr1 14 = fr 14 ∧ I (fr1 15) H1) (fun fr1 H1 => μ (fr1 15) H1) (by exact ⟨rfl, rfl, rfl, h0⟩) ?_
  intro fr1 H1 hI
  obtain ⟨hu0, hu3, hu14, hI⟩ := hI
  have hb := hr (fr1 15) H1 hI
  rw [← hu0] at hb; rw [← hu3] at hb; rw [← hu14] at hb
  refine ⟨_, ?_, A27_7 hb⟩
  intro fr2 H2 hj
  obtain ⟨ku0, ku3, ku14, hI2, hlt⟩ := hj
  exact ⟨⟨(ku0.trans hu0), (ku3.trans hu3), (ku14.trans hu14), hI2⟩, hlt⟩
theorem A27_5 {fr : Fr} {H : Hp} {Q : RT1} (h : F27_5 (fr 0) (fr 3) (fr 14) (fr 15) H Q) : xCode Tryz.prog 26 (Code.r (Code.l (Code.r (Code.r (bodyOf Tryz.f27))))) (K27_9 Q) fr H :=
  block_cut (by kernel_rfl) (A27_6 h)
theorem A27_8 {fr : Fr} {H : Hp} {Q : RT1} (h : F27_8 (fr 0) (fr 3) H Q) : xCode Tryz.prog 26 (Code.l (Code.l (Code.r (Code.r (bodyOf Tryz.f27))))) (thenK (fun fr H => F27_5 (fr 0) (fr 3) (fr 14) (fr 15) H Q) (K27_9 Q)) fr H :=
  Eq.mp (by kernel_rfl) h
theorem A27_4 {fr : Fr} {H : Hp} {Q : RT1} (h : F27_4 (fr 0) (fr 3) H Q) : xCode Tryz.prog 26 (Code.l (Code.r (Code.r (bodyOf Tryz.f27)))) (K27_9 Q) fr H :=
  seq_cut (by kernel_rfl) (fun _ _ h => A27_5 h) (A27_8 h)
theorem A27_2 {fr : Fr} {H : Hp} {Q : RT1} (h : F27_2 (fr 0) (fr 3) H Q) : xCode Tryz.prog 26 (Code.r (Code.r (bodyOf Tryz.f27))) (xRet Tryz.prog [.tmp 2] Q) fr H :=
  seq_cut (by kernel_rfl) (fun _ _ h => A27_3 h) (A27_4 h)
theorem A27_9 {fr : Fr} {H : Hp} {Q : RT1} (h : F27_9 (fr 0) H Q) : xCode Tryz.prog 26 (Code.l (Code.r (bodyOf Tryz.f27))) (thenK (fun fr H => F27_2 (fr 0) (fr 3) H Q) (xRet Tryz.prog [.tmp 2] Q)) fr H :=
  Eq.mp (by kernel_rfl) h
theorem A27_1 {fr : Fr} {H : Hp} {Q : RT1} (h : F27_1 (fr 0) H Q) : xCode Tryz.prog 26 (Code.r (bodyOf Tryz.f27)) (xRet Tryz.prog [.tmp 2] Q) fr H :=
  seq_cut (by kernel_rfl) (fun _ _ h => A27_2 h) (A27_9 h)
theorem A27_10 {fr : Fr} {H : Hp} {Q : RT1} (h : F27_10 (fr 0) H Q) : xCode Tryz.prog 26 (Code.l (bodyOf Tryz.f27)) (thenK (fun fr H => F27_1 (fr 0) H Q) (xRet Tryz.prog [.tmp 2] Q)) fr H :=
  Eq.mp (by kernel_rfl) h
theorem A27_0 {fr : Fr} {H : Hp} {Q : RT1} (h : F27_0 (fr 0) H Q) : xCode Tryz.prog 26 (bodyOf Tryz.f27) (xRet Tryz.prog [.tmp 2] Q) fr H :=
  seq_cut (by kernel_rfl) (fun _ _ h => A27_1 h) (A27_10 h)
theorem E27 {t0 : Value} {H : Hp} {Q : RT1} (h : F27_0 t0 H Q) : NCalls Tryz.prog 27 #[t0] H Q :=
  NCalls.ofBody (by kernel_rfl) Tryz.func27 (by kernel_rfl) (by kernel_rfl) (Eq.mp (by kernel_rfl) (A27_0 (fr := fun i => (#[t0] : Array Value).getD i undef) (H := H) (Q := Q) (Eq.mp (by kernel_rfl) h)))
def F28_0 (t0 t1 t2 : Value) (H : Hp) (Q : RT1) : Prop :=
  NCalls Tryz.prog 69 #[t0, t1, t2] H (fun t11_1 H_1 =>
  q (pv Tryz.prog (Op.unary .not t11_1)) fun t12_2 =>
  condV t12_2 (
    Q (Value.tuple #[(Value.int IntKind.u32 0), (Value.bool false)]) H_1) (
    q (Nz t0) fun t14_3 =>
    q (Fa 0 t14_3) fun t15_4 =>
    q (Ld H_1 t15_4) fun t16_5 =>
    q (Sl 1 t16_5 (some t1) none none) fun t18_6 =>
    NCalls Tryz.prog 70 #[t18_6, t2] H_1 (fun t20_7 H_7 =>
    Q (Value.tuple #[t20_7, (Value.bool true)]) H_7)))
theorem A28_0 {fr : Fr} {H : Hp} {Q : RT1} (h : F28_0 (fr 0) (fr 1) (fr 2) H Q) : xCode Tryz.prog 21 (bodyOf Tryz.f28) (xRet Tryz.prog [.tmp 6, .tmp 7] Q) fr H :=
  Eq.mp (by kernel_rfl) h
theorem E28 {t0 t1 t2 : Value} {H : Hp} {Q : RT1} (h : F28_0 t0 t1 t2 H Q) : NCalls Tryz.prog 28 #[t0, t1, t2] H Q :=
  NCalls.ofBody (by kernel_rfl) Tryz.func28 (by kernel_rfl) (by kernel_rfl) (Eq.mp (by kernel_rfl) (A28_0 (fr := fun i => (#[t0, t1, t2] : Array Value).getD i undef) (H := H) (Q := Q) (Eq.mp (by kernel_rfl) h)))
def F35_0 (t0 t1 : Value) (H : Hp) (Q : RT1) : Prop :=
  q (Bin Tryz.prog H .lss 3 true t0 (Value.int IntKind.i64 1)) fun t7_1 =>
  q (gd t7_1 false (some t0)) fun t9_2 =>
  q (gd t7_1 false (Bin Tryz.prog H .gtr 3 true t9_2 (Value.int IntKind.i64 64))) fun t10_3 =>
  q (Pk t7_1 (Value.bool true) t10_3) fun t11_4 =>
  q (gd t11_4 false (some t0)) fun t13_5 =>
  q (gd t11_4 false (some t0)) fun t14_6 =>
  q (gd t11_4 false (Bin Tryz.prog H .sub 3 true t14_6 (Value.int IntKind.i64 1))) fun t15_7 =>
  q (gd t11_4 false (Bin Tryz.prog H .and 3 false t13_5 t15_7)) fun t16_8 =>
  q (gd t11_4 false (Bin Tryz.prog H .neq 3 true t16_8 (Value.int IntKind.i64 0))) fun t17_9 =>
  q (Pk t11_4 (Value.bool true) t17_9) fun t18_10 =>
  q (gd t18_10 false (some t1)) fun t20_11 =>
  q (gd t18_10 false (Bin Tryz.prog H .lss 3 true t20_11 (Value.int IntKind.i64 1))) fun t21_12 =>
  q (Pk t18_10 (Value.bool true) t21_12) fun t22_13 =>
  q (gd t22_13 false (some t1)) fun t24_14 =>
  q (gd t22_13 false (Bin Tryz.prog H .gtr 3 true t24_14 (Value.int IntKind.i64 8))) fun t25_15 =>
  q (Pk t22_13 (Value.bool true) t25_15) fun t26_16 =>
  condV t26_16 (
    q (Ld H (Value.pointer (some ⟨0, 0, none⟩))) fun t27_17 =>
    Q (Value.tuple #[(Value.pointer none), t27_17]) H) (
    dm Tryz.prog (Instr.makeSlice 141 t0 t0) H (fun t30_18 H_18 =>
    q (pv Tryz.prog (Instr.build 143 #[(0, t1), (1, t30_18)])) fun t31_19 =>
    New (Value.cells t31_19) 143 H_18 (fun t32_20 H_20 =>
    Q (Value.tuple #[t32_20, Value.nilIface]) H_20)))
theorem A35_0 {fr : Fr} {H : Hp} {Q : RT1} (h : F35_0 (fr 0) (fr 1) H Q) : xCode Tryz.prog 33 (bodyOf Tryz.f35) (xRet Tryz.prog [.tmp 4, .tmp 5] Q) fr H :=
  Eq.mp (by kernel_rfl) h
theorem E35 {t0 t1 : Value} {H : Hp} {Q : RT1} (h : F35_0 t0 t1 H Q) : NCalls Tryz.prog 35 #[t0, t1] H Q :=
  NCalls.ofBody (by kernel_rfl) Tryz.func35 (by kernel_rfl) (by kernel_rfl) (Eq.mp (by kernel_rfl) (A35_0 (fr := fun i => (#[t0, t1] : Array Value).getD i undef) (H := H) (Q := Q) (Eq.mp (by kernel_rfl) h)))
def F38_3 (t0 t2 t7 t8 : Value) (H : Hp) (R2 : RT4) (Q : RT1) : Prop :=
  q (Bin Tryz.prog H .lss 3 false t8 t7) fun t9_1 =>
  condV t9_1 (
    q (Bin Tryz.prog H .mul 3 true (Value.int IntKind.i64 8) t8) fun t15_2 =>
    q (Bin Tryz.prog H .shr 40 false t2 t15_2) fun t16_3 =>
    q (pv Tryz.prog (convert 40 5 t16_3)) fun t17_4 =>
    q (Ix 1 t0 t8) fun t18_5 =>
    St 1 H t18_5 t17_4 ((fun u_6 H_6 =>
    q (Bin Tryz.prog H_6 .add 3 true t8 (Value.int IntKind.i64 1)) fun t19_7 =>
    R2 t0 t2 t7 t19_7 H_6) undef)) (
    Q (Value.tuple #[]) H)
def F38_2 (t0 t2 t7 t8 : Value) (H : Hp) (Q : RT1) : Prop :=
  ∃ (I : RT1) (μ : Value → Hp → Nat), I t8 H ∧ ∀ n8 H1, I n8 H1 → F38_3 t0 t2 t7 n8 H1 (fun m0 m2 m7 m8 H2 => m0 = t0 ∧ m2 = t2 ∧ m7 = t7 ∧ (I m8 H2 ∧ μ m8 H2 < μ n8 H1)) Q
def F38_1 (t0 t2 t7 t8 : Value) (H : Hp) (Q : RT1) : Prop := F38_2 t0 t2 t7 t8 H Q
def F38_4 (t0 t1 t2 : Value) (H : Hp) (Q : RT1) : Prop :=
  F38_1 t0 t2 t1 (Value.int IntKind.i64 0) H Q
def F38_0 (t0 t1 t2 : Value) (H : Hp) (Q : RT1) : Prop := F38_4 t0 t1 t2 H Q
theorem A38_3 {fr : Fr} {H : Hp} {R2 : RT4} {Q : RT1} (h : F38_3 (fr 0) (fr 2) (fr 7) (fr 8) H R2 Q) : xCode Tryz.prog 20 (Code.l (Code.l (Code.r (bodyOf Tryz.f38)))) (thenK (fun fr H => R2 (fr 0) (fr 2) (fr 7) (fr 8) H) (blockK 0 (xRet Tryz.prog [] Q))) fr H :=
  Eq.mp (by kernel_rfl) h
theorem A38_2 {fr : Fr} {H : Hp} {Q : RT1} (h : F38_2 (fr 0) (fr 2) (fr 7) (fr 8) H Q) : xCode Tryz.prog 20 (Code.l (Code.r (bodyOf Tryz.f38))) (blockK 0 (xRet Tryz.prog [] Q)) fr H := by
  obtain ⟨I, μ, h0, hr⟩ := h
  refine loop_cut (a := (Code.l (Code.l (Code.r (bodyOf Tryz.f38))))) (by kernel_rfl) (fun fr1 H1 => fr1 0 = fr 0 ∧ fr1 2 = fr 2 ∧ fr1 7 = fr 7 ∧ I (fr1 8) H1) (fun fr1 H1 => μ (fr1 8) H1) (by exact ⟨rfl, rfl, rfl, h0⟩) ?_
  intro fr1 H1 hI
  obtain ⟨hu0, hu2, hu7, hI⟩ := hI
  have hb := hr (fr1 8) H1 hI
  rw [← hu0] at hb; rw [← hu2] at hb; rw [← hu7] at hb
  refine ⟨_, ?_, A38_3 hb⟩
  intro fr2 H2 hj
  obtain ⟨ku0, ku2, ku7, hI2, hlt⟩ := hj
  exact ⟨⟨(ku0.trans hu0), (ku2.trans hu2), (ku7.trans hu7), hI2⟩, hlt⟩
theorem A38_1 {fr : Fr} {H : Hp} {Q : RT1} (h : F38_1 (fr 0) (fr 2) (fr 7) (fr 8) H Q) : xCode Tryz.prog 20 (Code.r (bodyOf Tryz.f38)) (xRet Tryz.prog [] Q) fr H :=
  block_cut (by kernel_rfl) (A38_2 h)
theorem A38_4 {fr : Fr} {H : Hp} {Q : RT1} (h : F38_4 (fr 0) (fr 1) (fr 2) H Q) : xCode Tryz.prog 20 (Code.l (bodyOf Tryz.f38)) (thenK (fun fr H => F38_1 (fr 0) (fr 2) (fr 7) (fr 8) H Q) (xRet Tryz.prog [] Q)) fr H :=
  Eq.mp (by kernel_rfl) h
theorem A38_0 {fr : Fr} {H : Hp} {Q : RT1} (h : F38_0 (fr 0) (fr 1) (fr 2) H Q) : xCode Tryz.prog 20 (bodyOf Tryz.f38) (xRet Tryz.prog [] Q) fr H :=
  seq_cut (by kernel_rfl) (fun _ _ h => A38_1 h) (A38_4 h)
theorem E38 {t0 t1 t2 : Value} {H : Hp} {Q : RT1} (h : F38_0 t0 t1 t2 H Q) : NCalls Tryz.prog 38 #[t0, t1, t2] H Q :=
  NCalls.ofBody (by kernel_rfl) Tryz.func38 (by kernel_rfl) (by kernel_rfl) (Eq.mp (by kernel_rfl) (A38_0 (fr := fun i => (#[t0, t1, t2] : Array Value).getD i undef) (H := H) (Q := Q) (Eq.mp (by kernel_rfl) h)))
def F39_0 (t0 : Value) (H : Hp) (Q : RT1) : Prop :=
  q (Nz t0) fun t4_1 =>
  q (Fa 0 t4_1) fun t5_2 =>
  q (Ld H t5_2) fun t6_3 =>
  NCalls Tryz.prog 76 #[t6_3] H (fun t7_4 H_4 =>
  q (pv Tryz.prog (Instr.build 93 #[(0, t7_4)])) fun t8_5 =>
  New (Value.cells t8_5) 93 H_4 (fun t9_6 H_6 =>
  Q t9_6 H_6))
theorem A39_0 {fr : Fr} {H : Hp} {Q : RT1} (h : F39_0 (fr 0) H Q) : xCode Tryz.prog 10 (bodyOf Tryz.f39) (xRet Tryz.prog [.tmp 2] Q) fr H :=
  Eq.mp (by kernel_rfl) h
theorem E39 {t0 : Value} {H : Hp} {Q : RT1} (h : F39_0 t0 H Q) : NCalls Tryz.prog 39 #[t0] H Q :=
  NCalls.ofBody (by kernel_rfl) Tryz.func39 (by kernel_rfl) (by kernel_rfl) (Eq.mp (by kernel_rfl) (A39_0 (fr := fun i => (#[t0] : Array Value).getD i undef) (H := H) (Q := Q) (Eq.mp (by kernel_rfl) h)))
def F40_0 (t0 t1 : Value) (H : Hp) (Q : RT1) : Prop :=
  q (Bin Tryz.prog H .lss 3 true t0 (Value.int IntKind.i64 1)) fun t7_1 =>
  q (gd t7_1 false (some t0)) fun t9_2 =>
  q (gd t7_1 false (Bin Tryz.prog H .gtr 3 true t9_2 (Value.int IntKind.i64 4))) fun t10_3 =>
  q (Pk t7_1 (Value.bool true) t10_3) fun t11_4 =>
  q (gd t11_4 false (some t1)) fun t13_5 =>
  q (gd t11_4 false (Bin Tryz.prog H .lss 3 true t13_5 (Value.int IntKind.i64 1))) fun t14_6 =>
  q (Pk t11_4 (Value.bool true) t14_6) fun t15_7 =>
  q (gd t15_7 false (some t1)) fun t17_8 =>
  q (gd t15_7 false (Bin Tryz.prog H .gtr 3 true t17_8 (Value.int IntKind.i64 64))) fun t18_9 =>
  q (Pk t15_7 (Value.bool true) t18_9) fun t19_10 =>
  condV t19_10 (
    q (Ld H (Value.pointer (some ⟨0, 0, none⟩))) fun t20_11 =>
    Q (Value.tuple #[(Value.pointer none), t20_11]) H) (
    q (pv Tryz.prog (Instr.build 148 #[(0, t0), (1, t1)])) fun t23_12 =>
    New (Value.cells t23_12) 148 H (fun t24_13 H_13 =>
    Q (Value.tuple #[t24_13, Value.nilIface]) H_13))
theorem A40_0 {fr : Fr} {H : Hp} {Q : RT1} (h : F40_0 (fr 0) (fr 1) H Q) : xCode Tryz.prog 25 (bodyOf Tryz.f40) (xRet Tryz.prog [.tmp 4, .tmp 5] Q) fr H :=
  Eq.mp (by kernel_rfl) h
theorem E40 {t0 t1 : Value} {H : Hp} {Q : RT1} (h : F40_0 t0 t1 H Q) : NCalls Tryz.prog 40 #[t0, t1] H Q :=
  NCalls.ofBody (by kernel_rfl) Tryz.func40 (by kernel_rfl) (by kernel_rfl) (Eq.mp (by kernel_rfl) (A40_0 (fr := fun i => (#[t0, t1] : Array Value).getD i undef) (H := H) (Q := Q) (Eq.mp (by kernel_rfl) h)))
def F41_0 (t0 : Value) (H : Hp) (Q : RT1) : Prop :=
  q (Nz t0) fun t4_1 =>
  q (Fa 0 t4_1) fun t5_2 =>
  q (Ld H t5_2) fun t6_3 =>
  q (pv Tryz.prog (Builtin.len_ #[81] 0 #[t6_3])) fun t7_4 =>
  Q t7_4 H
theorem A41_0 {fr : Fr} {H : Hp} {Q : RT1} (h : F41_0 (fr 0) H Q) : xCode Tryz.prog 8 (bodyOf Tryz.f41) (xRet Tryz.prog [.tmp 2] Q) fr H :=
  Eq.mp (by kernel_rfl) h
theorem E41 {t0 : Value} {H : Hp} {Q : RT1} (h : F41_0 t0 H Q) : NCalls Tryz.prog 41 #[t0] H Q :=
  NCalls.ofBody (by kernel_rfl) Tryz.func41 (by kernel_rfl) (by kernel_rfl) (Eq.mp (by kernel_rfl) (A41_0 (fr := fun i => (#[t0] : Array Value).getD i undef) (H := H) (Q := Q) (Eq.mp (by kernel_rfl) h)))
def F42_4 (t4 t6 : Value) (H : Hp) (Q : RT1) : Prop :=
  q (LdA 4 H t6) fun t34_1 =>
  St 4 H t4 t34_1 ((fun u_2 H_2 =>
  q (LdA 4 H_2 t4) fun r_3 =>
  Q (Value.tuple #[r_3, (Value.bool true)]) H_2) undef)
def F42_8 (t0 t1 t4 t6 t17 : Value) (H : Hp) (R7 : RT5) (Q : RT1) : Prop :=
  q (Bin Tryz.prog H .lss 3 true t17 (Value.int IntKind.i64 4)) fun t18_4 =>
  condV t18_4 (
    q (Nz t0) fun t22_5 =>
    q (Fa 0 t22_5) fun t23_6 =>
    q (Ld H t23_6) fun t24_7 =>
    q (Bin Tryz.prog H .mul 3 true t1 (Value.int IntKind.i64 16)) fun t26_8 =>
    q (Bin Tryz.prog H .mul 3 true t17 (Value.int IntKind.i64 4)) fun t28_9 =>
    q (Bin Tryz.prog H .add 3 false t26_8 t28_9) fun t29_10 =>
    q (Sl 1 t24_7 (some t29_10) none none) fun t30_11 =>
    NCalls Tryz.prog 70 #[t30_11, (Value.int IntKind.i64 4)] H (fun t31_12 H_12 =>
    q (IxA 4 1 t6 t17) fun t32_13 =>
    St 1 H_12 t32_13 t31_12 ((fun u_14 H_14 =>
    q (Bin Tryz.prog H_14 .add 3 true t17 (Value.int IntKind.i64 1)) fun t33_15 =>
    R7 t0 t1 t4 t6 t33_15 H_14) undef))) (
    F42_4 t4 t6 H Q)
def F42_7 (t0 t1 t4 t6 t17 : Value) (H : Hp) (Q : RT1) : Prop :=
  ∃ (I : RT1) (μ : Value → Hp → Nat), I t17 H ∧ ∀ n17 H1, I n17 H1 → F42_8 t0 t1 t4 t6 n17 H1 (fun m0 m1 m4 m6 m17 H2 => m0 = t0 ∧ m1 = t1 ∧ m4 = t4 ∧ m6 = t6 ∧ (I m17 H2 ∧ μ m17 H2 < μ n17 H1)) Q
def F42_6 (t0 t1 t4 t6 t17 : Value) (H : Hp) (Q : RT1) : Prop := F42_7 t0 t1 t4 t6 t17 H Q
def F42_9 (t0 t1 t4 t6 : Value) (H : Hp) (Q : RT1) : Prop :=
  F42_6 t0 t1 t4 t6 (Value.int IntKind.i64 0) H Q
def F42_5 (t0 t1 t4 t6 : Value) (H : Hp) (Q : RT1) : Prop := F42_9 t0 t1 t4 t6 H Q
def F42_3 (t0 t1 t4 t6 : Value) (H : Hp) (Q : RT1) : Prop := F42_5 t0 t1 t4 t6 H Q
def F42_10 (t0 t1 t4 t6 : Value) (H : Hp) (Q : RT1) : Prop :=
  q (Bin Tryz.prog H .lss 3 true t1 (Value.int IntKind.i64 0)) fun t9_16 =>
  q (gd t9_16 false (some t1)) fun t11_17 =>
  q (gd t9_16 false (some t0)) fun t12_18 =>
  gl t9_16 false (fun K => NCalls Tryz.prog 77 #[t12_18] H K) H fun t13_19 H_19 =>
  q (gd t9_16 false (Bin Tryz.prog H_19 .geq 3 false t11_17 t13_19)) fun t14_20 =>
  q (Pk t9_16 (Value.bool true) t14_20) fun t15_21 =>
  condV t15_21 (
    q (LdA 4 H_19 t6) fun t16_22 =>
    St 4 H_19 t4 t16_22 ((fun u_23 H_23 =>
    q (LdA 4 H_23 t4) fun r_24 =>
    Q (Value.tuple #[r_24, (Value.bool false)]) H_23) undef)) (
    F42_3 t0 t1 t4 t6 H_19 Q)
def F42_2 (t0 t1 t4 t6 : Value) (H : Hp) (Q : RT1) : Prop := F42_10 t0 t1 t4 t6 H Q
def F42_11 (t0 t1 t4 : Value) (H : Hp) (Q : RT1) : Prop :=
  New #[Value.int IntKind.u32 0, Value.int IntKind.u32 0, Value.int IntKind.u32 0, Value.int IntKind.u32 0] 52 H (fun t6_25 H_25 =>
  F42_2 t0 t1 t4 t6_25 H_25 Q)
def F42_1 (t0 t1 t4 : Value) (H : Hp) (Q : RT1) : Prop := F42_11 t0 t1 t4 H Q
def F42_12 (t0 t1 : Value) (H : Hp) (Q : RT1) : Prop :=
  New #[Value.int IntKind.u32 0, Value.int IntKind.u32 0, Value.int IntKind.u32 0, Value.int IntKind.u32 0] 52 H (fun t4_26 H_26 =>
  F42_1 t0 t1 t4_26 H_26 Q)
def F42_0 (t0 t1 : Value) (H : Hp) (Q : RT1) : Prop := F42_12 t0 t1 H Q
theorem A42_4 {fr : Fr} {H : Hp} {Q : RT1} (h : F42_4 (fr 4) (fr 6) H Q) : xCode Tryz.prog 35 (Code.r (Code.r (Code.r (Code.r (bodyOf Tryz.f42))))) (xRet Tryz.prog [.cell 4 52, .tmp 5] Q) fr H :=
  Eq.mp (by kernel_rfl) h
abbrev K42_20 (Q : RT1) : QT := thenK (fun fr H => F42_4 (fr 4) (fr 6) H Q) (xRet Tryz.prog [.cell 4 52, .tmp 5] Q)
theorem A42_8 {fr : Fr} {H : Hp} {R7 : RT5} {Q : RT1} (h : F42_8 (fr 0) (fr 1) (fr 4) (fr 6) (fr 17) H R7 Q) : xCode Tryz.prog 35 (Code.l (Code.l (Code.r (Code.l (Code.r (Code.r (Code.r (bodyOf Tryz.f42)))))))) (thenK (fun fr H => R7 (fr 0) (fr 1) (fr 4) (fr 6) (fr 17) H) (blockK 0 (K42_20 Q))) fr H :=
  Eq.mp (by kernel_rfl) h
theorem A42_7 {fr : Fr} {H : Hp} {Q : RT1} (h : F42_7 (fr 0) (fr 1) (fr 4) (fr 6) (fr 17) H Q) : xCode Tryz.prog 35 (Code.l (Code.r (Code.l (Code.r (Code.r (Code.r (bodyOf Tryz.f42))))))) (blockK 0 (K42_20 Q)) fr H := by
  obtain ⟨I, μ, h0, hr⟩ := h
  refine loop_cut (a := (Code.l (Code.l (Code.r (Code.l (Code.r (Code.r (Code.r (bodyOf Tryz.f42))))))))) (by kernel_rfl) (fun fr1 H1 => fr1 0 = fr 0 ∧ fr1 1 = fr 1 ∧ fr1 4 = fr 4 ∧ fr1 6 = fr 6 ∧ I (fr1 17) H1) (fun fr1 H1 => μ (fr1 17) H1) (by exact ⟨rfl, rfl, rfl, rfl, h0⟩) ?_
  intro fr1 H1 hI
  obtain ⟨hu0, hu1, hu4, hu6, hI⟩ := hI
  have hb := hr (fr1 17) H1 hI
  rw [← hu0] at hb; rw [← hu1] at hb; rw [← hu4] at hb; rw [← hu6] at hb
  refine ⟨_, ?_, A42_8 hb⟩
  intro fr2 H2 hj
  obtain ⟨ku0, ku1, ku4, ku6, hI2, hlt⟩ := hj
  exact ⟨⟨(ku0.trans hu0), (ku1.trans hu1), (ku4.trans hu4), (ku6.trans hu6), hI2⟩, hlt⟩
theorem A42_6 {fr : Fr} {H : Hp} {Q : RT1} (h : F42_6 (fr 0) (fr 1) (fr 4) (fr 6) (fr 17) H Q) : xCode Tryz.prog 35 (Code.r (Code.l (Code.r (Code.r (Code.r (bodyOf Tryz.f42)))))) (K42_20 Q) fr H :=
  block_cut (by kernel_rfl) (A42_7 h)
theorem A42_9 {fr : Fr} {H : Hp} {Q : RT1} (h : F42_9 (fr 0) (fr 1) (fr 4) (fr 6) H Q) : xCode Tryz.prog 35 (Code.l (Code.l (Code.r (Code.r (Code.r (bodyOf Tryz.f42)))))) (thenK (fun fr H => F42_6 (fr 0) (fr 1) (fr 4) (fr 6) (fr 17) H Q) (K42_20 Q)) fr H :=
  Eq.mp (by kernel_rfl) h
theorem A42_5 {fr : Fr} {H : Hp} {Q : RT1} (h : F42_5 (fr 0) (fr 1) (fr 4) (fr 6) H Q) : xCode Tryz.prog 35 (Code.l (Code.r (Code.r (Code.r (bodyOf Tryz.f42))))) (K42_20 Q) fr H :=
  seq_cut (by kernel_rfl) (fun _ _ h => A42_6 h) (A42_9 h)
theorem A42_3 {fr : Fr} {H : Hp} {Q : RT1} (h : F42_3 (fr 0) (fr 1) (fr 4) (fr 6) H Q) : xCode Tryz.prog 35 (Code.r (Code.r (Code.r (bodyOf Tryz.f42)))) (xRet Tryz.prog [.cell 4 52, .tmp 5] Q) fr H :=
  seq_cut (by kernel_rfl) (fun _ _ h => A42_4 h) (A42_5 h)
theorem A42_10 {fr : Fr} {H : Hp} {Q : RT1} (h : F42_10 (fr 0) (fr 1) (fr 4) (fr 6) H Q) : xCode Tryz.prog 35 (Code.l (Code.r (Code.r (bodyOf Tryz.f42)))) (thenK (fun fr H => F42_3 (fr 0) (fr 1) (fr 4) (fr 6) H Q) (xRet Tryz.prog [.cell 4 52, .tmp 5] Q)) fr H :=
  Eq.mp (by kernel_rfl) h
theorem A42_2 {fr : Fr} {H : Hp} {Q : RT1} (h : F42_2 (fr 0) (fr 1) (fr 4) (fr 6) H Q) : xCode Tryz.prog 35 (Code.r (Code.r (bodyOf Tryz.f42))) (xRet Tryz.prog [.cell 4 52, .tmp 5] Q) fr H :=
  seq_cut (by kernel_rfl) (fun _ _ h => A42_3 h) (A42_10 h)
theorem A42_11 {fr : Fr} {H : Hp} {Q : RT1} (h : F42_11 (fr 0) (fr 1) (fr 4) H Q) : xCode Tryz.prog 35 (Code.l (Code.r (bodyOf Tryz.f42))) (thenK (fun fr H => F42_2 (fr 0) (fr 1) (fr 4) (fr 6) H Q) (xRet Tryz.prog [.cell 4 52, .tmp 5] Q)) fr H :=
  Eq.mp (by kernel_rfl) h
theorem A42_1 {fr : Fr} {H : Hp} {Q : RT1} (h : F42_1 (fr 0) (fr 1) (fr 4) H Q) : xCode Tryz.prog 35 (Code.r (bodyOf Tryz.f42)) (xRet Tryz.prog [.cell 4 52, .tmp 5] Q) fr H :=
  seq_cut (by kernel_rfl) (fun _ _ h => A42_2 h) (A42_11 h)
theorem A42_12 {fr : Fr} {H : Hp} {Q : RT1} (h : F42_12 (fr 0) (fr 1) H Q) : xCode Tryz.prog 35 (Code.l (bodyOf Tryz.f42)) (thenK (fun fr H => F42_1 (fr 0) (fr 1) (fr 4) H Q) (xRet Tryz.prog [.cell 4 52, .tmp 5] Q)) fr H :=
  Eq.mp (by kernel_rfl) h
theorem A42_0 {fr : Fr} {H : Hp} {Q : RT1} (h : F42_0 (fr 0) (fr 1) H Q) : xCode Tryz.prog 35 (bodyOf Tryz.f42) (xRet Tryz.prog [.cell 4 52, .tmp 5] Q) fr H :=
  seq_cut (by kernel_rfl) (fun _ _ h => A42_1 h) (A42_12 h)
theorem E42 {t0 t1 : Value} {H : Hp} {Q : RT1} (h : F42_0 t0 t1 H Q) : NCalls Tryz.prog 42 #[t0, t1] H Q :=
  NCalls.ofBody (by kernel_rfl) Tryz.func42 (by kernel_rfl) (by kernel_rfl) (Eq.mp (by kernel_rfl) (A42_0 (fr := fun i => (#[t0, t1] : Array Value).getD i undef) (H := H) (Q := Q) (Eq.mp (by kernel_rfl) h)))
def F43_0 (t0 t1 t2 : Value) (H : Hp) (Q : RT1) : Prop :=
  New (Value.cells t2) 52 H (fun t5_1 H_1 =>
  q (pv Tryz.prog (Builtin.max_ #[3, 3] 0 #[t1, (Value.int IntKind.i64 0)])) fun t8_2 =>
(  q (LdA 4 H_1 t5_1) fun t11_3 =>
  dm Tryz.prog (Instr.makeSlice 63 t8_2 t8_2) H_1 (fun t13_4 H_4 =>
  (LdA 4 H_4 t5_1) = some t11_3 ∧ (
  dm Tryz.prog (Instr.makeSlice 63 t8_2 t8_2) H_4 (fun t15_5 H_5 =>
  (LdA 4 H_5 t5_1) = some t11_3 ∧ (
  q (pv Tryz.prog (Instr.build 150 #[(0, t0), (1, t8_2), (2, t11_3), (3, (Value.int IntKind.i64 (-1))), (4, t13_4), (8, (Value.int IntKind.i64 (-1))), (9, t15_5)])) fun t16_6 =>
  New (Value.cells t16_6) 150 H_5 (fun t17_7 H_7 =>
  Q t17_7 H_7)))))) ∧
(  q (LdA 4 H_1 t5_1) fun t11_8 =>
  dm Tryz.prog (Instr.makeSlice 63 t8_2 t8_2) H_1 (fun t15_9 H_9 =>
  (LdA 4 H_9 t5_1) = some t11_8 ∧ (
  dm Tryz.prog (Instr.makeSlice 63 t8_2 t8_2) H_9 (fun t13_10 H_10 =>
  (LdA 4 H_10 t5_1) = some t11_8 ∧ (
  q (pv Tryz.prog (Instr.build 150 #[(0, t0), (1, t8_2), (2, t11_8), (3, (Value.int IntKind.i64 (-1))), (4, t13_10), (8, (Value.int IntKind.i64 (-1))), (9, t15_9)])) fun t16_11 =>
  New (Value.cells t16_11) 150 H_10 (fun t17_12 H_12 =>
  Q t17_12 H_12)))))))
theorem A43_0 {fr : Fr} {H : Hp} {Q : RT1} (h : F43_0 (fr 0) (fr 1) (fr 2) H Q) : xCode Tryz.prog 18 (bodyOf Tryz.f43) (xRet Tryz.prog [.tmp 6] Q) fr H :=
  Eq.mp (by kernel_rfl) h
theorem E43 {t0 t1 t2 : Value} {H : Hp} {Q : RT1} (h : F43_0 t0 t1 t2 H Q) : NCalls Tryz.prog 43 #[t0, t1, t2] H Q :=
  NCalls.ofBody (by kernel_rfl) Tryz.func43 (by kernel_rfl) (by kernel_rfl) (Eq.mp (by kernel_rfl) (A43_0 (fr := fun i => (#[t0, t1, t2] : Array Value).getD i undef) (H := H) (Q := Q) (Eq.mp (by kernel_rfl) h)))
def F44_0 (t0 t1 t2 : Value) (H : Hp) (Q : RT1) : Prop :=
  q (Bin Tryz.prog H .geq 3 true t1 (Value.int IntKind.i64 0)) fun t8_1 =>
  q (gd t8_1 true (some t1)) fun t10_2 =>
  q (gd t8_1 true (some t0)) fun t11_3 =>
  q (gd t8_1 true (Nz t11_3)) fun t12_4 =>
  q (gd t8_1 true (Fa 1 t12_4)) fun t13_5 =>
  q (gd t8_1 true (Ld H t13_5)) fun t14_6 =>
  q (gd t8_1 true (pv Tryz.prog (Builtin.len_ #[95] 0 #[t14_6]))) fun t15_7 =>
  q (gd t8_1 true (Bin Tryz.prog H .lss 3 false t10_2 t15_7)) fun t16_8 =>
  q (Pk t8_1 t16_8 (Value.bool false)) fun t17_9 =>
  q (gd t17_9 true (some t2)) fun t19_10 =>
  q (gd t17_9 true (Bin Tryz.prog H .geq 3 true t19_10 (Value.int IntKind.i64 0))) fun t20_11 =>
  q (Pk t17_9 t20_11 (Value.bool false)) fun t21_12 =>
  q (gd t21_12 true (some t2)) fun t23_13 =>
  q (gd t21_12 true (some t0)) fun t24_14 =>
  q (gd t21_12 true (Nz t24_14)) fun t25_15 =>
  q (gd t21_12 true (Fa 3 t25_15)) fun t26_16 =>
  q (gd t21_12 true (Ld H t26_16)) fun t27_17 =>
  q (gd t21_12 true (pv Tryz.prog (Builtin.len_ #[97] 0 #[t27_17]))) fun t28_18 =>
  q (gd t21_12 true (Bin Tryz.prog H .lss 3 false t23_13 t28_18)) fun t29_19 =>
  q (Pk t21_12 t29_19 (Value.bool false)) fun t30_20 =>
  Q t30_20 H
theorem A44_0 {fr : Fr} {H : Hp} {Q : RT1} (h : F44_0 (fr 0) (fr 1) (fr 2) H Q) : xCode Tryz.prog 31 (bodyOf Tryz.f44) (xRet Tryz.prog [.tmp 6] Q) fr H :=
  Eq.mp (by kernel_rfl) h
theorem E44 {t0 t1 t2 : Value} {H : Hp} {Q : RT1} (h : F44_0 t0 t1 t2 H Q) : NCalls Tryz.prog 44 #[t0, t1, t2] H Q :=
  NCalls.ofBody (by kernel_rfl) Tryz.func44 (by kernel_rfl) (by kernel_rfl) (Eq.mp (by kernel_rfl) (A44_0 (fr := fun i => (#[t0, t1, t2] : Array Value).getD i undef) (H := H) (Q := Q) (Eq.mp (by kernel_rfl) h)))
def F45_0 (t0 t1 : Value) (H : Hp) (Q : RT1) : Prop :=
  q (Nz t0) fun t6_1 =>
  q (Fa 1 t6_1) fun t7_2 =>
  q (Ld H t7_2) fun t8_3 =>
  q (rd Tryz.prog H (Instr.lookup 103 t8_3 t1 false)) fun t10_4 =>
  Q t10_4 H
theorem A45_0 {fr : Fr} {H : Hp} {Q : RT1} (h : F45_0 (fr 0) (fr 1) H Q) : xCode Tryz.prog 11 (bodyOf Tryz.f45) (xRet Tryz.prog [.tmp 4] Q) fr H :=
  Eq.mp (by kernel_rfl) h
theorem E45 {t0 t1 : Value} {H : Hp} {Q : RT1} (h : F45_0 t0 t1 H Q) : NCalls Tryz.prog 45 #[t0, t1] H Q :=
  NCalls.ofBody (by kernel_rfl) Tryz.func45 (by kernel_rfl) (by kernel_rfl) (Eq.mp (by kernel_rfl) (A45_0 (fr := fun i => (#[t0, t1] : Array Value).getD i undef) (H := H) (Q := Q) (Eq.mp (by kernel_rfl) h)))
def F46_0 (t0 t1 : Value) (H : Hp) (Q : RT1) : Prop :=
  q (Nz t0) fun t6_1 =>
  q (Fa 7 t6_1) fun t7_2 =>
  q (Ld H t7_2) fun t8_3 =>
  q (Bin Tryz.prog H .neq 3 true t8_3 (Value.int IntKind.i64 0)) fun t9_4 =>
  q (gd t9_4 false (some t0)) fun t11_5 =>
  q (gd t9_4 false (Nz t11_5)) fun t12_6 =>
  q (gd t9_4 false (Fa 2 t12_6)) fun t13_7 =>
  q (gd t9_4 false (Ld H t13_7)) fun t14_8 =>
  q (gd t9_4 false (Bin Tryz.prog H .eql 3 true t14_8 (Value.int IntKind.i64 0))) fun t15_9 =>
  q (Pk t9_4 (Value.bool true) t15_9) fun t16_10 =>
  condV t16_10 (
    Q (Value.bool false) H) (
    q (pv Tryz.prog (Op.unary .not t1)) fun t18_11 =>
    q (gd t18_11 false (some t0)) fun t20_12 =>
    q (gd t18_11 false (Nz t20_12)) fun t21_13 =>
    q (gd t18_11 false (Fa 2 t21_13)) fun t22_14 =>
    q (gd t18_11 false (Ld H t22_14)) fun t23_15 =>
    q (gd t18_11 false (Bin Tryz.prog H .eql 3 true t23_15 (Value.int IntKind.i64 2))) fun t24_16 =>
    q (Pk t18_11 (Value.bool true) t24_16) fun t25_17 =>
    q (gd t25_17 false (some t0)) fun t27_18 =>
    q (gd t25_17 false (Nz t27_18)) fun t28_19 =>
    q (gd t25_17 false (Fa 2 t28_19)) fun t29_20 =>
    q (gd t25_17 false (Ld H t29_20)) fun t30_21 =>
    q (gd t25_17 false (Bin Tryz.prog H .eql 3 true t30_21 (Value.int IntKind.i64 4))) fun t31_22 =>
    q (Pk t25_17 (Value.bool true) t31_22) fun t32_23 =>
    Q t32_23 H)
theorem A46_0 {fr : Fr} {H : Hp} {Q : RT1} (h : F46_0 (fr 0) (fr 1) H Q) : xCode Tryz.prog 33 (bodyOf Tryz.f46) (xRet Tryz.prog [.tmp 4] Q) fr H :=
  Eq.mp (by kernel_rfl) h
theorem E46 {t0 t1 : Value} {H : Hp} {Q : RT1} (h : F46_0 t0 t1 H Q) : NCalls Tryz.prog 46 #[t0, t1] H Q :=
  NCalls.ofBody (by kernel_rfl) Tryz.func46 (by kernel_rfl) (by kernel_rfl) (Eq.mp (by kernel_rfl) (A46_0 (fr := fun i => (#[t0, t1] : Array Value).getD i undef) (H := H) (Q := Q) (Eq.mp (by kernel_rfl) h)))
def F47_0 (t0 : Value) (H : Hp) (Q : RT1) : Prop :=
  q (Nz t0) fun t4_1 =>
  q (Fa 7 t4_1) fun t5_2 =>
  q (Ld H t5_2) fun t6_3 =>
  Q t6_3 H
theorem A47_0 {fr : Fr} {H : Hp} {Q : RT1} (h : F47_0 (fr 0) H Q) : xCode Tryz.prog 7 (bodyOf Tryz.f47) (xRet Tryz.prog [.tmp 2] Q) fr H :=
  Eq.mp (by kernel_rfl) h
theorem E47 {t0 : Value} {H : Hp} {Q : RT1} (h : F47_0 t0 H Q) : NCalls Tryz.prog 47 #[t0] H Q :=
  NCalls.ofBody (by kernel_rfl) Tryz.func47 (by kernel_rfl) (by kernel_rfl) (Eq.mp (by kernel_rfl) (A47_0 (fr := fun i => (#[t0] : Array Value).getD i undef) (H := H) (Q := Q) (Eq.mp (by kernel_rfl) h)))
def F48_5 (t4 t7 : Value) (H : Hp) (Q : RT1) : Prop :=
  Q (Value.tuple #[t4, t7]) H
def F48_12 (t0 t4 t7 t28 t29 t30 : Value) (H : Hp) (R8 : RT6) (Q : RT1) : Prop :=
  q (Bin Tryz.prog H .add 3 true t30 (Value.int IntKind.i64 1)) fun t48_1 =>
  R8 t0 t4 t7 t28 t29 t48_1 H
def F48_13 (t0 t4 t7 t28 t29 t30 : Value) (H : Hp) (R8 : RT6) (Q : RT1) : Prop :=
  q (Ix 6 t28 t30) fun t32_2 =>
  q (LdA 6 H t32_2) fun t33_3 =>
  New #[Value.int IntKind.i64 0, Value.int IntKind.i64 0, Value.int IntKind.u32 0, Value.int IntKind.u32 0, Value.int IntKind.u32 0, Value.int IntKind.u32 0] 123 H (fun t9_4 H_4 =>
  St 6 H_4 t9_4 t33_3 ((fun u_5 H_5 =>
  q (Nz t0) fun t35_6 =>
  q (Fa 1 t35_6) fun t36_7 =>
  q (Ld H_5 t36_7) fun t37_8 =>
  q (Fa 0 t9_4) fun t38_9 =>
  q (Ld H_5 t38_9) fun t39_10 =>
  q (rd Tryz.prog H_5 (Instr.lookup 103 t37_8 t39_10 false)) fun t40_11 =>
  NCalls Tryz.prog 47 #[t40_11] H_5 (fun t41_12 H_12 =>
  q (Bin Tryz.prog H_12 .neq 3 true t41_12 (Value.int IntKind.i64 0)) fun t42_13 =>
  condV t42_13 (
    q (Fa 0 t9_4) fun t44_14 =>
    q (Ld H_12 t44_14) fun t45_15 =>
    Bsl #[Value.int IntKind.i64 0] 1 3 1 [(0, t45_15)] H_12 (fun t46_16 H_16 =>
    dm Tryz.prog (Builtin.append_ #[49, 49] 0 #[t7, t46_16]) H_16 (fun t47_17 H_17 =>
    F48_12 t0 t4 t47_17 t28 t29 t30 H_17 R8 Q))) (
    F48_12 t0 t4 t7 t28 t29 t30 H_12 R8 Q))) undef))
def F48_11 (t0 t4 t7 t28 t29 t30 : Value) (H : Hp) (R8 : RT6) (Q : RT1) : Prop := F48_13 t0 t4 t7 t28 t29 t30 H R8 Q
def F48_14 (t0 t4 t7 t28 t29 t30 t31 : Value) (H : Hp) (R8 : RT6) (Q : RT1) : Prop :=
  condV t31 (
    F48_11 t0 t4 t7 t28 t29 t30 H R8 Q) (
    F48_5 t4 t7 H Q)
def F48_10 (t0 t4 t7 t28 t29 t30 t31 : Value) (H : Hp) (R8 : RT6) (Q : RT1) : Prop := F48_14 t0 t4 t7 t28 t29 t30 t31 H R8 Q
def F48_15 (t0 t4 t7 t28 t29 t30 : Value) (H : Hp) (R8 : RT6) (Q : RT1) : Prop :=
  q (Bin Tryz.prog H .lss 3 false t30 t29) fun t31_18 =>
  F48_10 t0 t4 t7 t28 t29 t30 t31_18 H R8 Q
def F48_9 (t0 t4 t7 t28 t29 t30 : Value) (H : Hp) (R8 : RT6) (Q : RT1) : Prop := F48_15 t0 t4 t7 t28 t29 t30 H R8 Q
def F48_8 (t0 t4 t7 t28 t29 t30 : Value) (H : Hp) (Q : RT1) : Prop :=
  ∃ (I : RT2) (μ : Value → Value → Hp → Nat), I t7 t30 H ∧ ∀ n7 n30 H1, I n7 n30 H1 → F48_9 t0 t4 n7 t28 t29 n30 H1 (fun m0 m4 m7 m28 m29 m30 H2 => m0 = t0 ∧ m4 = t4 ∧ m28 = t28 ∧ m29 = t29 ∧ (I m7 m30 H2 ∧ μ m7 m30 H2 < μ n7 n30 H1)) Q
def F48_7 (t0 t4 t7 t28 t29 t30 : Value) (H : Hp) (Q : RT1) : Prop := F48_8 t0 t4 t7 t28 t29 t30 H Q
def F48_16 (t0 t4 t7 : Value) (H : Hp) (Q : RT1) : Prop :=
  q (Nz t0) fun t25_19 =>
  q (Fa 0 t25_19) fun t26_20 =>
  q (Ld H t26_20) fun t27_21 =>
  NCalls Tryz.prog 78 #[t27_21] H (fun t28_22 H_22 =>
  q (pv Tryz.prog (Builtin.len_ #[153] 0 #[t28_22])) fun t29_23 =>
  F48_7 t0 t4 t7 t28_22 t29_23 (Value.int IntKind.i64 0) H_22 Q)
def F48_6 (t0 t4 t7 : Value) (H : Hp) (Q : RT1) : Prop := F48_16 t0 t4 t7 H Q
def F48_4 (t0 t4 t7 : Value) (H : Hp) (Q : RT1) : Prop := F48_6 t0 t4 t7 H Q
def F48_17 (t0 t4 : Value) (H : Hp) (Q : RT1) : Prop :=
  F48_4 t0 t4 (Value.slice none 0 0) H Q
def F48_3 (t0 t4 : Value) (H : Hp) (Q : RT1) : Prop := F48_17 t0 t4 H Q
def F48_21 (t0 t4 t14 : Value) (H : Hp) (R20 : RT3) (Q : RT1) : Prop :=
  dm Tryz.prog (Instr.next t14 false 0) H (fun t15_24 H_24 =>
  q (Ex 0 t15_24) fun t16_25 =>
  condV t16_25 (
    q (rd Tryz.prog H_24 (Instr.entry t14)) fun t17_26 =>
    q (Ex 1 t17_26) fun t18_27 =>
    NCalls Tryz.prog 47 #[t18_27] H_24 (fun t20_28 H_28 =>
    q (Bin Tryz.prog H_28 .neq 3 true t20_28 (Value.int IntKind.i64 0)) fun t21_29 =>
    condV t21_29 (
      q (Bin Tryz.prog H_28 .add 3 true t4 (Value.int IntKind.i64 1)) fun t23_30 =>
      R20 t0 t23_30 t14 H_28) (
      R20 t0 t4 t14 H_28))) (
    F48_3 t0 t4 H_24 Q))
def F48_20 (t0 t4 t14 : Value) (H : Hp) (Q : RT1) : Prop :=
  ∃ (I : RT1) (μ : Value → Hp → Nat), I t4 H ∧ ∀ n4 H1, I n4 H1 → F48_21 t0 n4 t14 H1 (fun m0 m4 m14 H2 => m0 = t0 ∧ m14 = t14 ∧ (I m4 H2 ∧ μ m4 H2 < μ n4 H1)) Q
def F48_19 (t0 t4 t14 : Value) (H : Hp) (Q : RT1) : Prop := F48_20 t0 t4 t14 H Q
def F48_22 (t0 t4 : Value) (H : Hp) (Q : RT1) : Prop :=
  q (Nz t0) fun t11_31 =>
  q (Fa 1 t11_31) fun t12_32 =>
  q (Ld H t12_32) fun t13_33 =>
  dm Tryz.prog (Instr.range 103 t13_33) H (fun t14_34 H_34 =>
  F48_19 t0 t4 t14_34 H_34 Q)
def F48_18 (t0 t4 : Value) (H : Hp) (Q : RT1) : Prop := F48_22 t0 t4 H Q
def F48_2 (t0 t4 : Value) (H : Hp) (Q : RT1) : Prop := F48_18 t0 t4 H Q
def F48_23 (t0 : Value) (H : Hp) (Q : RT1) : Prop :=
  F48_2 t0 (Value.int IntKind.i64 0) H Q
def F48_1 (t0 : Value) (H : Hp) (Q : RT1) : Prop := F48_23 t0 H Q
def F48_24 (t0 : Value) (H : Hp) (Q : RT1) : Prop :=
  F48_1 t0 H Q
def F48_0 (t0 : Value) (H : Hp) (Q : RT1) : Prop := F48_24 t0 H Q
theorem A48_5 {fr : Fr} {H : Hp} {Q : RT1} (h : F48_5 (fr 4) (fr 7) H Q) : xCode Tryz.prog 51 (Code.r (Code.r (Code.r (Code.r (Code.r (bodyOf Tryz.f48)))))) (xRet Tryz.prog [.tmp 2, .tmp 3] Q) fr H :=
  Eq.mp (by kernel_rfl) h
abbrev K48_21 (Q : RT1) : QT := thenK (fun fr H => F48_5 (fr 4) (fr 7) H Q) (xRet Tryz.prog [.tmp 2, .tmp 3] Q)
abbrev K48_22 (R8 : RT6) (Q : RT1) : QT := thenK (fun fr H => R8 (fr 0) (fr 4) (fr 7) (fr 28) (fr 29) (fr 30) H) (blockK 2 (K48_21 Q))
theorem A48_12 {fr : Fr} {H : Hp} {R8 : RT6} {Q : RT1} (h : F48_12 (fr 0) (fr 4) (fr 7) (fr 28) (fr 29) (fr 30) H R8 Q) : xCode Tryz.prog 51 (Code.r (Code.r (Code.r (Code.l (Code.l (Code.r (Code.l (Code.r (Code.r (Code.r (Code.r (bodyOf Tryz.f48)))))))))))) (K48_22 R8 Q) fr H :=
  Eq.mp (by kernel_rfl) h
theorem A48_13 {fr : Fr} {H : Hp} {R8 : RT6} {Q : RT1} (h : F48_13 (fr 0) (fr 4) (fr 7) (fr 28) (fr 29) (fr 30) H R8 Q) : xCode Tryz.prog 51 (Code.l (Code.r (Code.r (Code.l (Code.l (Code.r (Code.l (Code.r (Code.r (Code.r (Code.r (bodyOf Tryz.f48)))))))))))) (thenK (fun fr H => F48_12 (fr 0) (fr 4) (fr 7) (fr 28) (fr 29) (fr 30) H R8 Q) (K48_22 R8 Q)) fr H :=
  Eq.mp (by kernel_rfl) h
theorem A48_11 {fr : Fr} {H : Hp} {R8 : RT6} {Q : RT1} (h : F48_11 (fr 0) (fr 4) (fr 7) (fr 28) (fr 29) (fr 30) H R8 Q) : xCode Tryz.prog 51 (Code.r (Code.r (Code.l (Code.l (Code.r (Code.l (Code.r (Code.r (Code.r (Code.r (bodyOf Tryz.f48))))))))))) (K48_22 R8 Q) fr H :=
  seq_cut (by kernel_rfl) (fun _ _ h => A48_12 h) (A48_13 h)
theorem A48_14 {fr : Fr} {H : Hp} {R8 : RT6} {Q : RT1} (h : F48_14 (fr 0) (fr 4) (fr 7) (fr 28) (fr 29) (fr 30) (fr 31) H R8 Q) : xCode Tryz.prog 51 (Code.l (Code.r (Code.l (Code.l (Code.r (Code.l (Code.r (Code.r (Code.r (Code.r (bodyOf Tryz.f48))))))))))) (thenK (fun fr H => F48_11 (fr 0) (fr 4) (fr 7) (fr 28) (fr 29) (fr 30) H R8 Q) (K48_22 R8 Q)) fr H :=
  Eq.mp (by kernel_rfl) h
theorem A48_10 {fr : Fr} {H : Hp} {R8 : RT6} {Q : RT1} (h : F48_10 (fr 0) (fr 4) (fr 7) (fr 28) (fr 29) (fr 30) (fr 31) H R8 Q) : xCode Tryz.prog 51 (Code.r (Code.l (Code.l (Code.r (Code.l (Code.r (Code.r (Code.r (Code.r (bodyOf Tryz.f48)))))))))) (K48_22 R8 Q) fr H :=
  seq_cut (by kernel_rfl) (fun _ _ h => A48_11 h) (A48_14 h)
theorem A48_15 {fr : Fr} {H : Hp} {R8 : RT6} {Q : RT1} (h : F48_15 (fr 0) (fr 4) (fr 7) (fr 28) (fr 29) (fr 30) H R8 Q) : xCode Tryz.prog 51 (Code.l (Code.l (Code.l (Code.r (Code.l (Code.r (Code.r (Code.r (Code.r (bodyOf Tryz.f48)))))))))) (thenK (fun fr H => F48_10 (fr 0) (fr 4) (fr 7) (fr 28) (fr 29) (fr 30) (fr 31) H R8 Q) (K48_22 R8 Q)) fr H :=
  Eq.mp (by kernel_rfl) h
theorem A48_9 {fr : Fr} {H : Hp} {R8 : RT6} {Q : RT1} (h : F48_9 (fr 0) (fr 4) (fr 7) (fr 28) (fr 29) (fr 30) H R8 Q) : xCode Tryz.prog 51 (Code.l (Code.l (Code.r (Code.l (Code.r (Code.r (Code.r (Code.r (bodyOf Tryz.f48))))))))) (K48_22 R8 Q) fr H :=
  seq_cut (by kernel_rfl) (fun _ _ h => A48_10 h) (A48_15 h)
theorem A48_8 {fr : Fr} {H : Hp} {Q : RT1} (h : F48_8 (fr 0) (fr 4) (fr 7) (fr 28) (fr 29) (fr 30) H Q) : xCode Tryz.prog 51 (Code.l (Code.r (Code.l (Code.r (Code.r (Code.r (Code.r (bodyOf Tryz.f48)))))))) (blockK 2 (K48_21 Q)) fr H := by
  obtain ⟨I, μ, h0, hr⟩ := h
  refine loop_cut (a := (Code.l (Code.l (Code.r (Code.l (Code.r (Code.r (Code.r (Code.r (bodyOf Tryz.f48)))))))))) (by kernel_rfl) (fun fr1 H1 => fr1 0 = fr 0 ∧ fr1 4 = fr 4 ∧ fr1 28 = fr 28 ∧ fr1 29 = fr 29 ∧ I (fr1 7) (fr1 30) H1) (fun fr1 H1 => μ (fr1 7) (fr1 30) H1) (by exact ⟨rfl, rfl, rfl, rfl, h0⟩) ?_
  intro fr1 H1 hI
  obtain ⟨hu0, hu4, hu28, hu29, hI⟩ := hI
  have hb := hr (fr1 7) (fr1 30) H1 hI
  rw [← hu0] at hb; rw [← hu4] at hb; rw [← hu28] at hb; rw [← hu29] at hb
  refine ⟨_, ?_, A48_9 hb⟩
  intro fr2 H2 hj
  obtain ⟨ku0, ku4, ku28, ku29, hI2, hlt⟩ := hj
  exact ⟨⟨(ku0.trans hu0), (ku4.trans hu4), (ku28.trans hu28), (ku29.trans hu29), hI2⟩, hlt⟩
theorem A48_7 {fr : Fr} {H : Hp} {Q : RT1} (h : F48_7 (fr 0) (fr 4) (fr 7) (fr 28) (fr 29) (fr 30) H Q) : xCode Tryz.prog 51 (Code.r (Code.l (Code.r (Code.r (Code.r (Code.r (bodyOf Tryz.f48))))))) (K48_21 Q) fr H :=
  block_cut (by kernel_rfl) (A48_8 h)
theorem A48_16 {fr : Fr} {H : Hp} {Q : RT1} (h : F48_16 (fr 0) (fr 4) (fr 7) H Q) : xCode Tryz.prog 51 (Code.l (Code.l (Code.r (Code.r (Code.r (Code.r (bodyOf Tryz.f48))))))) (thenK (fun fr H => F48_7 (fr 0) (fr 4) (fr 7) (fr 28) (fr 29) (fr 30) H Q) (K48_21 Q)) fr H :=
  Eq.mp (by kernel_rfl) h
theorem A48_6 {fr : Fr} {H : Hp} {Q : RT1} (h : F48_6 (fr 0) (fr 4) (fr 7) H Q) : xCode Tryz.prog 51 (Code.l (Code.r (Code.r (Code.r (Code.r (bodyOf Tryz.f48)))))) (K48_21 Q) fr H :=
  seq_cut (by kernel_rfl) (fun _ _ h => A48_7 h) (A48_16 h)
theorem A48_4 {fr : Fr} {H : Hp} {Q : RT1} (h : F48_4 (fr 0) (fr 4) (fr 7) H Q) : xCode Tryz.prog 51 (Code.r (Code.r (Code.r (Code.r (bodyOf Tryz.f48))))) (xRet Tryz.prog [.tmp 2, .tmp 3] Q) fr H :=
  seq_cut (by kernel_rfl) (fun _ _ h => A48_5 h) (A48_6 h)
theorem A48_17 {fr : Fr} {H : Hp} {Q : RT1} (h : F48_17 (fr 0) (fr 4) H Q) : xCode Tryz.prog 51 (Code.l (Code.r (Code.r (Code.r (bodyOf Tryz.f48))))) (thenK (fun fr H => F48_4 (fr 0) (fr 4) (fr 7) H Q) (xRet Tryz.prog [.tmp 2, .tmp 3] Q)) fr H :=
  Eq.mp (by kernel_rfl) h
theorem A48_3 {fr : Fr} {H : Hp} {Q : RT1} (h : F48_3 (fr 0) (fr 4) H Q) : xCode Tryz.prog 51 (Code.r (Code.r (Code.r (bodyOf Tryz.f48)))) (xRet Tryz.prog [.tmp 2, .tmp 3] Q) fr H :=
  seq_cut (by kernel_rfl) (fun _ _ h => A48_4 h) (A48_17 h)
abbrev K48_23 (Q : RT1) : QT := thenK (fun fr H => F48_3 (fr 0) (fr 4) H Q) (xRet Tryz.prog [.tmp 2, .tmp 3] Q)
theorem A48_21 {fr : Fr} {H : Hp} {R20 : RT3} {Q : RT1} (h : F48_21 (fr 0) (fr 4) (fr 14) H R20 Q) : xCode Tryz.prog 51 (Code.l (Code.l (Code.r (Code.l (Code.r (Code.r (bodyOf Tryz.f48))))))) (thenK (fun fr H => R20 (fr 0) (fr 4) (fr 14) H) (blockK 0 (K48_23 Q))) fr H :=
  Eq.mp (by kernel_rfl) h
theorem A48_20 {fr : Fr} {H : Hp} {Q : RT1} (h : F48_20 (fr 0) (fr 4) (fr 14) H Q) : xCode Tryz.prog 51 (Code.l (Code.r (Code.l (Code.r (Code.r (bodyOf Tryz.f48)))))) (blockK 0 (K48_23 Q)) fr H := by
  obtain ⟨I, μ, h0, hr⟩ := h
  refine loop_cut (a := (Code.l (Code.l (Code.r (Code.l (Code.r (Code.r (bodyOf Tryz.f48)))))))) (by kernel_rfl) (fun fr1 H1 => fr1 0 = fr 0 ∧ fr1 14 = fr 14 ∧ I (fr1 4) H1) (fun fr1 H1 => μ (fr1 4) H1) (by exact ⟨rfl, rfl, h0⟩) ?_
  intro fr1 H1 hI
  obtain ⟨hu0, hu14, hI⟩ := hI
  have hb := hr (fr1 4) H1 hI
  rw [← hu0] at hb; rw [← hu14] at hb
  refine ⟨_, ?_, A48_21 hb⟩
  intro fr2 H2 hj
  obtain ⟨ku0, ku14, hI2, hlt⟩ := hj
  exact ⟨⟨(ku0.trans hu0), (ku14.trans hu14), hI2⟩, hlt⟩
theorem A48_19 {fr : Fr} {H : Hp} {Q : RT1} (h : F48_19 (fr 0) (fr 4) (fr 14) H Q) : xCode Tryz.prog 51 (Code.r (Code.l (Code.r (Code.r (bodyOf Tryz.f48))))) (K48_23 Q) fr H :=
  block_cut (by kernel_rfl) (A48_20 h)
theorem A48_22 {fr : Fr} {H : Hp} {Q : RT1} (h : F48_22 (fr 0) (fr 4) H Q) : xCode Tryz.prog 51 (Code.l (Code.l (Code.r (Code.r (bodyOf Tryz.f48))))) (thenK (fun fr H => F48_19 (fr 0) (fr 4) (fr 14) H Q) (K48_23 Q)) fr H :=
  Eq.mp (by kernel_rfl) h
theorem A48_18 {fr : Fr} {H : Hp} {Q : RT1} (h : F48_18 (fr 0) (fr 4) H Q) : xCode Tryz.prog 51 (Code.l (Code.r (Code.r (bodyOf Tryz.f48)))) (K48_23 Q) fr H :=
  seq_cut (by kernel_rfl) (fun _ _ h => A48_19 h) (A48_22 h)
theorem A48_2 {fr : Fr} {H : Hp} {Q : RT1} (h : F48_2 (fr 0) (fr 4) H Q) : xCode Tryz.prog 51 (Code.r (Code.r (bodyOf Tryz.f48))) (xRet Tryz.prog [.tmp 2, .tmp 3] Q) fr H :=
  seq_cut (by kernel_rfl) (fun _ _ h => A48_3 h) (A48_18 h)
theorem A48_23 {fr : Fr} {H : Hp} {Q : RT1} (h : F48_23 (fr 0) H Q) : xCode Tryz.prog 51 (Code.l (Code.r (bodyOf Tryz.f48))) (thenK (fun fr H => F48_2 (fr 0) (fr 4) H Q) (xRet Tryz.prog [.tmp 2, .tmp 3] Q)) fr H :=
  Eq.mp (by kernel_rfl) h
theorem A48_1 {fr : Fr} {H : Hp} {Q : RT1} (h : F48_1 (fr 0) H Q) : xCode Tryz.prog 51 (Code.r (bodyOf Tryz.f48)) (xRet Tryz.prog [.tmp 2, .tmp 3] Q) fr H :=
  seq_cut (by kernel_rfl) (fun _ _ h => A48_2 h) (A48_23 h)
theorem A48_24 {fr : Fr} {H : Hp} {Q : RT1} (h : F48_24 (fr 0) H Q) : xCode Tryz.prog 51 (Code.l (bodyOf Tryz.f48)) (thenK (fun fr H => F48_1 (fr 0) H Q) (xRet Tryz.prog [.tmp 2, .tmp 3] Q)) fr H :=
  Eq.mp (by kernel_rfl) h
theorem A48_0 {fr : Fr} {H : Hp} {Q : RT1} (h : F48_0 (fr 0) H Q) : xCode Tryz.prog 51 (bodyOf Tryz.f48) (xRet Tryz.prog [.tmp 2, .tmp 3] Q) fr H :=
  seq_cut (by kernel_rfl) (fun _ _ h => A48_1 h) (A48_24 h)
theorem E48 {t0 : Value} {H : Hp} {Q : RT1} (h : F48_0 t0 H Q) : NCalls Tryz.prog 48 #[t0] H Q :=
  NCalls.ofBody (by kernel_rfl) Tryz.func48 (by kernel_rfl) (by kernel_rfl) (Eq.mp (by kernel_rfl) (A48_0 (fr := fun i => (#[t0] : Array Value).getD i undef) (H := H) (Q := Q) (Eq.mp (by kernel_rfl) h)))
def F49_0 (t0 t1 t2 t3 : Value) (H : Hp) (Q : RT1) : Prop :=
  q (Nz t0) fun t14_1 =>
  q (Fa 0 t14_1) fun t15_2 =>
  q (Ld H t15_2) fun t16_3 =>
  NCalls Tryz.prog 79 #[t16_3, t2] H (fun t18_4 H_4 =>
  condV t18_4 (
    Q (Value.bool true) H_4) (
    q (Nz t0) fun t21_5 =>
    q (Fa 0 t21_5) fun t22_6 =>
    q (Ld H_4 t22_6) fun t23_7 =>
    NCalls Tryz.prog 80 #[t23_7, t2, t3] H_4 (fun t26_8 H_8 =>
    q (Ex 0 t26_8) fun t27_9 =>
    q (Ex 1 t26_8) fun t28_10 =>
    New #[Value.int IntKind.i64 0, Value.int IntKind.i64 0, Value.int IntKind.u32 0, Value.int IntKind.u32 0, Value.int IntKind.u32 0, Value.int IntKind.u32 0] 123 H_8 (fun t9_11 H_11 =>
    St 6 H_11 t9_11 t27_9 ((fun u_12 H_12 =>
    q (pv Tryz.prog (Op.unary .not t28_10)) fun t30_13 =>
    condV t30_13 (
      Q (Value.bool false) H_12) (
      q (Nz t0) fun t33_14 =>
      q (Fa 1 t33_14) fun t34_15 =>
      q (Ld H_12 t34_15) fun t35_16 =>
      q (Fa 0 t9_11) fun t36_17 =>
      q (Ld H_12 t36_17) fun t37_18 =>
      q (rd Tryz.prog H_12 (Instr.lookup 103 t35_16 t37_18 false)) fun t38_19 =>
      NCalls Tryz.prog 81 #[t38_19] H_12 (fun t39_20 H_20 =>
      q (Ex 0 t39_20) fun t40_21 =>
      q (Ex 1 t39_20) fun t41_22 =>
      q (Nz t1) fun t43_23 =>
      q (Fa 2 t43_23) fun t44_24 =>
      q (Ld H_20 t44_24) fun t45_25 =>
      NCalls Tryz.prog 53 #[t45_25, t40_21] H_20 (fun t47_26 H_26 =>
      q (Nz t0) fun t49_27 =>
      q (Fa 0 t49_27) fun t50_28 =>
      q (Ld H_26 t50_28) fun t51_29 =>
      q (Fa 0 t9_11) fun t52_30 =>
      q (Ld H_26 t52_30) fun t53_31 =>
      NCalls Tryz.prog 82 #[t51_29, t53_31] H_26 (fun t54_32 H_32 =>
      q (Fa 0 t9_11) fun t56_33 =>
      q (Ld H_32 t56_33) fun t57_34 =>
      NCalls Tryz.prog 83 #[t0, t57_34] H_32 (fun t58_35 H_35 =>
      Q (Value.bool true) H_35)))))) undef)))))
theorem A49_0 {fr : Fr} {H : Hp} {Q : RT1} (h : F49_0 (fr 0) (fr 1) (fr 2) (fr 3) H Q) : xCode Tryz.prog 59 (bodyOf Tryz.f49) (xRet Tryz.prog [.tmp 8] Q) fr H :=
  Eq.mp (by kernel_rfl) h
theorem E49 {t0 t1 t2 t3 : Value} {H : Hp} {Q : RT1} (h : F49_0 t0 t1 t2 t3 H Q) : NCalls Tryz.prog 49 #[t0, t1, t2, t3] H Q :=
  NCalls.ofBody (by kernel_rfl) Tryz.func49 (by kernel_rfl) (by kernel_rfl) (Eq.mp (by kernel_rfl) (A49_0 (fr := fun i => (#[t0, t1, t2, t3] : Array Value).getD i undef) (H := H) (Q := Q) (Eq.mp (by kernel_rfl) h)))
def F50_2 (t0 t1 : Value) (H : Hp) (Q : RT1) : Prop :=
  q (Nz t0) fun t23_1 =>
  q (Fa 1 t23_1) fun t24_2 =>
  q (Ld H t24_2) fun t25_3 =>
  q (rd Tryz.prog H (Instr.lookup 103 t25_3 t1 false)) fun t27_4 =>
  Q t27_4 H
def F50_3 (t0 t1 t2 : Value) (H : Hp) (Q : RT1) : Prop :=
  q (Nz t0) fun t8_5 =>
  q (Fa 1 t8_5) fun t9_6 =>
  q (Ld H t9_6) fun t10_7 =>
  q (rd Tryz.prog H (Instr.lookup 103 t10_7 t1 false)) fun t12_8 =>
  q (Bin Tryz.prog H .eql 111 true t12_8 (Value.pointer none)) fun t13_9 =>
  condV t13_9 (
    q (Nz t0) fun t15_10 =>
    q (Fa 1 t15_10) fun t16_11 =>
    q (Ld H t16_11) fun t17_12 =>
    NCalls Tryz.prog 84 #[t1, t2] H (fun t21_13 H_13 =>
    (Ld H_13 t16_11) = some t17_12 ∧ (
    dm Tryz.prog (Instr.mapUpdate 103 t17_12 t1 t21_13) H_13 fun _ => (fun u_14 H_14 =>
    F50_2 t0 t1 H_14 Q) undef))) (
    F50_2 t0 t1 H Q)
def F50_1 (t0 t1 t2 : Value) (H : Hp) (Q : RT1) : Prop := F50_3 t0 t1 t2 H Q
def F50_4 (t0 t1 t2 : Value) (H : Hp) (Q : RT1) : Prop :=
  F50_1 t0 t1 t2 H Q
def F50_0 (t0 t1 t2 : Value) (H : Hp) (Q : RT1) : Prop := F50_4 t0 t1 t2 H Q
theorem A50_2 {fr : Fr} {H : Hp} {Q : RT1} (h : F50_2 (fr 0) (fr 1) H Q) : xCode Tryz.prog 28 (Code.r (Code.r (bodyOf Tryz.f50))) (xRet Tryz.prog [.tmp 6] Q) fr H :=
  Eq.mp (by kernel_rfl) h
theorem A50_3 {fr : Fr} {H : Hp} {Q : RT1} (h : F50_3 (fr 0) (fr 1) (fr 2) H Q) : xCode Tryz.prog 28 (Code.l (Code.r (bodyOf Tryz.f50))) (thenK (fun fr H => F50_2 (fr 0) (fr 1) H Q) (xRet Tryz.prog [.tmp 6] Q)) fr H :=
  Eq.mp (by kernel_rfl) h
theorem A50_1 {fr : Fr} {H : Hp} {Q : RT1} (h : F50_1 (fr 0) (fr 1) (fr 2) H Q) : xCode Tryz.prog 28 (Code.r (bodyOf Tryz.f50)) (xRet Tryz.prog [.tmp 6] Q) fr H :=
  seq_cut (by kernel_rfl) (fun _ _ h => A50_2 h) (A50_3 h)
theorem A50_4 {fr : Fr} {H : Hp} {Q : RT1} (h : F50_4 (fr 0) (fr 1) (fr 2) H Q) : xCode Tryz.prog 28 (Code.l (bodyOf Tryz.f50)) (thenK (fun fr H => F50_1 (fr 0) (fr 1) (fr 2) H Q) (xRet Tryz.prog [.tmp 6] Q)) fr H :=
  Eq.mp (by kernel_rfl) h
theorem A50_0 {fr : Fr} {H : Hp} {Q : RT1} (h : F50_0 (fr 0) (fr 1) (fr 2) H Q) : xCode Tryz.prog 28 (bodyOf Tryz.f50) (xRet Tryz.prog [.tmp 6] Q) fr H :=
  seq_cut (by kernel_rfl) (fun _ _ h => A50_1 h) (A50_4 h)
theorem E50 {t0 t1 t2 : Value} {H : Hp} {Q : RT1} (h : F50_0 t0 t1 t2 H Q) : NCalls Tryz.prog 50 #[t0, t1, t2] H Q :=
  NCalls.ofBody (by kernel_rfl) Tryz.func50 (by kernel_rfl) (by kernel_rfl) (Eq.mp (by kernel_rfl) (A50_0 (fr := fun i => (#[t0, t1, t2] : Array Value).getD i undef) (H := H) (Q := Q) (Eq.mp (by kernel_rfl) h)))
def F51_4 (t0 : Value) (H : Hp) (Q : RT1) : Prop :=
  q (Nz t0) fun t25_1 =>
  q (Fa 7 t25_1) fun t26_2 =>
  q (Ld H t26_2) fun t27_3 =>
  NCalls Tryz.prog 85 #[t0, t27_3] H (fun t28_4 H_4 =>
  Bsl #[Value.int IntKind.i64 0, Value.int IntKind.i64 0, Value.int IntKind.i64 0, Value.int IntKind.i64 0, Value.int IntKind.u32 0, Value.int IntKind.u32 0, Value.int IntKind.u32 0, Value.int IntKind.u32 0, Value.bool false, Value.bool false, Value.bool false] 11 66 1 [(0, t28_4)] H_4 (fun t29_5 H_5 =>
  Q (Value.tuple #[t29_5, (Value.bool true)]) H_5))
def F51_5 (t0 t1 : Value) (H : Hp) (Q : RT1) : Prop :=
  condV t1 (
    q (Nz t0) fun t21_6 =>
    q (Fa 7 t21_6) fun t22_7 =>
    St 1 H t22_7 (Value.int IntKind.i64 2) ((fun u_8 H_8 =>
    F51_4 t0 H_8 Q) undef)) (
    F51_4 t0 H Q)
def F51_3 (t0 t1 : Value) (H : Hp) (Q : RT1) : Prop := F51_5 t0 t1 H Q
def F51_6 (t0 t1 : Value) (H : Hp) (Q : RT1) : Prop :=
  q (Nz t0) fun t17_9 =>
  q (Fa 7 t17_9) fun t18_10 =>
  St 1 H t18_10 (Value.int IntKind.i64 1) ((fun u_11 H_11 =>
  F51_3 t0 t1 H_11 Q) undef)
def F51_2 (t0 t1 : Value) (H : Hp) (Q : RT1) : Prop := F51_6 t0 t1 H Q
def F51_7 (t0 t1 : Value) (H : Hp) (Q : RT1) : Prop :=
  q (Nz t0) fun t7_12 =>
  q (Fa 7 t7_12) fun t8_13 =>
  q (Ld H t8_13) fun t9_14 =>
  q (Bin Tryz.prog H .neq 3 true t9_14 (Value.int IntKind.i64 0)) fun t10_15 =>
  q (gd t10_15 false (some t0)) fun t12_16 =>
  q (gd t10_15 false (some t1)) fun t13_17 =>
  gl t10_15 false (fun K => NCalls Tryz.prog 46 #[t12_16, t13_17] H K) H fun t14_18 H_18 =>
  q (Pk t10_15 (Value.bool true) t14_18) fun t15_19 =>
  condV t15_19 (
    Q (Value.tuple #[(Value.slice none 0 0), (Value.bool false)]) H_18) (
    F51_2 t0 t1 H_18 Q)
def F51_1 (t0 t1 : Value) (H : Hp) (Q : RT1) : Prop := F51_7 t0 t1 H Q
def F51_8 (t0 t1 : Value) (H : Hp) (Q : RT1) : Prop :=
  F51_1 t0 t1 H Q
def F51_0 (t0 t1 : Value) (H : Hp) (Q : RT1) : Prop := F51_8 t0 t1 H Q
theorem A51_4 {fr : Fr} {H : Hp} {Q : RT1} (h : F51_4 (fr 0) H Q) : xCode Tryz.prog 30 (Code.r (Code.r (Code.r (Code.r (bodyOf Tryz.f51))))) (xRet Tryz.prog [.tmp 4, .tmp 5] Q) fr H :=
  Eq.mp (by kernel_rfl) h
theorem A51_5 {fr : Fr} {H : Hp} {Q : RT1} (h : F51_5 (fr 0) (fr 1) H Q) : xCode Tryz.prog 30 (Code.l (Code.r (Code.r (Code.r (bodyOf Tryz.f51))))) (thenK (fun fr H => F51_4 (fr 0) H Q) (xRet Tryz.prog [.tmp 4, .tmp 5] Q)) fr H :=
  Eq.mp (by kernel_rfl) h
theorem A51_3 {fr : Fr} {H : Hp} {Q : RT1} (h : F51_3 (fr 0) (fr 1) H Q) : xCode Tryz.prog 30 (Code.r (Code.r (Code.r (bodyOf Tryz.f51)))) (xRet Tryz.prog [.tmp 4, .tmp 5] Q) fr H :=
  seq_cut (by kernel_rfl) (fun _ _ h => A51_4 h) (A51_5 h)
theorem A51_6 {fr : Fr} {H : Hp} {Q : RT1} (h : F51_6 (fr 0) (fr 1) H Q) : xCode Tryz.prog 30 (Code.l (Code.r (Code.r (bodyOf Tryz.f51)))) (thenK (fun fr H => F51_3 (fr 0) (fr 1) H Q) (xRet Tryz.prog [.tmp 4, .tmp 5] Q)) fr H :=
  Eq.mp (by kernel_rfl) h
theorem A51_2 {fr : Fr} {H : Hp} {Q : RT1} (h : F51_2 (fr 0) (fr 1) H Q) : xCode Tryz.prog 30 (Code.r (Code.r (bodyOf Tryz.f51))) (xRet Tryz.prog [.tmp 4, .tmp 5] Q) fr H :=
  seq_cut (by kernel_rfl) (fun _ _ h => A51_3 h) (A51_6 h)
theorem A51_7 {fr : Fr} {H : Hp} {Q : RT1} (h : F51_7 (fr 0) (fr 1) H Q) : xCode Tryz.prog 30 (Code.l (Code.r (bodyOf Tryz.f51))) (thenK (fun fr H => F51_2 (fr 0) (fr 1) H Q) (xRet Tryz.prog [.tmp 4, .tmp 5] Q)) fr H :=
  Eq.mp (by kernel_rfl) h
theorem A51_1 {fr : Fr} {H : Hp} {Q : RT1} (h : F51_1 (fr 0) (fr 1) H Q) : xCode Tryz.prog 30 (Code.r (bodyOf Tryz.f51)) (xRet Tryz.prog [.tmp 4, .tmp 5] Q) fr H :=
  seq_cut (by kernel_rfl) (fun _ _ h => A51_2 h) (A51_7 h)
theorem A51_8 {fr : Fr} {H : Hp} {Q : RT1} (h : F51_8 (fr 0) (fr 1) H Q) : xCode Tryz.prog 30 (Code.l (bodyOf Tryz.f51)) (thenK (fun fr H => F51_1 (fr 0) (fr 1) H Q) (xRet Tryz.prog [.tmp 4, .tmp 5] Q)) fr H :=
  Eq.mp (by kernel_rfl) h
theorem A51_0 {fr : Fr} {H : Hp} {Q : RT1} (h : F51_0 (fr 0) (fr 1) H Q) : xCode Tryz.prog 30 (bodyOf Tryz.f51) (xRet Tryz.prog [.tmp 4, .tmp 5] Q) fr H :=
  seq_cut (by kernel_rfl) (fun _ _ h => A51_1 h) (A51_8 h)
theorem E51 {t0 t1 : Value} {H : Hp} {Q : RT1} (h : F51_0 t0 t1 H Q) : NCalls Tryz.prog 51 #[t0, t1] H Q :=
  NCalls.ofBody (by kernel_rfl) Tryz.func51 (by kernel_rfl) (by kernel_rfl) (Eq.mp (by kernel_rfl) (A51_0 (fr := fun i => (#[t0, t1] : Array Value).getD i undef) (H := H) (Q := Q) (Eq.mp (by kernel_rfl) h)))
def F52_0 (t0 t1 : Value) (H : Hp) (Q : RT1) : Prop :=
  New (Value.cells t1) 123 H (fun t3_1 H_1 =>
  q (Fa 0 t3_1) fun t8_2 =>
  q (Ld H_1 t8_2) fun t9_3 =>
  q (Bin Tryz.prog H_1 .lss 3 true t9_3 (Value.int IntKind.i64 0)) fun t10_4 =>
  condV t10_4 (
    q (Ld H_1 (Value.pointer (some ⟨0, 0, none⟩))) fun t11_5 =>
    Q t11_5 H_1) (
    q (Fa 1 t3_1) fun t13_6 =>
    q (Ld H_1 t13_6) fun t14_7 =>
    q (Bin Tryz.prog H_1 .lss 3 true t14_7 (Value.int IntKind.i64 1)) fun t15_8 =>
    q (gd t15_8 false (Fa 1 t3_1)) fun t17_9 =>
    q (gd t15_8 false (Ld H_1 t17_9)) fun t18_10 =>
    q (gd t15_8 false (Bin Tryz.prog H_1 .gtr 3 true t18_10 (Value.int IntKind.i64 4))) fun t19_11 =>
    q (Pk t15_8 (Value.bool true) t19_11) fun t20_12 =>
    condV t20_12 (
      q (Ld H_1 (Value.pointer (some ⟨2, 0, none⟩))) fun t21_13 =>
      Q t21_13 H_1) (
      q (Fa 0 t3_1) fun t24_14 =>
      q (Ld H_1 t24_14) fun t25_15 =>
      NCalls Tryz.prog 86 #[t0, t25_15] H_1 (fun t26_16 H_16 =>
      q (Ex 0 t26_16) fun t27_17 =>
      q (Ex 1 t26_16) fun t28_18 =>
      q (Bin Tryz.prog H_16 .lss 3 true t28_18 (Value.int IntKind.i64 0)) fun t30_19 =>
      q (gd t30_19 true (some t27_17)) fun t32_20 =>
      q (gd t30_19 true (Nz t32_20)) fun t33_21 =>
      q (gd t30_19 true (Ld H_16 t33_21)) fun t34_22 =>
      q (gd t30_19 true (pv Tryz.prog (Builtin.len_ #[153] 0 #[t34_22]))) fun t35_23 =>
      q (gd t30_19 true (some t0)) fun t36_24 =>
      q (gd t30_19 true (Nz t36_24)) fun t37_25 =>
      q (gd t30_19 true (Fa 0 t37_25)) fun t38_26 =>
      q (gd t30_19 true (Ld H_16 t38_26)) fun t39_27 =>
      q (gd t30_19 true (Bin Tryz.prog H_16 .geq 3 false t35_23 t39_27)) fun t40_28 =>
      q (Pk t30_19 t40_28 (Value.bool false)) fun t41_29 =>
      condV t41_29 (
        q (Ld H_16 (Value.pointer (some ⟨3, 0, none⟩))) fun t42_30 =>
        Q t42_30 H_16) (
        q (LdA 6 H_16 t3_1) fun t45_31 =>
        NCalls Tryz.prog 87 #[t27_17, t28_18, t45_31] H_16 (fun t46_32 H_32 =>
        Q Value.nilIface H_32))))))
theorem A52_0 {fr : Fr} {H : Hp} {Q : RT1} (h : F52_0 (fr 0) (fr 1) H Q) : xCode Tryz.prog 47 (bodyOf Tryz.f52) (xRet Tryz.prog [.tmp 4] Q) fr H :=
  Eq.mp (by kernel_rfl) h
theorem E52 {t0 t1 : Value} {H : Hp} {Q : RT1} (h : F52_0 t0 t1 H Q) : NCalls Tryz.prog 52 #[t0, t1] H Q :=
  NCalls.ofBody (by kernel_rfl) Tryz.func52 (by kernel_rfl) (by kernel_rfl) (Eq.mp (by kernel_rfl) (A52_0 (fr := fun i => (#[t0, t1] : Array Value).getD i undef) (H := H) (Q := Q) (Eq.mp (by kernel_rfl) h)))
def F53_3 (t0 t1 t5 : Value) (H : Hp) (Q : RT1) : Prop :=
  q (Nz t0) fun t79_1 =>
  q (Fa 3 t79_1) fun t80_2 =>
  St 1 H t80_2 t5 ((fun u_3 H_3 =>
  q (Nz t0) fun t82_4 =>
  q (Fa 2 t82_4) fun t83_5 =>
  q (Ld H_3 t83_5) fun t84_6 =>
  q (pv Tryz.prog (Builtin.len_ #[117] 0 #[t1])) fun t86_7 =>
  q (Bin Tryz.prog H_3 .add 3 false t84_6 t86_7) fun t87_8 =>
  q (Nz t0) fun t88_9 =>
  q (Fa 2 t88_9) fun t89_10 =>
  St 1 H_3 t89_10 t87_8 ((fun u_11 H_11 =>
  Q Value.nilIface H_11) undef)) undef)
def F53_10 (t0 t1 t5 t15 t16 t17 : Value) (H : Hp) (R6 : RT6) (Q : RT1) : Prop :=
  q (Bin Tryz.prog H .add 3 true t17 (Value.int IntKind.i64 1)) fun t76_12 =>
  R6 t0 t1 t5 t15 t16 t76_12 H
def F53_16 (t0 t1 t5 t6 t7 t9 t15 t16 t17 : Value) (H : Hp) (R6 : RT6) (Q : RT1) : Prop :=
  q (Bin Tryz.prog H .neq 26 true t9 Value.nilIface) fun t59_13 =>
  condV t59_13 (
    q (pv Tryz.prog (Instr.build 170 #[(0, t6), (1, t9)])) fun t62_14 =>
    New (Value.cells t62_14) 170 H (fun t63_15 H_15 =>
    q (pv Tryz.prog (Instr.makeInterface 168 t63_15)) fun t64_16 =>
    Q t64_16 H_15)) (
    q (Nz t0) fun t67_17 =>
    q (Fa 2 t67_17) fun t68_18 =>
    q (Ld H t68_18) fun t69_19 =>
    q (Bin Tryz.prog H .add 3 false t69_19 t6) fun t71_20 =>
    q (LdA 11 H t7) fun t72_21 =>
    q (pv Tryz.prog (Instr.build 68 #[(0, t71_20), (1, t72_21)])) fun t73_22 =>
    Bsl #[Value.int IntKind.i64 0, Value.int IntKind.i64 0, Value.int IntKind.i64 0, Value.int IntKind.i64 0, Value.int IntKind.i64 0, Value.int IntKind.u32 0, Value.int IntKind.u32 0, Value.int IntKind.u32 0, Value.int IntKind.u32 0, Value.bool false, Value.bool false, Value.bool false] 12 68 1 [(0, t73_22)] H (fun t74_23 H_23 =>
    dm Tryz.prog (Builtin.append_ #[38, 38] 0 #[t5, t74_23]) H_23 (fun t75_24 H_24 =>
    F53_10 t0 t1 t75_24 t15 t16 t17 H_24 R6 Q)))
def F53_17 (t0 t1 t5 t6 t7 t8 t9 t15 t16 t17 : Value) (H : Hp) (R6 : RT6) (Q : RT1) : Prop :=
  q (Bin Tryz.prog H .eql 3 true t8 (Value.int IntKind.i64 (-1))) fun t27_25 =>
  condV t27_25 (
    q (Ld H (Value.pointer (some ⟨2, 0, none⟩))) fun t28_26 =>
    F53_16 t0 t1 t5 t6 t7 t28_26 t15 t16 t17 H R6 Q) (
    q (Fa 2 t7) fun t31_27 =>
    q (Ld H t31_27) fun t32_28 =>
    q (Fa 3 t7) fun t33_29 =>
    q (Ld H t33_29) fun t34_30 =>
    NCalls Tryz.prog 90 #[t0, t32_28, t34_30, t8] H (fun t36_31 H_31 =>
    q (pv Tryz.prog (Op.unary .not t36_31)) fun t37_32 =>
    q (gd t37_32 false (Fa 1 t7)) fun t39_33 =>
    q (gd t37_32 false (Ld H_31 t39_33)) fun t40_34 =>
    q (gd t37_32 false (Bin Tryz.prog H_31 .lss 3 true t40_34 (Value.int IntKind.i64 0))) fun t41_35 =>
    q (Pk t37_32 (Value.bool true) t41_35) fun t42_36 =>
    condV t42_36 (
      q (Ld H_31 (Value.pointer (some ⟨4, 0, none⟩))) fun t43_37 =>
      F53_16 t0 t1 t5 t6 t7 t43_37 t15 t16 t17 H_31 R6 Q) (
      q (Fa 2 t7) fun t46_38 =>
      q (Ld H_31 t46_38) fun t47_39 =>
      q (Fa 3 t7) fun t48_40 =>
      q (Ld H_31 t48_40) fun t49_41 =>
      q (Nz t0) fun t53_42 =>
      q (Fa 1 t53_42) fun t54_43 =>
      q (Ld H_31 t54_43) fun t55_44 =>
      NCalls Tryz.prog 91 #[t5, t47_39, t49_41, t8] H_31 (fun t51_45 H_45 =>
      (Ld H_45 t54_43) = some t55_44 ∧ (
      q (Bin Tryz.prog H_45 .geq 3 false t51_45 t55_44) fun t56_46 =>
      condV t56_46 (
        q (Ld H_45 (Value.pointer (some ⟨3, 0, none⟩))) fun t57_47 =>
        F53_16 t0 t1 t5 t6 t7 t57_47 t15 t16 t17 H_45 R6 Q) (
        F53_16 t0 t1 t5 t6 t7 t9 t15 t16 t17 H_45 R6 Q))))))
def F53_15 (t0 t1 t5 t6 t7 t8 t9 t15 t16 t17 : Value) (H : Hp) (R6 : RT6) (Q : RT1) : Prop := F53_17 t0 t1 t5 t6 t7 t8 t9 t15 t16 t17 H R6 Q
def F53_18 (t0 t1 t5 t6 t7 t8 t15 t16 t17 : Value) (H : Hp) (R6 : RT6) (Q : RT1) : Prop :=
  F53_15 t0 t1 t5 t6 t7 t8 Value.nilIface t15 t16 t17 H R6 Q
def F53_14 (t0 t1 t5 t6 t7 t8 t15 t16 t17 : Value) (H : Hp) (R6 : RT6) (Q : RT1) : Prop := F53_18 t0 t1 t5 t6 t7 t8 t15 t16 t17 H R6 Q
def F53_19 (t0 t1 t5 t6 t7 t15 t16 t17 : Value) (H : Hp) (R6 : RT6) (Q : RT1) : Prop :=
  q (Fa 0 t7) fun t22_48 =>
  q (Ld H t22_48) fun t23_49 =>
  NCalls Tryz.prog 89 #[t23_49] H (fun t24_50 H_50 =>
  F53_14 t0 t1 t5 t6 t7 t24_50 t15 t16 t17 H_50 R6 Q)
def F53_13 (t0 t1 t5 t6 t7 t15 t16 t17 : Value) (H : Hp) (R6 : RT6) (Q : RT1) : Prop := F53_19 t0 t1 t5 t6 t7 t15 t16 t17 H R6 Q
def F53_20 (t0 t1 t5 t15 t16 t17 : Value) (H : Hp) (R6 : RT6) (Q : RT1) : Prop :=
  q (Ix 11 t15 t17) fun t20_51 =>
  q (LdA 11 H t20_51) fun t21_52 =>
  New #[Value.int IntKind.i64 0, Value.int IntKind.i64 0, Value.int IntKind.i64 0, Value.int IntKind.i64 0, Value.int IntKind.u32 0, Value.int IntKind.u32 0, Value.int IntKind.u32 0, Value.int IntKind.u32 0, Value.bool false, Value.bool false, Value.bool false] 66 H (fun t7_53 H_53 =>
  St 11 H_53 t7_53 t21_52 ((fun u_54 H_54 =>
  F53_13 t0 t1 t5 t17 t7_53 t15 t16 t17 H_54 R6 Q) undef))
def F53_12 (t0 t1 t5 t15 t16 t17 : Value) (H : Hp) (R6 : RT6) (Q : RT1) : Prop := F53_20 t0 t1 t5 t15 t16 t17 H R6 Q
def F53_11 (t0 t1 t5 t15 t16 t17 : Value) (H : Hp) (R6 : RT6) (Q : RT1) : Prop := F53_12 t0 t1 t5 t15 t16 t17 H R6 Q
def F53_9 (t0 t1 t5 t15 t16 t17 : Value) (H : Hp) (R6 : RT6) (Q : RT1) : Prop := F53_11 t0 t1 t5 t15 t16 t17 H R6 Q
def F53_21 (t0 t1 t5 t15 t16 t17 t18 : Value) (H : Hp) (R6 : RT6) (Q : RT1) : Prop :=
  condV t18 (
    F53_9 t0 t1 t5 t15 t16 t17 H R6 Q) (
    F53_3 t0 t1 t5 H Q)
def F53_8 (t0 t1 t5 t15 t16 t17 t18 : Value) (H : Hp) (R6 : RT6) (Q : RT1) : Prop := F53_21 t0 t1 t5 t15 t16 t17 t18 H R6 Q
def F53_22 (t0 t1 t5 t15 t16 t17 : Value) (H : Hp) (R6 : RT6) (Q : RT1) : Prop :=
  q (Bin Tryz.prog H .lss 3 false t17 t16) fun t18_55 =>
  F53_8 t0 t1 t5 t15 t16 t17 t18_55 H R6 Q
def F53_7 (t0 t1 t5 t15 t16 t17 : Value) (H : Hp) (R6 : RT6) (Q : RT1) : Prop := F53_22 t0 t1 t5 t15 t16 t17 H R6 Q
def F53_6 (t0 t1 t5 t15 t16 t17 : Value) (H : Hp) (Q : RT1) : Prop :=
  ∃ (I : RT2) (μ : Value → Value → Hp → Nat), I t5 t17 H ∧ ∀ n5 n17 H1, I n5 n17 H1 → F53_7 t0 t1 n5 t15 t16 n17 H1 (fun m0 m1 m5 m15 m16 m17 H2 => m0 = t0 ∧ m1 = t1 ∧ m15 = t15 ∧ m16 = t16 ∧ (I m5 m17 H2 ∧ μ m5 m17 H2 < μ n5 n17 H1)) Q
def F53_5 (t0 t1 t5 t15 t16 t17 : Value) (H : Hp) (Q : RT1) : Prop := F53_6 t0 t1 t5 t15 t16 t17 H Q
def F53_23 (t0 t1 t5 : Value) (H : Hp) (Q : RT1) : Prop :=
  q (pv Tryz.prog (Builtin.len_ #[117] 0 #[t1])) fun t16_56 =>
  F53_5 t0 t1 t5 t1 t16_56 (Value.int IntKind.i64 0) H Q
def F53_4 (t0 t1 t5 : Value) (H : Hp) (Q : RT1) : Prop := F53_23 t0 t1 t5 H Q
def F53_2 (t0 t1 t5 : Value) (H : Hp) (Q : RT1) : Prop := F53_4 t0 t1 t5 H Q
def F53_24 (t0 t1 : Value) (H : Hp) (Q : RT1) : Prop :=
  q (Nz t0) fun t11_57 =>
  q (Fa 3 t11_57) fun t12_58 =>
  q (Ld H t12_58) fun t13_59 =>
  NCalls Tryz.prog 88 #[t13_59] H (fun t14_60 H_60 =>
  F53_2 t0 t1 t14_60 H_60 Q)
def F53_1 (t0 t1 : Value) (H : Hp) (Q : RT1) : Prop := F53_24 t0 t1 H Q
def F53_25 (t0 t1 : Value) (H : Hp) (Q : RT1) : Prop :=
  F53_1 t0 t1 H Q
def F53_0 (t0 t1 : Value) (H : Hp) (Q : RT1) : Prop := F53_25 t0 t1 H Q
theorem A53_3 {fr : Fr} {H : Hp} {Q : RT1} (h : F53_3 (fr 0) (fr 1) (fr 5) H Q) : xCode Tryz.prog 90 (Code.r (Code.r (Code.r (bodyOf Tryz.f53)))) (xRet Tryz.prog [.tmp 4] Q) fr H :=
  Eq.mp (by kernel_rfl) h
abbrev K53_24 (Q : RT1) : QT := thenK (fun fr H => F53_3 (fr 0) (fr 1) (fr 5) H Q) (xRet Tryz.prog [.tmp 4] Q)
abbrev K53_25 (R6 : RT6) (Q : RT1) : QT := thenK (fun fr H => R6 (fr 0) (fr 1) (fr 5) (fr 15) (fr 16) (fr 17) H) (blockK 0 (K53_24 Q))
theorem A53_10 {fr : Fr} {H : Hp} {R6 : RT6} {Q : RT1} (h : F53_10 (fr 0) (fr 1) (fr 5) (fr 15) (fr 16) (fr 17) H R6 Q) : xCode Tryz.prog 90 (Code.r (Code.r (Code.r (Code.l (Code.l (Code.r (Code.l (Code.r (Code.r (bodyOf Tryz.f53)))))))))) (K53_25 R6 Q) fr H :=
  Eq.mp (by kernel_rfl) h
abbrev K53_26 (R6 : RT6) (Q : RT1) : QT := thenK (fun fr H => F53_10 (fr 0) (fr 1) (fr 5) (fr 15) (fr 16) (fr 17) H R6 Q) (K53_25 R6 Q)
theorem A53_16 {fr : Fr} {H : Hp} {R6 : RT6} {Q : RT1} (h : F53_16 (fr 0) (fr 1) (fr 5) (fr 6) (fr 7) (fr 9) (fr 15) (fr 16) (fr 17) H R6 Q) : xCode Tryz.prog 90 (Code.r (Code.r (Code.r (Code.r (Code.l (Code.l (Code.r (Code.r (Code.l (Code.l (Code.r (Code.l (Code.r (Code.r (bodyOf Tryz.f53))))))))))))))) (blockK 1 (K53_26 R6 Q)) fr H :=
  Eq.mp (by kernel_rfl) h
theorem A53_17 {fr : Fr} {H : Hp} {R6 : RT6} {Q : RT1} (h : F53_17 (fr 0) (fr 1) (fr 5) (fr 6) (fr 7) (fr 8) (fr 9) (fr 15) (fr 16) (fr 17) H R6 Q) : xCode Tryz.prog 90 (Code.l (Code.r (Code.r (Code.r (Code.l (Code.l (Code.r (Code.r (Code.l (Code.l (Code.r (Code.l (Code.r (Code.r (bodyOf Tryz.f53))))))))))))))) (thenK (fun fr H => F53_16 (fr 0) (fr 1) (fr 5) (fr 6) (fr 7) (fr 9) (fr 15) (fr 16) (fr 17) H R6 Q) (blockK 1 (K53_26 R6 Q))) fr H :=
  Eq.mp (by kernel_rfl) h
theorem A53_15 {fr : Fr} {H : Hp} {R6 : RT6} {Q : RT1} (h : F53_15 (fr 0) (fr 1) (fr 5) (fr 6) (fr 7) (fr 8) (fr 9) (fr 15) (fr 16) (fr 17) H R6 Q) : xCode Tryz.prog 90 (Code.r (Code.r (Code.r (Code.l (Code.l (Code.r (Code.r (Code.l (Code.l (Code.r (Code.l (Code.r (Code.r (bodyOf Tryz.f53)))))))))))))) (blockK 1 (K53_26 R6 Q)) fr H :=
  seq_cut (by kernel_rfl) (fun _ _ h => A53_16 h) (A53_17 h)
theorem A53_18 {fr : Fr} {H : Hp} {R6 : RT6} {Q : RT1} (h : F53_18 (fr 0) (fr 1) (fr 5) (fr 6) (fr 7) (fr 8) (fr 15) (fr 16) (fr 17) H R6 Q) : xCode Tryz.prog 90 (Code.l (Code.r (Code.r (Code.l (Code.l (Code.r (Code.r (Code.l (Code.l (Code.r (Code.l (Code.r (Code.r (bodyOf Tryz.f53)))))))))))))) (thenK (fun fr H => F53_15 (fr 0) (fr 1) (fr 5) (fr 6) (fr 7) (fr 8) (fr 9) (fr 15) (fr 16) (fr 17) H R6 Q) (blockK 1 (K53_26 R6 Q))) fr H :=
  Eq.mp (by kernel_rfl) h
theorem A53_14 {fr : Fr} {H : Hp} {R6 : RT6} {Q : RT1} (h : F53_14 (fr 0) (fr 1) (fr 5) (fr 6) (fr 7) (fr 8) (fr 15) (fr 16) (fr 17) H R6 Q) : xCode Tryz.prog 90 (Code.r (Code.r (Code.l (Code.l (Code.r (Code.r (Code.l (Code.l (Code.r (Code.l (Code.r (Code.r (bodyOf Tryz.f53))))))))))))) (blockK 1 (K53_26 R6 Q)) fr H :=
  seq_cut (by kernel_rfl) (fun _ _ h => A53_15 h) (A53_18 h)
theorem A53_19 {fr : Fr} {H : Hp} {R6 : RT6} {Q : RT1} (h : F53_19 (fr 0) (fr 1) (fr 5) (fr 6) (fr 7) (fr 15) (fr 16) (fr 17) H R6 Q) : xCode Tryz.prog 90 (Code.l (Code.r (Code.l (Code.l (Code.r (Code.r (Code.l (Code.l (Code.r (Code.l (Code.r (Code.r (bodyOf Tryz.f53))))))))))))) (thenK (fun fr H => F53_14 (fr 0) (fr 1) (fr 5) (fr 6) (fr 7) (fr 8) (fr 15) (fr 16) (fr 17) H R6 Q) (blockK 1 (K53_26 R6 Q))) fr H :=
  Eq.mp (by kernel_rfl) h
theorem A53_13 {fr : Fr} {H : Hp} {R6 : RT6} {Q : RT1} (h : F53_13 (fr 0) (fr 1) (fr 5) (fr 6) (fr 7) (fr 15) (fr 16) (fr 17) H R6 Q) : xCode Tryz.prog 90 (Code.r (Code.l (Code.l (Code.r (Code.r (Code.l (Code.l (Code.r (Code.l (Code.r (Code.r (bodyOf Tryz.f53)))))))))))) (blockK 1 (K53_26 R6 Q)) fr H :=
  seq_cut (by kernel_rfl) (fun _ _ h => A53_14 h) (A53_19 h)
theorem A53_20 {fr : Fr} {H : Hp} {R6 : RT6} {Q : RT1} (h : F53_20 (fr 0) (fr 1) (fr 5) (fr 15) (fr 16) (fr 17) H R6 Q) : xCode Tryz.prog 90 (Code.l (Code.l (Code.l (Code.r (Code.r (Code.l (Code.l (Code.r (Code.l (Code.r (Code.r (bodyOf Tryz.f53)))))))))))) (thenK (fun fr H => F53_13 (fr 0) (fr 1) (fr 5) (fr 6) (fr 7) (fr 15) (fr 16) (fr 17) H R6 Q) (blockK 1 (K53_26 R6 Q))) fr H :=
  Eq.mp (by kernel_rfl) h
theorem A53_12 {fr : Fr} {H : Hp} {R6 : RT6} {Q : RT1} (h : F53_12 (fr 0) (fr 1) (fr 5) (fr 15) (fr 16) (fr 17) H R6 Q) : xCode Tryz.prog 90 (Code.l (Code.l (Code.r (Code.r (Code.l (Code.l (Code.r (Code.l (Code.r (Code.r (bodyOf Tryz.f53))))))))))) (blockK 1 (K53_26 R6 Q)) fr H :=
  seq_cut (by kernel_rfl) (fun _ _ h => A53_13 h) (A53_20 h)
theorem A53_11 {fr : Fr} {H : Hp} {R6 : RT6} {Q : RT1} (h : F53_11 (fr 0) (fr 1) (fr 5) (fr 15) (fr 16) (fr 17) H R6 Q) : xCode Tryz.prog 90 (Code.l (Code.r (Code.r (Code.l (Code.l (Code.r (Code.l (Code.r (Code.r (bodyOf Tryz.f53)))))))))) (K53_26 R6 Q) fr H :=
  block_cut (by kernel_rfl) (A53_12 h)
theorem A53_9 {fr : Fr} {H : Hp} {R6 : RT6} {Q : RT1} (h : F53_9 (fr 0) (fr 1) (fr 5) (fr 15) (fr 16) (fr 17) H R6 Q) : xCode Tryz.prog 90 (Code.r (Code.r (Code.l (Code.l (Code.r (Code.l (Code.r (Code.r (bodyOf Tryz.f53))))))))) (K53_25 R6 Q) fr H :=
  seq_cut (by kernel_rfl) (fun _ _ h => A53_10 h) (A53_11 h)
theorem A53_21 {fr : Fr} {H : Hp} {R6 : RT6} {Q : RT1} (h : F53_21 (fr 0) (fr 1) (fr 5) (fr 15) (fr 16) (fr 17) (fr 18) H R6 Q) : xCode Tryz.prog 90 (Code.l (Code.r (Code.l (Code.l (Code.r (Code.l (Code.r (Code.r (bodyOf Tryz.f53))))))))) (thenK (fun fr H => F53_9 (fr 0) (fr 1) (fr 5) (fr 15) (fr 16) (fr 17) H R6 Q) (K53_25 R6 Q)) fr H :=
  Eq.mp (by kernel_rfl) h
theorem A53_8 {fr : Fr} {H : Hp} {R6 : RT6} {Q : RT1} (h : F53_8 (fr 0) (fr 1) (fr 5) (fr 15) (fr 16) (fr 17) (fr 18) H R6 Q) : xCode Tryz.prog 90 (Code.r (Code.l (Code.l (Code.r (Code.l (Code.r (Code.r (bodyOf Tryz.f53)))))))) (K53_25 R6 Q) fr H :=
  seq_cut (by kernel_rfl) (fun _ _ h => A53_9 h) (A53_21 h)
theorem A53_22 {fr : Fr} {H : Hp} {R6 : RT6} {Q : RT1} (h : F53_22 (fr 0) (fr 1) (fr 5) (fr 15) (fr 16) (fr 17) H R6 Q) : xCode Tryz.prog 90 (Code.l (Code.l (Code.l (Code.r (Code.l (Code.r (Code.r (bodyOf Tryz.f53)))))))) (thenK (fun fr H => F53_8 (fr 0) (fr 1) (fr 5) (fr 15) (fr 16) (fr 17) (fr 18) H R6 Q) (K53_25 R6 Q)) fr H :=
  Eq.mp (by kernel_rfl) h
theorem A53_7 {fr : Fr} {H : Hp} {R6 : RT6} {Q : RT1} (h : F53_7 (fr 0) (fr 1) (fr 5) (fr 15) (fr 16) (fr 17) H R6 Q) : xCode Tryz.prog 90 (Code.l (Code.l (Code.r (Code.l (Code.r (Code.r (bodyOf Tryz.f53))))))) (K53_25 R6 Q) fr H :=
  seq_cut (by kernel_rfl) (fun _ _ h => A53_8 h) (A53_22 h)
theorem A53_6 {fr : Fr} {H : Hp} {Q : RT1} (h : F53_6 (fr 0) (fr 1) (fr 5) (fr 15) (fr 16) (fr 17) H Q) : xCode Tryz.prog 90 (Code.l (Code.r (Code.l (Code.r (Code.r (bodyOf Tryz.f53)))))) (blockK 0 (K53_24 Q)) fr H := by
  obtain ⟨I, μ, h0, hr⟩ := h
  refine loop_cut (a := (Code.l (Code.l (Code.r (Code.l (Code.r (Code.r (bodyOf Tryz.f53)))))))) (by kernel_rfl) (fun fr1 H1 => fr1 0 = fr 0 ∧ fr1 1 = fr 1 ∧ fr1 15 = fr 15 ∧ fr1 16 = fr 16 ∧ I (fr1 5) (fr1 17) H1) (fun fr1 H1 => μ (fr1 5) (fr1 17) H1) (by exact ⟨rfl, rfl, rfl, rfl, h0⟩) ?_
  intro fr1 H1 hI
  obtain ⟨hu0, hu1, hu15, hu16, hI⟩ := hI
  have hb := hr (fr1 5) (fr1 17) H1 hI
  rw [← hu0] at hb; rw [← hu1] at hb; rw [← hu15] at hb; rw [← hu16] at hb
  refine ⟨_, ?_, A53_7 hb⟩
  intro fr2 H2 hj
  obtain ⟨ku0, ku1, ku15, ku16, hI2, hlt⟩ := hj
  exact ⟨⟨(ku0.trans hu0), (ku1.trans hu1), (ku15.trans hu15), (ku16.trans hu16), hI2⟩, hlt⟩
theorem A53_5 {fr : Fr} {H : Hp} {Q : RT1} (h : F53_5 (fr 0) (fr 1) (fr 5) (fr 15) (fr 16) (fr 17) H Q) : xCode Tryz.prog 90 (Code.r (Code.l (Code.r (Code.r (bodyOf Tryz.f53))))) (K53_24 Q) fr H :=
  block_cut (by kernel_rfl) (A53_6 h)
theorem A53_23 {fr : Fr} {H : Hp} {Q : RT1} (h : F53_23 (fr 0) (fr 1) (fr 5) H Q) : xCode Tryz.prog 90 (Code.l (Code.l (Code.r (Code.r (bodyOf Tryz.f53))))) (thenK (fun fr H => F53_5 (fr 0) (fr 1) (fr 5) (fr 15) (fr 16) (fr 17) H Q) (K53_24 Q)) fr H :=
  Eq.mp (by kernel_rfl) h
theorem A53_4 {fr : Fr} {H : Hp} {Q : RT1} (h : F53_4 (fr 0) (fr 1) (fr 5) H Q) : xCode Tryz.prog 90 (Code.l (Code.r (Code.r (bodyOf Tryz.f53)))) (K53_24 Q) fr H :=
  seq_cut (by kernel_rfl) (fun _ _ h => A53_5 h) (A53_23 h)
theorem A53_2 {fr : Fr} {H : Hp} {Q : RT1} (h : F53_2 (fr 0) (fr 1) (fr 5) H Q) : xCode Tryz.prog 90 (Code.r (Code.r (bodyOf Tryz.f53))) (xRet Tryz.prog [.tmp 4] Q) fr H :=
  seq_cut (by kernel_rfl) (fun _ _ h => A53_3 h) (A53_4 h)
theorem A53_24 {fr : Fr} {H : Hp} {Q : RT1} (h : F53_24 (fr 0) (fr 1) H Q) : xCode Tryz.prog 90 (Code.l (Code.r (bodyOf Tryz.f53))) (thenK (fun fr H => F53_2 (fr 0) (fr 1) (fr 5) H Q) (xRet Tryz.prog [.tmp 4] Q)) fr H :=
  Eq.mp (by kernel_rfl) h
theorem A53_1 {fr : Fr} {H : Hp} {Q : RT1} (h : F53_1 (fr 0) (fr 1) H Q) : xCode Tryz.prog 90 (Code.r (bodyOf Tryz.f53)) (xRet Tryz.prog [.tmp 4] Q) fr H :=
  seq_cut (by kernel_rfl) (fun _ _ h => A53_2 h) (A53_24 h)
theorem A53_25 {fr : Fr} {H : Hp} {Q : RT1} (h : F53_25 (fr 0) (fr 1) H Q) : xCode Tryz.prog 90 (Code.l (bodyOf Tryz.f53)) (thenK (fun fr H => F53_1 (fr 0) (fr 1) H Q) (xRet Tryz.prog [.tmp 4] Q)) fr H :=
  Eq.mp (by kernel_rfl) h
theorem A53_0 {fr : Fr} {H : Hp} {Q : RT1} (h : F53_0 (fr 0) (fr 1) H Q) : xCode Tryz.prog 90 (bodyOf Tryz.f53) (xRet Tryz.prog [.tmp 4] Q) fr H :=
  seq_cut (by kernel_rfl) (fun _ _ h => A53_1 h) (A53_25 h)
theorem E53 {t0 t1 : Value} {H : Hp} {Q : RT1} (h : F53_0 t0 t1 H Q) : NCalls Tryz.prog 53 #[t0, t1] H Q :=
  NCalls.ofBody (by kernel_rfl) Tryz.func53 (by kernel_rfl) (by kernel_rfl) (Eq.mp (by kernel_rfl) (A53_0 (fr := fun i => (#[t0, t1] : Array Value).getD i undef) (H := H) (Q := Q) (Eq.mp (by kernel_rfl) h)))
def F54_0 (t0 : Value) (H : Hp) (Q : RT1) : Prop :=
  q (Nz t0) fun t4_1 =>
  q (Fa 3 t4_1) fun t5_2 =>
  q (Ld H t5_2) fun t6_3 =>
  NCalls Tryz.prog 88 #[t6_3] H (fun t7_4 H_4 =>
  Q t7_4 H_4)
theorem A54_0 {fr : Fr} {H : Hp} {Q : RT1} (h : F54_0 (fr 0) H Q) : xCode Tryz.prog 8 (bodyOf Tryz.f54) (xRet Tryz.prog [.tmp 2] Q) fr H :=
  Eq.mp (by kernel_rfl) h
theorem E54 {t0 : Value} {H : Hp} {Q : RT1} (h : F54_0 t0 H Q) : NCalls Tryz.prog 54 #[t0] H Q :=
  NCalls.ofBody (by kernel_rfl) Tryz.func54 (by kernel_rfl) (by kernel_rfl) (Eq.mp (by kernel_rfl) (A54_0 (fr := fun i => (#[t0] : Array Value).getD i undef) (H := H) (Q := Q) (Eq.mp (by kernel_rfl) h)))
def F55_0 (t0 t1 t2 t3 t4 : Value) (H : Hp) (Q : RT1) : Prop :=
  q (Nz t0) fun t13_1 =>
  q (Fa 0 t13_1) fun t14_2 =>
  q (Ld H t14_2) fun t15_3 =>
  NCalls Tryz.prog 69 #[t15_3, t2, t3] H (fun t18_4 H_4 =>
  q (pv Tryz.prog (Op.unary .not t18_4)) fun t19_5 =>
  q (gd t19_5 false (some t0)) fun t21_6 =>
  q (gd t19_5 false (some t1)) fun t22_7 =>
  q (gd t19_5 false (some t2)) fun t23_8 =>
  gl t19_5 false (fun K => NCalls Tryz.prog 92 #[t23_8] H_4 K) H_4 fun t24_9 H_9 =>
  gl t19_5 false (fun K => NCalls Tryz.prog 44 #[t21_6, t22_7, t24_9] H_9 K) H_9 fun t25_10 H_10 =>
  q (gd t19_5 false (pv Tryz.prog (Op.unary .not t25_10))) fun t26_11 =>
  q (Pk t19_5 (Value.bool true) t26_11) fun t27_12 =>
  condV t27_12 (
    Q (Value.pointer none) H_10) (
    q (Nz t0) fun t29_13 =>
    q (Fa 1 t29_13) fun t30_14 =>
    q (Ld H_10 t30_14) fun t31_15 =>
    q (Ix 1 t31_15 t1) fun t33_16 =>
    q (Ld H_10 t33_16) fun t34_17 =>
    NCalls Tryz.prog 92 #[t2] H_10 (fun t36_18 H_18 =>
    (Ld H_18 t33_16) = some t34_17 ∧ (
    (Ld H_18 t30_14) = some t31_15 ∧ (
    NCalls Tryz.prog 45 #[t34_17, t36_18] H_18 (fun t37_19 H_19 =>
    q (Bin Tryz.prog H_19 .eql 111 true t37_19 (Value.pointer none)) fun t39_20 =>
    q (gd t39_20 false (some t37_19)) fun t41_21 =>
    q (gd t39_20 false (some t4)) fun t42_22 =>
    gl t39_20 false (fun K => NCalls Tryz.prog 46 #[t41_21, t42_22] H_19 K) H_19 fun t43_23 H_23 =>
    q (gd t39_20 false (pv Tryz.prog (Op.unary .not t43_23))) fun t44_24 =>
    q (Pk t39_20 (Value.bool true) t44_24) fun t45_25 =>
    condV t45_25 (
      Q (Value.pointer none) H_23) (
      q (Nz t0) fun t47_26 =>
      q (Fa 1 t47_26) fun t48_27 =>
      q (Ld H_23 t48_27) fun t49_28 =>
      q (Ix 1 t49_28 t1) fun t51_29 =>
      q (Ld H_23 t51_29) fun t52_30 =>
      q (Nz t52_30) fun t53_31 =>
      q (Fa 0 t53_31) fun t54_32 =>
      q (Ld H_23 t54_32) fun t55_33 =>
      NCalls Tryz.prog 92 #[t2] H_23 (fun t57_34 H_34 =>
      (Ld H_34 t54_32) = some t55_33 ∧ (
      (Ld H_34 t51_29) = some t52_30 ∧ (
      (Ld H_34 t48_27) = some t49_28 ∧ (
      NCalls Tryz.prog 93 #[t55_33, t57_34] H_34 (fun t58_35 H_35 =>
      Q t37_19 H_35))))))))))))
theorem A55_0 {fr : Fr} {H : Hp} {Q : RT1} (h : F55_0 (fr 0) (fr 1) (fr 2) (fr 3) (fr 4) H Q) : xCode Tryz.prog 60 (bodyOf Tryz.f55) (xRet Tryz.prog [.tmp 10] Q) fr H :=
  Eq.mp (by kernel_rfl) h
theorem E55 {t0 t1 t2 t3 t4 : Value} {H : Hp} {Q : RT1} (h : F55_0 t0 t1 t2 t3 t4 H Q) : NCalls Tryz.prog 55 #[t0, t1, t2, t3, t4] H Q :=
  NCalls.ofBody (by kernel_rfl) Tryz.func55 (by kernel_rfl) (by kernel_rfl) (Eq.mp (by kernel_rfl) (A55_0 (fr := fun i => (#[t0, t1, t2, t3, t4] : Array Value).getD i undef) (H := H) (Q := Q) (Eq.mp (by kernel_rfl) h)))
end YtacidjifocfhkaaGreatDoor
end Go.Proofs
