/-
  Part 2 of the proof of: PROVED: for every number of harts and ways and every list of turns, FabricTurns returns true, and all arguments read afterwards as they read before. CONDITIONS: the five errors of package api that the row lists read, when the call begins, as the program's text lays them (the card ties them); nothing else is asked.
-/
import Derived.Test.YtacidjifocfhkaaGreatDoorTurna
import Derived.Test.YtacidjifocfhkaaGreatDoorProg
import Derived.KernelRfl
namespace Go.Proofs
open Go Go.NW
set_option linter.unusedVariables false
set_option maxRecDepth 100000
namespace YtacidjifocfhkaaGreatDoor
def F56_0 (t0 : Value) (H : Hp) (Q : RT1) : Prop :=
  New #[Value.int IntKind.u32 0, Value.int IntKind.u32 0, Value.int IntKind.u32 0, Value.int IntKind.u32 0] 52 H (fun t2_1 H_1 =>
  q (Nz t0) fun t5_2 =>
  q (Fa 2 t5_2) fun t6_3 =>
  q (Ld H_1 t6_3) fun t7_4 =>
  q (Bin Tryz.prog H_1 .eql 3 true t7_4 (Value.int IntKind.i64 0)) fun t8_5 =>
  condV t8_5 (
    q (pv Tryz.prog (Instr.build 52 #[])) fun t9_6 =>
    St 4 H_1 t2_1 t9_6 ((fun u_7 H_7 =>
    q (LdA 4 H_7 t2_1) fun r_8 =>
    Q (Value.tuple #[r_8, (Value.bool false)]) H_7) undef)) (
    q (Nz t0) fun t11_9 =>
    q (Fa 3 t11_9) fun t12_10 =>
    q (LdA 4 H_1 t12_10) fun t13_11 =>
    St 4 H_1 t2_1 t13_11 ((fun u_12 H_12 =>
    q (LdA 4 H_12 t2_1) fun r_13 =>
    Q (Value.tuple #[r_13, (Value.bool true)]) H_12) undef)))
theorem A56_0 {fr : Fr} {H : Hp} {Q : RT1} (h : F56_0 (fr 0) H Q) : xCode Tryz.prog 14 (bodyOf Tryz.f56) (xRet Tryz.prog [.cell 2 52, .tmp 3] Q) fr H :=
  Eq.mp (by kernel_rfl) h
theorem E56 {t0 : Value} {H : Hp} {Q : RT1} (h : F56_0 t0 H Q) : NCalls Tryz.prog 56 #[t0] H Q :=
  NCalls.ofBody (by kernel_rfl) Tryz.func56 (by kernel_rfl) (by kernel_rfl) (Eq.mp (by kernel_rfl) (A56_0 (fr := fun i => (#[t0] : Array Value).getD i undef) (H := H) (Q := Q) (Eq.mp (by kernel_rfl) h)))
def F57_5 (t8 : Value) (H : Hp) (Q : RT1) : Prop :=
  Q t8 H
def F57_6 (t2 t8 : Value) (H : Hp) (Q : RT1) : Prop :=
  q (Bin Tryz.prog H .lss 3 true t2 (Value.int IntKind.i64 4)) fun t24_1 =>
  condV t24_1 (
    q (Bin Tryz.prog H .mul 3 true (Value.int IntKind.i64 8) t2) fun t27_2 =>
    q (Bin Tryz.prog H .shl 40 true (Value.int IntKind.u32 1) t27_2) fun t28_3 =>
    q (Bin Tryz.prog H .sub 40 true t28_3 (Value.int IntKind.u32 1)) fun t29_4 =>
    q (Bin Tryz.prog H .and 40 false t8 t29_4) fun t30_5 =>
    F57_5 t30_5 H Q) (
    F57_5 t8 H Q)
def F57_4 (t2 t8 : Value) (H : Hp) (Q : RT1) : Prop := F57_6 t2 t8 H Q
def F57_7 (t2 t3 t7 : Value) (H : Hp) (Q : RT1) : Prop :=
  q (Bin Tryz.prog H .quo 40 true t7 (Value.int IntKind.u32 4)) fun t16_6 =>
  q (IxA 4 1 t3 t16_6) fun t17_7 =>
  q (Ld H t17_7) fun t18_8 =>
  q (Bin Tryz.prog H .rem 40 true t7 (Value.int IntKind.u32 4)) fun t20_9 =>
  q (Bin Tryz.prog H .mul 40 true (Value.int IntKind.u32 8) t20_9) fun t21_10 =>
  q (Bin Tryz.prog H .shr 40 false t18_8 t21_10) fun t22_11 =>
  F57_4 t2 t22_11 H Q
def F57_3 (t2 t3 t7 : Value) (H : Hp) (Q : RT1) : Prop := F57_7 t2 t3 t7 H Q
def F57_8 (t1 t2 t3 : Value) (H : Hp) (Q : RT1) : Prop :=
  q (Bin Tryz.prog H .rem 40 true t1 (Value.int IntKind.u32 16)) fun t14_12 =>
  F57_3 t2 t3 t14_12 H Q
def F57_2 (t1 t2 t3 : Value) (H : Hp) (Q : RT1) : Prop := F57_8 t1 t2 t3 H Q
def F57_9 (t1 t2 t3 : Value) (H : Hp) (Q : RT1) : Prop :=
  NCalls Tryz.prog 94 #[t1, t2] H (fun t11_13 H_13 =>
  q (pv Tryz.prog (Op.unary .not t11_13)) fun t12_14 =>
  condV t12_14 (
    Q (Value.int IntKind.u32 0) H_13) (
    F57_2 t1 t2 t3 H_13 Q))
def F57_1 (t1 t2 t3 : Value) (H : Hp) (Q : RT1) : Prop := F57_9 t1 t2 t3 H Q
def F57_10 (t0 t1 t2 : Value) (H : Hp) (Q : RT1) : Prop :=
  New (Value.cells t0) 52 H (fun t3_15 H_15 =>
  F57_1 t1 t2 t3_15 H_15 Q)
def F57_0 (t0 t1 t2 : Value) (H : Hp) (Q : RT1) : Prop := F57_10 t0 t1 t2 H Q
theorem A57_5 {fr : Fr} {H : Hp} {Q : RT1} (h : F57_5 (fr 8) H Q) : xCode Tryz.prog 32 (Code.r (Code.r (Code.r (Code.r (Code.r (bodyOf Tryz.f57)))))) (xRet Tryz.prog [.tmp 6] Q) fr H :=
  Eq.mp (by kernel_rfl) h
theorem A57_6 {fr : Fr} {H : Hp} {Q : RT1} (h : F57_6 (fr 2) (fr 8) H Q) : xCode Tryz.prog 32 (Code.l (Code.r (Code.r (Code.r (Code.r (bodyOf Tryz.f57)))))) (thenK (fun fr H => F57_5 (fr 8) H Q) (xRet Tryz.prog [.tmp 6] Q)) fr H :=
  Eq.mp (by kernel_rfl) h
theorem A57_4 {fr : Fr} {H : Hp} {Q : RT1} (h : F57_4 (fr 2) (fr 8) H Q) : xCode Tryz.prog 32 (Code.r (Code.r (Code.r (Code.r (bodyOf Tryz.f57))))) (xRet Tryz.prog [.tmp 6] Q) fr H :=
  seq_cut (by kernel_rfl) (fun _ _ h => A57_5 h) (A57_6 h)
theorem A57_7 {fr : Fr} {H : Hp} {Q : RT1} (h : F57_7 (fr 2) (fr 3) (fr 7) H Q) : xCode Tryz.prog 32 (Code.l (Code.r (Code.r (Code.r (bodyOf Tryz.f57))))) (thenK (fun fr H => F57_4 (fr 2) (fr 8) H Q) (xRet Tryz.prog [.tmp 6] Q)) fr H :=
  Eq.mp (by kernel_rfl) h
theorem A57_3 {fr : Fr} {H : Hp} {Q : RT1} (h : F57_3 (fr 2) (fr 3) (fr 7) H Q) : xCode Tryz.prog 32 (Code.r (Code.r (Code.r (bodyOf Tryz.f57)))) (xRet Tryz.prog [.tmp 6] Q) fr H :=
  seq_cut (by kernel_rfl) (fun _ _ h => A57_4 h) (A57_7 h)
theorem A57_8 {fr : Fr} {H : Hp} {Q : RT1} (h : F57_8 (fr 1) (fr 2) (fr 3) H Q) : xCode Tryz.prog 32 (Code.l (Code.r (Code.r (bodyOf Tryz.f57)))) (thenK (fun fr H => F57_3 (fr 2) (fr 3) (fr 7) H Q) (xRet Tryz.prog [.tmp 6] Q)) fr H :=
  Eq.mp (by kernel_rfl) h
theorem A57_2 {fr : Fr} {H : Hp} {Q : RT1} (h : F57_2 (fr 1) (fr 2) (fr 3) H Q) : xCode Tryz.prog 32 (Code.r (Code.r (bodyOf Tryz.f57))) (xRet Tryz.prog [.tmp 6] Q) fr H :=
  seq_cut (by kernel_rfl) (fun _ _ h => A57_3 h) (A57_8 h)
theorem A57_9 {fr : Fr} {H : Hp} {Q : RT1} (h : F57_9 (fr 1) (fr 2) (fr 3) H Q) : xCode Tryz.prog 32 (Code.l (Code.r (bodyOf Tryz.f57))) (thenK (fun fr H => F57_2 (fr 1) (fr 2) (fr 3) H Q) (xRet Tryz.prog [.tmp 6] Q)) fr H :=
  Eq.mp (by kernel_rfl) h
theorem A57_1 {fr : Fr} {H : Hp} {Q : RT1} (h : F57_1 (fr 1) (fr 2) (fr 3) H Q) : xCode Tryz.prog 32 (Code.r (bodyOf Tryz.f57)) (xRet Tryz.prog [.tmp 6] Q) fr H :=
  seq_cut (by kernel_rfl) (fun _ _ h => A57_2 h) (A57_9 h)
theorem A57_10 {fr : Fr} {H : Hp} {Q : RT1} (h : F57_10 (fr 0) (fr 1) (fr 2) H Q) : xCode Tryz.prog 32 (Code.l (bodyOf Tryz.f57)) (thenK (fun fr H => F57_1 (fr 1) (fr 2) (fr 3) H Q) (xRet Tryz.prog [.tmp 6] Q)) fr H :=
  Eq.mp (by kernel_rfl) h
theorem A57_0 {fr : Fr} {H : Hp} {Q : RT1} (h : F57_0 (fr 0) (fr 1) (fr 2) H Q) : xCode Tryz.prog 32 (bodyOf Tryz.f57) (xRet Tryz.prog [.tmp 6] Q) fr H :=
  seq_cut (by kernel_rfl) (fun _ _ h => A57_1 h) (A57_10 h)
theorem E57 {t0 t1 t2 : Value} {H : Hp} {Q : RT1} (h : F57_0 t0 t1 t2 H Q) : NCalls Tryz.prog 57 #[t0, t1, t2] H Q :=
  NCalls.ofBody (by kernel_rfl) Tryz.func57 (by kernel_rfl) (by kernel_rfl) (Eq.mp (by kernel_rfl) (A57_0 (fr := fun i => (#[t0, t1, t2] : Array Value).getD i undef) (H := H) (Q := Q) (Eq.mp (by kernel_rfl) h)))
def F58_0 (t0 : Value) (H : Hp) (Q : RT1) : Prop :=
  q (Nz t0) fun t4_1 =>
  q (Fa 3 t4_1) fun t5_2 =>
  q (Ld H t5_2) fun t6_3 =>
  q (pv Tryz.prog (Builtin.len_ #[38] 0 #[t6_3])) fun t7_4 =>
  Q t7_4 H
theorem A58_0 {fr : Fr} {H : Hp} {Q : RT1} (h : F58_0 (fr 0) H Q) : xCode Tryz.prog 8 (bodyOf Tryz.f58) (xRet Tryz.prog [.tmp 2] Q) fr H :=
  Eq.mp (by kernel_rfl) h
theorem E58 {t0 : Value} {H : Hp} {Q : RT1} (h : F58_0 t0 H Q) : NCalls Tryz.prog 58 #[t0] H Q :=
  NCalls.ofBody (by kernel_rfl) Tryz.func58 (by kernel_rfl) (by kernel_rfl) (Eq.mp (by kernel_rfl) (A58_0 (fr := fun i => (#[t0] : Array Value).getD i undef) (H := H) (Q := Q) (Eq.mp (by kernel_rfl) h)))
def F59_0 (t0 t1 : Value) (H : Hp) (Q : RT1) : Prop :=
  New (Value.cells t1) 52 H (fun t3_1 H_1 =>
  NCalls Tryz.prog 46 #[t0, (Value.bool true)] H_1 (fun t6_2 H_2 =>
  q (pv Tryz.prog (Op.unary .not t6_2)) fun t7_3 =>
  condV t7_3 (
    Q (Value.bool false) H_2) (
    q (LdA 4 H_2 t3_1) fun t10_4 =>
    q (Nz t0) fun t11_5 =>
    q (Fa 3 t11_5) fun t12_6 =>
    St 4 H_2 t12_6 t10_4 ((fun u_7 H_7 =>
    q (Nz t0) fun t13_8 =>
    q (Fa 2 t13_8) fun t14_9 =>
    St 1 H_7 t14_9 (Value.int IntKind.i64 4) ((fun u_10 H_10 =>
    Q (Value.bool true) H_10) undef)) undef))))
theorem A59_0 {fr : Fr} {H : Hp} {Q : RT1} (h : F59_0 (fr 0) (fr 1) H Q) : xCode Tryz.prog 15 (bodyOf Tryz.f59) (xRet Tryz.prog [.tmp 4] Q) fr H :=
  Eq.mp (by kernel_rfl) h
theorem E59 {t0 t1 : Value} {H : Hp} {Q : RT1} (h : F59_0 t0 t1 H Q) : NCalls Tryz.prog 59 #[t0, t1] H Q :=
  NCalls.ofBody (by kernel_rfl) Tryz.func59 (by kernel_rfl) (by kernel_rfl) (Eq.mp (by kernel_rfl) (A59_0 (fr := fun i => (#[t0, t1] : Array Value).getD i undef) (H := H) (Q := Q) (Eq.mp (by kernel_rfl) h)))
def F60_6 (t3 t4 t8 t9 t10 t11 : Value) (H : Hp) (Q : RT1) : Prop :=
  q (Bin Tryz.prog H .quo 40 true t9 (Value.int IntKind.u32 4)) fun t31_1 =>
  q (Bin Tryz.prog H .quo 40 true t9 (Value.int IntKind.u32 4)) fun t33_2 =>
  q (IxA 4 1 t4 t33_2) fun t34_3 =>
  q (Ld H t34_3) fun t35_4 =>
  q (Bin Tryz.prog H .andNot 40 false t35_4 t11) fun t37_5 =>
  q (Bin Tryz.prog H .shl 40 false t3 t10) fun t40_6 =>
  q (Bin Tryz.prog H .and 40 false t40_6 t11) fun t42_7 =>
  q (Bin Tryz.prog H .or 40 false t37_5 t42_7) fun t43_8 =>
  q (IxA 4 1 t4 t31_1) fun t44_9 =>
  St 1 H t44_9 t43_8 ((fun u_10 H_10 =>
  q (LdA 4 H_10 t4) fun t45_11 =>
  St 4 H_10 t8 t45_11 ((fun u_12 H_12 =>
  q (LdA 4 H_12 t8) fun r_13 =>
  Q r_13 H_12) undef)) undef)
def F60_7 (t2 t3 t4 t8 t9 t10 t11 : Value) (H : Hp) (Q : RT1) : Prop :=
  q (Bin Tryz.prog H .lss 3 true t2 (Value.int IntKind.i64 4)) fun t23_14 =>
  condV t23_14 (
    q (Bin Tryz.prog H .mul 3 true (Value.int IntKind.i64 8) t2) fun t25_15 =>
    q (Bin Tryz.prog H .shl 40 true (Value.int IntKind.u32 1) t25_15) fun t26_16 =>
    q (Bin Tryz.prog H .sub 40 true t26_16 (Value.int IntKind.u32 1)) fun t27_17 =>
    q (Bin Tryz.prog H .shl 40 false t27_17 t10) fun t29_18 =>
    F60_6 t3 t4 t8 t9 t10 t29_18 H Q) (
    F60_6 t3 t4 t8 t9 t10 t11 H Q)
def F60_5 (t2 t3 t4 t8 t9 t10 t11 : Value) (H : Hp) (Q : RT1) : Prop := F60_7 t2 t3 t4 t8 t9 t10 t11 H Q
def F60_8 (t2 t3 t4 t8 t9 t10 : Value) (H : Hp) (Q : RT1) : Prop :=
  F60_5 t2 t3 t4 t8 t9 t10 (Value.int IntKind.u32 4294967295) H Q
def F60_4 (t2 t3 t4 t8 t9 t10 : Value) (H : Hp) (Q : RT1) : Prop := F60_8 t2 t3 t4 t8 t9 t10 H Q
def F60_9 (t2 t3 t4 t8 t9 : Value) (H : Hp) (Q : RT1) : Prop :=
  q (Bin Tryz.prog H .rem 40 true t9 (Value.int IntKind.u32 4)) fun t20_19 =>
  q (Bin Tryz.prog H .mul 40 true (Value.int IntKind.u32 8) t20_19) fun t21_20 =>
  F60_4 t2 t3 t4 t8 t9 t21_20 H Q
def F60_3 (t2 t3 t4 t8 t9 : Value) (H : Hp) (Q : RT1) : Prop := F60_9 t2 t3 t4 t8 t9 H Q
def F60_10 (t1 t2 t3 t4 t8 : Value) (H : Hp) (Q : RT1) : Prop :=
  q (Bin Tryz.prog H .rem 40 true t1 (Value.int IntKind.u32 16)) fun t18_21 =>
  F60_3 t2 t3 t4 t8 t18_21 H Q
def F60_2 (t1 t2 t3 t4 t8 : Value) (H : Hp) (Q : RT1) : Prop := F60_10 t1 t2 t3 t4 t8 H Q
def F60_11 (t1 t2 t3 t4 t8 : Value) (H : Hp) (Q : RT1) : Prop :=
  NCalls Tryz.prog 94 #[t1, t2] H (fun t14_22 H_22 =>
  q (pv Tryz.prog (Op.unary .not t14_22)) fun t15_23 =>
  condV t15_23 (
    q (LdA 4 H_22 t4) fun t16_24 =>
    St 4 H_22 t8 t16_24 ((fun u_25 H_25 =>
    q (LdA 4 H_25 t8) fun r_26 =>
    Q r_26 H_25) undef)) (
    F60_2 t1 t2 t3 t4 t8 H_22 Q))
def F60_1 (t1 t2 t3 t4 t8 : Value) (H : Hp) (Q : RT1) : Prop := F60_11 t1 t2 t3 t4 t8 H Q
def F60_12 (t0 t1 t2 t3 : Value) (H : Hp) (Q : RT1) : Prop :=
  New (Value.cells t0) 52 H (fun t4_27 H_27 =>
  New #[Value.int IntKind.u32 0, Value.int IntKind.u32 0, Value.int IntKind.u32 0, Value.int IntKind.u32 0] 52 H_27 (fun t8_28 H_28 =>
  F60_1 t1 t2 t3 t4_27 t8_28 H_28 Q))
def F60_0 (t0 t1 t2 t3 : Value) (H : Hp) (Q : RT1) : Prop := F60_12 t0 t1 t2 t3 H Q
theorem A60_6 {fr : Fr} {H : Hp} {Q : RT1} (h : F60_6 (fr 3) (fr 4) (fr 8) (fr 9) (fr 10) (fr 11) H Q) : xCode Tryz.prog 46 (Code.r (Code.r (Code.r (Code.r (Code.r (Code.r (bodyOf Tryz.f60))))))) (xRet Tryz.prog [.cell 8 52] Q) fr H :=
  Eq.mp (by kernel_rfl) h
theorem A60_7 {fr : Fr} {H : Hp} {Q : RT1} (h : F60_7 (fr 2) (fr 3) (fr 4) (fr 8) (fr 9) (fr 10) (fr 11) H Q) : xCode Tryz.prog 46 (Code.l (Code.r (Code.r (Code.r (Code.r (Code.r (bodyOf Tryz.f60))))))) (thenK (fun fr H => F60_6 (fr 3) (fr 4) (fr 8) (fr 9) (fr 10) (fr 11) H Q) (xRet Tryz.prog [.cell 8 52] Q)) fr H :=
  Eq.mp (by kernel_rfl) h
theorem A60_5 {fr : Fr} {H : Hp} {Q : RT1} (h : F60_5 (fr 2) (fr 3) (fr 4) (fr 8) (fr 9) (fr 10) (fr 11) H Q) : xCode Tryz.prog 46 (Code.r (Code.r (Code.r (Code.r (Code.r (bodyOf Tryz.f60)))))) (xRet Tryz.prog [.cell 8 52] Q) fr H :=
  seq_cut (by kernel_rfl) (fun _ _ h => A60_6 h) (A60_7 h)
theorem A60_8 {fr : Fr} {H : Hp} {Q : RT1} (h : F60_8 (fr 2) (fr 3) (fr 4) (fr 8) (fr 9) (fr 10) H Q) : xCode Tryz.prog 46 (Code.l (Code.r (Code.r (Code.r (Code.r (bodyOf Tryz.f60)))))) (thenK (fun fr H => F60_5 (fr 2) (fr 3) (fr 4) (fr 8) (fr 9) (fr 10) (fr 11) H Q) (xRet Tryz.prog [.cell 8 52] Q)) fr H :=
  Eq.mp (by kernel_rfl) h
theorem A60_4 {fr : Fr} {H : Hp} {Q : RT1} (h : F60_4 (fr 2) (fr 3) (fr 4) (fr 8) (fr 9) (fr 10) H Q) : xCode Tryz.prog 46 (Code.r (Code.r (Code.r (Code.r (bodyOf Tryz.f60))))) (xRet Tryz.prog [.cell 8 52] Q) fr H :=
  seq_cut (by kernel_rfl) (fun _ _ h => A60_5 h) (A60_8 h)
theorem A60_9 {fr : Fr} {H : Hp} {Q : RT1} (h : F60_9 (fr 2) (fr 3) (fr 4) (fr 8) (fr 9) H Q) : xCode Tryz.prog 46 (Code.l (Code.r (Code.r (Code.r (bodyOf Tryz.f60))))) (thenK (fun fr H => F60_4 (fr 2) (fr 3) (fr 4) (fr 8) (fr 9) (fr 10) H Q) (xRet Tryz.prog [.cell 8 52] Q)) fr H :=
  Eq.mp (by kernel_rfl) h
theorem A60_3 {fr : Fr} {H : Hp} {Q : RT1} (h : F60_3 (fr 2) (fr 3) (fr 4) (fr 8) (fr 9) H Q) : xCode Tryz.prog 46 (Code.r (Code.r (Code.r (bodyOf Tryz.f60)))) (xRet Tryz.prog [.cell 8 52] Q) fr H :=
  seq_cut (by kernel_rfl) (fun _ _ h => A60_4 h) (A60_9 h)
theorem A60_10 {fr : Fr} {H : Hp} {Q : RT1} (h : F60_10 (fr 1) (fr 2) (fr 3) (fr 4) (fr 8) H Q) : xCode Tryz.prog 46 (Code.l (Code.r (Code.r (bodyOf Tryz.f60)))) (thenK (fun fr H => F60_3 (fr 2) (fr 3) (fr 4) (fr 8) (fr 9) H Q) (xRet Tryz.prog [.cell 8 52] Q)) fr H :=
  Eq.mp (by kernel_rfl) h
theorem A60_2 {fr : Fr} {H : Hp} {Q : RT1} (h : F60_2 (fr 1) (fr 2) (fr 3) (fr 4) (fr 8) H Q) : xCode Tryz.prog 46 (Code.r (Code.r (bodyOf Tryz.f60))) (xRet Tryz.prog [.cell 8 52] Q) fr H :=
  seq_cut (by kernel_rfl) (fun _ _ h => A60_3 h) (A60_10 h)
theorem A60_11 {fr : Fr} {H : Hp} {Q : RT1} (h : F60_11 (fr 1) (fr 2) (fr 3) (fr 4) (fr 8) H Q) : xCode Tryz.prog 46 (Code.l (Code.r (bodyOf Tryz.f60))) (thenK (fun fr H => F60_2 (fr 1) (fr 2) (fr 3) (fr 4) (fr 8) H Q) (xRet Tryz.prog [.cell 8 52] Q)) fr H :=
  Eq.mp (by kernel_rfl) h
theorem A60_1 {fr : Fr} {H : Hp} {Q : RT1} (h : F60_1 (fr 1) (fr 2) (fr 3) (fr 4) (fr 8) H Q) : xCode Tryz.prog 46 (Code.r (bodyOf Tryz.f60)) (xRet Tryz.prog [.cell 8 52] Q) fr H :=
  seq_cut (by kernel_rfl) (fun _ _ h => A60_2 h) (A60_11 h)
theorem A60_12 {fr : Fr} {H : Hp} {Q : RT1} (h : F60_12 (fr 0) (fr 1) (fr 2) (fr 3) H Q) : xCode Tryz.prog 46 (Code.l (bodyOf Tryz.f60)) (thenK (fun fr H => F60_1 (fr 1) (fr 2) (fr 3) (fr 4) (fr 8) H Q) (xRet Tryz.prog [.cell 8 52] Q)) fr H :=
  Eq.mp (by kernel_rfl) h
theorem A60_0 {fr : Fr} {H : Hp} {Q : RT1} (h : F60_0 (fr 0) (fr 1) (fr 2) (fr 3) H Q) : xCode Tryz.prog 46 (bodyOf Tryz.f60) (xRet Tryz.prog [.cell 8 52] Q) fr H :=
  seq_cut (by kernel_rfl) (fun _ _ h => A60_1 h) (A60_12 h)
theorem E60 {t0 t1 t2 t3 : Value} {H : Hp} {Q : RT1} (h : F60_0 t0 t1 t2 t3 H Q) : NCalls Tryz.prog 60 #[t0, t1, t2, t3] H Q :=
  NCalls.ofBody (by kernel_rfl) Tryz.func60 (by kernel_rfl) (by kernel_rfl) (Eq.mp (by kernel_rfl) (A60_0 (fr := fun i => (#[t0, t1, t2, t3] : Array Value).getD i undef) (H := H) (Q := Q) (Eq.mp (by kernel_rfl) h)))
def F61_0 (t0 : Value) (H : Hp) (Q : RT1) : Prop :=
  New #[Value.int IntKind.u32 0, Value.int IntKind.u32 0, Value.int IntKind.u32 0, Value.int IntKind.u32 0] 52 H (fun t2_1 H_1 =>
  q (Nz t0) fun t4_2 =>
  q (Fa 2 t4_2) fun t5_3 =>
  q (LdA 4 H_1 t5_3) fun t6_4 =>
  St 4 H_1 t2_1 t6_4 ((fun u_5 H_5 =>
  q (LdA 4 H_5 t2_1) fun r_6 =>
  Q r_6 H_5) undef))
theorem A61_0 {fr : Fr} {H : Hp} {Q : RT1} (h : F61_0 (fr 0) H Q) : xCode Tryz.prog 7 (bodyOf Tryz.f61) (xRet Tryz.prog [.cell 2 52] Q) fr H :=
  Eq.mp (by kernel_rfl) h
theorem E61 {t0 : Value} {H : Hp} {Q : RT1} (h : F61_0 t0 H Q) : NCalls Tryz.prog 61 #[t0] H Q :=
  NCalls.ofBody (by kernel_rfl) Tryz.func61 (by kernel_rfl) (by kernel_rfl) (Eq.mp (by kernel_rfl) (A61_0 (fr := fun i => (#[t0] : Array Value).getD i undef) (H := H) (Q := Q) (Eq.mp (by kernel_rfl) h)))
def F63_0 (t0 : Value) (H : Hp) (Q : RT1) : Prop :=
  q (Nz t0) fun t4_1 =>
  q (Fa 2 t4_1) fun t5_2 =>
  q (Ld H t5_2) fun t6_3 =>
  Q t6_3 H
theorem A63_0 {fr : Fr} {H : Hp} {Q : RT1} (h : F63_0 (fr 0) H Q) : xCode Tryz.prog 7 (bodyOf Tryz.f63) (xRet Tryz.prog [.tmp 2] Q) fr H :=
  Eq.mp (by kernel_rfl) h
theorem E63 {t0 : Value} {H : Hp} {Q : RT1} (h : F63_0 t0 H Q) : NCalls Tryz.prog 63 #[t0] H Q :=
  NCalls.ofBody (by kernel_rfl) Tryz.func63 (by kernel_rfl) (by kernel_rfl) (Eq.mp (by kernel_rfl) (A63_0 (fr := fun i => (#[t0] : Array Value).getD i undef) (H := H) (Q := Q) (Eq.mp (by kernel_rfl) h)))
def F64_0 (t0 t1 : Value) (H : Hp) (Q : RT1) : Prop :=
  New #[Value.int IntKind.i64 0, Value.int IntKind.i64 0, Value.int IntKind.i64 0, Value.int IntKind.i64 0, Value.int IntKind.u32 0, Value.int IntKind.u32 0, Value.int IntKind.u32 0, Value.int IntKind.u32 0, Value.bool false, Value.bool false, Value.bool false] 66 H (fun t4_1 H_1 =>
  NCalls Tryz.prog 95 #[t0, t1] H_1 (fun t9_2 H_2 =>
  q (Bin Tryz.prog H_2 .lss 3 true t9_2 (Value.int IntKind.i64 0)) fun t11_3 =>
  condV t11_3 (
    q (pv Tryz.prog (Instr.build 66 #[])) fun t12_4 =>
    St 11 H_2 t4_1 t12_4 ((fun u_5 H_5 =>
    q (LdA 11 H_5 t4_1) fun r_6 =>
    Q (Value.tuple #[r_6, (Value.bool false)]) H_5) undef)) (
    q (Nz t0) fun t14_7 =>
    q (Fa 3 t14_7) fun t15_8 =>
    q (Ld H_2 t15_8) fun t16_9 =>
    q (Ix 12 t16_9 t9_2) fun t18_10 =>
    q (Fa 1 t18_10) fun t19_11 =>
    q (LdA 11 H_2 t19_11) fun t20_12 =>
    St 11 H_2 t4_1 t20_12 ((fun u_13 H_13 =>
    q (LdA 11 H_13 t4_1) fun r_14 =>
    Q (Value.tuple #[r_14, (Value.bool true)]) H_13) undef))))
theorem A64_0 {fr : Fr} {H : Hp} {Q : RT1} (h : F64_0 (fr 0) (fr 1) H Q) : xCode Tryz.prog 21 (bodyOf Tryz.f64) (xRet Tryz.prog [.cell 4 66, .tmp 5] Q) fr H :=
  Eq.mp (by kernel_rfl) h
theorem E64 {t0 t1 : Value} {H : Hp} {Q : RT1} (h : F64_0 t0 t1 H Q) : NCalls Tryz.prog 64 #[t0, t1] H Q :=
  NCalls.ofBody (by kernel_rfl) Tryz.func64 (by kernel_rfl) (by kernel_rfl) (Eq.mp (by kernel_rfl) (A64_0 (fr := fun i => (#[t0, t1] : Array Value).getD i undef) (H := H) (Q := Q) (Eq.mp (by kernel_rfl) h)))
def F65_0 (t0 t1 t2 : Value) (H : Hp) (Q : RT1) : Prop :=
  New (Value.cells t2) 66 H (fun t5_1 H_1 =>
  q (Nz t0) fun t10_2 =>
  q (Fa 3 t10_2) fun t11_3 =>
  q (Ld H_1 t11_3) fun t12_4 =>
  q (Fa 1 t5_1) fun t13_5 =>
  q (Ld H_1 t13_5) fun t14_6 =>
  q (Ix 1 t12_4 t14_6) fun t15_7 =>
  q (Ld H_1 t15_7) fun t16_8 =>
  NCalls Tryz.prog 96 #[t16_8] H_1 (fun t17_9 H_9 =>
  q (LdA 11 H_9 t5_1) fun t19_10 =>
  NCalls Tryz.prog 97 #[t17_9, t19_10] H_9 (fun t20_11 H_11 =>
  q (pv Tryz.prog (Op.unary .not t20_11)) fun t21_12 =>
  condV t21_12 (
    Q (Value.bool false) H_11) (
    q (LdA 11 H_11 t5_1) fun t23_13 =>
    NCalls Tryz.prog 98 #[t17_9, t23_13] H_11 (fun t24_14 H_14 =>
    NCalls Tryz.prog 99 #[t0, t24_14] H_14 (fun t27_15 H_15 =>
    q (pv Tryz.prog (Op.unary .not t27_15)) fun t28_16 =>
    condV t28_16 (
      Q (Value.bool false) H_15) (
      q (Nz t0) fun t30_17 =>
      q (Fa 3 t30_17) fun t31_18 =>
      q (Ld H_15 t31_18) fun t32_19 =>
      q (Fa 1 t5_1) fun t33_20 =>
      q (Ld H_15 t33_20) fun t34_21 =>
      q (Ix 1 t32_19 t34_21) fun t36_22 =>
      St 1 H_15 t36_22 t17_9 ((fun u_23 H_23 =>
      q (Nz t0) fun t38_24 =>
      q (Fa 0 t38_24) fun t39_25 =>
      q (Ld H_23 t39_25) fun t40_26 =>
      q (Fa 1 t5_1) fun t41_27 =>
      q (Ld H_23 t41_27) fun t42_28 =>
      NCalls Tryz.prog 61 #[t17_9] H_23 (fun t44_29 H_29 =>
      (Ld H_29 t41_27) = some t42_28 ∧ (
      (Ld H_29 t39_25) = some t40_26 ∧ (
      NCalls Tryz.prog 67 #[t40_26, t42_28, t44_29] H_29 (fun t45_30 H_30 =>
      q (Nz t0) fun t47_31 =>
      q (Fa 2 t47_31) fun t48_32 =>
      q (Ld H_30 t48_32) fun t49_33 =>
      NCalls Tryz.prog 100 #[t49_33, t1] H_30 (fun t51_34 H_34 =>
      q (Nz t0) fun t53_35 =>
      q (Fa 2 t53_35) fun t54_36 =>
      q (Ld H_34 t54_36) fun t55_37 =>
      NCalls Tryz.prog 53 #[t55_37, t24_14] H_34 (fun t57_38 H_38 =>
      Q (Value.bool true) H_38))))))) undef))))))))
theorem A65_0 {fr : Fr} {H : Hp} {Q : RT1} (h : F65_0 (fr 0) (fr 1) (fr 2) H Q) : xCode Tryz.prog 58 (bodyOf Tryz.f65) (xRet Tryz.prog [.tmp 6] Q) fr H :=
  Eq.mp (by kernel_rfl) h
theorem E65 {t0 t1 t2 : Value} {H : Hp} {Q : RT1} (h : F65_0 t0 t1 t2 H Q) : NCalls Tryz.prog 65 #[t0, t1, t2] H Q :=
  NCalls.ofBody (by kernel_rfl) Tryz.func65 (by kernel_rfl) (by kernel_rfl) (Eq.mp (by kernel_rfl) (A65_0 (fr := fun i => (#[t0, t1, t2] : Array Value).getD i undef) (H := H) (Q := Q) (Eq.mp (by kernel_rfl) h)))
def F66_10 (t0 t1 t10 : Value) (H : Hp) (Q : RT1) : Prop :=
  q (Nz t0) fun t75_1 =>
  q (Fa 2 t75_1) fun t76_2 =>
  q (Ld H t76_2) fun t77_3 =>
  NCalls Tryz.prog 100 #[t77_3, t1] H (fun t79_4 H_4 =>
  q (Nz t0) fun t81_5 =>
  q (Fa 2 t81_5) fun t82_6 =>
  q (Ld H_4 t82_6) fun t83_7 =>
  NCalls Tryz.prog 53 #[t83_7, t10] H_4 (fun t85_8 H_8 =>
  Q (Value.bool true) H_8))
def F66_11 (t0 t1 t5 t7 t8 t10 : Value) (H : Hp) (Q : RT1) : Prop :=
  NCalls Tryz.prog 63 #[t8] H (fun t60_9 H_9 =>
  q (Bin Tryz.prog H_9 .eql 3 true t60_9 (Value.int IntKind.i64 0)) fun t61_10 =>
  q (gd t61_10 true (some t8)) fun t63_11 =>
  gl t61_10 true (fun K => NCalls Tryz.prog 47 #[t63_11] H_9 K) H_9 fun t64_12 H_12 =>
  q (gd t61_10 true (Bin Tryz.prog H_12 .eql 3 true t64_12 (Value.int IntKind.i64 0))) fun t65_13 =>
  q (Pk t61_10 t65_13 (Value.bool false)) fun t66_14 =>
  condV t66_14 (
    q (Nz t7) fun t68_15 =>
    q (Fa 0 t68_15) fun t69_16 =>
    q (Ld H_12 t69_16) fun t70_17 =>
    q (Fa 1 t5) fun t71_18 =>
    q (Ld H_12 t71_18) fun t72_19 =>
    NCalls Tryz.prog 82 #[t70_17, t72_19] H_12 (fun t73_20 H_20 =>
    F66_10 t0 t1 t10 H_20 Q)) (
    F66_10 t0 t1 t10 H_12 Q))
def F66_9 (t0 t1 t5 t7 t8 t10 : Value) (H : Hp) (Q : RT1) : Prop := F66_11 t0 t1 t5 t7 t8 t10 H Q
def F66_12 (t0 t1 t5 t7 t8 t10 t11 : Value) (H : Hp) (Q : RT1) : Prop :=
  condV t11 (
    q (Fa 1 t5) fun t56_21 =>
    q (Ld H t56_21) fun t57_22 =>
    NCalls Tryz.prog 83 #[t7, t57_22] H (fun t58_23 H_23 =>
    F66_9 t0 t1 t5 t7 t8 t10 H_23 Q)) (
    F66_9 t0 t1 t5 t7 t8 t10 H Q)
def F66_8 (t0 t1 t5 t7 t8 t10 t11 : Value) (H : Hp) (Q : RT1) : Prop := F66_12 t0 t1 t5 t7 t8 t10 t11 H Q
def F66_13 (t0 t1 t5 t7 t8 t10 t11 : Value) (H : Hp) (Q : RT1) : Prop :=
  q (Nz t7) fun t48_24 =>
  q (Fa 1 t48_24) fun t49_25 =>
  q (Ld H t49_25) fun t50_26 =>
  q (Fa 1 t5) fun t51_27 =>
  q (Ld H t51_27) fun t52_28 =>
  dm Tryz.prog (Instr.mapUpdate 103 t50_26 t52_28 t8) H fun _ => (fun u_29 H_29 =>
  F66_8 t0 t1 t5 t7 t8 t10 t11 H_29 Q) undef
def F66_7 (t0 t1 t5 t7 t8 t10 t11 : Value) (H : Hp) (Q : RT1) : Prop := F66_13 t0 t1 t5 t7 t8 t10 t11 H Q
def F66_14 (t0 t1 t5 t7 t8 t10 t11 : Value) (H : Hp) (Q : RT1) : Prop :=
  NCalls Tryz.prog 99 #[t0, t10] H (fun t45_30 H_30 =>
  q (pv Tryz.prog (Op.unary .not t45_30)) fun t46_31 =>
  condV t46_31 (
    Q (Value.bool false) H_30) (
    F66_7 t0 t1 t5 t7 t8 t10 t11 H_30 Q))
def F66_6 (t0 t1 t5 t7 t8 t10 t11 : Value) (H : Hp) (Q : RT1) : Prop := F66_14 t0 t1 t5 t7 t8 t10 t11 H Q
def F66_15 (t0 t1 t5 t7 t8 : Value) (H : Hp) (Q : RT1) : Prop :=
  q (LdA 11 H t5) fun t39_32 =>
  NCalls Tryz.prog 103 #[t8, t39_32] H (fun t40_33 H_33 =>
  q (Ex 0 t40_33) fun t41_34 =>
  q (Ex 1 t40_33) fun t42_35 =>
  F66_6 t0 t1 t5 t7 t8 t41_34 t42_35 H_33 Q)
def F66_5 (t0 t1 t5 t7 t8 : Value) (H : Hp) (Q : RT1) : Prop := F66_15 t0 t1 t5 t7 t8 H Q
def F66_16 (t0 t1 t5 t7 t8 : Value) (H : Hp) (Q : RT1) : Prop :=
  q (LdA 11 H t5) fun t34_36 =>
  NCalls Tryz.prog 102 #[t8, t34_36] H (fun t35_37 H_37 =>
  q (pv Tryz.prog (Op.unary .not t35_37)) fun t36_38 =>
  condV t36_38 (
    Q (Value.bool false) H_37) (
    F66_5 t0 t1 t5 t7 t8 H_37 Q))
def F66_4 (t0 t1 t5 t7 t8 : Value) (H : Hp) (Q : RT1) : Prop := F66_16 t0 t1 t5 t7 t8 H Q
def F66_17 (t0 t1 t5 t7 t8 : Value) (H : Hp) (Q : RT1) : Prop :=
  q (Fa 1 t5) fun t26_39 =>
  q (Ld H t26_39) fun t27_40 =>
  NCalls Tryz.prog 45 #[t7, t27_40] H (fun t28_41 H_41 =>
  q (Bin Tryz.prog H_41 .neq 111 true t28_41 (Value.pointer none)) fun t30_42 =>
  condV t30_42 (
    NCalls Tryz.prog 101 #[t28_41] H_41 (fun t32_43 H_43 =>
    F66_4 t0 t1 t5 t7 t32_43 H_43 Q)) (
    F66_4 t0 t1 t5 t7 t8 H_41 Q))
def F66_3 (t0 t1 t5 t7 t8 : Value) (H : Hp) (Q : RT1) : Prop := F66_17 t0 t1 t5 t7 t8 H Q
def F66_18 (t0 t1 t5 t7 : Value) (H : Hp) (Q : RT1) : Prop :=
  q (Fa 1 t5) fun t20_44 =>
  q (Ld H t20_44) fun t21_45 =>
  q (Fa 3 t5) fun t22_46 =>
  q (Ld H t22_46) fun t23_47 =>
  NCalls Tryz.prog 84 #[t21_45, t23_47] H (fun t24_48 H_48 =>
  F66_3 t0 t1 t5 t7 t24_48 H_48 Q)
def F66_2 (t0 t1 t5 t7 : Value) (H : Hp) (Q : RT1) : Prop := F66_18 t0 t1 t5 t7 H Q
def F66_19 (t0 t1 t5 : Value) (H : Hp) (Q : RT1) : Prop :=
  q (Nz t0) fun t13_49 =>
  q (Fa 1 t13_49) fun t14_50 =>
  q (Ld H t14_50) fun t15_51 =>
  q (Fa 3 t5) fun t16_52 =>
  q (Ld H t16_52) fun t17_53 =>
  q (Ix 1 t15_51 t17_53) fun t18_54 =>
  q (Ld H t18_54) fun t19_55 =>
  F66_2 t0 t1 t5 t19_55 H Q
def F66_1 (t0 t1 t5 : Value) (H : Hp) (Q : RT1) : Prop := F66_19 t0 t1 t5 H Q
def F66_20 (t0 t1 t2 : Value) (H : Hp) (Q : RT1) : Prop :=
  New (Value.cells t2) 66 H (fun t5_56 H_56 =>
  F66_1 t0 t1 t5_56 H_56 Q)
def F66_0 (t0 t1 t2 : Value) (H : Hp) (Q : RT1) : Prop := F66_20 t0 t1 t2 H Q
theorem A66_10 {fr : Fr} {H : Hp} {Q : RT1} (h : F66_10 (fr 0) (fr 1) (fr 10) H Q) : xCode Tryz.prog 86 (Code.r (Code.r (Code.r (Code.r (Code.r (Code.r (Code.r (Code.r (Code.r (Code.r (bodyOf Tryz.f66))))))))))) (xRet Tryz.prog [.tmp 6] Q) fr H :=
  Eq.mp (by kernel_rfl) h
theorem A66_11 {fr : Fr} {H : Hp} {Q : RT1} (h : F66_11 (fr 0) (fr 1) (fr 5) (fr 7) (fr 8) (fr 10) H Q) : xCode Tryz.prog 86 (Code.l (Code.r (Code.r (Code.r (Code.r (Code.r (Code.r (Code.r (Code.r (Code.r (bodyOf Tryz.f66))))))))))) (thenK (fun fr H => F66_10 (fr 0) (fr 1) (fr 10) H Q) (xRet Tryz.prog [.tmp 6] Q)) fr H :=
  Eq.mp (by kernel_rfl) h
theorem A66_9 {fr : Fr} {H : Hp} {Q : RT1} (h : F66_9 (fr 0) (fr 1) (fr 5) (fr 7) (fr 8) (fr 10) H Q) : xCode Tryz.prog 86 (Code.r (Code.r (Code.r (Code.r (Code.r (Code.r (Code.r (Code.r (Code.r (bodyOf Tryz.f66)))))))))) (xRet Tryz.prog [.tmp 6] Q) fr H :=
  seq_cut (by kernel_rfl) (fun _ _ h => A66_10 h) (A66_11 h)
theorem A66_12 {fr : Fr} {H : Hp} {Q : RT1} (h : F66_12 (fr 0) (fr 1) (fr 5) (fr 7) (fr 8) (fr 10) (fr 11) H Q) : xCode Tryz.prog 86 (Code.l (Code.r (Code.r (Code.r (Code.r (Code.r (Code.r (Code.r (Code.r (bodyOf Tryz.f66)))))))))) (thenK (fun fr H => F66_9 (fr 0) (fr 1) (fr 5) (fr 7) (fr 8) (fr 10) H Q) (xRet Tryz.prog [.tmp 6] Q)) fr H :=
  Eq.mp (by kernel_rfl) h
theorem A66_8 {fr : Fr} {H : Hp} {Q : RT1} (h : F66_8 (fr 0) (fr 1) (fr 5) (fr 7) (fr 8) (fr 10) (fr 11) H Q) : xCode Tryz.prog 86 (Code.r (Code.r (Code.r (Code.r (Code.r (Code.r (Code.r (Code.r (bodyOf Tryz.f66))))))))) (xRet Tryz.prog [.tmp 6] Q) fr H :=
  seq_cut (by kernel_rfl) (fun _ _ h => A66_9 h) (A66_12 h)
theorem A66_13 {fr : Fr} {H : Hp} {Q : RT1} (h : F66_13 (fr 0) (fr 1) (fr 5) (fr 7) (fr 8) (fr 10) (fr 11) H Q) : xCode Tryz.prog 86 (Code.l (Code.r (Code.r (Code.r (Code.r (Code.r (Code.r (Code.r (bodyOf Tryz.f66))))))))) (thenK (fun fr H => F66_8 (fr 0) (fr 1) (fr 5) (fr 7) (fr 8) (fr 10) (fr 11) H Q) (xRet Tryz.prog [.tmp 6] Q)) fr H :=
  Eq.mp (by kernel_rfl) h
theorem A66_7 {fr : Fr} {H : Hp} {Q : RT1} (h : F66_7 (fr 0) (fr 1) (fr 5) (fr 7) (fr 8) (fr 10) (fr 11) H Q) : xCode Tryz.prog 86 (Code.r (Code.r (Code.r (Code.r (Code.r (Code.r (Code.r (bodyOf Tryz.f66)))))))) (xRet Tryz.prog [.tmp 6] Q) fr H :=
  seq_cut (by kernel_rfl) (fun _ _ h => A66_8 h) (A66_13 h)
theorem A66_14 {fr : Fr} {H : Hp} {Q : RT1} (h : F66_14 (fr 0) (fr 1) (fr 5) (fr 7) (fr 8) (fr 10) (fr 11) H Q) : xCode Tryz.prog 86 (Code.l (Code.r (Code.r (Code.r (Code.r (Code.r (Code.r (bodyOf Tryz.f66)))))))) (thenK (fun fr H => F66_7 (fr 0) (fr 1) (fr 5) (fr 7) (fr 8) (fr 10) (fr 11) H Q) (xRet Tryz.prog [.tmp 6] Q)) fr H :=
  Eq.mp (by kernel_rfl) h
theorem A66_6 {fr : Fr} {H : Hp} {Q : RT1} (h : F66_6 (fr 0) (fr 1) (fr 5) (fr 7) (fr 8) (fr 10) (fr 11) H Q) : xCode Tryz.prog 86 (Code.r (Code.r (Code.r (Code.r (Code.r (Code.r (bodyOf Tryz.f66))))))) (xRet Tryz.prog [.tmp 6] Q) fr H :=
  seq_cut (by kernel_rfl) (fun _ _ h => A66_7 h) (A66_14 h)
theorem A66_15 {fr : Fr} {H : Hp} {Q : RT1} (h : F66_15 (fr 0) (fr 1) (fr 5) (fr 7) (fr 8) H Q) : xCode Tryz.prog 86 (Code.l (Code.r (Code.r (Code.r (Code.r (Code.r (bodyOf Tryz.f66))))))) (thenK (fun fr H => F66_6 (fr 0) (fr 1) (fr 5) (fr 7) (fr 8) (fr 10) (fr 11) H Q) (xRet Tryz.prog [.tmp 6] Q)) fr H :=
  Eq.mp (by kernel_rfl) h
theorem A66_5 {fr : Fr} {H : Hp} {Q : RT1} (h : F66_5 (fr 0) (fr 1) (fr 5) (fr 7) (fr 8) H Q) : xCode Tryz.prog 86 (Code.r (Code.r (Code.r (Code.r (Code.r (bodyOf Tryz.f66)))))) (xRet Tryz.prog [.tmp 6] Q) fr H :=
  seq_cut (by kernel_rfl) (fun _ _ h => A66_6 h) (A66_15 h)
theorem A66_16 {fr : Fr} {H : Hp} {Q : RT1} (h : F66_16 (fr 0) (fr 1) (fr 5) (fr 7) (fr 8) H Q) : xCode Tryz.prog 86 (Code.l (Code.r (Code.r (Code.r (Code.r (bodyOf Tryz.f66)))))) (thenK (fun fr H => F66_5 (fr 0) (fr 1) (fr 5) (fr 7) (fr 8) H Q) (xRet Tryz.prog [.tmp 6] Q)) fr H :=
  Eq.mp (by kernel_rfl) h
theorem A66_4 {fr : Fr} {H : Hp} {Q : RT1} (h : F66_4 (fr 0) (fr 1) (fr 5) (fr 7) (fr 8) H Q) : xCode Tryz.prog 86 (Code.r (Code.r (Code.r (Code.r (bodyOf Tryz.f66))))) (xRet Tryz.prog [.tmp 6] Q) fr H :=
  seq_cut (by kernel_rfl) (fun _ _ h => A66_5 h) (A66_16 h)
theorem A66_17 {fr : Fr} {H : Hp} {Q : RT1} (h : F66_17 (fr 0) (fr 1) (fr 5) (fr 7) (fr 8) H Q) : xCode Tryz.prog 86 (Code.l (Code.r (Code.r (Code.r (bodyOf Tryz.f66))))) (thenK (fun fr H => F66_4 (fr 0) (fr 1) (fr 5) (fr 7) (fr 8) H Q) (xRet Tryz.prog [.tmp 6] Q)) fr H :=
  Eq.mp (by kernel_rfl) h
theorem A66_3 {fr : Fr} {H : Hp} {Q : RT1} (h : F66_3 (fr 0) (fr 1) (fr 5) (fr 7) (fr 8) H Q) : xCode Tryz.prog 86 (Code.r (Code.r (Code.r (bodyOf Tryz.f66)))) (xRet Tryz.prog [.tmp 6] Q) fr H :=
  seq_cut (by kernel_rfl) (fun _ _ h => A66_4 h) (A66_17 h)
theorem A66_18 {fr : Fr} {H : Hp} {Q : RT1} (h : F66_18 (fr 0) (fr 1) (fr 5) (fr 7) H Q) : xCode Tryz.prog 86 (Code.l (Code.r (Code.r (bodyOf Tryz.f66)))) (thenK (fun fr H => F66_3 (fr 0) (fr 1) (fr 5) (fr 7) (fr 8) H Q) (xRet Tryz.prog [.tmp 6] Q)) fr H :=
  Eq.mp (by kernel_rfl) h
theorem A66_2 {fr : Fr} {H : Hp} {Q : RT1} (h : F66_2 (fr 0) (fr 1) (fr 5) (fr 7) H Q) : xCode Tryz.prog 86 (Code.r (Code.r (bodyOf Tryz.f66))) (xRet Tryz.prog [.tmp 6] Q) fr H :=
  seq_cut (by kernel_rfl) (fun _ _ h => A66_3 h) (A66_18 h)
theorem A66_19 {fr : Fr} {H : Hp} {Q : RT1} (h : F66_19 (fr 0) (fr 1) (fr 5) H Q) : xCode Tryz.prog 86 (Code.l (Code.r (bodyOf Tryz.f66))) (thenK (fun fr H => F66_2 (fr 0) (fr 1) (fr 5) (fr 7) H Q) (xRet Tryz.prog [.tmp 6] Q)) fr H :=
  Eq.mp (by kernel_rfl) h
theorem A66_1 {fr : Fr} {H : Hp} {Q : RT1} (h : F66_1 (fr 0) (fr 1) (fr 5) H Q) : xCode Tryz.prog 86 (Code.r (bodyOf Tryz.f66)) (xRet Tryz.prog [.tmp 6] Q) fr H :=
  seq_cut (by kernel_rfl) (fun _ _ h => A66_2 h) (A66_19 h)
theorem A66_20 {fr : Fr} {H : Hp} {Q : RT1} (h : F66_20 (fr 0) (fr 1) (fr 2) H Q) : xCode Tryz.prog 86 (Code.l (bodyOf Tryz.f66)) (thenK (fun fr H => F66_1 (fr 0) (fr 1) (fr 5) H Q) (xRet Tryz.prog [.tmp 6] Q)) fr H :=
  Eq.mp (by kernel_rfl) h
theorem A66_0 {fr : Fr} {H : Hp} {Q : RT1} (h : F66_0 (fr 0) (fr 1) (fr 2) H Q) : xCode Tryz.prog 86 (bodyOf Tryz.f66) (xRet Tryz.prog [.tmp 6] Q) fr H :=
  seq_cut (by kernel_rfl) (fun _ _ h => A66_1 h) (A66_20 h)
theorem E66 {t0 t1 t2 : Value} {H : Hp} {Q : RT1} (h : F66_0 t0 t1 t2 H Q) : NCalls Tryz.prog 66 #[t0, t1, t2] H Q :=
  NCalls.ofBody (by kernel_rfl) Tryz.func66 (by kernel_rfl) (by kernel_rfl) (Eq.mp (by kernel_rfl) (A66_0 (fr := fun i => (#[t0, t1, t2] : Array Value).getD i undef) (H := H) (Q := Q) (Eq.mp (by kernel_rfl) h)))
def F67_3 (H : Hp) (Q : RT1) : Prop :=
  Q (Value.bool true) H
def F67_7 (t0 t1 t17 t18 : Value) (H : Hp) (R6 : RT4) (Q : RT1) : Prop :=
  q (Bin Tryz.prog H .lss 3 true t18 (Value.int IntKind.i64 4)) fun t19_1 =>
  condV t19_1 (
    q (pv Tryz.prog (Instr.index 52 t17 t18)) fun t21_2 =>
    q (Nz t0) fun t23_3 =>
    q (Fa 0 t23_3) fun t24_4 =>
    q (Ld H t24_4) fun t25_5 =>
    q (Bin Tryz.prog H .mul 3 true t1 (Value.int IntKind.i64 16)) fun t27_6 =>
    q (Bin Tryz.prog H .mul 3 true t18 (Value.int IntKind.i64 4)) fun t29_7 =>
    q (Bin Tryz.prog H .add 3 false t27_6 t29_7) fun t30_8 =>
    q (Sl 1 t25_5 (some t30_8) none none) fun t31_9 =>
    NCalls Tryz.prog 38 #[t31_9, (Value.int IntKind.i64 4), t21_2] H (fun t33_10 H_10 =>
    q (Bin Tryz.prog H_10 .add 3 true t18 (Value.int IntKind.i64 1)) fun t34_11 =>
    R6 t0 t1 t17 t34_11 H_10)) (
    F67_3 H Q)
def F67_6 (t0 t1 t17 t18 : Value) (H : Hp) (Q : RT1) : Prop :=
  ∃ (I : RT1) (μ : Value → Hp → Nat), I t18 H ∧ ∀ n18 H1, I n18 H1 → F67_7 t0 t1 t17 n18 H1 (fun m0 m1 m17 m18 H2 => m0 = t0 ∧ m1 = t1 ∧ m17 = t17 ∧ (I m18 H2 ∧ μ m18 H2 < μ n18 H1)) Q
def F67_5 (t0 t1 t17 t18 : Value) (H : Hp) (Q : RT1) : Prop := F67_6 t0 t1 t17 t18 H Q
def F67_8 (t0 t1 t5 : Value) (H : Hp) (Q : RT1) : Prop :=
  q (LdA 4 H t5) fun t17_12 =>
  F67_5 t0 t1 t17_12 (Value.int IntKind.i64 0) H Q
def F67_4 (t0 t1 t5 : Value) (H : Hp) (Q : RT1) : Prop := F67_8 t0 t1 t5 H Q
def F67_2 (t0 t1 t5 : Value) (H : Hp) (Q : RT1) : Prop := F67_4 t0 t1 t5 H Q
def F67_9 (t0 t1 t5 : Value) (H : Hp) (Q : RT1) : Prop :=
  q (Bin Tryz.prog H .lss 3 true t1 (Value.int IntKind.i64 0)) fun t10_13 =>
  q (gd t10_13 false (some t1)) fun t12_14 =>
  q (gd t10_13 false (some t0)) fun t13_15 =>
  gl t10_13 false (fun K => NCalls Tryz.prog 77 #[t13_15] H K) H fun t14_16 H_16 =>
  q (gd t10_13 false (Bin Tryz.prog H_16 .geq 3 false t12_14 t14_16)) fun t15_17 =>
  q (Pk t10_13 (Value.bool true) t15_17) fun t16_18 =>
  condV t16_18 (
    Q (Value.bool false) H_16) (
    F67_2 t0 t1 t5 H_16 Q)
def F67_1 (t0 t1 t5 : Value) (H : Hp) (Q : RT1) : Prop := F67_9 t0 t1 t5 H Q
def F67_10 (t0 t1 t2 : Value) (H : Hp) (Q : RT1) : Prop :=
  New (Value.cells t2) 52 H (fun t5_19 H_19 =>
  F67_1 t0 t1 t5_19 H_19 Q)
def F67_0 (t0 t1 t2 : Value) (H : Hp) (Q : RT1) : Prop := F67_10 t0 t1 t2 H Q
theorem A67_3 {fr : Fr} {H : Hp} {Q : RT1} (h : F67_3 H Q) : xCode Tryz.prog 35 (Code.r (Code.r (Code.r (bodyOf Tryz.f67)))) (xRet Tryz.prog [.tmp 6] Q) fr H :=
  Eq.mp (by kernel_rfl) h
abbrev K67_0 (Q : RT1) : QT := thenK (fun fr H => F67_3 H Q) (xRet Tryz.prog [.tmp 6] Q)
theorem A67_7 {fr : Fr} {H : Hp} {R6 : RT4} {Q : RT1} (h : F67_7 (fr 0) (fr 1) (fr 17) (fr 18) H R6 Q) : xCode Tryz.prog 35 (Code.l (Code.l (Code.r (Code.l (Code.r (Code.r (bodyOf Tryz.f67))))))) (thenK (fun fr H => R6 (fr 0) (fr 1) (fr 17) (fr 18) H) (blockK 0 (K67_0 Q))) fr H :=
  Eq.mp (by kernel_rfl) h
theorem A67_6 {fr : Fr} {H : Hp} {Q : RT1} (h : F67_6 (fr 0) (fr 1) (fr 17) (fr 18) H Q) : xCode Tryz.prog 35 (Code.l (Code.r (Code.l (Code.r (Code.r (bodyOf Tryz.f67)))))) (blockK 0 (K67_0 Q)) fr H := by
  obtain ⟨I, μ, h0, hr⟩ := h
  refine loop_cut (a := (Code.l (Code.l (Code.r (Code.l (Code.r (Code.r (bodyOf Tryz.f67)))))))) (by kernel_rfl) (fun fr1 H1 => fr1 0 = fr 0 ∧ fr1 1 = fr 1 ∧ fr1 17 = fr 17 ∧ I (fr1 18) H1) (fun fr1 H1 => μ (fr1 18) H1) (by exact ⟨rfl, rfl, rfl, h0⟩) ?_
  intro fr1 H1 hI
  obtain ⟨hu0, hu1, hu17, hI⟩ := hI
  have hb := hr (fr1 18) H1 hI
  rw [← hu0] at hb; rw [← hu1] at hb; rw [← hu17] at hb
  refine ⟨_, ?_, A67_7 hb⟩
  intro fr2 H2 hj
  obtain ⟨ku0, ku1, ku17, hI2, hlt⟩ := hj
  exact ⟨⟨(ku0.trans hu0), (ku1.trans hu1), (ku17.trans hu17), hI2⟩, hlt⟩
theorem A67_5 {fr : Fr} {H : Hp} {Q : RT1} (h : F67_5 (fr 0) (fr 1) (fr 17) (fr 18) H Q) : xCode Tryz.prog 35 (Code.r (Code.l (Code.r (Code.r (bodyOf Tryz.f67))))) (K67_0 Q) fr H :=
  block_cut (by kernel_rfl) (A67_6 h)
theorem A67_8 {fr : Fr} {H : Hp} {Q : RT1} (h : F67_8 (fr 0) (fr 1) (fr 5) H Q) : xCode Tryz.prog 35 (Code.l (Code.l (Code.r (Code.r (bodyOf Tryz.f67))))) (thenK (fun fr H => F67_5 (fr 0) (fr 1) (fr 17) (fr 18) H Q) (K67_0 Q)) fr H :=
  Eq.mp (by kernel_rfl) h
theorem A67_4 {fr : Fr} {H : Hp} {Q : RT1} (h : F67_4 (fr 0) (fr 1) (fr 5) H Q) : xCode Tryz.prog 35 (Code.l (Code.r (Code.r (bodyOf Tryz.f67)))) (K67_0 Q) fr H :=
  seq_cut (by kernel_rfl) (fun _ _ h => A67_5 h) (A67_8 h)
theorem A67_2 {fr : Fr} {H : Hp} {Q : RT1} (h : F67_2 (fr 0) (fr 1) (fr 5) H Q) : xCode Tryz.prog 35 (Code.r (Code.r (bodyOf Tryz.f67))) (xRet Tryz.prog [.tmp 6] Q) fr H :=
  seq_cut (by kernel_rfl) (fun _ _ h => A67_3 h) (A67_4 h)
theorem A67_9 {fr : Fr} {H : Hp} {Q : RT1} (h : F67_9 (fr 0) (fr 1) (fr 5) H Q) : xCode Tryz.prog 35 (Code.l (Code.r (bodyOf Tryz.f67))) (thenK (fun fr H => F67_2 (fr 0) (fr 1) (fr 5) H Q) (xRet Tryz.prog [.tmp 6] Q)) fr H :=
  Eq.mp (by kernel_rfl) h
theorem A67_1 {fr : Fr} {H : Hp} {Q : RT1} (h : F67_1 (fr 0) (fr 1) (fr 5) H Q) : xCode Tryz.prog 35 (Code.r (bodyOf Tryz.f67)) (xRet Tryz.prog [.tmp 6] Q) fr H :=
  seq_cut (by kernel_rfl) (fun _ _ h => A67_2 h) (A67_9 h)
theorem A67_10 {fr : Fr} {H : Hp} {Q : RT1} (h : F67_10 (fr 0) (fr 1) (fr 2) H Q) : xCode Tryz.prog 35 (Code.l (bodyOf Tryz.f67)) (thenK (fun fr H => F67_1 (fr 0) (fr 1) (fr 5) H Q) (xRet Tryz.prog [.tmp 6] Q)) fr H :=
  Eq.mp (by kernel_rfl) h
theorem A67_0 {fr : Fr} {H : Hp} {Q : RT1} (h : F67_0 (fr 0) (fr 1) (fr 2) H Q) : xCode Tryz.prog 35 (bodyOf Tryz.f67) (xRet Tryz.prog [.tmp 6] Q) fr H :=
  seq_cut (by kernel_rfl) (fun _ _ h => A67_1 h) (A67_10 h)
theorem E67 {t0 t1 t2 : Value} {H : Hp} {Q : RT1} (h : F67_0 t0 t1 t2 H Q) : NCalls Tryz.prog 67 #[t0, t1, t2] H Q :=
  NCalls.ofBody (by kernel_rfl) Tryz.func67 (by kernel_rfl) (by kernel_rfl) (Eq.mp (by kernel_rfl) (A67_0 (fr := fun i => (#[t0, t1, t2] : Array Value).getD i undef) (H := H) (Q := Q) (Eq.mp (by kernel_rfl) h)))
def F68_5 (t0 t1 t4 : Value) (H : Hp) (Q : RT1) : Prop :=
  q (Nz t0) fun t122_1 =>
  q (Fa 3 t122_1) fun t123_2 =>
  q (Ld H t123_2) fun t124_3 =>
  q (Ix 1 t124_3 t1) fun t126_4 =>
  q (Ld H t126_4) fun t127_5 =>
  NCalls Tryz.prog 61 #[t127_5] H (fun t128_6 H_6 =>
  St 4 H_6 t4 t128_6 ((fun u_7 H_7 =>
  q (LdA 4 H_7 t4) fun r_8 =>
  Q r_8 H_7) undef))
def F68_12 (t0 t1 t4 t102 t103 t104 : Value) (H : Hp) (R8 : RT6) (Q : RT1) : Prop :=
  q (Bin Tryz.prog H .add 3 true t104 (Value.int IntKind.i64 1)) fun t120_9 =>
  R8 t0 t1 t4 t102 t103 t120_9 H
def F68_13 (t0 t1 t4 t102 t103 t104 : Value) (H : Hp) (R8 : RT6) (Q : RT1) : Prop :=
  q (Ix 1 t102 t104) fun t106_10 =>
  q (Ld H t106_10) fun t107_11 =>
  NCalls Tryz.prog 45 #[t107_11, t1] H (fun t110_12 H_12 =>
  q (Bin Tryz.prog H_12 .neq 111 true t110_12 (Value.pointer none)) fun t112_13 =>
  condV t112_13 (
    NCalls Tryz.prog 105 #[t110_12] H_12 (fun t115_14 H_14 =>
    q (Ex 0 t115_14) fun t116_15 =>
    q (Ex 1 t115_14) fun t117_16 =>
    New #[Value.int IntKind.u32 0, Value.int IntKind.u32 0, Value.int IntKind.u32 0, Value.int IntKind.u32 0] 52 H_14 (fun t17_17 H_17 =>
    St 4 H_17 t17_17 t116_15 ((fun u_18 H_18 =>
    condV t117_16 (
      q (LdA 4 H_18 t17_17) fun t119_19 =>
      St 4 H_18 t4 t119_19 ((fun u_20 H_20 =>
      q (LdA 4 H_20 t4) fun r_21 =>
      Q r_21 H_20) undef)) (
      F68_12 t0 t1 t4 t102 t103 t104 H_18 R8 Q)) undef)))) (
    F68_12 t0 t1 t4 t102 t103 t104 H_12 R8 Q))
def F68_11 (t0 t1 t4 t102 t103 t104 : Value) (H : Hp) (R8 : RT6) (Q : RT1) : Prop := F68_13 t0 t1 t4 t102 t103 t104 H R8 Q
def F68_14 (t0 t1 t4 t102 t103 t104 t105 : Value) (H : Hp) (R8 : RT6) (Q : RT1) : Prop :=
  condV t105 (
    F68_11 t0 t1 t4 t102 t103 t104 H R8 Q) (
    F68_5 t0 t1 t4 H Q)
def F68_10 (t0 t1 t4 t102 t103 t104 t105 : Value) (H : Hp) (R8 : RT6) (Q : RT1) : Prop := F68_14 t0 t1 t4 t102 t103 t104 t105 H R8 Q
def F68_15 (t0 t1 t4 t102 t103 t104 : Value) (H : Hp) (R8 : RT6) (Q : RT1) : Prop :=
  q (Bin Tryz.prog H .lss 3 false t104 t103) fun t105_22 =>
  F68_10 t0 t1 t4 t102 t103 t104 t105_22 H R8 Q
def F68_9 (t0 t1 t4 t102 t103 t104 : Value) (H : Hp) (R8 : RT6) (Q : RT1) : Prop := F68_15 t0 t1 t4 t102 t103 t104 H R8 Q
def F68_8 (t0 t1 t4 t102 t103 t104 : Value) (H : Hp) (Q : RT1) : Prop :=
  ∃ (I : RT1) (μ : Value → Hp → Nat), I t104 H ∧ ∀ n104 H1, I n104 H1 → F68_9 t0 t1 t4 t102 t103 n104 H1 (fun m0 m1 m4 m102 m103 m104 H2 => m0 = t0 ∧ m1 = t1 ∧ m4 = t4 ∧ m102 = t102 ∧ m103 = t103 ∧ (I m104 H2 ∧ μ m104 H2 < μ n104 H1)) Q
def F68_7 (t0 t1 t4 t102 t103 t104 : Value) (H : Hp) (Q : RT1) : Prop := F68_8 t0 t1 t4 t102 t103 t104 H Q
def F68_16 (t0 t1 t4 : Value) (H : Hp) (Q : RT1) : Prop :=
  q (Nz t0) fun t100_23 =>
  q (Fa 1 t100_23) fun t101_24 =>
  q (Ld H t101_24) fun t102_25 =>
  q (pv Tryz.prog (Builtin.len_ #[95] 0 #[t102_25])) fun t103_26 =>
  F68_7 t0 t1 t4 t102_25 t103_26 (Value.int IntKind.i64 0) H Q
def F68_6 (t0 t1 t4 : Value) (H : Hp) (Q : RT1) : Prop := F68_16 t0 t1 t4 H Q
def F68_4 (t0 t1 t4 : Value) (H : Hp) (Q : RT1) : Prop := F68_6 t0 t1 t4 H Q
def F68_17 (t0 t1 t4 : Value) (H : Hp) (Q : RT1) : Prop :=
  q (Nz t0) fun t88_27 =>
  q (Fa 3 t88_27) fun t89_28 =>
  q (Ld H t89_28) fun t90_29 =>
  q (Ix 1 t90_29 t1) fun t92_30 =>
  q (Ld H t92_30) fun t93_31 =>
  NCalls Tryz.prog 104 #[t93_31] H (fun t94_32 H_32 =>
  q (Ex 0 t94_32) fun t95_33 =>
  q (Ex 1 t94_32) fun t96_34 =>
  New #[Value.int IntKind.u32 0, Value.int IntKind.u32 0, Value.int IntKind.u32 0, Value.int IntKind.u32 0] 52 H_32 (fun t12_35 H_35 =>
  St 4 H_35 t12_35 t95_33 ((fun u_36 H_36 =>
  condV t96_34 (
    q (LdA 4 H_36 t12_35) fun t98_37 =>
    St 4 H_36 t4 t98_37 ((fun u_38 H_38 =>
    q (LdA 4 H_38 t4) fun r_39 =>
    Q r_39 H_38) undef)) (
    F68_4 t0 t1 t4 H_36 Q)) undef)))
def F68_3 (t0 t1 t4 : Value) (H : Hp) (Q : RT1) : Prop := F68_17 t0 t1 t4 H Q
def F68_21 (t0 t1 t4 t54 t55 t56 : Value) (H : Hp) (R20 : RT6) (Q : RT1) : Prop :=
  q (Bin Tryz.prog H .lss 3 false t56 t55) fun t57_40 =>
  condV t57_40 (
    q (Ix 12 t54 t56) fun t58_41 =>
    q (LdA 12 H t58_41) fun t59_42 =>
    New #[Value.int IntKind.i64 0, Value.int IntKind.i64 0, Value.int IntKind.i64 0, Value.int IntKind.i64 0, Value.int IntKind.i64 0, Value.int IntKind.u32 0, Value.int IntKind.u32 0, Value.int IntKind.u32 0, Value.int IntKind.u32 0, Value.bool false, Value.bool false, Value.bool false] 68 H (fun t11_43 H_43 =>
    St 12 H_43 t11_43 t59_42 ((fun u_44 H_44 =>
    q (Fa 1 t11_43) fun t60_45 =>
    q (Fa 1 t60_45) fun t61_46 =>
    q (Ld H_44 t61_46) fun t62_47 =>
    q (Bin Tryz.prog H_44 .eql 3 false t62_47 t1) fun t64_48 =>
    q (gd t64_48 true (Fa 1 t11_43)) fun t66_49 =>
    q (gd t64_48 true (Fa 9 t66_49)) fun t67_50 =>
    q (gd t64_48 true (Ld H_44 t67_50)) fun t68_51 =>
    q (Pk t64_48 t68_51 (Value.bool false)) fun t69_52 =>
    q (gd t69_52 true (Fa 1 t11_43)) fun t71_53 =>
    q (gd t69_52 true (Fa 0 t71_53)) fun t72_54 =>
    q (gd t69_52 true (Ld H_44 t72_54)) fun t73_55 =>
    q (gd t69_52 true (Bin Tryz.prog H_44 .eql 3 true t73_55 (Value.int IntKind.i64 7))) fun t74_56 =>
    q (gd t69_52 true (some t74_56)) fun t75_57 =>
    q (gd t75_57 false (Fa 1 t11_43)) fun t76_58 =>
    q (gd t75_57 false (Fa 0 t76_58)) fun t77_59 =>
    q (gd t75_57 false (Ld H_44 t77_59)) fun t78_60 =>
    q (gd t75_57 false (Bin Tryz.prog H_44 .eql 3 true t78_60 (Value.int IntKind.i64 11))) fun t79_61 =>
    q (gd t69_52 true (Pk t75_57 (Value.bool true) t79_61)) fun t80_62 =>
    q (Pk t69_52 t80_62 (Value.bool false)) fun t81_63 =>
    condV t81_63 (
      q (Fa 1 t11_43) fun t82_64 =>
      q (Fa 4 t82_64) fun t83_65 =>
      q (LdA 4 H_44 t83_65) fun t84_66 =>
      St 4 H_44 t4 t84_66 ((fun u_67 H_67 =>
      q (LdA 4 H_67 t4) fun r_68 =>
      Q r_68 H_67) undef)) (
      q (Bin Tryz.prog H_44 .add 3 true t56 (Value.int IntKind.i64 1)) fun t85_69 =>
      R20 t0 t1 t4 t54 t55 t85_69 H_44)) undef))) (
    F68_3 t0 t1 t4 H Q)
def F68_20 (t0 t1 t4 t54 t55 t56 : Value) (H : Hp) (Q : RT1) : Prop :=
  ∃ (I : RT1) (μ : Value → Hp → Nat), I t56 H ∧ ∀ n56 H1, I n56 H1 → F68_21 t0 t1 t4 t54 t55 n56 H1 (fun m0 m1 m4 m54 m55 m56 H2 => m0 = t0 ∧ m1 = t1 ∧ m4 = t4 ∧ m54 = t54 ∧ m55 = t55 ∧ (I m56 H2 ∧ μ m56 H2 < μ n56 H1)) Q
def F68_19 (t0 t1 t4 t54 t55 t56 : Value) (H : Hp) (Q : RT1) : Prop := F68_20 t0 t1 t4 t54 t55 t56 H Q
def F68_22 (t0 t1 t4 : Value) (H : Hp) (Q : RT1) : Prop :=
  q (Nz t0) fun t51_70 =>
  q (Fa 2 t51_70) fun t52_71 =>
  q (Ld H t52_71) fun t53_72 =>
  NCalls Tryz.prog 54 #[t53_72] H (fun t54_73 H_73 =>
  q (pv Tryz.prog (Builtin.len_ #[38] 0 #[t54_73])) fun t55_74 =>
  F68_19 t0 t1 t4 t54_73 t55_74 (Value.int IntKind.i64 0) H_73 Q)
def F68_18 (t0 t1 t4 : Value) (H : Hp) (Q : RT1) : Prop := F68_22 t0 t1 t4 H Q
def F68_2 (t0 t1 t4 : Value) (H : Hp) (Q : RT1) : Prop := F68_18 t0 t1 t4 H Q
def F68_26 (t0 t1 t4 t22 t23 t24 : Value) (H : Hp) (R25 : RT6) (Q : RT1) : Prop :=
  q (Bin Tryz.prog H .lss 3 false t24 t23) fun t25_75 =>
  condV t25_75 (
    q (Ix 1 t22 t24) fun t26_76 =>
    q (Ld H t26_76) fun t27_77 =>
    NCalls Tryz.prog 45 #[t27_77, t1] H (fun t30_78 H_78 =>
    q (Bin Tryz.prog H_78 .neq 111 true t30_78 (Value.pointer none)) fun t32_79 =>
    q (gd t32_79 true (some t30_78)) fun t34_80 =>
    gl t32_79 true (fun K => NCalls Tryz.prog 63 #[t34_80] H_78 K) H_78 fun t35_81 H_81 =>
    q (gd t32_79 true (Bin Tryz.prog H_81 .eql 3 true t35_81 (Value.int IntKind.i64 4))) fun t36_82 =>
    q (gd t32_79 true (some t36_82)) fun t37_83 =>
    q (gd t37_83 false (some t30_78)) fun t38_84 =>
    gl t37_83 false (fun K => NCalls Tryz.prog 63 #[t38_84] H_81 K) H_81 fun t39_85 H_85 =>
    q (gd t37_83 false (Bin Tryz.prog H_85 .eql 3 true t39_85 (Value.int IntKind.i64 3))) fun t40_86 =>
    q (gd t32_79 true (Pk t37_83 (Value.bool true) t40_86)) fun t41_87 =>
    q (Pk t32_79 t41_87 (Value.bool false)) fun t42_88 =>
    condV t42_88 (
      NCalls Tryz.prog 56 #[t30_78] H_85 (fun t45_89 H_89 =>
      q (Ex 0 t45_89) fun t46_90 =>
      q (Ex 1 t45_89) fun t47_91 =>
      New #[Value.int IntKind.u32 0, Value.int IntKind.u32 0, Value.int IntKind.u32 0, Value.int IntKind.u32 0] 52 H_89 (fun t8_92 H_92 =>
      St 4 H_92 t8_92 t46_90 ((fun u_93 H_93 =>
      q (LdA 4 H_93 t8_92) fun t48_94 =>
      St 4 H_93 t4 t48_94 ((fun u_95 H_95 =>
      q (LdA 4 H_95 t4) fun r_96 =>
      Q r_96 H_95) undef)) undef)))) (
      q (Bin Tryz.prog H_85 .add 3 true t24 (Value.int IntKind.i64 1)) fun t49_97 =>
      R25 t0 t1 t4 t22 t23 t49_97 H_85))) (
    F68_2 t0 t1 t4 H Q)
def F68_25 (t0 t1 t4 t22 t23 t24 : Value) (H : Hp) (Q : RT1) : Prop :=
  ∃ (I : RT1) (μ : Value → Hp → Nat), I t24 H ∧ ∀ n24 H1, I n24 H1 → F68_26 t0 t1 t4 t22 t23 n24 H1 (fun m0 m1 m4 m22 m23 m24 H2 => m0 = t0 ∧ m1 = t1 ∧ m4 = t4 ∧ m22 = t22 ∧ m23 = t23 ∧ (I m24 H2 ∧ μ m24 H2 < μ n24 H1)) Q
def F68_24 (t0 t1 t4 t22 t23 t24 : Value) (H : Hp) (Q : RT1) : Prop := F68_25 t0 t1 t4 t22 t23 t24 H Q
def F68_27 (t0 t1 t4 : Value) (H : Hp) (Q : RT1) : Prop :=
  q (Nz t0) fun t20_98 =>
  q (Fa 1 t20_98) fun t21_99 =>
  q (Ld H t21_99) fun t22_100 =>
  q (pv Tryz.prog (Builtin.len_ #[95] 0 #[t22_100])) fun t23_101 =>
  F68_24 t0 t1 t4 t22_100 t23_101 (Value.int IntKind.i64 0) H Q
def F68_23 (t0 t1 t4 : Value) (H : Hp) (Q : RT1) : Prop := F68_27 t0 t1 t4 H Q
def F68_1 (t0 t1 t4 : Value) (H : Hp) (Q : RT1) : Prop := F68_23 t0 t1 t4 H Q
def F68_28 (t0 t1 : Value) (H : Hp) (Q : RT1) : Prop :=
  New #[Value.int IntKind.u32 0, Value.int IntKind.u32 0, Value.int IntKind.u32 0, Value.int IntKind.u32 0] 52 H (fun t4_102 H_102 =>
  F68_1 t0 t1 t4_102 H_102 Q)
def F68_0 (t0 t1 : Value) (H : Hp) (Q : RT1) : Prop := F68_28 t0 t1 H Q
theorem A68_5 {fr : Fr} {H : Hp} {Q : RT1} (h : F68_5 (fr 0) (fr 1) (fr 4) H Q) : xCode Tryz.prog 129 (Code.r (Code.r (Code.r (Code.r (Code.r (bodyOf Tryz.f68)))))) (xRet Tryz.prog [.cell 4 52] Q) fr H :=
  Eq.mp (by kernel_rfl) h
abbrev K68_1 (Q : RT1) : QT := thenK (fun fr H => F68_5 (fr 0) (fr 1) (fr 4) H Q) (xRet Tryz.prog [.cell 4 52] Q)
abbrev K68_2 (R8 : RT6) (Q : RT1) : QT := thenK (fun fr H => R8 (fr 0) (fr 1) (fr 4) (fr 102) (fr 103) (fr 104) H) (blockK 4 (K68_1 Q))
theorem A68_12 {fr : Fr} {H : Hp} {R8 : RT6} {Q : RT1} (h : F68_12 (fr 0) (fr 1) (fr 4) (fr 102) (fr 103) (fr 104) H R8 Q) : xCode Tryz.prog 129 (Code.r (Code.r (Code.r (Code.l (Code.l (Code.r (Code.l (Code.r (Code.r (Code.r (Code.r (bodyOf Tryz.f68)))))))))))) (K68_2 R8 Q) fr H :=
  Eq.mp (by kernel_rfl) h
theorem A68_13 {fr : Fr} {H : Hp} {R8 : RT6} {Q : RT1} (h : F68_13 (fr 0) (fr 1) (fr 4) (fr 102) (fr 103) (fr 104) H R8 Q) : xCode Tryz.prog 129 (Code.l (Code.r (Code.r (Code.l (Code.l (Code.r (Code.l (Code.r (Code.r (Code.r (Code.r (bodyOf Tryz.f68)))))))))))) (thenK (fun fr H => F68_12 (fr 0) (fr 1) (fr 4) (fr 102) (fr 103) (fr 104) H R8 Q) (K68_2 R8 Q)) fr H :=
  Eq.mp (by kernel_rfl) h
theorem A68_11 {fr : Fr} {H : Hp} {R8 : RT6} {Q : RT1} (h : F68_11 (fr 0) (fr 1) (fr 4) (fr 102) (fr 103) (fr 104) H R8 Q) : xCode Tryz.prog 129 (Code.r (Code.r (Code.l (Code.l (Code.r (Code.l (Code.r (Code.r (Code.r (Code.r (bodyOf Tryz.f68))))))))))) (K68_2 R8 Q) fr H :=
  seq_cut (by kernel_rfl) (fun _ _ h => A68_12 h) (A68_13 h)
theorem A68_14 {fr : Fr} {H : Hp} {R8 : RT6} {Q : RT1} (h : F68_14 (fr 0) (fr 1) (fr 4) (fr 102) (fr 103) (fr 104) (fr 105) H R8 Q) : xCode Tryz.prog 129 (Code.l (Code.r (Code.l (Code.l (Code.r (Code.l (Code.r (Code.r (Code.r (Code.r (bodyOf Tryz.f68))))))))))) (thenK (fun fr H => F68_11 (fr 0) (fr 1) (fr 4) (fr 102) (fr 103) (fr 104) H R8 Q) (K68_2 R8 Q)) fr H :=
  Eq.mp (by kernel_rfl) h
theorem A68_10 {fr : Fr} {H : Hp} {R8 : RT6} {Q : RT1} (h : F68_10 (fr 0) (fr 1) (fr 4) (fr 102) (fr 103) (fr 104) (fr 105) H R8 Q) : xCode Tryz.prog 129 (Code.r (Code.l (Code.l (Code.r (Code.l (Code.r (Code.r (Code.r (Code.r (bodyOf Tryz.f68)))))))))) (K68_2 R8 Q) fr H :=
  seq_cut (by kernel_rfl) (fun _ _ h => A68_11 h) (A68_14 h)
theorem A68_15 {fr : Fr} {H : Hp} {R8 : RT6} {Q : RT1} (h : F68_15 (fr 0) (fr 1) (fr 4) (fr 102) (fr 103) (fr 104) H R8 Q) : xCode Tryz.prog 129 (Code.l (Code.l (Code.l (Code.r (Code.l (Code.r (Code.r (Code.r (Code.r (bodyOf Tryz.f68)))))))))) (thenK (fun fr H => F68_10 (fr 0) (fr 1) (fr 4) (fr 102) (fr 103) (fr 104) (fr 105) H R8 Q) (K68_2 R8 Q)) fr H :=
  Eq.mp (by kernel_rfl) h
theorem A68_9 {fr : Fr} {H : Hp} {R8 : RT6} {Q : RT1} (h : F68_9 (fr 0) (fr 1) (fr 4) (fr 102) (fr 103) (fr 104) H R8 Q) : xCode Tryz.prog 129 (Code.l (Code.l (Code.r (Code.l (Code.r (Code.r (Code.r (Code.r (bodyOf Tryz.f68))))))))) (K68_2 R8 Q) fr H :=
  seq_cut (by kernel_rfl) (fun _ _ h => A68_10 h) (A68_15 h)
theorem A68_8 {fr : Fr} {H : Hp} {Q : RT1} (h : F68_8 (fr 0) (fr 1) (fr 4) (fr 102) (fr 103) (fr 104) H Q) : xCode Tryz.prog 129 (Code.l (Code.r (Code.l (Code.r (Code.r (Code.r (Code.r (bodyOf Tryz.f68)))))))) (blockK 4 (K68_1 Q)) fr H := by
  obtain ⟨I, μ, h0, hr⟩ := h
  refine loop_cut (a := (Code.l (Code.l (Code.r (Code.l (Code.r (Code.r (Code.r (Code.r (bodyOf Tryz.f68)))))))))) (by kernel_rfl) (fun fr1 H1 => fr1 0 = fr 0 ∧ fr1 1 = fr 1 ∧ fr1 4 = fr 4 ∧ fr1 102 = fr 102 ∧ fr1 103 = fr 103 ∧ I (fr1 104) H1) (fun fr1 H1 => μ (fr1 104) H1) (by exact ⟨rfl, rfl, rfl, rfl, rfl, h0⟩) ?_
  intro fr1 H1 hI
  obtain ⟨hu0, hu1, hu4, hu102, hu103, hI⟩ := hI
  have hb := hr (fr1 104) H1 hI
  rw [← hu0] at hb; rw [← hu1] at hb; rw [← hu4] at hb; rw [← hu102] at hb; rw [← hu103] at hb
  refine ⟨_, ?_, A68_9 hb⟩
  intro fr2 H2 hj
  obtain ⟨ku0, ku1, ku4, ku102, ku103, hI2, hlt⟩ := hj
  exact ⟨⟨(ku0.trans hu0), (ku1.trans hu1), (ku4.trans hu4), (ku102.trans hu102), (ku103.trans hu103), hI2⟩, hlt⟩
theorem A68_7 {fr : Fr} {H : Hp} {Q : RT1} (h : F68_7 (fr 0) (fr 1) (fr 4) (fr 102) (fr 103) (fr 104) H Q) : xCode Tryz.prog 129 (Code.r (Code.l (Code.r (Code.r (Code.r (Code.r (bodyOf Tryz.f68))))))) (K68_1 Q) fr H :=
  block_cut (by kernel_rfl) (A68_8 h)
theorem A68_16 {fr : Fr} {H : Hp} {Q : RT1} (h : F68_16 (fr 0) (fr 1) (fr 4) H Q) : xCode Tryz.prog 129 (Code.l (Code.l (Code.r (Code.r (Code.r (Code.r (bodyOf Tryz.f68))))))) (thenK (fun fr H => F68_7 (fr 0) (fr 1) (fr 4) (fr 102) (fr 103) (fr 104) H Q) (K68_1 Q)) fr H :=
  Eq.mp (by kernel_rfl) h
theorem A68_6 {fr : Fr} {H : Hp} {Q : RT1} (h : F68_6 (fr 0) (fr 1) (fr 4) H Q) : xCode Tryz.prog 129 (Code.l (Code.r (Code.r (Code.r (Code.r (bodyOf Tryz.f68)))))) (K68_1 Q) fr H :=
  seq_cut (by kernel_rfl) (fun _ _ h => A68_7 h) (A68_16 h)
theorem A68_4 {fr : Fr} {H : Hp} {Q : RT1} (h : F68_4 (fr 0) (fr 1) (fr 4) H Q) : xCode Tryz.prog 129 (Code.r (Code.r (Code.r (Code.r (bodyOf Tryz.f68))))) (xRet Tryz.prog [.cell 4 52] Q) fr H :=
  seq_cut (by kernel_rfl) (fun _ _ h => A68_5 h) (A68_6 h)
theorem A68_17 {fr : Fr} {H : Hp} {Q : RT1} (h : F68_17 (fr 0) (fr 1) (fr 4) H Q) : xCode Tryz.prog 129 (Code.l (Code.r (Code.r (Code.r (bodyOf Tryz.f68))))) (thenK (fun fr H => F68_4 (fr 0) (fr 1) (fr 4) H Q) (xRet Tryz.prog [.cell 4 52] Q)) fr H :=
  Eq.mp (by kernel_rfl) h
theorem A68_3 {fr : Fr} {H : Hp} {Q : RT1} (h : F68_3 (fr 0) (fr 1) (fr 4) H Q) : xCode Tryz.prog 129 (Code.r (Code.r (Code.r (bodyOf Tryz.f68)))) (xRet Tryz.prog [.cell 4 52] Q) fr H :=
  seq_cut (by kernel_rfl) (fun _ _ h => A68_4 h) (A68_17 h)
abbrev K68_3 (Q : RT1) : QT := thenK (fun fr H => F68_3 (fr 0) (fr 1) (fr 4) H Q) (xRet Tryz.prog [.cell 4 52] Q)
theorem A68_21 {fr : Fr} {H : Hp} {R20 : RT6} {Q : RT1} (h : F68_21 (fr 0) (fr 1) (fr 4) (fr 54) (fr 55) (fr 56) H R20 Q) : xCode Tryz.prog 129 (Code.l (Code.l (Code.r (Code.l (Code.r (Code.r (bodyOf Tryz.f68))))))) (thenK (fun fr H => R20 (fr 0) (fr 1) (fr 4) (fr 54) (fr 55) (fr 56) H) (blockK 2 (K68_3 Q))) fr H :=
  Eq.mp (by kernel_rfl) h
theorem A68_20 {fr : Fr} {H : Hp} {Q : RT1} (h : F68_20 (fr 0) (fr 1) (fr 4) (fr 54) (fr 55) (fr 56) H Q) : xCode Tryz.prog 129 (Code.l (Code.r (Code.l (Code.r (Code.r (bodyOf Tryz.f68)))))) (blockK 2 (K68_3 Q)) fr H := by
  obtain ⟨I, μ, h0, hr⟩ := h
  refine loop_cut (a := (Code.l (Code.l (Code.r (Code.l (Code.r (Code.r (bodyOf Tryz.f68)))))))) (by kernel_rfl) (fun fr1 H1 => fr1 0 = fr 0 ∧ fr1 1 = fr 1 ∧ fr1 4 = fr 4 ∧ fr1 54 = fr 54 ∧ fr1 55 = fr 55 ∧ I (fr1 56) H1) (fun fr1 H1 => μ (fr1 56) H1) (by exact ⟨rfl, rfl, rfl, rfl, rfl, h0⟩) ?_
  intro fr1 H1 hI
  obtain ⟨hu0, hu1, hu4, hu54, hu55, hI⟩ := hI
  have hb := hr (fr1 56) H1 hI
  rw [← hu0] at hb; rw [← hu1] at hb; rw [← hu4] at hb; rw [← hu54] at hb; rw [← hu55] at hb
  refine ⟨_, ?_, A68_21 hb⟩
  intro fr2 H2 hj
  obtain ⟨ku0, ku1, ku4, ku54, ku55, hI2, hlt⟩ := hj
  exact ⟨⟨(ku0.trans hu0), (ku1.trans hu1), (ku4.trans hu4), (ku54.trans hu54), (ku55.trans hu55), hI2⟩, hlt⟩
theorem A68_19 {fr : Fr} {H : Hp} {Q : RT1} (h : F68_19 (fr 0) (fr 1) (fr 4) (fr 54) (fr 55) (fr 56) H Q) : xCode Tryz.prog 129 (Code.r (Code.l (Code.r (Code.r (bodyOf Tryz.f68))))) (K68_3 Q) fr H :=
  block_cut (by kernel_rfl) (A68_20 h)
theorem A68_22 {fr : Fr} {H : Hp} {Q : RT1} (h : F68_22 (fr 0) (fr 1) (fr 4) H Q) : xCode Tryz.prog 129 (Code.l (Code.l (Code.r (Code.r (bodyOf Tryz.f68))))) (thenK (fun fr H => F68_19 (fr 0) (fr 1) (fr 4) (fr 54) (fr 55) (fr 56) H Q) (K68_3 Q)) fr H :=
  Eq.mp (by kernel_rfl) h
theorem A68_18 {fr : Fr} {H : Hp} {Q : RT1} (h : F68_18 (fr 0) (fr 1) (fr 4) H Q) : xCode Tryz.prog 129 (Code.l (Code.r (Code.r (bodyOf Tryz.f68)))) (K68_3 Q) fr H :=
  seq_cut (by kernel_rfl) (fun _ _ h => A68_19 h) (A68_22 h)
theorem A68_2 {fr : Fr} {H : Hp} {Q : RT1} (h : F68_2 (fr 0) (fr 1) (fr 4) H Q) : xCode Tryz.prog 129 (Code.r (Code.r (bodyOf Tryz.f68))) (xRet Tryz.prog [.cell 4 52] Q) fr H :=
  seq_cut (by kernel_rfl) (fun _ _ h => A68_3 h) (A68_18 h)
abbrev K68_4 (Q : RT1) : QT := thenK (fun fr H => F68_2 (fr 0) (fr 1) (fr 4) H Q) (xRet Tryz.prog [.cell 4 52] Q)
theorem A68_26 {fr : Fr} {H : Hp} {R25 : RT6} {Q : RT1} (h : F68_26 (fr 0) (fr 1) (fr 4) (fr 22) (fr 23) (fr 24) H R25 Q) : xCode Tryz.prog 129 (Code.l (Code.l (Code.r (Code.l (Code.r (bodyOf Tryz.f68)))))) (thenK (fun fr H => R25 (fr 0) (fr 1) (fr 4) (fr 22) (fr 23) (fr 24) H) (blockK 0 (K68_4 Q))) fr H :=
  Eq.mp (by kernel_rfl) h
theorem A68_25 {fr : Fr} {H : Hp} {Q : RT1} (h : F68_25 (fr 0) (fr 1) (fr 4) (fr 22) (fr 23) (fr 24) H Q) : xCode Tryz.prog 129 (Code.l (Code.r (Code.l (Code.r (bodyOf Tryz.f68))))) (blockK 0 (K68_4 Q)) fr H := by
  obtain ⟨I, μ, h0, hr⟩ := h
  refine loop_cut (a := (Code.l (Code.l (Code.r (Code.l (Code.r (bodyOf Tryz.f68))))))) (by kernel_rfl) (fun fr1 H1 => fr1 0 = fr 0 ∧ fr1 1 = fr 1 ∧ fr1 4 = fr 4 ∧ fr1 22 = fr 22 ∧ fr1 23 = fr 23 ∧ I (fr1 24) H1) (fun fr1 H1 => μ (fr1 24) H1) (by exact ⟨rfl, rfl, rfl, rfl, rfl, h0⟩) ?_
  intro fr1 H1 hI
  obtain ⟨hu0, hu1, hu4, hu22, hu23, hI⟩ := hI
  have hb := hr (fr1 24) H1 hI
  rw [← hu0] at hb; rw [← hu1] at hb; rw [← hu4] at hb; rw [← hu22] at hb; rw [← hu23] at hb
  refine ⟨_, ?_, A68_26 hb⟩
  intro fr2 H2 hj
  obtain ⟨ku0, ku1, ku4, ku22, ku23, hI2, hlt⟩ := hj
  exact ⟨⟨(ku0.trans hu0), (ku1.trans hu1), (ku4.trans hu4), (ku22.trans hu22), (ku23.trans hu23), hI2⟩, hlt⟩
theorem A68_24 {fr : Fr} {H : Hp} {Q : RT1} (h : F68_24 (fr 0) (fr 1) (fr 4) (fr 22) (fr 23) (fr 24) H Q) : xCode Tryz.prog 129 (Code.r (Code.l (Code.r (bodyOf Tryz.f68)))) (K68_4 Q) fr H :=
  block_cut (by kernel_rfl) (A68_25 h)
theorem A68_27 {fr : Fr} {H : Hp} {Q : RT1} (h : F68_27 (fr 0) (fr 1) (fr 4) H Q) : xCode Tryz.prog 129 (Code.l (Code.l (Code.r (bodyOf Tryz.f68)))) (thenK (fun fr H => F68_24 (fr 0) (fr 1) (fr 4) (fr 22) (fr 23) (fr 24) H Q) (K68_4 Q)) fr H :=
  Eq.mp (by kernel_rfl) h
theorem A68_23 {fr : Fr} {H : Hp} {Q : RT1} (h : F68_23 (fr 0) (fr 1) (fr 4) H Q) : xCode Tryz.prog 129 (Code.l (Code.r (bodyOf Tryz.f68))) (K68_4 Q) fr H :=
  seq_cut (by kernel_rfl) (fun _ _ h => A68_24 h) (A68_27 h)
theorem A68_1 {fr : Fr} {H : Hp} {Q : RT1} (h : F68_1 (fr 0) (fr 1) (fr 4) H Q) : xCode Tryz.prog 129 (Code.r (bodyOf Tryz.f68)) (xRet Tryz.prog [.cell 4 52] Q) fr H :=
  seq_cut (by kernel_rfl) (fun _ _ h => A68_2 h) (A68_23 h)
theorem A68_28 {fr : Fr} {H : Hp} {Q : RT1} (h : F68_28 (fr 0) (fr 1) H Q) : xCode Tryz.prog 129 (Code.l (bodyOf Tryz.f68)) (thenK (fun fr H => F68_1 (fr 0) (fr 1) (fr 4) H Q) (xRet Tryz.prog [.cell 4 52] Q)) fr H :=
  Eq.mp (by kernel_rfl) h
theorem A68_0 {fr : Fr} {H : Hp} {Q : RT1} (h : F68_0 (fr 0) (fr 1) H Q) : xCode Tryz.prog 129 (bodyOf Tryz.f68) (xRet Tryz.prog [.cell 4 52] Q) fr H :=
  seq_cut (by kernel_rfl) (fun _ _ h => A68_1 h) (A68_28 h)
theorem E68 {t0 t1 : Value} {H : Hp} {Q : RT1} (h : F68_0 t0 t1 H Q) : NCalls Tryz.prog 68 #[t0, t1] H Q :=
  NCalls.ofBody (by kernel_rfl) Tryz.func68 (by kernel_rfl) (by kernel_rfl) (Eq.mp (by kernel_rfl) (A68_0 (fr := fun i => (#[t0, t1] : Array Value).getD i undef) (H := H) (Q := Q) (Eq.mp (by kernel_rfl) h)))
def F69_0 (t0 t1 t2 : Value) (H : Hp) (Q : RT1) : Prop :=
  NCalls Tryz.prog 94 #[t1, t2] H (fun t9_1 H_1 =>
  q (gd t9_1 true (some t1)) fun t11_2 =>
  q (gd t9_1 true (pv Tryz.prog (convert 40 3 t11_2))) fun t12_3 =>
  q (gd t9_1 true (some t0)) fun t13_4 =>
  q (gd t9_1 true (Nz t13_4)) fun t14_5 =>
  q (gd t9_1 true (Fa 0 t14_5)) fun t15_6 =>
  q (gd t9_1 true (Ld H_1 t15_6)) fun t16_7 =>
  q (gd t9_1 true (pv Tryz.prog (Builtin.len_ #[81] 0 #[t16_7]))) fun t17_8 =>
  q (gd t9_1 true (some t2)) fun t18_9 =>
  q (gd t9_1 true (Bin Tryz.prog H_1 .sub 3 false t17_8 t18_9)) fun t19_10 =>
  q (gd t9_1 true (Bin Tryz.prog H_1 .leq 3 false t12_3 t19_10)) fun t20_11 =>
  q (Pk t9_1 t20_11 (Value.bool false)) fun t21_12 =>
  Q t21_12 H_1)
theorem A69_0 {fr : Fr} {H : Hp} {Q : RT1} (h : F69_0 (fr 0) (fr 1) (fr 2) H Q) : xCode Tryz.prog 22 (bodyOf Tryz.f69) (xRet Tryz.prog [.tmp 6] Q) fr H :=
  Eq.mp (by kernel_rfl) h
theorem E69 {t0 t1 t2 : Value} {H : Hp} {Q : RT1} (h : F69_0 t0 t1 t2 H Q) : NCalls Tryz.prog 69 #[t0, t1, t2] H Q :=
  NCalls.ofBody (by kernel_rfl) Tryz.func69 (by kernel_rfl) (by kernel_rfl) (Eq.mp (by kernel_rfl) (A69_0 (fr := fun i => (#[t0, t1, t2] : Array Value).getD i undef) (H := H) (Q := Q) (Eq.mp (by kernel_rfl) h)))
def F70_3 (t5 : Value) (H : Hp) (Q : RT1) : Prop :=
  Q t5 H
def F70_7 (t0 t5 t7 t8 : Value) (H : Hp) (R6 : RT4) (Q : RT1) : Prop :=
  q (Bin Tryz.prog H .lss 3 false t8 t7) fun t9_1 =>
  condV t9_1 (
    q (Ix 1 t0 t8) fun t14_2 =>
    q (Ld H t14_2) fun t15_3 =>
    q (pv Tryz.prog (convert 5 40 t15_3)) fun t16_4 =>
    q (Bin Tryz.prog H .mul 3 true (Value.int IntKind.i64 8) t8) fun t18_5 =>
    q (Bin Tryz.prog H .shl 40 false t16_4 t18_5) fun t19_6 =>
    q (Bin Tryz.prog H .or 40 false t5 t19_6) fun t20_7 =>
    q (Bin Tryz.prog H .add 3 true t8 (Value.int IntKind.i64 1)) fun t21_8 =>
    R6 t0 t20_7 t7 t21_8 H) (
    F70_3 t5 H Q)
def F70_6 (t0 t5 t7 t8 : Value) (H : Hp) (Q : RT1) : Prop :=
  ∃ (I : RT2) (μ : Value → Value → Hp → Nat), I t5 t8 H ∧ ∀ n5 n8 H1, I n5 n8 H1 → F70_7 t0 n5 t7 n8 H1 (fun m0 m5 m7 m8 H2 => m0 = t0 ∧ m7 = t7 ∧ (I m5 m8 H2 ∧ μ m5 m8 H2 < μ n5 n8 H1)) Q
def F70_5 (t0 t5 t7 t8 : Value) (H : Hp) (Q : RT1) : Prop := F70_6 t0 t5 t7 t8 H Q
def F70_8 (t0 t1 t5 : Value) (H : Hp) (Q : RT1) : Prop :=
  F70_5 t0 t5 t1 (Value.int IntKind.i64 0) H Q
def F70_4 (t0 t1 t5 : Value) (H : Hp) (Q : RT1) : Prop := F70_8 t0 t1 t5 H Q
def F70_2 (t0 t1 t5 : Value) (H : Hp) (Q : RT1) : Prop := F70_4 t0 t1 t5 H Q
def F70_9 (t0 t1 : Value) (H : Hp) (Q : RT1) : Prop :=
  F70_2 t0 t1 (Value.int IntKind.u32 0) H Q
def F70_1 (t0 t1 : Value) (H : Hp) (Q : RT1) : Prop := F70_9 t0 t1 H Q
def F70_10 (t0 t1 : Value) (H : Hp) (Q : RT1) : Prop :=
  F70_1 t0 t1 H Q
def F70_0 (t0 t1 : Value) (H : Hp) (Q : RT1) : Prop := F70_10 t0 t1 H Q
theorem A70_3 {fr : Fr} {H : Hp} {Q : RT1} (h : F70_3 (fr 5) H Q) : xCode Tryz.prog 23 (Code.r (Code.r (Code.r (bodyOf Tryz.f70)))) (xRet Tryz.prog [.tmp 4] Q) fr H :=
  Eq.mp (by kernel_rfl) h
abbrev K70_5 (Q : RT1) : QT := thenK (fun fr H => F70_3 (fr 5) H Q) (xRet Tryz.prog [.tmp 4] Q)
theorem A70_7 {fr : Fr} {H : Hp} {R6 : RT4} {Q : RT1} (h : F70_7 (fr 0) (fr 5) (fr 7) (fr 8) H R6 Q) : xCode Tryz.prog 23 (Code.l (Code.l (Code.r (Code.l (Code.r (Code.r (bodyOf Tryz.f70))))))) (thenK (fun fr H => R6 (fr 0) (fr 5) (fr 7) (fr 8) H) (blockK 0 (K70_5 Q))) fr H :=
  Eq.mp (by kernel_rfl) h
theorem A70_6 {fr : Fr} {H : Hp} {Q : RT1} (h : F70_6 (fr 0) (fr 5) (fr 7) (fr 8) H Q) : xCode Tryz.prog 23 (Code.l (Code.r (Code.l (Code.r (Code.r (bodyOf Tryz.f70)))))) (blockK 0 (K70_5 Q)) fr H := by
  obtain ⟨I, μ, h0, hr⟩ := h
  refine loop_cut (a := (Code.l (Code.l (Code.r (Code.l (Code.r (Code.r (bodyOf Tryz.f70)))))))) (by kernel_rfl) (fun fr1 H1 => fr1 0 = fr 0 ∧ fr1 7 = fr 7 ∧ I (fr1 5) (fr1 8) H1) (fun fr1 H1 => μ (fr1 5) (fr1 8) H1) (by exact ⟨rfl, rfl, h0⟩) ?_
  intro fr1 H1 hI
  obtain ⟨hu0, hu7, hI⟩ := hI
  have hb := hr (fr1 5) (fr1 8) H1 hI
  rw [← hu0] at hb; rw [← hu7] at hb
  refine ⟨_, ?_, A70_7 hb⟩
  intro fr2 H2 hj
  obtain ⟨ku0, ku7, hI2, hlt⟩ := hj
  exact ⟨⟨(ku0.trans hu0), (ku7.trans hu7), hI2⟩, hlt⟩
theorem A70_5 {fr : Fr} {H : Hp} {Q : RT1} (h : F70_5 (fr 0) (fr 5) (fr 7) (fr 8) H Q) : xCode Tryz.prog 23 (Code.r (Code.l (Code.r (Code.r (bodyOf Tryz.f70))))) (K70_5 Q) fr H :=
  block_cut (by kernel_rfl) (A70_6 h)
theorem A70_8 {fr : Fr} {H : Hp} {Q : RT1} (h : F70_8 (fr 0) (fr 1) (fr 5) H Q) : xCode Tryz.prog 23 (Code.l (Code.l (Code.r (Code.r (bodyOf Tryz.f70))))) (thenK (fun fr H => F70_5 (fr 0) (fr 5) (fr 7) (fr 8) H Q) (K70_5 Q)) fr H :=
  Eq.mp (by kernel_rfl) h
theorem A70_4 {fr : Fr} {H : Hp} {Q : RT1} (h : F70_4 (fr 0) (fr 1) (fr 5) H Q) : xCode Tryz.prog 23 (Code.l (Code.r (Code.r (bodyOf Tryz.f70)))) (K70_5 Q) fr H :=
  seq_cut (by kernel_rfl) (fun _ _ h => A70_5 h) (A70_8 h)
theorem A70_2 {fr : Fr} {H : Hp} {Q : RT1} (h : F70_2 (fr 0) (fr 1) (fr 5) H Q) : xCode Tryz.prog 23 (Code.r (Code.r (bodyOf Tryz.f70))) (xRet Tryz.prog [.tmp 4] Q) fr H :=
  seq_cut (by kernel_rfl) (fun _ _ h => A70_3 h) (A70_4 h)
theorem A70_9 {fr : Fr} {H : Hp} {Q : RT1} (h : F70_9 (fr 0) (fr 1) H Q) : xCode Tryz.prog 23 (Code.l (Code.r (bodyOf Tryz.f70))) (thenK (fun fr H => F70_2 (fr 0) (fr 1) (fr 5) H Q) (xRet Tryz.prog [.tmp 4] Q)) fr H :=
  Eq.mp (by kernel_rfl) h
theorem A70_1 {fr : Fr} {H : Hp} {Q : RT1} (h : F70_1 (fr 0) (fr 1) H Q) : xCode Tryz.prog 23 (Code.r (bodyOf Tryz.f70)) (xRet Tryz.prog [.tmp 4] Q) fr H :=
  seq_cut (by kernel_rfl) (fun _ _ h => A70_2 h) (A70_9 h)
theorem A70_10 {fr : Fr} {H : Hp} {Q : RT1} (h : F70_10 (fr 0) (fr 1) H Q) : xCode Tryz.prog 23 (Code.l (bodyOf Tryz.f70)) (thenK (fun fr H => F70_1 (fr 0) (fr 1) H Q) (xRet Tryz.prog [.tmp 4] Q)) fr H :=
  Eq.mp (by kernel_rfl) h
theorem A70_0 {fr : Fr} {H : Hp} {Q : RT1} (h : F70_0 (fr 0) (fr 1) H Q) : xCode Tryz.prog 23 (bodyOf Tryz.f70) (xRet Tryz.prog [.tmp 4] Q) fr H :=
  seq_cut (by kernel_rfl) (fun _ _ h => A70_1 h) (A70_10 h)
theorem E70 {t0 t1 : Value} {H : Hp} {Q : RT1} (h : F70_0 t0 t1 H Q) : NCalls Tryz.prog 70 #[t0, t1] H Q :=
  NCalls.ofBody (by kernel_rfl) Tryz.func70 (by kernel_rfl) (by kernel_rfl) (Eq.mp (by kernel_rfl) (A70_0 (fr := fun i => (#[t0, t1] : Array Value).getD i undef) (H := H) (Q := Q) (Eq.mp (by kernel_rfl) h)))
def F76_0 (t0 : Value) (H : Hp) (Q : RT1) : Prop :=
  q (Bin Tryz.prog H .eql 81 true t0 (Value.slice none 0 0)) fun t4_1 =>
  condV t4_1 (
    Q (Value.slice none 0 0) H) (
    Bsl #[Value.int IntKind.u8 0] 1 5 0 [] H (fun t5_2 H_2 =>
    dm Tryz.prog (Builtin.append_ #[81, 81] 0 #[t5_2, t0]) H_2 (fun t7_3 H_3 =>
    Q t7_3 H_3)))
theorem A76_0 {fr : Fr} {H : Hp} {Q : RT1} (h : F76_0 (fr 0) H Q) : xCode Tryz.prog 8 (bodyOf Tryz.f76) (xRet Tryz.prog [.tmp 2] Q) fr H :=
  Eq.mp (by kernel_rfl) h
theorem E76 {t0 : Value} {H : Hp} {Q : RT1} (h : F76_0 t0 H Q) : NCalls Tryz.prog 76 #[t0] H Q :=
  NCalls.ofBody (by kernel_rfl) Tryz.func76 (by kernel_rfl) (by kernel_rfl) (Eq.mp (by kernel_rfl) (A76_0 (fr := fun i => (#[t0] : Array Value).getD i undef) (H := H) (Q := Q) (Eq.mp (by kernel_rfl) h)))
def F77_0 (t0 : Value) (H : Hp) (Q : RT1) : Prop :=
  q (Nz t0) fun t4_1 =>
  q (Fa 0 t4_1) fun t5_2 =>
  q (Ld H t5_2) fun t6_3 =>
  q (pv Tryz.prog (Builtin.len_ #[81] 0 #[t6_3])) fun t7_4 =>
  q (Bin Tryz.prog H .quo 3 true t7_4 (Value.int IntKind.i64 16)) fun t8_5 =>
  Q t8_5 H
theorem A77_0 {fr : Fr} {H : Hp} {Q : RT1} (h : F77_0 (fr 0) H Q) : xCode Tryz.prog 9 (bodyOf Tryz.f77) (xRet Tryz.prog [.tmp 2] Q) fr H :=
  Eq.mp (by kernel_rfl) h
theorem E77 {t0 : Value} {H : Hp} {Q : RT1} (h : F77_0 t0 H Q) : NCalls Tryz.prog 77 #[t0] H Q :=
  NCalls.ofBody (by kernel_rfl) Tryz.func77 (by kernel_rfl) (by kernel_rfl) (Eq.mp (by kernel_rfl) (A77_0 (fr := fun i => (#[t0] : Array Value).getD i undef) (H := H) (Q := Q) (Eq.mp (by kernel_rfl) h)))
def F78_0 (t0 : Value) (H : Hp) (Q : RT1) : Prop :=
  q (Nz t0) fun t5_1 =>
  q (Fa 1 t5_1) fun t6_2 =>
  q (Ld H t6_2) fun t7_3 =>
  NCalls Tryz.prog 109 #[t7_3] H (fun t8_4 H_4 =>
  NCalls Tryz.prog 110 #[t8_4, (Value.func (.func 111) #[] #[])] H_4 (fun t10_5 H_5 =>
  Q t8_4 H_5))
theorem A78_0 {fr : Fr} {H : Hp} {Q : RT1} (h : F78_0 (fr 0) H Q) : xCode Tryz.prog 12 (bodyOf Tryz.f78) (xRet Tryz.prog [.tmp 2] Q) fr H :=
  Eq.mp (by kernel_rfl) h
theorem E78 {t0 : Value} {H : Hp} {Q : RT1} (h : F78_0 t0 H Q) : NCalls Tryz.prog 78 #[t0] H Q :=
  NCalls.ofBody (by kernel_rfl) Tryz.func78 (by kernel_rfl) (by kernel_rfl) (Eq.mp (by kernel_rfl) (A78_0 (fr := fun i => (#[t0] : Array Value).getD i undef) (H := H) (Q := Q) (Eq.mp (by kernel_rfl) h)))
def F79_0 (t0 t1 : Value) (H : Hp) (Q : RT1) : Prop :=
  NCalls Tryz.prog 86 #[t0, t1] H (fun t10_1 H_1 =>
  q (Ex 0 t10_1) fun t11_2 =>
  q (Ex 1 t10_1) fun t12_3 =>
  q (Bin Tryz.prog H_1 .geq 3 true t1 (Value.int IntKind.i64 0)) fun t14_4 =>
  q (gd t14_4 true (some t12_3)) fun t16_5 =>
  q (gd t14_4 true (Bin Tryz.prog H_1 .geq 3 true t16_5 (Value.int IntKind.i64 0))) fun t17_6 =>
  q (gd t14_4 true (some t17_6)) fun t18_7 =>
  q (gd t18_7 false (some t11_2)) fun t19_8 =>
  q (gd t18_7 false (Nz t19_8)) fun t20_9 =>
  q (gd t18_7 false (Ld H_1 t20_9)) fun t21_10 =>
  q (gd t18_7 false (pv Tryz.prog (Builtin.len_ #[153] 0 #[t21_10]))) fun t22_11 =>
  q (gd t18_7 false (some t0)) fun t23_12 =>
  q (gd t18_7 false (Nz t23_12)) fun t24_13 =>
  q (gd t18_7 false (Fa 0 t24_13)) fun t25_14 =>
  q (gd t18_7 false (Ld H_1 t25_14)) fun t26_15 =>
  q (gd t18_7 false (Bin Tryz.prog H_1 .lss 3 false t22_11 t26_15)) fun t27_16 =>
  q (gd t14_4 true (Pk t18_7 (Value.bool true) t27_16)) fun t28_17 =>
  q (Pk t14_4 t28_17 (Value.bool false)) fun t29_18 =>
  Q t29_18 H_1)
theorem A79_0 {fr : Fr} {H : Hp} {Q : RT1} (h : F79_0 (fr 0) (fr 1) H Q) : xCode Tryz.prog 30 (bodyOf Tryz.f79) (xRet Tryz.prog [.tmp 4] Q) fr H :=
  Eq.mp (by kernel_rfl) h
theorem E79 {t0 t1 : Value} {H : Hp} {Q : RT1} (h : F79_0 t0 t1 H Q) : NCalls Tryz.prog 79 #[t0, t1] H Q :=
  NCalls.ofBody (by kernel_rfl) Tryz.func79 (by kernel_rfl) (by kernel_rfl) (Eq.mp (by kernel_rfl) (A79_0 (fr := fun i => (#[t0, t1] : Array Value).getD i undef) (H := H) (Q := Q) (Eq.mp (by kernel_rfl) h)))
def F80_4 (t6 : Value) (H : Hp) (Q : RT1) : Prop :=
  q (pv Tryz.prog (Instr.build 123 #[])) fun t36_1 =>
  St 6 H t6 t36_1 ((fun u_2 H_2 =>
  q (LdA 6 H_2 t6) fun r_3 =>
  Q (Value.tuple #[r_3, (Value.bool false)]) H_2) undef)
def F80_8 (t2 t6 t23 t24 t25 : Value) (H : Hp) (R7 : RT5) (Q : RT1) : Prop :=
  q (Bin Tryz.prog H .lss 3 false t25 t24) fun t26_4 =>
  condV t26_4 (
    q (Ix 6 t23 t25) fun t27_5 =>
    q (LdA 6 H t27_5) fun t28_6 =>
    New #[Value.int IntKind.i64 0, Value.int IntKind.i64 0, Value.int IntKind.u32 0, Value.int IntKind.u32 0, Value.int IntKind.u32 0, Value.int IntKind.u32 0] 123 H (fun t11_7 H_7 =>
    St 6 H_7 t11_7 t28_6 ((fun u_8 H_8 =>
    q (Fa 0 t11_7) fun t30_9 =>
    q (Ld H_8 t30_9) fun t31_10 =>
    NCalls Tryz.prog 112 #[t2, t31_10] H_8 (fun t32_11 H_11 =>
    q (pv Tryz.prog (Op.unary .not t32_11)) fun t33_12 =>
    condV t33_12 (
      q (LdA 6 H_11 t11_7) fun t34_13 =>
      St 6 H_11 t6 t34_13 ((fun u_14 H_14 =>
      q (LdA 6 H_14 t6) fun r_15 =>
      Q (Value.tuple #[r_15, (Value.bool true)]) H_14) undef)) (
      q (Bin Tryz.prog H_11 .add 3 true t25 (Value.int IntKind.i64 1)) fun t35_16 =>
      R7 t2 t6 t23 t24 t35_16 H_11))) undef))) (
    F80_4 t6 H Q)
def F80_7 (t2 t6 t23 t24 t25 : Value) (H : Hp) (Q : RT1) : Prop :=
  ∃ (I : RT1) (μ : Value → Hp → Nat), I t25 H ∧ ∀ n25 H1, I n25 H1 → F80_8 t2 t6 t23 t24 n25 H1 (fun m2 m6 m23 m24 m25 H2 => m2 = t2 ∧ m6 = t6 ∧ m23 = t23 ∧ m24 = t24 ∧ (I m25 H2 ∧ μ m25 H2 < μ n25 H1)) Q
def F80_6 (t2 t6 t23 t24 t25 : Value) (H : Hp) (Q : RT1) : Prop := F80_7 t2 t6 t23 t24 t25 H Q
def F80_9 (t2 t6 t8 : Value) (H : Hp) (Q : RT1) : Prop :=
  q (Nz t8) fun t22_17 =>
  q (Ld H t22_17) fun t23_18 =>
  q (pv Tryz.prog (Builtin.len_ #[153] 0 #[t23_18])) fun t24_19 =>
  F80_6 t2 t6 t23_18 t24_19 (Value.int IntKind.i64 0) H Q
def F80_5 (t2 t6 t8 : Value) (H : Hp) (Q : RT1) : Prop := F80_9 t2 t6 t8 H Q
def F80_3 (t2 t6 t8 : Value) (H : Hp) (Q : RT1) : Prop := F80_5 t2 t6 t8 H Q
def F80_10 (t0 t1 t2 t6 : Value) (H : Hp) (Q : RT1) : Prop :=
  NCalls Tryz.prog 86 #[t0, t1] H (fun t18_20 H_20 =>
  q (Ex 0 t18_20) fun t19_21 =>
  q (Ex 1 t18_20) fun t20_22 =>
  F80_3 t2 t6 t19_21 H_20 Q)
def F80_2 (t0 t1 t2 t6 : Value) (H : Hp) (Q : RT1) : Prop := F80_10 t0 t1 t2 t6 H Q
def F80_11 (t0 t1 t2 t6 : Value) (H : Hp) (Q : RT1) : Prop :=
  q (Bin Tryz.prog H .lss 3 true t1 (Value.int IntKind.i64 0)) fun t13_23 =>
  condV t13_23 (
    q (pv Tryz.prog (Instr.build 123 #[])) fun t14_24 =>
    St 6 H t6 t14_24 ((fun u_25 H_25 =>
    q (LdA 6 H_25 t6) fun r_26 =>
    Q (Value.tuple #[r_26, (Value.bool false)]) H_25) undef)) (
    F80_2 t0 t1 t2 t6 H Q)
def F80_1 (t0 t1 t2 t6 : Value) (H : Hp) (Q : RT1) : Prop := F80_11 t0 t1 t2 t6 H Q
def F80_12 (t0 t1 t2 : Value) (H : Hp) (Q : RT1) : Prop :=
  New #[Value.int IntKind.i64 0, Value.int IntKind.i64 0, Value.int IntKind.u32 0, Value.int IntKind.u32 0, Value.int IntKind.u32 0, Value.int IntKind.u32 0] 123 H (fun t6_27 H_27 =>
  F80_1 t0 t1 t2 t6_27 H_27 Q)
def F80_0 (t0 t1 t2 : Value) (H : Hp) (Q : RT1) : Prop := F80_12 t0 t1 t2 H Q
theorem A80_4 {fr : Fr} {H : Hp} {Q : RT1} (h : F80_4 (fr 6) H Q) : xCode Tryz.prog 37 (Code.r (Code.r (Code.r (Code.r (bodyOf Tryz.f80))))) (xRet Tryz.prog [.cell 6 123, .tmp 7] Q) fr H :=
  Eq.mp (by kernel_rfl) h
abbrev K80_7 (Q : RT1) : QT := thenK (fun fr H => F80_4 (fr 6) H Q) (xRet Tryz.prog [.cell 6 123, .tmp 7] Q)
theorem A80_8 {fr : Fr} {H : Hp} {R7 : RT5} {Q : RT1} (h : F80_8 (fr 2) (fr 6) (fr 23) (fr 24) (fr 25) H R7 Q) : xCode Tryz.prog 37 (Code.l (Code.l (Code.r (Code.l (Code.r (Code.r (Code.r (bodyOf Tryz.f80)))))))) (thenK (fun fr H => R7 (fr 2) (fr 6) (fr 23) (fr 24) (fr 25) H) (blockK 0 (K80_7 Q))) fr H :=
  Eq.mp (by kernel_rfl) h
theorem A80_7 {fr : Fr} {H : Hp} {Q : RT1} (h : F80_7 (fr 2) (fr 6) (fr 23) (fr 24) (fr 25) H Q) : xCode Tryz.prog 37 (Code.l (Code.r (Code.l (Code.r (Code.r (Code.r (bodyOf Tryz.f80))))))) (blockK 0 (K80_7 Q)) fr H := by
  obtain ⟨I, μ, h0, hr⟩ := h
  refine loop_cut (a := (Code.l (Code.l (Code.r (Code.l (Code.r (Code.r (Code.r (bodyOf Tryz.f80))))))))) (by kernel_rfl) (fun fr1 H1 => fr1 2 = fr 2 ∧ fr1 6 = fr 6 ∧ fr1 23 = fr 23 ∧ fr1 24 = fr 24 ∧ I (fr1 25) H1) (fun fr1 H1 => μ (fr1 25) H1) (by exact ⟨rfl, rfl, rfl, rfl, h0⟩) ?_
  intro fr1 H1 hI
  obtain ⟨hu2, hu6, hu23, hu24, hI⟩ := hI
  have hb := hr (fr1 25) H1 hI
  rw [← hu2] at hb; rw [← hu6] at hb; rw [← hu23] at hb; rw [← hu24] at hb
  refine ⟨_, ?_, A80_8 hb⟩
  intro fr2 H2 hj
  obtain ⟨ku2, ku6, ku23, ku24, hI2, hlt⟩ := hj
  exact ⟨⟨(ku2.trans hu2), (ku6.trans hu6), (ku23.trans hu23), (ku24.trans hu24), hI2⟩, hlt⟩
theorem A80_6 {fr : Fr} {H : Hp} {Q : RT1} (h : F80_6 (fr 2) (fr 6) (fr 23) (fr 24) (fr 25) H Q) : xCode Tryz.prog 37 (Code.r (Code.l (Code.r (Code.r (Code.r (bodyOf Tryz.f80)))))) (K80_7 Q) fr H :=
  block_cut (by kernel_rfl) (A80_7 h)
theorem A80_9 {fr : Fr} {H : Hp} {Q : RT1} (h : F80_9 (fr 2) (fr 6) (fr 8) H Q) : xCode Tryz.prog 37 (Code.l (Code.l (Code.r (Code.r (Code.r (bodyOf Tryz.f80)))))) (thenK (fun fr H => F80_6 (fr 2) (fr 6) (fr 23) (fr 24) (fr 25) H Q) (K80_7 Q)) fr H :=
  Eq.mp (by kernel_rfl) h
theorem A80_5 {fr : Fr} {H : Hp} {Q : RT1} (h : F80_5 (fr 2) (fr 6) (fr 8) H Q) : xCode Tryz.prog 37 (Code.l (Code.r (Code.r (Code.r (bodyOf Tryz.f80))))) (K80_7 Q) fr H :=
  seq_cut (by kernel_rfl) (fun _ _ h => A80_6 h) (A80_9 h)
theorem A80_3 {fr : Fr} {H : Hp} {Q : RT1} (h : F80_3 (fr 2) (fr 6) (fr 8) H Q) : xCode Tryz.prog 37 (Code.r (Code.r (Code.r (bodyOf Tryz.f80)))) (xRet Tryz.prog [.cell 6 123, .tmp 7] Q) fr H :=
  seq_cut (by kernel_rfl) (fun _ _ h => A80_4 h) (A80_5 h)
theorem A80_10 {fr : Fr} {H : Hp} {Q : RT1} (h : F80_10 (fr 0) (fr 1) (fr 2) (fr 6) H Q) : xCode Tryz.prog 37 (Code.l (Code.r (Code.r (bodyOf Tryz.f80)))) (thenK (fun fr H => F80_3 (fr 2) (fr 6) (fr 8) H Q) (xRet Tryz.prog [.cell 6 123, .tmp 7] Q)) fr H :=
  Eq.mp (by kernel_rfl) h
theorem A80_2 {fr : Fr} {H : Hp} {Q : RT1} (h : F80_2 (fr 0) (fr 1) (fr 2) (fr 6) H Q) : xCode Tryz.prog 37 (Code.r (Code.r (bodyOf Tryz.f80))) (xRet Tryz.prog [.cell 6 123, .tmp 7] Q) fr H :=
  seq_cut (by kernel_rfl) (fun _ _ h => A80_3 h) (A80_10 h)
theorem A80_11 {fr : Fr} {H : Hp} {Q : RT1} (h : F80_11 (fr 0) (fr 1) (fr 2) (fr 6) H Q) : xCode Tryz.prog 37 (Code.l (Code.r (bodyOf Tryz.f80))) (thenK (fun fr H => F80_2 (fr 0) (fr 1) (fr 2) (fr 6) H Q) (xRet Tryz.prog [.cell 6 123, .tmp 7] Q)) fr H :=
  Eq.mp (by kernel_rfl) h
theorem A80_1 {fr : Fr} {H : Hp} {Q : RT1} (h : F80_1 (fr 0) (fr 1) (fr 2) (fr 6) H Q) : xCode Tryz.prog 37 (Code.r (bodyOf Tryz.f80)) (xRet Tryz.prog [.cell 6 123, .tmp 7] Q) fr H :=
  seq_cut (by kernel_rfl) (fun _ _ h => A80_2 h) (A80_11 h)
theorem A80_12 {fr : Fr} {H : Hp} {Q : RT1} (h : F80_12 (fr 0) (fr 1) (fr 2) H Q) : xCode Tryz.prog 37 (Code.l (bodyOf Tryz.f80)) (thenK (fun fr H => F80_1 (fr 0) (fr 1) (fr 2) (fr 6) H Q) (xRet Tryz.prog [.cell 6 123, .tmp 7] Q)) fr H :=
  Eq.mp (by kernel_rfl) h
theorem A80_0 {fr : Fr} {H : Hp} {Q : RT1} (h : F80_0 (fr 0) (fr 1) (fr 2) H Q) : xCode Tryz.prog 37 (bodyOf Tryz.f80) (xRet Tryz.prog [.cell 6 123, .tmp 7] Q) fr H :=
  seq_cut (by kernel_rfl) (fun _ _ h => A80_1 h) (A80_12 h)
theorem E80 {t0 t1 t2 : Value} {H : Hp} {Q : RT1} (h : F80_0 t0 t1 t2 H Q) : NCalls Tryz.prog 80 #[t0, t1, t2] H Q :=
  NCalls.ofBody (by kernel_rfl) Tryz.func80 (by kernel_rfl) (by kernel_rfl) (Eq.mp (by kernel_rfl) (A80_0 (fr := fun i => (#[t0, t1, t2] : Array Value).getD i undef) (H := H) (Q := Q) (Eq.mp (by kernel_rfl) h)))
def F81_0 (t0 : Value) (H : Hp) (Q : RT1) : Prop :=
  q (Nz t0) fun t6_1 =>
  q (Fa 7 t6_1) fun t7_2 =>
  q (Ld H t7_2) fun t8_3 =>
  q (Bin Tryz.prog H .neq 3 true t8_3 (Value.int IntKind.i64 0)) fun t9_4 =>
  q (gd t9_4 false (some t0)) fun t11_5 =>
  q (gd t9_4 false (Nz t11_5)) fun t12_6 =>
  q (gd t9_4 false (Fa 2 t12_6)) fun t13_7 =>
  q (gd t9_4 false (Ld H t13_7)) fun t14_8 =>
  q (gd t9_4 false (Bin Tryz.prog H .eql 3 true t14_8 (Value.int IntKind.i64 0))) fun t15_9 =>
  q (Pk t9_4 (Value.bool true) t15_9) fun t16_10 =>
  condV t16_10 (
    Q (Value.tuple #[(Value.slice none 0 0), (Value.bool false)]) H) (
    q (Nz t0) fun t18_11 =>
    q (Fa 2 t18_11) fun t19_12 =>
    q (Ld H t19_12) fun t20_13 =>
    q (Nz t0) fun t22_14 =>
    q (Fa 2 t22_14) fun t23_15 =>
    St 1 H t23_15 (Value.int IntKind.i64 0) ((fun u_16 H_16 =>
    q (Bin Tryz.prog H_16 .eql 3 true t20_13 (Value.int IntKind.i64 1)) fun t25_17 =>
    condV t25_17 (
      Q (Value.tuple #[(Value.slice none 0 0), (Value.bool true)]) H_16) (
      q (Nz t0) fun t29_18 =>
      q (Fa 7 t29_18) fun t30_19 =>
      St 1 H_16 t30_19 (Value.int IntKind.i64 3) ((fun u_20 H_20 =>
      q (Nz t0) fun t31_21 =>
      q (Fa 8 t31_21) fun t32_22 =>
      St 1 H_20 t32_22 t20_13 ((fun u_23 H_23 =>
      NCalls Tryz.prog 113 #[t0, (Value.int IntKind.i64 3), t20_13] H_23 (fun t35_24 H_24 =>
      Bsl #[Value.int IntKind.i64 0, Value.int IntKind.i64 0, Value.int IntKind.i64 0, Value.int IntKind.i64 0, Value.int IntKind.u32 0, Value.int IntKind.u32 0, Value.int IntKind.u32 0, Value.int IntKind.u32 0, Value.bool false, Value.bool false, Value.bool false] 11 66 1 [(0, t35_24)] H_24 (fun t36_25 H_25 =>
      Q (Value.tuple #[t36_25, (Value.bool true)]) H_25))) undef)) undef))) undef))
theorem A81_0 {fr : Fr} {H : Hp} {Q : RT1} (h : F81_0 (fr 0) H Q) : xCode Tryz.prog 37 (bodyOf Tryz.f81) (xRet Tryz.prog [.tmp 2, .tmp 3] Q) fr H :=
  Eq.mp (by kernel_rfl) h
theorem E81 {t0 : Value} {H : Hp} {Q : RT1} (h : F81_0 t0 H Q) : NCalls Tryz.prog 81 #[t0] H Q :=
  NCalls.ofBody (by kernel_rfl) Tryz.func81 (by kernel_rfl) (by kernel_rfl) (Eq.mp (by kernel_rfl) (A81_0 (fr := fun i => (#[t0] : Array Value).getD i undef) (H := H) (Q := Q) (Eq.mp (by kernel_rfl) h)))
def F82_0 (t0 t1 : Value) (H : Hp) (Q : RT1) : Prop :=
  NCalls Tryz.prog 86 #[t0, t1] H (fun t10_1 H_1 =>
  q (Ex 0 t10_1) fun t11_2 =>
  q (Ex 1 t10_1) fun t12_3 =>
  q (Bin Tryz.prog H_1 .lss 3 true t12_3 (Value.int IntKind.i64 0)) fun t14_4 =>
  condV t14_4 (
    Q (Value.bool false) H_1) (
    q (Nz t11_2) fun t17_5 =>
    q (Ld H_1 t17_5) fun t18_6 =>
    q (Sl 6 t18_6 none (some t12_3) none) fun t20_7 =>
    q (Nz t11_2) fun t22_8 =>
    q (Ld H_1 t22_8) fun t23_9 =>
    q (Bin Tryz.prog H_1 .add 3 true t12_3 (Value.int IntKind.i64 1)) fun t25_10 =>
    q (Sl 6 t23_9 (some t25_10) none none) fun t26_11 =>
    Bsl #[Value.slice none 0 0] 1 153 2 [(0, t20_7), (1, t26_11)] H_1 (fun t27_12 H_12 =>
    NCalls Tryz.prog 109 #[t27_12] H_12 (fun t28_13 H_13 =>
    q (Nz t11_2) fun t29_14 =>
    St 1 H_13 t29_14 t28_13 ((fun u_15 H_15 =>
    Q (Value.bool true) H_15) undef)))))
theorem A82_0 {fr : Fr} {H : Hp} {Q : RT1} (h : F82_0 (fr 0) (fr 1) H Q) : xCode Tryz.prog 30 (bodyOf Tryz.f82) (xRet Tryz.prog [.tmp 4] Q) fr H :=
  Eq.mp (by kernel_rfl) h
theorem E82 {t0 t1 : Value} {H : Hp} {Q : RT1} (h : F82_0 t0 t1 H Q) : NCalls Tryz.prog 82 #[t0, t1] H Q :=
  NCalls.ofBody (by kernel_rfl) Tryz.func82 (by kernel_rfl) (by kernel_rfl) (Eq.mp (by kernel_rfl) (A82_0 (fr := fun i => (#[t0, t1] : Array Value).getD i undef) (H := H) (Q := Q) (Eq.mp (by kernel_rfl) h)))
def F83_0 (t0 t1 : Value) (H : Hp) (Q : RT1) : Prop :=
  q (Nz t0) fun t8_1 =>
  q (Fa 2 t8_1) fun t9_2 =>
  q (Ld H t9_2) fun t10_3 =>
  NCalls Tryz.prog 114 #[t10_3, t1] H (fun t12_4 H_4 =>
  q (Ex 0 t12_4) fun t13_5 =>
  q (Ex 1 t12_4) fun t14_6 =>
  q (pv Tryz.prog (Op.unary .not t14_6)) fun t16_7 =>
  condV t16_7 (
    q (Nz t0) fun t19_8 =>
    q (Fa 2 t19_8) fun t20_9 =>
    q (Ld H_4 t20_9) fun t21_10 =>
    Bsl #[Value.int IntKind.i64 0] 1 3 1 [(0, t1)] H_4 (fun t24_11 H_11 =>
    NCalls Tryz.prog 115 #[t21_10, t13_5, t24_11] H_11 (fun t25_12 H_12 =>
    q (Nz t0) fun t26_13 =>
    q (Fa 2 t26_13) fun t27_14 =>
    St 1 H_12 t27_14 t25_12 ((fun u_15 H_15 =>
    Q (Value.tuple #[]) H_15) undef)))) (
    Q (Value.tuple #[]) H_4))
theorem A83_0 {fr : Fr} {H : Hp} {Q : RT1} (h : F83_0 (fr 0) (fr 1) H Q) : xCode Tryz.prog 28 (bodyOf Tryz.f83) (xRet Tryz.prog [] Q) fr H :=
  Eq.mp (by kernel_rfl) h
theorem E83 {t0 t1 : Value} {H : Hp} {Q : RT1} (h : F83_0 t0 t1 H Q) : NCalls Tryz.prog 83 #[t0, t1] H Q :=
  NCalls.ofBody (by kernel_rfl) Tryz.func83 (by kernel_rfl) (by kernel_rfl) (Eq.mp (by kernel_rfl) (A83_0 (fr := fun i => (#[t0, t1] : Array Value).getD i undef) (H := H) (Q := Q) (Eq.mp (by kernel_rfl) h)))
def F84_0 (t0 t1 : Value) (H : Hp) (Q : RT1) : Prop :=
  q (pv Tryz.prog (Instr.build 152 #[(0, t0), (1, t1)])) fun t7_1 =>
  New (Value.cells t7_1) 152 H (fun t8_2 H_2 =>
  Q t8_2 H_2)
theorem A84_0 {fr : Fr} {H : Hp} {Q : RT1} (h : F84_0 (fr 0) (fr 1) H Q) : xCode Tryz.prog 9 (bodyOf Tryz.f84) (xRet Tryz.prog [.tmp 4] Q) fr H :=
  Eq.mp (by kernel_rfl) h
theorem E84 {t0 t1 : Value} {H : Hp} {Q : RT1} (h : F84_0 t0 t1 H Q) : NCalls Tryz.prog 84 #[t0, t1] H Q :=
  NCalls.ofBody (by kernel_rfl) Tryz.func84 (by kernel_rfl) (by kernel_rfl) (Eq.mp (by kernel_rfl) (A84_0 (fr := fun i => (#[t0, t1] : Array Value).getD i undef) (H := H) (Q := Q) (Eq.mp (by kernel_rfl) h)))
def F85_0 (t0 t1 : Value) (H : Hp) (Q : RT1) : Prop :=
  New #[Value.int IntKind.i64 0, Value.int IntKind.i64 0, Value.int IntKind.i64 0, Value.int IntKind.i64 0, Value.int IntKind.u32 0, Value.int IntKind.u32 0, Value.int IntKind.u32 0, Value.int IntKind.u32 0, Value.bool false, Value.bool false, Value.bool false] 66 H (fun t4_1 H_1 =>
  q (Nz t0) fun t7_2 =>
  q (Fa 0 t7_2) fun t8_3 =>
  q (Ld H_1 t8_3) fun t9_4 =>
  q (Nz t0) fun t11_5 =>
  q (Fa 1 t11_5) fun t12_6 =>
  q (Ld H_1 t12_6) fun t13_7 =>
  q (pv Tryz.prog (Instr.build 66 #[(0, t1), (1, t9_4), (2, t13_7), (3, (Value.int IntKind.i64 (-1)))])) fun t14_8 =>
  St 11 H_1 t4_1 t14_8 ((fun u_9 H_9 =>
  q (LdA 11 H_9 t4_1) fun r_10 =>
  Q r_10 H_9) undef))
theorem A85_0 {fr : Fr} {H : Hp} {Q : RT1} (h : F85_0 (fr 0) (fr 1) H Q) : xCode Tryz.prog 15 (bodyOf Tryz.f85) (xRet Tryz.prog [.cell 4 66] Q) fr H :=
  Eq.mp (by kernel_rfl) h
theorem E85 {t0 t1 : Value} {H : Hp} {Q : RT1} (h : F85_0 t0 t1 H Q) : NCalls Tryz.prog 85 #[t0, t1] H Q :=
  NCalls.ofBody (by kernel_rfl) Tryz.func85 (by kernel_rfl) (by kernel_rfl) (Eq.mp (by kernel_rfl) (A85_0 (fr := fun i => (#[t0, t1] : Array Value).getD i undef) (H := H) (Q := Q) (Eq.mp (by kernel_rfl) h)))
def F86_0 (t0 t1 : Value) (H : Hp) (Q : RT1) : Prop :=
  New (Value.cells t1) 3 H (fun t3_1 H_1 =>
  q (Ld H_1 t3_1) fun t7_2 =>
  q (Bin Tryz.prog H_1 .lss 3 true t7_2 (Value.int IntKind.i64 0)) fun t8_3 =>
  condV t8_3 (
    q (Nz t0) fun t10_4 =>
    q (Fa 1 t10_4) fun t11_5 =>
    q (Ld H_1 t11_5) fun t12_6 =>
    q (Ix 1 t12_6 (Value.int IntKind.i64 0)) fun t13_7 =>
    Q (Value.tuple #[t13_7, (Value.int IntKind.i64 (-1))]) H_1) (
    q (Nz t0) fun t15_8 =>
    q (Fa 1 t15_8) fun t16_9 =>
    q (Ld H_1 t16_9) fun t17_10 =>
    q (Ld H_1 t3_1) fun t18_11 =>
    q (Nz t0) fun t20_12 =>
    q (Fa 1 t20_12) fun t21_13 =>
    q (Ld H_1 t21_13) fun t22_14 =>
    q (pv Tryz.prog (Builtin.len_ #[141] 0 #[t22_14])) fun t23_15 =>
    q (Bin Tryz.prog H_1 .rem 3 false t18_11 t23_15) fun t24_16 =>
    q (Ix 1 t17_10 t24_16) fun t25_17 =>
    q (Nz t25_17) fun t28_18 =>
    q (Ld H_1 t28_18) fun t29_19 =>
    NCalls Tryz.prog 116 #[t29_19, (Value.func (Fn.func 117) #[] #[t3_1])] H_1 (fun t31_20 H_20 =>
    Q (Value.tuple #[t25_17, t31_20]) H_20)))
theorem A86_0 {fr : Fr} {H : Hp} {Q : RT1} (h : F86_0 (fr 0) (fr 1) H Q) : xCode Tryz.prog 32 (bodyOf Tryz.f86) (xRet Tryz.prog [.tmp 4, .tmp 5] Q) fr H :=
  Eq.mp (by kernel_rfl) h
theorem E86 {t0 t1 : Value} {H : Hp} {Q : RT1} (h : F86_0 t0 t1 H Q) : NCalls Tryz.prog 86 #[t0, t1] H Q :=
  NCalls.ofBody (by kernel_rfl) Tryz.func86 (by kernel_rfl) (by kernel_rfl) (Eq.mp (by kernel_rfl) (A86_0 (fr := fun i => (#[t0, t1] : Array Value).getD i undef) (H := H) (Q := Q) (Eq.mp (by kernel_rfl) h)))
def F87_3 (t0 t5 t6 : Value) (H : Hp) (Q : RT1) : Prop :=
  q (LdA 6 H t5) fun t20_1 =>
  Bsl #[Value.int IntKind.i64 0, Value.int IntKind.i64 0, Value.int IntKind.u32 0, Value.int IntKind.u32 0, Value.int IntKind.u32 0, Value.int IntKind.u32 0] 6 123 1 [(0, t20_1)] H (fun t21_2 H_2 =>
  dm Tryz.prog (Builtin.append_ #[153, 153] 0 #[t6, t21_2]) H_2 (fun t22_3 H_3 =>
  q (Nz t0) fun t23_4 =>
  St 1 H_3 t23_4 t22_3 ((fun u_5 H_5 =>
  Q (Value.tuple #[]) H_5) undef)))
def F87_4 (t0 t1 t5 t6 : Value) (H : Hp) (Q : RT1) : Prop :=
  q (Bin Tryz.prog H .geq 3 true t1 (Value.int IntKind.i64 0)) fun t12_6 =>
  condV t12_6 (
    q (Bin Tryz.prog H .add 3 true t1 (Value.int IntKind.i64 1)) fun t16_7 =>
    NCalls Tryz.prog 119 #[t6, t1, t16_7] H (fun t17_8 H_8 =>
    F87_3 t0 t5 t17_8 H_8 Q)) (
    F87_3 t0 t5 t6 H Q)
def F87_2 (t0 t1 t5 t6 : Value) (H : Hp) (Q : RT1) : Prop := F87_4 t0 t1 t5 t6 H Q
def F87_5 (t0 t1 t5 : Value) (H : Hp) (Q : RT1) : Prop :=
  q (Nz t0) fun t8_9 =>
  q (Ld H t8_9) fun t9_10 =>
  NCalls Tryz.prog 118 #[t9_10] H (fun t10_11 H_11 =>
  F87_2 t0 t1 t5 t10_11 H_11 Q)
def F87_1 (t0 t1 t5 : Value) (H : Hp) (Q : RT1) : Prop := F87_5 t0 t1 t5 H Q
def F87_6 (t0 t1 t2 : Value) (H : Hp) (Q : RT1) : Prop :=
  New (Value.cells t2) 123 H (fun t5_12 H_12 =>
  F87_1 t0 t1 t5_12 H_12 Q)
def F87_0 (t0 t1 t2 : Value) (H : Hp) (Q : RT1) : Prop := F87_6 t0 t1 t2 H Q
theorem A87_3 {fr : Fr} {H : Hp} {Q : RT1} (h : F87_3 (fr 0) (fr 5) (fr 6) H Q) : xCode Tryz.prog 24 (Code.r (Code.r (Code.r (bodyOf Tryz.f87)))) (xRet Tryz.prog [] Q) fr H :=
  Eq.mp (by kernel_rfl) h
theorem A87_4 {fr : Fr} {H : Hp} {Q : RT1} (h : F87_4 (fr 0) (fr 1) (fr 5) (fr 6) H Q) : xCode Tryz.prog 24 (Code.l (Code.r (Code.r (bodyOf Tryz.f87)))) (thenK (fun fr H => F87_3 (fr 0) (fr 5) (fr 6) H Q) (xRet Tryz.prog [] Q)) fr H :=
  Eq.mp (by kernel_rfl) h
theorem A87_2 {fr : Fr} {H : Hp} {Q : RT1} (h : F87_2 (fr 0) (fr 1) (fr 5) (fr 6) H Q) : xCode Tryz.prog 24 (Code.r (Code.r (bodyOf Tryz.f87))) (xRet Tryz.prog [] Q) fr H :=
  seq_cut (by kernel_rfl) (fun _ _ h => A87_3 h) (A87_4 h)
theorem A87_5 {fr : Fr} {H : Hp} {Q : RT1} (h : F87_5 (fr 0) (fr 1) (fr 5) H Q) : xCode Tryz.prog 24 (Code.l (Code.r (bodyOf Tryz.f87))) (thenK (fun fr H => F87_2 (fr 0) (fr 1) (fr 5) (fr 6) H Q) (xRet Tryz.prog [] Q)) fr H :=
  Eq.mp (by kernel_rfl) h
theorem A87_1 {fr : Fr} {H : Hp} {Q : RT1} (h : F87_1 (fr 0) (fr 1) (fr 5) H Q) : xCode Tryz.prog 24 (Code.r (bodyOf Tryz.f87)) (xRet Tryz.prog [] Q) fr H :=
  seq_cut (by kernel_rfl) (fun _ _ h => A87_2 h) (A87_5 h)
theorem A87_6 {fr : Fr} {H : Hp} {Q : RT1} (h : F87_6 (fr 0) (fr 1) (fr 2) H Q) : xCode Tryz.prog 24 (Code.l (bodyOf Tryz.f87)) (thenK (fun fr H => F87_1 (fr 0) (fr 1) (fr 5) H Q) (xRet Tryz.prog [] Q)) fr H :=
  Eq.mp (by kernel_rfl) h
theorem A87_0 {fr : Fr} {H : Hp} {Q : RT1} (h : F87_0 (fr 0) (fr 1) (fr 2) H Q) : xCode Tryz.prog 24 (bodyOf Tryz.f87) (xRet Tryz.prog [] Q) fr H :=
  seq_cut (by kernel_rfl) (fun _ _ h => A87_1 h) (A87_6 h)
theorem E87 {t0 t1 t2 : Value} {H : Hp} {Q : RT1} (h : F87_0 t0 t1 t2 H Q) : NCalls Tryz.prog 87 #[t0, t1, t2] H Q :=
  NCalls.ofBody (by kernel_rfl) Tryz.func87 (by kernel_rfl) (by kernel_rfl) (Eq.mp (by kernel_rfl) (A87_0 (fr := fun i => (#[t0, t1, t2] : Array Value).getD i undef) (H := H) (Q := Q) (Eq.mp (by kernel_rfl) h)))
def F88_0 (t0 : Value) (H : Hp) (Q : RT1) : Prop :=
  q (Bin Tryz.prog H .eql 38 true t0 (Value.slice none 0 0)) fun t4_1 =>
  condV t4_1 (
    Q (Value.slice none 0 0) H) (
    Bsl #[Value.int IntKind.i64 0, Value.int IntKind.i64 0, Value.int IntKind.i64 0, Value.int IntKind.i64 0, Value.int IntKind.i64 0, Value.int IntKind.u32 0, Value.int IntKind.u32 0, Value.int IntKind.u32 0, Value.int IntKind.u32 0, Value.bool false, Value.bool false, Value.bool false] 12 68 0 [] H (fun t5_2 H_2 =>
    dm Tryz.prog (Builtin.append_ #[38, 38] 0 #[t5_2, t0]) H_2 (fun t7_3 H_3 =>
    Q t7_3 H_3)))
theorem A88_0 {fr : Fr} {H : Hp} {Q : RT1} (h : F88_0 (fr 0) H Q) : xCode Tryz.prog 8 (bodyOf Tryz.f88) (xRet Tryz.prog [.tmp 2] Q) fr H :=
  Eq.mp (by kernel_rfl) h
theorem E88 {t0 : Value} {H : Hp} {Q : RT1} (h : F88_0 t0 H Q) : NCalls Tryz.prog 88 #[t0] H Q :=
  NCalls.ofBody (by kernel_rfl) Tryz.func88 (by kernel_rfl) (by kernel_rfl) (Eq.mp (by kernel_rfl) (A88_0 (fr := fun i => (#[t0] : Array Value).getD i undef) (H := H) (Q := Q) (Eq.mp (by kernel_rfl) h)))
def F89_2 (H : Hp) (Q : RT1) : Prop :=
  Q (Value.int IntKind.i64 (-1)) H
def F89_7 (H : Hp) (Q : RT1) : Prop :=
  Q (Value.int IntKind.i64 0) H
def F89_10 (H : Hp) (Q : RT1) : Prop :=
  Q (Value.int IntKind.i64 1) H
def F89_12 (t15 : Value) (H : Hp) (Q : RT1) : Prop :=
  condV t15 (
    Q (Value.int IntKind.i64 2) H) (
    F89_2 H Q)
def F89_13 (t3 : Value) (H : Hp) (Q : RT1) : Prop :=
  q (Bin Tryz.prog H .eql 3 true t3 (Value.int IntKind.i64 10)) fun t16_1 =>
  condV t16_1 (
    F89_12 t16_1 H Q) (
    q (Bin Tryz.prog H .eql 3 true t3 (Value.int IntKind.i64 11)) fun t17_2 =>
    condV t17_2 (
      F89_12 t17_2 H Q) (
      q (Bin Tryz.prog H .eql 3 true t3 (Value.int IntKind.i64 12)) fun t18_3 =>
      F89_12 t18_3 H Q))
def F89_11 (t3 : Value) (H : Hp) (Q : RT1) : Prop := F89_13 t3 H Q
def F89_9 (t3 t8 : Value) (H : Hp) (Q : RT1) : Prop := condV t8 (F89_10 H Q) (F89_11 t3 H Q)
def F89_14 (t3 : Value) (H : Hp) (Q : RT1) : Prop :=
  q (Bin Tryz.prog H .eql 3 true t3 (Value.int IntKind.i64 4)) fun t9_4 =>
  condV t9_4 (
    F89_9 t3 t9_4 H Q) (
    q (Bin Tryz.prog H .eql 3 true t3 (Value.int IntKind.i64 5)) fun t10_5 =>
    condV t10_5 (
      F89_9 t3 t10_5 H Q) (
      q (Bin Tryz.prog H .eql 3 true t3 (Value.int IntKind.i64 6)) fun t11_6 =>
      condV t11_6 (
        F89_9 t3 t11_6 H Q) (
        q (Bin Tryz.prog H .eql 3 true t3 (Value.int IntKind.i64 7)) fun t12_7 =>
        condV t12_7 (
          F89_9 t3 t12_7 H Q) (
          q (Bin Tryz.prog H .eql 3 true t3 (Value.int IntKind.i64 8)) fun t13_8 =>
          condV t13_8 (
            F89_9 t3 t13_8 H Q) (
            q (Bin Tryz.prog H .eql 3 true t3 (Value.int IntKind.i64 9)) fun t14_9 =>
            F89_9 t3 t14_9 H Q)))))
def F89_8 (t3 : Value) (H : Hp) (Q : RT1) : Prop := F89_14 t3 H Q
def F89_6 (t3 t4 : Value) (H : Hp) (Q : RT1) : Prop := condV t4 (F89_7 H Q) (F89_8 t3 H Q)
def F89_15 (t3 : Value) (H : Hp) (Q : RT1) : Prop :=
  q (Bin Tryz.prog H .eql 3 true t3 (Value.int IntKind.i64 1)) fun t5_10 =>
  condV t5_10 (
    F89_6 t3 t5_10 H Q) (
    q (Bin Tryz.prog H .eql 3 true t3 (Value.int IntKind.i64 2)) fun t6_11 =>
    condV t6_11 (
      F89_6 t3 t6_11 H Q) (
      q (Bin Tryz.prog H .eql 3 true t3 (Value.int IntKind.i64 3)) fun t7_12 =>
      F89_6 t3 t7_12 H Q))
def F89_5 (t3 : Value) (H : Hp) (Q : RT1) : Prop := F89_15 t3 H Q
def F89_4 (t3 : Value) (H : Hp) (Q : RT1) : Prop := F89_5 t3 H Q
def F89_16 (t0 : Value) (H : Hp) (Q : RT1) : Prop :=
  F89_4 t0 H Q
def F89_3 (t0 : Value) (H : Hp) (Q : RT1) : Prop := F89_16 t0 H Q
def F89_1 (t0 : Value) (H : Hp) (Q : RT1) : Prop := F89_3 t0 H Q
def F89_17 (t0 : Value) (H : Hp) (Q : RT1) : Prop :=
  F89_1 t0 H Q
def F89_0 (t0 : Value) (H : Hp) (Q : RT1) : Prop := F89_17 t0 H Q
theorem A89_2 {fr : Fr} {H : Hp} {Q : RT1} (h : F89_2 H Q) : xCode Tryz.prog 19 (Code.r (Code.r (bodyOf Tryz.f89))) (xRet Tryz.prog [.tmp 2] Q) fr H :=
  Eq.mp (by kernel_rfl) h
abbrev K89_8 (Q : RT1) : QT := thenK (fun fr H => F89_2 H Q) (xRet Tryz.prog [.tmp 2] Q)
theorem A89_7 {fr : Fr} {H : Hp} {Q : RT1} (h : F89_7 H Q) : xCode Tryz.prog 19 (Code.l (Code.r (Code.l (Code.r (Code.l (Code.r (bodyOf Tryz.f89))))))) (blockK 0 (K89_8 Q)) fr H :=
  Eq.mp (by kernel_rfl) h
theorem A89_10 {fr : Fr} {H : Hp} {Q : RT1} (h : F89_10 H Q) : xCode Tryz.prog 19 (Code.l (Code.r (Code.r (Code.r (Code.l (Code.r (Code.l (Code.r (bodyOf Tryz.f89))))))))) (blockK 0 (K89_8 Q)) fr H :=
  Eq.mp (by kernel_rfl) h
theorem A89_12 {fr : Fr} {H : Hp} {Q : RT1} (h : F89_12 (fr 15) H Q) : xCode Tryz.prog 19 (Code.r (Code.r (Code.r (Code.r (Code.r (Code.l (Code.r (Code.l (Code.r (bodyOf Tryz.f89)))))))))) (blockK 0 (K89_8 Q)) fr H :=
  Eq.mp (by kernel_rfl) h
theorem A89_13 {fr : Fr} {H : Hp} {Q : RT1} (h : F89_13 (fr 3) H Q) : xCode Tryz.prog 19 (Code.l (Code.r (Code.r (Code.r (Code.r (Code.l (Code.r (Code.l (Code.r (bodyOf Tryz.f89)))))))))) (thenK (fun fr H => F89_12 (fr 15) H Q) (blockK 0 (K89_8 Q))) fr H :=
  Eq.mp (by kernel_rfl) h
theorem A89_11 {fr : Fr} {H : Hp} {Q : RT1} (h : F89_11 (fr 3) H Q) : xCode Tryz.prog 19 (Code.r (Code.r (Code.r (Code.r (Code.l (Code.r (Code.l (Code.r (bodyOf Tryz.f89))))))))) (blockK 0 (K89_8 Q)) fr H :=
  seq_cut (by kernel_rfl) (fun _ _ h => A89_12 h) (A89_13 h)
theorem A89_9 {fr : Fr} {H : Hp} {Q : RT1} (h : F89_9 (fr 3) (fr 8) H Q) : xCode Tryz.prog 19 (Code.r (Code.r (Code.r (Code.l (Code.r (Code.l (Code.r (bodyOf Tryz.f89)))))))) (blockK 0 (K89_8 Q)) fr H :=
  cond_cut (x := (Go.Operand.tmp 8)) (by kernel_rfl) (fun h => A89_10 h) (fun h => A89_11 h) h
theorem A89_14 {fr : Fr} {H : Hp} {Q : RT1} (h : F89_14 (fr 3) H Q) : xCode Tryz.prog 19 (Code.l (Code.r (Code.r (Code.l (Code.r (Code.l (Code.r (bodyOf Tryz.f89)))))))) (thenK (fun fr H => F89_9 (fr 3) (fr 8) H Q) (blockK 0 (K89_8 Q))) fr H :=
  Eq.mp (by kernel_rfl) h
theorem A89_8 {fr : Fr} {H : Hp} {Q : RT1} (h : F89_8 (fr 3) H Q) : xCode Tryz.prog 19 (Code.r (Code.r (Code.l (Code.r (Code.l (Code.r (bodyOf Tryz.f89))))))) (blockK 0 (K89_8 Q)) fr H :=
  seq_cut (by kernel_rfl) (fun _ _ h => A89_9 h) (A89_14 h)
theorem A89_6 {fr : Fr} {H : Hp} {Q : RT1} (h : F89_6 (fr 3) (fr 4) H Q) : xCode Tryz.prog 19 (Code.r (Code.l (Code.r (Code.l (Code.r (bodyOf Tryz.f89)))))) (blockK 0 (K89_8 Q)) fr H :=
  cond_cut (x := (Go.Operand.tmp 4)) (by kernel_rfl) (fun h => A89_7 h) (fun h => A89_8 h) h
theorem A89_15 {fr : Fr} {H : Hp} {Q : RT1} (h : F89_15 (fr 3) H Q) : xCode Tryz.prog 19 (Code.l (Code.l (Code.r (Code.l (Code.r (bodyOf Tryz.f89)))))) (thenK (fun fr H => F89_6 (fr 3) (fr 4) H Q) (blockK 0 (K89_8 Q))) fr H :=
  Eq.mp (by kernel_rfl) h
theorem A89_5 {fr : Fr} {H : Hp} {Q : RT1} (h : F89_5 (fr 3) H Q) : xCode Tryz.prog 19 (Code.l (Code.r (Code.l (Code.r (bodyOf Tryz.f89))))) (blockK 0 (K89_8 Q)) fr H :=
  seq_cut (by kernel_rfl) (fun _ _ h => A89_6 h) (A89_15 h)
theorem A89_4 {fr : Fr} {H : Hp} {Q : RT1} (h : F89_4 (fr 3) H Q) : xCode Tryz.prog 19 (Code.r (Code.l (Code.r (bodyOf Tryz.f89)))) (K89_8 Q) fr H :=
  block_cut (by kernel_rfl) (A89_5 h)
theorem A89_16 {fr : Fr} {H : Hp} {Q : RT1} (h : F89_16 (fr 0) H Q) : xCode Tryz.prog 19 (Code.l (Code.l (Code.r (bodyOf Tryz.f89)))) (thenK (fun fr H => F89_4 (fr 3) H Q) (K89_8 Q)) fr H :=
  Eq.mp (by kernel_rfl) h
theorem A89_3 {fr : Fr} {H : Hp} {Q : RT1} (h : F89_3 (fr 0) H Q) : xCode Tryz.prog 19 (Code.l (Code.r (bodyOf Tryz.f89))) (K89_8 Q) fr H :=
  seq_cut (by kernel_rfl) (fun _ _ h => A89_4 h) (A89_16 h)
theorem A89_1 {fr : Fr} {H : Hp} {Q : RT1} (h : F89_1 (fr 0) H Q) : xCode Tryz.prog 19 (Code.r (bodyOf Tryz.f89)) (xRet Tryz.prog [.tmp 2] Q) fr H :=
  seq_cut (by kernel_rfl) (fun _ _ h => A89_2 h) (A89_3 h)
theorem A89_17 {fr : Fr} {H : Hp} {Q : RT1} (h : F89_17 (fr 0) H Q) : xCode Tryz.prog 19 (Code.l (bodyOf Tryz.f89)) (thenK (fun fr H => F89_1 (fr 0) H Q) (xRet Tryz.prog [.tmp 2] Q)) fr H :=
  Eq.mp (by kernel_rfl) h
theorem A89_0 {fr : Fr} {H : Hp} {Q : RT1} (h : F89_0 (fr 0) H Q) : xCode Tryz.prog 19 (bodyOf Tryz.f89) (xRet Tryz.prog [.tmp 2] Q) fr H :=
  seq_cut (by kernel_rfl) (fun _ _ h => A89_1 h) (A89_17 h)
theorem E89 {t0 : Value} {H : Hp} {Q : RT1} (h : F89_0 t0 H Q) : NCalls Tryz.prog 89 #[t0] H Q :=
  NCalls.ofBody (by kernel_rfl) Tryz.func89 (by kernel_rfl) (by kernel_rfl) (Eq.mp (by kernel_rfl) (A89_0 (fr := fun i => (#[t0] : Array Value).getD i undef) (H := H) (Q := Q) (Eq.mp (by kernel_rfl) h)))
def F90_3 (H : Hp) (Q : RT1) : Prop :=
  Q (Value.bool false) H
def F90_7 (t1 t2 t9 t11 t12 : Value) (H : Hp) (Q : RT1) : Prop :=
  condV t12 (
    CallV Tryz.prog t9 [t1] H (fun t17_1 H_1 =>
    q (gd t17_1 true (some t2)) fun t19_2 =>
    q (gd t17_1 true (Bin Tryz.prog H_1 .eql 3 true t19_2 (Value.int IntKind.i64 (-1)))) fun t20_3 =>
    q (Pk t17_1 t20_3 (Value.bool false)) fun t21_4 =>
    Q t21_4 H_1)) (
    q (Bin Tryz.prog H .eql 3 true t11 (Value.int IntKind.i64 1)) fun t23_5 =>
    condV t23_5 (
      q (Bin Tryz.prog H .eql 3 true t1 (Value.int IntKind.i64 (-1))) fun t25_6 =>
      q (gd t25_6 true (some t9)) fun t27_7 =>
      q (gd t25_6 true (some t2)) fun t28_8 =>
      gl t25_6 true (fun K => CallV Tryz.prog t27_7 [t28_8] H K) H fun t29_9 H_9 =>
      q (Pk t25_6 t29_9 (Value.bool false)) fun t30_10 =>
      Q t30_10 H_9) (
      F90_3 H Q))
def F90_8 (t1 t2 t9 t11 : Value) (H : Hp) (Q : RT1) : Prop :=
  q (Bin Tryz.prog H .eql 3 true t11 (Value.int IntKind.i64 0)) fun t13_11 =>
  condV t13_11 (
    F90_7 t1 t2 t9 t11 t13_11 H Q) (
    q (Bin Tryz.prog H .eql 3 true t11 (Value.int IntKind.i64 2)) fun t14_12 =>
    F90_7 t1 t2 t9 t11 t14_12 H Q)
def F90_6 (t1 t2 t9 t11 : Value) (H : Hp) (Q : RT1) : Prop := F90_8 t1 t2 t9 t11 H Q
def F90_5 (t1 t2 t9 t11 : Value) (H : Hp) (Q : RT1) : Prop := F90_6 t1 t2 t9 t11 H Q
def F90_9 (t1 t2 t3 t9 : Value) (H : Hp) (Q : RT1) : Prop :=
  F90_5 t1 t2 t9 t3 H Q
def F90_4 (t1 t2 t3 t9 : Value) (H : Hp) (Q : RT1) : Prop := F90_9 t1 t2 t3 t9 H Q
def F90_2 (t1 t2 t3 t9 : Value) (H : Hp) (Q : RT1) : Prop := F90_4 t1 t2 t3 t9 H Q
def F90_10 (t1 t2 t3 t4 : Value) (H : Hp) (Q : RT1) : Prop :=
  F90_2 t1 t2 t3 (Value.func (Fn.func 120) #[] #[t4]) H Q
def F90_1 (t1 t2 t3 t4 : Value) (H : Hp) (Q : RT1) : Prop := F90_10 t1 t2 t3 t4 H Q
def F90_11 (t0 t1 t2 t3 : Value) (H : Hp) (Q : RT1) : Prop :=
  New (Value.cells t0) 96 H (fun t4_13 H_13 =>
  F90_1 t1 t2 t3 t4_13 H_13 Q)
def F90_0 (t0 t1 t2 t3 : Value) (H : Hp) (Q : RT1) : Prop := F90_11 t0 t1 t2 t3 H Q
theorem A90_3 {fr : Fr} {H : Hp} {Q : RT1} (h : F90_3 H Q) : xCode Tryz.prog 31 (Code.r (Code.r (Code.r (bodyOf Tryz.f90)))) (xRet Tryz.prog [.tmp 8] Q) fr H :=
  Eq.mp (by kernel_rfl) h
abbrev K90_9 (Q : RT1) : QT := thenK (fun fr H => F90_3 H Q) (xRet Tryz.prog [.tmp 8] Q)
theorem A90_7 {fr : Fr} {H : Hp} {Q : RT1} (h : F90_7 (fr 1) (fr 2) (fr 9) (fr 11) (fr 12) H Q) : xCode Tryz.prog 31 (Code.r (Code.l (Code.r (Code.l (Code.r (Code.r (bodyOf Tryz.f90))))))) (blockK 0 (K90_9 Q)) fr H :=
  Eq.mp (by kernel_rfl) h
theorem A90_8 {fr : Fr} {H : Hp} {Q : RT1} (h : F90_8 (fr 1) (fr 2) (fr 9) (fr 11) H Q) : xCode Tryz.prog 31 (Code.l (Code.l (Code.r (Code.l (Code.r (Code.r (bodyOf Tryz.f90))))))) (thenK (fun fr H => F90_7 (fr 1) (fr 2) (fr 9) (fr 11) (fr 12) H Q) (blockK 0 (K90_9 Q))) fr H :=
  Eq.mp (by kernel_rfl) h
theorem A90_6 {fr : Fr} {H : Hp} {Q : RT1} (h : F90_6 (fr 1) (fr 2) (fr 9) (fr 11) H Q) : xCode Tryz.prog 31 (Code.l (Code.r (Code.l (Code.r (Code.r (bodyOf Tryz.f90)))))) (blockK 0 (K90_9 Q)) fr H :=
  seq_cut (by kernel_rfl) (fun _ _ h => A90_7 h) (A90_8 h)
theorem A90_5 {fr : Fr} {H : Hp} {Q : RT1} (h : F90_5 (fr 1) (fr 2) (fr 9) (fr 11) H Q) : xCode Tryz.prog 31 (Code.r (Code.l (Code.r (Code.r (bodyOf Tryz.f90))))) (K90_9 Q) fr H :=
  block_cut (by kernel_rfl) (A90_6 h)
theorem A90_9 {fr : Fr} {H : Hp} {Q : RT1} (h : F90_9 (fr 1) (fr 2) (fr 3) (fr 9) H Q) : xCode Tryz.prog 31 (Code.l (Code.l (Code.r (Code.r (bodyOf Tryz.f90))))) (thenK (fun fr H => F90_5 (fr 1) (fr 2) (fr 9) (fr 11) H Q) (K90_9 Q)) fr H :=
  Eq.mp (by kernel_rfl) h
theorem A90_4 {fr : Fr} {H : Hp} {Q : RT1} (h : F90_4 (fr 1) (fr 2) (fr 3) (fr 9) H Q) : xCode Tryz.prog 31 (Code.l (Code.r (Code.r (bodyOf Tryz.f90)))) (K90_9 Q) fr H :=
  seq_cut (by kernel_rfl) (fun _ _ h => A90_5 h) (A90_9 h)
theorem A90_2 {fr : Fr} {H : Hp} {Q : RT1} (h : F90_2 (fr 1) (fr 2) (fr 3) (fr 9) H Q) : xCode Tryz.prog 31 (Code.r (Code.r (bodyOf Tryz.f90))) (xRet Tryz.prog [.tmp 8] Q) fr H :=
  seq_cut (by kernel_rfl) (fun _ _ h => A90_3 h) (A90_4 h)
theorem A90_10 {fr : Fr} {H : Hp} {Q : RT1} (h : F90_10 (fr 1) (fr 2) (fr 3) (fr 4) H Q) : xCode Tryz.prog 31 (Code.l (Code.r (bodyOf Tryz.f90))) (thenK (fun fr H => F90_2 (fr 1) (fr 2) (fr 3) (fr 9) H Q) (xRet Tryz.prog [.tmp 8] Q)) fr H :=
  Eq.mp (by kernel_rfl) h
theorem A90_1 {fr : Fr} {H : Hp} {Q : RT1} (h : F90_1 (fr 1) (fr 2) (fr 3) (fr 4) H Q) : xCode Tryz.prog 31 (Code.r (bodyOf Tryz.f90)) (xRet Tryz.prog [.tmp 8] Q) fr H :=
  seq_cut (by kernel_rfl) (fun _ _ h => A90_2 h) (A90_10 h)
theorem A90_11 {fr : Fr} {H : Hp} {Q : RT1} (h : F90_11 (fr 0) (fr 1) (fr 2) (fr 3) H Q) : xCode Tryz.prog 31 (Code.l (bodyOf Tryz.f90)) (thenK (fun fr H => F90_1 (fr 1) (fr 2) (fr 3) (fr 4) H Q) (xRet Tryz.prog [.tmp 8] Q)) fr H :=
  Eq.mp (by kernel_rfl) h
theorem A90_0 {fr : Fr} {H : Hp} {Q : RT1} (h : F90_0 (fr 0) (fr 1) (fr 2) (fr 3) H Q) : xCode Tryz.prog 31 (bodyOf Tryz.f90) (xRet Tryz.prog [.tmp 8] Q) fr H :=
  seq_cut (by kernel_rfl) (fun _ _ h => A90_1 h) (A90_11 h)
theorem E90 {t0 t1 t2 t3 : Value} {H : Hp} {Q : RT1} (h : F90_0 t0 t1 t2 t3 H Q) : NCalls Tryz.prog 90 #[t0, t1, t2, t3] H Q :=
  NCalls.ofBody (by kernel_rfl) Tryz.func90 (by kernel_rfl) (by kernel_rfl) (Eq.mp (by kernel_rfl) (A90_0 (fr := fun i => (#[t0, t1, t2, t3] : Array Value).getD i undef) (H := H) (Q := Q) (Eq.mp (by kernel_rfl) h)))
def F91_3 (t9 : Value) (H : Hp) (Q : RT1) : Prop :=
  Q t9 H
def F91_10 (t1 t2 t3 t9 t12 t13 t14 : Value) (H : Hp) (R6 : RT7) (Q : RT1) : Prop :=
  q (Bin Tryz.prog H .add 3 true t14 (Value.int IntKind.i64 1)) fun t40_1 =>
  R6 t1 t2 t3 t9 t12 t13 t40_1 H
def F91_11 (t1 t2 t3 t9 t12 t13 t14 : Value) (H : Hp) (R6 : RT7) (Q : RT1) : Prop :=
  q (Ix 12 t12 t14) fun t16_2 =>
  q (LdA 12 H t16_2) fun t17_3 =>
  New #[Value.int IntKind.i64 0, Value.int IntKind.i64 0, Value.int IntKind.i64 0, Value.int IntKind.i64 0, Value.int IntKind.i64 0, Value.int IntKind.u32 0, Value.int IntKind.u32 0, Value.int IntKind.u32 0, Value.int IntKind.u32 0, Value.bool false, Value.bool false, Value.bool false] 68 H (fun t11_4 H_4 =>
  St 12 H_4 t11_4 t17_3 ((fun u_5 H_5 =>
  q (Fa 1 t11_4) fun t18_6 =>
  q (Fa 2 t18_6) fun t19_7 =>
  q (Ld H_5 t19_7) fun t20_8 =>
  q (Bin Tryz.prog H_5 .eql 3 false t20_8 t1) fun t22_9 =>
  q (gd t22_9 true (Fa 1 t11_4)) fun t24_10 =>
  q (gd t22_9 true (Fa 3 t24_10)) fun t25_11 =>
  q (gd t22_9 true (Ld H_5 t25_11)) fun t26_12 =>
  q (gd t22_9 true (some t2)) fun t27_13 =>
  q (gd t22_9 true (Bin Tryz.prog H_5 .eql 3 false t26_12 t27_13)) fun t28_14 =>
  q (Pk t22_9 t28_14 (Value.bool false)) fun t29_15 =>
  q (gd t29_15 true (Fa 1 t11_4)) fun t31_16 =>
  q (gd t29_15 true (Fa 0 t31_16)) fun t32_17 =>
  q (gd t29_15 true (Ld H_5 t32_17)) fun t33_18 =>
  gl t29_15 true (fun K => NCalls Tryz.prog 89 #[t33_18] H_5 K) H_5 fun t34_19 H_19 =>
  q (gd t29_15 true (some t3)) fun t35_20 =>
  q (gd t29_15 true (Bin Tryz.prog H_19 .eql 3 false t34_19 t35_20)) fun t36_21 =>
  q (Pk t29_15 t36_21 (Value.bool false)) fun t37_22 =>
  condV t37_22 (
    q (Bin Tryz.prog H_19 .add 3 true t9 (Value.int IntKind.i64 1)) fun t39_23 =>
    F91_10 t1 t2 t3 t39_23 t12 t13 t14 H_19 R6 Q) (
    F91_10 t1 t2 t3 t9 t12 t13 t14 H_19 R6 Q)) undef))
def F91_9 (t1 t2 t3 t9 t12 t13 t14 : Value) (H : Hp) (R6 : RT7) (Q : RT1) : Prop := F91_11 t1 t2 t3 t9 t12 t13 t14 H R6 Q
def F91_12 (t1 t2 t3 t9 t12 t13 t14 t15 : Value) (H : Hp) (R6 : RT7) (Q : RT1) : Prop :=
  condV t15 (
    F91_9 t1 t2 t3 t9 t12 t13 t14 H R6 Q) (
    F91_3 t9 H Q)
def F91_8 (t1 t2 t3 t9 t12 t13 t14 t15 : Value) (H : Hp) (R6 : RT7) (Q : RT1) : Prop := F91_12 t1 t2 t3 t9 t12 t13 t14 t15 H R6 Q
def F91_13 (t1 t2 t3 t9 t12 t13 t14 : Value) (H : Hp) (R6 : RT7) (Q : RT1) : Prop :=
  q (Bin Tryz.prog H .lss 3 false t14 t13) fun t15_24 =>
  F91_8 t1 t2 t3 t9 t12 t13 t14 t15_24 H R6 Q
def F91_7 (t1 t2 t3 t9 t12 t13 t14 : Value) (H : Hp) (R6 : RT7) (Q : RT1) : Prop := F91_13 t1 t2 t3 t9 t12 t13 t14 H R6 Q
def F91_6 (t1 t2 t3 t9 t12 t13 t14 : Value) (H : Hp) (Q : RT1) : Prop :=
  ∃ (I : RT2) (μ : Value → Value → Hp → Nat), I t9 t14 H ∧ ∀ n9 n14 H1, I n9 n14 H1 → F91_7 t1 t2 t3 n9 t12 t13 n14 H1 (fun m1 m2 m3 m9 m12 m13 m14 H2 => m1 = t1 ∧ m2 = t2 ∧ m3 = t3 ∧ m12 = t12 ∧ m13 = t13 ∧ (I m9 m14 H2 ∧ μ m9 m14 H2 < μ n9 n14 H1)) Q
def F91_5 (t1 t2 t3 t9 t12 t13 t14 : Value) (H : Hp) (Q : RT1) : Prop := F91_6 t1 t2 t3 t9 t12 t13 t14 H Q
def F91_14 (t0 t1 t2 t3 t9 : Value) (H : Hp) (Q : RT1) : Prop :=
  q (pv Tryz.prog (Builtin.len_ #[38] 0 #[t0])) fun t13_25 =>
  F91_5 t1 t2 t3 t9 t0 t13_25 (Value.int IntKind.i64 0) H Q
def F91_4 (t0 t1 t2 t3 t9 : Value) (H : Hp) (Q : RT1) : Prop := F91_14 t0 t1 t2 t3 t9 H Q
def F91_2 (t0 t1 t2 t3 t9 : Value) (H : Hp) (Q : RT1) : Prop := F91_4 t0 t1 t2 t3 t9 H Q
def F91_15 (t0 t1 t2 t3 : Value) (H : Hp) (Q : RT1) : Prop :=
  F91_2 t0 t1 t2 t3 (Value.int IntKind.i64 0) H Q
def F91_1 (t0 t1 t2 t3 : Value) (H : Hp) (Q : RT1) : Prop := F91_15 t0 t1 t2 t3 H Q
def F91_16 (t0 t1 t2 t3 : Value) (H : Hp) (Q : RT1) : Prop :=
  F91_1 t0 t1 t2 t3 H Q
def F91_0 (t0 t1 t2 t3 : Value) (H : Hp) (Q : RT1) : Prop := F91_16 t0 t1 t2 t3 H Q
theorem A91_3 {fr : Fr} {H : Hp} {Q : RT1} (h : F91_3 (fr 9) H Q) : xCode Tryz.prog 42 (Code.r (Code.r (Code.r (bodyOf Tryz.f91)))) (xRet Tryz.prog [.tmp 8] Q) fr H :=
  Eq.mp (by kernel_rfl) h
abbrev K91_10 (Q : RT1) : QT := thenK (fun fr H => F91_3 (fr 9) H Q) (xRet Tryz.prog [.tmp 8] Q)
abbrev K91_11 (R6 : RT7) (Q : RT1) : QT := thenK (fun fr H => R6 (fr 1) (fr 2) (fr 3) (fr 9) (fr 12) (fr 13) (fr 14) H) (blockK 0 (K91_10 Q))
theorem A91_10 {fr : Fr} {H : Hp} {R6 : RT7} {Q : RT1} (h : F91_10 (fr 1) (fr 2) (fr 3) (fr 9) (fr 12) (fr 13) (fr 14) H R6 Q) : xCode Tryz.prog 42 (Code.r (Code.r (Code.r (Code.l (Code.l (Code.r (Code.l (Code.r (Code.r (bodyOf Tryz.f91)))))))))) (K91_11 R6 Q) fr H :=
  Eq.mp (by kernel_rfl) h
theorem A91_11 {fr : Fr} {H : Hp} {R6 : RT7} {Q : RT1} (h : F91_11 (fr 1) (fr 2) (fr 3) (fr 9) (fr 12) (fr 13) (fr 14) H R6 Q) : xCode Tryz.prog 42 (Code.l (Code.r (Code.r (Code.l (Code.l (Code.r (Code.l (Code.r (Code.r (bodyOf Tryz.f91)))))))))) (thenK (fun fr H => F91_10 (fr 1) (fr 2) (fr 3) (fr 9) (fr 12) (fr 13) (fr 14) H R6 Q) (K91_11 R6 Q)) fr H :=
  Eq.mp (by kernel_rfl) h
theorem A91_9 {fr : Fr} {H : Hp} {R6 : RT7} {Q : RT1} (h : F91_9 (fr 1) (fr 2) (fr 3) (fr 9) (fr 12) (fr 13) (fr 14) H R6 Q) : xCode Tryz.prog 42 (Code.r (Code.r (Code.l (Code.l (Code.r (Code.l (Code.r (Code.r (bodyOf Tryz.f91))))))))) (K91_11 R6 Q) fr H :=
  seq_cut (by kernel_rfl) (fun _ _ h => A91_10 h) (A91_11 h)
theorem A91_12 {fr : Fr} {H : Hp} {R6 : RT7} {Q : RT1} (h : F91_12 (fr 1) (fr 2) (fr 3) (fr 9) (fr 12) (fr 13) (fr 14) (fr 15) H R6 Q) : xCode Tryz.prog 42 (Code.l (Code.r (Code.l (Code.l (Code.r (Code.l (Code.r (Code.r (bodyOf Tryz.f91))))))))) (thenK (fun fr H => F91_9 (fr 1) (fr 2) (fr 3) (fr 9) (fr 12) (fr 13) (fr 14) H R6 Q) (K91_11 R6 Q)) fr H :=
  Eq.mp (by kernel_rfl) h
theorem A91_8 {fr : Fr} {H : Hp} {R6 : RT7} {Q : RT1} (h : F91_8 (fr 1) (fr 2) (fr 3) (fr 9) (fr 12) (fr 13) (fr 14) (fr 15) H R6 Q) : xCode Tryz.prog 42 (Code.r (Code.l (Code.l (Code.r (Code.l (Code.r (Code.r (bodyOf Tryz.f91)))))))) (K91_11 R6 Q) fr H :=
  seq_cut (by kernel_rfl) (fun _ _ h => A91_9 h) (A91_12 h)
theorem A91_13 {fr : Fr} {H : Hp} {R6 : RT7} {Q : RT1} (h : F91_13 (fr 1) (fr 2) (fr 3) (fr 9) (fr 12) (fr 13) (fr 14) H R6 Q) : xCode Tryz.prog 42 (Code.l (Code.l (Code.l (Code.r (Code.l (Code.r (Code.r (bodyOf Tryz.f91)))))))) (thenK (fun fr H => F91_8 (fr 1) (fr 2) (fr 3) (fr 9) (fr 12) (fr 13) (fr 14) (fr 15) H R6 Q) (K91_11 R6 Q)) fr H :=
  Eq.mp (by kernel_rfl) h
theorem A91_7 {fr : Fr} {H : Hp} {R6 : RT7} {Q : RT1} (h : F91_7 (fr 1) (fr 2) (fr 3) (fr 9) (fr 12) (fr 13) (fr 14) H R6 Q) : xCode Tryz.prog 42 (Code.l (Code.l (Code.r (Code.l (Code.r (Code.r (bodyOf Tryz.f91))))))) (K91_11 R6 Q) fr H :=
  seq_cut (by kernel_rfl) (fun _ _ h => A91_8 h) (A91_13 h)
theorem A91_6 {fr : Fr} {H : Hp} {Q : RT1} (h : F91_6 (fr 1) (fr 2) (fr 3) (fr 9) (fr 12) (fr 13) (fr 14) H Q) : xCode Tryz.prog 42 (Code.l (Code.r (Code.l (Code.r (Code.r (bodyOf Tryz.f91)))))) (blockK 0 (K91_10 Q)) fr H := by
  obtain ⟨I, μ, h0, hr⟩ := h
  refine loop_cut (a := (Code.l (Code.l (Code.r (Code.l (Code.r (Code.r (bodyOf Tryz.f91)))))))) (by kernel_rfl) (fun fr1 H1 => fr1 1 = fr 1 ∧ fr1 2 = fr 2 ∧ fr1 3 = fr 3 ∧ fr1 12 = fr 12 ∧ fr1 13 = fr 13 ∧ I (fr1 9) (fr1 14) H1) (fun fr1 H1 => μ (fr1 9) (fr1 14) H1) (by exact ⟨rfl, rfl, rfl, rfl, rfl, h0⟩) ?_
  intro fr1 H1 hI
  obtain ⟨hu1, hu2, hu3, hu12, hu13, hI⟩ := hI
  have hb := hr (fr1 9) (fr1 14) H1 hI
  rw [← hu1] at hb; rw [← hu2] at hb; rw [← hu3] at hb; rw [← hu12] at hb; rw [← hu13] at hb
  refine ⟨_, ?_, A91_7 hb⟩
  intro fr2 H2 hj
  obtain ⟨ku1, ku2, ku3, ku12, ku13, hI2, hlt⟩ := hj
  exact ⟨⟨(ku1.trans hu1), (ku2.trans hu2), (ku3.trans hu3), (ku12.trans hu12), (ku13.trans hu13), hI2⟩, hlt⟩
theorem A91_5 {fr : Fr} {H : Hp} {Q : RT1} (h : F91_5 (fr 1) (fr 2) (fr 3) (fr 9) (fr 12) (fr 13) (fr 14) H Q) : xCode Tryz.prog 42 (Code.r (Code.l (Code.r (Code.r (bodyOf Tryz.f91))))) (K91_10 Q) fr H :=
  block_cut (by kernel_rfl) (A91_6 h)
theorem A91_14 {fr : Fr} {H : Hp} {Q : RT1} (h : F91_14 (fr 0) (fr 1) (fr 2) (fr 3) (fr 9) H Q) : xCode Tryz.prog 42 (Code.l (Code.l (Code.r (Code.r (bodyOf Tryz.f91))))) (thenK (fun fr H => F91_5 (fr 1) (fr 2) (fr 3) (fr 9) (fr 12) (fr 13) (fr 14) H Q) (K91_10 Q)) fr H :=
  Eq.mp (by kernel_rfl) h
theorem A91_4 {fr : Fr} {H : Hp} {Q : RT1} (h : F91_4 (fr 0) (fr 1) (fr 2) (fr 3) (fr 9) H Q) : xCode Tryz.prog 42 (Code.l (Code.r (Code.r (bodyOf Tryz.f91)))) (K91_10 Q) fr H :=
  seq_cut (by kernel_rfl) (fun _ _ h => A91_5 h) (A91_14 h)
theorem A91_2 {fr : Fr} {H : Hp} {Q : RT1} (h : F91_2 (fr 0) (fr 1) (fr 2) (fr 3) (fr 9) H Q) : xCode Tryz.prog 42 (Code.r (Code.r (bodyOf Tryz.f91))) (xRet Tryz.prog [.tmp 8] Q) fr H :=
  seq_cut (by kernel_rfl) (fun _ _ h => A91_3 h) (A91_4 h)
theorem A91_15 {fr : Fr} {H : Hp} {Q : RT1} (h : F91_15 (fr 0) (fr 1) (fr 2) (fr 3) H Q) : xCode Tryz.prog 42 (Code.l (Code.r (bodyOf Tryz.f91))) (thenK (fun fr H => F91_2 (fr 0) (fr 1) (fr 2) (fr 3) (fr 9) H Q) (xRet Tryz.prog [.tmp 8] Q)) fr H :=
  Eq.mp (by kernel_rfl) h
theorem A91_1 {fr : Fr} {H : Hp} {Q : RT1} (h : F91_1 (fr 0) (fr 1) (fr 2) (fr 3) H Q) : xCode Tryz.prog 42 (Code.r (bodyOf Tryz.f91)) (xRet Tryz.prog [.tmp 8] Q) fr H :=
  seq_cut (by kernel_rfl) (fun _ _ h => A91_2 h) (A91_15 h)
theorem A91_16 {fr : Fr} {H : Hp} {Q : RT1} (h : F91_16 (fr 0) (fr 1) (fr 2) (fr 3) H Q) : xCode Tryz.prog 42 (Code.l (bodyOf Tryz.f91)) (thenK (fun fr H => F91_1 (fr 0) (fr 1) (fr 2) (fr 3) H Q) (xRet Tryz.prog [.tmp 8] Q)) fr H :=
  Eq.mp (by kernel_rfl) h
theorem A91_0 {fr : Fr} {H : Hp} {Q : RT1} (h : F91_0 (fr 0) (fr 1) (fr 2) (fr 3) H Q) : xCode Tryz.prog 42 (bodyOf Tryz.f91) (xRet Tryz.prog [.tmp 8] Q) fr H :=
  seq_cut (by kernel_rfl) (fun _ _ h => A91_1 h) (A91_16 h)
theorem E91 {t0 t1 t2 t3 : Value} {H : Hp} {Q : RT1} (h : F91_0 t0 t1 t2 t3 H Q) : NCalls Tryz.prog 91 #[t0, t1, t2, t3] H Q :=
  NCalls.ofBody (by kernel_rfl) Tryz.func91 (by kernel_rfl) (by kernel_rfl) (Eq.mp (by kernel_rfl) (A91_0 (fr := fun i => (#[t0, t1, t2, t3] : Array Value).getD i undef) (H := H) (Q := Q) (Eq.mp (by kernel_rfl) h)))
def F92_0 (t0 : Value) (H : Hp) (Q : RT1) : Prop :=
  q (Bin Tryz.prog H .quo 40 true t0 (Value.int IntKind.u32 16)) fun t4_1 =>
  q (pv Tryz.prog (convert 40 3 t4_1)) fun t5_2 =>
  Q t5_2 H
theorem A92_0 {fr : Fr} {H : Hp} {Q : RT1} (h : F92_0 (fr 0) H Q) : xCode Tryz.prog 6 (bodyOf Tryz.f92) (xRet Tryz.prog [.tmp 2] Q) fr H :=
  Eq.mp (by kernel_rfl) h
theorem E92 {t0 : Value} {H : Hp} {Q : RT1} (h : F92_0 t0 H Q) : NCalls Tryz.prog 92 #[t0] H Q :=
  NCalls.ofBody (by kernel_rfl) Tryz.func92 (by kernel_rfl) (by kernel_rfl) (Eq.mp (by kernel_rfl) (A92_0 (fr := fun i => (#[t0] : Array Value).getD i undef) (H := H) (Q := Q) (Eq.mp (by kernel_rfl) h)))
def F93_0 (t0 t1 : Value) (H : Hp) (Q : RT1) : Prop :=
  NCalls Tryz.prog 86 #[t0, t1] H (fun t10_1 H_1 =>
  q (Ex 0 t10_1) fun t11_2 =>
  q (Ex 1 t10_1) fun t12_3 =>
  q (Bin Tryz.prog H_1 .lss 3 true t12_3 (Value.int IntKind.i64 0)) fun t14_4 =>
  condV t14_4 (
    Q (Value.bool false) H_1) (
    q (Nz t11_2) fun t18_5 =>
    q (Ld H_1 t18_5) fun t19_6 =>
    q (Ix 6 t19_6 t12_3) fun t21_7 =>
    q (LdA 6 H_1 t21_7) fun t22_8 =>
    NCalls Tryz.prog 87 #[t11_2, t12_3, t22_8] H_1 (fun t23_9 H_9 =>
    Q (Value.bool true) H_9)))
theorem A93_0 {fr : Fr} {H : Hp} {Q : RT1} (h : F93_0 (fr 0) (fr 1) H Q) : xCode Tryz.prog 24 (bodyOf Tryz.f93) (xRet Tryz.prog [.tmp 4] Q) fr H :=
  Eq.mp (by kernel_rfl) h
theorem E93 {t0 t1 : Value} {H : Hp} {Q : RT1} (h : F93_0 t0 t1 H Q) : NCalls Tryz.prog 93 #[t0, t1] H Q :=
  NCalls.ofBody (by kernel_rfl) Tryz.func93 (by kernel_rfl) (by kernel_rfl) (Eq.mp (by kernel_rfl) (A93_0 (fr := fun i => (#[t0, t1] : Array Value).getD i undef) (H := H) (Q := Q) (Eq.mp (by kernel_rfl) h)))
def F94_0 (t0 t1 : Value) (H : Hp) (Q : RT1) : Prop :=
  q (Bin Tryz.prog H .eql 3 true t1 (Value.int IntKind.i64 1)) fun t6_1 =>
  q (gd t6_1 false (some t1)) fun t8_2 =>
  q (gd t6_1 false (Bin Tryz.prog H .eql 3 true t8_2 (Value.int IntKind.i64 2))) fun t9_3 =>
  q (Pk t6_1 (Value.bool true) t9_3) fun t10_4 =>
  q (gd t10_4 false (some t1)) fun t12_5 =>
  q (gd t10_4 false (Bin Tryz.prog H .eql 3 true t12_5 (Value.int IntKind.i64 4))) fun t13_6 =>
  q (Pk t10_4 (Value.bool true) t13_6) fun t14_7 =>
  q (gd t14_7 true (some t0)) fun t16_8 =>
  q (gd t14_7 true (some t1)) fun t17_9 =>
  q (gd t14_7 true (pv Tryz.prog (convert 3 40 t17_9))) fun t18_10 =>
  q (gd t14_7 true (Bin Tryz.prog H .rem 40 false t16_8 t18_10)) fun t19_11 =>
  q (gd t14_7 true (Bin Tryz.prog H .eql 40 true t19_11 (Value.int IntKind.u32 0))) fun t20_12 =>
  q (Pk t14_7 t20_12 (Value.bool false)) fun t21_13 =>
  Q t21_13 H
theorem A94_0 {fr : Fr} {H : Hp} {Q : RT1} (h : F94_0 (fr 0) (fr 1) H Q) : xCode Tryz.prog 22 (bodyOf Tryz.f94) (xRet Tryz.prog [.tmp 4] Q) fr H :=
  Eq.mp (by kernel_rfl) h
theorem E94 {t0 t1 : Value} {H : Hp} {Q : RT1} (h : F94_0 t0 t1 H Q) : NCalls Tryz.prog 94 #[t0, t1] H Q :=
  NCalls.ofBody (by kernel_rfl) Tryz.func94 (by kernel_rfl) (by kernel_rfl) (Eq.mp (by kernel_rfl) (A94_0 (fr := fun i => (#[t0, t1] : Array Value).getD i undef) (H := H) (Q := Q) (Eq.mp (by kernel_rfl) h)))
def F95_0 (t0 t1 : Value) (H : Hp) (Q : RT1) : Prop :=
  New (Value.cells t1) 3 H (fun t3_1 H_1 =>
  q (Nz t0) fun t6_2 =>
  q (Fa 3 t6_2) fun t7_3 =>
  q (Ld H_1 t7_3) fun t8_4 =>
  NCalls Tryz.prog 121 #[t8_4, (Value.func (Fn.func 122) #[] #[t3_1])] H_1 (fun t10_5 H_5 =>
  Q t10_5 H_5))
theorem A95_0 {fr : Fr} {H : Hp} {Q : RT1} (h : F95_0 (fr 0) (fr 1) H Q) : xCode Tryz.prog 11 (bodyOf Tryz.f95) (xRet Tryz.prog [.tmp 4] Q) fr H :=
  Eq.mp (by kernel_rfl) h
theorem E95 {t0 t1 : Value} {H : Hp} {Q : RT1} (h : F95_0 t0 t1 H Q) : NCalls Tryz.prog 95 #[t0, t1] H Q :=
  NCalls.ofBody (by kernel_rfl) Tryz.func95 (by kernel_rfl) (by kernel_rfl) (Eq.mp (by kernel_rfl) (A95_0 (fr := fun i => (#[t0, t1] : Array Value).getD i undef) (H := H) (Q := Q) (Eq.mp (by kernel_rfl) h)))
def F96_0 (t0 : Value) (H : Hp) (Q : RT1) : Prop :=
  q (Nz t0) fun t5_1 =>
  q (LdA 24 H t5_1) fun t6_2 =>
  New #[Value.int IntKind.i64 0, Value.int IntKind.i64 0, Value.int IntKind.u32 0, Value.int IntKind.u32 0, Value.int IntKind.u32 0, Value.int IntKind.u32 0, Value.int IntKind.i64 0, Value.slice none 0 0, Value.bool false, Value.int IntKind.i64 0, Value.int IntKind.i64 0, Value.int IntKind.i64 0, Value.slice none 0 0, Value.int IntKind.i64 0, Value.int IntKind.i64 0, Value.int IntKind.i64 0, Value.int IntKind.i64 0, Value.int IntKind.u32 0, Value.int IntKind.u32 0, Value.int IntKind.u32 0, Value.int IntKind.u32 0, Value.bool false, Value.bool false, Value.bool false] 150 H (fun t3_3 H_3 =>
  St 24 H_3 t3_3 t6_2 ((fun u_4 H_4 =>
  q (Nz t0) fun t8_5 =>
  q (Fa 7 t8_5) fun t9_6 =>
  q (Ld H_4 t9_6) fun t10_7 =>
  q (Nz t0) fun t13_8 =>
  q (Fa 12 t13_8) fun t14_9 =>
  q (Ld H_4 t14_9) fun t15_10 =>
  NCalls Tryz.prog 123 #[t10_7] H_4 (fun t11_11 H_11 =>
  (Ld H_11 t14_9) = some t15_10 ∧ (
  NCalls Tryz.prog 123 #[t15_10] H_11 (fun t16_12 H_12 =>
  q (Fa 7 t3_3) fun t17_13 =>
  St 1 H_12 t17_13 t11_11 ((fun u_14 H_14 =>
  q (Fa 12 t3_3) fun t18_15 =>
  St 1 H_14 t18_15 t16_12 ((fun u_16 H_16 =>
  Q t3_3 H_16) undef)) undef))))) undef))
theorem A96_0 {fr : Fr} {H : Hp} {Q : RT1} (h : F96_0 (fr 0) H Q) : xCode Tryz.prog 19 (bodyOf Tryz.f96) (xRet Tryz.prog [.tmp 2] Q) fr H :=
  Eq.mp (by kernel_rfl) h
theorem E96 {t0 : Value} {H : Hp} {Q : RT1} (h : F96_0 t0 H Q) : NCalls Tryz.prog 96 #[t0] H Q :=
  NCalls.ofBody (by kernel_rfl) Tryz.func96 (by kernel_rfl) (by kernel_rfl) (Eq.mp (by kernel_rfl) (A96_0 (fr := fun i => (#[t0] : Array Value).getD i undef) (H := H) (Q := Q) (Eq.mp (by kernel_rfl) h)))
def F97_3 (H : Hp) (Q : RT1) : Prop :=
  Q (Value.bool false) H
def F97_7 (t0 t3 t32 t33 : Value) (H : Hp) (Q : RT1) : Prop :=
  condV t33 (
    q (Nz t0) fun t38_1 =>
    q (Fa 8 t38_1) fun t39_2 =>
    q (Ld H t39_2) fun t40_3 =>
    q (pv Tryz.prog (Op.unary .not t40_3)) fun t41_4 =>
    Q t41_4 H) (
    q (Bin Tryz.prog H .eql 3 true t32 (Value.int IntKind.i64 10)) fun t43_5 =>
    condV t43_5 (
      q (Nz t0) fun t45_6 =>
      q (Fa 8 t45_6) fun t46_7 =>
      q (Ld H t46_7) fun t47_8 =>
      q (gd t47_8 true (some t0)) fun t49_9 =>
      q (gd t47_8 true (Nz t49_9)) fun t50_10 =>
      q (gd t47_8 true (Fa 12 t50_10)) fun t51_11 =>
      q (gd t47_8 true (Ld H t51_11)) fun t52_12 =>
      q (gd t47_8 true (Fa 2 t3)) fun t53_13 =>
      q (gd t47_8 true (Ld H t53_13)) fun t54_14 =>
      q (gd t47_8 true (Ix 1 t52_12 t54_14)) fun t55_15 =>
      q (gd t47_8 true (Ld H t55_15)) fun t56_16 =>
      q (Pk t47_8 t56_16 (Value.bool false)) fun t57_17 =>
      Q t57_17 H) (
      q (Bin Tryz.prog H .eql 3 true t32 (Value.int IntKind.i64 11)) fun t59_18 =>
      condV t59_18 (
        q (Nz t0) fun t61_19 =>
        q (Fa 8 t61_19) fun t62_20 =>
        q (Ld H t62_20) fun t63_21 =>
        q (gd t63_21 true (some t0)) fun t65_22 =>
        q (gd t63_21 true (Nz t65_22)) fun t66_23 =>
        q (gd t63_21 true (Fa 11 t66_23)) fun t67_24 =>
        q (gd t63_21 true (Ld H t67_24)) fun t68_25 =>
        q (gd t63_21 true (Fa 2 t3)) fun t69_26 =>
        q (gd t63_21 true (Ld H t69_26)) fun t70_27 =>
        q (gd t63_21 true (Bin Tryz.prog H .eql 3 false t68_25 t70_27)) fun t71_28 =>
        q (Pk t63_21 t71_28 (Value.bool false)) fun t72_29 =>
        Q t72_29 H) (
        q (Bin Tryz.prog H .eql 3 true t32 (Value.int IntKind.i64 12)) fun t74_30 =>
        condV t74_30 (
          q (Nz t0) fun t76_31 =>
          q (Fa 8 t76_31) fun t77_32 =>
          q (Ld H t77_32) fun t78_33 =>
          q (gd t78_33 true (some t0)) fun t80_34 =>
          gl t78_33 true (fun K => NCalls Tryz.prog 124 #[t80_34] H K) H fun t81_35 H_35 =>
          q (gd t78_33 true (pv Tryz.prog (Op.unary .not t81_35))) fun t82_36 =>
          q (Pk t78_33 t82_36 (Value.bool false)) fun t83_37 =>
          q (gd t83_37 true (some t0)) fun t85_38 =>
          q (gd t83_37 true (Nz t85_38)) fun t86_39 =>
          q (gd t83_37 true (Fa 9 t86_39)) fun t87_40 =>
          q (gd t83_37 true (Ld H_35 t87_40)) fun t88_41 =>
          q (gd t83_37 true (Fa 2 t3)) fun t89_42 =>
          q (gd t83_37 true (Ld H_35 t89_42)) fun t90_43 =>
          q (gd t83_37 true (Bin Tryz.prog H_35 .eql 3 false t88_41 t90_43)) fun t91_44 =>
          q (Pk t83_37 t91_44 (Value.bool false)) fun t92_45 =>
          Q t92_45 H_35) (
          F97_3 H Q))))
def F97_8 (t0 t3 t32 : Value) (H : Hp) (Q : RT1) : Prop :=
  q (Bin Tryz.prog H .eql 3 true t32 (Value.int IntKind.i64 1)) fun t34_46 =>
  condV t34_46 (
    F97_7 t0 t3 t32 t34_46 H Q) (
    q (Bin Tryz.prog H .eql 3 true t32 (Value.int IntKind.i64 2)) fun t35_47 =>
    condV t35_47 (
      F97_7 t0 t3 t32 t35_47 H Q) (
      q (Bin Tryz.prog H .eql 3 true t32 (Value.int IntKind.i64 3)) fun t36_48 =>
      F97_7 t0 t3 t32 t36_48 H Q))
def F97_6 (t0 t3 t32 : Value) (H : Hp) (Q : RT1) : Prop := F97_8 t0 t3 t32 H Q
def F97_5 (t0 t3 t32 : Value) (H : Hp) (Q : RT1) : Prop := F97_6 t0 t3 t32 H Q
def F97_9 (t0 t3 : Value) (H : Hp) (Q : RT1) : Prop :=
  q (Fa 0 t3) fun t31_49 =>
  q (Ld H t31_49) fun t32_50 =>
  F97_5 t0 t3 t32_50 H Q
def F97_4 (t0 t3 : Value) (H : Hp) (Q : RT1) : Prop := F97_9 t0 t3 H Q
def F97_2 (t0 t3 : Value) (H : Hp) (Q : RT1) : Prop := F97_4 t0 t3 H Q
def F97_10 (t0 t3 : Value) (H : Hp) (Q : RT1) : Prop :=
  q (Fa 1 t3) fun t5_51 =>
  q (Ld H t5_51) fun t6_52 =>
  q (Nz t0) fun t8_53 =>
  q (Fa 0 t8_53) fun t9_54 =>
  q (Ld H t9_54) fun t10_55 =>
  q (Bin Tryz.prog H .neq 3 false t6_52 t10_55) fun t11_56 =>
  q (gd t11_56 false (Fa 3 t3)) fun t13_57 =>
  q (gd t11_56 false (Ld H t13_57)) fun t14_58 =>
  q (gd t11_56 false (Bin Tryz.prog H .neq 3 true t14_58 (Value.int IntKind.i64 (-1)))) fun t15_59 =>
  q (Pk t11_56 (Value.bool true) t15_59) fun t16_60 =>
  q (gd t16_60 false (Fa 2 t3)) fun t18_61 =>
  q (gd t16_60 false (Ld H t18_61)) fun t19_62 =>
  q (gd t16_60 false (Bin Tryz.prog H .lss 3 true t19_62 (Value.int IntKind.i64 0))) fun t20_63 =>
  q (Pk t16_60 (Value.bool true) t20_63) fun t21_64 =>
  q (gd t21_64 false (Fa 2 t3)) fun t23_65 =>
  q (gd t21_64 false (Ld H t23_65)) fun t24_66 =>
  q (gd t21_64 false (some t0)) fun t25_67 =>
  q (gd t21_64 false (Nz t25_67)) fun t26_68 =>
  q (gd t21_64 false (Fa 1 t26_68)) fun t27_69 =>
  q (gd t21_64 false (Ld H t27_69)) fun t28_70 =>
  q (gd t21_64 false (Bin Tryz.prog H .geq 3 false t24_66 t28_70)) fun t29_71 =>
  q (Pk t21_64 (Value.bool true) t29_71) fun t30_72 =>
  condV t30_72 (
    Q (Value.bool false) H) (
    F97_2 t0 t3 H Q)
def F97_1 (t0 t3 : Value) (H : Hp) (Q : RT1) : Prop := F97_10 t0 t3 H Q
def F97_11 (t0 t1 : Value) (H : Hp) (Q : RT1) : Prop :=
  New (Value.cells t1) 66 H (fun t3_73 H_73 =>
  F97_1 t0 t3_73 H_73 Q)
def F97_0 (t0 t1 : Value) (H : Hp) (Q : RT1) : Prop := F97_11 t0 t1 H Q
theorem A97_3 {fr : Fr} {H : Hp} {Q : RT1} (h : F97_3 H Q) : xCode Tryz.prog 93 (Code.r (Code.r (Code.r (bodyOf Tryz.f97)))) (xRet Tryz.prog [.tmp 4] Q) fr H :=
  Eq.mp (by kernel_rfl) h
abbrev K97_12 (Q : RT1) : QT := thenK (fun fr H => F97_3 H Q) (xRet Tryz.prog [.tmp 4] Q)
theorem A97_7 {fr : Fr} {H : Hp} {Q : RT1} (h : F97_7 (fr 0) (fr 3) (fr 32) (fr 33) H Q) : xCode Tryz.prog 93 (Code.r (Code.l (Code.r (Code.l (Code.r (Code.r (bodyOf Tryz.f97))))))) (blockK 0 (K97_12 Q)) fr H :=
  Eq.mp (by kernel_rfl) h
theorem A97_8 {fr : Fr} {H : Hp} {Q : RT1} (h : F97_8 (fr 0) (fr 3) (fr 32) H Q) : xCode Tryz.prog 93 (Code.l (Code.l (Code.r (Code.l (Code.r (Code.r (bodyOf Tryz.f97))))))) (thenK (fun fr H => F97_7 (fr 0) (fr 3) (fr 32) (fr 33) H Q) (blockK 0 (K97_12 Q))) fr H :=
  Eq.mp (by kernel_rfl) h
theorem A97_6 {fr : Fr} {H : Hp} {Q : RT1} (h : F97_6 (fr 0) (fr 3) (fr 32) H Q) : xCode Tryz.prog 93 (Code.l (Code.r (Code.l (Code.r (Code.r (bodyOf Tryz.f97)))))) (blockK 0 (K97_12 Q)) fr H :=
  seq_cut (by kernel_rfl) (fun _ _ h => A97_7 h) (A97_8 h)
theorem A97_5 {fr : Fr} {H : Hp} {Q : RT1} (h : F97_5 (fr 0) (fr 3) (fr 32) H Q) : xCode Tryz.prog 93 (Code.r (Code.l (Code.r (Code.r (bodyOf Tryz.f97))))) (K97_12 Q) fr H :=
  block_cut (by kernel_rfl) (A97_6 h)
theorem A97_9 {fr : Fr} {H : Hp} {Q : RT1} (h : F97_9 (fr 0) (fr 3) H Q) : xCode Tryz.prog 93 (Code.l (Code.l (Code.r (Code.r (bodyOf Tryz.f97))))) (thenK (fun fr H => F97_5 (fr 0) (fr 3) (fr 32) H Q) (K97_12 Q)) fr H :=
  Eq.mp (by kernel_rfl) h
theorem A97_4 {fr : Fr} {H : Hp} {Q : RT1} (h : F97_4 (fr 0) (fr 3) H Q) : xCode Tryz.prog 93 (Code.l (Code.r (Code.r (bodyOf Tryz.f97)))) (K97_12 Q) fr H :=
  seq_cut (by kernel_rfl) (fun _ _ h => A97_5 h) (A97_9 h)
theorem A97_2 {fr : Fr} {H : Hp} {Q : RT1} (h : F97_2 (fr 0) (fr 3) H Q) : xCode Tryz.prog 93 (Code.r (Code.r (bodyOf Tryz.f97))) (xRet Tryz.prog [.tmp 4] Q) fr H :=
  seq_cut (by kernel_rfl) (fun _ _ h => A97_3 h) (A97_4 h)
theorem A97_10 {fr : Fr} {H : Hp} {Q : RT1} (h : F97_10 (fr 0) (fr 3) H Q) : xCode Tryz.prog 93 (Code.l (Code.r (bodyOf Tryz.f97))) (thenK (fun fr H => F97_2 (fr 0) (fr 3) H Q) (xRet Tryz.prog [.tmp 4] Q)) fr H :=
  Eq.mp (by kernel_rfl) h
theorem A97_1 {fr : Fr} {H : Hp} {Q : RT1} (h : F97_1 (fr 0) (fr 3) H Q) : xCode Tryz.prog 93 (Code.r (bodyOf Tryz.f97)) (xRet Tryz.prog [.tmp 4] Q) fr H :=
  seq_cut (by kernel_rfl) (fun _ _ h => A97_2 h) (A97_10 h)
theorem A97_11 {fr : Fr} {H : Hp} {Q : RT1} (h : F97_11 (fr 0) (fr 1) H Q) : xCode Tryz.prog 93 (Code.l (bodyOf Tryz.f97)) (thenK (fun fr H => F97_1 (fr 0) (fr 3) H Q) (xRet Tryz.prog [.tmp 4] Q)) fr H :=
  Eq.mp (by kernel_rfl) h
theorem A97_0 {fr : Fr} {H : Hp} {Q : RT1} (h : F97_0 (fr 0) (fr 1) H Q) : xCode Tryz.prog 93 (bodyOf Tryz.f97) (xRet Tryz.prog [.tmp 4] Q) fr H :=
  seq_cut (by kernel_rfl) (fun _ _ h => A97_1 h) (A97_11 h)
theorem E97 {t0 t1 : Value} {H : Hp} {Q : RT1} (h : F97_0 t0 t1 H Q) : NCalls Tryz.prog 97 #[t0, t1] H Q :=
  NCalls.ofBody (by kernel_rfl) Tryz.func97 (by kernel_rfl) (by kernel_rfl) (Eq.mp (by kernel_rfl) (A97_0 (fr := fun i => (#[t0, t1] : Array Value).getD i undef) (H := H) (Q := Q) (Eq.mp (by kernel_rfl) h)))
def F98_3 (t0 : Value) (H : Hp) (Q : RT1) : Prop :=
  q (Nz t0) fun t100_1 =>
  q (Fa 8 t100_1) fun t101_2 =>
  St 1 H t101_2 (Value.bool false) ((fun u_3 H_3 =>
  Q (Value.slice none 0 0) H_3) undef)
def F98_8 (t0 t3 : Value) (H : Hp) (Q : RT1) : Prop :=
  q (Fa 2 t3) fun t18_4 =>
  q (Ld H t18_4) fun t19_5 =>
  q (Fa 0 t3) fun t20_6 =>
  q (Ld H t20_6) fun t21_7 =>
  q (pv Tryz.prog (Instr.build 66 #[])) fun t22_8 =>
  q (Nz t0) fun t23_9 =>
  q (Fa 8 t23_9) fun t24_10 =>
  St 1 H t24_10 (Value.bool true) ((fun u_11 H_11 =>
  (Ld H_11 t20_6) = some t21_7 ∧ (
  (Ld H_11 t18_4) = some t19_5 ∧ (
  q (Nz t0) fun t25_12 =>
  q (Fa 9 t25_12) fun t26_13 =>
  St 1 H_11 t26_13 t19_5 ((fun u_14 H_14 =>
  (Ld H_14 t20_6) = some t21_7 ∧ (
  q (Nz t0) fun t27_15 =>
  q (Fa 10 t27_15) fun t28_16 =>
  St 1 H_14 t28_16 t21_7 ((fun u_17 H_17 =>
  q (Nz t0) fun t29_18 =>
  q (Fa 13 t29_18) fun t30_19 =>
  St 11 H_17 t30_19 t22_8 ((fun u_20 H_20 =>
  q (Fa 0 t3) fun t31_21 =>
  q (Ld H_20 t31_21) fun t32_22 =>
  q (Bin Tryz.prog H_20 .eql 3 true t32_22 (Value.int IntKind.i64 1)) fun t33_23 =>
  condV t33_23 (
    NCalls Tryz.prog 125 #[t0] H_20 (fun t35_24 H_24 =>
    Q t35_24 H_24)) (
    NCalls Tryz.prog 126 #[t0] H_20 (fun t37_25 H_25 =>
    Q t37_25 H_25))) undef)) undef))) undef)))) undef)
def F98_12 (t0 t3 : Value) (H : Hp) (Q : RT1) : Prop :=
  q (Nz t0) fun t58_26 =>
  q (Fa 7 t58_26) fun t59_27 =>
  q (Ld H t59_27) fun t60_28 =>
  q (Fa 2 t3) fun t61_29 =>
  q (Ld H t61_29) fun t62_30 =>
  q (Ix 1 t60_28 t62_30) fun t63_31 =>
  St 1 H t63_31 (Value.bool false) ((fun u_32 H_32 =>
  q (Fa 2 t3) fun t65_33 =>
  q (Ld H_32 t65_33) fun t66_34 =>
  NCalls Tryz.prog 127 #[t0, t66_34, (Value.int IntKind.i64 9)] H_32 (fun t67_35 H_35 =>
  Bsl #[Value.int IntKind.i64 0, Value.int IntKind.i64 0, Value.int IntKind.i64 0, Value.int IntKind.i64 0, Value.int IntKind.u32 0, Value.int IntKind.u32 0, Value.int IntKind.u32 0, Value.int IntKind.u32 0, Value.bool false, Value.bool false, Value.bool false] 11 66 1 [(0, t67_35)] H_35 (fun t68_36 H_36 =>
  Q t68_36 H_36))) undef)
def F98_16 (t0 t3 : Value) (H : Hp) (Q : RT1) : Prop :=
  q (Nz t0) fun t55_37 =>
  q (Fa 6 t55_37) fun t56_38 =>
  St 1 H t56_38 (Value.int IntKind.i64 (-1)) ((fun u_39 H_39 =>
  F98_12 t0 t3 H_39 Q) undef)
def F98_17 (t0 t3 : Value) (H : Hp) (Q : RT1) : Prop :=
  q (Fa 9 t3) fun t47_40 =>
  q (Ld H t47_40) fun t48_41 =>
  condV t48_41 (
    q (Fa 4 t3) fun t50_42 =>
    q (LdA 4 H t50_42) fun t51_43 =>
    q (Nz t0) fun t52_44 =>
    q (Fa 2 t52_44) fun t53_45 =>
    St 4 H t53_45 t51_43 ((fun u_46 H_46 =>
    F98_16 t0 t3 H_46 Q) undef)) (
    F98_16 t0 t3 H Q)
def F98_15 (t0 t3 : Value) (H : Hp) (Q : RT1) : Prop := F98_17 t0 t3 H Q
def F98_18 (t0 t3 : Value) (H : Hp) (Q : RT1) : Prop :=
  F98_12 t0 t3 H Q
def F98_14 (t0 t3 t46 : Value) (H : Hp) (Q : RT1) : Prop := condV t46 (F98_15 t0 t3 H Q) (F98_18 t0 t3 H Q)
def F98_19 (t0 t3 : Value) (H : Hp) (Q : RT1) : Prop :=
  q (Fa 2 t3) fun t40_47 =>
  q (Ld H t40_47) fun t41_48 =>
  q (Nz t0) fun t43_49 =>
  q (Fa 6 t43_49) fun t44_50 =>
  q (Ld H t44_50) fun t45_51 =>
  q (Bin Tryz.prog H .eql 3 false t41_48 t45_51) fun t46_52 =>
  F98_14 t0 t3 t46_52 H Q
def F98_13 (t0 t3 : Value) (H : Hp) (Q : RT1) : Prop := F98_19 t0 t3 H Q
def F98_11 (t0 t3 : Value) (H : Hp) (Q : RT1) : Prop := F98_13 t0 t3 H Q
def F98_20 (t0 t3 t10 : Value) (H : Hp) (Q : RT1) : Prop :=
  q (Bin Tryz.prog H .eql 3 true t10 (Value.int IntKind.i64 10)) fun t70_53 =>
  condV t70_53 (
    q (Nz t0) fun t72_54 =>
    q (Fa 12 t72_54) fun t73_55 =>
    q (Ld H t73_55) fun t74_56 =>
    q (Fa 2 t3) fun t75_57 =>
    q (Ld H t75_57) fun t76_58 =>
    q (Ix 1 t74_56 t76_58) fun t77_59 =>
    St 1 H t77_59 (Value.bool false) ((fun u_60 H_60 =>
    NCalls Tryz.prog 128 #[t0] H_60 (fun t79_61 H_61 =>
    Q t79_61 H_61)) undef)) (
    q (Bin Tryz.prog H .eql 3 true t10 (Value.int IntKind.i64 11)) fun t81_62 =>
    condV t81_62 (
      q (LdA 11 H t3) fun t84_63 =>
      q (Nz t0) fun t85_64 =>
      q (Fa 11 t85_64) fun t86_65 =>
      St 1 H t86_65 (Value.int IntKind.i64 (-1)) ((fun u_66 H_66 =>
      (LdA 11 H_66 t3) = some t84_63 ∧ (
      q (Nz t0) fun t87_67 =>
      q (Fa 13 t87_67) fun t88_68 =>
      St 11 H_66 t88_68 t84_63 ((fun u_69 H_69 =>
      q (Nz t0) fun t90_70 =>
      q (Fa 10 t90_70) fun t91_71 =>
      q (Ld H_69 t91_71) fun t92_72 =>
      q (Bin Tryz.prog H_69 .eql 3 true t92_72 (Value.int IntKind.i64 1)) fun t93_73 =>
      condV t93_73 (
        q (LdA 11 H_69 t3) fun t95_74 =>
        NCalls Tryz.prog 129 #[t0, t95_74] H_69 (fun t96_75 H_75 =>
        Q t96_75 H_75)) (
        NCalls Tryz.prog 128 #[t0] H_69 (fun t98_76 H_76 =>
        Q t98_76 H_76))) undef))) undef)) (
      F98_3 t0 H Q))
def F98_10 (t0 t3 t10 t38 : Value) (H : Hp) (Q : RT1) : Prop := condV t38 (F98_11 t0 t3 H Q) (F98_20 t0 t3 t10 H Q)
def F98_21 (t0 t3 t10 : Value) (H : Hp) (Q : RT1) : Prop :=
  q (Bin Tryz.prog H .eql 3 true t10 (Value.int IntKind.i64 3)) fun t39_77 =>
  F98_10 t0 t3 t10 t39_77 H Q
def F98_9 (t0 t3 t10 : Value) (H : Hp) (Q : RT1) : Prop := F98_21 t0 t3 t10 H Q
def F98_7 (t0 t3 t10 t11 : Value) (H : Hp) (Q : RT1) : Prop := condV t11 (F98_8 t0 t3 H Q) (F98_9 t0 t3 t10 H Q)
def F98_22 (t0 t3 t10 : Value) (H : Hp) (Q : RT1) : Prop :=
  q (Bin Tryz.prog H .eql 3 true t10 (Value.int IntKind.i64 1)) fun t12_78 =>
  condV t12_78 (
    F98_7 t0 t3 t10 t12_78 H Q) (
    q (Bin Tryz.prog H .eql 3 true t10 (Value.int IntKind.i64 2)) fun t13_79 =>
    F98_7 t0 t3 t10 t13_79 H Q)
def F98_6 (t0 t3 t10 : Value) (H : Hp) (Q : RT1) : Prop := F98_22 t0 t3 t10 H Q
def F98_5 (t0 t3 t10 : Value) (H : Hp) (Q : RT1) : Prop := F98_6 t0 t3 t10 H Q
def F98_23 (t0 t3 : Value) (H : Hp) (Q : RT1) : Prop :=
  q (Fa 0 t3) fun t9_80 =>
  q (Ld H t9_80) fun t10_81 =>
  F98_5 t0 t3 t10_81 H Q
def F98_4 (t0 t3 : Value) (H : Hp) (Q : RT1) : Prop := F98_23 t0 t3 H Q
def F98_2 (t0 t3 : Value) (H : Hp) (Q : RT1) : Prop := F98_4 t0 t3 H Q
def F98_24 (t0 t3 : Value) (H : Hp) (Q : RT1) : Prop :=
  q (LdA 11 H t3) fun t6_82 =>
  NCalls Tryz.prog 97 #[t0, t6_82] H (fun t7_83 H_83 =>
  q (pv Tryz.prog (Op.unary .not t7_83)) fun t8_84 =>
  condV t8_84 (
    Q (Value.slice none 0 0) H_83) (
    F98_2 t0 t3 H_83 Q))
def F98_1 (t0 t3 : Value) (H : Hp) (Q : RT1) : Prop := F98_24 t0 t3 H Q
def F98_25 (t0 t1 : Value) (H : Hp) (Q : RT1) : Prop :=
  New (Value.cells t1) 66 H (fun t3_85 H_85 =>
  F98_1 t0 t3_85 H_85 Q)
def F98_0 (t0 t1 : Value) (H : Hp) (Q : RT1) : Prop := F98_25 t0 t1 H Q
theorem A98_3 {fr : Fr} {H : Hp} {Q : RT1} (h : F98_3 (fr 0) H Q) : xCode Tryz.prog 102 (Code.r (Code.r (Code.r (bodyOf Tryz.f98)))) (xRet Tryz.prog [.tmp 4] Q) fr H :=
  Eq.mp (by kernel_rfl) h
abbrev K98_13 (Q : RT1) : QT := thenK (fun fr H => F98_3 (fr 0) H Q) (xRet Tryz.prog [.tmp 4] Q)
theorem A98_8 {fr : Fr} {H : Hp} {Q : RT1} (h : F98_8 (fr 0) (fr 3) H Q) : xCode Tryz.prog 102 (Code.l (Code.r (Code.l (Code.r (Code.l (Code.r (Code.r (bodyOf Tryz.f98)))))))) (blockK 0 (K98_13 Q)) fr H :=
  Eq.mp (by kernel_rfl) h
theorem A98_12 {fr : Fr} {H : Hp} {Q : RT1} (h : F98_12 (fr 0) (fr 3) H Q) : xCode Tryz.prog 102 (Code.r (Code.l (Code.r (Code.r (Code.r (Code.l (Code.r (Code.l (Code.r (Code.r (bodyOf Tryz.f98))))))))))) (blockK 0 (K98_13 Q)) fr H :=
  Eq.mp (by kernel_rfl) h
abbrev K98_14 (Q : RT1) : QT := thenK (fun fr H => F98_12 (fr 0) (fr 3) H Q) (blockK 0 (K98_13 Q))
theorem A98_16 {fr : Fr} {H : Hp} {Q : RT1} (h : F98_16 (fr 0) (fr 3) H Q) : xCode Tryz.prog 102 (Code.r (Code.l (Code.r (Code.l (Code.l (Code.r (Code.r (Code.r (Code.l (Code.r (Code.l (Code.r (Code.r (bodyOf Tryz.f98)))))))))))))) (K98_14 Q) fr H :=
  Eq.mp (by kernel_rfl) h
theorem A98_17 {fr : Fr} {H : Hp} {Q : RT1} (h : F98_17 (fr 0) (fr 3) H Q) : xCode Tryz.prog 102 (Code.l (Code.l (Code.r (Code.l (Code.l (Code.r (Code.r (Code.r (Code.l (Code.r (Code.l (Code.r (Code.r (bodyOf Tryz.f98)))))))))))))) (thenK (fun fr H => F98_16 (fr 0) (fr 3) H Q) (K98_14 Q)) fr H :=
  Eq.mp (by kernel_rfl) h
theorem A98_15 {fr : Fr} {H : Hp} {Q : RT1} (h : F98_15 (fr 0) (fr 3) H Q) : xCode Tryz.prog 102 (Code.l (Code.r (Code.l (Code.l (Code.r (Code.r (Code.r (Code.l (Code.r (Code.l (Code.r (Code.r (bodyOf Tryz.f98))))))))))))) (K98_14 Q) fr H :=
  seq_cut (by kernel_rfl) (fun _ _ h => A98_16 h) (A98_17 h)
theorem A98_18 {fr : Fr} {H : Hp} {Q : RT1} (h : F98_18 (fr 0) (fr 3) H Q) : xCode Tryz.prog 102 (Code.r (Code.r (Code.l (Code.l (Code.r (Code.r (Code.r (Code.l (Code.r (Code.l (Code.r (Code.r (bodyOf Tryz.f98))))))))))))) (K98_14 Q) fr H :=
  Eq.mp (by kernel_rfl) h
theorem A98_14 {fr : Fr} {H : Hp} {Q : RT1} (h : F98_14 (fr 0) (fr 3) (fr 46) H Q) : xCode Tryz.prog 102 (Code.r (Code.l (Code.l (Code.r (Code.r (Code.r (Code.l (Code.r (Code.l (Code.r (Code.r (bodyOf Tryz.f98)))))))))))) (K98_14 Q) fr H :=
  cond_cut (x := (Go.Operand.tmp 46)) (by kernel_rfl) (fun h => A98_15 h) (fun h => A98_18 h) h
theorem A98_19 {fr : Fr} {H : Hp} {Q : RT1} (h : F98_19 (fr 0) (fr 3) H Q) : xCode Tryz.prog 102 (Code.l (Code.l (Code.l (Code.r (Code.r (Code.r (Code.l (Code.r (Code.l (Code.r (Code.r (bodyOf Tryz.f98)))))))))))) (thenK (fun fr H => F98_14 (fr 0) (fr 3) (fr 46) H Q) (K98_14 Q)) fr H :=
  Eq.mp (by kernel_rfl) h
theorem A98_13 {fr : Fr} {H : Hp} {Q : RT1} (h : F98_13 (fr 0) (fr 3) H Q) : xCode Tryz.prog 102 (Code.l (Code.l (Code.r (Code.r (Code.r (Code.l (Code.r (Code.l (Code.r (Code.r (bodyOf Tryz.f98))))))))))) (K98_14 Q) fr H :=
  seq_cut (by kernel_rfl) (fun _ _ h => A98_14 h) (A98_19 h)
theorem A98_11 {fr : Fr} {H : Hp} {Q : RT1} (h : F98_11 (fr 0) (fr 3) H Q) : xCode Tryz.prog 102 (Code.l (Code.r (Code.r (Code.r (Code.l (Code.r (Code.l (Code.r (Code.r (bodyOf Tryz.f98)))))))))) (blockK 0 (K98_13 Q)) fr H :=
  seq_cut (by kernel_rfl) (fun _ _ h => A98_12 h) (A98_13 h)
theorem A98_20 {fr : Fr} {H : Hp} {Q : RT1} (h : F98_20 (fr 0) (fr 3) (fr 10) H Q) : xCode Tryz.prog 102 (Code.r (Code.r (Code.r (Code.r (Code.l (Code.r (Code.l (Code.r (Code.r (bodyOf Tryz.f98)))))))))) (blockK 0 (K98_13 Q)) fr H :=
  Eq.mp (by kernel_rfl) h
theorem A98_10 {fr : Fr} {H : Hp} {Q : RT1} (h : F98_10 (fr 0) (fr 3) (fr 10) (fr 38) H Q) : xCode Tryz.prog 102 (Code.r (Code.r (Code.r (Code.l (Code.r (Code.l (Code.r (Code.r (bodyOf Tryz.f98))))))))) (blockK 0 (K98_13 Q)) fr H :=
  cond_cut (x := (Go.Operand.tmp 38)) (by kernel_rfl) (fun h => A98_11 h) (fun h => A98_20 h) h
theorem A98_21 {fr : Fr} {H : Hp} {Q : RT1} (h : F98_21 (fr 0) (fr 3) (fr 10) H Q) : xCode Tryz.prog 102 (Code.l (Code.r (Code.r (Code.l (Code.r (Code.l (Code.r (Code.r (bodyOf Tryz.f98))))))))) (thenK (fun fr H => F98_10 (fr 0) (fr 3) (fr 10) (fr 38) H Q) (blockK 0 (K98_13 Q))) fr H :=
  Eq.mp (by kernel_rfl) h
theorem A98_9 {fr : Fr} {H : Hp} {Q : RT1} (h : F98_9 (fr 0) (fr 3) (fr 10) H Q) : xCode Tryz.prog 102 (Code.r (Code.r (Code.l (Code.r (Code.l (Code.r (Code.r (bodyOf Tryz.f98)))))))) (blockK 0 (K98_13 Q)) fr H :=
  seq_cut (by kernel_rfl) (fun _ _ h => A98_10 h) (A98_21 h)
theorem A98_7 {fr : Fr} {H : Hp} {Q : RT1} (h : F98_7 (fr 0) (fr 3) (fr 10) (fr 11) H Q) : xCode Tryz.prog 102 (Code.r (Code.l (Code.r (Code.l (Code.r (Code.r (bodyOf Tryz.f98))))))) (blockK 0 (K98_13 Q)) fr H :=
  cond_cut (x := (Go.Operand.tmp 11)) (by kernel_rfl) (fun h => A98_8 h) (fun h => A98_9 h) h
theorem A98_22 {fr : Fr} {H : Hp} {Q : RT1} (h : F98_22 (fr 0) (fr 3) (fr 10) H Q) : xCode Tryz.prog 102 (Code.l (Code.l (Code.r (Code.l (Code.r (Code.r (bodyOf Tryz.f98))))))) (thenK (fun fr H => F98_7 (fr 0) (fr 3) (fr 10) (fr 11) H Q) (blockK 0 (K98_13 Q))) fr H :=
  Eq.mp (by kernel_rfl) h
theorem A98_6 {fr : Fr} {H : Hp} {Q : RT1} (h : F98_6 (fr 0) (fr 3) (fr 10) H Q) : xCode Tryz.prog 102 (Code.l (Code.r (Code.l (Code.r (Code.r (bodyOf Tryz.f98)))))) (blockK 0 (K98_13 Q)) fr H :=
  seq_cut (by kernel_rfl) (fun _ _ h => A98_7 h) (A98_22 h)
theorem A98_5 {fr : Fr} {H : Hp} {Q : RT1} (h : F98_5 (fr 0) (fr 3) (fr 10) H Q) : xCode Tryz.prog 102 (Code.r (Code.l (Code.r (Code.r (bodyOf Tryz.f98))))) (K98_13 Q) fr H :=
  block_cut (by kernel_rfl) (A98_6 h)
theorem A98_23 {fr : Fr} {H : Hp} {Q : RT1} (h : F98_23 (fr 0) (fr 3) H Q) : xCode Tryz.prog 102 (Code.l (Code.l (Code.r (Code.r (bodyOf Tryz.f98))))) (thenK (fun fr H => F98_5 (fr 0) (fr 3) (fr 10) H Q) (K98_13 Q)) fr H :=
  Eq.mp (by kernel_rfl) h
theorem A98_4 {fr : Fr} {H : Hp} {Q : RT1} (h : F98_4 (fr 0) (fr 3) H Q) : xCode Tryz.prog 102 (Code.l (Code.r (Code.r (bodyOf Tryz.f98)))) (K98_13 Q) fr H :=
  seq_cut (by kernel_rfl) (fun _ _ h => A98_5 h) (A98_23 h)
theorem A98_2 {fr : Fr} {H : Hp} {Q : RT1} (h : F98_2 (fr 0) (fr 3) H Q) : xCode Tryz.prog 102 (Code.r (Code.r (bodyOf Tryz.f98))) (xRet Tryz.prog [.tmp 4] Q) fr H :=
  seq_cut (by kernel_rfl) (fun _ _ h => A98_3 h) (A98_4 h)
theorem A98_24 {fr : Fr} {H : Hp} {Q : RT1} (h : F98_24 (fr 0) (fr 3) H Q) : xCode Tryz.prog 102 (Code.l (Code.r (bodyOf Tryz.f98))) (thenK (fun fr H => F98_2 (fr 0) (fr 3) H Q) (xRet Tryz.prog [.tmp 4] Q)) fr H :=
  Eq.mp (by kernel_rfl) h
theorem A98_1 {fr : Fr} {H : Hp} {Q : RT1} (h : F98_1 (fr 0) (fr 3) H Q) : xCode Tryz.prog 102 (Code.r (bodyOf Tryz.f98)) (xRet Tryz.prog [.tmp 4] Q) fr H :=
  seq_cut (by kernel_rfl) (fun _ _ h => A98_2 h) (A98_24 h)
theorem A98_25 {fr : Fr} {H : Hp} {Q : RT1} (h : F98_25 (fr 0) (fr 1) H Q) : xCode Tryz.prog 102 (Code.l (bodyOf Tryz.f98)) (thenK (fun fr H => F98_1 (fr 0) (fr 3) H Q) (xRet Tryz.prog [.tmp 4] Q)) fr H :=
  Eq.mp (by kernel_rfl) h
theorem A98_0 {fr : Fr} {H : Hp} {Q : RT1} (h : F98_0 (fr 0) (fr 1) H Q) : xCode Tryz.prog 102 (bodyOf Tryz.f98) (xRet Tryz.prog [.tmp 4] Q) fr H :=
  seq_cut (by kernel_rfl) (fun _ _ h => A98_1 h) (A98_25 h)
theorem E98 {t0 t1 : Value} {H : Hp} {Q : RT1} (h : F98_0 t0 t1 H Q) : NCalls Tryz.prog 98 #[t0, t1] H Q :=
  NCalls.ofBody (by kernel_rfl) Tryz.func98 (by kernel_rfl) (by kernel_rfl) (Eq.mp (by kernel_rfl) (A98_0 (fr := fun i => (#[t0, t1] : Array Value).getD i undef) (H := H) (Q := Q) (Eq.mp (by kernel_rfl) h)))
def F99_4 (H : Hp) (Q : RT1) : Prop :=
  Q (Value.bool true) H
def F99_8 (t0 t32 : Value) (H : Hp) (R7 : RT2) (Q : RT1) : Prop :=
  dm Tryz.prog (Instr.next t32 false 0) H (fun t33_1 H_1 =>
  q (Ex 0 t33_1) fun t34_2 =>
  condV t34_2 (
    q (rd Tryz.prog H_1 (Instr.entry t32)) fun t35_3 =>
    q (Ex 0 t35_3) fun t36_4 =>
    q (Ex 1 t35_3) fun t37_5 =>
    New #[Value.int IntKind.i64 0, Value.int IntKind.i64 0, Value.int IntKind.i64 0] 198 H_1 (fun t8_6 H_6 =>
    St 3 H_6 t8_6 t36_4 ((fun u_7 H_7 =>
    q (Nz t0) fun t39_8 =>
    q (Fa 2 t39_8) fun t40_9 =>
    q (Ld H_7 t40_9) fun t41_10 =>
    q (IxA 3 1 t8_6 (Value.int IntKind.i64 0)) fun t42_11 =>
    q (Ld H_7 t42_11) fun t43_12 =>
    q (IxA 3 1 t8_6 (Value.int IntKind.i64 1)) fun t44_13 =>
    q (Ld H_7 t44_13) fun t45_14 =>
    q (IxA 3 1 t8_6 (Value.int IntKind.i64 2)) fun t46_15 =>
    q (Ld H_7 t46_15) fun t47_16 =>
    NCalls Tryz.prog 130 #[t41_10, t43_12, t45_14, t47_16] H_7 (fun t48_17 H_17 =>
    q (Bin Tryz.prog H_17 .lss 3 false t48_17 t37_5) fun t50_18 =>
    condV t50_18 (
      Q (Value.bool false) H_17) (
      R7 t0 t32 H_17))) undef))) (
    F99_4 H_1 Q))
def F99_7 (t0 t32 : Value) (H : Hp) (Q : RT1) : Prop :=
  ∃ (I : Hp → Prop) (μ : Hp → Nat), I H ∧ ∀ H1, I H1 → F99_8 t0 t32 H1 (fun m0 m32 H2 => m0 = t0 ∧ m32 = t32 ∧ (I H2 ∧ μ H2 < μ H1)) Q
def F99_6 (t0 t32 : Value) (H : Hp) (Q : RT1) : Prop := F99_7 t0 t32 H Q
def F99_9 (t0 t5 : Value) (H : Hp) (Q : RT1) : Prop :=
  dm Tryz.prog (Instr.range 197 t5) H (fun t32_19 H_19 =>
  F99_6 t0 t32_19 H_19 Q)
def F99_5 (t0 t5 : Value) (H : Hp) (Q : RT1) : Prop := F99_9 t0 t5 H Q
def F99_3 (t0 t5 : Value) (H : Hp) (Q : RT1) : Prop := F99_5 t0 t5 H Q
def F99_13 (t0 t5 t11 t12 t13 : Value) (H : Hp) (R12 : RT5) (Q : RT1) : Prop :=
  q (Bin Tryz.prog H .lss 3 false t13 t12) fun t14_20 =>
  condV t14_20 (
    q (Ix 11 t11 t13) fun t15_21 =>
    q (LdA 11 H t15_21) fun t16_22 =>
    New #[Value.int IntKind.i64 0, Value.int IntKind.i64 0, Value.int IntKind.i64 0, Value.int IntKind.i64 0, Value.int IntKind.u32 0, Value.int IntKind.u32 0, Value.int IntKind.u32 0, Value.int IntKind.u32 0, Value.bool false, Value.bool false, Value.bool false] 66 H (fun t7_23 H_23 =>
    St 11 H_23 t7_23 t16_22 ((fun u_24 H_24 =>
    q (Fa 2 t7_23) fun t18_25 =>
    q (Ld H_24 t18_25) fun t19_26 =>
    q (Fa 3 t7_23) fun t20_27 =>
    q (Ld H_24 t20_27) fun t21_28 =>
    q (Fa 0 t7_23) fun t22_29 =>
    q (Ld H_24 t22_29) fun t23_30 =>
    NCalls Tryz.prog 89 #[t23_30] H_24 (fun t24_31 H_31 =>
    (Ld H_31 t20_27) = some t21_28 ∧ (
    (Ld H_31 t18_25) = some t19_26 ∧ (
    q (pv Tryz.prog (Instr.build 198 #[(0, t19_26), (1, t21_28), (2, t24_31)])) fun t25_32 =>
    q (rd Tryz.prog H_31 (Instr.lookup 197 t5 t25_32 false)) fun t26_33 =>
    q (Bin Tryz.prog H_31 .add 3 true t26_33 (Value.int IntKind.i64 1)) fun t27_34 =>
    dm Tryz.prog (Instr.mapEntry 197 t5 t25_32) H_31 (fun t28_35 H_35 =>
    (rd Tryz.prog H_35 (Instr.lookup 197 t5 t25_32 false)) = some t26_33 ∧ (
    q (Ex 1 t28_35) fun t29_36 =>
    dm Tryz.prog (Instr.entryStore 197 t5 t29_36 t27_34) H_35 fun _ => (fun u_37 H_37 =>
    q (Bin Tryz.prog H_37 .add 3 true t13 (Value.int IntKind.i64 1)) fun t30_38 =>
    R12 t0 t5 t11 t12 t30_38 H_37) undef)))))) undef))) (
    F99_3 t0 t5 H Q)
def F99_12 (t0 t5 t11 t12 t13 : Value) (H : Hp) (Q : RT1) : Prop :=
  ∃ (I : RT1) (μ : Value → Hp → Nat), I t13 H ∧ ∀ n13 H1, I n13 H1 → F99_13 t0 t5 t11 t12 n13 H1 (fun m0 m5 m11 m12 m13 H2 => m0 = t0 ∧ m5 = t5 ∧ m11 = t11 ∧ m12 = t12 ∧ (I m13 H2 ∧ μ m13 H2 < μ n13 H1)) Q
def F99_11 (t0 t5 t11 t12 t13 : Value) (H : Hp) (Q : RT1) : Prop := F99_12 t0 t5 t11 t12 t13 H Q
def F99_14 (t0 t1 t5 : Value) (H : Hp) (Q : RT1) : Prop :=
  q (pv Tryz.prog (Builtin.len_ #[117] 0 #[t1])) fun t12_39 =>
  F99_11 t0 t5 t1 t12_39 (Value.int IntKind.i64 0) H Q
def F99_10 (t0 t1 t5 : Value) (H : Hp) (Q : RT1) : Prop := F99_14 t0 t1 t5 H Q
def F99_2 (t0 t1 t5 : Value) (H : Hp) (Q : RT1) : Prop := F99_10 t0 t1 t5 H Q
def F99_15 (t0 t1 : Value) (H : Hp) (Q : RT1) : Prop :=
  (fun t10_40 H_40 =>
  F99_2 t0 t1 t10_40 H_40 Q) (Value.map (some (Array.size H))) (Array.push H (Obj.map #[] 0))
def F99_1 (t0 t1 : Value) (H : Hp) (Q : RT1) : Prop := F99_15 t0 t1 H Q
def F99_16 (t0 t1 : Value) (H : Hp) (Q : RT1) : Prop :=
  F99_1 t0 t1 H Q
def F99_0 (t0 t1 : Value) (H : Hp) (Q : RT1) : Prop := F99_16 t0 t1 H Q
theorem A99_4 {fr : Fr} {H : Hp} {Q : RT1} (h : F99_4 H Q) : xCode Tryz.prog 51 (Code.r (Code.r (Code.r (Code.r (bodyOf Tryz.f99))))) (xRet Tryz.prog [.tmp 4] Q) fr H :=
  Eq.mp (by kernel_rfl) h
abbrev K99_15 (Q : RT1) : QT := thenK (fun fr H => F99_4 H Q) (xRet Tryz.prog [.tmp 4] Q)
theorem A99_8 {fr : Fr} {H : Hp} {R7 : RT2} {Q : RT1} (h : F99_8 (fr 0) (fr 32) H R7 Q) : xCode Tryz.prog 51 (Code.l (Code.l (Code.r (Code.l (Code.r (Code.r (Code.r (bodyOf Tryz.f99)))))))) (thenK (fun fr H => R7 (fr 0) (fr 32) H) (blockK 2 (K99_15 Q))) fr H :=
  Eq.mp (by kernel_rfl) h
theorem A99_7 {fr : Fr} {H : Hp} {Q : RT1} (h : F99_7 (fr 0) (fr 32) H Q) : xCode Tryz.prog 51 (Code.l (Code.r (Code.l (Code.r (Code.r (Code.r (bodyOf Tryz.f99))))))) (blockK 2 (K99_15 Q)) fr H := by
  obtain ⟨I, μ, h0, hr⟩ := h
  refine loop_cut (a := (Code.l (Code.l (Code.r (Code.l (Code.r (Code.r (Code.r (bodyOf Tryz.f99))))))))) (by kernel_rfl) (fun fr1 H1 => fr1 0 = fr 0 ∧ fr1 32 = fr 32 ∧ I H1) (fun fr1 H1 => μ H1) (by exact ⟨rfl, rfl, h0⟩) ?_
  intro fr1 H1 hI
  obtain ⟨hu0, hu32, hI⟩ := hI
  have hb := hr H1 hI
  rw [← hu0] at hb; rw [← hu32] at hb
  refine ⟨_, ?_, A99_8 hb⟩
  intro fr2 H2 hj
  obtain ⟨ku0, ku32, hI2, hlt⟩ := hj
  exact ⟨⟨(ku0.trans hu0), (ku32.trans hu32), hI2⟩, hlt⟩
theorem A99_6 {fr : Fr} {H : Hp} {Q : RT1} (h : F99_6 (fr 0) (fr 32) H Q) : xCode Tryz.prog 51 (Code.r (Code.l (Code.r (Code.r (Code.r (bodyOf Tryz.f99)))))) (K99_15 Q) fr H :=
  block_cut (by kernel_rfl) (A99_7 h)
theorem A99_9 {fr : Fr} {H : Hp} {Q : RT1} (h : F99_9 (fr 0) (fr 5) H Q) : xCode Tryz.prog 51 (Code.l (Code.l (Code.r (Code.r (Code.r (bodyOf Tryz.f99)))))) (thenK (fun fr H => F99_6 (fr 0) (fr 32) H Q) (K99_15 Q)) fr H :=
  Eq.mp (by kernel_rfl) h
theorem A99_5 {fr : Fr} {H : Hp} {Q : RT1} (h : F99_5 (fr 0) (fr 5) H Q) : xCode Tryz.prog 51 (Code.l (Code.r (Code.r (Code.r (bodyOf Tryz.f99))))) (K99_15 Q) fr H :=
  seq_cut (by kernel_rfl) (fun _ _ h => A99_6 h) (A99_9 h)
theorem A99_3 {fr : Fr} {H : Hp} {Q : RT1} (h : F99_3 (fr 0) (fr 5) H Q) : xCode Tryz.prog 51 (Code.r (Code.r (Code.r (bodyOf Tryz.f99)))) (xRet Tryz.prog [.tmp 4] Q) fr H :=
  seq_cut (by kernel_rfl) (fun _ _ h => A99_4 h) (A99_5 h)
abbrev K99_16 (Q : RT1) : QT := thenK (fun fr H => F99_3 (fr 0) (fr 5) H Q) (xRet Tryz.prog [.tmp 4] Q)
theorem A99_13 {fr : Fr} {H : Hp} {R12 : RT5} {Q : RT1} (h : F99_13 (fr 0) (fr 5) (fr 11) (fr 12) (fr 13) H R12 Q) : xCode Tryz.prog 51 (Code.l (Code.l (Code.r (Code.l (Code.r (Code.r (bodyOf Tryz.f99))))))) (thenK (fun fr H => R12 (fr 0) (fr 5) (fr 11) (fr 12) (fr 13) H) (blockK 0 (K99_16 Q))) fr H :=
  Eq.mp (by kernel_rfl) h
theorem A99_12 {fr : Fr} {H : Hp} {Q : RT1} (h : F99_12 (fr 0) (fr 5) (fr 11) (fr 12) (fr 13) H Q) : xCode Tryz.prog 51 (Code.l (Code.r (Code.l (Code.r (Code.r (bodyOf Tryz.f99)))))) (blockK 0 (K99_16 Q)) fr H := by
  obtain ⟨I, μ, h0, hr⟩ := h
  refine loop_cut (a := (Code.l (Code.l (Code.r (Code.l (Code.r (Code.r (bodyOf Tryz.f99)))))))) (by kernel_rfl) (fun fr1 H1 => fr1 0 = fr 0 ∧ fr1 5 = fr 5 ∧ fr1 11 = fr 11 ∧ fr1 12 = fr 12 ∧ I (fr1 13) H1) (fun fr1 H1 => μ (fr1 13) H1) (by exact ⟨rfl, rfl, rfl, rfl, h0⟩) ?_
  intro fr1 H1 hI
  obtain ⟨hu0, hu5, hu11, hu12, hI⟩ := hI
  have hb := hr (fr1 13) H1 hI
  rw [← hu0] at hb; rw [← hu5] at hb; rw [← hu11] at hb; rw [← hu12] at hb
  refine ⟨_, ?_, A99_13 hb⟩
  intro fr2 H2 hj
  obtain ⟨ku0, ku5, ku11, ku12, hI2, hlt⟩ := hj
  exact ⟨⟨(ku0.trans hu0), (ku5.trans hu5), (ku11.trans hu11), (ku12.trans hu12), hI2⟩, hlt⟩
theorem A99_11 {fr : Fr} {H : Hp} {Q : RT1} (h : F99_11 (fr 0) (fr 5) (fr 11) (fr 12) (fr 13) H Q) : xCode Tryz.prog 51 (Code.r (Code.l (Code.r (Code.r (bodyOf Tryz.f99))))) (K99_16 Q) fr H :=
  block_cut (by kernel_rfl) (A99_12 h)
theorem A99_14 {fr : Fr} {H : Hp} {Q : RT1} (h : F99_14 (fr 0) (fr 1) (fr 5) H Q) : xCode Tryz.prog 51 (Code.l (Code.l (Code.r (Code.r (bodyOf Tryz.f99))))) (thenK (fun fr H => F99_11 (fr 0) (fr 5) (fr 11) (fr 12) (fr 13) H Q) (K99_16 Q)) fr H :=
  Eq.mp (by kernel_rfl) h
theorem A99_10 {fr : Fr} {H : Hp} {Q : RT1} (h : F99_10 (fr 0) (fr 1) (fr 5) H Q) : xCode Tryz.prog 51 (Code.l (Code.r (Code.r (bodyOf Tryz.f99)))) (K99_16 Q) fr H :=
  seq_cut (by kernel_rfl) (fun _ _ h => A99_11 h) (A99_14 h)
theorem A99_2 {fr : Fr} {H : Hp} {Q : RT1} (h : F99_2 (fr 0) (fr 1) (fr 5) H Q) : xCode Tryz.prog 51 (Code.r (Code.r (bodyOf Tryz.f99))) (xRet Tryz.prog [.tmp 4] Q) fr H :=
  seq_cut (by kernel_rfl) (fun _ _ h => A99_3 h) (A99_10 h)
theorem A99_15 {fr : Fr} {H : Hp} {Q : RT1} (h : F99_15 (fr 0) (fr 1) H Q) : xCode Tryz.prog 51 (Code.l (Code.r (bodyOf Tryz.f99))) (thenK (fun fr H => F99_2 (fr 0) (fr 1) (fr 5) H Q) (xRet Tryz.prog [.tmp 4] Q)) fr H :=
  Eq.mp (by kernel_rfl) h
theorem A99_1 {fr : Fr} {H : Hp} {Q : RT1} (h : F99_1 (fr 0) (fr 1) H Q) : xCode Tryz.prog 51 (Code.r (bodyOf Tryz.f99)) (xRet Tryz.prog [.tmp 4] Q) fr H :=
  seq_cut (by kernel_rfl) (fun _ _ h => A99_2 h) (A99_15 h)
theorem A99_16 {fr : Fr} {H : Hp} {Q : RT1} (h : F99_16 (fr 0) (fr 1) H Q) : xCode Tryz.prog 51 (Code.l (bodyOf Tryz.f99)) (thenK (fun fr H => F99_1 (fr 0) (fr 1) H Q) (xRet Tryz.prog [.tmp 4] Q)) fr H :=
  Eq.mp (by kernel_rfl) h
theorem A99_0 {fr : Fr} {H : Hp} {Q : RT1} (h : F99_0 (fr 0) (fr 1) H Q) : xCode Tryz.prog 51 (bodyOf Tryz.f99) (xRet Tryz.prog [.tmp 4] Q) fr H :=
  seq_cut (by kernel_rfl) (fun _ _ h => A99_1 h) (A99_16 h)
theorem E99 {t0 t1 : Value} {H : Hp} {Q : RT1} (h : F99_0 t0 t1 H Q) : NCalls Tryz.prog 99 #[t0, t1] H Q :=
  NCalls.ofBody (by kernel_rfl) Tryz.func99 (by kernel_rfl) (by kernel_rfl) (Eq.mp (by kernel_rfl) (A99_0 (fr := fun i => (#[t0, t1] : Array Value).getD i undef) (H := H) (Q := Q) (Eq.mp (by kernel_rfl) h)))
def F100_3 (t4 t6 t7 : Value) (H : Hp) (Q : RT1) : Prop :=
  q (LdA 11 H t6) fun t37_1 =>
  St 11 H t4 t37_1 ((fun u_2 H_2 =>
  q (LdA 11 H_2 t4) fun r_3 =>
  Q (Value.tuple #[r_3, t7]) H_2) undef)
def F100_4 (t0 t1 t4 t6 t7 : Value) (H : Hp) (Q : RT1) : Prop :=
  condV t7 (
    NCalls Tryz.prog 95 #[t0, t1] H (fun t18_4 H_4 =>
    q (Nz t0) fun t21_5 =>
    q (Fa 3 t21_5) fun t22_6 =>
    q (Ld H_4 t22_6) fun t23_7 =>
    q (Sl 12 t23_7 none (some t18_4) none) fun t25_8 =>
    q (Nz t0) fun t27_9 =>
    q (Fa 3 t27_9) fun t28_10 =>
    q (Ld H_4 t28_10) fun t29_11 =>
    q (Bin Tryz.prog H_4 .add 3 true t18_4 (Value.int IntKind.i64 1)) fun t31_12 =>
    q (Sl 12 t29_11 (some t31_12) none none) fun t32_13 =>
    Bsl #[Value.slice none 0 0] 1 38 2 [(0, t25_8), (1, t32_13)] H_4 (fun t33_14 H_14 =>
    NCalls Tryz.prog 131 #[t33_14] H_14 (fun t34_15 H_15 =>
    q (Nz t0) fun t35_16 =>
    q (Fa 3 t35_16) fun t36_17 =>
    St 1 H_15 t36_17 t34_15 ((fun u_18 H_18 =>
    F100_3 t4 t6 t7 H_18 Q) undef))))) (
    F100_3 t4 t6 t7 H Q)
def F100_2 (t0 t1 t4 t6 t7 : Value) (H : Hp) (Q : RT1) : Prop := F100_4 t0 t1 t4 t6 t7 H Q
def F100_5 (t0 t1 t4 : Value) (H : Hp) (Q : RT1) : Prop :=
  NCalls Tryz.prog 64 #[t0, t1] H (fun t12_19 H_19 =>
  q (Ex 0 t12_19) fun t13_20 =>
  q (Ex 1 t12_19) fun t14_21 =>
  New #[Value.int IntKind.i64 0, Value.int IntKind.i64 0, Value.int IntKind.i64 0, Value.int IntKind.i64 0, Value.int IntKind.u32 0, Value.int IntKind.u32 0, Value.int IntKind.u32 0, Value.int IntKind.u32 0, Value.bool false, Value.bool false, Value.bool false] 66 H_19 (fun t6_22 H_22 =>
  St 11 H_22 t6_22 t13_20 ((fun u_23 H_23 =>
  F100_2 t0 t1 t4 t6_22 t14_21 H_23 Q) undef)))
def F100_1 (t0 t1 t4 : Value) (H : Hp) (Q : RT1) : Prop := F100_5 t0 t1 t4 H Q
def F100_6 (t0 t1 : Value) (H : Hp) (Q : RT1) : Prop :=
  New #[Value.int IntKind.i64 0, Value.int IntKind.i64 0, Value.int IntKind.i64 0, Value.int IntKind.i64 0, Value.int IntKind.u32 0, Value.int IntKind.u32 0, Value.int IntKind.u32 0, Value.int IntKind.u32 0, Value.bool false, Value.bool false, Value.bool false] 66 H (fun t4_24 H_24 =>
  F100_1 t0 t1 t4_24 H_24 Q)
def F100_0 (t0 t1 : Value) (H : Hp) (Q : RT1) : Prop := F100_6 t0 t1 H Q
theorem A100_3 {fr : Fr} {H : Hp} {Q : RT1} (h : F100_3 (fr 4) (fr 6) (fr 7) H Q) : xCode Tryz.prog 39 (Code.r (Code.r (Code.r (bodyOf Tryz.f100)))) (xRet Tryz.prog [.cell 4 66, .tmp 5] Q) fr H :=
  Eq.mp (by kernel_rfl) h
theorem A100_4 {fr : Fr} {H : Hp} {Q : RT1} (h : F100_4 (fr 0) (fr 1) (fr 4) (fr 6) (fr 7) H Q) : xCode Tryz.prog 39 (Code.l (Code.r (Code.r (bodyOf Tryz.f100)))) (thenK (fun fr H => F100_3 (fr 4) (fr 6) (fr 7) H Q) (xRet Tryz.prog [.cell 4 66, .tmp 5] Q)) fr H :=
  Eq.mp (by kernel_rfl) h
theorem A100_2 {fr : Fr} {H : Hp} {Q : RT1} (h : F100_2 (fr 0) (fr 1) (fr 4) (fr 6) (fr 7) H Q) : xCode Tryz.prog 39 (Code.r (Code.r (bodyOf Tryz.f100))) (xRet Tryz.prog [.cell 4 66, .tmp 5] Q) fr H :=
  seq_cut (by kernel_rfl) (fun _ _ h => A100_3 h) (A100_4 h)
theorem A100_5 {fr : Fr} {H : Hp} {Q : RT1} (h : F100_5 (fr 0) (fr 1) (fr 4) H Q) : xCode Tryz.prog 39 (Code.l (Code.r (bodyOf Tryz.f100))) (thenK (fun fr H => F100_2 (fr 0) (fr 1) (fr 4) (fr 6) (fr 7) H Q) (xRet Tryz.prog [.cell 4 66, .tmp 5] Q)) fr H :=
  Eq.mp (by kernel_rfl) h
theorem A100_1 {fr : Fr} {H : Hp} {Q : RT1} (h : F100_1 (fr 0) (fr 1) (fr 4) H Q) : xCode Tryz.prog 39 (Code.r (bodyOf Tryz.f100)) (xRet Tryz.prog [.cell 4 66, .tmp 5] Q) fr H :=
  seq_cut (by kernel_rfl) (fun _ _ h => A100_2 h) (A100_5 h)
theorem A100_6 {fr : Fr} {H : Hp} {Q : RT1} (h : F100_6 (fr 0) (fr 1) H Q) : xCode Tryz.prog 39 (Code.l (bodyOf Tryz.f100)) (thenK (fun fr H => F100_1 (fr 0) (fr 1) (fr 4) H Q) (xRet Tryz.prog [.cell 4 66, .tmp 5] Q)) fr H :=
  Eq.mp (by kernel_rfl) h
theorem A100_0 {fr : Fr} {H : Hp} {Q : RT1} (h : F100_0 (fr 0) (fr 1) H Q) : xCode Tryz.prog 39 (bodyOf Tryz.f100) (xRet Tryz.prog [.cell 4 66, .tmp 5] Q) fr H :=
  seq_cut (by kernel_rfl) (fun _ _ h => A100_1 h) (A100_6 h)
theorem E100 {t0 t1 : Value} {H : Hp} {Q : RT1} (h : F100_0 t0 t1 H Q) : NCalls Tryz.prog 100 #[t0, t1] H Q :=
  NCalls.ofBody (by kernel_rfl) Tryz.func100 (by kernel_rfl) (by kernel_rfl) (Eq.mp (by kernel_rfl) (A100_0 (fr := fun i => (#[t0, t1] : Array Value).getD i undef) (H := H) (Q := Q) (Eq.mp (by kernel_rfl) h)))
def F101_0 (t0 : Value) (H : Hp) (Q : RT1) : Prop :=
  q (Nz t0) fun t5_1 =>
  q (LdA 9 H t5_1) fun t6_2 =>
  New #[Value.int IntKind.i64 0, Value.int IntKind.i64 0, Value.int IntKind.i64 0, Value.int IntKind.u32 0, Value.int IntKind.u32 0, Value.int IntKind.u32 0, Value.int IntKind.u32 0, Value.int IntKind.i64 0, Value.int IntKind.i64 0] 152 H (fun t3_3 H_3 =>
  St 9 H_3 t3_3 t6_2 ((fun u_4 H_4 =>
  Q t3_3 H_4) undef))
theorem A101_0 {fr : Fr} {H : Hp} {Q : RT1} (h : F101_0 (fr 0) H Q) : xCode Tryz.prog 7 (bodyOf Tryz.f101) (xRet Tryz.prog [.tmp 2] Q) fr H :=
  Eq.mp (by kernel_rfl) h
theorem E101 {t0 : Value} {H : Hp} {Q : RT1} (h : F101_0 t0 H Q) : NCalls Tryz.prog 101 #[t0] H Q :=
  NCalls.ofBody (by kernel_rfl) Tryz.func101 (by kernel_rfl) (by kernel_rfl) (Eq.mp (by kernel_rfl) (A101_0 (fr := fun i => (#[t0] : Array Value).getD i undef) (H := H) (Q := Q) (Eq.mp (by kernel_rfl) h)))
def F102_3 (H : Hp) (Q : RT1) : Prop :=
  Q (Value.bool false) H
def F102_7 (t0 t27 t28 : Value) (H : Hp) (Q : RT1) : Prop :=
  condV t28 (
    Q (Value.bool true) H) (
    q (Bin Tryz.prog H .eql 3 true t27 (Value.int IntKind.i64 7)) fun t33_1 =>
    condV t33_1 (
      q (Nz t0) fun t35_2 =>
      q (Fa 7 t35_2) fun t36_3 =>
      q (Ld H t36_3) fun t37_4 =>
      q (Bin Tryz.prog H .eql 3 true t37_4 (Value.int IntKind.i64 1)) fun t38_5 =>
      q (gd t38_5 false (some t0)) fun t40_6 =>
      q (gd t38_5 false (Nz t40_6)) fun t41_7 =>
      q (gd t38_5 false (Fa 7 t41_7)) fun t42_8 =>
      q (gd t38_5 false (Ld H t42_8)) fun t43_9 =>
      q (gd t38_5 false (Bin Tryz.prog H .eql 3 true t43_9 (Value.int IntKind.i64 2))) fun t44_10 =>
      q (Pk t38_5 (Value.bool true) t44_10) fun t45_11 =>
      Q t45_11 H) (
      q (Bin Tryz.prog H .eql 3 true t27 (Value.int IntKind.i64 8)) fun t47_12 =>
      condV t47_12 (
        q (Nz t0) fun t49_13 =>
        q (Fa 7 t49_13) fun t50_14 =>
        q (Ld H t50_14) fun t51_15 =>
        q (Bin Tryz.prog H .eql 3 true t51_15 (Value.int IntKind.i64 2)) fun t52_16 =>
        q (gd t52_16 true (some t0)) fun t54_17 =>
        q (gd t52_16 true (Nz t54_17)) fun t55_18 =>
        q (gd t52_16 true (Fa 2 t55_18)) fun t56_19 =>
        q (gd t52_16 true (Ld H t56_19)) fun t57_20 =>
        q (gd t52_16 true (Bin Tryz.prog H .neq 3 true t57_20 (Value.int IntKind.i64 0))) fun t58_21 =>
        q (Pk t52_16 t58_21 (Value.bool false)) fun t59_22 =>
        Q t59_22 H) (
        q (Bin Tryz.prog H .eql 3 true t27 (Value.int IntKind.i64 9)) fun t61_23 =>
        condV t61_23 (
          q (Nz t0) fun t63_24 =>
          q (Fa 7 t63_24) fun t64_25 =>
          q (Ld H t64_25) fun t65_26 =>
          q (Bin Tryz.prog H .eql 3 true t65_26 (Value.int IntKind.i64 3)) fun t66_27 =>
          Q t66_27 H) (
          F102_3 H Q))))
def F102_8 (t0 t27 : Value) (H : Hp) (Q : RT1) : Prop :=
  q (Bin Tryz.prog H .eql 3 true t27 (Value.int IntKind.i64 4)) fun t29_28 =>
  condV t29_28 (
    F102_7 t0 t27 t29_28 H Q) (
    q (Bin Tryz.prog H .eql 3 true t27 (Value.int IntKind.i64 5)) fun t30_29 =>
    condV t30_29 (
      F102_7 t0 t27 t30_29 H Q) (
      q (Bin Tryz.prog H .eql 3 true t27 (Value.int IntKind.i64 6)) fun t31_30 =>
      F102_7 t0 t27 t31_30 H Q))
def F102_6 (t0 t27 : Value) (H : Hp) (Q : RT1) : Prop := F102_8 t0 t27 H Q
def F102_5 (t0 t27 : Value) (H : Hp) (Q : RT1) : Prop := F102_6 t0 t27 H Q
def F102_9 (t0 t3 : Value) (H : Hp) (Q : RT1) : Prop :=
  q (Fa 0 t3) fun t26_31 =>
  q (Ld H t26_31) fun t27_32 =>
  F102_5 t0 t27_32 H Q
def F102_4 (t0 t3 : Value) (H : Hp) (Q : RT1) : Prop := F102_9 t0 t3 H Q
def F102_2 (t0 t3 : Value) (H : Hp) (Q : RT1) : Prop := F102_4 t0 t3 H Q
def F102_10 (t0 t3 : Value) (H : Hp) (Q : RT1) : Prop :=
  q (Fa 3 t3) fun t5_33 =>
  q (Ld H t5_33) fun t6_34 =>
  q (Nz t0) fun t8_35 =>
  q (Fa 1 t8_35) fun t9_36 =>
  q (Ld H t9_36) fun t10_37 =>
  q (Bin Tryz.prog H .neq 3 false t6_34 t10_37) fun t11_38 =>
  q (gd t11_38 false (Fa 2 t3)) fun t13_39 =>
  q (gd t11_38 false (Ld H t13_39)) fun t14_40 =>
  q (gd t11_38 false (Bin Tryz.prog H .neq 3 true t14_40 (Value.int IntKind.i64 (-1)))) fun t15_41 =>
  q (Pk t11_38 (Value.bool true) t15_41) fun t16_42 =>
  q (gd t16_42 false (Fa 1 t3)) fun t18_43 =>
  q (gd t16_42 false (Ld H t18_43)) fun t19_44 =>
  q (gd t16_42 false (some t0)) fun t20_45 =>
  q (gd t16_42 false (Nz t20_45)) fun t21_46 =>
  q (gd t16_42 false (Fa 0 t21_46)) fun t22_47 =>
  q (gd t16_42 false (Ld H t22_47)) fun t23_48 =>
  q (gd t16_42 false (Bin Tryz.prog H .neq 3 false t19_44 t23_48)) fun t24_49 =>
  q (Pk t16_42 (Value.bool true) t24_49) fun t25_50 =>
  condV t25_50 (
    Q (Value.bool false) H) (
    F102_2 t0 t3 H Q)
def F102_1 (t0 t3 : Value) (H : Hp) (Q : RT1) : Prop := F102_10 t0 t3 H Q
def F102_11 (t0 t1 : Value) (H : Hp) (Q : RT1) : Prop :=
  New (Value.cells t1) 66 H (fun t3_51 H_51 =>
  F102_1 t0 t3_51 H_51 Q)
def F102_0 (t0 t1 : Value) (H : Hp) (Q : RT1) : Prop := F102_11 t0 t1 H Q
theorem A102_3 {fr : Fr} {H : Hp} {Q : RT1} (h : F102_3 H Q) : xCode Tryz.prog 67 (Code.r (Code.r (Code.r (bodyOf Tryz.f102)))) (xRet Tryz.prog [.tmp 4] Q) fr H :=
  Eq.mp (by kernel_rfl) h
abbrev K102_17 (Q : RT1) : QT := thenK (fun fr H => F102_3 H Q) (xRet Tryz.prog [.tmp 4] Q)
theorem A102_7 {fr : Fr} {H : Hp} {Q : RT1} (h : F102_7 (fr 0) (fr 27) (fr 28) H Q) : xCode Tryz.prog 67 (Code.r (Code.l (Code.r (Code.l (Code.r (Code.r (bodyOf Tryz.f102))))))) (blockK 0 (K102_17 Q)) fr H :=
  Eq.mp (by kernel_rfl) h
theorem A102_8 {fr : Fr} {H : Hp} {Q : RT1} (h : F102_8 (fr 0) (fr 27) H Q) : xCode Tryz.prog 67 (Code.l (Code.l (Code.r (Code.l (Code.r (Code.r (bodyOf Tryz.f102))))))) (thenK (fun fr H => F102_7 (fr 0) (fr 27) (fr 28) H Q) (blockK 0 (K102_17 Q))) fr H :=
  Eq.mp (by kernel_rfl) h
theorem A102_6 {fr : Fr} {H : Hp} {Q : RT1} (h : F102_6 (fr 0) (fr 27) H Q) : xCode Tryz.prog 67 (Code.l (Code.r (Code.l (Code.r (Code.r (bodyOf Tryz.f102)))))) (blockK 0 (K102_17 Q)) fr H :=
  seq_cut (by kernel_rfl) (fun _ _ h => A102_7 h) (A102_8 h)
theorem A102_5 {fr : Fr} {H : Hp} {Q : RT1} (h : F102_5 (fr 0) (fr 27) H Q) : xCode Tryz.prog 67 (Code.r (Code.l (Code.r (Code.r (bodyOf Tryz.f102))))) (K102_17 Q) fr H :=
  block_cut (by kernel_rfl) (A102_6 h)
theorem A102_9 {fr : Fr} {H : Hp} {Q : RT1} (h : F102_9 (fr 0) (fr 3) H Q) : xCode Tryz.prog 67 (Code.l (Code.l (Code.r (Code.r (bodyOf Tryz.f102))))) (thenK (fun fr H => F102_5 (fr 0) (fr 27) H Q) (K102_17 Q)) fr H :=
  Eq.mp (by kernel_rfl) h
theorem A102_4 {fr : Fr} {H : Hp} {Q : RT1} (h : F102_4 (fr 0) (fr 3) H Q) : xCode Tryz.prog 67 (Code.l (Code.r (Code.r (bodyOf Tryz.f102)))) (K102_17 Q) fr H :=
  seq_cut (by kernel_rfl) (fun _ _ h => A102_5 h) (A102_9 h)
theorem A102_2 {fr : Fr} {H : Hp} {Q : RT1} (h : F102_2 (fr 0) (fr 3) H Q) : xCode Tryz.prog 67 (Code.r (Code.r (bodyOf Tryz.f102))) (xRet Tryz.prog [.tmp 4] Q) fr H :=
  seq_cut (by kernel_rfl) (fun _ _ h => A102_3 h) (A102_4 h)
theorem A102_10 {fr : Fr} {H : Hp} {Q : RT1} (h : F102_10 (fr 0) (fr 3) H Q) : xCode Tryz.prog 67 (Code.l (Code.r (bodyOf Tryz.f102))) (thenK (fun fr H => F102_2 (fr 0) (fr 3) H Q) (xRet Tryz.prog [.tmp 4] Q)) fr H :=
  Eq.mp (by kernel_rfl) h
theorem A102_1 {fr : Fr} {H : Hp} {Q : RT1} (h : F102_1 (fr 0) (fr 3) H Q) : xCode Tryz.prog 67 (Code.r (bodyOf Tryz.f102)) (xRet Tryz.prog [.tmp 4] Q) fr H :=
  seq_cut (by kernel_rfl) (fun _ _ h => A102_2 h) (A102_10 h)
theorem A102_11 {fr : Fr} {H : Hp} {Q : RT1} (h : F102_11 (fr 0) (fr 1) H Q) : xCode Tryz.prog 67 (Code.l (bodyOf Tryz.f102)) (thenK (fun fr H => F102_1 (fr 0) (fr 3) H Q) (xRet Tryz.prog [.tmp 4] Q)) fr H :=
  Eq.mp (by kernel_rfl) h
theorem A102_0 {fr : Fr} {H : Hp} {Q : RT1} (h : F102_0 (fr 0) (fr 1) H Q) : xCode Tryz.prog 67 (bodyOf Tryz.f102) (xRet Tryz.prog [.tmp 4] Q) fr H :=
  seq_cut (by kernel_rfl) (fun _ _ h => A102_1 h) (A102_11 h)
theorem E102 {t0 t1 : Value} {H : Hp} {Q : RT1} (h : F102_0 t0 t1 H Q) : NCalls Tryz.prog 102 #[t0, t1] H Q :=
  NCalls.ofBody (by kernel_rfl) Tryz.func102 (by kernel_rfl) (by kernel_rfl) (Eq.mp (by kernel_rfl) (A102_0 (fr := fun i => (#[t0, t1] : Array Value).getD i undef) (H := H) (Q := Q) (Eq.mp (by kernel_rfl) h)))
def F103_0 (t0 t1 : Value) (H : Hp) (Q : RT1) : Prop :=
  New (Value.cells t1) 66 H (fun t3_1 H_1 =>
  q (LdA 11 H_1 t3_1) fun t9_2 =>
  NCalls Tryz.prog 102 #[t0, t9_2] H_1 (fun t10_3 H_3 =>
  q (pv Tryz.prog (Op.unary .not t10_3)) fun t11_4 =>
  condV t11_4 (
    Q (Value.tuple #[(Value.slice none 0 0), (Value.bool false)]) H_3) (
    q (Nz t0) fun t13_5 =>
    q (Fa 2 t13_5) fun t14_6 =>
    q (Ld H_3 t14_6) fun t15_7 =>
    q (LdA 11 H_3 t3_1) fun t17_8 =>
    NCalls Tryz.prog 132 #[t0, t17_8] H_3 (fun t18_9 H_9 =>
    q (Bin Tryz.prog H_9 .neq 3 true t15_7 (Value.int IntKind.i64 0)) fun t21_10 =>
    q (gd t21_10 true (some t0)) fun t23_11 =>
    q (gd t21_10 true (Nz t23_11)) fun t24_12 =>
    q (gd t21_10 true (Fa 2 t24_12)) fun t25_13 =>
    q (gd t21_10 true (Ld H_9 t25_13)) fun t26_14 =>
    q (gd t21_10 true (Bin Tryz.prog H_9 .eql 3 true t26_14 (Value.int IntKind.i64 0))) fun t27_15 =>
    q (Pk t21_10 t27_15 (Value.bool false)) fun t28_16 =>
    Q (Value.tuple #[t18_9, t28_16]) H_9))))
theorem A103_0 {fr : Fr} {H : Hp} {Q : RT1} (h : F103_0 (fr 0) (fr 1) H Q) : xCode Tryz.prog 29 (bodyOf Tryz.f103) (xRet Tryz.prog [.tmp 4, .tmp 5] Q) fr H :=
  Eq.mp (by kernel_rfl) h
theorem E103 {t0 t1 : Value} {H : Hp} {Q : RT1} (h : F103_0 t0 t1 H Q) : NCalls Tryz.prog 103 #[t0, t1] H Q :=
  NCalls.ofBody (by kernel_rfl) Tryz.func103 (by kernel_rfl) (by kernel_rfl) (Eq.mp (by kernel_rfl) (A103_0 (fr := fun i => (#[t0, t1] : Array Value).getD i undef) (H := H) (Q := Q) (Eq.mp (by kernel_rfl) h)))
def F104_0 (t0 : Value) (H : Hp) (Q : RT1) : Prop :=
  New #[Value.int IntKind.u32 0, Value.int IntKind.u32 0, Value.int IntKind.u32 0, Value.int IntKind.u32 0] 52 H (fun t2_1 H_1 =>
  q (Nz t0) fun t5_2 =>
  q (Fa 13 t5_2) fun t6_3 =>
  q (Fa 4 t6_3) fun t7_4 =>
  q (LdA 4 H_1 t7_4) fun t8_5 =>
  q (Nz t0) fun t10_6 =>
  q (Fa 8 t10_6) fun t11_7 =>
  q (Ld H_1 t11_7) fun t12_8 =>
  q (gd t12_8 true (some t0)) fun t14_9 =>
  q (gd t12_8 true (Nz t14_9)) fun t15_10 =>
  q (gd t12_8 true (Fa 10 t15_10)) fun t16_11 =>
  q (gd t12_8 true (Ld H_1 t16_11)) fun t17_12 =>
  q (gd t12_8 true (Bin Tryz.prog H_1 .eql 3 true t17_12 (Value.int IntKind.i64 2))) fun t18_13 =>
  q (Pk t12_8 t18_13 (Value.bool false)) fun t19_14 =>
  q (gd t19_14 true (some t0)) fun t21_15 =>
  q (gd t19_14 true (Nz t21_15)) fun t22_16 =>
  q (gd t19_14 true (Fa 13 t22_16)) fun t23_17 =>
  q (gd t19_14 true (Fa 9 t23_17)) fun t24_18 =>
  q (gd t19_14 true (Ld H_1 t24_18)) fun t25_19 =>
  q (Pk t19_14 t25_19 (Value.bool false)) fun t26_20 =>
  q (gd t26_20 true (some t0)) fun t28_21 =>
  gl t26_20 true (fun K => NCalls Tryz.prog 124 #[t28_21] H_1 K) H_1 fun t29_22 H_22 =>
  (LdA 4 H_22 t7_4) = some t8_5 ∧ (
  q (Pk t26_20 t29_22 (Value.bool false)) fun t30_23 =>
  St 4 H_22 t2_1 t8_5 ((fun u_24 H_24 =>
  q (LdA 4 H_24 t2_1) fun r_25 =>
  Q (Value.tuple #[r_25, t30_23]) H_24) undef)))
theorem A104_0 {fr : Fr} {H : Hp} {Q : RT1} (h : F104_0 (fr 0) H Q) : xCode Tryz.prog 31 (bodyOf Tryz.f104) (xRet Tryz.prog [.cell 2 52, .tmp 3] Q) fr H :=
  Eq.mp (by kernel_rfl) h
theorem E104 {t0 : Value} {H : Hp} {Q : RT1} (h : F104_0 t0 H Q) : NCalls Tryz.prog 104 #[t0] H Q :=
  NCalls.ofBody (by kernel_rfl) Tryz.func104 (by kernel_rfl) (by kernel_rfl) (Eq.mp (by kernel_rfl) (A104_0 (fr := fun i => (#[t0] : Array Value).getD i undef) (H := H) (Q := Q) (Eq.mp (by kernel_rfl) h)))
def F105_0 (t0 : Value) (H : Hp) (Q : RT1) : Prop :=
  New #[Value.int IntKind.u32 0, Value.int IntKind.u32 0, Value.int IntKind.u32 0, Value.int IntKind.u32 0] 52 H (fun t2_1 H_1 =>
  q (Nz t0) fun t5_2 =>
  q (Fa 3 t5_2) fun t6_3 =>
  q (LdA 4 H_1 t6_3) fun t7_4 =>
  q (Nz t0) fun t9_5 =>
  q (Fa 7 t9_5) fun t10_6 =>
  q (Ld H_1 t10_6) fun t11_7 =>
  q (Bin Tryz.prog H_1 .eql 3 true t11_7 (Value.int IntKind.i64 3)) fun t12_8 =>
  q (gd t12_8 true (some t0)) fun t14_9 =>
  q (gd t12_8 true (Nz t14_9)) fun t15_10 =>
  q (gd t12_8 true (Fa 8 t15_10)) fun t16_11 =>
  q (gd t12_8 true (Ld H_1 t16_11)) fun t17_12 =>
  gl t12_8 true (fun K => NCalls Tryz.prog 133 #[t17_12] H_1 K) H_1 fun t18_13 H_13 =>
  (LdA 4 H_13 t6_3) = some t7_4 ∧ (
  q (Pk t12_8 t18_13 (Value.bool false)) fun t19_14 =>
  St 4 H_13 t2_1 t7_4 ((fun u_15 H_15 =>
  q (LdA 4 H_15 t2_1) fun r_16 =>
  Q (Value.tuple #[r_16, t19_14]) H_15) undef)))
theorem A105_0 {fr : Fr} {H : Hp} {Q : RT1} (h : F105_0 (fr 0) H Q) : xCode Tryz.prog 20 (bodyOf Tryz.f105) (xRet Tryz.prog [.cell 2 52, .tmp 3] Q) fr H :=
  Eq.mp (by kernel_rfl) h
theorem E105 {t0 : Value} {H : Hp} {Q : RT1} (h : F105_0 t0 H Q) : NCalls Tryz.prog 105 #[t0] H Q :=
  NCalls.ofBody (by kernel_rfl) Tryz.func105 (by kernel_rfl) (by kernel_rfl) (Eq.mp (by kernel_rfl) (A105_0 (fr := fun i => (#[t0] : Array Value).getD i undef) (H := H) (Q := Q) (Eq.mp (by kernel_rfl) h)))
end YtacidjifocfhkaaGreatDoor
end Go.Proofs
