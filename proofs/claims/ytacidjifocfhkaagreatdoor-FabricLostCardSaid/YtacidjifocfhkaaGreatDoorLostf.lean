/-
  PROVED: for every number of harts, sets and ways and every list of things to do, FabricLost returns true, and all arguments read afterwards as they read before. CONDITIONS: the five errors of package api that the row lists read, when the call begins, as the program's text lays them (the card ties them); nothing else is asked.
-/
import Derived.Test.YtacidjifocfhkaaGreatDoorLoste
import Derived.Test.YtacidjifocfhkaaGreatDoorProg
import Derived.KernelRfl
import Derived.ProofKit
import Derived.OpenShut
import Derived.Deep.Slices
import Derived.Test.YtacidjifocfhkaaGreatDoorRows
import Derived.LaidMore
import Derived.LaidLaws
import Derived.Stop.Joined
import Derived.Stop.LaidErr
import Derived.Carry
import Derived.Lib.SmallJoins
import Derived.Test.YtacidjifocfhkaaGreatDoorTie
import Derived.Test.YtacidjifocfhkaaGreatDoorCards
import Derived.SevenTiedAt
namespace Go.Proofs
open Go Go.NW
set_option linter.unusedVariables false
set_option maxRecDepth 100000
namespace YtacidjifocfhkaaGreatDoor
def F5_8 (H : Hp) (Q : RT1) : Prop :=
  Q (Value.bool true) H
def F5_14 (t3 t10 t11 t13 : Value) (H : Hp) (R11 : RT4) (Q : RT1) : Prop :=
  q (Bin Tryz.prog H .add 3 true t13 (Value.int IntKind.i64 1)) fun t57_1 =>
  R11 t3 t10 t11 t57_1 H
def F5_26 (t3 t10 t11 t13 t16 t23 : Value) (H : Hp) (R11 : RT4) (R23 : RT6) (Q : RT1) : Prop :=
  q (Bin Tryz.prog H .add 3 true t23 (Value.int IntKind.i64 1)) fun t159_2 =>
  R23 t3 t10 t11 t13 t16 t159_2 H
def F5_31 (t3 t10 t11 t13 t16 t23 t24 t25 : Value) (H : Hp) (R11 : RT4) (R23 : RT6) (Q : RT1) : Prop :=
  NCalls Tryz.prog 26 #[t24, t25] H (fun t206_3 H_3 =>
  q (pv Tryz.prog (Op.unary .not t206_3)) fun t207_4 =>
  q (gd t207_4 false (some t11)) fun t209_5 =>
  q (gd t207_4 false (some t23)) fun t210_6 =>
  gl t207_4 false (fun K => NCalls Tryz.prog 24 #[t209_5, t210_6] H_3 K) H_3 fun t211_7 H_7 =>
  q (gd t207_4 false (pv Tryz.prog (Builtin.len_ #[49] 0 #[t211_7]))) fun t212_8 =>
  q (gd t207_4 false (Bin Tryz.prog H_7 .neq 3 true t212_8 (Value.int IntKind.i64 0))) fun t213_9 =>
  q (Pk t207_4 (Value.bool true) t213_9) fun t214_10 =>
  condV t214_10 (
    Q (Value.bool false) H_7) (
    F5_26 t3 t10 t11 t13 t16 t23 H_7 R11 R23 Q))
def F5_37 (t3 t10 t11 t13 t16 t23 t24 t25 t26 : Value) (H : Hp) (R11 : RT4) (R23 : RT6) (R34 : RT9) (Q : RT1) : Prop :=
  q (Bin Tryz.prog H .add 3 true t26 (Value.int IntKind.i64 1)) fun t166_11 =>
  R34 t3 t10 t11 t13 t16 t23 t24 t25 t166_11 H
def F5_38 (t3 t10 t11 t13 t16 t23 t24 t25 t26 : Value) (H : Hp) (R11 : RT4) (R23 : RT6) (R34 : RT9) (Q : RT1) : Prop :=
  NCalls Tryz.prog 23 #[t11, t26] H (fun t170_12 H_12 =>
  q (Ex 0 t170_12) fun t171_13 =>
  q (Ex 1 t170_12) fun t172_14 =>
  New #[Value.int IntKind.i64 0, Value.slice none 0 0, Value.slice none 0 0, Value.int IntKind.u32 0, Value.int IntKind.u32 0, Value.int IntKind.u32 0, Value.int IntKind.u32 0, Value.bool false, Value.bool false] 54 H_12 (fun t27_15 H_15 =>
  St 9 H_15 t27_15 t171_13 ((fun u_16 H_16 =>
  q (gd t172_14 true (some t23)) fun t175_17 =>
  q (gd t172_14 true (Fa 1 t27_15)) fun t176_18 =>
  q (gd t172_14 true (Ld H_16 t176_18)) fun t177_19 =>
  q (gd t172_14 true (pv Tryz.prog (Builtin.len_ #[49] 0 #[t177_19]))) fun t178_20 =>
  q (gd t172_14 true (Bin Tryz.prog H_16 .lss 3 false t175_17 t178_20)) fun t179_21 =>
  q (Pk t172_14 t179_21 (Value.bool false)) fun t180_22 =>
  q (gd t180_22 true (Fa 1 t27_15)) fun t182_23 =>
  q (gd t180_22 true (Ld H_16 t182_23)) fun t183_24 =>
  q (gd t180_22 true (some t23)) fun t184_25 =>
  q (gd t180_22 true (Ix 1 t183_24 t184_25)) fun t185_26 =>
  q (gd t180_22 true (Ld H_16 t185_26)) fun t186_27 =>
  q (gd t180_22 true (Bin Tryz.prog H_16 .neq 3 true t186_27 (Value.int IntKind.i64 0))) fun t187_28 =>
  q (Pk t180_22 t187_28 (Value.bool false)) fun t188_29 =>
  q (Ix 1 t16 t23) fun t191_30 =>
  q (Ld H_16 t191_30) fun t192_31 =>
  q (Ix 1 t192_31 t26) fun t194_32 =>
  q (Ld H_16 t194_32) fun t195_33 =>
  q (gd t195_33 true (some t188_29)) fun t197_34 =>
  q (gd t195_33 true (pv Tryz.prog (Op.unary .not t197_34))) fun t198_35 =>
  q (Pk t195_33 t198_35 (Value.bool false)) fun t199_36 =>
  condV t199_36 (
    Bsl #[Value.int IntKind.i64 0] 1 3 1 [(0, t26)] H_16 (fun t202_37 H_37 =>
    dm Tryz.prog (Builtin.append_ #[49, 49] 0 #[t25, t202_37]) H_37 (fun t203_38 H_38 =>
    F5_37 t3 t10 t11 t13 t16 t23 t24 t203_38 t26 H_38 R11 R23 R34 Q))) (
    F5_37 t3 t10 t11 t13 t16 t23 t24 t25 t26 H_16 R11 R23 R34 Q)) undef)))
def F5_36 (t3 t10 t11 t13 t16 t23 t24 t25 t26 : Value) (H : Hp) (R11 : RT4) (R23 : RT6) (R34 : RT9) (Q : RT1) : Prop := F5_38 t3 t10 t11 t13 t16 t23 t24 t25 t26 H R11 R23 R34 Q
def F5_39 (t3 t10 t11 t13 t16 t23 t24 t25 t26 : Value) (H : Hp) (R11 : RT4) (R23 : RT6) (R34 : RT9) (Q : RT1) : Prop :=
  q (Bin Tryz.prog H .lss 3 true t26 (Value.int IntKind.i64 8)) fun t164_39 =>
  condV t164_39 (
    F5_36 t3 t10 t11 t13 t16 t23 t24 t25 t26 H R11 R23 R34 Q) (
    F5_31 t3 t10 t11 t13 t16 t23 t24 t25 H R11 R23 Q)
def F5_35 (t3 t10 t11 t13 t16 t23 t24 t25 t26 : Value) (H : Hp) (R11 : RT4) (R23 : RT6) (R34 : RT9) (Q : RT1) : Prop := F5_39 t3 t10 t11 t13 t16 t23 t24 t25 t26 H R11 R23 R34 Q
def F5_34 (t3 t10 t11 t13 t16 t23 t24 t25 t26 : Value) (H : Hp) (R11 : RT4) (R23 : RT6) (Q : RT1) : Prop :=
  ∃ (I : RT2) (μ : Value → Value → Hp → Nat), I t25 t26 H ∧ ∀ n25 n26 H1, I n25 n26 H1 → F5_35 t3 t10 t11 t13 t16 t23 t24 n25 n26 H1 R11 R23 (fun m3 m10 m11 m13 m16 m23 m24 m25 m26 H2 => m3 = t3 ∧ m10 = t10 ∧ m11 = t11 ∧ m13 = t13 ∧ m16 = t16 ∧ m23 = t23 ∧ m24 = t24 ∧ (I m25 m26 H2 ∧ μ m25 m26 H2 < μ n25 n26 H1)) Q
def F5_33 (t3 t10 t11 t13 t16 t23 t24 t25 t26 : Value) (H : Hp) (R11 : RT4) (R23 : RT6) (Q : RT1) : Prop := F5_34 t3 t10 t11 t13 t16 t23 t24 t25 t26 H R11 R23 Q
def F5_40 (t3 t10 t11 t13 t16 t23 t24 t25 : Value) (H : Hp) (R11 : RT4) (R23 : RT6) (Q : RT1) : Prop :=
  F5_33 t3 t10 t11 t13 t16 t23 t24 t25 (Value.int IntKind.i64 0) H R11 R23 Q
def F5_32 (t3 t10 t11 t13 t16 t23 t24 t25 : Value) (H : Hp) (R11 : RT4) (R23 : RT6) (Q : RT1) : Prop := F5_40 t3 t10 t11 t13 t16 t23 t24 t25 H R11 R23 Q
def F5_30 (t3 t10 t11 t13 t16 t23 t24 t25 : Value) (H : Hp) (R11 : RT4) (R23 : RT6) (Q : RT1) : Prop := F5_32 t3 t10 t11 t13 t16 t23 t24 t25 H R11 R23 Q
def F5_41 (t3 t10 t11 t13 t16 t23 t24 : Value) (H : Hp) (R11 : RT4) (R23 : RT6) (Q : RT1) : Prop :=
  F5_30 t3 t10 t11 t13 t16 t23 t24 (Value.slice none 0 0) H R11 R23 Q
def F5_29 (t3 t10 t11 t13 t16 t23 t24 : Value) (H : Hp) (R11 : RT4) (R23 : RT6) (Q : RT1) : Prop := F5_41 t3 t10 t11 t13 t16 t23 t24 H R11 R23 Q
def F5_42 (t3 t10 t11 t13 t16 t23 : Value) (H : Hp) (R11 : RT4) (R23 : RT6) (Q : RT1) : Prop :=
  NCalls Tryz.prog 24 #[t11, t23] H (fun t162_40 H_40 =>
  F5_29 t3 t10 t11 t13 t16 t23 t162_40 H_40 R11 R23 Q)
def F5_28 (t3 t10 t11 t13 t16 t23 : Value) (H : Hp) (R11 : RT4) (R23 : RT6) (Q : RT1) : Prop := F5_42 t3 t10 t11 t13 t16 t23 H R11 R23 Q
def F5_27 (t3 t10 t11 t13 t16 t23 : Value) (H : Hp) (R11 : RT4) (R23 : RT6) (Q : RT1) : Prop := F5_28 t3 t10 t11 t13 t16 t23 H R11 R23 Q
def F5_25 (t3 t10 t11 t13 t16 t23 : Value) (H : Hp) (R11 : RT4) (R23 : RT6) (Q : RT1) : Prop := F5_27 t3 t10 t11 t13 t16 t23 H R11 R23 Q
def F5_43 (t3 t10 t11 t13 t16 t23 : Value) (H : Hp) (R11 : RT4) (R23 : RT6) (Q : RT1) : Prop :=
  q (Fa 0 t10) fun t155_41 =>
  q (Ld H t155_41) fun t156_42 =>
  q (Bin Tryz.prog H .lss 3 false t23 t156_42) fun t157_43 =>
  condV t157_43 (
    F5_25 t3 t10 t11 t13 t16 t23 H R11 R23 Q) (
    F5_14 t3 t10 t11 t13 H R11 Q)
def F5_24 (t3 t10 t11 t13 t16 t23 : Value) (H : Hp) (R11 : RT4) (R23 : RT6) (Q : RT1) : Prop := F5_43 t3 t10 t11 t13 t16 t23 H R11 R23 Q
def F5_23 (t3 t10 t11 t13 t16 t23 : Value) (H : Hp) (R11 : RT4) (Q : RT1) : Prop :=
  ∃ (I : RT1) (μ : Value → Hp → Nat), I t23 H ∧ ∀ n23 H1, I n23 H1 → F5_24 t3 t10 t11 t13 t16 n23 H1 R11 (fun m3 m10 m11 m13 m16 m23 H2 => m3 = t3 ∧ m10 = t10 ∧ m11 = t11 ∧ m13 = t13 ∧ m16 = t16 ∧ (I m23 H2 ∧ μ m23 H2 < μ n23 H1)) Q
def F5_22 (t3 t10 t11 t13 t16 t23 : Value) (H : Hp) (R11 : RT4) (Q : RT1) : Prop := F5_23 t3 t10 t11 t13 t16 t23 H R11 Q
def F5_44 (t3 t10 t11 t13 t16 : Value) (H : Hp) (R11 : RT4) (Q : RT1) : Prop :=
  F5_22 t3 t10 t11 t13 t16 (Value.int IntKind.i64 0) H R11 Q
def F5_21 (t3 t10 t11 t13 t16 : Value) (H : Hp) (R11 : RT4) (Q : RT1) : Prop := F5_44 t3 t10 t11 t13 t16 H R11 Q
def F5_49 (t3 t10 t11 t13 t14 t15 t16 : Value) (H : Hp) (R11 : RT4) (Q : RT1) : Prop :=
  q (Fa 2 t14) fun t129_44 =>
  q (Ld H t129_44) fun t130_45 =>
  q (Fa 4 t14) fun t132_46 =>
  q (Ld H t132_46) fun t133_47 =>
  NCalls Tryz.prog 12 #[t130_45, (Value.int IntKind.i64 8)] H (fun t131_48 H_48 =>
  (Ld H_48 t132_46) = some t133_47 ∧ (
  NCalls Tryz.prog 16 #[t11, t15, t131_48, t133_47] H_48 (fun t134_49 H_49 =>
  F5_21 t3 t10 t11 t13 t16 H_49 R11 Q)))
def F5_51 (t3 t10 t11 t13 t14 t15 t16 t135 : Value) (H : Hp) (R11 : RT4) (Q : RT1) : Prop :=
  condV t135 (
    NCalls Tryz.prog 17 #[t11] H (fun t139_50 H_50 =>
    q (pv Tryz.prog (Builtin.len_ #[38] 0 #[t139_50])) fun t141_51 =>
    q (Bin Tryz.prog H_50 .gtr 3 true t141_51 (Value.int IntKind.i64 0)) fun t142_52 =>
    condV t142_52 (
      q (Fa 3 t14) fun t145_53 =>
      q (Ld H_50 t145_53) fun t146_54 =>
      q (pv Tryz.prog (Builtin.len_ #[38] 0 #[t139_50])) fun t148_55 =>
      NCalls Tryz.prog 12 #[t146_54, t148_55] H_50 (fun t149_56 H_56 =>
      q (Ix 12 t139_50 t149_56) fun t150_57 =>
      q (Fa 0 t150_57) fun t151_58 =>
      q (Ld H_56 t151_58) fun t152_59 =>
      NCalls Tryz.prog 25 #[t11, t152_59] H_56 (fun t153_60 H_60 =>
      F5_21 t3 t10 t11 t13 t16 H_60 R11 Q))) (
      F5_21 t3 t10 t11 t13 t16 H_50 R11 Q))) (
    q (Fa 5 t14) fun t117_61 =>
    q (Ld H t117_61) fun t118_62 =>
    q (Bin Tryz.prog H .rem 40 true t118_62 (Value.int IntKind.u32 128)) fun t119_63 =>
    q (Fa 7 t14) fun t120_64 =>
    q (Ld H t120_64) fun t121_65 =>
    q (Fa 6 t14) fun t122_66 =>
    q (Ld H t122_66) fun t123_67 =>
    NCalls Tryz.prog 20 #[t11, t15, t119_63, t121_65, t123_67] H (fun t124_68 H_68 =>
    F5_21 t3 t10 t11 t13 t16 H_68 R11 Q))
def F5_52 (t3 t10 t11 t13 t14 t15 t16 t114 : Value) (H : Hp) (R11 : RT4) (Q : RT1) : Prop :=
  q (Bin Tryz.prog H .eql 3 true t114 (Value.int IntKind.i64 2)) fun t136_69 =>
  condV t136_69 (
    F5_51 t3 t10 t11 t13 t14 t15 t16 t136_69 H R11 Q) (
    q (Bin Tryz.prog H .eql 3 true t114 (Value.int IntKind.i64 3)) fun t137_70 =>
    F5_51 t3 t10 t11 t13 t14 t15 t16 t137_70 H R11 Q)
def F5_50 (t3 t10 t11 t13 t14 t15 t16 t114 : Value) (H : Hp) (R11 : RT4) (Q : RT1) : Prop := F5_52 t3 t10 t11 t13 t14 t15 t16 t114 H R11 Q
def F5_48 (t3 t10 t11 t13 t14 t15 t16 t114 t125 : Value) (H : Hp) (R11 : RT4) (Q : RT1) : Prop := condV t125 (F5_49 t3 t10 t11 t13 t14 t15 t16 H R11 Q) (F5_50 t3 t10 t11 t13 t14 t15 t16 t114 H R11 Q)
def F5_53 (t3 t10 t11 t13 t14 t15 t16 t114 : Value) (H : Hp) (R11 : RT4) (Q : RT1) : Prop :=
  q (Bin Tryz.prog H .eql 3 true t114 (Value.int IntKind.i64 1)) fun t126_71 =>
  F5_48 t3 t10 t11 t13 t14 t15 t16 t114 t126_71 H R11 Q
def F5_47 (t3 t10 t11 t13 t14 t15 t16 t114 : Value) (H : Hp) (R11 : RT4) (Q : RT1) : Prop := F5_53 t3 t10 t11 t13 t14 t15 t16 t114 H R11 Q
def F5_46 (t3 t10 t11 t13 t14 t15 t16 t114 : Value) (H : Hp) (R11 : RT4) (Q : RT1) : Prop := F5_47 t3 t10 t11 t13 t14 t15 t16 t114 H R11 Q
def F5_54 (t3 t10 t11 t13 t14 t15 t16 : Value) (H : Hp) (R11 : RT4) (Q : RT1) : Prop :=
  q (Fa 0 t14) fun t113_72 =>
  q (Ld H t113_72) fun t114_73 =>
  F5_46 t3 t10 t11 t13 t14 t15 t16 t114_73 H R11 Q
def F5_45 (t3 t10 t11 t13 t14 t15 t16 : Value) (H : Hp) (R11 : RT4) (Q : RT1) : Prop := F5_54 t3 t10 t11 t13 t14 t15 t16 H R11 Q
def F5_20 (t3 t10 t11 t13 t14 t15 t16 : Value) (H : Hp) (R11 : RT4) (Q : RT1) : Prop := F5_45 t3 t10 t11 t13 t14 t15 t16 H R11 Q
def F5_60 (t3 t10 t11 t13 t14 t15 t16 t17 : Value) (H : Hp) (R11 : RT4) (R57 : RT8) (Q : RT1) : Prop :=
  q (Bin Tryz.prog H .add 3 true t17 (Value.int IntKind.i64 1)) fun t75_74 =>
  R57 t3 t10 t11 t13 t14 t15 t16 t75_74 H
def F5_65 (t3 t10 t11 t13 t14 t15 t16 t17 t18 : Value) (H : Hp) (R11 : RT4) (R57 : RT8) (Q : RT1) : Prop :=
  q (Ix 1 t16 t17) fun t112_75 =>
  St 1 H t112_75 t18 ((fun u_76 H_76 =>
  F5_60 t3 t10 t11 t13 t14 t15 t16 t17 H_76 R11 R57 Q) undef)
def F5_69 (t3 t10 t11 t13 t14 t15 t16 t17 t18 t19 : Value) (H : Hp) (R11 : RT4) (R57 : RT8) (R68 : RT10) (Q : RT1) : Prop :=
  q (Bin Tryz.prog H .lss 3 true t19 (Value.int IntKind.i64 8)) fun t81_77 =>
  condV t81_77 (
    NCalls Tryz.prog 23 #[t11, t19] H (fun t87_78 H_78 =>
    q (Ex 0 t87_78) fun t88_79 =>
    q (Ex 1 t87_78) fun t89_80 =>
    New #[Value.int IntKind.i64 0, Value.slice none 0 0, Value.slice none 0 0, Value.int IntKind.u32 0, Value.int IntKind.u32 0, Value.int IntKind.u32 0, Value.int IntKind.u32 0, Value.bool false, Value.bool false] 54 H_78 (fun t20_81 H_81 =>
    St 9 H_81 t20_81 t88_79 ((fun u_82 H_82 =>
    q (gd t89_80 true (some t17)) fun t94_83 =>
    q (gd t89_80 true (Fa 1 t20_81)) fun t95_84 =>
    q (gd t89_80 true (Ld H_82 t95_84)) fun t96_85 =>
    q (gd t89_80 true (pv Tryz.prog (Builtin.len_ #[49] 0 #[t96_85]))) fun t97_86 =>
    q (gd t89_80 true (Bin Tryz.prog H_82 .lss 3 false t94_83 t97_86)) fun t98_87 =>
    q (Pk t89_80 t98_87 (Value.bool false)) fun t99_88 =>
    q (gd t99_88 true (Fa 1 t20_81)) fun t101_89 =>
    q (gd t99_88 true (Ld H_82 t101_89)) fun t102_90 =>
    q (gd t99_88 true (some t17)) fun t103_91 =>
    q (gd t99_88 true (Ix 1 t102_90 t103_91)) fun t104_92 =>
    q (gd t99_88 true (Ld H_82 t104_92)) fun t105_93 =>
    q (gd t99_88 true (Bin Tryz.prog H_82 .neq 3 true t105_93 (Value.int IntKind.i64 0))) fun t106_94 =>
    q (Pk t99_88 t106_94 (Value.bool false)) fun t107_95 =>
    q (Ix 1 t18 t19) fun t108_96 =>
    St 1 H_82 t108_96 t107_95 ((fun u_97 H_97 =>
    q (Bin Tryz.prog H_97 .add 3 true t19 (Value.int IntKind.i64 1)) fun t83_98 =>
    R68 t3 t10 t11 t13 t14 t15 t16 t17 t18 t83_98 H_97) undef)) undef)))) (
    F5_65 t3 t10 t11 t13 t14 t15 t16 t17 t18 H R11 R57 Q)
def F5_68 (t3 t10 t11 t13 t14 t15 t16 t17 t18 t19 : Value) (H : Hp) (R11 : RT4) (R57 : RT8) (Q : RT1) : Prop :=
  ∃ (I : RT1) (μ : Value → Hp → Nat), I t19 H ∧ ∀ n19 H1, I n19 H1 → F5_69 t3 t10 t11 t13 t14 t15 t16 t17 t18 n19 H1 R11 R57 (fun m3 m10 m11 m13 m14 m15 m16 m17 m18 m19 H2 => m3 = t3 ∧ m10 = t10 ∧ m11 = t11 ∧ m13 = t13 ∧ m14 = t14 ∧ m15 = t15 ∧ m16 = t16 ∧ m17 = t17 ∧ m18 = t18 ∧ (I m19 H2 ∧ μ m19 H2 < μ n19 H1)) Q
def F5_67 (t3 t10 t11 t13 t14 t15 t16 t17 t18 t19 : Value) (H : Hp) (R11 : RT4) (R57 : RT8) (Q : RT1) : Prop := F5_68 t3 t10 t11 t13 t14 t15 t16 t17 t18 t19 H R11 R57 Q
def F5_70 (t3 t10 t11 t13 t14 t15 t16 t17 t18 : Value) (H : Hp) (R11 : RT4) (R57 : RT8) (Q : RT1) : Prop :=
  F5_67 t3 t10 t11 t13 t14 t15 t16 t17 t18 (Value.int IntKind.i64 0) H R11 R57 Q
def F5_66 (t3 t10 t11 t13 t14 t15 t16 t17 t18 : Value) (H : Hp) (R11 : RT4) (R57 : RT8) (Q : RT1) : Prop := F5_70 t3 t10 t11 t13 t14 t15 t16 t17 t18 H R11 R57 Q
def F5_64 (t3 t10 t11 t13 t14 t15 t16 t17 t18 : Value) (H : Hp) (R11 : RT4) (R57 : RT8) (Q : RT1) : Prop := F5_66 t3 t10 t11 t13 t14 t15 t16 t17 t18 H R11 R57 Q
def F5_71 (t3 t10 t11 t13 t14 t15 t16 t17 : Value) (H : Hp) (R11 : RT4) (R57 : RT8) (Q : RT1) : Prop :=
  dm Tryz.prog (Instr.makeSlice 63 (Value.int IntKind.i64 8) (Value.int IntKind.i64 8)) H (fun t79_99 H_99 =>
  F5_64 t3 t10 t11 t13 t14 t15 t16 t17 t79_99 H_99 R11 R57 Q)
def F5_63 (t3 t10 t11 t13 t14 t15 t16 t17 : Value) (H : Hp) (R11 : RT4) (R57 : RT8) (Q : RT1) : Prop := F5_71 t3 t10 t11 t13 t14 t15 t16 t17 H R11 R57 Q
def F5_72 (t3 t10 t11 t13 t14 t15 t16 t17 : Value) (H : Hp) (R11 : RT4) (R57 : RT8) (Q : RT1) : Prop :=
  NCalls Tryz.prog 24 #[t11, t17] H (fun t78_100 H_100 =>
  F5_63 t3 t10 t11 t13 t14 t15 t16 t17 H_100 R11 R57 Q)
def F5_62 (t3 t10 t11 t13 t14 t15 t16 t17 : Value) (H : Hp) (R11 : RT4) (R57 : RT8) (Q : RT1) : Prop := F5_72 t3 t10 t11 t13 t14 t15 t16 t17 H R11 R57 Q
def F5_61 (t3 t10 t11 t13 t14 t15 t16 t17 : Value) (H : Hp) (R11 : RT4) (R57 : RT8) (Q : RT1) : Prop := F5_62 t3 t10 t11 t13 t14 t15 t16 t17 H R11 R57 Q
def F5_59 (t3 t10 t11 t13 t14 t15 t16 t17 : Value) (H : Hp) (R11 : RT4) (R57 : RT8) (Q : RT1) : Prop := F5_61 t3 t10 t11 t13 t14 t15 t16 t17 H R11 R57 Q
def F5_73 (t3 t10 t11 t13 t14 t15 t16 t17 : Value) (H : Hp) (R11 : RT4) (R57 : RT8) (Q : RT1) : Prop :=
  q (Fa 0 t10) fun t71_101 =>
  q (Ld H t71_101) fun t72_102 =>
  q (Bin Tryz.prog H .lss 3 false t17 t72_102) fun t73_103 =>
  condV t73_103 (
    F5_59 t3 t10 t11 t13 t14 t15 t16 t17 H R11 R57 Q) (
    F5_20 t3 t10 t11 t13 t14 t15 t16 H R11 Q)
def F5_58 (t3 t10 t11 t13 t14 t15 t16 t17 : Value) (H : Hp) (R11 : RT4) (R57 : RT8) (Q : RT1) : Prop := F5_73 t3 t10 t11 t13 t14 t15 t16 t17 H R11 R57 Q
def F5_57 (t3 t10 t11 t13 t14 t15 t16 t17 : Value) (H : Hp) (R11 : RT4) (Q : RT1) : Prop :=
  ∃ (I : RT1) (μ : Value → Hp → Nat), I t17 H ∧ ∀ n17 H1, I n17 H1 → F5_58 t3 t10 t11 t13 t14 t15 t16 n17 H1 R11 (fun m3 m10 m11 m13 m14 m15 m16 m17 H2 => m3 = t3 ∧ m10 = t10 ∧ m11 = t11 ∧ m13 = t13 ∧ m14 = t14 ∧ m15 = t15 ∧ m16 = t16 ∧ (I m17 H2 ∧ μ m17 H2 < μ n17 H1)) Q
def F5_56 (t3 t10 t11 t13 t14 t15 t16 t17 : Value) (H : Hp) (R11 : RT4) (Q : RT1) : Prop := F5_57 t3 t10 t11 t13 t14 t15 t16 t17 H R11 Q
def F5_74 (t3 t10 t11 t13 t14 t15 t16 : Value) (H : Hp) (R11 : RT4) (Q : RT1) : Prop :=
  F5_56 t3 t10 t11 t13 t14 t15 t16 (Value.int IntKind.i64 0) H R11 Q
def F5_55 (t3 t10 t11 t13 t14 t15 t16 : Value) (H : Hp) (R11 : RT4) (Q : RT1) : Prop := F5_74 t3 t10 t11 t13 t14 t15 t16 H R11 Q
def F5_19 (t3 t10 t11 t13 t14 t15 t16 : Value) (H : Hp) (R11 : RT4) (Q : RT1) : Prop := F5_55 t3 t10 t11 t13 t14 t15 t16 H R11 Q
def F5_75 (t3 t10 t11 t13 t14 t15 : Value) (H : Hp) (R11 : RT4) (Q : RT1) : Prop :=
  q (Fa 0 t10) fun t67_104 =>
  q (Ld H t67_104) fun t68_105 =>
  dm Tryz.prog (Instr.makeSlice 61 t68_105 t68_105) H (fun t69_106 H_106 =>
  F5_19 t3 t10 t11 t13 t14 t15 t69_106 H_106 R11 Q)
def F5_18 (t3 t10 t11 t13 t14 t15 : Value) (H : Hp) (R11 : RT4) (Q : RT1) : Prop := F5_75 t3 t10 t11 t13 t14 t15 H R11 Q
def F5_76 (t3 t10 t11 t13 t14 : Value) (H : Hp) (R11 : RT4) (Q : RT1) : Prop :=
  q (Fa 1 t14) fun t62_107 =>
  q (Ld H t62_107) fun t63_108 =>
  q (Fa 0 t10) fun t64_109 =>
  q (Ld H t64_109) fun t65_110 =>
  NCalls Tryz.prog 12 #[t63_108, t65_110] H (fun t66_111 H_111 =>
  F5_18 t3 t10 t11 t13 t14 t66_111 H_111 R11 Q)
def F5_17 (t3 t10 t11 t13 t14 : Value) (H : Hp) (R11 : RT4) (Q : RT1) : Prop := F5_76 t3 t10 t11 t13 t14 H R11 Q
def F5_77 (t3 t10 t11 t13 : Value) (H : Hp) (R11 : RT4) (Q : RT1) : Prop :=
  q (Ix 8 t3 t13) fun t60_112 =>
  q (LdA 8 H t60_112) fun t61_113 =>
  New #[Value.int IntKind.i64 0, Value.int IntKind.i64 0, Value.int IntKind.i64 0, Value.int IntKind.i64 0, Value.bool false, Value.int IntKind.u32 0, Value.int IntKind.u32 0, Value.int IntKind.i64 0] 60 H (fun t14_114 H_114 =>
  St 8 H_114 t14_114 t61_113 ((fun u_115 H_115 =>
  F5_17 t3 t10 t11 t13 t14_114 H_115 R11 Q) undef))
def F5_16 (t3 t10 t11 t13 : Value) (H : Hp) (R11 : RT4) (Q : RT1) : Prop := F5_77 t3 t10 t11 t13 H R11 Q
def F5_15 (t3 t10 t11 t13 : Value) (H : Hp) (R11 : RT4) (Q : RT1) : Prop := F5_16 t3 t10 t11 t13 H R11 Q
def F5_13 (t3 t10 t11 t13 : Value) (H : Hp) (R11 : RT4) (Q : RT1) : Prop := F5_15 t3 t10 t11 t13 H R11 Q
def F5_78 (t3 t10 t11 t13 : Value) (H : Hp) (R11 : RT4) (Q : RT1) : Prop :=
  q (pv Tryz.prog (Builtin.len_ #[58] 0 #[t3])) fun t54_116 =>
  q (Bin Tryz.prog H .lss 3 false t13 t54_116) fun t55_117 =>
  condV t55_117 (
    F5_13 t3 t10 t11 t13 H R11 Q) (
    F5_8 H Q)
def F5_12 (t3 t10 t11 t13 : Value) (H : Hp) (R11 : RT4) (Q : RT1) : Prop := F5_78 t3 t10 t11 t13 H R11 Q
def F5_11 (t3 t10 t11 t13 : Value) (H : Hp) (Q : RT1) : Prop :=
  ∃ (I : RT1) (μ : Value → Hp → Nat), I t13 H ∧ ∀ n13 H1, I n13 H1 → F5_12 t3 t10 t11 n13 H1 (fun m3 m10 m11 m13 H2 => m3 = t3 ∧ m10 = t10 ∧ m11 = t11 ∧ (I m13 H2 ∧ μ m13 H2 < μ n13 H1)) Q
def F5_10 (t3 t10 t11 t13 : Value) (H : Hp) (Q : RT1) : Prop := F5_11 t3 t10 t11 t13 H Q
def F5_79 (t3 t10 t11 : Value) (H : Hp) (Q : RT1) : Prop :=
  F5_10 t3 t10 t11 (Value.int IntKind.i64 0) H Q
def F5_9 (t3 t10 t11 : Value) (H : Hp) (Q : RT1) : Prop := F5_79 t3 t10 t11 H Q
def F5_7 (t3 t10 t11 : Value) (H : Hp) (Q : RT1) : Prop := F5_9 t3 t10 t11 H Q
def F5_80 (t3 t10 t11 t12 : Value) (H : Hp) (Q : RT1) : Prop :=
  q (pv Tryz.prog (Op.unary .not t12)) fun t51_118 =>
  condV t51_118 (
    Q (Value.bool false) H) (
    F5_7 t3 t10 t11 H Q)
def F5_6 (t3 t10 t11 t12 : Value) (H : Hp) (Q : RT1) : Prop := F5_80 t3 t10 t11 t12 H Q
def F5_81 (t3 t10 : Value) (H : Hp) (Q : RT1) : Prop :=
  q (LdA 4 H t10) fun t46_119 =>
  NCalls Tryz.prog 22 #[t46_119, (Value.int IntKind.i64 128), (Value.slice none 0 0)] H (fun t47_120 H_120 =>
  q (Ex 0 t47_120) fun t48_121 =>
  q (Ex 1 t47_120) fun t49_122 =>
  F5_6 t3 t10 t48_121 t49_122 H_120 Q)
def F5_5 (t3 t10 : Value) (H : Hp) (Q : RT1) : Prop := F5_81 t3 t10 H Q
def F5_82 (t0 t1 t2 t3 : Value) (H : Hp) (Q : RT1) : Prop :=
  NCalls Tryz.prog 21 #[t0, t1, t2] H (fun t44_123 H_123 =>
  New #[Value.int IntKind.i64 0, Value.int IntKind.i64 0, Value.int IntKind.i64 0, Value.int IntKind.i64 0] 23 H_123 (fun t10_124 H_124 =>
  St 4 H_124 t10_124 t44_123 ((fun u_125 H_125 =>
  F5_5 t3 t10_124 H_125 Q) undef)))
def F5_4 (t0 t1 t2 t3 : Value) (H : Hp) (Q : RT1) : Prop := F5_82 t0 t1 t2 t3 H Q
def F5_83 (t0 t1 t2 t3 t9 : Value) (H : Hp) (Q : RT1) : Prop :=
  q (pv Tryz.prog (Builtin.len_ #[58] 0 #[t3])) fun t34_126 =>
  q (Bin Tryz.prog H .gtr 3 true t34_126 (Value.int IntKind.i64 100)) fun t35_127 =>
  q (gd t35_127 false (some t9)) fun t37_128 =>
  q (gd t35_127 false (pv Tryz.prog (Op.unary .not t37_128))) fun t38_129 =>
  q (Pk t35_127 (Value.bool true) t38_129) fun t39_130 =>
  condV t39_130 (
    Q t9 H) (
    F5_4 t0 t1 t2 t3 H Q)
def F5_3 (t0 t1 t2 t3 t9 : Value) (H : Hp) (Q : RT1) : Prop := F5_83 t0 t1 t2 t3 t9 H Q
def F5_84 (t0 t1 t2 t3 t9 : Value) (H : Hp) (Q : RT1) : Prop :=
  q (pv Tryz.prog (Op.unary .not t9)) fun t32_131 =>
  condV t32_131 (
    Q (Value.bool false) H) (
    F5_3 t0 t1 t2 t3 t9 H Q)
def F5_2 (t0 t1 t2 t3 t9 : Value) (H : Hp) (Q : RT1) : Prop := F5_84 t0 t1 t2 t3 t9 H Q
def F5_85 (t0 t1 t2 t3 : Value) (H : Hp) (Q : RT1) : Prop :=
  NCalls Tryz.prog 9 #[] H (fun t30_132 H_132 =>
  F5_2 t0 t1 t2 t3 t30_132 H_132 Q)
def F5_1 (t0 t1 t2 t3 : Value) (H : Hp) (Q : RT1) : Prop := F5_85 t0 t1 t2 t3 H Q
def F5_86 (t0 t1 t2 t3 : Value) (H : Hp) (Q : RT1) : Prop :=
  F5_1 t0 t1 t2 t3 H Q
def F5_0 (t0 t1 t2 t3 : Value) (H : Hp) (Q : RT1) : Prop := F5_86 t0 t1 t2 t3 H Q
theorem A5_8 {fr : Fr} {H : Hp} {Q : RT1} (h : F5_8 H Q) : xCode Tryz.prog 215 (Code.r (Code.r (Code.r (Code.r (Code.r (Code.r (Code.r (Code.r (bodyOf Tryz.f5))))))))) (xRet Tryz.prog [.tmp 8] Q) fr H :=
  Eq.mp (by kernel_rfl) h
abbrev K5_4 (Q : RT1) : QT := thenK (fun fr H => F5_8 H Q) (xRet Tryz.prog [.tmp 8] Q)
abbrev K5_5 (R11 : RT4) (Q : RT1) : QT := thenK (fun fr H => R11 (fr 3) (fr 10) (fr 11) (fr 13) H) (blockK 0 (K5_4 Q))
theorem A5_14 {fr : Fr} {H : Hp} {R11 : RT4} {Q : RT1} (h : F5_14 (fr 3) (fr 10) (fr 11) (fr 13) H R11 Q) : xCode Tryz.prog 215 (Code.r (Code.r (Code.l (Code.l (Code.r (Code.l (Code.r (Code.r (Code.r (Code.r (Code.r (Code.r (Code.r (bodyOf Tryz.f5)))))))))))))) (K5_5 R11 Q) fr H :=
  Eq.mp (by kernel_rfl) h
abbrev K5_6 (R11 : RT4) (Q : RT1) : QT := thenK (fun fr H => F5_14 (fr 3) (fr 10) (fr 11) (fr 13) H R11 Q) (K5_5 R11 Q)
abbrev K5_7 (R11 : RT4) (R23 : RT6) (Q : RT1) : QT := thenK (fun fr H => R23 (fr 3) (fr 10) (fr 11) (fr 13) (fr 16) (fr 23) H) (blockK 7 (blockK 1 (K5_6 R11 Q)))
theorem A5_26 {fr : Fr} {H : Hp} {R11 : RT4} {R23 : RT6} {Q : RT1} (h : F5_26 (fr 3) (fr 10) (fr 11) (fr 13) (fr 16) (fr 23) H R11 R23 Q) : xCode Tryz.prog 215 (Code.r (Code.r (Code.l (Code.l (Code.r (Code.r (Code.r (Code.r (Code.r (Code.r (Code.l (Code.l (Code.r (Code.l (Code.l (Code.r (Code.l (Code.r (Code.r (Code.r (Code.r (Code.r (Code.r (Code.r (bodyOf Tryz.f5))))))))))))))))))))))))) (K5_7 R11 R23 Q) fr H :=
  Eq.mp (by kernel_rfl) h
abbrev K5_8 (R11 : RT4) (R23 : RT6) (Q : RT1) : QT := thenK (fun fr H => F5_26 (fr 3) (fr 10) (fr 11) (fr 13) (fr 16) (fr 23) H R11 R23 Q) (K5_7 R11 R23 Q)
theorem A5_31 {fr : Fr} {H : Hp} {R11 : RT4} {R23 : RT6} {Q : RT1} (h : F5_31 (fr 3) (fr 10) (fr 11) (fr 13) (fr 16) (fr 23) (fr 24) (fr 25) H R11 R23 Q) : xCode Tryz.prog 215 (Code.r (Code.r (Code.r (Code.l (Code.l (Code.r (Code.l (Code.l (Code.r (Code.r (Code.r (Code.r (Code.r (Code.r (Code.l (Code.l (Code.r (Code.l (Code.l (Code.r (Code.l (Code.r (Code.r (Code.r (Code.r (Code.r (Code.r (Code.r (bodyOf Tryz.f5))))))))))))))))))))))))))))) (blockK 8 (K5_8 R11 R23 Q)) fr H :=
  Eq.mp (by kernel_rfl) h
abbrev K5_9 (R11 : RT4) (R23 : RT6) (Q : RT1) : QT := thenK (fun fr H => F5_31 (fr 3) (fr 10) (fr 11) (fr 13) (fr 16) (fr 23) (fr 24) (fr 25) H R11 R23 Q) (blockK 8 (K5_8 R11 R23 Q))
abbrev K5_10 (R11 : RT4) (R23 : RT6) (R34 : RT9) (Q : RT1) : QT := thenK (fun fr H => R34 (fr 3) (fr 10) (fr 11) (fr 13) (fr 16) (fr 23) (fr 24) (fr 25) (fr 26) H) (blockK 9 (K5_9 R11 R23 Q))
theorem A5_37 {fr : Fr} {H : Hp} {R11 : RT4} {R23 : RT6} {R34 : RT9} {Q : RT1} (h : F5_37 (fr 3) (fr 10) (fr 11) (fr 13) (fr 16) (fr 23) (fr 24) (fr 25) (fr 26) H R11 R23 R34 Q) : xCode Tryz.prog 215 (Code.r (Code.r (Code.l (Code.l (Code.r (Code.l (Code.r (Code.r (Code.l (Code.l (Code.r (Code.l (Code.l (Code.r (Code.r (Code.r (Code.r (Code.r (Code.r (Code.l (Code.l (Code.r (Code.l (Code.l (Code.r (Code.l (Code.r (Code.r (Code.r (Code.r (Code.r (Code.r (Code.r (bodyOf Tryz.f5)))))))))))))))))))))))))))))))))) (K5_10 R11 R23 R34 Q) fr H :=
  Eq.mp (by kernel_rfl) h
theorem A5_38 {fr : Fr} {H : Hp} {R11 : RT4} {R23 : RT6} {R34 : RT9} {Q : RT1} (h : F5_38 (fr 3) (fr 10) (fr 11) (fr 13) (fr 16) (fr 23) (fr 24) (fr 25) (fr 26) H R11 R23 R34 Q) : xCode Tryz.prog 215 (Code.l (Code.r (Code.l (Code.l (Code.r (Code.l (Code.r (Code.r (Code.l (Code.l (Code.r (Code.l (Code.l (Code.r (Code.r (Code.r (Code.r (Code.r (Code.r (Code.l (Code.l (Code.r (Code.l (Code.l (Code.r (Code.l (Code.r (Code.r (Code.r (Code.r (Code.r (Code.r (Code.r (bodyOf Tryz.f5)))))))))))))))))))))))))))))))))) (thenK (fun fr H => F5_37 (fr 3) (fr 10) (fr 11) (fr 13) (fr 16) (fr 23) (fr 24) (fr 25) (fr 26) H R11 R23 R34 Q) (K5_10 R11 R23 R34 Q)) fr H :=
  Eq.mp (by kernel_rfl) h
theorem A5_36 {fr : Fr} {H : Hp} {R11 : RT4} {R23 : RT6} {R34 : RT9} {Q : RT1} (h : F5_36 (fr 3) (fr 10) (fr 11) (fr 13) (fr 16) (fr 23) (fr 24) (fr 25) (fr 26) H R11 R23 R34 Q) : xCode Tryz.prog 215 (Code.r (Code.l (Code.l (Code.r (Code.l (Code.r (Code.r (Code.l (Code.l (Code.r (Code.l (Code.l (Code.r (Code.r (Code.r (Code.r (Code.r (Code.r (Code.l (Code.l (Code.r (Code.l (Code.l (Code.r (Code.l (Code.r (Code.r (Code.r (Code.r (Code.r (Code.r (Code.r (bodyOf Tryz.f5))))))))))))))))))))))))))))))))) (K5_10 R11 R23 R34 Q) fr H :=
  seq_cut (by kernel_rfl) (fun _ _ h => A5_37 h) (A5_38 h)
theorem A5_39 {fr : Fr} {H : Hp} {R11 : RT4} {R23 : RT6} {R34 : RT9} {Q : RT1} (h : F5_39 (fr 3) (fr 10) (fr 11) (fr 13) (fr 16) (fr 23) (fr 24) (fr 25) (fr 26) H R11 R23 R34 Q) : xCode Tryz.prog 215 (Code.l (Code.l (Code.l (Code.r (Code.l (Code.r (Code.r (Code.l (Code.l (Code.r (Code.l (Code.l (Code.r (Code.r (Code.r (Code.r (Code.r (Code.r (Code.l (Code.l (Code.r (Code.l (Code.l (Code.r (Code.l (Code.r (Code.r (Code.r (Code.r (Code.r (Code.r (Code.r (bodyOf Tryz.f5))))))))))))))))))))))))))))))))) (thenK (fun fr H => F5_36 (fr 3) (fr 10) (fr 11) (fr 13) (fr 16) (fr 23) (fr 24) (fr 25) (fr 26) H R11 R23 R34 Q) (K5_10 R11 R23 R34 Q)) fr H :=
  Eq.mp (by kernel_rfl) h
theorem A5_35 {fr : Fr} {H : Hp} {R11 : RT4} {R23 : RT6} {R34 : RT9} {Q : RT1} (h : F5_35 (fr 3) (fr 10) (fr 11) (fr 13) (fr 16) (fr 23) (fr 24) (fr 25) (fr 26) H R11 R23 R34 Q) : xCode Tryz.prog 215 (Code.l (Code.l (Code.r (Code.l (Code.r (Code.r (Code.l (Code.l (Code.r (Code.l (Code.l (Code.r (Code.r (Code.r (Code.r (Code.r (Code.r (Code.l (Code.l (Code.r (Code.l (Code.l (Code.r (Code.l (Code.r (Code.r (Code.r (Code.r (Code.r (Code.r (Code.r (bodyOf Tryz.f5)))))))))))))))))))))))))))))))) (K5_10 R11 R23 R34 Q) fr H :=
  seq_cut (by kernel_rfl) (fun _ _ h => A5_36 h) (A5_39 h)
theorem A5_34 {fr : Fr} {H : Hp} {R11 : RT4} {R23 : RT6} {Q : RT1} (h : F5_34 (fr 3) (fr 10) (fr 11) (fr 13) (fr 16) (fr 23) (fr 24) (fr 25) (fr 26) H R11 R23 Q) : xCode Tryz.prog 215 (Code.l (Code.r (Code.l (Code.r (Code.r (Code.l (Code.l (Code.r (Code.l (Code.l (Code.r (Code.r (Code.r (Code.r (Code.r (Code.r (Code.l (Code.l (Code.r (Code.l (Code.l (Code.r (Code.l (Code.r (Code.r (Code.r (Code.r (Code.r (Code.r (Code.r (bodyOf Tryz.f5))))))))))))))))))))))))))))))) (blockK 9 (K5_9 R11 R23 Q)) fr H := by
  obtain ⟨I, μ, h0, hr⟩ := h
  refine loop_cut (a := (Code.l (Code.l (Code.r (Code.l (Code.r (Code.r (Code.l (Code.l (Code.r (Code.l (Code.l (Code.r (Code.r (Code.r (Code.r (Code.r (Code.r (Code.l (Code.l (Code.r (Code.l (Code.l (Code.r (Code.l (Code.r (Code.r (Code.r (Code.r (Code.r (Code.r (Code.r (bodyOf Tryz.f5))))))))))))))))))))))))))))))))) (by kernel_rfl) (fun fr1 H1 => fr1 3 = fr 3 ∧ fr1 10 = fr 10 ∧ fr1 11 = fr 11 ∧ fr1 13 = fr 13 ∧ fr1 16 = fr 16 ∧ fr1 23 = fr 23 ∧ fr1 24 = fr 24 ∧ I (fr1 25) (fr1 26) H1) (fun fr1 H1 => μ (fr1 25) (fr1 26) H1) (by exact ⟨rfl, rfl, rfl, rfl, rfl, rfl, rfl, h0⟩) ?_
  intro fr1 H1 hI
  obtain ⟨hu3, hu10, hu11, hu13, hu16, hu23, hu24, hI⟩ := hI
  have hb := hr (fr1 25) (fr1 26) H1 hI
  rw [← hu3] at hb; rw [← hu10] at hb; rw [← hu11] at hb; rw [← hu13] at hb; rw [← hu16] at hb; rw [← hu23] at hb; rw [← hu24] at hb
  refine ⟨_, ?_, A5_35 hb⟩
  intro fr2 H2 hj
  obtain ⟨ku3, ku10, ku11, ku13, ku16, ku23, ku24, hI2, hlt⟩ := hj
  exact ⟨⟨(ku3.trans hu3), (ku10.trans hu10), (ku11.trans hu11), (ku13.trans hu13), (ku16.trans hu16), (ku23.trans hu23), (ku24.trans hu24), hI2⟩, hlt⟩
theorem A5_33 {fr : Fr} {H : Hp} {R11 : RT4} {R23 : RT6} {Q : RT1} (h : F5_33 (fr 3) (fr 10) (fr 11) (fr 13) (fr 16) (fr 23) (fr 24) (fr 25) (fr 26) H R11 R23 Q) : xCode Tryz.prog 215 (Code.r (Code.l (Code.r (Code.r (Code.l (Code.l (Code.r (Code.l (Code.l (Code.r (Code.r (Code.r (Code.r (Code.r (Code.r (Code.l (Code.l (Code.r (Code.l (Code.l (Code.r (Code.l (Code.r (Code.r (Code.r (Code.r (Code.r (Code.r (Code.r (bodyOf Tryz.f5)))))))))))))))))))))))))))))) (K5_9 R11 R23 Q) fr H :=
  block_cut (by kernel_rfl) (A5_34 h)
theorem A5_40 {fr : Fr} {H : Hp} {R11 : RT4} {R23 : RT6} {Q : RT1} (h : F5_40 (fr 3) (fr 10) (fr 11) (fr 13) (fr 16) (fr 23) (fr 24) (fr 25) H R11 R23 Q) : xCode Tryz.prog 215 (Code.l (Code.l (Code.r (Code.r (Code.l (Code.l (Code.r (Code.l (Code.l (Code.r (Code.r (Code.r (Code.r (Code.r (Code.r (Code.l (Code.l (Code.r (Code.l (Code.l (Code.r (Code.l (Code.r (Code.r (Code.r (Code.r (Code.r (Code.r (Code.r (bodyOf Tryz.f5)))))))))))))))))))))))))))))) (thenK (fun fr H => F5_33 (fr 3) (fr 10) (fr 11) (fr 13) (fr 16) (fr 23) (fr 24) (fr 25) (fr 26) H R11 R23 Q) (K5_9 R11 R23 Q)) fr H :=
  Eq.mp (by kernel_rfl) h
theorem A5_32 {fr : Fr} {H : Hp} {R11 : RT4} {R23 : RT6} {Q : RT1} (h : F5_32 (fr 3) (fr 10) (fr 11) (fr 13) (fr 16) (fr 23) (fr 24) (fr 25) H R11 R23 Q) : xCode Tryz.prog 215 (Code.l (Code.r (Code.r (Code.l (Code.l (Code.r (Code.l (Code.l (Code.r (Code.r (Code.r (Code.r (Code.r (Code.r (Code.l (Code.l (Code.r (Code.l (Code.l (Code.r (Code.l (Code.r (Code.r (Code.r (Code.r (Code.r (Code.r (Code.r (bodyOf Tryz.f5))))))))))))))))))))))))))))) (K5_9 R11 R23 Q) fr H :=
  seq_cut (by kernel_rfl) (fun _ _ h => A5_33 h) (A5_40 h)
theorem A5_30 {fr : Fr} {H : Hp} {R11 : RT4} {R23 : RT6} {Q : RT1} (h : F5_30 (fr 3) (fr 10) (fr 11) (fr 13) (fr 16) (fr 23) (fr 24) (fr 25) H R11 R23 Q) : xCode Tryz.prog 215 (Code.r (Code.r (Code.l (Code.l (Code.r (Code.l (Code.l (Code.r (Code.r (Code.r (Code.r (Code.r (Code.r (Code.l (Code.l (Code.r (Code.l (Code.l (Code.r (Code.l (Code.r (Code.r (Code.r (Code.r (Code.r (Code.r (Code.r (bodyOf Tryz.f5)))))))))))))))))))))))))))) (blockK 8 (K5_8 R11 R23 Q)) fr H :=
  seq_cut (by kernel_rfl) (fun _ _ h => A5_31 h) (A5_32 h)
theorem A5_41 {fr : Fr} {H : Hp} {R11 : RT4} {R23 : RT6} {Q : RT1} (h : F5_41 (fr 3) (fr 10) (fr 11) (fr 13) (fr 16) (fr 23) (fr 24) H R11 R23 Q) : xCode Tryz.prog 215 (Code.l (Code.r (Code.l (Code.l (Code.r (Code.l (Code.l (Code.r (Code.r (Code.r (Code.r (Code.r (Code.r (Code.l (Code.l (Code.r (Code.l (Code.l (Code.r (Code.l (Code.r (Code.r (Code.r (Code.r (Code.r (Code.r (Code.r (bodyOf Tryz.f5)))))))))))))))))))))))))))) (thenK (fun fr H => F5_30 (fr 3) (fr 10) (fr 11) (fr 13) (fr 16) (fr 23) (fr 24) (fr 25) H R11 R23 Q) (blockK 8 (K5_8 R11 R23 Q))) fr H :=
  Eq.mp (by kernel_rfl) h
theorem A5_29 {fr : Fr} {H : Hp} {R11 : RT4} {R23 : RT6} {Q : RT1} (h : F5_29 (fr 3) (fr 10) (fr 11) (fr 13) (fr 16) (fr 23) (fr 24) H R11 R23 Q) : xCode Tryz.prog 215 (Code.r (Code.l (Code.l (Code.r (Code.l (Code.l (Code.r (Code.r (Code.r (Code.r (Code.r (Code.r (Code.l (Code.l (Code.r (Code.l (Code.l (Code.r (Code.l (Code.r (Code.r (Code.r (Code.r (Code.r (Code.r (Code.r (bodyOf Tryz.f5))))))))))))))))))))))))))) (blockK 8 (K5_8 R11 R23 Q)) fr H :=
  seq_cut (by kernel_rfl) (fun _ _ h => A5_30 h) (A5_41 h)
theorem A5_42 {fr : Fr} {H : Hp} {R11 : RT4} {R23 : RT6} {Q : RT1} (h : F5_42 (fr 3) (fr 10) (fr 11) (fr 13) (fr 16) (fr 23) H R11 R23 Q) : xCode Tryz.prog 215 (Code.l (Code.l (Code.l (Code.r (Code.l (Code.l (Code.r (Code.r (Code.r (Code.r (Code.r (Code.r (Code.l (Code.l (Code.r (Code.l (Code.l (Code.r (Code.l (Code.r (Code.r (Code.r (Code.r (Code.r (Code.r (Code.r (bodyOf Tryz.f5))))))))))))))))))))))))))) (thenK (fun fr H => F5_29 (fr 3) (fr 10) (fr 11) (fr 13) (fr 16) (fr 23) (fr 24) H R11 R23 Q) (blockK 8 (K5_8 R11 R23 Q))) fr H :=
  Eq.mp (by kernel_rfl) h
theorem A5_28 {fr : Fr} {H : Hp} {R11 : RT4} {R23 : RT6} {Q : RT1} (h : F5_28 (fr 3) (fr 10) (fr 11) (fr 13) (fr 16) (fr 23) H R11 R23 Q) : xCode Tryz.prog 215 (Code.l (Code.l (Code.r (Code.l (Code.l (Code.r (Code.r (Code.r (Code.r (Code.r (Code.r (Code.l (Code.l (Code.r (Code.l (Code.l (Code.r (Code.l (Code.r (Code.r (Code.r (Code.r (Code.r (Code.r (Code.r (bodyOf Tryz.f5)))))))))))))))))))))))))) (blockK 8 (K5_8 R11 R23 Q)) fr H :=
  seq_cut (by kernel_rfl) (fun _ _ h => A5_29 h) (A5_42 h)
theorem A5_27 {fr : Fr} {H : Hp} {R11 : RT4} {R23 : RT6} {Q : RT1} (h : F5_27 (fr 3) (fr 10) (fr 11) (fr 13) (fr 16) (fr 23) H R11 R23 Q) : xCode Tryz.prog 215 (Code.l (Code.r (Code.l (Code.l (Code.r (Code.r (Code.r (Code.r (Code.r (Code.r (Code.l (Code.l (Code.r (Code.l (Code.l (Code.r (Code.l (Code.r (Code.r (Code.r (Code.r (Code.r (Code.r (Code.r (bodyOf Tryz.f5))))))))))))))))))))))))) (K5_8 R11 R23 Q) fr H :=
  block_cut (by kernel_rfl) (A5_28 h)
theorem A5_25 {fr : Fr} {H : Hp} {R11 : RT4} {R23 : RT6} {Q : RT1} (h : F5_25 (fr 3) (fr 10) (fr 11) (fr 13) (fr 16) (fr 23) H R11 R23 Q) : xCode Tryz.prog 215 (Code.r (Code.l (Code.l (Code.r (Code.r (Code.r (Code.r (Code.r (Code.r (Code.l (Code.l (Code.r (Code.l (Code.l (Code.r (Code.l (Code.r (Code.r (Code.r (Code.r (Code.r (Code.r (Code.r (bodyOf Tryz.f5)))))))))))))))))))))))) (K5_7 R11 R23 Q) fr H :=
  seq_cut (by kernel_rfl) (fun _ _ h => A5_26 h) (A5_27 h)
theorem A5_43 {fr : Fr} {H : Hp} {R11 : RT4} {R23 : RT6} {Q : RT1} (h : F5_43 (fr 3) (fr 10) (fr 11) (fr 13) (fr 16) (fr 23) H R11 R23 Q) : xCode Tryz.prog 215 (Code.l (Code.l (Code.l (Code.r (Code.r (Code.r (Code.r (Code.r (Code.r (Code.l (Code.l (Code.r (Code.l (Code.l (Code.r (Code.l (Code.r (Code.r (Code.r (Code.r (Code.r (Code.r (Code.r (bodyOf Tryz.f5)))))))))))))))))))))))) (thenK (fun fr H => F5_25 (fr 3) (fr 10) (fr 11) (fr 13) (fr 16) (fr 23) H R11 R23 Q) (K5_7 R11 R23 Q)) fr H :=
  Eq.mp (by kernel_rfl) h
theorem A5_24 {fr : Fr} {H : Hp} {R11 : RT4} {R23 : RT6} {Q : RT1} (h : F5_24 (fr 3) (fr 10) (fr 11) (fr 13) (fr 16) (fr 23) H R11 R23 Q) : xCode Tryz.prog 215 (Code.l (Code.l (Code.r (Code.r (Code.r (Code.r (Code.r (Code.r (Code.l (Code.l (Code.r (Code.l (Code.l (Code.r (Code.l (Code.r (Code.r (Code.r (Code.r (Code.r (Code.r (Code.r (bodyOf Tryz.f5))))))))))))))))))))))) (K5_7 R11 R23 Q) fr H :=
  seq_cut (by kernel_rfl) (fun _ _ h => A5_25 h) (A5_43 h)
theorem A5_23 {fr : Fr} {H : Hp} {R11 : RT4} {Q : RT1} (h : F5_23 (fr 3) (fr 10) (fr 11) (fr 13) (fr 16) (fr 23) H R11 Q) : xCode Tryz.prog 215 (Code.l (Code.r (Code.r (Code.r (Code.r (Code.r (Code.r (Code.l (Code.l (Code.r (Code.l (Code.l (Code.r (Code.l (Code.r (Code.r (Code.r (Code.r (Code.r (Code.r (Code.r (bodyOf Tryz.f5)))))))))))))))))))))) (blockK 7 (blockK 1 (K5_6 R11 Q))) fr H := by
  obtain ⟨I, μ, h0, hr⟩ := h
  refine loop_cut (a := (Code.l (Code.l (Code.r (Code.r (Code.r (Code.r (Code.r (Code.r (Code.l (Code.l (Code.r (Code.l (Code.l (Code.r (Code.l (Code.r (Code.r (Code.r (Code.r (Code.r (Code.r (Code.r (bodyOf Tryz.f5)))))))))))))))))))))))) (by kernel_rfl) (fun fr1 H1 => fr1 3 = fr 3 ∧ fr1 10 = fr 10 ∧ fr1 11 = fr 11 ∧ fr1 13 = fr 13 ∧ fr1 16 = fr 16 ∧ I (fr1 23) H1) (fun fr1 H1 => μ (fr1 23) H1) (by exact ⟨rfl, rfl, rfl, rfl, rfl, h0⟩) ?_
  intro fr1 H1 hI
  obtain ⟨hu3, hu10, hu11, hu13, hu16, hI⟩ := hI
  have hb := hr (fr1 23) H1 hI
  rw [← hu3] at hb; rw [← hu10] at hb; rw [← hu11] at hb; rw [← hu13] at hb; rw [← hu16] at hb
  refine ⟨_, ?_, A5_24 hb⟩
  intro fr2 H2 hj
  obtain ⟨ku3, ku10, ku11, ku13, ku16, hI2, hlt⟩ := hj
  exact ⟨⟨(ku3.trans hu3), (ku10.trans hu10), (ku11.trans hu11), (ku13.trans hu13), (ku16.trans hu16), hI2⟩, hlt⟩
theorem A5_22 {fr : Fr} {H : Hp} {R11 : RT4} {Q : RT1} (h : F5_22 (fr 3) (fr 10) (fr 11) (fr 13) (fr 16) (fr 23) H R11 Q) : xCode Tryz.prog 215 (Code.r (Code.r (Code.r (Code.r (Code.r (Code.r (Code.l (Code.l (Code.r (Code.l (Code.l (Code.r (Code.l (Code.r (Code.r (Code.r (Code.r (Code.r (Code.r (Code.r (bodyOf Tryz.f5))))))))))))))))))))) (blockK 1 (K5_6 R11 Q)) fr H :=
  block_cut (by kernel_rfl) (A5_23 h)
theorem A5_44 {fr : Fr} {H : Hp} {R11 : RT4} {Q : RT1} (h : F5_44 (fr 3) (fr 10) (fr 11) (fr 13) (fr 16) H R11 Q) : xCode Tryz.prog 215 (Code.l (Code.r (Code.r (Code.r (Code.r (Code.r (Code.l (Code.l (Code.r (Code.l (Code.l (Code.r (Code.l (Code.r (Code.r (Code.r (Code.r (Code.r (Code.r (Code.r (bodyOf Tryz.f5))))))))))))))))))))) (thenK (fun fr H => F5_22 (fr 3) (fr 10) (fr 11) (fr 13) (fr 16) (fr 23) H R11 Q) (blockK 1 (K5_6 R11 Q))) fr H :=
  Eq.mp (by kernel_rfl) h
theorem A5_21 {fr : Fr} {H : Hp} {R11 : RT4} {Q : RT1} (h : F5_21 (fr 3) (fr 10) (fr 11) (fr 13) (fr 16) H R11 Q) : xCode Tryz.prog 215 (Code.r (Code.r (Code.r (Code.r (Code.r (Code.l (Code.l (Code.r (Code.l (Code.l (Code.r (Code.l (Code.r (Code.r (Code.r (Code.r (Code.r (Code.r (Code.r (bodyOf Tryz.f5)))))))))))))))))))) (blockK 1 (K5_6 R11 Q)) fr H :=
  seq_cut (by kernel_rfl) (fun _ _ h => A5_22 h) (A5_44 h)
abbrev K5_11 (R11 : RT4) (Q : RT1) : QT := thenK (fun fr H => F5_21 (fr 3) (fr 10) (fr 11) (fr 13) (fr 16) H R11 Q) (blockK 1 (K5_6 R11 Q))
theorem A5_49 {fr : Fr} {H : Hp} {R11 : RT4} {Q : RT1} (h : F5_49 (fr 3) (fr 10) (fr 11) (fr 13) (fr 14) (fr 15) (fr 16) H R11 Q) : xCode Tryz.prog 215 (Code.l (Code.r (Code.l (Code.r (Code.l (Code.r (Code.r (Code.r (Code.r (Code.l (Code.l (Code.r (Code.l (Code.l (Code.r (Code.l (Code.r (Code.r (Code.r (Code.r (Code.r (Code.r (Code.r (bodyOf Tryz.f5)))))))))))))))))))))))) (blockK 6 (K5_11 R11 Q)) fr H :=
  Eq.mp (by kernel_rfl) h
theorem A5_51 {fr : Fr} {H : Hp} {R11 : RT4} {Q : RT1} (h : F5_51 (fr 3) (fr 10) (fr 11) (fr 13) (fr 14) (fr 15) (fr 16) (fr 135) H R11 Q) : xCode Tryz.prog 215 (Code.r (Code.r (Code.r (Code.l (Code.r (Code.l (Code.r (Code.r (Code.r (Code.r (Code.l (Code.l (Code.r (Code.l (Code.l (Code.r (Code.l (Code.r (Code.r (Code.r (Code.r (Code.r (Code.r (Code.r (bodyOf Tryz.f5))))))))))))))))))))))))) (blockK 6 (K5_11 R11 Q)) fr H :=
  Eq.mp (by kernel_rfl) h
theorem A5_52 {fr : Fr} {H : Hp} {R11 : RT4} {Q : RT1} (h : F5_52 (fr 3) (fr 10) (fr 11) (fr 13) (fr 14) (fr 15) (fr 16) (fr 114) H R11 Q) : xCode Tryz.prog 215 (Code.l (Code.r (Code.r (Code.l (Code.r (Code.l (Code.r (Code.r (Code.r (Code.r (Code.l (Code.l (Code.r (Code.l (Code.l (Code.r (Code.l (Code.r (Code.r (Code.r (Code.r (Code.r (Code.r (Code.r (bodyOf Tryz.f5))))))))))))))))))))))))) (thenK (fun fr H => F5_51 (fr 3) (fr 10) (fr 11) (fr 13) (fr 14) (fr 15) (fr 16) (fr 135) H R11 Q) (blockK 6 (K5_11 R11 Q))) fr H :=
  Eq.mp (by kernel_rfl) h
theorem A5_50 {fr : Fr} {H : Hp} {R11 : RT4} {Q : RT1} (h : F5_50 (fr 3) (fr 10) (fr 11) (fr 13) (fr 14) (fr 15) (fr 16) (fr 114) H R11 Q) : xCode Tryz.prog 215 (Code.r (Code.r (Code.l (Code.r (Code.l (Code.r (Code.r (Code.r (Code.r (Code.l (Code.l (Code.r (Code.l (Code.l (Code.r (Code.l (Code.r (Code.r (Code.r (Code.r (Code.r (Code.r (Code.r (bodyOf Tryz.f5)))))))))))))))))))))))) (blockK 6 (K5_11 R11 Q)) fr H :=
  seq_cut (by kernel_rfl) (fun _ _ h => A5_51 h) (A5_52 h)
theorem A5_48 {fr : Fr} {H : Hp} {R11 : RT4} {Q : RT1} (h : F5_48 (fr 3) (fr 10) (fr 11) (fr 13) (fr 14) (fr 15) (fr 16) (fr 114) (fr 125) H R11 Q) : xCode Tryz.prog 215 (Code.r (Code.l (Code.r (Code.l (Code.r (Code.r (Code.r (Code.r (Code.l (Code.l (Code.r (Code.l (Code.l (Code.r (Code.l (Code.r (Code.r (Code.r (Code.r (Code.r (Code.r (Code.r (bodyOf Tryz.f5))))))))))))))))))))))) (blockK 6 (K5_11 R11 Q)) fr H :=
  cond_cut (x := (Go.Operand.tmp 125)) (by kernel_rfl) (fun h => A5_49 h) (fun h => A5_50 h) h
theorem A5_53 {fr : Fr} {H : Hp} {R11 : RT4} {Q : RT1} (h : F5_53 (fr 3) (fr 10) (fr 11) (fr 13) (fr 14) (fr 15) (fr 16) (fr 114) H R11 Q) : xCode Tryz.prog 215 (Code.l (Code.l (Code.r (Code.l (Code.r (Code.r (Code.r (Code.r (Code.l (Code.l (Code.r (Code.l (Code.l (Code.r (Code.l (Code.r (Code.r (Code.r (Code.r (Code.r (Code.r (Code.r (bodyOf Tryz.f5))))))))))))))))))))))) (thenK (fun fr H => F5_48 (fr 3) (fr 10) (fr 11) (fr 13) (fr 14) (fr 15) (fr 16) (fr 114) (fr 125) H R11 Q) (blockK 6 (K5_11 R11 Q))) fr H :=
  Eq.mp (by kernel_rfl) h
theorem A5_47 {fr : Fr} {H : Hp} {R11 : RT4} {Q : RT1} (h : F5_47 (fr 3) (fr 10) (fr 11) (fr 13) (fr 14) (fr 15) (fr 16) (fr 114) H R11 Q) : xCode Tryz.prog 215 (Code.l (Code.r (Code.l (Code.r (Code.r (Code.r (Code.r (Code.l (Code.l (Code.r (Code.l (Code.l (Code.r (Code.l (Code.r (Code.r (Code.r (Code.r (Code.r (Code.r (Code.r (bodyOf Tryz.f5)))))))))))))))))))))) (blockK 6 (K5_11 R11 Q)) fr H :=
  seq_cut (by kernel_rfl) (fun _ _ h => A5_48 h) (A5_53 h)
theorem A5_46 {fr : Fr} {H : Hp} {R11 : RT4} {Q : RT1} (h : F5_46 (fr 3) (fr 10) (fr 11) (fr 13) (fr 14) (fr 15) (fr 16) (fr 114) H R11 Q) : xCode Tryz.prog 215 (Code.r (Code.l (Code.r (Code.r (Code.r (Code.r (Code.l (Code.l (Code.r (Code.l (Code.l (Code.r (Code.l (Code.r (Code.r (Code.r (Code.r (Code.r (Code.r (Code.r (bodyOf Tryz.f5))))))))))))))))))))) (K5_11 R11 Q) fr H :=
  block_cut (by kernel_rfl) (A5_47 h)
theorem A5_54 {fr : Fr} {H : Hp} {R11 : RT4} {Q : RT1} (h : F5_54 (fr 3) (fr 10) (fr 11) (fr 13) (fr 14) (fr 15) (fr 16) H R11 Q) : xCode Tryz.prog 215 (Code.l (Code.l (Code.r (Code.r (Code.r (Code.r (Code.l (Code.l (Code.r (Code.l (Code.l (Code.r (Code.l (Code.r (Code.r (Code.r (Code.r (Code.r (Code.r (Code.r (bodyOf Tryz.f5))))))))))))))))))))) (thenK (fun fr H => F5_46 (fr 3) (fr 10) (fr 11) (fr 13) (fr 14) (fr 15) (fr 16) (fr 114) H R11 Q) (K5_11 R11 Q)) fr H :=
  Eq.mp (by kernel_rfl) h
theorem A5_45 {fr : Fr} {H : Hp} {R11 : RT4} {Q : RT1} (h : F5_45 (fr 3) (fr 10) (fr 11) (fr 13) (fr 14) (fr 15) (fr 16) H R11 Q) : xCode Tryz.prog 215 (Code.l (Code.r (Code.r (Code.r (Code.r (Code.l (Code.l (Code.r (Code.l (Code.l (Code.r (Code.l (Code.r (Code.r (Code.r (Code.r (Code.r (Code.r (Code.r (bodyOf Tryz.f5)))))))))))))))))))) (K5_11 R11 Q) fr H :=
  seq_cut (by kernel_rfl) (fun _ _ h => A5_46 h) (A5_54 h)
theorem A5_20 {fr : Fr} {H : Hp} {R11 : RT4} {Q : RT1} (h : F5_20 (fr 3) (fr 10) (fr 11) (fr 13) (fr 14) (fr 15) (fr 16) H R11 Q) : xCode Tryz.prog 215 (Code.r (Code.r (Code.r (Code.r (Code.l (Code.l (Code.r (Code.l (Code.l (Code.r (Code.l (Code.r (Code.r (Code.r (Code.r (Code.r (Code.r (Code.r (bodyOf Tryz.f5))))))))))))))))))) (blockK 1 (K5_6 R11 Q)) fr H :=
  seq_cut (by kernel_rfl) (fun _ _ h => A5_21 h) (A5_45 h)
abbrev K5_12 (R11 : RT4) (Q : RT1) : QT := thenK (fun fr H => F5_20 (fr 3) (fr 10) (fr 11) (fr 13) (fr 14) (fr 15) (fr 16) H R11 Q) (blockK 1 (K5_6 R11 Q))
abbrev K5_13 (R11 : RT4) (R57 : RT8) (Q : RT1) : QT := thenK (fun fr H => R57 (fr 3) (fr 10) (fr 11) (fr 13) (fr 14) (fr 15) (fr 16) (fr 17) H) (blockK 2 (K5_12 R11 Q))
theorem A5_60 {fr : Fr} {H : Hp} {R11 : RT4} {R57 : RT8} {Q : RT1} (h : F5_60 (fr 3) (fr 10) (fr 11) (fr 13) (fr 14) (fr 15) (fr 16) (fr 17) H R11 R57 Q) : xCode Tryz.prog 215 (Code.r (Code.r (Code.l (Code.l (Code.r (Code.l (Code.r (Code.r (Code.r (Code.l (Code.l (Code.r (Code.l (Code.l (Code.r (Code.l (Code.r (Code.r (Code.r (Code.r (Code.r (Code.r (Code.r (bodyOf Tryz.f5)))))))))))))))))))))))) (K5_13 R11 R57 Q) fr H :=
  Eq.mp (by kernel_rfl) h
abbrev K5_14 (R11 : RT4) (R57 : RT8) (Q : RT1) : QT := thenK (fun fr H => F5_60 (fr 3) (fr 10) (fr 11) (fr 13) (fr 14) (fr 15) (fr 16) (fr 17) H R11 R57 Q) (K5_13 R11 R57 Q)
theorem A5_65 {fr : Fr} {H : Hp} {R11 : RT4} {R57 : RT8} {Q : RT1} (h : F5_65 (fr 3) (fr 10) (fr 11) (fr 13) (fr 14) (fr 15) (fr 16) (fr 17) (fr 18) H R11 R57 Q) : xCode Tryz.prog 215 (Code.r (Code.r (Code.r (Code.l (Code.l (Code.r (Code.l (Code.l (Code.r (Code.l (Code.r (Code.r (Code.r (Code.l (Code.l (Code.r (Code.l (Code.l (Code.r (Code.l (Code.r (Code.r (Code.r (Code.r (Code.r (Code.r (Code.r (bodyOf Tryz.f5)))))))))))))))))))))))))))) (blockK 3 (K5_14 R11 R57 Q)) fr H :=
  Eq.mp (by kernel_rfl) h
abbrev K5_15 (R11 : RT4) (R57 : RT8) (Q : RT1) : QT := thenK (fun fr H => F5_65 (fr 3) (fr 10) (fr 11) (fr 13) (fr 14) (fr 15) (fr 16) (fr 17) (fr 18) H R11 R57 Q) (blockK 3 (K5_14 R11 R57 Q))
theorem A5_69 {fr : Fr} {H : Hp} {R11 : RT4} {R57 : RT8} {R68 : RT10} {Q : RT1} (h : F5_69 (fr 3) (fr 10) (fr 11) (fr 13) (fr 14) (fr 15) (fr 16) (fr 17) (fr 18) (fr 19) H R11 R57 R68 Q) : xCode Tryz.prog 215 (Code.l (Code.l (Code.r (Code.l (Code.r (Code.r (Code.l (Code.l (Code.r (Code.l (Code.l (Code.r (Code.l (Code.r (Code.r (Code.r (Code.l (Code.l (Code.r (Code.l (Code.l (Code.r (Code.l (Code.r (Code.r (Code.r (Code.r (Code.r (Code.r (Code.r (bodyOf Tryz.f5))))))))))))))))))))))))))))))) (thenK (fun fr H => R68 (fr 3) (fr 10) (fr 11) (fr 13) (fr 14) (fr 15) (fr 16) (fr 17) (fr 18) (fr 19) H) (blockK 4 (K5_15 R11 R57 Q))) fr H :=
  Eq.mp (by kernel_rfl) h
theorem A5_68 {fr : Fr} {H : Hp} {R11 : RT4} {R57 : RT8} {Q : RT1} (h : F5_68 (fr 3) (fr 10) (fr 11) (fr 13) (fr 14) (fr 15) (fr 16) (fr 17) (fr 18) (fr 19) H R11 R57 Q) : xCode Tryz.prog 215 (Code.l (Code.r (Code.l (Code.r (Code.r (Code.l (Code.l (Code.r (Code.l (Code.l (Code.r (Code.l (Code.r (Code.r (Code.r (Code.l (Code.l (Code.r (Code.l (Code.l (Code.r (Code.l (Code.r (Code.r (Code.r (Code.r (Code.r (Code.r (Code.r (bodyOf Tryz.f5)))))))))))))))))))))))))))))) (blockK 4 (K5_15 R11 R57 Q)) fr H := by
  obtain ⟨I, μ, h0, hr⟩ := h
  refine loop_cut (a := (Code.l (Code.l (Code.r (Code.l (Code.r (Code.r (Code.l (Code.l (Code.r (Code.l (Code.l (Code.r (Code.l (Code.r (Code.r (Code.r (Code.l (Code.l (Code.r (Code.l (Code.l (Code.r (Code.l (Code.r (Code.r (Code.r (Code.r (Code.r (Code.r (Code.r (bodyOf Tryz.f5)))))))))))))))))))))))))))))))) (by kernel_rfl) (fun fr1 H1 => fr1 3 = fr 3 ∧ fr1 10 = fr 10 ∧ fr1 11 = fr 11 ∧ fr1 13 = fr 13 ∧ fr1 14 = fr 14 ∧ fr1 15 = fr 15 ∧ fr1 16 = fr 16 ∧ fr1 17 = fr 17 ∧ fr1 18 = fr 18 ∧ I (fr1 19) H1) (fun fr1 H1 => μ (fr1 19) H1) (by exact ⟨rfl, rfl, rfl, rfl, rfl, rfl, rfl, rfl, rfl, h0⟩) ?_
  intro fr1 H1 hI
  obtain ⟨hu3, hu10, hu11, hu13, hu14, hu15, hu16, hu17, hu18, hI⟩ := hI
  have hb := hr (fr1 19) H1 hI
  rw [← hu3] at hb; rw [← hu10] at hb; rw [← hu11] at hb; rw [← hu13] at hb; rw [← hu14] at hb; rw [← hu15] at hb; rw [← hu16] at hb; rw [← hu17] at hb; rw [← hu18] at hb
  refine ⟨_, ?_, A5_69 hb⟩
  intro fr2 H2 hj
  obtain ⟨ku3, ku10, ku11, ku13, ku14, ku15, ku16, ku17, ku18, hI2, hlt⟩ := hj
  exact ⟨⟨(ku3.trans hu3), (ku10.trans hu10), (ku11.trans hu11), (ku13.trans hu13), (ku14.trans hu14), (ku15.trans hu15), (ku16.trans hu16), (ku17.trans hu17), (ku18.trans hu18), hI2⟩, hlt⟩
theorem A5_67 {fr : Fr} {H : Hp} {R11 : RT4} {R57 : RT8} {Q : RT1} (h : F5_67 (fr 3) (fr 10) (fr 11) (fr 13) (fr 14) (fr 15) (fr 16) (fr 17) (fr 18) (fr 19) H R11 R57 Q) : xCode Tryz.prog 215 (Code.r (Code.l (Code.r (Code.r (Code.l (Code.l (Code.r (Code.l (Code.l (Code.r (Code.l (Code.r (Code.r (Code.r (Code.l (Code.l (Code.r (Code.l (Code.l (Code.r (Code.l (Code.r (Code.r (Code.r (Code.r (Code.r (Code.r (Code.r (bodyOf Tryz.f5))))))))))))))))))))))))))))) (K5_15 R11 R57 Q) fr H :=
  block_cut (by kernel_rfl) (A5_68 h)
theorem A5_70 {fr : Fr} {H : Hp} {R11 : RT4} {R57 : RT8} {Q : RT1} (h : F5_70 (fr 3) (fr 10) (fr 11) (fr 13) (fr 14) (fr 15) (fr 16) (fr 17) (fr 18) H R11 R57 Q) : xCode Tryz.prog 215 (Code.l (Code.l (Code.r (Code.r (Code.l (Code.l (Code.r (Code.l (Code.l (Code.r (Code.l (Code.r (Code.r (Code.r (Code.l (Code.l (Code.r (Code.l (Code.l (Code.r (Code.l (Code.r (Code.r (Code.r (Code.r (Code.r (Code.r (Code.r (bodyOf Tryz.f5))))))))))))))))))))))))))))) (thenK (fun fr H => F5_67 (fr 3) (fr 10) (fr 11) (fr 13) (fr 14) (fr 15) (fr 16) (fr 17) (fr 18) (fr 19) H R11 R57 Q) (K5_15 R11 R57 Q)) fr H :=
  Eq.mp (by kernel_rfl) h
theorem A5_66 {fr : Fr} {H : Hp} {R11 : RT4} {R57 : RT8} {Q : RT1} (h : F5_66 (fr 3) (fr 10) (fr 11) (fr 13) (fr 14) (fr 15) (fr 16) (fr 17) (fr 18) H R11 R57 Q) : xCode Tryz.prog 215 (Code.l (Code.r (Code.r (Code.l (Code.l (Code.r (Code.l (Code.l (Code.r (Code.l (Code.r (Code.r (Code.r (Code.l (Code.l (Code.r (Code.l (Code.l (Code.r (Code.l (Code.r (Code.r (Code.r (Code.r (Code.r (Code.r (Code.r (bodyOf Tryz.f5)))))))))))))))))))))))))))) (K5_15 R11 R57 Q) fr H :=
  seq_cut (by kernel_rfl) (fun _ _ h => A5_67 h) (A5_70 h)
theorem A5_64 {fr : Fr} {H : Hp} {R11 : RT4} {R57 : RT8} {Q : RT1} (h : F5_64 (fr 3) (fr 10) (fr 11) (fr 13) (fr 14) (fr 15) (fr 16) (fr 17) (fr 18) H R11 R57 Q) : xCode Tryz.prog 215 (Code.r (Code.r (Code.l (Code.l (Code.r (Code.l (Code.l (Code.r (Code.l (Code.r (Code.r (Code.r (Code.l (Code.l (Code.r (Code.l (Code.l (Code.r (Code.l (Code.r (Code.r (Code.r (Code.r (Code.r (Code.r (Code.r (bodyOf Tryz.f5))))))))))))))))))))))))))) (blockK 3 (K5_14 R11 R57 Q)) fr H :=
  seq_cut (by kernel_rfl) (fun _ _ h => A5_65 h) (A5_66 h)
theorem A5_71 {fr : Fr} {H : Hp} {R11 : RT4} {R57 : RT8} {Q : RT1} (h : F5_71 (fr 3) (fr 10) (fr 11) (fr 13) (fr 14) (fr 15) (fr 16) (fr 17) H R11 R57 Q) : xCode Tryz.prog 215 (Code.l (Code.r (Code.l (Code.l (Code.r (Code.l (Code.l (Code.r (Code.l (Code.r (Code.r (Code.r (Code.l (Code.l (Code.r (Code.l (Code.l (Code.r (Code.l (Code.r (Code.r (Code.r (Code.r (Code.r (Code.r (Code.r (bodyOf Tryz.f5))))))))))))))))))))))))))) (thenK (fun fr H => F5_64 (fr 3) (fr 10) (fr 11) (fr 13) (fr 14) (fr 15) (fr 16) (fr 17) (fr 18) H R11 R57 Q) (blockK 3 (K5_14 R11 R57 Q))) fr H :=
  Eq.mp (by kernel_rfl) h
theorem A5_63 {fr : Fr} {H : Hp} {R11 : RT4} {R57 : RT8} {Q : RT1} (h : F5_63 (fr 3) (fr 10) (fr 11) (fr 13) (fr 14) (fr 15) (fr 16) (fr 17) H R11 R57 Q) : xCode Tryz.prog 215 (Code.r (Code.l (Code.l (Code.r (Code.l (Code.l (Code.r (Code.l (Code.r (Code.r (Code.r (Code.l (Code.l (Code.r (Code.l (Code.l (Code.r (Code.l (Code.r (Code.r (Code.r (Code.r (Code.r (Code.r (Code.r (bodyOf Tryz.f5)))))))))))))))))))))))))) (blockK 3 (K5_14 R11 R57 Q)) fr H :=
  seq_cut (by kernel_rfl) (fun _ _ h => A5_64 h) (A5_71 h)
theorem A5_72 {fr : Fr} {H : Hp} {R11 : RT4} {R57 : RT8} {Q : RT1} (h : F5_72 (fr 3) (fr 10) (fr 11) (fr 13) (fr 14) (fr 15) (fr 16) (fr 17) H R11 R57 Q) : xCode Tryz.prog 215 (Code.l (Code.l (Code.l (Code.r (Code.l (Code.l (Code.r (Code.l (Code.r (Code.r (Code.r (Code.l (Code.l (Code.r (Code.l (Code.l (Code.r (Code.l (Code.r (Code.r (Code.r (Code.r (Code.r (Code.r (Code.r (bodyOf Tryz.f5)))))))))))))))))))))))))) (thenK (fun fr H => F5_63 (fr 3) (fr 10) (fr 11) (fr 13) (fr 14) (fr 15) (fr 16) (fr 17) H R11 R57 Q) (blockK 3 (K5_14 R11 R57 Q))) fr H :=
  Eq.mp (by kernel_rfl) h
theorem A5_62 {fr : Fr} {H : Hp} {R11 : RT4} {R57 : RT8} {Q : RT1} (h : F5_62 (fr 3) (fr 10) (fr 11) (fr 13) (fr 14) (fr 15) (fr 16) (fr 17) H R11 R57 Q) : xCode Tryz.prog 215 (Code.l (Code.l (Code.r (Code.l (Code.l (Code.r (Code.l (Code.r (Code.r (Code.r (Code.l (Code.l (Code.r (Code.l (Code.l (Code.r (Code.l (Code.r (Code.r (Code.r (Code.r (Code.r (Code.r (Code.r (bodyOf Tryz.f5))))))))))))))))))))))))) (blockK 3 (K5_14 R11 R57 Q)) fr H :=
  seq_cut (by kernel_rfl) (fun _ _ h => A5_63 h) (A5_72 h)
theorem A5_61 {fr : Fr} {H : Hp} {R11 : RT4} {R57 : RT8} {Q : RT1} (h : F5_61 (fr 3) (fr 10) (fr 11) (fr 13) (fr 14) (fr 15) (fr 16) (fr 17) H R11 R57 Q) : xCode Tryz.prog 215 (Code.l (Code.r (Code.l (Code.l (Code.r (Code.l (Code.r (Code.r (Code.r (Code.l (Code.l (Code.r (Code.l (Code.l (Code.r (Code.l (Code.r (Code.r (Code.r (Code.r (Code.r (Code.r (Code.r (bodyOf Tryz.f5)))))))))))))))))))))))) (K5_14 R11 R57 Q) fr H :=
  block_cut (by kernel_rfl) (A5_62 h)
theorem A5_59 {fr : Fr} {H : Hp} {R11 : RT4} {R57 : RT8} {Q : RT1} (h : F5_59 (fr 3) (fr 10) (fr 11) (fr 13) (fr 14) (fr 15) (fr 16) (fr 17) H R11 R57 Q) : xCode Tryz.prog 215 (Code.r (Code.l (Code.l (Code.r (Code.l (Code.r (Code.r (Code.r (Code.l (Code.l (Code.r (Code.l (Code.l (Code.r (Code.l (Code.r (Code.r (Code.r (Code.r (Code.r (Code.r (Code.r (bodyOf Tryz.f5))))))))))))))))))))))) (K5_13 R11 R57 Q) fr H :=
  seq_cut (by kernel_rfl) (fun _ _ h => A5_60 h) (A5_61 h)
theorem A5_73 {fr : Fr} {H : Hp} {R11 : RT4} {R57 : RT8} {Q : RT1} (h : F5_73 (fr 3) (fr 10) (fr 11) (fr 13) (fr 14) (fr 15) (fr 16) (fr 17) H R11 R57 Q) : xCode Tryz.prog 215 (Code.l (Code.l (Code.l (Code.r (Code.l (Code.r (Code.r (Code.r (Code.l (Code.l (Code.r (Code.l (Code.l (Code.r (Code.l (Code.r (Code.r (Code.r (Code.r (Code.r (Code.r (Code.r (bodyOf Tryz.f5))))))))))))))))))))))) (thenK (fun fr H => F5_59 (fr 3) (fr 10) (fr 11) (fr 13) (fr 14) (fr 15) (fr 16) (fr 17) H R11 R57 Q) (K5_13 R11 R57 Q)) fr H :=
  Eq.mp (by kernel_rfl) h
theorem A5_58 {fr : Fr} {H : Hp} {R11 : RT4} {R57 : RT8} {Q : RT1} (h : F5_58 (fr 3) (fr 10) (fr 11) (fr 13) (fr 14) (fr 15) (fr 16) (fr 17) H R11 R57 Q) : xCode Tryz.prog 215 (Code.l (Code.l (Code.r (Code.l (Code.r (Code.r (Code.r (Code.l (Code.l (Code.r (Code.l (Code.l (Code.r (Code.l (Code.r (Code.r (Code.r (Code.r (Code.r (Code.r (Code.r (bodyOf Tryz.f5)))))))))))))))))))))) (K5_13 R11 R57 Q) fr H :=
  seq_cut (by kernel_rfl) (fun _ _ h => A5_59 h) (A5_73 h)
theorem A5_57 {fr : Fr} {H : Hp} {R11 : RT4} {Q : RT1} (h : F5_57 (fr 3) (fr 10) (fr 11) (fr 13) (fr 14) (fr 15) (fr 16) (fr 17) H R11 Q) : xCode Tryz.prog 215 (Code.l (Code.r (Code.l (Code.r (Code.r (Code.r (Code.l (Code.l (Code.r (Code.l (Code.l (Code.r (Code.l (Code.r (Code.r (Code.r (Code.r (Code.r (Code.r (Code.r (bodyOf Tryz.f5))))))))))))))))))))) (blockK 2 (K5_12 R11 Q)) fr H := by
  obtain ⟨I, μ, h0, hr⟩ := h
  refine loop_cut (a := (Code.l (Code.l (Code.r (Code.l (Code.r (Code.r (Code.r (Code.l (Code.l (Code.r (Code.l (Code.l (Code.r (Code.l (Code.r (Code.r (Code.r (Code.r (Code.r (Code.r (Code.r (bodyOf Tryz.f5))))))))))))))))))))))) (by kernel_rfl) (fun fr1 H1 => fr1 3 = fr 3 ∧ fr1 10 = fr 10 ∧ fr1 11 = fr 11 ∧ fr1 13 = fr 13 ∧ fr1 14 = fr 14 ∧ fr1 15 = fr 15 ∧ fr1 16 = fr 16 ∧ I (fr1 17) H1) (fun fr1 H1 => μ (fr1 17) H1) (by exact ⟨rfl, rfl, rfl, rfl, rfl, rfl, rfl, h0⟩) ?_
  intro fr1 H1 hI
  obtain ⟨hu3, hu10, hu11, hu13, hu14, hu15, hu16, hI⟩ := hI
  have hb := hr (fr1 17) H1 hI
  rw [← hu3] at hb; rw [← hu10] at hb; rw [← hu11] at hb; rw [← hu13] at hb; rw [← hu14] at hb; rw [← hu15] at hb; rw [← hu16] at hb
  refine ⟨_, ?_, A5_58 hb⟩
  intro fr2 H2 hj
  obtain ⟨ku3, ku10, ku11, ku13, ku14, ku15, ku16, hI2, hlt⟩ := hj
  exact ⟨⟨(ku3.trans hu3), (ku10.trans hu10), (ku11.trans hu11), (ku13.trans hu13), (ku14.trans hu14), (ku15.trans hu15), (ku16.trans hu16), hI2⟩, hlt⟩
theorem A5_56 {fr : Fr} {H : Hp} {R11 : RT4} {Q : RT1} (h : F5_56 (fr 3) (fr 10) (fr 11) (fr 13) (fr 14) (fr 15) (fr 16) (fr 17) H R11 Q) : xCode Tryz.prog 215 (Code.r (Code.l (Code.r (Code.r (Code.r (Code.l (Code.l (Code.r (Code.l (Code.l (Code.r (Code.l (Code.r (Code.r (Code.r (Code.r (Code.r (Code.r (Code.r (bodyOf Tryz.f5)))))))))))))))))))) (K5_12 R11 Q) fr H :=
  block_cut (by kernel_rfl) (A5_57 h)
theorem A5_74 {fr : Fr} {H : Hp} {R11 : RT4} {Q : RT1} (h : F5_74 (fr 3) (fr 10) (fr 11) (fr 13) (fr 14) (fr 15) (fr 16) H R11 Q) : xCode Tryz.prog 215 (Code.l (Code.l (Code.r (Code.r (Code.r (Code.l (Code.l (Code.r (Code.l (Code.l (Code.r (Code.l (Code.r (Code.r (Code.r (Code.r (Code.r (Code.r (Code.r (bodyOf Tryz.f5)))))))))))))))))))) (thenK (fun fr H => F5_56 (fr 3) (fr 10) (fr 11) (fr 13) (fr 14) (fr 15) (fr 16) (fr 17) H R11 Q) (K5_12 R11 Q)) fr H :=
  Eq.mp (by kernel_rfl) h
theorem A5_55 {fr : Fr} {H : Hp} {R11 : RT4} {Q : RT1} (h : F5_55 (fr 3) (fr 10) (fr 11) (fr 13) (fr 14) (fr 15) (fr 16) H R11 Q) : xCode Tryz.prog 215 (Code.l (Code.r (Code.r (Code.r (Code.l (Code.l (Code.r (Code.l (Code.l (Code.r (Code.l (Code.r (Code.r (Code.r (Code.r (Code.r (Code.r (Code.r (bodyOf Tryz.f5))))))))))))))))))) (K5_12 R11 Q) fr H :=
  seq_cut (by kernel_rfl) (fun _ _ h => A5_56 h) (A5_74 h)
theorem A5_19 {fr : Fr} {H : Hp} {R11 : RT4} {Q : RT1} (h : F5_19 (fr 3) (fr 10) (fr 11) (fr 13) (fr 14) (fr 15) (fr 16) H R11 Q) : xCode Tryz.prog 215 (Code.r (Code.r (Code.r (Code.l (Code.l (Code.r (Code.l (Code.l (Code.r (Code.l (Code.r (Code.r (Code.r (Code.r (Code.r (Code.r (Code.r (bodyOf Tryz.f5)))))))))))))))))) (blockK 1 (K5_6 R11 Q)) fr H :=
  seq_cut (by kernel_rfl) (fun _ _ h => A5_20 h) (A5_55 h)
theorem A5_75 {fr : Fr} {H : Hp} {R11 : RT4} {Q : RT1} (h : F5_75 (fr 3) (fr 10) (fr 11) (fr 13) (fr 14) (fr 15) H R11 Q) : xCode Tryz.prog 215 (Code.l (Code.r (Code.r (Code.l (Code.l (Code.r (Code.l (Code.l (Code.r (Code.l (Code.r (Code.r (Code.r (Code.r (Code.r (Code.r (Code.r (bodyOf Tryz.f5)))))))))))))))))) (thenK (fun fr H => F5_19 (fr 3) (fr 10) (fr 11) (fr 13) (fr 14) (fr 15) (fr 16) H R11 Q) (blockK 1 (K5_6 R11 Q))) fr H :=
  Eq.mp (by kernel_rfl) h
theorem A5_18 {fr : Fr} {H : Hp} {R11 : RT4} {Q : RT1} (h : F5_18 (fr 3) (fr 10) (fr 11) (fr 13) (fr 14) (fr 15) H R11 Q) : xCode Tryz.prog 215 (Code.r (Code.r (Code.l (Code.l (Code.r (Code.l (Code.l (Code.r (Code.l (Code.r (Code.r (Code.r (Code.r (Code.r (Code.r (Code.r (bodyOf Tryz.f5))))))))))))))))) (blockK 1 (K5_6 R11 Q)) fr H :=
  seq_cut (by kernel_rfl) (fun _ _ h => A5_19 h) (A5_75 h)
theorem A5_76 {fr : Fr} {H : Hp} {R11 : RT4} {Q : RT1} (h : F5_76 (fr 3) (fr 10) (fr 11) (fr 13) (fr 14) H R11 Q) : xCode Tryz.prog 215 (Code.l (Code.r (Code.l (Code.l (Code.r (Code.l (Code.l (Code.r (Code.l (Code.r (Code.r (Code.r (Code.r (Code.r (Code.r (Code.r (bodyOf Tryz.f5))))))))))))))))) (thenK (fun fr H => F5_18 (fr 3) (fr 10) (fr 11) (fr 13) (fr 14) (fr 15) H R11 Q) (blockK 1 (K5_6 R11 Q))) fr H :=
  Eq.mp (by kernel_rfl) h
theorem A5_17 {fr : Fr} {H : Hp} {R11 : RT4} {Q : RT1} (h : F5_17 (fr 3) (fr 10) (fr 11) (fr 13) (fr 14) H R11 Q) : xCode Tryz.prog 215 (Code.r (Code.l (Code.l (Code.r (Code.l (Code.l (Code.r (Code.l (Code.r (Code.r (Code.r (Code.r (Code.r (Code.r (Code.r (bodyOf Tryz.f5)))))))))))))))) (blockK 1 (K5_6 R11 Q)) fr H :=
  seq_cut (by kernel_rfl) (fun _ _ h => A5_18 h) (A5_76 h)
theorem A5_77 {fr : Fr} {H : Hp} {R11 : RT4} {Q : RT1} (h : F5_77 (fr 3) (fr 10) (fr 11) (fr 13) H R11 Q) : xCode Tryz.prog 215 (Code.l (Code.l (Code.l (Code.r (Code.l (Code.l (Code.r (Code.l (Code.r (Code.r (Code.r (Code.r (Code.r (Code.r (Code.r (bodyOf Tryz.f5)))))))))))))))) (thenK (fun fr H => F5_17 (fr 3) (fr 10) (fr 11) (fr 13) (fr 14) H R11 Q) (blockK 1 (K5_6 R11 Q))) fr H :=
  Eq.mp (by kernel_rfl) h
theorem A5_16 {fr : Fr} {H : Hp} {R11 : RT4} {Q : RT1} (h : F5_16 (fr 3) (fr 10) (fr 11) (fr 13) H R11 Q) : xCode Tryz.prog 215 (Code.l (Code.l (Code.r (Code.l (Code.l (Code.r (Code.l (Code.r (Code.r (Code.r (Code.r (Code.r (Code.r (Code.r (bodyOf Tryz.f5))))))))))))))) (blockK 1 (K5_6 R11 Q)) fr H :=
  seq_cut (by kernel_rfl) (fun _ _ h => A5_17 h) (A5_77 h)
theorem A5_15 {fr : Fr} {H : Hp} {R11 : RT4} {Q : RT1} (h : F5_15 (fr 3) (fr 10) (fr 11) (fr 13) H R11 Q) : xCode Tryz.prog 215 (Code.l (Code.r (Code.l (Code.l (Code.r (Code.l (Code.r (Code.r (Code.r (Code.r (Code.r (Code.r (Code.r (bodyOf Tryz.f5)))))))))))))) (K5_6 R11 Q) fr H :=
  block_cut (by kernel_rfl) (A5_16 h)
theorem A5_13 {fr : Fr} {H : Hp} {R11 : RT4} {Q : RT1} (h : F5_13 (fr 3) (fr 10) (fr 11) (fr 13) H R11 Q) : xCode Tryz.prog 215 (Code.r (Code.l (Code.l (Code.r (Code.l (Code.r (Code.r (Code.r (Code.r (Code.r (Code.r (Code.r (bodyOf Tryz.f5))))))))))))) (K5_5 R11 Q) fr H :=
  seq_cut (by kernel_rfl) (fun _ _ h => A5_14 h) (A5_15 h)
theorem A5_78 {fr : Fr} {H : Hp} {R11 : RT4} {Q : RT1} (h : F5_78 (fr 3) (fr 10) (fr 11) (fr 13) H R11 Q) : xCode Tryz.prog 215 (Code.l (Code.l (Code.l (Code.r (Code.l (Code.r (Code.r (Code.r (Code.r (Code.r (Code.r (Code.r (bodyOf Tryz.f5))))))))))))) (thenK (fun fr H => F5_13 (fr 3) (fr 10) (fr 11) (fr 13) H R11 Q) (K5_5 R11 Q)) fr H :=
  Eq.mp (by kernel_rfl) h
theorem A5_12 {fr : Fr} {H : Hp} {R11 : RT4} {Q : RT1} (h : F5_12 (fr 3) (fr 10) (fr 11) (fr 13) H R11 Q) : xCode Tryz.prog 215 (Code.l (Code.l (Code.r (Code.l (Code.r (Code.r (Code.r (Code.r (Code.r (Code.r (Code.r (bodyOf Tryz.f5)))))))))))) (K5_5 R11 Q) fr H :=
  seq_cut (by kernel_rfl) (fun _ _ h => A5_13 h) (A5_78 h)
theorem A5_11 {fr : Fr} {H : Hp} {Q : RT1} (h : F5_11 (fr 3) (fr 10) (fr 11) (fr 13) H Q) : xCode Tryz.prog 215 (Code.l (Code.r (Code.l (Code.r (Code.r (Code.r (Code.r (Code.r (Code.r (Code.r (bodyOf Tryz.f5))))))))))) (blockK 0 (K5_4 Q)) fr H := by
  obtain ⟨I, μ, h0, hr⟩ := h
  refine loop_cut (a := (Code.l (Code.l (Code.r (Code.l (Code.r (Code.r (Code.r (Code.r (Code.r (Code.r (Code.r (bodyOf Tryz.f5))))))))))))) (by kernel_rfl) (fun fr1 H1 => fr1 3 = fr 3 ∧ fr1 10 = fr 10 ∧ fr1 11 = fr 11 ∧ I (fr1 13) H1) (fun fr1 H1 => μ (fr1 13) H1) (by exact ⟨rfl, rfl, rfl, h0⟩) ?_
  intro fr1 H1 hI
  obtain ⟨hu3, hu10, hu11, hI⟩ := hI
  have hb := hr (fr1 13) H1 hI
  rw [← hu3] at hb; rw [← hu10] at hb; rw [← hu11] at hb
  refine ⟨_, ?_, A5_12 hb⟩
  intro fr2 H2 hj
  obtain ⟨ku3, ku10, ku11, hI2, hlt⟩ := hj
  exact ⟨⟨(ku3.trans hu3), (ku10.trans hu10), (ku11.trans hu11), hI2⟩, hlt⟩
theorem A5_10 {fr : Fr} {H : Hp} {Q : RT1} (h : F5_10 (fr 3) (fr 10) (fr 11) (fr 13) H Q) : xCode Tryz.prog 215 (Code.r (Code.l (Code.r (Code.r (Code.r (Code.r (Code.r (Code.r (Code.r (bodyOf Tryz.f5)))))))))) (K5_4 Q) fr H :=
  block_cut (by kernel_rfl) (A5_11 h)
theorem A5_79 {fr : Fr} {H : Hp} {Q : RT1} (h : F5_79 (fr 3) (fr 10) (fr 11) H Q) : xCode Tryz.prog 215 (Code.l (Code.l (Code.r (Code.r (Code.r (Code.r (Code.r (Code.r (Code.r (bodyOf Tryz.f5)))))))))) (thenK (fun fr H => F5_10 (fr 3) (fr 10) (fr 11) (fr 13) H Q) (K5_4 Q)) fr H :=
  Eq.mp (by kernel_rfl) h
theorem A5_9 {fr : Fr} {H : Hp} {Q : RT1} (h : F5_9 (fr 3) (fr 10) (fr 11) H Q) : xCode Tryz.prog 215 (Code.l (Code.r (Code.r (Code.r (Code.r (Code.r (Code.r (Code.r (bodyOf Tryz.f5))))))))) (K5_4 Q) fr H :=
  seq_cut (by kernel_rfl) (fun _ _ h => A5_10 h) (A5_79 h)
theorem A5_7 {fr : Fr} {H : Hp} {Q : RT1} (h : F5_7 (fr 3) (fr 10) (fr 11) H Q) : xCode Tryz.prog 215 (Code.r (Code.r (Code.r (Code.r (Code.r (Code.r (Code.r (bodyOf Tryz.f5)))))))) (xRet Tryz.prog [.tmp 8] Q) fr H :=
  seq_cut (by kernel_rfl) (fun _ _ h => A5_8 h) (A5_9 h)
theorem A5_80 {fr : Fr} {H : Hp} {Q : RT1} (h : F5_80 (fr 3) (fr 10) (fr 11) (fr 12) H Q) : xCode Tryz.prog 215 (Code.l (Code.r (Code.r (Code.r (Code.r (Code.r (Code.r (bodyOf Tryz.f5)))))))) (thenK (fun fr H => F5_7 (fr 3) (fr 10) (fr 11) H Q) (xRet Tryz.prog [.tmp 8] Q)) fr H :=
  Eq.mp (by kernel_rfl) h
theorem A5_6 {fr : Fr} {H : Hp} {Q : RT1} (h : F5_6 (fr 3) (fr 10) (fr 11) (fr 12) H Q) : xCode Tryz.prog 215 (Code.r (Code.r (Code.r (Code.r (Code.r (Code.r (bodyOf Tryz.f5))))))) (xRet Tryz.prog [.tmp 8] Q) fr H :=
  seq_cut (by kernel_rfl) (fun _ _ h => A5_7 h) (A5_80 h)
theorem A5_81 {fr : Fr} {H : Hp} {Q : RT1} (h : F5_81 (fr 3) (fr 10) H Q) : xCode Tryz.prog 215 (Code.l (Code.r (Code.r (Code.r (Code.r (Code.r (bodyOf Tryz.f5))))))) (thenK (fun fr H => F5_6 (fr 3) (fr 10) (fr 11) (fr 12) H Q) (xRet Tryz.prog [.tmp 8] Q)) fr H :=
  Eq.mp (by kernel_rfl) h
theorem A5_5 {fr : Fr} {H : Hp} {Q : RT1} (h : F5_5 (fr 3) (fr 10) H Q) : xCode Tryz.prog 215 (Code.r (Code.r (Code.r (Code.r (Code.r (bodyOf Tryz.f5)))))) (xRet Tryz.prog [.tmp 8] Q) fr H :=
  seq_cut (by kernel_rfl) (fun _ _ h => A5_6 h) (A5_81 h)
theorem A5_82 {fr : Fr} {H : Hp} {Q : RT1} (h : F5_82 (fr 0) (fr 1) (fr 2) (fr 3) H Q) : xCode Tryz.prog 215 (Code.l (Code.r (Code.r (Code.r (Code.r (bodyOf Tryz.f5)))))) (thenK (fun fr H => F5_5 (fr 3) (fr 10) H Q) (xRet Tryz.prog [.tmp 8] Q)) fr H :=
  Eq.mp (by kernel_rfl) h
theorem A5_4 {fr : Fr} {H : Hp} {Q : RT1} (h : F5_4 (fr 0) (fr 1) (fr 2) (fr 3) H Q) : xCode Tryz.prog 215 (Code.r (Code.r (Code.r (Code.r (bodyOf Tryz.f5))))) (xRet Tryz.prog [.tmp 8] Q) fr H :=
  seq_cut (by kernel_rfl) (fun _ _ h => A5_5 h) (A5_82 h)
theorem A5_83 {fr : Fr} {H : Hp} {Q : RT1} (h : F5_83 (fr 0) (fr 1) (fr 2) (fr 3) (fr 9) H Q) : xCode Tryz.prog 215 (Code.l (Code.r (Code.r (Code.r (bodyOf Tryz.f5))))) (thenK (fun fr H => F5_4 (fr 0) (fr 1) (fr 2) (fr 3) H Q) (xRet Tryz.prog [.tmp 8] Q)) fr H :=
  Eq.mp (by kernel_rfl) h
theorem A5_3 {fr : Fr} {H : Hp} {Q : RT1} (h : F5_3 (fr 0) (fr 1) (fr 2) (fr 3) (fr 9) H Q) : xCode Tryz.prog 215 (Code.r (Code.r (Code.r (bodyOf Tryz.f5)))) (xRet Tryz.prog [.tmp 8] Q) fr H :=
  seq_cut (by kernel_rfl) (fun _ _ h => A5_4 h) (A5_83 h)
theorem A5_84 {fr : Fr} {H : Hp} {Q : RT1} (h : F5_84 (fr 0) (fr 1) (fr 2) (fr 3) (fr 9) H Q) : xCode Tryz.prog 215 (Code.l (Code.r (Code.r (bodyOf Tryz.f5)))) (thenK (fun fr H => F5_3 (fr 0) (fr 1) (fr 2) (fr 3) (fr 9) H Q) (xRet Tryz.prog [.tmp 8] Q)) fr H :=
  Eq.mp (by kernel_rfl) h
theorem A5_2 {fr : Fr} {H : Hp} {Q : RT1} (h : F5_2 (fr 0) (fr 1) (fr 2) (fr 3) (fr 9) H Q) : xCode Tryz.prog 215 (Code.r (Code.r (bodyOf Tryz.f5))) (xRet Tryz.prog [.tmp 8] Q) fr H :=
  seq_cut (by kernel_rfl) (fun _ _ h => A5_3 h) (A5_84 h)
theorem A5_85 {fr : Fr} {H : Hp} {Q : RT1} (h : F5_85 (fr 0) (fr 1) (fr 2) (fr 3) H Q) : xCode Tryz.prog 215 (Code.l (Code.r (bodyOf Tryz.f5))) (thenK (fun fr H => F5_2 (fr 0) (fr 1) (fr 2) (fr 3) (fr 9) H Q) (xRet Tryz.prog [.tmp 8] Q)) fr H :=
  Eq.mp (by kernel_rfl) h
theorem A5_1 {fr : Fr} {H : Hp} {Q : RT1} (h : F5_1 (fr 0) (fr 1) (fr 2) (fr 3) H Q) : xCode Tryz.prog 215 (Code.r (bodyOf Tryz.f5)) (xRet Tryz.prog [.tmp 8] Q) fr H :=
  seq_cut (by kernel_rfl) (fun _ _ h => A5_2 h) (A5_85 h)
theorem A5_86 {fr : Fr} {H : Hp} {Q : RT1} (h : F5_86 (fr 0) (fr 1) (fr 2) (fr 3) H Q) : xCode Tryz.prog 215 (Code.l (bodyOf Tryz.f5)) (thenK (fun fr H => F5_1 (fr 0) (fr 1) (fr 2) (fr 3) H Q) (xRet Tryz.prog [.tmp 8] Q)) fr H :=
  Eq.mp (by kernel_rfl) h
theorem A5_0 {fr : Fr} {H : Hp} {Q : RT1} (h : F5_0 (fr 0) (fr 1) (fr 2) (fr 3) H Q) : xCode Tryz.prog 215 (bodyOf Tryz.f5) (xRet Tryz.prog [.tmp 8] Q) fr H :=
  seq_cut (by kernel_rfl) (fun _ _ h => A5_1 h) (A5_86 h)
theorem E5 {t0 t1 t2 t3 : Value} {H : Hp} {Q : RT1} (h : F5_0 t0 t1 t2 t3 H Q) : NCalls Tryz.prog 5 #[t0, t1, t2, t3] H Q :=
  NCalls.ofBody (by kernel_rfl) Tryz.func5 (by kernel_rfl) (by kernel_rfl) (Eq.mp (by kernel_rfl) (A5_0 (fr := fun i => (#[t0, t1, t2, t3] : Array Value).getD i undef) (H := H) (Q := Q) (Eq.mp (by kernel_rfl) h)))
def F9_0 (H : Hp) (Q : RT1) : Prop :=
  q (pv Tryz.prog (Instr.build 23 #[(0, (Value.int IntKind.i64 2)), (1, (Value.int IntKind.i64 1)), (2, (Value.int IntKind.i64 1)), (3, (Value.int IntKind.i64 12))])) fun t12_1 =>
  NCalls Tryz.prog 22 #[t12_1, (Value.int IntKind.i64 64), (Value.slice none 0 0)] H (fun t13_2 H_2 =>
  q (Ex 0 t13_2) fun t14_3 =>
  q (Ex 1 t13_2) fun t15_4 =>
  q (pv Tryz.prog (Op.unary .not t15_4)) fun t17_5 =>
  condV t17_5 (
    Q (Value.bool false) H_2) (
    NCalls Tryz.prog 16 #[t14_3, (Value.int IntKind.i64 0), (Value.int IntKind.i64 0), (Value.bool true)] H_2 (fun t19_6 H_6 =>
    NCalls Tryz.prog 19 #[t14_3] H_6 (fun t21_7 H_7 =>
    NCalls Tryz.prog 20 #[t14_3, (Value.int IntKind.i64 0), (Value.int IntKind.u32 0), (Value.int IntKind.i64 4), (Value.int IntKind.u32 7)] H_7 (fun t23_8 H_8 =>
    NCalls Tryz.prog 18 #[t14_3, (Value.int IntKind.i64 1), (Value.int IntKind.u32 0), (Value.int IntKind.i64 4)] H_8 (fun t26_9 H_9 =>
    q (Ex 0 t26_9) fun t27_10 =>
    q (Ex 1 t26_9) fun t28_11 =>
    NCalls Tryz.prog 16 #[t14_3, (Value.int IntKind.i64 1), (Value.int IntKind.i64 0), (Value.bool false)] H_9 (fun t30_12 H_12 =>
    NCalls Tryz.prog 19 #[t14_3] H_12 (fun t32_13 H_13 =>
    NCalls Tryz.prog 18 #[t14_3, (Value.int IntKind.i64 1), (Value.int IntKind.u32 0), (Value.int IntKind.i64 4)] H_13 (fun t35_14 H_14 =>
    q (Ex 0 t35_14) fun t36_15 =>
    q (Ex 1 t35_14) fun t37_16 =>
    q (gd t19_6 true (some t21_7)) fun t40_17 =>
    q (Pk t19_6 t40_17 (Value.bool false)) fun t41_18 =>
    q (gd t41_18 true (some t23_8)) fun t43_19 =>
    q (Pk t41_18 t43_19 (Value.bool false)) fun t44_20 =>
    q (gd t44_20 true (some t28_11)) fun t46_21 =>
    q (gd t44_20 true (pv Tryz.prog (Op.unary .not t46_21))) fun t47_22 =>
    q (Pk t44_20 t47_22 (Value.bool false)) fun t48_23 =>
    q (gd t48_23 true (some t30_12)) fun t50_24 =>
    q (Pk t48_23 t50_24 (Value.bool false)) fun t51_25 =>
    q (gd t51_25 true (some t37_16)) fun t53_26 =>
    q (Pk t51_25 t53_26 (Value.bool false)) fun t54_27 =>
    q (gd t54_27 true (some t36_15)) fun t56_28 =>
    q (gd t54_27 true (Bin Tryz.prog H_14 .eql 40 true t56_28 (Value.int IntKind.u32 7))) fun t57_29 =>
    q (Pk t54_27 t57_29 (Value.bool false)) fun t58_30 =>
    Q t58_30 H_14)))))))))
theorem A9_0 {fr : Fr} {H : Hp} {Q : RT1} (h : F9_0 H Q) : xCode Tryz.prog 59 (bodyOf Tryz.f9) (xRet Tryz.prog [.tmp 0] Q) fr H :=
  Eq.mp (by kernel_rfl) h
theorem E9 {H : Hp} {Q : RT1} (h : F9_0 H Q) : NCalls Tryz.prog 9 #[] H Q :=
  NCalls.ofBody (by kernel_rfl) Tryz.func9 (by kernel_rfl) (by kernel_rfl) (Eq.mp (by kernel_rfl) (A9_0 (fr := fun i => (#[] : Array Value).getD i undef) (H := H) (Q := Q) (Eq.mp (by kernel_rfl) h)))
def F10_0 (t0 : Value) (H : Hp) (Q : RT1) : Prop :=
  New (Value.cells t0) 23 H (fun t1_1 H_1 =>
  q (Fa 1 t1_1) fun t6_2 =>
  q (Ld H_1 t6_2) fun t7_3 =>
  q (Fa 2 t1_1) fun t8_4 =>
  q (Ld H_1 t8_4) fun t9_5 =>
  NCalls Tryz.prog 35 #[t7_3, t9_5] H_1 (fun t10_6 H_6 =>
  q (Ex 0 t10_6) fun t11_7 =>
  q (Ex 1 t10_6) fun t12_8 =>
  q (Fa 0 t1_1) fun t13_9 =>
  q (Ld H_6 t13_9) fun t14_10 =>
  q (Bin Tryz.prog H_6 .lss 3 true t14_10 (Value.int IntKind.i64 1)) fun t15_11 =>
  q (gd t15_11 false (Fa 0 t1_1)) fun t17_12 =>
  q (gd t15_11 false (Ld H_6 t17_12)) fun t18_13 =>
  q (gd t15_11 false (Bin Tryz.prog H_6 .gtr 3 true t18_13 (Value.int IntKind.i64 4))) fun t19_14 =>
  q (Pk t15_11 (Value.bool true) t19_14) fun t20_15 =>
  q (gd t20_15 false (some t12_8)) fun t22_16 =>
  q (gd t20_15 false (Bin Tryz.prog H_6 .neq 26 true t22_16 Value.nilIface)) fun t23_17 =>
  q (Pk t20_15 (Value.bool true) t23_17) fun t24_18 =>
  q (gd t24_18 false (Fa 3 t1_1)) fun t26_19 =>
  q (gd t24_18 false (Ld H_6 t26_19)) fun t27_20 =>
  q (gd t24_18 false (Fa 0 t1_1)) fun t28_21 =>
  q (gd t24_18 false (Ld H_6 t28_21)) fun t29_22 =>
  q (gd t24_18 false (Bin Tryz.prog H_6 .mul 3 true (Value.int IntKind.i64 6) t29_22)) fun t30_23 =>
  q (gd t24_18 false (Bin Tryz.prog H_6 .lss 3 false t27_20 t30_23)) fun t31_24 =>
  q (Pk t24_18 (Value.bool true) t31_24) fun t32_25 =>
  q (gd t32_25 false (Fa 3 t1_1)) fun t34_26 =>
  q (gd t32_25 false (Ld H_6 t34_26)) fun t35_27 =>
  q (gd t32_25 false (Bin Tryz.prog H_6 .gtr 3 true t35_27 (Value.int IntKind.i64 64))) fun t36_28 =>
  q (Pk t32_25 (Value.bool true) t36_28) fun t37_29 =>
  condV t37_29 (
    q (Ld H_6 (Value.pointer (some ⟨0, 0, none⟩))) fun t38_30 =>
    Q t38_30 H_6) (
    Q Value.nilIface H_6)))
theorem A10_0 {fr : Fr} {H : Hp} {Q : RT1} (h : F10_0 (fr 0) H Q) : xCode Tryz.prog 39 (bodyOf Tryz.f10) (xRet Tryz.prog [.tmp 2] Q) fr H :=
  Eq.mp (by kernel_rfl) h
theorem E10 {t0 : Value} {H : Hp} {Q : RT1} (h : F10_0 t0 H Q) : NCalls Tryz.prog 10 #[t0] H Q :=
  NCalls.ofBody (by kernel_rfl) Tryz.func10 (by kernel_rfl) (by kernel_rfl) (Eq.mp (by kernel_rfl) (A10_0 (fr := fun i => (#[t0] : Array Value).getD i undef) (H := H) (Q := Q) (Eq.mp (by kernel_rfl) h)))
def F12_0 (t0 t1 : Value) (H : Hp) (Q : RT1) : Prop :=
  q (Bin Tryz.prog H .rem 3 false t0 t1) fun t7_1 =>
  q (Bin Tryz.prog H .add 3 false t7_1 t1) fun t9_2 =>
  q (Bin Tryz.prog H .rem 3 false t9_2 t1) fun t11_3 =>
  Q t11_3 H
theorem A12_0 {fr : Fr} {H : Hp} {Q : RT1} (h : F12_0 (fr 0) (fr 1) H Q) : xCode Tryz.prog 12 (bodyOf Tryz.f12) (xRet Tryz.prog [.tmp 4] Q) fr H :=
  Eq.mp (by kernel_rfl) h
theorem E12 {t0 t1 : Value} {H : Hp} {Q : RT1} (h : F12_0 t0 t1 H Q) : NCalls Tryz.prog 12 #[t0, t1] H Q :=
  NCalls.ofBody (by kernel_rfl) Tryz.func12 (by kernel_rfl) (by kernel_rfl) (Eq.mp (by kernel_rfl) (A12_0 (fr := fun i => (#[t0, t1] : Array Value).getD i undef) (H := H) (Q := Q) (Eq.mp (by kernel_rfl) h)))
end YtacidjifocfhkaaGreatDoor
end Go.Proofs
namespace Go.Proofs
open Go Go.NW Go.Pm
set_option maxRecDepth 20000
set_option linter.unusedSimpArgs false
set_option linter.unusedVariables false
namespace YtacidjifocfhkaaGreatDoor
def confC (h s w r : Int) : Array Value := #[.int .i64 h, .int .i64 s, .int .i64 w, .int .i64 r]
def confOk (h s w r : Int) : Bool := decide (1 ≤ h ∧ h ≤ 4) && shapeOk s w && decide (6 * h ≤ r ∧ r ≤ 64)
theorem Valid_10 {H : Hp} {h s w r : Int} {ev : Value} {Q : RT1} (he : ∃ t v, ev = .iface t v) (hg : cellAt H ⟨0, 0, none⟩ = some ev)
    (hq : ∀ H', Ext [] H H' → Q (if confOk h s w r then .nilIface else ev) H') : NCalls Tryz.prog 10 #[.agg (confC h s w r)] H Q := by
  obtain ⟨t, v, rfl⟩ := he
  refine E10 ?_
  unfold F10_0
  refine New_i fun H1 b1 hb1 e1 s1 k1 => ?_
  replace k1 : blk H1 b1 (confC h s w r) := by simpa using k1
  have hg1 : cellAt H1 ⟨0, 0, none⟩ = some (.iface t v) := by
    unfold cellAt at hg ⊢
    cases hh : H[0]? with
    | none => simp [hh] at hg
    | some o => rw [e1.same 0 (get_lt hh) (by simp)]; exact hg
  have c : ∀ {G : Hp}, blk G b1 (confC h s w r) → cellAt G ⟨b1, 0, none⟩ = some (.int .i64 h) ∧ cellAt G ⟨b1, 1, none⟩ = some (.int .i64 s) ∧ cellAt G ⟨b1, 2, none⟩ = some (.int .i64 w) ∧ cellAt G ⟨b1, 3, none⟩ = some (.int .i64 r) := fun k => ⟨by rw [k.cell]; rfl, by rw [k.cell]; rfl, by rw [k.cell]; rfl, by rw [k.cell]; rfl⟩
  obtain ⟨c0, c1, c2, c3⟩ := c k1
  simp -implicitDefEqProofs only [Fa_some, add_mk, Nat.zero_add, q_some, Ld_some, c1, c2]
  refine New_35 (col := fun _ => .other) 0 hg1 (fun hs => ?_) (fun hs H2 col2 bc bs e2 _ _ _ _ => ?_)
  · by_cases h1 : h < 1
    · simp -implicitDefEqProofs [c0, h1, hg1]
      exact fin (hq H1 e1) (by rw [if_neg (by simp [confOk, hs])])
    · by_cases h4 : 4 < h
      · simp -implicitDefEqProofs [c0, h1, h4, hg1]
        exact fin (hq H1 e1) (by rw [if_neg (by simp [confOk, hs])])
      · simp -implicitDefEqProofs [c0, h1, h4, hg1]
        exact fin (hq H1 e1) (by rw [if_neg (by simp [confOk, hs])])
  · obtain ⟨d0, d1, d2, d3⟩ := c (k1.ext e2 (by simp))
    have hg2 : cellAt H2 ⟨0, 0, none⟩ = some (.iface t v) := by
      unfold cellAt at hg1 ⊢
      cases hh : H1[0]? with
      | none => simp [hh] at hg1
      | some o => rw [e2.same 0 (get_lt hh) (by simp)]; exact hg1
    have E2 := e1.trans e2
    by_cases h1 : h < 1
    · simp -implicitDefEqProofs [d0, h1, hg2]
      exact fin (hq H2 E2) (by rw [if_neg (by simp [confOk]; omega)])
    by_cases h4 : 4 < h
    · simp -implicitDefEqProofs [d0, h1, h4, hg2]
      exact fin (hq H2 E2) (by rw [if_neg (by simp [confOk]; omega)])
    have w6 : IntKind.wrap .i64 (6 * h) = 6 * h := w64 (by omega) (by omega)
    by_cases h6 : r < 6 * h
    · simp -implicitDefEqProofs [d0, d3, h1, h4, hg2, w6, h6]
      exact fin (hq H2 E2) (by rw [if_neg (by simp [confOk]; omega)])
    by_cases h7 : 64 < r
    · simp -implicitDefEqProofs [d0, d3, h1, h4, hg2, w6, h6, h7]
      exact fin (hq H2 E2) (by rw [if_neg (by simp [confOk]; omega)])
    simp -implicitDefEqProofs [d0, d3, h1, h4, hg2, w6, h6, h7]
    exact fin (hq H2 E2) (by rw [if_pos (by simp [confOk, hs]; omega)])
theorem PartAt.fresh {H : Hp} {col : Nat → Rl} {i bp bc bs bm n : Nat} {c : Cache} (cb : col bp = .part i) (kb : blk H bp #[at0 bc, .map (some bm), .slice none 0 0]) (kc : CacheAt H col i bc bs c) (cm : col bm = .map i) (ob : H[bm]? = some (.map #[] 0)) :
    PartAt H col i bp { cache := c, lines := List.replicate n none } := by
  refine ⟨cb, bc, bs, bm, _, [], fun _ => 0, kb, kc, ⟨cm, by rw [ob]; rfl, List.nodup_nil, fun k => ?_, fun k l hk hl => ?_⟩, .inl ⟨rfl, rfl⟩⟩
  · constructor
    · intro h; simp at h
    · rintro ⟨_, l, hl⟩
      rw [List.getElem?_replicate] at hl
      split at hl <;> simp at hl
  · rw [List.getElem?_replicate] at hl
    split at hl <;> simp at hl
/-- what was made so far -/
structure Made (H0 H : Hp) (col0 col : Nat → Rl) (bf : Nat) (s : Sk) (net : Net) (bs : List Int) (ps : List Part) (hs : List Home) : Prop where
  ext : Ext [] H0 H
  same : Same H0 col0 col
  fresh : H0.size ≤ bf ∧ H0.size ≤ s.bm ∧ H0.size ≤ s.bb ∧ H0.size ≤ s.bn
  cb : col bf = .fab
  kb : blk H bf #[at0 s.bm, s.pv, at0 s.bn, s.hv]
  mem : MemC H s.bm s.bb bs
  cm : col s.bm = .mem
  cbb : col s.bb = .bytes
  net : NetAt H col s.bn net
  pl : SlR H col .parts 1 s.pv (s.bps.map fun b => [at0 b])
  pn : s.bps.length = ps.length
  pt : ∀ i (h1 : i < s.bps.length) (h2 : i < ps.length), PartAt H col i s.bps[i] ps[i]
  hm : ∃ bhs : List Nat, SlR H col .homes 1 s.hv (bhs.map fun b => [at0 b]) ∧ bhs.length = hs.length ∧ ∀ i (h1 : i < bhs.length) (h2 : i < hs.length), HomeR H col bhs[i] hs[i]
theorem Made.step {R : Rl → Bool} {H0 H H' : Hp} {col0 col col' : Nat → Rl} {bf : Nat} {s : Sk} {net : Net} {bs : List Int} {ps : List Part} {hs : List Home} (m : Made H0 H col0 col bf s net bs ps hs) (e : Mod R H col H') (e0 : Ext [] H0 H') (hc : Same H col col') (hR : ∀ r, R r = true → r = .other) :
    Made H0 H' col0 col' bf s net bs ps hs := by
  have hf : ∀ r, r ≠ .other → R r = false := fun r hr => by cases h : R r with | false => rfl | true => exact (hr (hR r h)).elim
  have nm : ∀ {r : Rl}, r ≠ .other → ∀ x ∈ setOf R H col, x < H.size → col x ≠ r := fun hr x hx _ => nm_of (hf _ hr) hx
  have l0 := m.kb.lt
  obtain ⟨bhs, h1, h2, h3⟩ := m.hm
  refine ⟨e0, m.same.trans (H' := H) hc m.ext.size, m.fresh, (hc _ l0).trans m.cb, m.kb.ext e.ext fun hm => nm (by simp) _ hm l0 m.cb, m.mem.ext e.ext (fun hm => nm (by simp) _ hm m.mem.lm m.cm) (fun hm => nm (by simp) _ hm m.mem.lb m.cbb), (hc _ m.mem.lm).trans m.cm, (hc _ m.mem.lb).trans m.cbb, m.net.ext e.ext hc fun x hx hl => ⟨nm (by simp) x hx hl, nm (by simp) x hx hl⟩, m.pl.ext e.ext hc (nm (by simp)), m.pn, fun i a b => (m.pt i a b).mod e hc fun r hr => by rw [hR r hr]; rfl, bhs, h1.ext e.ext hc (nm (by simp)), h2, fun i a b => (h3 i a b).ext e.ext hc (nm (by simp))⟩
end YtacidjifocfhkaaGreatDoor
end Go.Proofs
namespace Go.Proofs
open Go Go.NW Go.Pm
set_option maxRecDepth 20000
set_option linter.unusedSimpArgs false
set_option linter.unusedVariables false
namespace YtacidjifocfhkaaGreatDoor
def ptrsC (l : List Nat) : List (List Value) := l.map fun b => [at0 b]
theorem ptrsC_len (l : List Nat) : (ptrsC l).length = l.length := by simp [ptrsC]
theorem ptrsC_one {l : List Nat} : ∀ x ∈ ptrsC l, x.all one = true := by
  intro x hx
  simp only [ptrsC, List.mem_map] at hx
  obtain ⟨y, _, rfl⟩ := hx
  rfl
/-- one pointer more in a row of them -/
theorem append_ptr {T E : Nat} (ty : SlTy Tryz.prog T E 1) {H : Hp} {col : Nat → Rl} {r : Rl} {v : Value} {l : List Nat} {b b1 : Nat} {K : RT1} (hs : SlR H col r 1 v (ptrsC l)) (kb : blk H b1 #[at0 b]) (hl : l.length ≤ 2 ^ 20)
    (hK : ∀ H' v' col', (∃ S, (∀ x ∈ S, x < H.size ∧ col x = r) ∧ Ext S H H') → Same H col col' → SlR H' col' r 1 v' (ptrsC (l ++ [b])) → K v' H') :
    dm Tryz.prog (Builtin.append_ #[T, T] 0 #[v, .slice (some ⟨b1, 0, none⟩) 1 1]) H K := by
  obtain ⟨bo, hsl, hbo⟩ := hs.blk1 H.size
  have hx : Slc H 1 (.slice (some ⟨b1, 0, none⟩) 1 1) (ptrsC [b]) b1 := Slc.of (xs := ptrsC [b]) (c := _) (by simp [ptrsC]) kb (by simp [ptrsC]) (by simp) (by simp [ptrsC])
  refine append_i ty hsl hx ptrsC_one (by rw [ptrsC_len, ptrsC_len]; simp; omega) fun H1 v1 b2 e1 k1 hb2 => ?_
  have ek : ptrsC l ++ ptrsC [b] = ptrsC (l ++ [b]) := by simp [ptrsC]
  rw [ek] at k1
  have hlt := k1.lt (by simp [ptrsC])
  have hE : ∃ S, (∀ x ∈ S, x < H.size ∧ col x = r) ∧ Ext S H H1 := by
    rcases hbo with ⟨h1, h2⟩ | ⟨h1, _⟩
    · exact ⟨[bo], by intro x hx; simp at hx; subst hx; exact ⟨h1, h2⟩, e1⟩
    · refine ⟨[], by simp, ?_⟩
      exact ((Ext.refl [] H).fresh e1 (by simp; omega))
  by_cases hf : b2 < H.size
  · have : b2 = bo := by omega
    subst this
    have hc : col b2 = r := by rcases hbo with h | h; exact h.2; omega
    exact hK H1 v1 col hE (Same.refl _ _) (.inr ⟨b2, hlt, hc, k1⟩)
  · exact hK H1 v1 (recol col b2 r) hE (Same.recol (by omega)) (.inr ⟨b2, hlt, by simp [recol], k1⟩)
theorem Made.upd {H0 H H' : Hp} {col0 col col' : Nat → Rl} {bf : Nat} {s : Sk} {net : Net} {bs : List Int} {ps ps' : List Part} {hs hs' : List Home} {S : List Nat} {pv hv : Value} {bps : List Nat} (m : Made H0 H col0 col bf s net bs ps hs) (h0 : ∀ x, col0 x = .other ∨ col0 x = .glob) (e : Ext S H H') (hc : Same H col col')
    (hS : ∀ x ∈ S, x < H.size ∧ (col x = .homes ∨ col x = .parts ∨ col x = .fab)) (kb : blk H' bf #[at0 s.bm, pv, at0 s.bn, hv]) (pl : SlR H' col' .parts 1 pv (bps.map fun b => [at0 b])) (pn : bps.length = ps'.length)
    (pt : ∀ i (h1 : i < bps.length) (h2 : i < ps'.length), PartAt H' col' i bps[i] ps'[i]) (hm : ∃ bhs : List Nat, SlR H' col' .homes 1 hv (bhs.map fun b => [at0 b]) ∧ bhs.length = hs'.length ∧ ∀ i (h1 : i < bhs.length) (h2 : i < hs'.length), HomeR H' col' bhs[i] hs'[i]) :
    Made H0 H' col0 col' bf { s with pv := pv, hv := hv, bps := bps } net bs ps' hs' := by
  have ne : ∀ {r : Rl}, r ≠ .homes → r ≠ .parts → r ≠ .fab → ∀ x ∈ S, x < H.size → col x ≠ r := by
    intro r h1 h2 h3 x hx _ h
    rcases (hS x hx).2 with h4 | h4 | h4 <;> rw [h4] at h
    · exact h1 h.symm
    · exact h2 h.symm
    · exact h3 h.symm
  have E : Ext [] H0 H' := by
    refine m.ext.fresh e fun x hx => .inr ?_
    apply Classical.byContradiction; intro hlt
    have h2 := m.same x (by omega)
    rcases (hS x hx).2 with h4 | h4 | h4 <;> rw [h4] at h2 <;> rcases h0 x with h5 | h5 <;> rw [h5] at h2 <;> cases h2
  exact ⟨E, m.same.trans (H' := H) hc m.ext.size, m.fresh, (hc _ m.kb.lt).trans m.cb, kb, m.mem.ext e (fun h => ne (by simp) (by simp) (by simp) _ h m.mem.lm m.cm) (fun h => ne (by simp) (by simp) (by simp) _ h m.mem.lb m.cbb), (hc _ m.mem.lm).trans m.cm, (hc _ m.mem.lb).trans m.cbb,
    m.net.ext e hc fun x hx hl => ⟨ne (by simp) (by simp) (by simp) x hx hl, ne (by simp) (by simp) (by simp) x hx hl⟩, pl, pn, pt, hm⟩
theorem bld_105 (bc x : Nat) : pv Tryz.prog (Instr.build 105 #[(0, at0 bc), (1, .map (some x))]) = some (.agg #[at0 bc, .map (some x), .slice none 0 0]) := by kernel_rfl
theorem New_14 {H : Hp} {col : Nat → Rl} {h s w r : Int} {bm bb : Nat} {bs : List Int} {ev : Value} {Q : RT1} (gl : ∀ b, b < 5 → GlobR H col b) (hg : cellAt H ⟨0, 0, none⟩ = some ev) (m : MemC H bm bb bs) (h16 : bs.length % 16 = 0) (hcol : ∀ x, col x = .other ∨ col x = .glob)
    (h0 : confOk h s w r = false → ∀ H', Ext [] H H' → Q (.tuple #[.pointer none, ev]) H')
    (h1 : confOk h s w r = true → ∀ H' col' bf sk, Ext [] H H' → Same H col col' → FabAt H' col' bf sk (Fab.new h.toNat s.toNat w.toNat r.toNat ((List.range (bs.length / 16)).map (lineOf bs))) → Q (.tuple #[at0 bf, .nilIface]) H') :
    NCalls Tryz.prog 14 #[.agg (confC h s w r), at0 bm] H Q := by
  have he : ∃ t v, ev = .iface t v := by
    obtain ⟨_, c, t, v, kb, hc⟩ := gl 0 (by omega)
    rw [kb.cell, hc] at hg
    exact ⟨t, v, by simpa using hg.symm⟩
  have hl0 := m.l0
  have hl1 := m.l1
  refine E14 ?_
  unfold F14_0 F14_20
  refine New_i fun H1 b2 hb1 e1 s1 k1 => ?_
  replace k1 : blk H1 b2 (confC h s w r) := by simpa using k1
  unfold F14_1 F14_19
  have hg1 : cellAt H1 ⟨0, 0, none⟩ = some ev := by
    unfold cellAt at hg ⊢
    cases hh : H[0]? with
    | none => simp [hh] at hg
    | some o => rw [e1.same 0 (get_lt hh) (by simp)]; exact hg
  simp -implicitDefEqProofs only [LdA_some, k1.cells, show (confC h s w r).size = 4 from rfl, show (confC h s w r).extract 0 (0 + 4) = confC h s w r by simp [confC], Nat.zero_add, Nat.le_refl, if_true, Option.map_some, q_some]
  refine Valid_10 he hg1 fun H2 e2 => ?_
  have E2 := e1.trans e2
  cases hc : confOk h s w r with
  | false =>
    obtain ⟨t, v, rfl⟩ := he
    simp -implicitDefEqProofs
    exact h0 hc H2 E2
  | true =>
    simp -implicitDefEqProofs only [if_true, Bin_neq_26_nil, q_some, condV_bool, Bool.false_eq_true, if_false]
    have hcc := hc
    simp [confOk] at hcc
    obtain ⟨⟨⟨hh1, hh4⟩, hsh⟩, hr6, hr64⟩ := hcc
    have hso := hsh
    simp [shapeOk] at hso
    obtain ⟨hn, rfl⟩ := Int.eq_ofNat_of_zero_le (show 0 ≤ h by omega)
    obtain ⟨rn, rfl⟩ := Int.eq_ofNat_of_zero_le (show 0 ≤ r by omega)
    have k2 := k1.ext e2 (by simp)
    have m2 := m.ext0 E2
    have cc : ∀ {G : Hp}, blk G b2 (confC hn s w rn) → cellAt G ⟨b2, 0, none⟩ = some (.int .i64 hn) ∧ cellAt G ⟨b2, 1, none⟩ = some (.int .i64 s) ∧ cellAt G ⟨b2, 2, none⟩ = some (.int .i64 w) ∧ cellAt G ⟨b2, 3, none⟩ = some (.int .i64 rn) := fun k => ⟨by rw [k.cell]; rfl, by rw [k.cell]; rfl, by rw [k.cell]; rfl, by rw [k.cell]; rfl⟩
    unfold F14_2 F14_18
    refine Clone_39 m2 fun H3 cm cb e3 m3 g1 g2 => ?_
    simp -implicitDefEqProofs
    refine New_i fun H4 bf hbf e4 s4 k4 => ?_
    replace k4 : blk H4 bf #[at0 cm, .slice none 0 0, .pointer none, .slice none 0 0] := by simpa using k4
    unfold F14_3 F14_17
    have k24 := (k2.ext e3 (by simp)).ext e4 (by simp)
    obtain ⟨c0, c1, c2, c3⟩ := cc k24
    simp -implicitDefEqProofs only [Fa_some, add_mk, Nat.zero_add, q_some, Ld_some, c0, c3]
    refine New_40 (col := col) (by omega) (by omega) fun H5 bn e5 kn5 kbn hbn => ?_
    have z3 := e3.size
    have z4 := e4.size
    have z5 := e5.size
    have z2 := E2.size
    have k5 := k4.ext e5 (by simp)
    simp -implicitDefEqProofs only [Ex_tuple, List.getElem?_toArray, List.getElem?_cons_zero, List.getElem?_cons_succ, q_some, Nz_some, Fa_some, add_mk, Nat.zero_add]
    refine St_i k5 (by simp) (by simp) (by simp) fun H6 e6 s6 k6 => ?_
    replace k6 : blk H6 bf #[at0 cm, .slice none 0 0, at0 bn, .slice none 0 0] := by simpa [wrL] using k6
    have E26 : Ext [] H2 H6 := ((e3.trans e4).trans e5).fresh e6 (by simp; omega)
    have lcm := m3.lm
    have lcb := m3.lb
    obtain ⟨col6, hcol6⟩ : ∃ c : Nat → Rl, c = recol (recol (recol (recol col cm .mem) cb .bytes) bf .fab) bn .net := ⟨_, rfl⟩
    have S6 : Same H2 col col6 := by
      intro x hx; subst hcol6; simp only [recol]
      rw [if_neg (by omega), if_neg (by omega), if_neg (by omega), if_neg (by omega)]
    have mne := m3.ne
    have made0 : Made H2 H6 col col6 bf ⟨cm, cb, bn, .slice none 0 0, .slice none 0 0, []⟩ { harts := hn, room := rn } bs [] [] := by
      refine ⟨E26, S6, ⟨by omega, by show _ ≤ cm; omega, by show _ ≤ cb; omega, by show _ ≤ bn; omega⟩, ?_, k6, ((m3.ext0 e4).ext0 e5).ext e6 (by simp; omega) (by simp; omega), ?_, ?_, ?_, .inl ⟨rfl, rfl⟩, rfl, by simp, [], .inl ⟨rfl, rfl⟩, rfl, by simp⟩
      · subst hcol6; simp [recol, show ¬ bf = bn by omega]
      · subst hcol6; simp [recol, show ¬ cm = bn by omega, show ¬ cm = bf by omega, mne]
      · subst hcol6; simp [recol, show ¬ cb = bn by omega, show ¬ cb = bf by omega]
      · have hcb : col6 bn = .net := by subst hcol6; simp [recol]
        exact ⟨hcb, _, by simpa using kbn.ext e6 (by simp; omega), .inl ⟨rfl, by simp [flsC]⟩⟩
    generalize hL : bs.length / 16 = L at *
    have hbl : bs.length = 16 * L := by omega
    -- the homes
    have loop2 : ∀ (H7 : Hp) (col7 : Nat → Rl) (pv : Value) (bps : List Nat) (ps : List Part), Made H2 H7 col col7 bf ⟨cm, cb, bn, pv, .slice none 0 0, bps⟩ { harts := hn, room := rn } bs ps [] →
        ps = List.replicate hn { cache := Cache.new s.toNat w.toNat, lines := List.replicate L none } → F14_5 (at0 bm) (at0 b2) (at0 bf) H7 Q := by
      intro H7 col7 pv bps ps made7 hps
      unfold F14_5 F14_7 F14_11
      have m7 := m2.ext0 made7.ext
      have q1 : IntKind.wrap .i64 ((bs.length : Int).tdiv 16) = (L : Int) := by rw [Int.tdiv_eq_ediv_of_nonneg (by omega), w64 (by omega) (by omega)]; omega
      refine Bytes_41 m7 ?_
      simp -implicitDefEqProofs only [Bin_quo_3 _ _ _ _ (show (16 : Int) ≠ 0 by omega), q1, q_some]
      unfold F14_8 F14_9
      refine ⟨fun v62 H' => ∃ (i : Nat) (col' : Nat → Rl) (hv : Value), v62 = .int .i64 i ∧ i ≤ L ∧ Made H2 H' col col' bf ⟨cm, cb, bn, pv, hv, bps⟩ { harts := hn, room := rn } bs ps ((List.range i).map fun (j : Nat) => Home.new j hn (lineOf bs j)), fun v62 _ => L - (iv v62).toNat, ⟨0, col7, _, rfl, by omega, made7⟩, ?_⟩
      rintro v62 H8 ⟨i, col8, hv, rfl, hi, made8⟩
      unfold F14_10
      have m8 := m2.ext0 made8.ext
      have k8 := k2.ext made8.ext (by simp)
      by_cases hlt : i < L
      · have hlt' : (i : Int) < L := by omega
        simp -implicitDefEqProofs only [Bin_lss_3, hlt', decide_true, q_some, condV_bool, if_true]
        refine Line_42 m8 (by omega) fun H9 e9 => ?_
        simp -implicitDefEqProofs only [Ex_tuple, List.getElem?_toArray, List.getElem?_cons_zero, List.getElem?_cons_succ, q_some]
        refine New_i fun H10 b10 hb10 e10 s10 k10 => ?_
        refine St_i k10 (by simp [wordsC]) (by simp) (by simp [wordsC]) fun H11 e11 s11 k11 => ?_
        have k11' : blk H11 b10 (wordsC (lineOf bs i)) := by simpa [wrL, wordsC] using k11
        have z9 := e9.size
        have e8a : Ext [] H8 H11 := (e9.trans e10).fresh e11 (by simp; omega)
        have k811 := k8.ext e8a (by simp)
        have made11 := made8.step (R := fun _ => false) (Mod.of e8a (by simp)) (made8.ext.trans e8a) (Same.refl _ _) (by simp)
        have hc3 : ∀ {G : Hp}, blk G bf #[at0 cm, pv, at0 bn, hv] → cellAt G ⟨bf, 3, none⟩ = some hv := fun k => by rw [k.cell]; rfl
        obtain ⟨d0, _, _, _⟩ := cc k811
        simp -implicitDefEqProofs only [Nz_some, Fa_some, add_mk, Nat.zero_add, q_some, Ld_some, hc3 made11.kb, d0, LdA_some, k11'.cells, show (wordsC (lineOf bs i)).size = 4 from rfl, Nat.le_refl, if_true, show (wordsC (lineOf bs i)).extract 0 4 = wordsC (lineOf bs i) by simp [wordsC], Option.map_some]
        refine New_home (by omega) fun H12 hb hbs hbi e12 ha12 y1 y2 y3 => ?_
        have made12a := made11.step (R := fun _ => false) (Mod.of e12 (by simp)) (made11.ext.trans e12) (Same.refl _ _) (by simp)
        refine ⟨hc3 made12a.kb, ?_⟩
        refine Bsl_i (cells := #[at0 hb]) (by kernel_rfl) fun H13 b13 hb13 e13 s13 k13 => ?_
        have z11 := e8a.size
        have z12 := e12.size
        have z13 := e13.size
        obtain ⟨col13, hcol13⟩ : ∃ c : Nat → Rl, c = recol (recol (recol col8 hb .home) hbs .home) hbi .home := ⟨_, rfl⟩
        have S13 : Same H11 col8 col13 := by
          intro x hx; subst hcol13; simp only [recol]
          rw [if_neg (by omega), if_neg (by omega), if_neg (by omega)]
        have e1113 := e12.trans e13
        have made13 := made11.step (R := fun _ => false) (col' := col13) (Mod.of e1113 (by simp)) (made11.ext.trans e1113) S13 (by simp)
        have hr13 : HomeR H13 col13 hb (Home.new i hn (lineOf bs i)) := by
          refine ⟨hbs, hbi, ha12.ext0 e13, ?_, ?_, ?_⟩
          · subst hcol13; simp [recol, ha12.d2, ha12.d1]
          · subst hcol13; simp [recol, ha12.d3]
          · subst hcol13; simp [recol]
        refine ⟨hc3 made13.kb, ?_⟩
        obtain ⟨bhs, x1, x2, x3⟩ := made13.hm
        have hbl8 : bhs.length = i := by rw [x2]; simp
        refine append_ptr ty_97 (col := col13) (r := .homes) (l := bhs) x1 k13 (by omega) fun H14 v14 col14 hE S14 x14 => ?_
        obtain ⟨S, hS, eS⟩ := hE
        have l13 := made13.kb.lt
        have hbf : bf ∉ S := by intro hx; have := (hS bf hx).2; rw [made13.cb] at this; cases this
        have k14 := made13.kb.ext eS hbf
        obtain ⟨bx, hbx⟩ := x14.slc
        obtain ⟨ax, capx, hv14, _, _⟩ := hbx.shape
        have hcv : v14.cells = #[v14] := by rw [hv14]; rfl
        refine St_i k14 (by rw [hcv]; rfl) (by simp) (by rw [hcv, hv14]; rfl) fun H15 e15 s15 k15 => ?_
        have k15' : blk H15 bf #[at0 cm, pv, at0 bn, v14] := by rw [hcv] at k15; simpa [wrL] using k15
        have eA : Ext (bf :: S) H13 H15 := (eS.mono (by simp; intro a ha; exact .inr ha)).trans (e15.mono (by simp))
        have hSA : ∀ x ∈ bf :: S, x < H13.size ∧ (col13 x = .homes ∨ col13 x = .parts ∨ col13 x = .fab) := by
          intro x hx
          rcases List.mem_cons.1 hx with rfl | hx
          · exact ⟨l13, .inr (.inr made13.cb)⟩
          · exact ⟨(hS x hx).1, .inl (hS x hx).2⟩
        have neA : ∀ x ∈ bf :: S, x < H13.size → col13 x ≠ .home := by
          intro x hx _ h
          rcases (hSA x hx).2 with h4 | h4 | h4 <;> rw [h4] at h <;> cases h
        have c14f : col14 bf = .fab := (S14 _ l13).trans made13.cb
        have made15 := made13.upd (ps' := ps) (hs' := (List.range (i + 1)).map fun (j : Nat) => Home.new j hn (lineOf bs j)) hcol eA S14 hSA k15'
          (made13.pl.ext eA S14 (by
            intro x hx hl h
            rcases List.mem_cons.1 hx with rfl | hx
            · rw [made13.cb] at h; cases h
            · rw [(hS x hx).2] at h; cases h))
          made13.pn
          (fun j a b => (made13.pt j a b).ext eA S14 (by
            intro x hx hl
            rcases (hSA x hx).2 with h4 | h4 | h4 <;> rw [h4] <;> rfl))
          ⟨bhs ++ [hb], x14.ext e15 (Same.refl _ _) (by
            intro x hx _; simp at hx; subst hx; rw [c14f]; simp), by simp [hbl8], by
            intro j a b
            by_cases hj : j < i
            · have := (x3 j (by omega) (by simp; omega)).ext eA S14 neA
              rw [List.getElem_append_left (by omega)]
              simpa using this
            · have hji : j = i := by simp [hbl8] at a; omega
              subst hji
              rw [List.getElem_append_right (by omega)]
              simpa using hr13.ext eA S14 neA⟩
        have wi : IntKind.wrap .i64 ((i : Int) + 1) = ((i + 1 : Nat) : Int) := by rw [w64 (by omega) (by omega)]; simp
        simp -implicitDefEqProofs only [Bin_add_3, q_some, wi]
        exact ⟨trivial, trivial, trivial, trivial, ⟨i + 1, col14, v14, rfl, by omega, made15⟩, by simp; omega⟩
      · have hil : i = L := by omega
        subst hil
        have hlt' : ¬ ((i : Int) < i) := by omega
        simp -implicitDefEqProofs only [Bin_lss_3, hlt', decide_false, q_some, condV_bool, Bool.false_eq_true, if_false]
        unfold F14_6
        refine h1 hc H8 col8 bf ⟨cm, cb, bn, pv, hv, bps⟩ (E2.trans made8.ext) (Same.trans (H' := H2) (Same.refl _ _) made8.same z2) ⟨?_, made8.cb, made8.kb, ⟨bs, made8.mem, ?_⟩, made8.cm, made8.cbb, made8.net, made8.pl, ?_, ?_, ?_⟩
        · intro b hb5
          have := (gl b hb5).ext E2 (Same.refl _ _) (by simp)
          exact this.ext made8.ext made8.same (by simp)
        · simp [Fab.new]; omega
        · have := made8.pn; rw [this, hps]; simp [Fab.new]
        · intro j a b
          have hj : j < ps.length := by have := made8.pn; show j < _; omega
          have := made8.pt j a hj
          subst hps
          simpa [Fab.new] using this
        · obtain ⟨bhs, x1, x2, x3⟩ := made8.hm
          refine ⟨bhs, x1, by simpa [Fab.new] using x2, fun j a b => ?_⟩
          have := x3 j a (by rw [← x2]; exact a)
          simpa [Fab.new] using this
    unfold F14_4 F14_12 F14_16
    obtain ⟨c0', _, _, _⟩ := cc ((k24.ext e5 (by simp)).ext e6 (by simp; omega))
    simp -implicitDefEqProofs only [Fa_some, add_mk, Nat.zero_add, q_some, Ld_some, c0']
    unfold F14_13 F14_14
    refine ⟨fun v35 H' => ∃ (i : Nat) (col' : Nat → Rl) (pv : Value) (bps : List Nat), v35 = .int .i64 i ∧ i ≤ hn ∧ Made H2 H' col col' bf ⟨cm, cb, bn, pv, .slice none 0 0, bps⟩ { harts := hn, room := rn } bs (List.replicate i { cache := Cache.new s.toNat w.toNat, lines := List.replicate L none }) [], fun v35 _ => hn - (iv v35).toNat,
      ⟨0, col6, _, [], rfl, by omega, made0⟩, ?_⟩
    rintro v35 H7 ⟨i, col7, pv, bps, rfl, hi, made7⟩
    unfold F14_15
    have k7 := k2.ext made7.ext (by simp)
    obtain ⟨_, d1, d2, _⟩ := cc k7
    by_cases hlt : i < hn
    · have hlt' : (i : Int) < hn := by omega
      simp -implicitDefEqProofs only [Bin_lss_3, hlt', decide_true, q_some, condV_bool, if_true, Fa_some, add_mk, Nat.zero_add, Ld_some, d1, d2]
      have hg7 : cellAt H7 ⟨0, 0, none⟩ = some ev := by
        have e07 := E2.trans made7.ext
        unfold cellAt at hg ⊢
        cases hh : H[0]? with
        | none => simp [hh] at hg
        | some o => rw [e07.same 0 (get_lt hh) (by simp)]; exact hg
      refine New_35 (col := col7) i hg7 (fun hs => by rw [hsh] at hs; cases hs) (fun _ H8 col8 bc bsx e8 S8 ca8 y1 y2 => ?_)
      have made8 := made7.step (R := fun _ => false) (Mod.of e8 (by simp)) (made7.ext.trans e8) S8 (by simp)
      have hc1 : ∀ {G : Hp}, blk G bf #[at0 cm, pv, at0 bn, .slice none 0 0] → cellAt G ⟨bf, 1, none⟩ = some pv := fun k => by rw [k.cell]; rfl
      simp -implicitDefEqProofs only [Ex_tuple, List.getElem?_toArray, List.getElem?_cons_zero, List.getElem?_cons_succ, q_some, Nz_some, Fa_some, add_mk, Nat.zero_add, Ld_some, hc1 made8.kb]
      have e89 : Ext [] H8 (H8.push (Obj.map #[] 0)) := Ext.push _ _
      have om9 : (H8.push (Obj.map #[] 0))[H8.size]? = some (.map #[] 0) := by simp
      have sz9 : (H8.push (Obj.map #[] 0)).size = H8.size + 1 := by simp
      generalize H8.push (Obj.map #[] 0) = H9 at e89 om9 sz9
      simp -implicitDefEqProofs only [bld_105, q_some]
      refine New_i fun H10 b10 hb10 e10 s10 k10 => ?_
      replace k10 : blk H10 b10 #[at0 bc, .map (some H8.size), .slice none 0 0] := by simpa using k10
      refine Bsl_i (cells := #[at0 b10]) (by kernel_rfl) fun H11 b11 hb11 e11 s11 k11 => ?_
      have z8 := e8.size
      have z9 := e89.size
      have z10 := e10.size
      have z11 := e11.size
      have e811 : Ext [] H8 H11 := (e89.trans e10).trans e11
      obtain ⟨col11, hcol11⟩ : ∃ c : Nat → Rl, c = recol (recol col8 H8.size (.map i)) b10 (.part i) := ⟨_, rfl⟩
      have S11 : Same H8 col8 col11 := by
        intro x hx; subst hcol11; simp only [recol]
        rw [if_neg (by omega), if_neg (by omega)]
      have made11 := made8.step (R := fun _ => false) (col' := col11) (Mod.of e811 (by simp)) (made8.ext.trans e811) S11 (by simp)
      have hcp : col11 b10 = .part i := by subst hcol11; simp [recol]
      have hcmp : col11 H8.size = .map i := by subst hcol11; simp [recol, show ¬ H8.size = b10 by omega]
      have pt11 : PartAt H11 col11 i b10 { cache := Cache.new s.toNat w.toNat, lines := List.replicate L none } :=
        PartAt.fresh hcp (k10.ext e11 (by simp)) (ca8.ext0 e811 S11) hcmp (by
          rw [e11.same _ (by omega) (by simp), e10.same _ (by omega) (by simp)]; exact om9)
      have hlb : bps.length = i := by have := made11.pn; simpa using this
      refine append_ptr ty_95 (col := col11) (r := .parts) (l := bps) made11.pl k11 (by omega) fun H12 v12 col12 hE S12 x12 => ?_
      obtain ⟨S, hS, eS⟩ := hE
      have l11 := made11.kb.lt
      have hbf2 : bf ∉ S := by intro hx; have := (hS bf hx).2; rw [made11.cb] at this; cases this
      have k12 := made11.kb.ext eS hbf2
      obtain ⟨bx, hbx⟩ := x12.slc
      obtain ⟨ax, capx, hv12, _, _⟩ := hbx.shape
      have hcv : v12.cells = #[v12] := by rw [hv12]; rfl
      refine St_i k12 (by rw [hcv]; rfl) (by simp) (by rw [hcv, hv12]; rfl) fun H13 e13 s13 k13 => ?_
      have k13' : blk H13 bf #[at0 cm, v12, at0 bn, .slice none 0 0] := by rw [hcv] at k13; simpa [wrL] using k13
      have eA : Ext (bf :: S) H11 H13 := (eS.mono (by simp; intro a ha; exact .inr ha)).trans (e13.mono (by simp))
      have hSA : ∀ x ∈ bf :: S, x < H11.size ∧ (col11 x = .homes ∨ col11 x = .parts ∨ col11 x = .fab) := by
        intro x hx
        rcases List.mem_cons.1 hx with rfl | hx
        · exact ⟨l11, .inr (.inr made11.cb)⟩
        · exact ⟨(hS x hx).1, .inr (.inl (hS x hx).2)⟩
      have hSP : ∀ j, ∀ x ∈ bf :: S, x < H11.size → (col11 x).isPart j = false := by
        intro j x hx hl
        rcases (hSA x hx).2 with h4 | h4 | h4 <;> rw [h4] <;> rfl
      have c12f : col12 bf = .fab := (S12 _ l11).trans made11.cb
      have made13 := made11.upd (pv := v12) (hv := .slice none 0 0) (bps := bps ++ [b10]) (ps' := List.replicate (i + 1) { cache := Cache.new s.toNat w.toNat, lines := List.replicate L none }) (hs' := []) hcol eA S12 hSA k13'
        (x12.ext e13 (Same.refl _ _) (by intro x hx _; simp at hx; subst hx; rw [c12f]; simp))
        (by simp [hlb])
        (by
          intro j a b
          by_cases hj : j < i
          · have := (made11.pt j (by show j < bps.length; omega) (by simp; omega)).ext eA S12 (hSP j)
            rw [List.getElem_append_left (by omega)]
            simpa using this
          · have hji : j = i := by simp [hlb] at a; omega
            subst hji
            rw [List.getElem_append_right (by omega)]
            simpa using pt11.ext eA S12 (hSP j))
        ⟨[], .inl ⟨rfl, rfl⟩, rfl, by simp⟩
      have wi : IntKind.wrap .i64 ((i : Int) + 1) = ((i + 1 : Nat) : Int) := by rw [w64 (by omega) (by omega)]; simp
      simp -implicitDefEqProofs only [Bin_add_3, q_some, wi]
      exact ⟨trivial, trivial, trivial, trivial, ⟨i + 1, col12, v12, bps ++ [b10], rfl, by omega, made13⟩, by simp; omega⟩
    · have hil : i = hn := by omega
      subst hil
      have hlt' : ¬ ((i : Int) < i) := by omega
      simp -implicitDefEqProofs only [Bin_lss_3, hlt', decide_false, q_some, condV_bool, Bool.false_eq_true, if_false]
      exact loop2 H7 col7 pv bps _ made7 rfl
end YtacidjifocfhkaaGreatDoor
end Go.Proofs
namespace Go.Proofs
open Go Go.NW Go.Pm
set_option maxRecDepth 20000
set_option linter.unusedSimpArgs false
set_option linter.unusedVariables false
namespace YtacidjifocfhkaaGreatDoor
theorem Number_12 {H : Hp} {n b : Int} {Q : RT1} (hb : 0 < b ∧ b < 1000) (hq : Q (.int .i64 (n % b)) H) : NCalls Tryz.prog 12 #[.int .i64 n, .int .i64 b] H Q := by
  refine E12 ?_
  unfold F12_0
  have h1 : -b < n.tmod b ∧ n.tmod b < b := by
    constructor
    · exact Int.lt_tmod_of_pos _ hb.1
    · exact Int.tmod_lt_of_pos _ hb.1
  have w1 : IntKind.wrap .i64 (n.tmod b + b) = n.tmod b + b := w64 (by omega) (by omega)
  have h2 : (n.tmod b + b).tmod b = n % b := by
    rw [Int.tmod_eq_emod_of_nonneg (by omega), Int.add_emod_right]
    have := Int.tmod_add_mul_tdiv n b
    have h3 : n = n.tmod b + b * n.tdiv b := by omega
    conv => rhs; rw [h3]
    rw [Int.add_mul_emod_self_left]
  simp -implicitDefEqProofs only [Bin_rem_3 _ _ _ _ (show b ≠ 0 by omega), q_some, Bin_add_3, w1, h2]
  exact hq
theorem new_good {s w : Nat} (hs : 1 ≤ s ∧ s ≤ 64) (hw : 1 ≤ w ∧ w ≤ 8) : CacheOk (Cache.new s w) ∧ CacheGood (Cache.new s w) ∧ (Cache.new s w).all = [] := by
  refine ⟨⟨by simp [Cache.new]; omega, by simp [Cache.new]; omega, hw.2, ?_⟩, ⟨?_, ?_, ?_, hw.1⟩, ?_⟩
  · intro l hl; simp [Cache.new] at hl; rw [hl.2]; simp
  · intro j row hj e he; simp [Cache.new, List.getElem?_replicate] at hj; rw [hj.2] at he; simp at he
  · intro j row hj; simp [Cache.new, List.getElem?_replicate] at hj; rw [hj.2]; simp
  · intro l hl; simp [Cache.new] at hl; rw [hl.2]; simp
  · simp [Cache.new, Cache.all]
theorem FabOk.new {h s w r : Nat} {data : List Words} (hh : 1 ≤ h ∧ h ≤ 4) (hs : 1 ≤ s ∧ s ≤ 64) (hw : 1 ≤ w ∧ w ≤ 8) (hr : r ≤ 64) (hd : 1 ≤ data.length ∧ data.length ≤ 4096) (hu : ∀ d ∈ data, U32s d) : FabOk (Fab.new h s w r data) := by
  obtain ⟨c1, c2, c3⟩ := new_good hs hw
  refine ⟨by simp [Fab.new]; omega, by simp [Fab.new]; omega, by simp [Fab.new], by simp [Fab.new]; omega, by simp [Fab.new]; omega, fun i hi => ?_, by simp [Fab.new], by simpa [Fab.new] using hr, by simp [Fab.new], by simp [Fab.new], fun i hi => ?_⟩
  · simp only [Fab.new, List.length_mapIdx, List.getElem_replicate]
    refine ⟨hd.2, c1, c2, by simp, ?_, by rw [c3]; simp, List.Pairwise.nil, by simp, ?_⟩
    · intro e he; rw [c3] at he; simp at he
    · intro k l hl; simp [Part.line, List.getD_eq_getElem?_getD, List.getElem?_replicate] at hl
      split at hl <;> simp at hl
  · simp only [Fab.new, List.getElem_mapIdx, List.length_replicate]
    refine ⟨⟨by show h ≤ 1000; omega, by simp [Home.new], by simp [Home.new], ⟨Int.le_refl _, by show (-1 : Int) < h; omega⟩, fun hb => (by cases hb), fun ha => (ha rfl).elim⟩, rfl, rfl, hu _ (List.getElem_mem _), U32s.zero, fun _ => ⟨rfl, by simp [Home.new]⟩⟩
theorem lineOf_u32 {bs : List Int} (h : Bytes bs) (i : Nat) : U32s (lineOf bs i) := by
  have g : ∀ o, U32 (getL bs o 4) := fun o => by have := getL_rng h o 4; exact ⟨this.1, by simpa using this.2⟩
  exact ⟨g _, g _, g _, g _⟩
theorem confOk_cases {h s w r : Int} (hc : confOk h s w r = true) : 1 ≤ h.toNat ∧ h.toNat ≤ 4 ∧ 1 ≤ s.toNat ∧ s.toNat ≤ 64 ∧ 1 ≤ w.toNat ∧ w.toNat ≤ 8 ∧ r.toNat ≤ 64 ∧ 6 * h.toNat ≤ r.toNat := by
  simp [confOk, shapeOk] at hc
  omega
/-- where the statements begin: no memory but errors and arguments -/
structure Start (H : Hp) (col : Nat → Rl) : Prop where
  gl : ∀ b, b < 5 → GlobR H col b
  col : ∀ x, col x = .other ∨ col x = .glob
theorem Start.ev {H : Hp} {col : Nat → Rl} (s : Start H col) : ∃ ev, cellAt H ⟨0, 0, none⟩ = some ev := by
  obtain ⟨_, c, t, v, kb, hc⟩ := s.gl 0 (by omega)
  exact ⟨_, by rw [kb.cell]; exact hc⟩
theorem Start.ext {H H' : Hp} {col : Nat → Rl} (s : Start H col) (e : Ext [] H H') : Start H' col := ⟨fun b hb => (s.gl b hb).ext e (Same.refl _ _) (by simp), s.col⟩
/-- what is not the fabric's, stays -/
theorem Start.stay {H H' : Hp} {col : Nat → Rl} (s : Start H col) (m : Mod Rl.mine H col H') : Ext [] H H' :=
  ⟨m.size, fun x hx _ => m.same x hx (by rcases s.col x with h | h <;> rw [h] <;> rfl)⟩
theorem made_22 {H : Hp} {col : Nat → Rl} {h s w r : Int} {n bw : Nat} {wv : Value} {ws : List Int} {Q : RT1} (st : Start H col) (hc : confOk h s w r = true) (hn : 16 ≤ n ∧ n ≤ 65536 ∧ n % 16 = 0) (hs : Slc H 1 wv (u32sC ws) bw) (hl : 4 * ws.length ≤ n) (hw : ∀ w ∈ ws, U32 w)
    (hq : ∀ H' col' bf sk, Ext [] H H' → Same H col col' → FabAt H' col' bf sk (Fab.new h.toNat s.toNat w.toNat r.toNat ((List.range (n / 16)).map (lineOf (memNew n ws)))) → FabOk (Fab.new h.toNat s.toNat w.toNat r.toNat ((List.range (n / 16)).map (lineOf (memNew n ws)))) → Q (.tuple #[at0 bf, .bool true]) H') :
    NCalls Tryz.prog 22 #[.agg (confC h s w r), .int .i64 n, wv] H Q := by
  refine E22 ?_
  unfold F22_0
  refine New_i fun H1 b1 hb1 e1 s1 k1 => ?_
  replace k1 : blk H1 b1 (confC h s w r) := by simpa using k1
  refine New_13 hn (hs.ext e1 (by simp)) hl hw fun H2 bm bb e2 m2 g1 g2 => ?_
  have k2 := k1.ext e2 (by simp)
  have E2 := e1.trans e2
  have st2 := st.ext E2
  obtain ⟨ev, hev⟩ := st2.ev
  have hml := memNew_len n ws
  have he30 : Bin Tryz.prog H2 .eql 30 true (at0 bm) (.pointer none) = some (.bool false) := by kernel_rfl
  simp -implicitDefEqProofs only [Ex_tuple, List.getElem?_toArray, List.getElem?_cons_zero, List.getElem?_cons_succ, q_some, he30, gd_bool, if_true, Bin_neq_26_nil, Pk_bool, Bool.false_eq_true, if_false, condV_bool, LdA_some, k2.cells, show (confC h s w r).size = 4 from rfl, show (confC h s w r).extract 0 (0 + 4) = confC h s w r by simp [confC], Nat.zero_add, Nat.le_refl, Option.map_some]
  have hcf := confOk_cases hc
  refine New_14 st2.gl hev m2 (by rw [hml]; omega) st2.col (fun hf => by rw [hc] at hf; cases hf) (fun _ H3 col3 bf sk e3 S3 fa3 => ?_)
  have he33 : ∀ G, Bin Tryz.prog G .neq 33 true (at0 bf) (.pointer none) = some (.bool true) := by intro G; kernel_rfl
  simp -implicitDefEqProofs only [Ex_tuple, List.getElem?_toArray, List.getElem?_cons_zero, List.getElem?_cons_succ, q_some, he33, gd_bool, if_true, Bin_eql_26_nil, Pk_bool]
  rw [hml] at fa3
  have z2 := E2.size
  refine hq H3 col3 bf sk (E2.trans e3) (fun x hx => S3 x (by omega)) fa3 (FabOk.new ⟨hcf.1, hcf.2.1⟩ ⟨hcf.2.2.1, hcf.2.2.2.1⟩ ⟨hcf.2.2.2.2.1, hcf.2.2.2.2.2.1⟩ hcf.2.2.2.2.2.2.1 (by simp; omega) ?_)
  intro d hd
  simp only [List.mem_map] at hd
  obtain ⟨i, _, rfl⟩ := hd
  exact lineOf_u32 (memNew_bytes n ws) i
end YtacidjifocfhkaaGreatDoor
end Go.Proofs
namespace Go.Proofs
open Go Go.NW Go.Pm
set_option maxRecDepth 20000
set_option linter.unusedSimpArgs false
set_option linter.unusedVariables false
namespace YtacidjifocfhkaaGreatDoor
theorem append_R {T E n : Nat} (ty : SlTy Tryz.prog T E n) {H : Hp} {col : Nat → Rl} {r : Rl} {v x : Value} {xs ys : List (List Value)} {bx : Nat} {K : RT1} (hs : SlR H col r n v xs) (hx : Slc H n x ys bx) (h1 : ∀ y ∈ ys, y.all one = true) (hl : xs.length + ys.length ≤ 2 ^ 30)
    (hK : ∀ H' v' col', (∃ S, (∀ x ∈ S, x < H.size ∧ col x = r) ∧ Ext S H H') → Same H col col' → SlR H' col' r n v' (xs ++ ys) → K v' H') :
    dm Tryz.prog (Builtin.append_ #[T, T] 0 #[v, x]) H K := by
  obtain ⟨bo, hsl, hbo⟩ := hs.blk1 H.size
  refine append_i ty hsl hx h1 hl fun H1 v1 b2 e1 k1 hb2 => ?_
  have hE : ∃ S, (∀ x ∈ S, x < H.size ∧ col x = r) ∧ Ext S H H1 := by
    rcases hbo with ⟨h1, h2⟩ | ⟨h1, _⟩
    · exact ⟨[bo], by intro x hx; simp at hx; subst hx; exact ⟨h1, h2⟩, e1⟩
    · refine ⟨[], by simp, ?_⟩
      exact ((Ext.refl [] H).fresh e1 (by simp; omega))
  rcases k1.2 with ⟨hv, hnil⟩ | ⟨o, cap, c, _, _, hb, _⟩
  · exact hK H1 v1 col hE (Same.refl _ _) (.inl ⟨hv, hnil⟩)
  · have hlt := hb.lt
    by_cases hf : b2 < H.size
    · have : b2 = bo := by omega
      subst this
      have hc : col b2 = r := by rcases hbo with h | h; exact h.2; omega
      exact hK H1 v1 col hE (Same.refl _ _) (.inr ⟨b2, hlt, hc, k1⟩)
    · exact hK H1 v1 (recol col b2 r) hE (Same.recol (by omega)) (.inr ⟨b2, hlt, by simp [recol], k1⟩)
def wordsL (ws : List Words) : List (List Value) := ws.map fun w => (wordsC w).toList
def viewC (line : Int) (sv dv : Value) (m : Words) (busy puts : Bool) : Array Value := #[.int .i64 line, sv, dv, .int .u32 m.a, .int .u32 m.b, .int .u32 m.c, .int .u32 m.d, .bool busy, .bool puts]
def stOf (line : Int) (p : Part) : Int := match p.line line with | some l => l.state | none => 0
def dtOf (line : Int) (p : Part) : Words := match p.line line with | some l => if l.state = 0 then .zero else l.data | none => .zero
def puOf (line : Int) (p : Part) : Bool := match p.line line with | some l => l.waits == 3 | none => false
theorem view_eq {f : Fab} {line : Int} {h : Home} (h0 : 0 ≤ line) (hh : f.homes[line.toNat]? = some h) : f.view line = some { state := f.parts.map (stOf line), data := f.parts.map (dtOf line), memory := h.data, busy := h.busy, puts := f.parts.any (puOf line) } := by
  have hl := (List.getElem?_eq_some_iff.1 hh).1
  unfold Fab.view
  rw [if_neg (by omega)]
  have : f.homes.getD line.toNat (Home.new 0 0 .zero) = h := by rw [List.getD_eq_getElem?_getD, hh]; rfl
  rw [this]
  rfl
/-- a part's row of a view is added -/
theorem view_row {H : Hp} {col : Nat → Rl} {b7 b11 : Nat} {t1 t4 t41 t42 : Value} {k : Nat} {line st : Int} {sv dv : Value} {m w : Words} {bz pz : Bool} {xs : List Int} {ys : List Words} {R8 : RT6} {Q : RT1}
    (k7 : blk H b7 (viewC line sv dv m bz pz)) (k11 : blk H b11 (wordsC w)) (c7 : col b7 = .other) (c11 : col b11 = .other) (hs : SlR H col (.lost 77) 1 sv (intsC xs)) (hd : SlR H col (.lost 78) 4 dv (wordsL ys)) (hl : xs.length ≤ 100 ∧ ys.length ≤ 100) (hk : k ≤ 100)
    (hK : ∀ H' col' sv' dv' S, (∀ x ∈ S, x < H.size → col x = .lost 77 ∨ col x = .lost 78 ∨ x = b7) → Ext S H H' → Same H col col' → blk H' b7 (viewC line sv' dv' m bz pz) → SlR H' col' (.lost 77) 1 sv' (intsC (xs ++ [st])) → SlR H' col' (.lost 78) 4 dv' (wordsL (ys ++ [w])) → R8 t1 t4 (at0 b7) t41 t42 (.int .i64 (k + 1 : Nat)) H') :
    F23_18 t1 t4 (at0 b7) (.int .i64 st) (at0 b11) t41 t42 (.int .i64 k) H R8 Q := by
  have l7 := k7.lt
  have l11 := k11.lt
  have C1 : ∀ {G : Hp}, blk G b7 (viewC line sv dv m bz pz) → cellAt G ⟨b7, 1, none⟩ = some sv := fun k => by rw [k.cell]; rfl
  have C2 : ∀ {G : Hp}, blk G b7 (viewC line sv dv m bz pz) → cellAt G ⟨b7, 2, none⟩ = some dv := fun k => by rw [k.cell]; rfl
  have C4 : ∀ {G : Hp}, blk G b11 (wordsC w) → cellsAt G ⟨b11, 0, none⟩ 4 = some (wordsC w) := fun k => by rw [k.cells]; simp [wordsC]
  have bI : bslCells #[.int .i64 0] 1 1 [(0, .int .i64 st)] = some #[.int .i64 st] := by kernel_rfl
  have bW : bslCells #[.int .u32 0, .int .u32 0, .int .u32 0, .int .u32 0] 4 1 [(0, .agg (wordsC w))] = some (wordsC w) := by kernel_rfl
  have wk : IntKind.wrap .i64 ((k : Int) + 1) = ((k + 1 : Nat) : Int) := by rw [w64 (by omega) (by omega)]; simp
  have xI : ∀ {G : Hp} {b : Nat}, blk G b #[.int .i64 st] → Slc G 1 (.slice (some ⟨b, 0, none⟩) 1 1) (intsC [st]) b := fun k => Slc.of (xs := intsC [st]) (c := _) (by simp [intsC]) k (by simp [intsC]) (by simp) (by simp [intsC])
  have xW : ∀ {G : Hp} {b : Nat}, blk G b (wordsC w) → Slc G 4 (.slice (some ⟨b, 0, none⟩) 1 1) (wordsL [w]) b := fun k => Slc.of (xs := wordsL [w]) (c := _) (by simp [wordsL, wordsC]) k (by simp [wordsL]) (by simp [wordsC]) (by simp [wordsL, wordsC])
  have oW : ∀ y ∈ wordsL [w], y.all one = true := by intro y hy; simp [wordsL] at hy; subst hy; rfl
  have eI : intsC xs ++ intsC [st] = intsC (xs ++ [st]) := by simp [intsC]
  have eW : wordsL ys ++ wordsL [w] = wordsL (ys ++ [w]) := by simp [wordsL]
  have lI := intsC_len xs
  have lW : (wordsL ys).length = ys.length := by simp [wordsL]
  have l1 : (intsC [st]).length = 1 := rfl
  have l2 : (wordsL [w]).length = 1 := rfl
  -- the end
  have tail : ∀ (G : Hp) (colG : Nat → Rl) (sv' dv' : Value) (S : List Nat), (∀ x ∈ S, x < H.size → col x = .lost 77 ∨ col x = .lost 78) → Ext S H G → Same H col colG → SlR G colG (.lost 77) 1 sv' (intsC (xs ++ [st])) → SlR G colG (.lost 78) 4 dv' (wordsL (ys ++ [w])) →
      St 1 G (.pointer (some ⟨b7, 1, none⟩)) sv' (fun H_14 => q (Fa 2 (at0 b7)) fun t78_16 => St 1 H_14 t78_16 dv' (fun H_15 => F23_12 t1 t4 (at0 b7) t41 t42 (.int .i64 k) H_15 R8 Q)) := by
    intro G colG sv' dv' S hS e Sm hs' hd'
    have h7 : b7 ∉ S := by intro h; rcases hS b7 h l7 with h | h <;> (rw [c7] at h; cases h)
    have kG := k7.ext e h7
    have c7G : colG b7 = .other := (Sm _ l7).trans c7
    obtain ⟨bz1, hz1⟩ := hs'.slc
    obtain ⟨a1, cap1, hv1, _, _⟩ := hz1.shape
    obtain ⟨bz2, hz2⟩ := hd'.slc
    obtain ⟨a2, cap2, hv2, _, _⟩ := hz2.shape
    have hcv1 : sv'.cells = #[sv'] := by rw [hv1]; rfl
    have hcv2 : dv'.cells = #[dv'] := by rw [hv2]; rfl
    refine St_i kG (by rw [hcv1]; rfl) (by simp [viewC]) (by rw [hcv1, hv1]; rfl) fun G1 e1 s1 k1 => ?_
    have k1' : blk G1 b7 (viewC line sv' dv m bz pz) := by rw [hcv1] at k1; simpa [wrL, viewC] using k1
    simp -implicitDefEqProofs only [Fa_some, add_mk, Nat.zero_add, q_some]
    refine St_i k1' (by rw [hcv2]; rfl) (by simp [viewC]) (by rw [hcv2, hv2]; rfl) fun G2 e2 s2 k2 => ?_
    have k2' : blk G2 b7 (viewC line sv' dv' m bz pz) := by rw [hcv2] at k2; simpa [wrL, viewC] using k2
    unfold F23_12
    simp -implicitDefEqProofs only [Bin_add_3, wk, q_some]
    have e12 : Ext [b7] G G2 := e1.trans e2
    refine hK G2 colG sv' dv' (b7 :: S) ?_ ((e.mono (by simp; intro a ha; exact .inr ha)).trans (e12.mono (by simp))) Sm k2' (hs'.ext e12 (Same.refl _ _) ?_) (hd'.ext e12 (Same.refl _ _) ?_)
    · intro x hx hl
      rcases List.mem_cons.1 hx with rfl | hx
      · exact .inr (.inr rfl)
      · rcases hS x hx hl with h | h
        · exact .inl h
        · exact .inr (.inl h)
    · intro x hx _; simp at hx; subst hx; rw [c7G]; simp
    · intro x hx _; simp at hx; subst hx; rw [c7G]; simp
  -- the first is appended
  have app1 : ∀ (G : Hp) (colG : Nat → Rl) (bi : Nat) (K : RT1), Ext [] H G → Same H col colG → blk G bi #[.int .i64 st] →
      (∀ G2 v2 col2 S, (∀ x ∈ S, x < G.size ∧ colG x = .lost 77) → Ext S G G2 → Same G colG col2 → SlR G2 col2 (.lost 77) 1 v2 (intsC (xs ++ [st])) → K v2 G2) →
      dm Tryz.prog (Builtin.append_ #[49, 49] 0 #[sv, .slice (some ⟨bi, 0, none⟩) 1 1]) G K := by
    intro G colG bi K e Sm kb hK'
    refine append_R ty_49 (col := colG) (hs.ext e Sm (by simp)) (xI kb) intsC_one (by rw [lI, l1]; omega) fun G2 v2 col2 hE S2 r2 => ?_
    obtain ⟨S, h1, h2⟩ := hE
    rw [eI] at r2
    exact hK' G2 v2 col2 S h1 h2 S2 r2
  -- the second is appended, and all is stored
  have app2 : ∀ (G : Hp) (colG : Nat → Rl) (bw : Nat) (sv' : Value) (S1 : List Nat), (∀ x ∈ S1, x < H.size → col x = .lost 77) → Ext S1 H G → Same H col colG → SlR G colG (.lost 77) 1 sv' (intsC (xs ++ [st])) → blk G bw (wordsC w) →
      dm Tryz.prog (Builtin.append_ #[50, 50] 0 #[dv, .slice (some ⟨bw, 0, none⟩) 1 1]) G (fun t76 H14 => St 1 H14 (.pointer (some ⟨b7, 1, none⟩)) sv' (fun H_14 => q (Fa 2 (at0 b7)) fun t78_16 => St 1 H_14 t78_16 t76 (fun H_15 => F23_12 t1 t4 (at0 b7) t41 t42 (.int .i64 k) H_15 R8 Q))) := by
    intro G colG bw sv' S1 hS1 e Sm hs' kb
    have hdG : SlR G colG (.lost 78) 4 dv (wordsL ys) := hd.ext e Sm (by intro x hx hl; rw [hS1 x hx hl]; simp)
    refine append_R ty_50 (col := colG) hdG (xW kb) oW (by rw [lW, l2]; omega) fun G2 v2 col2 hE S2 r2 => ?_
    obtain ⟨S, h1, h2⟩ := hE
    rw [eW] at r2
    refine tail G2 col2 sv' v2 (S1 ++ S) ?_ ((e.mono (by intro a ha; simp [ha])).trans (h2.mono (by intro a ha; simp [ha]))) (Sm.trans (H' := G) S2 e.size) (hs'.ext h2 S2 (by intro x hx _; rw [(h1 x hx).2]; simp)) r2
    intro x hx hl
    rcases List.mem_append.1 hx with hx | hx
    · exact .inl (hS1 x hx hl)
    · right; rw [← Sm x hl]; exact (h1 x hx).2
  have nS : ∀ {G : Hp} {colG : Nat → Rl} {S : List Nat} {b : Nat}, Same H col colG → (∀ x ∈ S, x < G.size ∧ colG x = .lost 77) → b < H.size → col b = .other → b ∉ S := by
    intro G colG S b Sm h1 hb hc hx
    have := (h1 b hx).2
    rw [Sm b hb, hc] at this; cases this
  unfold F23_18
  refine ⟨?_, ?_, ?_⟩
  · simp -implicitDefEqProofs only [Fa_some, add_mk, Nat.zero_add, q_some, Ld_some, C1 k7, C2 k7, LdA_some, C4 k11, Option.map_some]
    refine Bsl_i bI fun G1 bi hbi e1 s1 kbi => ?_
    refine ⟨by rw [C4 (k11.ext e1 (by simp))]; rfl, C2 (k7.ext e1 (by simp)), C1 (k7.ext e1 (by simp)), ?_⟩
    refine app1 G1 col bi _ e1 (Same.refl _ _) kbi fun G2 v2 col2 S h1 h2 S2 r2 => ?_
    have z1 := e1.size
    have e2 : Ext S H G2 := (e1.mono (by simp)).trans h2
    have S2' : Same H col col2 := fun x hx => S2 x (by omega)
    have k72 := k7.ext e2 (nS (Same.refl _ _) h1 l7 c7)
    have k112 := k11.ext e2 (nS (Same.refl _ _) h1 l11 c11)
    refine ⟨by rw [C4 k112]; rfl, C2 k72, ?_⟩
    refine Bsl_i bW fun G3 bw hbw e3 s3 kbw => ?_
    have e3' : Ext S H G3 := e2.trans (e3.mono (by simp))
    refine ⟨C2 (k72.ext e3 (by simp)), ?_, ?_⟩
    · exact C1 (k72.ext e3 (by simp))
    · exact app2 G3 col2 bw v2 S (fun x hx hl => (h1 x hx).2) e3' S2' (r2.ext e3 (Same.refl _ _) (by simp)) kbw
  · simp -implicitDefEqProofs only [Fa_some, add_mk, Nat.zero_add, q_some, Ld_some, C1 k7, C2 k7, LdA_some, C4 k11, Option.map_some]
    refine Bsl_i bI fun G1 bi hbi e1 s1 kbi => ?_
    refine ⟨by rw [C4 (k11.ext e1 (by simp))]; rfl, C2 (k7.ext e1 (by simp)), C1 (k7.ext e1 (by simp)), ?_⟩
    refine Bsl_i bW fun G2 bw hbw e2 s2 kbw => ?_
    have e12 := e1.trans e2
    refine ⟨C2 (k7.ext e12 (by simp)), C1 (k7.ext e12 (by simp)), ?_⟩
    have z1 := e1.size
    have z2 := e2.size
    refine app1 G2 (recol col bw .other) bi _ e12 (Same.recol (by omega)) (kbi.ext e2 (by simp)) fun G3 v3 col3 S h1 h2 S3 r3 => ?_
    have e3 : Ext S H G3 := (e12.mono (by simp)).trans h2
    have S3' : Same H col col3 := (Same.recol (by omega)).trans (H' := G2) S3 (by omega)
    have k73 := k7.ext e3 (nS (Same.recol (by omega)) h1 l7 c7)
    have k113 := k11.ext e3 (nS (Same.recol (by omega)) h1 l11 c11)
    have kbw3 := kbw.ext h2 (by intro hx; have := (h1 bw hx).2; simp [recol] at this)
    refine ⟨by rw [C4 k113]; rfl, C2 k73, ?_⟩
    exact app2 G3 col3 bw v3 S (fun x hx hl => by have := (h1 x hx).2; simp only [recol] at this; rw [if_neg (by omega)] at this; exact this) e3 S3' r3 kbw3
  · simp -implicitDefEqProofs only [Fa_some, add_mk, Nat.zero_add, q_some, Ld_some, C1 k7, C2 k7, LdA_some, C4 k11, Option.map_some]
    refine Bsl_i bW fun G1 bw hbw e1 s1 kbw => ?_
    refine ⟨C2 (k7.ext e1 (by simp)), C1 (k7.ext e1 (by simp)), ?_⟩
    refine Bsl_i bI fun G2 bi hbi e2 s2 kbi => ?_
    have e12 := e1.trans e2
    refine ⟨by rw [C4 (k11.ext e12 (by simp))]; rfl, C2 (k7.ext e12 (by simp)), C1 (k7.ext e12 (by simp)), ?_⟩
    have z1 := e1.size
    have z2 := e2.size
    refine app1 G2 (recol col bw .other) bi _ e12 (Same.recol (by omega)) kbi fun G3 v3 col3 S h1 h2 S3 r3 => ?_
    have e3 : Ext S H G3 := (e12.mono (by simp)).trans h2
    have S3' : Same H col col3 := (Same.recol (by omega)).trans (H' := G2) S3 (by omega)
    have k73 := k7.ext e3 (nS (Same.recol (by omega)) h1 l7 c7)
    have k113 := k11.ext e3 (nS (Same.recol (by omega)) h1 l11 c11)
    have kbw3 := (kbw.ext e2 (by simp)).ext h2 (by intro hx; have := (h1 bw hx).2; simp [recol] at this)
    refine ⟨by rw [C4 k113]; rfl, C2 k73, ?_⟩
    exact app2 G3 col3 bw v3 S (fun x hx hl => by have := (h1 x hx).2; simp only [recol] at this; rw [if_neg (by omega)] at this; exact this) e3 S3' r3 kbw3
theorem View_23 {H : Hp} {col : Nat → Rl} {bf : Nat} {s : Sk} {f : Fab} {line : Int} {Q : RT1} (fa : FabAt H col bf s f) (ok : FabOk f)
    (hn : f.view line = none → ∀ H', Ext [] H H' → Q (.tuple #[.agg (viewC 0 (.slice none 0 0) (.slice none 0 0) .zero false false), .bool false]) H')
    (hs : ∀ V, f.view line = some V → ∀ H' sv dv b1 b2, Ext [] H H' → Slc H' 1 sv (intsC V.state) b1 → Slc H' 4 dv (wordsL V.data) b2 → H.size ≤ b1 → H.size ≤ b2 → b1 ≠ b2 → Q (.tuple #[.agg (viewC line sv dv V.memory V.busy V.puts), .bool true]) H') :
    NCalls Tryz.prog 23 #[at0 bf, .int .i64 line] H Q := by
  refine E23 ?_
  unfold F23_0 F23_29
  refine New_i fun H1 b4 hb4 e1 s1 k4 => ?_
  unfold F23_1 F23_28
  have fa1 := fa.ext0 e1
  have ex9 : ∀ l sv dv m bz pz, (viewC l sv dv m bz pz).size = 9 ∧ (viewC l sv dv m bz pz).extract 0 9 = viewC l sv dv m bz pz := fun l sv dv m bz pz => ⟨rfl, by simp [viewC]⟩
  by_cases hin : line < 0 ∨ line ≥ f.homes.length
  · have hv : f.view line = none := by unfold Fab.view; rw [if_pos hin]
    have go : q (pv Tryz.prog (Instr.build 54 #[])) (fun t24 => St 9 H1 (at0 b4) t24 (fun H_87 => q (LdA 9 H_87 (at0 b4)) fun r_88 => Q (.tuple #[r_88, .bool false]) H_87)) := by
      simp only [bld_54, q_some]
      refine St_i k4 (by simp) (by simp) (by simp) fun H2 e2 s2 k2 => ?_
      have k2' : blk H2 b4 (viewC 0 (.slice none 0 0) (.slice none 0 0) .zero false false) := by simpa [wrL, viewC, Words.zero] using k2
      simp -implicitDefEqProofs only [LdA_some, k2'.cells, (ex9 _ _ _ _ _ _).1, (ex9 _ _ _ _ _ _).2, Nat.zero_add, Nat.le_refl, if_true, Option.map_some, q_some]
      exact hn hv H2 (e1.fresh e2 (by simp; omega))
    rcases hin with h0 | h1
    · simp -implicitDefEqProofs only [Bin_lss_3, h0, decide_true, q_some, gd_bool, Bool.true_eq_false, if_false, Pk_bool, if_true, condV_bool]
      exact go
    · by_cases h0 : line < 0
      · simp -implicitDefEqProofs only [Bin_lss_3, h0, decide_true, q_some, gd_bool, Bool.true_eq_false, if_false, Pk_bool, if_true, condV_bool]
        exact go
      · have h1' : (f.homes.length : Int) ≤ line := h1
        simp -implicitDefEqProofs only [Bin_lss_3, h0, decide_false, q_some, gd_bool, if_true, Nz_some, Fa_some, add_mk, Nat.zero_add, Ld_some, fa1.cHv, fa1.lenH, Bin_geq_3, ge_iff_le, h1', decide_true, Pk_bool, Bool.false_eq_true, if_false, condV_bool]
        exact go
  · have h0 : ¬ line < 0 := by omega
    have h1 : ¬ ((f.homes.length : Int) ≤ line) := by omega
    obtain ⟨h, hh⟩ : ∃ h, f.homes[line.toNat]? = some h := ⟨_, List.getElem?_eq_getElem (by omega)⟩
    have hv := view_eq (by omega) hh
    simp -implicitDefEqProofs only [Bin_lss_3, h0, decide_false, q_some, gd_bool, if_true, Nz_some, Fa_some, add_mk, Nat.zero_add, Ld_some, fa1.cHv, fa1.lenH, Bin_geq_3, ge_iff_le, h1, Pk_bool, Bool.false_eq_true, if_false, condV_bool]
    unfold F23_2 F23_27
    obtain ⟨e, o, b, hix, hcell, hr⟩ := fa1.homeIx hh
    have hih : ((line.toNat : Nat) : Int) = line := by omega
    rw [hih] at hix
    simp -implicitDefEqProofs only [Nz_some, q_some, Fa_some, add_mk, Nat.zero_add, Ld_some, fa1.cHv, hix, hcell]
    unfold F23_3 F23_26
    obtain ⟨bs, bi, ha, _, _, _⟩ := hr
    refine Data_home ha fun H2 e2 => ?_
    have ha2 := ha.ext0 e2
    refine Busy_spec ha2 ?_
    have hbld : pv Tryz.prog (Instr.build 54 #[(0, .int .i64 line), (3, .agg (wordsC h.data)), (4, .bool h.busy)]) = some (.agg (viewC line (.slice none 0 0) (.slice none 0 0) h.data h.busy false)) := by kernel_rfl
    simp -implicitDefEqProofs only [hbld, q_some]
    refine New_i fun H3 b7 hb7 e3 s3 k3 => ?_
    refine St_i k3 (by simp [viewC]) (by simp) (by simp [viewC]) fun H4' e4 s4 k4' => ?_
    have k7 : blk H4' b7 (viewC line (.slice none 0 0) (.slice none 0 0) h.data h.busy false) := by simpa [wrL, viewC] using k4'
    have z1 := e1.size
    have z2 := e2.size
    have z3 := e3.size
    have e24 : Ext [] H1 H4' := (e2.trans e3).fresh e4 (by simp; omega)
    have E4 : Ext [] H H4' := e1.trans e24
    have k44 := k4.ext e24 (by simp)
    have l44 := k44.lt
    unfold F23_4 F23_6 F23_25
    have fa4 := fa.ext0 E4
    simp -implicitDefEqProofs only [Nz_some, q_some, Fa_some, add_mk, Nat.zero_add, Ld_some, fa4.cPv, fa4.lenP]
    unfold F23_7 F23_8
    obtain ⟨col4, hcol4⟩ : ∃ c : Nat → Rl, c = fun _ => .other := ⟨_, rfl⟩
    have c4 : ∀ x, col4 x = .other := by subst hcol4; intro x; rfl
    have c7 := c4 b7
    have hp4 := ok.h1
    refine ⟨fun v43 H' => ∃ (i : Nat) (col' : Nat → Rl) (sv dv : Value), v43 = .int .i64 i ∧ i ≤ f.parts.length ∧ Ext [] H H' ∧ Ext [b7] H4' H' ∧ Same H4' col4 col' ∧ blk H' b7 (viewC line sv dv h.data h.busy ((f.parts.take i).any (puOf line))) ∧ SlR H' col' (.lost 77) 1 sv (intsC ((f.parts.take i).map (stOf line))) ∧ SlR H' col' (.lost 78) 4 dv (wordsL ((f.parts.take i).map (dtOf line))),
      fun v43 _ => f.parts.length - (iv v43).toNat, ⟨0, col4, _, _, rfl, by omega, E4, .refl _ _, Same.refl _ _, by simpa using k7, .inl ⟨rfl, by simp [intsC]⟩, .inl ⟨rfl, by simp [wordsL]⟩⟩, ?_⟩
    rintro v43 H5 ⟨i, col5, sv, dv, rfl, hi, E5, E5b, S5, k75, hs5, hd5⟩
    unfold F23_9 F23_24
    have fa5 := fa.ext0 E5
    by_cases hlt : i < f.parts.length
    · have hlt' : (i : Int) < f.parts.length := by omega
      simp -implicitDefEqProofs only [Bin_lss_3, hlt', decide_true, q_some]
      unfold F23_10 F23_23
      simp -implicitDefEqProofs only [condV_bool, if_true]
      unfold F23_11 F23_13 F23_14 F23_22
      have hp : f.parts[i]? = some f.parts[i] := List.getElem?_eq_getElem hlt
      generalize hpe : f.parts[i] = p at hp
      obtain ⟨bp, hb⟩ := fa5.bpOf hlt
      obtain ⟨hlb, hbe⟩ := List.getElem?_eq_some_iff.1 hb
      obtain ⟨e', o', hix', hcell'⟩ := fa5.partIx hlb
      rw [hbe] at hcell'
      simp -implicitDefEqProofs only [hix', q_some, Ld_some, hcell']
      unfold F23_15 F23_21 F23_16 F23_20
      refine New_i fun H6 b11 hb11 e6 s6 k6 => ?_
      unfold F23_17 F23_19
      have k76 := k75.ext e6 (by simp)
      have fa6 := fa5.ext0 e6
      have z5 := E5.size
      have z5b := E5b.size
      have l7 := k7.lt
      have l75 := k75.lt
      have c5_4 : col5 b7 = .other := (S5 _ l7).trans c7
      have S6 : Same H5 col5 (recol col5 b11 .other) := Same.recol (by omega)
      have c67 : recol col5 b11 .other b7 = .other := by simp only [recol]; rw [if_neg (by omega)]; exact c5_4
      have hs6 := hs5.ext e6 S6 (by simp)
      have hd6 := hd5.ext e6 S6 (by simp)
      have htk : f.parts.take (i + 1) = f.parts.take i ++ [p] := by rw [List.take_succ_eq_append_getElem hlt, hpe]
      -- the row is added
      have row : ∀ (G : Hp) (w : Words) (st : Int) (pz : Bool), Ext [b11, b7] H6 G → blk G b7 (viewC line sv dv h.data h.busy pz) → blk G b11 (wordsC w) → st = stOf line p → w = dtOf line p → pz = ((f.parts.take i).any (puOf line) || puOf line p) →
          F23_18 (.int .i64 line) (at0 b4) (at0 b7) (.int .i64 st) (at0 b11) s.pv (.int .i64 f.parts.length) (.int .i64 i) G (fun m1 m4 m7 m41 m42 m43 H2 => m1 = .int .i64 line ∧ m4 = at0 b4 ∧ m7 = at0 b7 ∧ m41 = s.pv ∧ m42 = .int .i64 f.parts.length ∧ ((∃ (i : Nat) (col' : Nat → Rl) (sv dv : Value), m43 = .int .i64 i ∧ i ≤ f.parts.length ∧ Ext [] H H2 ∧ Ext [b7] H4' H2 ∧ Same H4' col4 col' ∧ blk H2 b7 (viewC line sv dv h.data h.busy ((f.parts.take i).any (puOf line))) ∧ SlR H2 col' (.lost 77) 1 sv (intsC ((f.parts.take i).map (stOf line))) ∧ SlR H2 col' (.lost 78) 4 dv (wordsL ((f.parts.take i).map (dtOf line)))) ∧ f.parts.length - (iv m43).toNat < f.parts.length - (iv (.int .i64 (i : Int))).toNat)) Q := by
        intro G w st pz eG kG7 kG11 hst hw hpz
        have neL : ∀ x ∈ [b11, b7], x < H6.size → recol col5 b11 .other x = .other := by
          intro x hx _; simp at hx
          rcases hx with rfl | rfl
          · simp [recol]
          · exact c67
        refine view_row kG7 kG11 c67 (by simp [recol]) (hs6.ext eG (Same.refl _ _) (by intro x hx hl; rw [neL x hx hl]; simp)) (hd6.ext eG (Same.refl _ _) (by intro x hx hl; rw [neL x hx hl]; simp)) (by simp; omega) (by omega) fun G2 col2 sv2 dv2 S hS eS S2 k2 r1 r2 => ?_
        have zG := eG.size
        have lG7 := kG7.lt
        have lG11 := kG11.lt
        have S42 : Same H4' col4 col2 := (S5.trans (H' := H5) S6 (by omega)).trans (H' := G) S2 (by omega)
        have e62 : Ext [b11, b7] H4' G := (E5b.mono (by simp)).trans ((e6.mono (by simp)).trans eG)
        have eB : Ext [b7] H4' G2 := by
          refine Ext.fresh (S := [b11, b7] ++ S) ?_ ((e62.mono (by intro a ha; exact List.mem_append.2 (.inl ha))).trans (eS.mono (by intro a ha; exact List.mem_append.2 (.inr ha)))) ?_
          · exact .refl _ _
          · intro x hx
            rcases List.mem_append.1 hx with hx | hx
            · simp at hx
              rcases hx with rfl | rfl
              · right; omega
              · left; simp
            · by_cases hxl : x < H4'.size
              · have hxG : x < G.size := by omega
                have hc : recol col5 b11 .other x = col4 x := by simp only [recol]; rw [if_neg (by omega)]; exact S5 x hxl
                rcases hS x hx hxG with h | h | h
                · rw [hc, c4] at h; cases h
                · rw [hc, c4] at h; cases h
                · left; simp [h]
              · right; omega
        refine ⟨rfl, rfl, rfl, rfl, rfl, ⟨i + 1, col2, sv2, dv2, rfl, by omega, ?_, eB, S42, ?_, ?_, ?_⟩, by simp; omega⟩
        · exact E4.fresh eB (by simp; omega)
        · rw [htk, List.any_append]; simpa [← hpz] using k2
        · rw [htk, List.map_append]; simpa [← hst] using r1
        · rw [htk, List.map_append]; simpa [← hw] using r2
      have hpok := ok.pOf hp
      refine line_45 (fa6.ptAt hb hp) (by omega) (fun hnone => ?_) (fun l bl hsome hil => ?_)
      · simp -implicitDefEqProofs only [Bin_neq_111, Option.isNone_none, Bool.not_true, q_some, condV_bool, Bool.false_eq_true, if_false]
        exact row H6 .zero 0 _ (.refl _ _) k76 (by simpa [wordsC, Words.zero] using k6) (by simp [stOf, hnone]) (by simp [dtOf, hnone]) (by simp [puOf, hnone])
      · obtain ⟨_, kl, _⟩ := (fa6.ptAt hb hp).lone (by omega) hsome hil
        simp -implicitDefEqProofs only [Bin_neq_111, Option.isNone_some, Bool.not_false, q_some, condV_bool, if_true]
        refine State_spec kl ?_
        refine Data_spec kl fun H7 e7 => ?_
        have k6' := k6.ext e7 (by simp)
        have k77 := k76.ext e7 (by simp)
        have kl7 := kl.ext e7 (by simp)
        simp -implicitDefEqProofs only [Ex_tuple, List.getElem?_toArray, List.getElem?_cons_zero, List.getElem?_cons_succ, q_some]
        refine St_i k6' (by simp [wordsC]) (by simp) (by simp [wordsC]) fun H8 e8 s8 k8 => ?_
        have k8' : blk H8 b11 (wordsC (lineD l).1) := by simpa [wrL, wordsC] using k8
        have z6 := e6.size
        have k78 := k77.ext e8 (by simp; omega)
        have hbl : bl < H6.size := kl.lt
        have hbl11 : bl ≠ b11 := by
          obtain ⟨cbl, _, _⟩ := ((fa5.new (b := b11) e6 (by omega)).ptAt hb hp).lone (by omega) hsome hil
          intro h2; subst h2; simp [recol] at cbl
        have kl8 := kl7.ext e8 (by simpa using hbl11)
        have c8 : ∀ {G : Hp} {sv dv : Value} {m : Words} {bz pz : Bool}, blk G b7 (viewC line sv dv m bz pz) → cellAt G ⟨b7, 8, none⟩ = some (.bool pz) := fun k => by rw [k.cell]; rfl
        simp -implicitDefEqProofs only [Fa_some, add_mk, Nat.zero_add, q_some, Ld_some, c8 k78]
        have fin3 : ∀ pz, pz = ((f.parts.take i).any (puOf line) || puOf line p) → ∀ pv2, pv2 = .bool pz → St 1 H8 (.pointer (some ⟨b7, 8, none⟩)) pv2 (fun H_58 => F23_18 (.int .i64 line) (at0 b4) (at0 b7) (.int .i64 l.state) (at0 b11) s.pv (.int .i64 f.parts.length) (.int .i64 i) H_58 (fun m1 m4 m7 m41 m42 m43 H2 => m1 = .int .i64 line ∧ m4 = at0 b4 ∧ m7 = at0 b7 ∧ m41 = s.pv ∧ m42 = .int .i64 f.parts.length ∧ ((∃ (i : Nat) (col' : Nat → Rl) (sv dv : Value), m43 = .int .i64 i ∧ i ≤ f.parts.length ∧ Ext [] H H2 ∧ Ext [b7] H4' H2 ∧ Same H4' col4 col' ∧ blk H2 b7 (viewC line sv dv h.data h.busy ((f.parts.take i).any (puOf line))) ∧ SlR H2 col' (.lost 77) 1 sv (intsC ((f.parts.take i).map (stOf line))) ∧ SlR H2 col' (.lost 78) 4 dv (wordsL ((f.parts.take i).map (dtOf line)))) ∧ f.parts.length - (iv m43).toNat < f.parts.length - (iv (.int .i64 (i : Int))).toNat)) Q) := by
          rintro pz hpz pv2 rfl
          refine St_i k78 (by simp) (by simp [viewC]) (by simp) fun H9 e9 s9 k9 => ?_
          have k9' : blk H9 b7 (viewC line sv dv h.data h.busy pz) := by simpa [wrL, viewC] using k9
          refine row H9 (lineD l).1 l.state pz ?_ k9' (k8'.ext e9 (by simp; omega)) (by simp [stOf, hsome]) (by unfold dtOf lineD; rw [hsome]; simp only []; split <;> rfl) hpz
          exact ((e7.mono (by simp)).trans (e8.mono (by simp))).trans (e9.mono (by simp))
        cases hpp : (f.parts.take i).any (puOf line) with
        | true =>
          simp -implicitDefEqProofs only [gd_bool, gl_bool, Bool.true_eq_false, if_false, q_some, Pk_bool, if_true]
          exact fin3 true (by rw [hpp]; rfl) _ rfl
        | false =>
          simp -implicitDefEqProofs only [gd_bool, gl_bool, if_true, q_some]
          refine Waits_spec kl8 ?_
          simp -implicitDefEqProofs only [Bin_eql_3, q_some, Pk_bool, Bool.false_eq_true, if_false]
          exact fin3 (l.waits == 3) (by rw [hpp]; simp [puOf, hsome]) _ rfl
    · have hil : i = f.parts.length := by omega
      subst hil
      rw [List.take_length] at k75 hs5 hd5
      have hlt' : ¬ ((f.parts.length : Int) < f.parts.length) := by omega
      simp -implicitDefEqProofs only [Bin_lss_3, hlt', decide_false, q_some]
      unfold F23_10 F23_23
      simp -implicitDefEqProofs only [condV_bool, Bool.false_eq_true, if_false]
      unfold F23_5
      simp -implicitDefEqProofs only [LdA_some, k75.cells, (ex9 _ _ _ _ _ _).1, (ex9 _ _ _ _ _ _).2, Nat.zero_add, Nat.le_refl, if_true, Option.map_some, q_some]
      have k45 := k44.ext E5b (by simp; omega)
      obtain ⟨ba, hsa, hba⟩ := hs5.blk1 (H5.size + 1)
      obtain ⟨bb, hsb, hbb⟩ := hd5.blk1 (H5.size + 2)
      obtain ⟨aa, capa, hva, _, _⟩ := hsa.shape
      obtain ⟨ab, capb, hvb, _, _⟩ := hsb.shape
      refine St_i k45 (by simp [viewC]) (by simp) (by rw [hva, hvb]; simp [viewC]) fun H6 e6 s6 k6 => ?_
      have k6' : blk H6 b4 (viewC line sv dv h.data h.busy (f.parts.any (puOf line))) := by simpa [wrL, viewC] using k6
      simp -implicitDefEqProofs only [LdA_some, k6'.cells, (ex9 _ _ _ _ _ _).1, (ex9 _ _ _ _ _ _).2, Nat.zero_add, Nat.le_refl, if_true, Option.map_some, q_some]
      have z5 := E5.size
      have z5b := E5b.size
      have low : ∀ x r, r ≠ .other → x < H5.size → col5 x = r → H4'.size ≤ x := by
        intro x r hr hx hc
        apply Classical.byContradiction; intro hlt2
        rw [S5 x (by omega), c4] at hc; exact hr hc.symm
      have la : H4'.size ≤ ba := by rcases hba with ⟨h1, h2⟩ | ⟨h1, _⟩; exact low ba _ (by simp) h1 h2; omega
      have lb : H4'.size ≤ bb := by rcases hbb with ⟨h1, h2⟩ | ⟨h1, _⟩; exact low bb _ (by simp) h1 h2; omega
      have nab : ba ≠ bb := by
        intro h2; subst h2
        rcases hba with ⟨h1, h2⟩ | ⟨h1, _⟩ <;> rcases hbb with ⟨h3, h4⟩ | ⟨h3, _⟩
        · rw [h2] at h4; cases h4
        · omega
        · omega
        · omega
      have := hs _ hv H6 sv dv ba bb (E5.fresh e6 (by simp; omega)) (hsa.ext e6 (by simp; omega)) (hsb.ext e6 (by simp; omega)) (by omega) (by omega) nab
      exact this
end YtacidjifocfhkaaGreatDoor
end Go.Proofs
namespace Go.Pm
set_option maxRecDepth 100000
set_option linter.unusedVariables false
def stl (f : Fab) : Fab := match f.settle 60 with | some g => g.1 | none => f
def stlOk (f : Fab) : Bool := match f.settle 60 with | some g => g.2 | none => false
def stlIs (f : Fab) : Bool := (f.settle 60).isSome
theorem stl_eq {f : Fab} (h : stlIs f = true) : f.settle 60 = some (stl f, stlOk f) := by
  unfold stlIs at h
  unfold stl stlOk
  cases hs : f.settle 60 with
  | none => rw [hs] at h; cases h
  | some g => rfl
def askTo (w : Bool) (f : Fab) : Nat → Fab
  | 0 => f
  | k + 1 => ((askTo w f k).ask k 0 w).1
def readTo (f : Fab) : Nat → Fab
  | 0 => f
  | k + 1 => ((readTo f k).read k 0 4).1
def data64 (ws : List Int) : List Words := (List.range 4).map (lineOf (memNew 64 ws))
namespace First
def g0 : Fab := Fab.new 2 1 1 12 (data64 [])
def g1 : Fab := (g0.ask 0 0 true).1
def g2 : Fab := stl g1
def g3 : Fab := (g2.write 0 0 4 7).1
def g4 : Fab := (g3.read 1 0 4).1
def g5 : Fab := (g4.ask 1 0 false).1
def g6 : Fab := stl g5
theorem a0 : (g0.ask 0 0 true).2 = true := by kernel_rfl
theorem s1 : stlIs g1 = true := by kernel_rfl
theorem o1 : stlOk g1 = true := by kernel_rfl
theorem w2 : (g2.write 0 0 4 7).2 = true := by kernel_rfl
theorem r3 : (g3.read 1 0 4).2.2 = false := by kernel_rfl
theorem a4 : (g4.ask 1 0 false).2 = true := by kernel_rfl
theorem s5 : stlIs g5 = true := by kernel_rfl
theorem r6 : (g6.read 1 0 4).2 = (7, true) := by kernel_rfl
end First
namespace Rd
def f0 (n : Nat) : Fab := Fab.new n 2 2 (6 * n) (data64 [5])
def f1 (n : Nat) : Fab := stl (askTo false (f0 n) n)
def f2 (n : Nat) : Fab := readTo (f1 n) n
def f3 (n : Nat) (v : Int) : Fab := ((f2 n).write ((n : Int) - 1) 0 4 v).1
def f4 (n : Nat) (v : Int) : Fab := ((f3 n v).ask ((n : Int) - 1) 0 true).1
def f5 (n : Nat) (v : Int) : Fab := ((stl (f4 n v)).write ((n : Int) - 1) 0 4 v).1
end Rd
end Go.Pm
namespace Go.Proofs
open Go Go.NW Go.Pm
set_option maxRecDepth 20000
set_option linter.unusedSimpArgs false
set_option linter.unusedVariables false
namespace YtacidjifocfhkaaGreatDoor
structure Like (f g : Fab) (k : Nat) : Prop where
  h : g.homes.length = f.homes.length
  p : g.parts.length = f.parts.length
  n : g.net.next ≤ f.net.next + k
theorem Like.refl (f : Fab) : Like f f 0 := ⟨rfl, rfl, Nat.le_refl _⟩
theorem Like.trans {f g h : Fab} {a b : Nat} (x : Like f g a) (y : Like g h b) : Like f h (a + b) := ⟨y.h.trans x.h, y.p.trans x.p, by have := x.n; have := y.n; omega⟩
theorem Like.mono {f g : Fab} {a b : Nat} (x : Like f g a) (h : a ≤ b) : Like f g b := ⟨x.h, x.p, by have := x.n; omega⟩
theorem like_used (f : Fab) (h addr : Int) : Like f (f.used h addr) 0 := ⟨rfl, by simp [Fab.used, Fab.setPart], Nat.le_refl _⟩
theorem like_read (f : Fab) (h addr size : Int) : Like f (f.read h addr size).1 0 := by
  unfold Fab.read; split
  · exact Like.refl f
  · exact like_used f h addr
theorem like_write (f : Fab) (h addr size v : Int) : Like f (f.write h addr size v).1 0 := by
  unfold Fab.write; split
  · exact Like.refl f
  · exact ⟨rfl, by simp [Fab.used, Fab.setPart], Nat.le_refl _⟩
theorem like_ask {f : Fab} (ok : FabOk f) (h line : Int) (w : Bool) : Like f (f.ask h line w).1 2 := by
  have r0 : Like f f 2 := (Like.refl f).mono (by omega)
  cases ht : f.there h line with
  | false => rw [show f.ask h line w = (f, false) by simp [Fab.ask, ht]]; exact r0
  | true =>
    obtain ⟨p, hp, _⟩ := there_of ht
    rw [ask_eq ht hp]
    split
    · exact r0
    split
    · exact r0
    cases hf : p.fit f.net line with
    | none => exact r0
    | some r =>
      obtain ⟨p', n'⟩ := r
      obtain ⟨_, _, hn⟩ := fit_keeps hf (ok.pOf hp).cache
      have hn' : n'.next ≤ f.net.next + 1 := by
        rcases hn with rfl | ⟨ms, hms, rfl⟩
        · omega
        · obtain ⟨_, _, _, q4, _⟩ := send_next (n := f.net) (ms := ms); omega
      simp only []
      generalize (p'.line line).getD { line := line, hart := h } = l
      unfold asked
      have ha := ask_len l w
      split
      · obtain ⟨_, _, _, q4, _⟩ := send_next (n := n') (ms := (l.ask w).2.1)
        exact ⟨rfl, by simp [Fab.setPart], by show (Net.send _ _).next ≤ _; omega⟩
      · exact ⟨rfl, by simp [Fab.setPart], by show n'.next ≤ _; omega⟩
theorem like_deliver {f g : Fab} {id : Int} (ok : FabOk f) (h : f.deliver? id = some g) : Like f g 9 := by
  refine ⟨?_, ?_, deliver_next ok h⟩ <;>
  · unfold Fab.deliver? at h
    split at h
    · cases h
    · split at h
      · cases h
      · split at h
        · unfold Fab.atHome at h
          simp only [] at h
          split at h
          · cases h
          split at h
          · cases h
          simp at h; subst h; simp
        · unfold Fab.atHart at h
          simp only [] at h
          split at h
          · cases h
          split at h
          · cases h
          simp only [Option.some.injEq] at h
          subst h
          simp [Fab.setPart]
theorem step_deliver {f g : Fab} (h : f.step = some g) : ∃ id, f.deliver? id = some g := by
  unfold Fab.step at h
  obtain ⟨x, _, hx⟩ := List.exists_of_findSome?_eq_some h
  exact ⟨x.id, hx⟩
theorem like_settle : ∀ {n : Nat} {f g : Fab} {r : Bool}, FabOk f → f.settle n = some (g, r) → Like f g (9 * n) ∧ FabOk g
  | 0, f, g, r, _, h => by simp [Fab.settle] at h
  | n + 1, f, g, r, ok, h => by
    simp only [Fab.settle] at h
    split at h
    · simp at h; obtain ⟨rfl, _⟩ := h; exact ⟨(Like.refl _).mono (by omega), ok⟩
    · split at h
      · rename_i g' hg
        obtain ⟨id, hid⟩ := step_deliver hg
        obtain ⟨a, b⟩ := like_settle (ok.deliver hid) h
        exact ⟨((like_deliver ok hid).trans a).mono (by omega), b⟩
      · simp at h; obtain ⟨rfl, _⟩ := h; exact ⟨(Like.refl _).mono (by omega), ok⟩
theorem config_21 {H : Hp} {a b c : Int} {Q : RT1}
    (hq : ∀ H', Ext [] H H' → Q (.agg (confC (a % 4 + 1) (2 ^ (b % 3).toNat) (c % 3 + 1) (6 * (a % 4 + 1)))) H') : NCalls Tryz.prog 21 #[.int .i64 a, .int .i64 b, .int .i64 c] H Q := by
  refine E21 ?_
  unfold F21_0
  refine New_i fun H1 b1 hb1 e1 s1 k1 => ?_
  refine Number_12 (by omega) ?_
  have ha : 0 ≤ a % 4 ∧ a % 4 < 4 := by omega
  have hb : 0 ≤ b % 3 ∧ b % 3 < 3 := by omega
  have hc : 0 ≤ c % 3 ∧ c % 3 < 3 := by omega
  have w1 : IntKind.wrap .i64 (a % 4 + 1) = a % 4 + 1 := w64 (by omega) (by omega)
  have w2 : IntKind.wrap .i64 (c % 3 + 1) = c % 3 + 1 := w64 (by omega) (by omega)
  have w3 : IntKind.wrap .i64 (6 * (a % 4 + 1)) = 6 * (a % 4 + 1) := w64 (by omega) (by omega)
  have wu : IntKind.wrap .u64 (b % 3) = b % 3 := by unfold IntKind.wrap; simp [IntKind.bits, IntKind.signed]; omega
  have ws : IntKind.wrap .i64 (1 * 2 ^ (min (b % 3).toNat (IntKind.bits .i64))) = 2 ^ (b % 3).toNat := by
    have : b % 3 = 0 ∨ b % 3 = 1 ∨ b % 3 = 2 := by omega
    rcases this with h | h | h <;> rw [h] <;> decide
  simp -implicitDefEqProofs only [Bin_add_3, w1, q_some]
  refine Number_12 (by omega) ?_
  simp -implicitDefEqProofs only [cv_3_130, wu, q_some, Bin_shl_3_u64 _ _ _ _ hb.1, ws]
  refine Number_12 (by omega) ?_
  simp -implicitDefEqProofs only [Bin_add_3, w2, q_some, Bin_mul_3, w3, bld_23_0_1_2_3]
  refine St_i k1 (by simp) (by simp) (by simp) fun H2 e2 s2 k2 => ?_
  have k2' : blk H2 b1 (confC (a % 4 + 1) (2 ^ (b % 3).toNat) (c % 3 + 1) (6 * (a % 4 + 1))) := by simpa [wrL, confC] using k2
  simp -implicitDefEqProofs only [LdA_some, k2'.cells, show ∀ x y z w, (confC x y z w).size = 4 from fun _ _ _ _ => rfl, show ∀ x y z w, (confC x y z w).extract 0 4 = confC x y z w from fun _ _ _ _ => by simp [confC], Nat.zero_add, Nat.le_refl, if_true, Option.map_some, q_some]
  exact hq H2 (e1.fresh e2 (by simp; omega))
theorem config_ok (a b c : Int) : confOk (a % 4 + 1) (2 ^ (b % 3).toNat) (c % 3 + 1) (6 * (a % 4 + 1)) = true := by
  have ha : 0 ≤ a % 4 ∧ a % 4 < 4 := by omega
  have hc : 0 ≤ c % 3 ∧ c % 3 < 3 := by omega
  have : b % 3 = 0 ∨ b % 3 = 1 ∨ b % 3 = 2 := by omega
  have hp : pow2 1 = true ∧ pow2 2 = true ∧ pow2 4 = true := by decide
  rcases this with h | h | h <;> rw [h] <;> simp [confOk, shapeOk, hp.1, hp.2.1, hp.2.2] <;> omega
theorem first_9 {H : Hp} {col : Nat → Rl} {Q : RT1} (st : Start H col) (hq : ∀ H', Ext [] H H' → Q (.bool true) H') : NCalls Tryz.prog 9 #[] H Q := by
  refine E9 ?_
  unfold F9_0
  have hb : pv Tryz.prog (Instr.build 23 #[(0, .int .i64 2), (1, .int .i64 1), (2, .int .i64 1), (3, .int .i64 12)]) = some (.agg (confC 2 1 1 12)) := by kernel_rfl
  simp -implicitDefEqProofs only [hb, q_some]
  refine made_22 (n := 64) (ws := []) (bw := 0) st (by decide) (by omega) (Slc.nil _ _ _) (by simp) (by simp) fun H1 col1 bf sk e1 S1 fa1 ok1 => ?_
  have fa1' : FabAt H1 col1 bf sk First.g0 := fa1
  have ok1' : FabOk First.g0 := ok1
  have hh0 : First.g0.homes.length = 4 := by kernel_rfl
  have hn0 : First.g0.net.next = 0 := by kernel_rfl
  simp -implicitDefEqProofs only [Ex_tuple, List.getElem?_toArray, List.getElem?_cons_zero, List.getElem?_cons_succ, q_some, un_not, Bool.not_true, condV_bool, Bool.false_eq_true, if_false]
  refine Ask_16 fa1' ok1' (by omega) fun H2 col2 m2 S2 fa2 => ?_
  rw [First.a0]
  have l1 := like_ask ok1' 0 0 true
  have ok2 : FabOk First.g1 := ok1'.ask (.inl (by omega)) 0 0 true
  have l1n := l1.n
  have fa2' : FabAt H2 col2 bf sk First.g1 := fa2
  refine Settle_19 (N := 60) fa2' ok2 (stl_eq First.s1) (by show First.g1.net.next + _ ≤ _; have : First.g1.net.next ≤ First.g0.net.next + 2 := l1n; omega) fun H3 col3 m3 S3 fa3 ok3 hx3 => ?_
  rw [First.o1]
  have fa3' : FabAt H3 col3 bf sk First.g2 := fa3
  have ok3' : FabOk First.g2 := ok3
  refine Write_20 fa3' ok3' (by unfold U32; omega) (by unfold U32; omega) fun H4 col4 m4 S4 fa4 => ?_
  rw [First.w2]
  have fa4' : FabAt H4 col4 bf sk First.g3 := fa4
  have ok4 : FabOk First.g3 := ok3'.write 0 0 4 7 (by omega) (by unfold U32; omega)
  refine Read_18 fa4' ok4 (by unfold U32; omega) fun H5 col5 m5 S5 fa5 => ?_
  have ok5 : FabOk First.g4 := ok4.read 1 0 4
  have l2 := (like_settle ok2 (stl_eq First.s1)).1
  have l3 := like_write First.g2 0 0 4 7
  have l4 := like_read First.g3 1 0 4
  have L4 : Like First.g0 First.g4 (2 + 9 * 60 + 0 + 0) := ((l1.trans l2).trans l3).trans l4
  have L4h := L4.h
  have L4n := L4.n
  simp -implicitDefEqProofs only [Ex_tuple, List.getElem?_toArray, List.getElem?_cons_zero, List.getElem?_cons_succ, q_some]
  have fa5' : FabAt H5 col5 bf sk First.g4 := fa5
  refine Ask_16 fa5' ok5 (by show First.g4.net.next ≤ _; omega) fun H6 col6 m6 S6 fa6 => ?_
  rw [First.a4]
  have fa6' : FabAt H6 col6 bf sk First.g5 := fa6
  have ok6 : FabOk First.g5 := ok5.ask (.inl (by omega)) 1 0 false
  have l5 := like_ask ok5 1 0 false
  have l5n := l5.n
  refine Settle_19 (N := 60) fa6' ok6 (stl_eq First.s5) (by show First.g5.net.next + _ ≤ _; have : First.g5.net.next ≤ First.g4.net.next + 2 := l5n; omega) fun H7 col7 m7 S7 fa7 ok7 hx7 => ?_
  have fa7' : FabAt H7 col7 bf sk First.g6 := fa7
  have ok7' : FabOk First.g6 := ok7
  refine Read_18 fa7' ok7' (by unfold U32; omega) fun H8 col8 m8 S8 fa8 => ?_
  rw [First.r3, First.r6]
  simp -implicitDefEqProofs
  refine hq H8 ?_
  have z1 := m2.size
  have z2 := m3.size
  have z3 := m4.size
  have z4 := m5.size
  have z5 := m6.size
  have z6 := m7.size
  have T2 : Same H1 col1 col2 := S2
  have T3 := T2.trans (H' := H2) S3 (by omega)
  have T4 := T3.trans (H' := H3) S4 (by omega)
  have T5 := T4.trans (H' := H4) S5 (by omega)
  have T6 := T5.trans (H' := H5) S6 (by omega)
  have T7 := T6.trans (H' := H6) S7 (by omega)
  have M := (((((m2.trans T2 m3).trans T3 m4).trans T4 m5).trans T5 m6).trans T6 m7).trans T7 m8
  have M0 : Mod Rl.mine H col H8 := (Mod.of (R := Rl.mine) e1 (by simp)).trans S1 M
  exact st.stay M0
end YtacidjifocfhkaaGreatDoor
end Go.Proofs
namespace Go.Proofs
open Go Go.NW Go.Pm
set_option maxRecDepth 20000
set_option linter.unusedSimpArgs false
set_option linter.unusedVariables false
namespace YtacidjifocfhkaaGreatDoor
/-- a statement under way: where it began, its fabric -/
structure Law (H0 : Hp) (col0 : Nat → Rl) (H : Hp) (col : Nat → Rl) (bf : Nat) (sk : Sk) (f : Fab) : Prop where
  st : Start H0 col0
  e : Ext [] H0 H
  s : Same H0 col0 col
  fa : FabAt H col bf sk f
  ok : FabOk f
section law
variable {H0 H H' : Hp} {col0 col col' : Nat → Rl} {bf : Nat} {sk : Sk} {f f' : Fab}
theorem Law.step (l : Law H0 col0 H col bf sk f) (m : Mod Rl.mine H col H') (s : Same H col col') (fa : FabAt H' col' bf sk f') (ok : FabOk f') : Law H0 col0 H' col' bf sk f' := by
  have z := l.e.size
  refine ⟨l.st, ⟨Nat.le_trans z m.size, fun x hx _ => ?_⟩, l.s.trans (H' := H) s z, fa, ok⟩
  rw [m.same x (by omega) (by rw [l.s x hx]; rcases l.st.col x with h | h <;> rw [h] <;> rfl)]
  exact l.e.same x hx (by simp)
theorem Law.alloc (l : Law H0 col0 H col bf sk f) (e : Ext [] H H') : Law H0 col0 H' col bf sk f := ⟨l.st, l.e.trans e, l.s, l.fa.ext0 e, l.ok⟩
/-- a block of one's own -/
theorem Law.own (l : Law H0 col0 H col bf sk f) {b : Nat} (e : Ext [] H H') (hb : H.size ≤ b) : Law H0 col0 H' (recol col b .other) bf sk f := by
  have z := l.e.size
  exact ⟨l.st, l.e.trans e, l.s.trans (H' := H) (Same.recol hb) z, l.fa.new e hb, l.ok⟩
theorem Law.own' (l : Law H0 col0 H col bf sk f) (e : Ext [] H H') (s : Same H col col') : Law H0 col0 H' col' bf sk f := by
  have z := l.e.size
  exact ⟨l.st, l.e.trans e, l.s.trans (H' := H) s z, l.fa.ext (R := fun _ => false) (Mod.of e (by simp)) s (by simp), l.ok⟩
/-- what is one's own was written -/
theorem Law.wr (l : Law H0 col0 H col bf sk f) {S : List Nat} (e : Ext S H H') (hS : ∀ x ∈ S, x < H.size → col x = .other ∧ H0.size ≤ x) : Law H0 col0 H' col bf sk f := by
  refine ⟨l.st, ?_, l.s, l.fa.ext (R := fun r => r == .other) (Mod.of e fun x hx hl => by rw [(hS x hx hl).1]; rfl) (Same.refl _ _) (by intro r hr; simpa using hr), l.ok⟩
  refine ⟨Nat.le_trans l.e.size e.size, fun x hx _ => ?_⟩
  have z := l.e.size
  rw [e.same x (by omega) fun hm => by have := (hS x hm (by omega)).2; omega]
  exact l.e.same x hx (by simp)
end law
end YtacidjifocfhkaaGreatDoor
end Go.Proofs
namespace Go.Proofs
open Go Go.NW Go.Pm
set_option maxRecDepth 20000
set_option linter.unusedSimpArgs false
set_option linter.unusedVariables false
namespace YtacidjifocfhkaaGreatDoor
/-- what is in a cache has a state, or waits for one -/
def Alive (p : Part) : Prop := ∀ e ∈ p.cache.all, ∃ l, p.line e.line = some l ∧ (l.state ≠ 0 ∨ l.waits ≠ 0)
def lostL (N : Nat) (p p' : Part) : List Int := ((List.range N).map fun n : Nat => (n : Int)).filter fun n => stOf n p != 0 && stOf n p' == 0
structure Turn (N : Nat) (p p' : Part) : Prop where
  alive : Alive p'
  lost : p'.lost = lostL N p p'
theorem lostL_none {N : Nat} {p p' : Part} (h : ∀ n : Nat, n < N → stOf n p ≠ 0 → stOf n p' ≠ 0) : lostL N p p' = [] := by
  unfold lostL
  rw [List.filter_eq_nil_iff]
  intro x hx
  simp only [List.mem_map, List.mem_range] at hx
  obtain ⟨n, hn, rfl⟩ := hx
  have := h n hn
  simp
  exact this
theorem filter_range (k : Nat) : ∀ N : Nat, ((List.range N).map fun n : Nat => (n : Int)).filter (fun n => n == (k : Int)) = if k < N then [(k : Int)] else []
  | 0 => rfl
  | N + 1 => by
    rw [List.range_succ, List.map_append, List.filter_append, filter_range k N]
    by_cases c : k < N
    · have : ¬ ((N : Int) = (k : Int)) := by omega
      rw [if_pos c, if_pos (by omega)]
      simp [this]
    · rw [if_neg c]
      by_cases c2 : k = N
      · subst c2; simp
      · have : ¬ ((N : Int) = (k : Int)) := by omega
        rw [if_neg (by omega)]
        simp [this]
theorem lostL_one {N k : Nat} {p p' : Part} (hk : k < N) (h1 : stOf k p ≠ 0) (h2 : stOf k p' = 0) (h : ∀ n : Nat, n < N → n ≠ k → stOf n p ≠ 0 → stOf n p' ≠ 0) : lostL N p p' = [(k : Int)] := by
  unfold lostL
  have e : ((List.range N).map fun n : Nat => (n : Int)).filter (fun n => stOf n p != 0 && stOf n p' == 0) = ((List.range N).map fun n : Nat => (n : Int)).filter (fun n => n == (k : Int)) := by
    apply List.filter_congr
    intro x hx
    simp only [List.mem_map, List.mem_range] at hx
    obtain ⟨n, hn, rfl⟩ := hx
    by_cases e : n = k
    · subst e; simp [h1, h2]
    · have h3 : ((n : Int) == (k : Int)) = false := by simp; omega
      rw [h3]
      have := h n hn e
      simp
      exact this
  rw [e, filter_range, if_pos hk]
theorem drop_ne {c : Cache} (g : CacheGood c) (ok : CacheOk c) {line : Int} (h0 : 0 ≤ line) : ∀ e ∈ (c.drop line).all, e ∈ c.all ∧ e.line ≠ line := by
  intro e he
  refine ⟨(keep_drop g ok line).mem e he, ?_⟩
  intro hel
  unfold Cache.drop at he
  have inrow : ∀ {c' : Cache} {j : Nat} {row : List Entry}, c.sets[j]? = some row → e ∈ row → e ∈ c.row line := by
    intro c' j row hj hr
    have := (g.idx j row hj e hr).2
    rw [hel] at this
    have h2 := row_get ok line
    rw [this, hj] at h2
    rw [← Option.some.inj h2]; exact hr
  cases ha : c.at? line with
  | none =>
    rw [ha] at he
    rw [mem_all] at he
    obtain ⟨j, row, hj, hr⟩ := he
    exact at_none h0 ha e (inrow (c' := c) hj hr) hel
  | some k =>
    rw [ha] at he
    obtain ⟨_, x, hx, hxl⟩ := at_some ha
    have hrow := row_get ok line
    have hnd := g.nd _ _ hrow
    simp only [] at he
    rw [mem_all] at he
    obtain ⟨j, row, hj, hr⟩ := he
    simp only [Cache.setRow, List.getElem?_set] at hj
    have hlt : c.idx line < c.sets.length := (List.getElem?_eq_some_iff.1 hrow).1
    -- in the set of the line: not at k
    have not_er : e ∉ (c.row line).eraseIdx k := by
      intro hm
      rw [List.mem_eraseIdx_iff_getElem?] at hm
      obtain ⟨i, hi, hie⟩ := hm
      have hi1 := (List.getElem?_eq_some_iff.1 hie)
      have hk1 := (List.getElem?_eq_some_iff.1 hx)
      apply hi
      have := (List.pairwise_iff_getElem.1 hnd)
      rcases Nat.lt_trichotomy i k with c1 | c1 | c1
      · exact (this i k (by simpa using hi1.1) (by simpa using hk1.1) c1 (by rw [List.getElem_map, List.getElem_map, hi1.2, hk1.2, hel, hxl])).elim
      · exact c1
      · exact (this k i (by simpa using hk1.1) (by simpa using hi1.1) c1 (by rw [List.getElem_map, List.getElem_map, hi1.2, hk1.2, hel, hxl])).elim
    by_cases cj : c.idx line = j
    · rw [if_pos cj, if_pos (by omega)] at hj
      simp at hj; subst hj
      exact not_er hr
    · rw [if_neg cj] at hj
      have := (g.idx j row hj e hr).2
      rw [hel] at this
      exact cj this
theorem stOf_set {p : Part} {k : Int} {l : Lone} (hk : k.toNat < p.lines.length) (h0 : 0 ≤ k) (n : Nat) : stOf n (p.setLine k l) = if (n : Int) = k then l.state else stOf n p := by
  unfold stOf
  rw [line_setLine hk]
  by_cases c : (n : Int) = k
  · rw [if_pos (by omega), if_pos c]
  · rw [if_neg (by omega), if_neg c]
theorem stOf_lines {p p' : Part} (h : p'.lines = p.lines) (n : Int) : stOf n p' = stOf n p := by unfold stOf Part.line; rw [h]
theorem line_lines {p p' : Part} (h : p'.lines = p.lines) (n : Int) : p'.line n = p.line n := by unfold Part.line; rw [h]
theorem Turn.same {N : Nat} {p p' : Part} (hl : p.lost = []) (hl' : p'.lost = []) (ha : Alive p') (h : ∀ n : Nat, n < N → stOf n p ≠ 0 → stOf n p' ≠ 0) : Turn N p p' := ⟨ha, by rw [hl', lostL_none h]⟩
theorem fit_turn {N i : Nat} {p p1 : Part} {net n1 : Net} {line : Int} (po : PartOk N i p) (ha : Alive p) (hl : p.lost = []) (h : p.fit net line = some (p1, n1)) : Turn N p p1 := by
  unfold Part.fit at h
  split at h
  · simp at h; obtain ⟨rfl, rfl⟩ := h; exact .same hl hl ha fun _ _ h => h
  · split at h
    · cases h
    · rename_i e he
      split at h
      · cases h
      · rename_i l hle
        simp at h
        obtain ⟨rfl, rfl⟩ := h
        have hem := victim_mem po.cache he
        obtain ⟨e0, eN, _⟩ := po.ents e hem
        obtain ⟨l', hl', hst⟩ := ha e hem
        rw [hle] at hl'
        obtain rfl := Option.some.inj hl'
        have hbusy : p.busy e.line = false := by
          unfold Cache.victim at he
          split at he
          · cases he
          · have := List.find?_some he
            simp only [Bool.not_eq_true', List.contains_eq_mem, decide_eq_false_iff_not] at this
            cases hb : p.busy e.line with
            | false => rfl
            | true =>
              exfalso; apply this
              unfold Part.places
              rw [List.mem_filter]
              exact ⟨List.mem_map_of_mem hem, hb⟩
        have hw : l.waits = 0 := by
          unfold Part.busy at hbusy
          rw [hle] at hbusy
          simpa using hbusy
        have hs : l.state ≠ 0 := by rcases hst with h | h; exact h; exact absurd hw h
        have he0 : l.evict.1.state = 0 := by
          unfold Lone.evict
          rw [if_neg (by omega)]
          split <;> rfl
        have hlen := po.len
        have hk : e.line.toNat < p.lines.length := by omega
        have hlost : ({ p.setLine e.line l.evict.1 with cache := p.cache.drop e.line } : Part).lost = [] := hl
        have hlose : (({ p.setLine e.line l.evict.1 with cache := p.cache.drop e.line } : Part).lose e.line).lost = [e.line] := by
          unfold Part.lose
          rw [if_neg (by rw [hlost]; simp)]
          show (List.takeWhile _ ({ p.setLine e.line l.evict.1 with cache := p.cache.drop e.line } : Part).lost) ++ e.line :: (List.dropWhile _ ({ p.setLine e.line l.evict.1 with cache := p.cache.drop e.line } : Part).lost) = _
          rw [hlost]; rfl
        have hst2 : ∀ n : Nat, stOf n (({ p.setLine e.line l.evict.1 with cache := p.cache.drop e.line } : Part).lose e.line) = if (n : Int) = e.line then l.evict.1.state else stOf n p := by
          intro n
          rw [stOf_lines lose_lines.1]
          rw [← stOf_set hk e0]
          exact stOf_lines rfl _
        refine ⟨?_, ?_⟩
        · intro x hx
          rw [lose_lines.2] at hx
          obtain ⟨hx1, hx2⟩ := drop_ne po.good po.cache e0 x hx
          obtain ⟨lx, h1, h2⟩ := ha x hx1
          have x0 := (po.ents x hx1).1
          refine ⟨lx, ?_, h2⟩
          rw [line_lose]
          show (p.setLine e.line l.evict.1).line x.line = _
          rw [line_setLine hk, if_neg (by omega), h1]
        · rw [hlose]
          obtain ⟨k, hk2⟩ := Int.eq_ofNat_of_zero_le e0
          have a1 := hst2 k
          rw [if_pos hk2.symm, he0] at a1
          have a2 : stOf k p ≠ 0 := by unfold stOf; rw [← hk2, hle]; exact hs
          rw [lostL_one (k := k) (by omega) a2 a1 (fun n hn hne hs => by rw [hst2, if_neg (by omega)]; exact hs), hk2]
theorem ask_state (l : Lone) (w : Bool) : (l.ask w).1.state = l.state ∧ (l.waits ≠ 0 → (l.ask w).1.waits ≠ 0) ∧ ((l.ask w).2.2 = true → (l.ask w).1.waits ≠ 0) := by
  unfold Lone.ask
  split
  · exact ⟨rfl, fun h => h, fun h => by simp at h⟩
  · cases w <;> exact ⟨rfl, fun _ => by simp, fun _ => by simp⟩
/-- a hart asks -/
theorem asked_turn {N i : Nat} {p p1 : Part} {line h : Int} {w : Bool} (po1 : PartOk N i p1) (t : Turn N p p1) (hline : 0 ≤ line ∧ line < N) :
    Turn N p (p1.setLine line (((p1.line line).getD { line := line, hart := h }).ask w).1) ∧
    ((((p1.line line).getD { line := line, hart := h }).ask w).2.2 = true → Turn N p { p1.setLine line (((p1.line line).getD { line := line, hart := h }).ask w).1 with cache := p1.cache.put { line := line, state := 1 } }) := by
  obtain ⟨k, hk⟩ := Int.eq_ofNat_of_zero_le hline.1
  generalize hl : (p1.line line).getD { line := line, hart := h } = l
  obtain ⟨s1, s2, s3⟩ := ask_state l w
  have hlen := po1.len
  have hkl : line.toNat < p1.lines.length := by omega
  have hst : ∀ n : Nat, stOf n (p1.setLine line (l.ask w).1) = stOf n p1 := by
    intro n
    rw [stOf_set hkl hline.1]
    by_cases c : (n : Int) = line
    · rw [if_pos c, s1, c]
      unfold stOf
      cases hp : p1.line line with
      | none => rw [hp] at hl; rw [← hl]; rfl
      | some l0 => rw [hp] at hl; rw [← hl]; rfl
    · rw [if_neg c]
  have hlost : ∀ p' : Part, p'.lost = p1.lost → (∀ n : Nat, stOf n p' = stOf n p1) → p'.lost = lostL N p p' := by
    intro p' h1 h2
    rw [h1, t.lost]
    unfold lostL
    apply List.filter_congr
    intro x hx
    simp only [List.mem_map, List.mem_range] at hx
    obtain ⟨n, hn, rfl⟩ := hx
    rw [h2]
  have alive : ∀ e ∈ p1.cache.all, ∃ l', (p1.setLine line (l.ask w).1).line e.line = some l' ∧ (l'.state ≠ 0 ∨ l'.waits ≠ 0) := by
    intro e he
    obtain ⟨l', h1, h2⟩ := t.alive e he
    have e0 := (po1.ents e he).1
    by_cases c : line = e.line
    · rw [← c] at h1
      rw [h1] at hl
      obtain rfl : l' = l := hl
      refine ⟨_, by rw [line_setLine hkl, if_pos (by rw [c])], ?_⟩
      rcases h2 with h2 | h2
      · exact .inl (by rw [s1]; exact h2)
      · exact .inr (s2 h2)
    · refine ⟨l', by rw [line_setLine hkl, if_neg (by omega), h1], h2⟩
  refine ⟨⟨alive, hlost _ rfl hst⟩, fun ha => ⟨?_, hlost _ rfl hst⟩⟩
  intro e he
  rcases (keep_put po1.good po1.cache _).mem e he with rfl | he
  · exact ⟨_, by show (p1.setLine line (l.ask w).1).line line = _; rw [line_setLine hkl, if_pos rfl], .inr (s3 ha)⟩
  · exact alive e he
/-- a message comes to a hart -/
theorem hart_turn {N i : Nat} {p : Part} {m : Msg} (po : PartOk N i p) (ha : Alive p) (hl : p.lost = []) (hm : 0 ≤ m.line ∧ m.line < N) : Turn N p (hartPart p m (loneOf p m)) := by
  obtain ⟨k, hk⟩ := Int.eq_ofNat_of_zero_le hm.1
  have hlen := po.len
  have hkl : m.line.toNat < p.lines.length := by omega
  have hs0 : stOf m.line p = (loneOf p m).state := by
    unfold stOf loneOf
    cases p.line m.line <;> rfl
  generalize loneOf p m = l at hs0
  unfold hartPart
  simp only []
  generalize ht : l.take m = t
  have hflag : t.2.2 = true → l.state ≠ 0 ∧ t.1.state = 0 := by
    intro h
    rw [← ht] at h ⊢
    unfold Lone.take at h ⊢
    split at h
    · rename_i c
      rw [if_pos c]
      simpa using h
    · cases h
  have hflag2 : t.2.2 = false → l.state ≠ 0 → t.1.state ≠ 0 := by
    intro h h2
    rw [← ht] at h ⊢
    unfold Lone.take at h ⊢
    split at h
    · rename_i c
      rw [if_pos c]
      simp at h
      exact h h2
    · rename_i c
      rw [if_neg c]; exact h2
  -- behind the lines and what is lost
  have hst1 : ∀ n : Nat, stOf n (p.setLine m.line t.1) = if (n : Int) = m.line then t.1.state else stOf n p := stOf_set hkl hm.1
  have step2 : ∃ p2 : Part, (if t.2.2 = true then (p.setLine m.line t.1).lose m.line else p.setLine m.line t.1) = p2 ∧ p2.lines = (p.setLine m.line t.1).lines ∧ p2.cache = p.cache ∧ p2.lost = lostL N p p2 := by
    cases hf : t.2.2 with
    | true =>
      obtain ⟨f1, f2⟩ := hflag hf
      refine ⟨_, by rw [if_pos rfl], lose_lines.1, lose_lines.2, ?_⟩
      have h1 : ((p.setLine m.line t.1).lose m.line).lost = [m.line] := by
        have h0 : (p.setLine m.line t.1).lost = [] := hl
        unfold Part.lose
        rw [if_neg (by rw [h0]; simp)]
        show (List.takeWhile _ (p.setLine m.line t.1).lost) ++ m.line :: (List.dropWhile _ (p.setLine m.line t.1).lost) = _
        rw [h0]; rfl
      have hst2 : ∀ n : Nat, stOf n ((p.setLine m.line t.1).lose m.line) = if (n : Int) = m.line then t.1.state else stOf n p := fun n => by rw [stOf_lines lose_lines.1, hst1]
      rw [h1, lostL_one (k := k) (by omega) (by rw [← hk, hs0]; exact f1) (by rw [hst2, if_pos hk.symm, f2]) (fun n hn hne hs => by rw [hst2, if_neg (by omega)]; exact hs), hk]
    | false =>
      refine ⟨_, by rw [if_neg (by simp)], rfl, rfl, ?_⟩
      show p.lost = _
      rw [hl, lostL_none]
      intro n hn hs
      rw [hst1]
      by_cases c : (n : Int) = m.line
      · rw [if_pos c]; rw [c, hs0] at hs; exact hflag2 hf hs
      · rw [if_neg c]; exact hs
  obtain ⟨p2, e2, hl2, hc2, hlost2⟩ := step2
  rw [e2]
  have hline2 : ∀ x : Int, p2.line x = if m.line.toNat = x.toNat then some t.1 else p.line x := fun x => by rw [line_lines hl2, line_setLine hkl]
  split
  · rename_i hz
    refine ⟨?_, ?_⟩
    · intro e he
      have he' : e ∈ (p.cache.drop m.line).all := by rw [← hc2]; exact he
      obtain ⟨h1, h2⟩ := drop_ne po.good po.cache hm.1 e he'
      obtain ⟨l', h3, h4⟩ := ha e h1
      have e0 := (po.ents e h1).1
      refine ⟨l', ?_, h4⟩
      show p2.line e.line = _
      rw [hline2, if_neg (by omega), h3]
    · show p2.lost = _
      rw [hlost2]; rfl
  · rename_i hz
    refine ⟨?_, hlost2⟩
    intro e he
    rw [hc2] at he
    obtain ⟨l', h3, h4⟩ := ha e he
    have e0 := (po.ents e he).1
    by_cases c : m.line = e.line
    · exact ⟨t.1, by rw [hline2, if_pos (by rw [c])], by
        by_cases z1 : t.1.state = 0
        · exact .inr fun z2 => hz ⟨z1, z2⟩
        · exact .inl z1⟩
    · exact ⟨l', by rw [hline2, if_neg (by omega), h3], h4⟩
end YtacidjifocfhkaaGreatDoor
end Go.Proofs
namespace Go.Proofs
open Go Go.NW Go.Pm
set_option maxRecDepth 20000
set_option linter.unusedSimpArgs false
set_option linter.unusedVariables false
namespace YtacidjifocfhkaaGreatDoor
def Quiet (f : Fab) : Prop := ∀ (i : Nat) (p : Part), f.parts[i]? = some p → p.lost = [] ∧ Alive p
structure Turned (f g : Fab) : Prop where
  n : g.parts.length = f.parts.length
  h : g.homes.length = f.homes.length
  t : ∀ (i : Nat) (p : Part), f.parts[i]? = some p → ∃ p', g.parts[i]? = some p' ∧ Turn f.homes.length p p'
theorem Turned.same {f g : Fab} (q : Quiet f) (hp : g.parts = f.parts) (hh : g.homes.length = f.homes.length) : Turned f g :=
  ⟨by rw [hp], hh, fun i p hi => ⟨p, by rw [hp]; exact hi, .same (q i p hi).1 (q i p hi).1 (q i p hi).2 fun _ _ h => h⟩⟩
theorem Turned.set {f g : Fab} (q : Quiet f) {i : Nat} {p p' : Part} (hi : f.parts[i]? = some p) (hp : g.parts = f.parts.set i p') (t : Turn f.homes.length p p') (hh : g.homes.length = f.homes.length) : Turned f g := by
  refine ⟨by rw [hp, List.length_set], hh, fun j r hj => ?_⟩
  by_cases c : i = j
  · subst c
    rw [hi] at hj
    obtain rfl := Option.some.inj hj
    exact ⟨p', by rw [hp, List.getElem?_set, if_pos rfl, if_pos (List.getElem?_eq_some_iff.1 hi).1], t⟩
  · exact ⟨r, by rw [hp, List.getElem?_set, if_neg c]; exact hj, .same (q j r hj).1 (q j r hj).1 (q j r hj).2 fun _ _ h => h⟩
theorem ask_turned {f : Fab} (ok : FabOk f) (q : Quiet f) (h line : Int) (w : Bool) : Turned f (f.ask h line w).1 := by
  cases ht : f.there h line with
  | false => rw [show f.ask h line w = (f, false) by simp [Fab.ask, ht]]; exact .same q rfl rfl
  | true =>
    obtain ⟨p, hp, g0, g1, g2, g3⟩ := there_of ht
    have po := ok.pOf hp
    rw [ask_eq ht hp]
    split
    · exact .same q rfl rfl
    split
    · exact .same q rfl rfl
    cases hf : p.fit f.net line with
    | none => exact .same q rfl rfl
    | some r =>
      obtain ⟨p', n'⟩ := r
      obtain ⟨po', _⟩ := fit_ok po hf
      have t0 := fit_turn po (q _ _ hp).2 (q _ _ hp).1 hf
      obtain ⟨t1, t2⟩ := asked_turn (h := h) (w := w) po' t0 ⟨g2, g3⟩
      show Turned f (asked f h line w p' n' ((p'.line line).getD { line := line, hart := h })).1
      unfold asked
      split
      · rename_i ha
        exact .set q hp rfl (t2 ha) rfl
      · exact .set q hp rfl t1 rfl
theorem deliver_turned {f : Fab} (ok : FabOk f) (q : Quiet f) (id : Int) : Turned f (f.deliver id).1 := by
  unfold Fab.deliver
  cases hd : f.deliver? id with
  | none => exact .same q rfl rfl
  | some g =>
    simp only []
    unfold Fab.deliver? at hd
    split at hd
    · cases hd
    · rename_i m hm
      obtain ⟨x, hx, rfl, _⟩ := head_mem hm
      have km := ok.msgs x hx
      split at hd
      · cases hd
      · rename_i hl
        split at hd
        · unfold Fab.atHome at hd
          simp only [] at hd
          split at hd
          · cases hd
          · split at hd
            · cases hd
            · simp at hd
              subst hd
              exact .same q rfl (by simp)
        · rename_i ht
          have hto := to_rng ok km (by omega)
          have hlt : x.msg.to.toNat < f.parts.length := by omega
          have hp : f.parts[x.msg.to.toNat]? = some f.parts[x.msg.to.toNat] := List.getElem?_eq_getElem hlt
          have po := ok.pOf hp
          rw [atHart_eq hp] at hd
          split at hd
          · cases hd
          split at hd
          · cases hd
          simp at hd
          subst hd
          exact .set q hp rfl (hart_turn po (q _ _ hp).2 (q _ _ hp).1 ⟨km.line.1, by omega⟩) rfl
theorem write_turned {f : Fab} (ok : FabOk f) (q : Quiet f) (h addr size v : Int) (ha : 0 ≤ addr) : Turned f (f.write h addr size v).1 := by
  unfold Fab.write
  cases hc : f.can h addr size true with
  | none => exact .same q rfl rfl
  | some l =>
    obtain ⟨ht, hline, hcan, _⟩ := can_there hc
    obtain ⟨p, hp, g0, g1, g2, g3⟩ := there_of ht
    have po := ok.pOf hp
    have hl : p.line (addr / 16) = some l := by unfold Fab.line at hline; rw [part_of hp] at hline; exact hline
    have hlen := po.len
    have hlt : h.toNat < f.parts.length := by omega
    have e1 : f.used h addr = f.setPart h { p with cache := p.cache.use (addr / 16) } := by unfold Fab.used; rw [part_of hp]
    have hp2 : (f.used h addr).parts[h.toNat]? = some { p with cache := p.cache.use (addr / 16) } := by
      rw [e1]; simp [Fab.setPart, hlt]
    simp only []
    rw [part_of hp2]
    have hkl : (addr / 16).toNat < p.lines.length := by omega
    have hs : (l.set (Fab.wrW l.data addr size v)).1.state ≠ 0 := by simp [Lone.set, hcan]
    have hwa : l.state ≠ 0 := by
      unfold Lone.can at hcan
      split at hcan
      · cases hcan
      · omega
    refine .set (p' := ({ p with cache := p.cache.use (addr / 16) } : Part).setLine (addr / 16) (l.set (Fab.wrW l.data addr size v)).1) q hp ?_ ?_ rfl
    · rw [e1]; simp [Fab.setPart]
    · have ku := keep_use po.good po.cache (addr / 16)
      refine .same (q _ _ hp).1 (q _ _ hp).1 ?_ ?_
      · intro e he
        have he' : e ∈ p.cache.all := ku.mem e he
        obtain ⟨l', h1, h2⟩ := (q _ _ hp).2 e he'
        have e0 := (po.ents e he').1
        by_cases c : addr / 16 = e.line
        · exact ⟨_, by rw [line_setLine (p := { p with cache := p.cache.use (addr / 16) }) hkl, if_pos (by rw [c])], .inl hs⟩
        · exact ⟨l', by rw [line_setLine (p := { p with cache := p.cache.use (addr / 16) }) hkl, if_neg (by omega)]; exact h1, h2⟩
      · intro n hn hsn
        rw [stOf_set (p := { p with cache := p.cache.use (addr / 16) }) hkl (by omega)]
        split
        · exact hs
        · exact hsn
theorem Quiet.new {h s w r : Nat} {data : List Words} : Quiet (Fab.new h s w r data) := by
  intro i p hp
  have hp' := List.mem_of_getElem? hp
  simp only [Fab.new] at hp'
  rw [List.eq_of_mem_replicate hp']
  exact ⟨rfl, fun e he => by simp [Cache.all, Cache.new] at he⟩
end YtacidjifocfhkaaGreatDoor
end Go.Proofs
namespace Go.Proofs
open Go Go.NW Go.Pm
set_option maxRecDepth 20000
set_option linter.unusedSimpArgs false
set_option linter.unusedVariables false
namespace YtacidjifocfhkaaGreatDoor
theorem SameInts_26 {H : Hp} {v w : Value} {xs ys : List Int} {b c : Nat} {Q : RT1} (hs : Slc H 1 v (intsC xs) b) (ht : Slc H 1 w (intsC ys) c) (hl : xs.length ≤ 2 ^ 20)
    (hq : Q (.bool (decide (xs = ys))) H) : NCalls Tryz.prog 26 #[v, w] H Q := by
  refine E26 ?_
  unfold F26_0 F26_10 F26_1 F26_9
  obtain ⟨a, cap, hv, hcap, hn⟩ := hs.shape
  obtain ⟨a2, cap2, hv2, hcap2, hn2⟩ := ht.shape
  have hlen := intsC_len xs
  have hlen2 := intsC_len ys
  have hlv : pv Tryz.prog (Builtin.len_ #[49] 0 #[v]) = some (.int .i64 xs.length) := by rw [hv]; simp -implicitDefEqProofs [hlen]
  have hlw : pv Tryz.prog (Builtin.len_ #[49] 0 #[w]) = some (.int .i64 ys.length) := by rw [hv2]; simp -implicitDefEqProofs [hlen2]
  simp -implicitDefEqProofs only [hlv, hlw, q_some, Bin_neq_3, condV_bool]
  by_cases he : xs.length = ys.length
  · have e1 : ((xs.length : Int) != (ys.length : Int)) = false := by simp [he]
    rw [e1]
    simp -implicitDefEqProofs only [Bool.false_eq_true, if_false]
    unfold F26_2 F26_4 F26_8 F26_5 F26_6
    refine ⟨fun v5 H' => H' = H ∧ ∃ i : Nat, v5 = .int .i64 i ∧ i ≤ xs.length ∧ xs.take i = ys.take i, fun v5 _ => xs.length - (iv v5).toNat, ⟨rfl, 0, rfl, by omega, by simp⟩, ?_⟩
    rintro v5 H1 ⟨rfl, i, rfl, hi, hp⟩
    unfold F26_7
    simp -implicitDefEqProofs only [hlv, q_some, Bin_lss_3, condV_bool]
    by_cases hlt : i < xs.length
    · have hlt' : (i : Int) < xs.length := by omega
      have hlt2 : i < ys.length := by omega
      obtain ⟨o, hix, hc⟩ := ints_at hs hlt
      obtain ⟨o2, hix2, hc2⟩ := ints_at ht hlt2
      simp -implicitDefEqProofs only [hlt', decide_true, if_true, hix, hix2, q_some, Ld_some, hc, hc2, Bin_eql_3, un_not, condV_bool]
      by_cases hx : xs[i] = ys[i]
      · have e2 : (xs[i] == ys[i]) = true := by simp [hx]
        have wk : IntKind.wrap .i64 ((i : Int) + 1) = ((i + 1 : Nat) : Int) := by rw [w64 (by omega) (by omega)]; simp
        rw [e2]
        simp -implicitDefEqProofs only [Bool.not_true, Bool.false_eq_true, if_false, Bin_add_3, wk, q_some]
        refine ⟨trivial, trivial, ⟨trivial, i + 1, rfl, by omega, ?_⟩, by simp; omega⟩
        rw [List.take_add_one, List.take_add_one, hp, List.getElem?_eq_getElem hlt, List.getElem?_eq_getElem hlt2, hx]
      · have e2 : (xs[i] == ys[i]) = false := by simp [hx]
        rw [e2]
        simp -implicitDefEqProofs only [Bool.not_false, if_true]
        have : decide (xs = ys) = false := by
          apply decide_eq_false
          intro h
          apply hx
          simp [h]
        rw [this] at hq
        exact hq
    · have hlt' : ¬ (i : Int) < xs.length := by omega
      have hie : i = xs.length := by omega
      simp -implicitDefEqProofs only [hlt', decide_false, Bool.false_eq_true, if_false]
      unfold F26_3
      have : decide (xs = ys) = true := by
        apply decide_eq_true
        rw [hie, List.take_length, he, List.take_length] at hp
        exact hp
      rw [this] at hq
      exact hq
  · have e1 : ((xs.length : Int) != (ys.length : Int)) = true := by simp; omega
    rw [e1]
    simp -implicitDefEqProofs only [if_true]
    have : decide (xs = ys) = false := decide_eq_false fun h => he (by rw [h])
    rw [this] at hq
    exact hq
end YtacidjifocfhkaaGreatDoor
end Go.Proofs
namespace Go.Proofs
open Go Go.NW Go.Pm
set_option maxRecDepth 20000
set_option linter.unusedSimpArgs false
set_option linter.unusedVariables false
namespace YtacidjifocfhkaaGreatDoor
/-- a block of one's own -/
structure Own (H0 H : Hp) (col : Nat → Rl) (b : Nat) (c : Array Value) : Prop where
  ge : H0.size ≤ b
  o : col b = .other
  k : blk H b c
section own
variable {H0 H H' : Hp} {col col' : Nat → Rl} {b : Nat} {c : Array Value}
theorem Own.mod (o : Own H0 H col b c) (m : Mod Rl.mine H col H') (s : Same H col col') : Own H0 H' col' b c := by
  have hl := o.k.lt
  refine ⟨o.ge, (s b hl).trans o.o, ?_⟩
  obtain ⟨T, h⟩ := o.k
  exact ⟨T, (m.same b hl (by rw [o.o]; rfl)).trans h⟩
theorem Own.ext (o : Own H0 H col b c) {S : List Nat} (e : Ext S H H') (hn : b ∉ S) : Own H0 H' col b c := ⟨o.ge, o.o, o.k.ext e hn⟩
theorem Own.cols (o : Own H0 H col b c) (s : Same H col col') : Own H0 H col' b c := ⟨o.ge, (s b o.k.lt).trans o.o, o.k⟩
end own
theorem ints_get {H : Hp} {v : Value} {xs : List Int} {b i : Nat} (hs : Slc H 1 v (intsC xs) b) (hi : i < xs.length) : ∃ p, (∀ k, Ix 1 v (.int k i) = some p) ∧ Ld H p = some (.int .i64 xs[i]) ∧ ∃ a cap, v = .slice a xs.length cap := by
  obtain ⟨o, hix, hc⟩ := ints_at hs hi
  obtain ⟨a, cap, hv, _, _⟩ := hs.shape
  exact ⟨_, hix, hc, a, cap, by rw [hv, intsC_len]⟩
theorem see_5 {H : Hp} {col : Nat → Rl} {bf : Nat} {sk : Sk} {f : Fab} {k n : Nat} {p : Part} {K : RT1} (fa : FabAt H col bf sk f) (ok : FabOk f) (hp : f.parts[k]? = some p) (hn : n < f.homes.length)
    (hK : ∀ H', Ext [] H H' → K (.bool (stOf n p != 0)) H') :
    NCalls Tryz.prog 23 #[(at0 bf), (.int .i64 n)] H (fun t87_78 H_78 =>
    q (Ex 0 t87_78) fun t88_79 =>
    q (Ex 1 t87_78) fun t89_80 =>
    New #[Value.int IntKind.i64 0, Value.slice none 0 0, Value.slice none 0 0, Value.int IntKind.u32 0, Value.int IntKind.u32 0, Value.int IntKind.u32 0, Value.int IntKind.u32 0, Value.bool false, Value.bool false] 54 H_78 (fun t20_81 H_81 =>
    St 9 H_81 t20_81 t88_79 ((fun u_82 H_82 =>
    q (gd t89_80 true (some (.int .i64 k))) fun t94_83 =>
    q (gd t89_80 true (Fa 1 t20_81)) fun t95_84 =>
    q (gd t89_80 true (Ld H_82 t95_84)) fun t96_85 =>
    q (gd t89_80 true (pv Tryz.prog (Builtin.len_ #[49] 0 #[t96_85]))) fun t97_86 =>
    q (gd t89_80 true (Bin Tryz.prog H_82 .lss 3 false t94_83 t97_86)) fun t98_87 =>
    q (Pk t89_80 t98_87 (Value.bool false)) fun t99_88 =>
    q (gd t99_88 true (Fa 1 t20_81)) fun t101_89 =>
    q (gd t99_88 true (Ld H_82 t101_89)) fun t102_90 =>
    q (gd t99_88 true (some (.int .i64 k))) fun t103_91 =>
    q (gd t99_88 true (Ix 1 t102_90 t103_91)) fun t104_92 =>
    q (gd t99_88 true (Ld H_82 t104_92)) fun t105_93 =>
    q (gd t99_88 true (Bin Tryz.prog H_82 .neq 3 true t105_93 (Value.int IntKind.i64 0))) fun t106_94 =>
    q (Pk t99_88 t106_94 (Value.bool false)) fun t107_95 => K t107_95 H_82) undef))) := by
  have hlt := (List.getElem?_eq_some_iff.1 hp).1
  have hview : ∃ h, f.homes[(n : Int).toNat]? = some h := ⟨_, List.getElem?_eq_getElem (by omega)⟩
  obtain ⟨h, hh⟩ := hview
  have hv := view_eq (line := (n : Int)) (by omega) hh
  refine View_23 fa ok (fun hno => by rw [hv] at hno; cases hno) (fun V hV H1 sv dv b1 b2 e1 k1 k2 g1 g2 gne => ?_)
  rw [hv] at hV
  obtain rfl := Option.some.inj hV
  simp -implicitDefEqProofs only [Ex_tuple, List.getElem?_toArray, List.getElem?_cons_zero, List.getElem?_cons_succ, q_some]
  refine New_i fun H2 b hb e2 s2 kb => ?_
  refine St_i kb (by simp [viewC]) (by simp) (by obtain ⟨a1, c1, hv1, _, _⟩ := k1.shape; obtain ⟨a2, c2, hv2, _, _⟩ := k2.shape; rw [hv1, hv2]; rfl) fun H3 e3 s3 kb3 => ?_
  have E3 : Ext [] H H3 := (e1.trans e2).fresh e3 (by simp; have := e1.size; omega)
  obtain ⟨a1, cap1, hv1, _, _⟩ := k1.shape
  have b1lt : b1 < H1.size := k1.lt (by intro hz; have := congrArg List.length hz; simp [intsC] at this; rw [this] at hlt; simp at hlt)
  have k13 : Slc H3 1 sv (intsC (f.parts.map (stOf n))) b1 := (k1.ext e2 (by simp)).ext e3 (by simp; omega)
  have hlen : (f.parts.map (stOf n)).length = f.parts.length := by simp
  obtain ⟨q1, hix, hld, a, cap, hsv⟩ := ints_get k13 (i := k) (by rw [hlen]; exact hlt)
  have kb3' : blk H3 b (viewC n sv dv h.data h.busy (f.parts.any (puOf n))) := by simpa [wrL, viewC] using kb3
  have c1 : cellAt H3 ⟨b, 1, none⟩ = some sv := by rw [kb3'.cell]; simp [viewC]
  have hkl : (k : Int) < (f.parts.length : Int) := by omega
  have hlv : pv Tryz.prog (Builtin.len_ #[49] 0 #[sv]) = some (.int .i64 f.parts.length) := by rw [hsv]; simp -implicitDefEqProofs [hlen]
  have hget : (f.parts.map (stOf n))[k]'(by rw [hlen]; exact hlt) = stOf n p := by
    rw [List.getElem_map]; rw [(List.getElem?_eq_some_iff.1 hp).2]
  rw [hget] at hld
  simp -implicitDefEqProofs only [gd_bool, if_true, q_some, Fa_some, add_mk, Nat.zero_add, Ld_some, c1, hlv, Bin_lss_3, hkl, decide_true, Pk_bool, hix, hld, Bin_neq_3]
  exact hK H3 E3
end YtacidjifocfhkaaGreatDoor
end Go.Proofs
namespace Go.Proofs
open Go Go.NW Go.Pm
set_option maxRecDepth 20000
set_option linter.unusedSimpArgs false
set_option linter.unusedVariables false
namespace YtacidjifocfhkaaGreatDoor
def seenA (p : Part) (n : Nat) : Array Value := ((List.range 8).map fun m : Nat => Value.bool (decide (m < n) && stOf m p != 0)).toArray
theorem seenA_size (p : Part) (n : Nat) : (seenA p n).size = 8 := by simp [seenA]
theorem seenA_get (p : Part) (n m : Nat) (h : m < 8) : (seenA p n)[m]? = some (Value.bool (decide (m < n) && stOf m p != 0)) := by simp [seenA, h]
theorem seenA_next (p : Part) (n : Nat) (h : n < 8) : wrL (seenA p n) n [Value.bool (stOf n p != 0)] = seenA p (n + 1) := by
  apply Array.ext_getElem?
  intro m
  have e1 : wrL (seenA p n) n [Value.bool (stOf n p != 0)] = (seenA p n).setIfInBounds n (Value.bool (stOf n p != 0)) := rfl
  rw [e1, Array.getElem?_setIfInBounds]
  by_cases c : n = m
  · subst c
    rw [if_pos rfl, if_pos (by rw [seenA_size]; exact h), seenA_get p (n + 1) n h]
    simp
  · rw [if_neg c]
    by_cases hm : m < 8
    · rw [seenA_get _ _ _ hm, seenA_get _ _ _ hm]
      have : decide (m < n) = decide (m < n + 1) := by
        by_cases c2 : m < n
        · rw [decide_eq_true c2, decide_eq_true (by omega)]
        · rw [decide_eq_false c2, decide_eq_false (by omega)]
      rw [this]
    · rw [Array.getElem?_eq_none (by rw [seenA_size]; omega), Array.getElem?_eq_none (by rw [seenA_size]; omega)]
theorem fill_5 {H0 H : Hp} {col0 col : Nat → Rl} {bf bv k : Nat} {sk : Sk} {f : Fab} {p : Part} {t3 t10 t13 t14 t15 t16 : Value} {R11 : RT4} {R57 : RT8} {Q : RT1}
    (L : Law H0 col0 H col bf sk f) (h8 : f.homes.length = 8) (hp : f.parts[k]? = some p) (ov : Own H0 H col bv (seenA p 0))
    (hq : ∀ H', Ext [bv] H H' → Law H0 col0 H' col bf sk f → Own H0 H' col bv (seenA p 8) → F5_65 t3 t10 (at0 bf) t13 t14 t15 t16 (.int .i64 k) (.slice (some ⟨bv, 0, none⟩) 8 8) H' R11 R57 Q) :
    F5_66 t3 t10 (at0 bf) t13 t14 t15 t16 (.int .i64 k) (.slice (some ⟨bv, 0, none⟩) 8 8) H R11 R57 Q := by
  unfold F5_66 F5_70 F5_67 F5_68
  refine ⟨fun v19 H' => ∃ n : Nat, v19 = .int .i64 n ∧ n ≤ 8 ∧ Ext [bv] H H' ∧ Law H0 col0 H' col bf sk f ∧ Own H0 H' col bv (seenA p n), fun v19 _ => 8 - (iv v19).toNat, ⟨0, rfl, by omega, Ext.refl _ _, L, ov⟩, ?_⟩
  rintro v19 H1 ⟨n, rfl, hn, e1, L1, o1⟩
  unfold F5_69
  simp -implicitDefEqProofs only [Bin_lss_3, q_some, condV_bool]
  by_cases hlt : n < 8
  · have hlt' : (n : Int) < 8 := by omega
    simp -implicitDefEqProofs only [hlt', decide_true, if_true]
    refine see_5 (n := n) L1.fa L1.ok hp (by omega) fun H2 e2 => ?_
    have o2 := o1.ext e2 (by simp)
    have hix : Ix 1 (.slice (some ⟨bv, 0, none⟩) 8 8) (.int .i64 n) = some (.pointer (some ⟨bv, n, none⟩)) := by
      show (if (0 : Int) ≤ n ∧ (n : Int) < ((8 : Nat) : Int) then some (Value.pointer (some (Addr.add ⟨bv, 0, none⟩ ((n : Int).toNat * 1)))) else none) = _
      rw [if_pos ⟨by omega, by omega⟩]
      simp only [add_mk, Int.toNat_natCast, Nat.mul_one, Nat.zero_add]
    simp -implicitDefEqProofs only [hix, q_some]
    refine St_i o2.k (by rfl) (by rw [seenA_size]; omega) (by rfl) fun H3 e3 s3 k3 => ?_
    have k3' : blk H3 bv (seenA p (n + 1)) := by rw [← seenA_next p n hlt]; exact k3
    have wk : IntKind.wrap .i64 ((n : Int) + 1) = ((n + 1 : Nat) : Int) := by rw [w64 (by omega) (by omega)]; simp
    simp -implicitDefEqProofs only [Bin_add_3, wk, q_some]
    have L3 := (L1.alloc e2).wr e3 (fun x hx _ => by simp at hx; subst hx; exact ⟨o1.o, o1.ge⟩)
    exact ⟨trivial, trivial, trivial, trivial, trivial, trivial, trivial, trivial, trivial, ⟨n + 1, rfl, by omega, (e1.trans (e2.mono (by simp))).trans e3, L3, ⟨o1.ge, o1.o, k3'⟩⟩, by simp; omega⟩
  · have hlt' : ¬ (n : Int) < 8 := by omega
    have hn8 : n = 8 := by omega
    subst hn8
    simp -implicitDefEqProofs only [hlt', decide_false, Bool.false_eq_true, if_false]
    exact hq H1 e1 L1 o1
def wasC (nh : Nat) (bvs : List Nat) : Array Value := (bvs.map (fun b => Value.slice (some ⟨b, 0, none⟩) 8 8) ++ List.replicate (nh - bvs.length) (Value.slice none 0 0)).toArray
structure Was (H0 H : Hp) (col : Nat → Rl) (bw : Nat) (bvs : List Nat) (f : Fab) : Prop where
  w : Own H0 H col bw (wasC f.parts.length bvs)
  len : bvs.length ≤ f.parts.length
  b : ∀ j (hj : j < bvs.length) p, f.parts[j]? = some p → Own H0 H col bvs[j] (seenA p 8)
  ne : bw ∉ bvs
section was
variable {H0 H H' : Hp} {col col' : Nat → Rl} {bw : Nat} {bvs : List Nat} {f : Fab}
theorem Was.mod (o : Was H0 H col bw bvs f) (m : Mod Rl.mine H col H') (s : Same H col col') : Was H0 H' col' bw bvs f := ⟨o.w.mod m s, o.len, fun j hj p hp => (o.b j hj p hp).mod m s, o.ne⟩
theorem Was.ext (o : Was H0 H col bw bvs f) {S : List Nat} (e : Ext S H H') (hn : bw ∉ S) (hs : ∀ x ∈ S, x ∉ bvs) : Was H0 H' col bw bvs f :=
  ⟨o.w.ext e hn, o.len, fun j hj p hp => (o.b j hj p hp).ext e (fun hm => hs _ hm (List.getElem_mem hj)), o.ne⟩
theorem Was.cols (o : Was H0 H col bw bvs f) (s : Same H col col') : Was H0 H col' bw bvs f := ⟨o.w.cols s, o.len, fun j hj p hp => (o.b j hj p hp).cols s, o.ne⟩
end was
theorem wasC_next {nh : Nat} {bvs : List Nat} (b : Nat) (h : bvs.length < nh) : wrL (wasC nh bvs) bvs.length [Value.slice (some ⟨b, 0, none⟩) 8 8] = wasC nh (bvs ++ [b]) := by
  have e1 : wrL (wasC nh bvs) bvs.length [Value.slice (some ⟨b, 0, none⟩) 8 8] = (wasC nh bvs).setIfInBounds bvs.length (Value.slice (some ⟨b, 0, none⟩) 8 8) := rfl
  rw [e1]
  unfold wasC
  rw [List.setIfInBounds_toArray]
  congr 1
  obtain ⟨d, hd⟩ : ∃ d, nh - bvs.length = d + 1 := ⟨nh - bvs.length - 1, by omega⟩
  rw [hd, List.replicate_succ, List.set_append_right _ _ (by simp)]
  simp
  omega
/-- nothing is lost of what has lost nothing -/
theorem quiet_lost {f : Fab} (q : Quiet f) (k : Nat) : f.lostOf k = (f, []) := by
  unfold Fab.lostOf
  split
  · rename_i h
    have hlt : k < f.parts.length := by omega
    have hp : f.parts[(k : Int).toNat]? = some f.parts[k] := by rw [Int.toNat_natCast]; exact List.getElem?_eq_getElem hlt
    rw [part_of hp]
    have hl := (q k _ (List.getElem?_eq_getElem hlt)).1
    rw [hl]
    have e : ({ f.parts[k] with lost := [] } : Part) = f.parts[k] := by
      cases hpk : f.parts[k]; rw [hpk] at hl; simp at hl; subst hl; rfl
    rw [e]
    unfold Fab.setPart
    rw [set_self hp]
  · rfl
end YtacidjifocfhkaaGreatDoor
end Go.Proofs
namespace Go.Proofs
open Go Go.NW Go.Pm
set_option maxRecDepth 20000
set_option linter.unusedSimpArgs false
set_option linter.unusedVariables false
namespace YtacidjifocfhkaaGreatDoor
theorem saw_5 {H0 H : Hp} {col0 col : Nat → Rl} {bf b10 b14 bw : Nat} {sk : Sk} {f : Fab} {s w r : Int} {dC : Array Value} {t3 t13 t15 : Value} {R11 : RT4} {Q : RT1}
    (L : Law H0 col0 H col bf sk f) (qf : Quiet f) (h8 : f.homes.length = 8) (o10 : Own H0 H col b10 (confC f.parts.length s w r)) (o14 : Own H0 H col b14 dC) (ow : Own H0 H col bw (wasC f.parts.length []))
    (n10 : b10 ≠ bw) (n14 : b14 ≠ bw)
    (hq : ∀ H' col' bvs, Law H0 col0 H' col' bf sk f → Own H0 H' col' b10 (confC f.parts.length s w r) → Own H0 H' col' b14 dC → Was H0 H' col' bw bvs f → bvs.length = f.parts.length → F5_20 t3 (at0 b10) (at0 bf) t13 (at0 b14) t15 (.slice (some ⟨bw, 0, none⟩) f.parts.length f.parts.length) H' R11 Q) :
    F5_55 t3 (at0 b10) (at0 bf) t13 (at0 b14) t15 (.slice (some ⟨bw, 0, none⟩) f.parts.length f.parts.length) H R11 Q := by
  have np4 := L.ok.h1
  unfold F5_55 F5_74 F5_56 F5_57
  refine ⟨fun v17 H' => ∃ (k : Nat) (bvs : List Nat) (col' : Nat → Rl), v17 = .int .i64 k ∧ bvs.length = k ∧ k ≤ f.parts.length ∧ Law H0 col0 H' col' bf sk f ∧ Own H0 H' col' b10 (confC f.parts.length s w r) ∧ Own H0 H' col' b14 dC ∧ Was H0 H' col' bw bvs f,
    fun v17 _ => f.parts.length - (iv v17).toNat, ⟨0, [], col, rfl, rfl, by omega, L, o10, o14, ⟨ow, by simp, fun j hj => by simp at hj, by simp⟩⟩, ?_⟩
  rintro v17 H1 ⟨k, bvs, col1, rfl, hbl, hk, L1, p10, p14, W1⟩
  unfold F5_58 F5_73
  have c10 : cellAt H1 ⟨b10, 0, none⟩ = some (.int .i64 f.parts.length) := by rw [p10.k.cell]; rfl
  simp -implicitDefEqProofs only [Fa_some, add_mk, Nat.zero_add, q_some, Ld_some, c10, Bin_lss_3, condV_bool]
  by_cases hlt : k < f.parts.length
  · have hlt' : (k : Int) < f.parts.length := by omega
    simp -implicitDefEqProofs only [hlt', decide_true, if_true]
    unfold F5_59 F5_61 F5_62 F5_72
    refine Lost_24 L1.fa fun H2 v b m2 fa2 _ _ => ?_
    rw [quiet_lost qf k] at fa2
    have L2 := L1.step m2 (Same.refl _ _) fa2 L1.ok
    have q10 := p10.mod m2 (Same.refl _ _)
    have q14 := p14.mod m2 (Same.refl _ _)
    have W2 := W1.mod m2 (Same.refl _ _)
    unfold F5_63 F5_71
    refine makeSlice_i ty_63 (z := .bool false) (by kernel_rfl) (by omega) (Int.le_refl _) (by omega) fun H3 e3 s3 k3 => ?_
    have hp : f.parts[k]? = some f.parts[k] := List.getElem?_eq_getElem hlt
    have hS : Same H2 col1 (recol col1 H2.size .other) := Same.recol (Nat.le_refl _)
    have L3 := L2.own e3 (Nat.le_refl _)
    have hz2 : H0.size ≤ H2.size := L2.e.size
    have ov : Own H0 H3 (recol col1 H2.size .other) H2.size (seenA f.parts[k] 0) := ⟨hz2, by simp [recol], by
      have : ((List.replicate (8 : Int).toNat (Value.cells (.bool false)).toList).flatten).toArray = seenA f.parts[k] 0 := rfl
      rw [← this]; exact k3⟩
    have r10 := (q10.cols hS).ext e3 (by simp)
    have r14 := (q14.cols hS).ext e3 (by simp)
    have W3 := (W2.cols hS).ext e3 (by simp) (by simp)
    have lt10 := q10.k.lt
    have lt14 := q14.k.lt
    have ltw := W2.w.k.lt
    have ltb : ∀ x ∈ bvs, x < H2.size := by
      intro x hx
      obtain ⟨j, hj, rfl⟩ := List.getElem_of_mem hx
      exact (W2.b j hj f.parts[j] (List.getElem?_eq_getElem (by omega))).k.lt
    unfold F5_64
    refine fill_5 L3 h8 hp ov fun H4 e4 L4 o4 => ?_
    have u10 := r10.ext e4 (by simp; omega)
    have u14 := r14.ext e4 (by simp; omega)
    have W4 := W3.ext e4 (by simp; omega) (by intro x hx; simp at hx; subst hx; intro hm; have := ltb _ hm; omega)
    unfold F5_65
    have hix : Ix 1 (.slice (some ⟨bw, 0, none⟩) f.parts.length f.parts.length) (.int .i64 k) = some (.pointer (some ⟨bw, k, none⟩)) := by
      show (if (0 : Int) ≤ k ∧ (k : Int) < ((f.parts.length : Nat) : Int) then some (Value.pointer (some (Addr.add ⟨bw, 0, none⟩ ((k : Int).toNat * 1)))) else none) = _
      rw [if_pos ⟨by omega, by omega⟩]
      simp only [add_mk, Int.toNat_natCast, Nat.mul_one, Nat.zero_add]
    rw [hix, q_some]
    refine St_i W4.w.k (by rfl) (by simp [wasC]; omega) (by rfl) fun H5 e5 s5 k5 => ?_
    have k5' : blk H5 bw (wasC f.parts.length (bvs ++ [H2.size])) := by
      rw [← wasC_next H2.size (by omega), hbl]; exact k5
    have L5 := L4.wr e5 (fun x hx _ => by simp at hx; subst hx; exact ⟨W4.w.o, W4.w.ge⟩)
    unfold F5_60
    have wk : IntKind.wrap .i64 ((k : Int) + 1) = ((k + 1 : Nat) : Int) := by rw [w64 (by omega) (by omega)]; simp
    simp -implicitDefEqProofs only [Bin_add_3, wk, q_some]
    have W5 : Was H0 H5 (recol col1 H2.size .other) bw (bvs ++ [H2.size]) f := by
      refine ⟨⟨W4.w.ge, W4.w.o, k5'⟩, by simp; omega, fun j hj p hpj => ?_, ?_⟩
      · simp only [List.length_append, List.length_cons, List.length_nil] at hj
        by_cases c : j < bvs.length
        · rw [List.getElem_append_left c]
          have := W4.b j c p hpj
          refine this.ext e5 ?_
          have hne := W4.ne
          intro hm
          simp at hm
          exact hne (hm ▸ List.getElem_mem c)
        · have hj' : j = bvs.length := by omega
          subst hj'
          rw [List.getElem_append_right (Nat.le_refl _)]
          simp only [Nat.sub_self, List.getElem_cons_zero]
          rw [hbl, hp] at hpj
          obtain rfl := Option.some.inj hpj
          exact o4.ext e5 (by simp; omega)
      · simp only [List.mem_append, List.mem_singleton]
        rintro (hm | hm)
        · exact W4.ne hm
        · omega
    exact ⟨trivial, trivial, trivial, trivial, trivial, trivial, trivial, ⟨k + 1, bvs ++ [H2.size], _, rfl, by simp [hbl], by omega, L5, u10.ext e5 (by simp; exact n10), u14.ext e5 (by simp; exact n14), W5⟩, by simp; omega⟩
  · have hlt' : ¬ (k : Int) < f.parts.length := by omega
    simp -implicitDefEqProofs only [hlt', decide_false, Bool.false_eq_true, if_false]
    exact hq H1 col1 bvs L1 p10 p14 W1 (by omega)
end YtacidjifocfhkaaGreatDoor
end Go.Proofs
namespace Go.Proofs
open Go Go.NW Go.Pm
set_option maxRecDepth 20000
set_option linter.unusedSimpArgs false
set_option linter.unusedVariables false
namespace YtacidjifocfhkaaGreatDoor
structure Doing where
  kind : Int
  h : Int
  line : Int
  n : Int
  write : Bool
  addr : Int
  v : Int
  size : Int
def doC (d : Doing) : Array Value := #[.int .i64 d.kind, .int .i64 d.h, .int .i64 d.line, .int .i64 d.n, .bool d.write, .int .u32 d.addr, .int .u32 d.v, .int .i64 d.size]
structure Doing.Ok (d : Doing) : Prop where
  a : U32 d.addr
  v : U32 d.v
theorem did_5 {H0 H : Hp} {col0 col : Nat → Rl} {bf b14 : Nat} {sk : Sk} {f : Fab} {d : Doing} {h : Int} {t3 t10 t13 t16 : Value} {R11 : RT4} {Q : RT1}
    (L : Law H0 col0 H col bf sk f) (qf : Quiet f) (h8 : f.homes.length = 8) (o14 : Own H0 H col b14 (doC d)) (ok : d.Ok) (hx : f.net.next ≤ 950)
    (hq : ∀ g H' col', Mod Rl.mine H col H' → Same H col col' → Law H0 col0 H' col' bf sk g → Turned f g → Like f g 9 → F5_21 t3 t10 (at0 bf) t13 t16 H' R11 Q) :
    F5_20 t3 t10 (at0 bf) t13 (at0 b14) (.int .i64 h) t16 H R11 Q := by
  have c : ∀ i, cellAt H ⟨b14, i, none⟩ = (doC d)[i]? := fun i => o14.k.cell i
  have hnl := L.ok.nl
  unfold F5_20 F5_45 F5_54
  simp -implicitDefEqProofs only [Fa_some, add_mk, Nat.zero_add, q_some, Ld_some, c, show (doC d)[0]? = some (.int .i64 d.kind) from rfl]
  unfold F5_46 F5_47 F5_53 F5_48
  simp -implicitDefEqProofs only [Bin_eql_3, q_some, condV_bool]
  have like0 : Like f f 9 := (Like.refl f).mono (by omega)
  by_cases k1 : d.kind = 1
  · have e1 : (d.kind == 1) = true := by simp [k1]
    rw [e1]
    simp -implicitDefEqProofs only [if_true]
    unfold F5_49
    simp -implicitDefEqProofs only [Fa_some, add_mk, Nat.zero_add, q_some, Ld_some, c, show (doC d)[2]? = some (.int .i64 d.line) from rfl, show (doC d)[4]? = some (.bool d.write) from rfl]
    refine Number_12 (by omega) ?_
    simp -implicitDefEqProofs only [Ld_some, c, show (doC d)[4]? = some (.bool d.write) from rfl, true_and]
    refine Ask_16 L.fa L.ok (by omega) fun H1 col1 m1 s1 fa1 => ?_
    have L1 := L.step m1 s1 fa1 (L.ok.ask (.inl (by omega)) h (d.line % 8) d.write)
    exact hq _ H1 col1 m1 s1 L1 (ask_turned L.ok qf _ _ _) ((like_ask L.ok _ _ _).mono (by omega))
  have e1 : (d.kind == 1) = false := by simp [k1]
  rw [e1]
  simp -implicitDefEqProofs only [Bool.false_eq_true, if_false]
  unfold F5_50 F5_52
  simp -implicitDefEqProofs only [Bin_eql_3, q_some, condV_bool]
  have deliver : F5_51 t3 t10 (at0 bf) t13 (at0 b14) (.int .i64 h) t16 (.bool true) H R11 Q := by
    unfold F5_51
    simp -implicitDefEqProofs only [condV_bool, if_true]
    refine Flights_17 L.fa (by omega) fun H1 v b e1 hs hb => ?_
    have L1 := L.alloc e1
    obtain ⟨av, cv, hv, _, _⟩ := hs.shape
    have hll : (flsC f.net.l).length = f.net.l.length := by simp [flsC]
    have hlv : pv Tryz.prog (Builtin.len_ #[38] 0 #[v]) = some (.int .i64 f.net.l.length) := by rw [hv]; simp -implicitDefEqProofs [hll]
    have c1 : cellAt H1 ⟨b14, 3, none⟩ = some (.int .i64 d.n) := by rw [(o14.ext e1 (by simp)).k.cell]; rfl
    simp -implicitDefEqProofs only [hlv, q_some, Bin_gtr_3, condV_bool]
    by_cases hpos : 0 < f.net.l.length
    · have hpos' : (f.net.l.length : Int) > 0 := by omega
      simp -implicitDefEqProofs only [hpos', decide_true, if_true, Fa_some, add_mk, Nat.zero_add, q_some, Ld_some, c1, hlv]
      refine Number_12 (by omega) ?_
      obtain ⟨j, hj⟩ : ∃ j : Nat, d.n % (f.net.l.length : Int) = j := ⟨(d.n % (f.net.l.length : Int)).toNat, by have := Int.emod_nonneg d.n (b := (f.net.l.length : Int)) (by omega); omega⟩
      have hjl : j < f.net.l.length := by have := Int.emod_lt_of_pos d.n (b := (f.net.l.length : Int)) (by omega); omega
      rw [hj]
      obtain ⟨o, hix, hc, _⟩ := hs.at (i := j) (by rw [hll]; exact hjl)
      have hid : cellAt H1 ⟨b, o, none⟩ = some (.int .i64 f.net.l[j].id) := by
        have := hc 0 (by omega)
        simpa [flsC, flightC] using this
      simp -implicitDefEqProofs only [hix, q_some, Fa_some, add_mk, Nat.add_zero, Ld_some, hid]
      have M1 : Mod Rl.mine H col H1 := Mod.of e1 (by simp)
      refine Deliver_25 L1.fa L.ok (by omega) (fun hn H2 e2 => ?_) (fun g hg H2 col2 m2 s2 fa2 => ?_)
      · exact hq f H2 col (M1.trans (Same.refl _ _) (Mod.of e2 (by simp))) (Same.refl _ _) (L1.alloc e2) (.same qf rfl rfl) like0
      · have hd : (f.deliver f.net.l[j].id).1 = g := by unfold Fab.deliver; rw [hg]
        have t := deliver_turned L.ok qf f.net.l[j].id
        rw [hd] at t
        have s2' : Same H col col2 := fun x hx => s2 x (by have := e1.size; omega)
        exact hq g H2 col2 (M1.trans (Same.refl _ _) m2) s2' (L1.step m2 s2 fa2 (L.ok.deliver hg)) t (like_deliver L.ok hg)
    · have hpos' : ¬ (f.net.l.length : Int) > 0 := by omega
      simp -implicitDefEqProofs only [hpos', decide_false, Bool.false_eq_true, if_false]
      exact hq f H1 col (Mod.of e1 (by simp)) (Same.refl _ _) L1 (.same qf rfl rfl) like0
  by_cases k2 : d.kind = 2
  · have e2 : (d.kind == 2) = true := by simp [k2]
    rw [e2]
    simp -implicitDefEqProofs only [if_true]
    exact deliver
  have e2 : (d.kind == 2) = false := by simp [k2]
  rw [e2]
  simp -implicitDefEqProofs only [Bool.false_eq_true, if_false]
  by_cases k3 : d.kind = 3
  · have e3 : (d.kind == 3) = true := by simp [k3]
    rw [e3]
    exact deliver
  have e3 : (d.kind == 3) = false := by simp [k3]
  rw [e3]
  unfold F5_51
  have ha := ok.a
  have hr : (d.addr.tmod 128) = d.addr % 128 := Int.tmod_eq_emod_of_nonneg ha.1
  simp -implicitDefEqProofs only [condV_bool, Bool.false_eq_true, if_false, Fa_some, add_mk, Nat.zero_add, q_some, Ld_some, c, show (doC d)[5]? = some (.int .u32 d.addr) from rfl, show (doC d)[6]? = some (.int .u32 d.v) from rfl, show (doC d)[7]? = some (.int .i64 d.size) from rfl, Bin_rem_40 _ _ _ (128 : Int) (by omega), hr]
  refine Write_20 L.fa L.ok (by unfold U32; omega) ok.v fun H1 col1 m1 s1 fa1 => ?_
  have L1 := L.step m1 s1 fa1 (L.ok.write h (d.addr % 128) d.size d.v (by omega) ok.v)
  exact hq _ H1 col1 m1 s1 L1 (write_turned L.ok qf _ _ _ _ (by omega)) ((like_write f _ _ _ _).mono (by omega))
end YtacidjifocfhkaaGreatDoor
end Go.Proofs
namespace Go.Proofs
open Go Go.NW Go.Pm
set_option maxRecDepth 20000
set_option linter.unusedSimpArgs false
set_option linter.unusedVariables false
namespace YtacidjifocfhkaaGreatDoor
theorem Law.wr2 {H0 H H' : Hp} {col0 col col' : Nat → Rl} {bf : Nat} {sk : Sk} {f : Fab} (l : Law H0 col0 H col bf sk f) {S : List Nat} (e : Ext S H H') (hS : ∀ x ∈ S, x < H.size → col x = .other ∧ H0.size ≤ x) (s : Same H col col') : Law H0 col0 H' col' bf sk f := by
  have z := l.e.size
  refine ⟨l.st, ?_, l.s.trans (H' := H) s z, l.fa.ext (R := fun r => r == .other) (Mod.of e fun x hx hl => by rw [(hS x hx hl).1]; rfl) s (by intro r hr; simpa using hr), l.ok⟩
  refine ⟨Nat.le_trans l.e.size e.size, fun x hx _ => ?_⟩
  rw [e.same x (by omega) fun hm => by have := (hS x hm (by omega)).2; omega]
  exact l.e.same x hx (by simp)
theorem Slc.real {H : Hp} {n : Nat} {v : Value} {xs : List (List Value)} {b : Nat} (h : Slc H n v xs b) (h0 : 0 < H.size) : ∃ b', b' < H.size ∧ Slc H n v xs b' := by
  obtain ⟨h1, ⟨h2, h3⟩ | ⟨o, cap, c, hv, hl, hb, hs, hx⟩⟩ := h
  · exact ⟨0, h0, h1, .inl ⟨h2, h3⟩⟩
  · exact ⟨b, hb.lt, h1, .inr ⟨o, cap, c, hv, hl, hb, hs, hx⟩⟩
def clr1 (k i : Nat) (p : Part) : Part := if i < k then { p with lost := [] } else p
def clr (g : Fab) (k : Nat) : Fab := { g with parts := g.parts.mapIdx (clr1 k) }
theorem clr_get (g : Fab) (k j : Nat) : (clr g k).parts[j]? = (g.parts[j]?).map (clr1 k j) := by simp [clr]
theorem clr_len (g : Fab) (k : Nat) : (clr g k).parts.length = g.parts.length := by simp [clr]
theorem clr_0 (g : Fab) : clr g 0 = g := by
  have : g.parts.mapIdx (clr1 0) = g.parts := by
    apply List.ext_getElem?
    intro i
    rw [List.getElem?_mapIdx]
    cases g.parts[i]? with
    | none => rfl
    | some x => rfl
  unfold clr
  rw [this]
theorem clr1_lines (k i : Nat) (p : Part) : (clr1 k i p).lines = p.lines ∧ (clr1 k i p).cache = p.cache := by unfold clr1; split <;> exact ⟨rfl, rfl⟩
theorem clr_lost {g : Fab} {k : Nat} {p : Part} (hp : g.parts[k]? = some p) : (clr g k).lostOf k = (clr g (k + 1), p.lost) := by
  have hlt := (List.getElem?_eq_some_iff.1 hp).1
  have hk : (clr g k).parts[(k : Int).toNat]? = some p := by rw [Int.toNat_natCast, clr_get, hp]; simp [clr1]
  unfold Fab.lostOf
  rw [if_pos ⟨by omega, by rw [clr_len]; omega⟩, part_of hk]
  congr 1
  unfold Fab.setPart clr
  simp only [Int.toNat_natCast]
  congr 1
  apply List.ext_getElem?
  intro i
  rw [List.getElem?_set]
  simp only [List.length_mapIdx, List.getElem?_mapIdx]
  by_cases c : k = i
  · subst c
    rw [if_pos rfl, if_pos hlt, hp]
    simp [clr1]
  · rw [if_neg c]
    cases g.parts[i]? with
    | none => rfl
    | some x =>
      simp only [Option.map_some, clr1]
      by_cases c2 : i < k
      · rw [if_pos c2, if_pos (by omega)]
      · rw [if_neg c2, if_neg (by omega)]
theorem clr_lost2 {g : Fab} {k : Nat} {p : Part} (hp : g.parts[k]? = some p) : (clr g (k + 1)).lostOf k = (clr g (k + 1), []) := by
  have hlt := (List.getElem?_eq_some_iff.1 hp).1
  have hk : (clr g (k + 1)).parts[(k : Int).toNat]? = some { p with lost := [] } := by rw [Int.toNat_natCast, clr_get, hp]; simp [clr1]
  unfold Fab.lostOf
  rw [if_pos ⟨by omega, by rw [clr_len]; omega⟩, part_of hk]
  unfold Fab.setPart
  rw [set_self hk]
theorem clr_quiet {f g : Fab} (t : Turned f g) : Quiet (clr g g.parts.length) := by
  intro i p hp
  rw [clr_get] at hp
  cases hg : g.parts[i]? with
  | none => rw [hg] at hp; cases hp
  | some x =>
    rw [hg] at hp
    simp only [Option.map_some, Option.some.injEq] at hp
    have hlt := (List.getElem?_eq_some_iff.1 hg).1
    have hltf : i < f.parts.length := by have := t.n; omega
    obtain ⟨p', h1, h2⟩ := t.t i f.parts[i] (List.getElem?_eq_getElem hltf)
    rw [hg] at h1
    obtain rfl := Option.some.inj h1
    subst hp
    refine ⟨by simp [clr1, hlt], ?_⟩
    have := h2.alive
    unfold Alive at this ⊢
    rw [(clr1_lines _ _ _).2]
    intro e he
    obtain ⟨l, a, b⟩ := this e he
    exact ⟨l, by rw [line_lines (clr1_lines _ _ _).1]; exact a, b⟩
theorem lostL_next (n : Nat) (p p' : Part) : lostL (n + 1) p p' = lostL n p p' ++ (if (stOf n p != 0 && stOf n p' == 0) = true then [(n : Int)] else []) := by
  unfold lostL
  rw [List.range_succ, List.map_append, List.filter_append]
  congr 1
  rw [List.map_cons, List.map_nil, List.filter_cons, List.filter_nil]
theorem lostL_len (n : Nat) (p p' : Part) : (lostL n p p').length ≤ n := by
  unfold lostL
  exact Nat.le_trans (List.length_filter_le _ _) (by simp)
/-- what a hart lost, looked for -/
theorem want_5 {H0 H : Hp} {col0 col : Nat → Rl} {bf b10 bw bl k : Nat} {sk : Sk} {f g : Fab} {p p' : Part} {bvs : List Nat} {cC : Array Value} {ls : List Int} {t3 t13 t24 : Value} {R11 : RT4} {R23 : RT6} {Q : RT1}
    (L : Law H0 col0 H col bf sk (clr g (k + 1))) (h8 : g.homes.length = 8) (hp : f.parts[k]? = some p) (hp' : g.parts[k]? = some p') (o10 : Own H0 H col b10 cC) (W : Was H0 H col bw bvs f) (hbv : bvs.length = f.parts.length)
    (hs : Slc H 1 t24 (intsC ls) bl) (hbl : bl < H.size)
    (hq : ∀ H' col' v b, Law H0 col0 H' col' bf sk (clr g (k + 1)) → Own H0 H' col' b10 cC → Was H0 H' col' bw bvs f → Slc H' 1 t24 (intsC ls) bl → Slc H' 1 v (intsC (lostL 8 p p')) b → F5_31 t3 (at0 b10) (at0 bf) t13 (.slice (some ⟨bw, 0, none⟩) f.parts.length f.parts.length) (.int .i64 k) t24 v H' R11 R23 Q) :
    F5_30 t3 (at0 b10) (at0 bf) t13 (.slice (some ⟨bw, 0, none⟩) f.parts.length f.parts.length) (.int .i64 k) t24 (.slice none 0 0) H R11 R23 Q := by
  have hkl := (List.getElem?_eq_some_iff.1 hp).1
  have hlt10 := o10.k.lt
  have hltw := W.w.k.lt
  have hltb : ∀ x ∈ bvs, x < H.size := by
    intro x hx
    obtain ⟨j, hj, rfl⟩ := List.getElem_of_mem hx
    exact (W.b j hj f.parts[j] (List.getElem?_eq_getElem (by omega))).k.lt
  have S0 : Same H col (recol col H.size .other) := Same.recol (Nat.le_refl _)
  unfold F5_30 F5_32 F5_40 F5_33 F5_34
  refine ⟨fun v25 v26 H' => ∃ (n : Nat) (col' : Nat → Rl) (b : Nat), v26 = .int .i64 n ∧ n ≤ 8 ∧ H.size ≤ H'.size ∧ Law H0 col0 H' col' bf sk (clr g (k + 1)) ∧ Own H0 H' col' b10 cC ∧ Was H0 H' col' bw bvs f ∧ Slc H' 1 t24 (intsC ls) bl ∧ Slc H' 1 v25 (intsC (lostL n p p')) b ∧ H.size ≤ b ∧ col' b = .other,
    fun _ v26 _ => 8 - (iv v26).toNat, ⟨0, recol col H.size .other, H.size, rfl, by omega, Nat.le_refl _, L.own' (Ext.refl _ _) S0, o10.cols S0, W.cols S0, hs, Slc.nil _ _ _, Nat.le_refl _, by simp [recol]⟩, ?_⟩
  rintro v25 v26 H1 ⟨n, col1, b, rfl, hn, hz, L1, p10, W1, hs1, hw1, hb, hcb⟩
  unfold F5_35 F5_39
  simp -implicitDefEqProofs only [Bin_lss_3, q_some, condV_bool]
  by_cases hlt : n < 8
  · have hlt' : (n : Int) < 8 := by omega
    simp -implicitDefEqProofs only [hlt', decide_true, if_true]
    unfold F5_36 F5_38
    have hpc : (clr g (k + 1)).parts[k]? = some (clr1 (k + 1) k p') := by rw [clr_get, hp']; rfl
    have hst : ∀ m : Int, stOf m (clr1 (k + 1) k p') = stOf m p' := fun m => stOf_lines (clr1_lines _ _ _).1 m
    refine see_5 (n := n) L1.fa L1.ok hpc (by show n < g.homes.length; omega) fun H2 e2 => ?_
    rw [hst]
    have L2 := L1.alloc e2
    have q10 := p10.ext e2 (by simp)
    have W2 := W1.ext e2 (by simp) (by simp)
    have hs2 := hs1.ext e2 (by simp)
    have hw2 := hw1.ext e2 (by simp)
    have hix : Ix 1 (.slice (some ⟨bw, 0, none⟩) f.parts.length f.parts.length) (.int .i64 k) = some (.pointer (some ⟨bw, k, none⟩)) := by
      show (if (0 : Int) ≤ k ∧ (k : Int) < ((f.parts.length : Nat) : Int) then some (Value.pointer (some (Addr.add ⟨bw, 0, none⟩ ((k : Int).toNat * 1)))) else none) = _
      rw [if_pos ⟨by omega, by omega⟩]
      simp only [add_mk, Int.toNat_natCast, Nat.mul_one, Nat.zero_add]
    have hkb : k < bvs.length := by omega
    have cw : cellAt H2 ⟨bw, k, none⟩ = some (.slice (some ⟨bvs[k], 0, none⟩) 8 8) := by
      rw [W2.w.k.cell]
      unfold wasC
      rw [List.getElem?_toArray, List.getElem?_append_left (by simpa using hkb), List.getElem?_map, List.getElem?_eq_getElem hkb]
      rfl
    have hix2 : Ix 1 (.slice (some ⟨bvs[k], 0, none⟩) 8 8) (.int .i64 n) = some (.pointer (some ⟨bvs[k], n, none⟩)) := by
      show (if (0 : Int) ≤ n ∧ (n : Int) < ((8 : Nat) : Int) then some (Value.pointer (some (Addr.add ⟨bvs[k], 0, none⟩ ((n : Int).toNat * 1)))) else none) = _
      rw [if_pos ⟨by omega, by omega⟩]
      simp only [add_mk, Int.toNat_natCast, Nat.mul_one, Nat.zero_add]
    have cb : cellAt H2 ⟨bvs[k], n, none⟩ = some (.bool (stOf n p != 0)) := by
      rw [(W2.b k hkb p hp).k.cell, seenA_get p 8 n hlt, decide_eq_true hlt]
      rfl
    simp -implicitDefEqProofs only [hix, q_some, Ld_some, cw, hix2, cb]
    have wk : IntKind.wrap .i64 ((n : Int) + 1) = ((n + 1 : Nat) : Int) := by rw [w64 (by omega) (by omega)]; simp
    have hz2 := e2.size
    have hH0 : H0.size ≤ H.size := L.e.size
    have next0 : (stOf n p != 0 && stOf n p' == 0) = false → F5_37 t3 (at0 b10) (at0 bf) t13 (.slice (some ⟨bw, 0, none⟩) f.parts.length f.parts.length) (.int .i64 k) t24 v25 (.int .i64 n) H2 R11 R23 (fun m3 m10 m11 m13 m16 m23 m24 m25 m26 H2 => m3 = t3 ∧ m10 = at0 b10 ∧ m11 = at0 bf ∧ m13 = t13 ∧ m16 = .slice (some ⟨bw, 0, none⟩) f.parts.length f.parts.length ∧ m23 = .int .i64 k ∧ m24 = t24 ∧ ((∃ (n : Nat) (col' : Nat → Rl) (b : Nat), m26 = .int .i64 n ∧ n ≤ 8 ∧ H.size ≤ H2.size ∧ Law H0 col0 H2 col' bf sk (clr g (k + 1)) ∧ Own H0 H2 col' b10 cC ∧ Was H0 H2 col' bw bvs f ∧ Slc H2 1 t24 (intsC ls) bl ∧ Slc H2 1 m25 (intsC (lostL n p p')) b ∧ H.size ≤ b ∧ col' b = .other) ∧ 8 - (iv m26).toNat < 8 - (iv (Value.int .i64 n)).toNat)) Q := by
      intro hf
      unfold F5_37
      simp -implicitDefEqProofs only [Bin_add_3, wk, q_some]
      refine ⟨trivial, trivial, trivial, trivial, trivial, trivial, trivial, ⟨n + 1, col1, b, rfl, by omega, by omega, L2, q10, W2, hs2, ?_, hb, hcb⟩, by simp; omega⟩
      rw [lostL_next, hf]
      simpa using hw2
    cases hA : (stOf n p != 0) with
    | false =>
      simp -implicitDefEqProofs only [gd_bool, Bool.false_eq_true, if_false, q_some, gd_undef, Pk_bool, condV_bool, reduceCtorEq]
      exact next0 (by rw [hA]; rfl)
    | true =>
      simp -implicitDefEqProofs only [gd_bool, if_true, q_some, un_not, Pk_bool, condV_bool]
      cases hB : (stOf n p' != 0) with
      | true =>
        have hB' : (stOf n p' == 0) = false := by simpa using hB
        simp -implicitDefEqProofs only [Bool.not_true, Bool.false_eq_true, if_false]
        exact next0 (by rw [hA, hB']; rfl)
      | false =>
        have hB' : (stOf n p' == 0) = true := by simpa using hB
        simp -implicitDefEqProofs only [Bool.not_false, if_true]
        have bI : bslCells #[.int .i64 0] 1 1 [(0, .int .i64 (n : Int))] = some #[.int .i64 n] := by kernel_rfl
        refine Bsl_i bI fun H3 bi hbi e3 s3 kbi => ?_
        have xI : Slc H3 1 (.slice (some ⟨bi, 0, none⟩) 1 1) (intsC [(n : Int)]) bi := Slc.of (xs := intsC [(n : Int)]) (c := _) (by simp [intsC]) kbi (by simp [intsC]) (by simp) (by simp [intsC])
        have hlen := lostL_len n p p'
        refine append_i ty_49 (hw2.ext e3 (by simp)) xI intsC_one (by rw [intsC_len]; simp [intsC]; omega) fun H4 v4 b4 x4 k4 hb4 => ?_
        have hz3 := e3.size
        have hz4 := x4.size
        have L3 := L2.alloc e3
        have hb4' : H.size ≤ b4 := by rcases hb4 with h | h <;> omega
        -- the colours
        have hcol : ∃ col4, Same H3 col1 col4 ∧ col4 b4 = .other := by
          rcases hb4 with h | h
          · exact ⟨col1, Same.refl _ _, by rw [h]; exact hcb⟩
          · exact ⟨recol col1 b4 .other, Same.recol h, by simp [recol]⟩
        obtain ⟨col4, S4, c4⟩ := hcol
        have L4 := L3.wr2 x4 (fun x hx _ => by simp at hx; subst hx; exact ⟨hcb, by omega⟩) S4
        unfold F5_37
        simp -implicitDefEqProofs only [Bin_add_3, wk, q_some]
        refine ⟨trivial, trivial, trivial, trivial, trivial, trivial, trivial, ⟨n + 1, col4, b4, rfl, by omega, by omega, L4, ((q10.ext e3 (by simp)).cols S4).ext x4 (by simp; omega), ((W2.ext e3 (by simp) (by simp)).cols S4).ext x4 (by simp; omega) (by intro x hx; simp at hx; subst hx; intro hm; have := hltb _ hm; omega), (hs2.ext e3 (by simp)).ext x4 (by simp; omega), ?_, hb4', c4⟩, by simp; omega⟩
        have e : intsC (lostL (n + 1) p p') = intsC (lostL n p p') ++ intsC [(n : Int)] := by
          rw [lostL_next, hA, hB']
          simp [intsC]
        rw [e]
        exact k4
  · have hlt' : ¬ (n : Int) < 8 := by omega
    have hn8 : n = 8 := by omega
    subst hn8
    simp -implicitDefEqProofs only [hlt', decide_false, Bool.false_eq_true, if_false]
    exact hq H1 col1 v25 b L1 p10 W1 hs1 hw1
end YtacidjifocfhkaaGreatDoor
end Go.Proofs
set_option maxRecDepth 100000
namespace Go.Proofs
namespace YtacidjifocfhkaaGreatDoor
open Go Go.NW Go.Pm
open Go.ChangeShapes Go.WideShapes Go.ChangeAt Go.WideMaps Go.WideElems Go.RowKit
/-- a slice of things to do, to read -/
structure DosAt (H : Hp) (v : Value) (l : List Doing) : Prop where
  sh : ∃ a cap, v = .slice a l.length cap
  at' : ∀ i (hi : i < l.length), ∃ p : Addr, (∀ k, Ix 8 v (.int k i) = some (.pointer (some p))) ∧ cellsAt H p 8 = some (doC l[i])
theorem cellsAt_ext {H H' : Hp} {p : Addr} {n : Nat} {c : Array Value} (h : cellsAt H p n = some c) (e : Ext [] H H') : cellsAt H' p n = some c := by
  unfold cellsAt at h ⊢
  cases hb : H[p.block]? with
  | none => simp [hb] at h
  | some o => rw [e.same p.block (get_lt hb) (by simp)]; exact h
theorem DosAt.ext {H H' : Hp} {v : Value} {l : List Doing} (d : DosAt H v l) (e : Ext [] H H') : DosAt H' v l :=
  ⟨d.sh, fun i hi => by obtain ⟨p, h1, h2⟩ := d.at' i hi; exact ⟨p, h1, cellsAt_ext h2 e⟩⟩
theorem cellsAt_of {H : Hp} {p : Addr} {vs : Array Value} (hn : 0 < vs.size) (h : ∀ j, j < vs.size → cellAt H (p.add j) = vs[j]?) : cellsAt H p vs.size = some vs := by
  have h0 := h 0 hn
  obtain ⟨x0, hx0⟩ : ∃ x, vs[0]? = some x := ⟨_, Array.getElem?_eq_getElem hn⟩
  rw [hx0, show p.add 0 = p by simp [Addr.add]] at h0
  obtain ⟨b, o, sp⟩ := p
  cases sp with
  | some s =>
    unfold cellAt at h0
    simp only [Option.isSome_some, if_true] at h0
    split at h0 <;> cases h0
  | none =>
    unfold cellAt at h0
    simp only [Option.isSome_none, Bool.false_eq_true, if_false] at h0
    cases hb : H[b]? with
    | none => rw [hb] at h0; cases h0
    | some ob =>
      cases ob with
      | cells c T fr =>
        have each : ∀ j, j < vs.size → c[o + j]? = vs[j]? := by
          intro j hj
          have := h j hj
          rw [add_mk] at this
          unfold cellAt at this
          simpa [hb] using this
        have hlast := each (vs.size - 1) (by omega)
        rw [Array.getElem?_eq_getElem (by omega : vs.size - 1 < vs.size)] at hlast
        have hle := (Array.getElem?_eq_some_iff.1 hlast).1
        unfold cellsAt
        simp only [hb, Option.isNone_none, Bool.true_and]
        rw [if_pos (by simp; omega)]
        congr 1
        apply Array.ext_getElem?
        intro j
        rw [Array.getElem?_extract]
        by_cases hj : j < vs.size
        · rw [if_pos (by omega)]
          exact each j hj
        · rw [if_neg (by omega), Array.getElem?_eq_none (by omega)]
      | _ => rw [hb] at h0; cases h0
theorem list_of {α : Type} {R : Nat → α → Prop} : ∀ {n : Nat}, (∀ i, i < n → ∃ x, R i x) → ∃ l : List α, l.length = n ∧ ∀ i (h : i < l.length), R i l[i]
  | 0, _ => ⟨[], rfl, fun i h => by simp at h⟩
  | n + 1, h => by
    obtain ⟨l, hl, hr⟩ := list_of (n := n) fun i hi => h i (by omega)
    obtain ⟨x, hx⟩ := h n (by omega)
    refine ⟨l ++ [x], by simp [hl], fun i hi => ?_⟩
    by_cases c : i < l.length
    · rw [List.getElem_append_left c]; exact hr i c
    · have : i = n := by simp at hi; omega
      subst this
      rw [List.getElem_append_right (by omega)]
      simpa [hl] using hx
section
variable {H : Type} {enc : TypeId × Value → H} {W : World}
theorem do_open {n : Nat} {p : Addr} {cs : List Value} {x : DataW H × List MemPlace} (hc : W.cells? 0 p 8 = some cs) (h : DataW.trod enc Tryz.prog W 0 (fun _ => true) true n 60 cs = some x) :
    ∃ d : Doing, d.Ok ∧ cellsAt W.heap p 8 = some (doC d) := by
  obtain ⟨_, hlen, hcell⟩ := World.cells?_some hc
  obtain ⟨xs, k, hk, hxy, _, hxl, hf⟩ := DataW.trod_struct Tryz.underlying60 h
  have c3 : Tryz.prog.cellsOf 3 = 1 := by kernel_rfl
  have c4 : Tryz.prog.cellsOf 4 = 1 := by kernel_rfl
  have c40 : Tryz.prog.cellsOf 40 = 1 := by kernel_rfl
  match xs, hxl, cs, hlen with
  | [y0, y1, y2, y3, y4, y5, y6, y7], _, [v0, v1, v2, v3, v4, v5, v6, v7], _ =>
    have g0 := hf 0 _ rfl
    have g1 := hf 1 _ rfl
    have g2 := hf 2 _ rfl
    have g3 := hf 3 _ rfl
    have g4 := hf 4 _ rfl
    have g5 := hf 5 _ rfl
    have g6 := hf 6 _ rfl
    have g7 := hf 7 _ rfl
    simp only [c3, c4, c40, List.drop_zero, List.drop_succ_cons, List.take_succ_cons, List.take_zero, List.getElem?_cons_zero, List.getElem?_cons_succ] at g0 g1 g2 g3 g4 g5 g6 g7
    obtain ⟨i0, e0, _, _⟩ := DataW.trod_int Tryz.underlying3 g0
    obtain ⟨i1, e1, _, _⟩ := DataW.trod_int Tryz.underlying3 g1
    obtain ⟨i2, e2, _, _⟩ := DataW.trod_int Tryz.underlying3 g2
    obtain ⟨i3, e3, _, _⟩ := DataW.trod_int Tryz.underlying3 g3
    obtain ⟨i4, e4, _⟩ := DataW.trod_bool Tryz.underlying4 g4
    obtain ⟨i5, e5, _, w5⟩ := DataW.trod_int Tryz.underlying40 g5
    obtain ⟨i6, e6, _, w6⟩ := DataW.trod_int Tryz.underlying40 g6
    obtain ⟨i7, e7, _, _⟩ := DataW.trod_int Tryz.underlying3 g7
    have u32 : ∀ i : Int, (Lit.int .u32 i).wf = true → U32 i := by
      intro i wv
      simp only [Lit.wf, IntKind.min, IntKind.max, IntKind.signed, IntKind.bits] at wv
      unfold U32
      simp at wv
      omega
    refine ⟨⟨i0, i1, i2, i3, i4, i5, i6, i7⟩, ⟨u32 _ w5, u32 _ w6⟩, ?_⟩
    refine cellsAt_of (vs := doC ⟨i0, i1, i2, i3, i4, i5, i6, i7⟩) (by simp [doC]) fun j hj => ?_
    have hj8 : j < 8 := hj
    have := hcell j hj8
    rw [List.head_eq_of_cons_eq e0, List.head_eq_of_cons_eq e1, List.head_eq_of_cons_eq e2, List.head_eq_of_cons_eq e3, List.head_eq_of_cons_eq e4, List.head_eq_of_cons_eq e5, List.head_eq_of_cons_eq e6, List.head_eq_of_cons_eq e7] at this
    show W.cell? (p.add j) = _
    rw [this]
    simp [doC]
theorem dos_open {v : Value} {d : DataW H} {ps : List MemPlace} (hval : ∃ o n c, v = .slice o n c) (h : DataW.Trod enc Tryz.prog W 0 (fun _ => true) true 58 v d ps) : ∃ l, DosAt W.heap v l ∧ ∀ d ∈ l, d.Ok := by
  obtain ⟨o, n, c, rfl⟩ := hval
  obtain ⟨fuel, h⟩ := h
  have c60 : Tryz.prog.cellsOf 60 = 8 := by kernel_rfl
  rcases Go.Deep.open_slice Tryz.underlying58 h with ⟨h1, _⟩ | ⟨a, len, cap, m, n', D, Pl, h1, _, hl, _, hm, _, hx⟩
  · simp [Value.cells] at h1
    obtain ⟨rfl, rfl, rfl⟩ := h1
    exact ⟨[], ⟨⟨none, 0, rfl⟩, fun i hi => by simp at hi⟩, by simp⟩
  · simp [Value.cells] at h1
    obtain ⟨rfl, rfl, rfl⟩ := h1
    simp at hm
    rw [c60] at hx
    obtain ⟨l, hll, hr⟩ := list_of (R := fun i d => Doing.Ok d ∧ cellsAt W.heap (a.add (i * 8)) 8 = some (doC d)) (n := n) fun i hi => by
      obtain ⟨cs', h2, h3⟩ := hx i (by omega)
      exact do_open h2 h3
    refine ⟨l, ⟨⟨_, _, by rw [hll]⟩, fun i hi => ⟨a.add (i * 8), fun k => ?_, (hr i hi).2⟩⟩, fun d hd => ?_⟩
    · show (if (0 : Int) ≤ i ∧ (i : Int) < ((n : Nat) : Int) then some (Value.pointer (some (a.add ((i : Int).toNat * 8)))) else none) = _
      rw [if_pos ⟨by omega, by omega⟩, Int.toNat_natCast]
    · obtain ⟨i, hi, rfl⟩ := List.getElem_of_mem hd
      exact (hr i hi).1
end
end YtacidjifocfhkaaGreatDoor
end Go.Proofs
namespace Go.Proofs
open Go Go.NW Go.Pm
set_option maxRecDepth 20000
set_option linter.unusedSimpArgs false
set_option linter.unusedVariables false
namespace YtacidjifocfhkaaGreatDoor
theorem told_5 {H0 H : Hp} {col0 col : Nat → Rl} {bf b10 bw : Nat} {sk : Sk} {f g : Fab} {s w r : Int} {bvs : List Nat} {t3 t13 : Value} {R11 : RT4} {Q : RT1}
    (L : Law H0 col0 H col bf sk g) (T : Turned f g) (h8 : g.homes.length = 8) (o10 : Own H0 H col b10 (confC f.parts.length s w r)) (W : Was H0 H col bw bvs f) (hbv : bvs.length = f.parts.length)
    (hq : ∀ H' col', Law H0 col0 H' col' bf sk (clr g g.parts.length) → Own H0 H' col' b10 (confC f.parts.length s w r) → F5_14 t3 (at0 b10) (at0 bf) t13 H' R11 Q) :
    F5_21 t3 (at0 b10) (at0 bf) t13 (.slice (some ⟨bw, 0, none⟩) f.parts.length f.parts.length) H R11 Q := by
  have hn := T.n
  have hf8 : f.homes.length = 8 := by have := T.h; omega
  have np4 := L.ok.h1
  unfold F5_21 F5_44 F5_22 F5_23
  refine ⟨fun v23 H' => ∃ (k : Nat) (col' : Nat → Rl), v23 = .int .i64 k ∧ k ≤ f.parts.length ∧ Law H0 col0 H' col' bf sk (clr g k) ∧ Own H0 H' col' b10 (confC f.parts.length s w r) ∧ Was H0 H' col' bw bvs f,
    fun v23 _ => f.parts.length - (iv v23).toNat, ⟨0, col, rfl, by omega, by rw [clr_0]; exact L, o10, W⟩, ?_⟩
  rintro v23 H1 ⟨k, col1, rfl, hk, L1, p10, W1⟩
  unfold F5_24 F5_43
  have c10 : cellAt H1 ⟨b10, 0, none⟩ = some (.int .i64 f.parts.length) := by rw [p10.k.cell]; rfl
  simp -implicitDefEqProofs only [Fa_some, add_mk, Nat.zero_add, q_some, Ld_some, c10, Bin_lss_3, condV_bool]
  by_cases hlt : k < f.parts.length
  · have hlt' : (k : Int) < f.parts.length := by omega
    simp -implicitDefEqProofs only [hlt', decide_true, if_true]
    have hp : f.parts[k]? = some f.parts[k] := List.getElem?_eq_getElem hlt
    obtain ⟨p', hp', t⟩ := T.t k _ hp
    unfold F5_25 F5_27 F5_28 F5_42
    refine Lost_24 L1.fa fun H2 v b m2 fa2 hs2 _ => ?_
    have ok2 := L1.ok.lostOf (k : Int)
    rw [clr_lost hp'] at fa2 hs2 ok2
    have L2 := L1.step m2 (Same.refl _ _) fa2 ok2
    have hs2' : Slc H2 1 v (intsC p'.lost) b := hs2
    obtain ⟨bl, hbl, hsl⟩ := Slc.real hs2' (by have := (p10.mod m2 (Same.refl _ _)).k.lt; omega)
    unfold F5_29 F5_41
    refine want_5 L2 h8 hp hp' (p10.mod m2 (Same.refl _ _)) (W1.mod m2 (Same.refl _ _)) hbv hsl hbl fun H3 col3 v3 b3 L3 q10 W3 hs3 hw3 => ?_
    unfold F5_31
    have hlost : p'.lost = lostL 8 f.parts[k] p' := by rw [t.lost, hf8]
    refine SameInts_26 hs3 hw3 (by rw [hlost]; have := lostL_len 8 f.parts[k] p'; omega) ?_
    rw [decide_eq_true hlost]
    simp -implicitDefEqProofs only [un_not, Bool.not_true, q_some, gd_bool, if_true, gl_bool]
    refine Lost_24 L3.fa fun H4 v4 b4 m4 fa4 hs4 _ => ?_
    rw [clr_lost2 hp'] at fa4 hs4
    have L4 := L3.step m4 (Same.refl _ _) fa4 L3.ok
    obtain ⟨a4, c4, hv4, _, _⟩ := hs4.shape
    have hlv : pv Tryz.prog (Builtin.len_ #[49] 0 #[v4]) = some (.int .i64 0) := by rw [hv4]; simp -implicitDefEqProofs [intsC]
    have hne : ((0 : Int) != 0) = false := by decide
    simp -implicitDefEqProofs only [hlv, q_some, Bin_neq_3, hne, Pk_bool, Bool.false_eq_true, if_false, condV_bool]
    unfold F5_26
    have wk : IntKind.wrap .i64 ((k : Int) + 1) = ((k + 1 : Nat) : Int) := by rw [w64 (by omega) (by omega)]; simp
    simp -implicitDefEqProofs only [Bin_add_3, wk, q_some]
    exact ⟨trivial, trivial, trivial, trivial, trivial, ⟨k + 1, col3, rfl, by omega, L4, q10.mod m4 (Same.refl _ _), W3.mod m4 (Same.refl _ _)⟩, by simp; omega⟩
  · have hlt' : ¬ (k : Int) < f.parts.length := by omega
    have hkn : k = g.parts.length := by omega
    simp -implicitDefEqProofs only [hlt', decide_false, Bool.false_eq_true, if_false]
    rw [hkn] at L1
    exact hq H1 col1 L1 p10
theorem Start.recol {H : Hp} {col : Nat → Rl} (st : Start H col) {b : Nat} (hb : H.size ≤ b) : Start H (recol col b .other) := by
  refine ⟨fun x hx => ?_, fun x => ?_⟩
  · obtain ⟨c, h1, t, v, kb, hc⟩ := st.gl x hx
    exact ⟨(Same.recol hb x kb.lt).trans c, h1, t, v, kb, hc⟩
  · unfold YtacidjifocfhkaaGreatDoor.recol
    split
    · exact .inl rfl
    · exact st.col x
theorem Lost_5 {H : Hp} {col : Nat → Rl} {a b c : Int} {t3 : Value} {l : List Doing} {Q : RT1} (st : Start H col) (hs : DosAt H t3 l) (hd : ∀ d ∈ l, d.Ok) (hq : ∀ H', Ext [] H H' → Q (.bool true) H') :
    NCalls Tryz.prog 5 #[.int .i64 a, .int .i64 b, .int .i64 c, t3] H Q := by
  have hlv : ∀ {G : Hp}, pv Tryz.prog (Builtin.len_ #[58] 0 #[t3]) = some (.int .i64 l.length) := by
    intro G
    obtain ⟨av, cv, hv⟩ := hs.sh
    rw [hv]; simp -implicitDefEqProofs
  refine E5 ?_
  unfold F5_0 F5_86 F5_1 F5_85
  refine first_9 st fun H1 e1 => ?_
  unfold F5_2 F5_84
  simp -implicitDefEqProofs only [un_not, Bool.not_true, q_some, condV_bool, Bool.false_eq_true, if_false]
  unfold F5_3 F5_83
  simp -implicitDefEqProofs only [hlv (G := H1), q_some, Bin_gtr_3]
  by_cases h100 : l.length ≤ 100
  case neg =>
    have h' : (l.length : Int) > 100 := by omega
    simp -implicitDefEqProofs only [h', decide_true, gd_bool, reduceCtorEq, if_false, q_some, gd_undef, Pk_bool, if_true, condV_bool, Bool.true_eq_false]
    exact hq H1 e1
  have h' : ¬ (l.length : Int) > 100 := by omega
  simp -implicitDefEqProofs only [h', decide_false, gd_bool, if_true, q_some, un_not, Bool.not_true, Pk_bool, Bool.false_eq_true, if_false, condV_bool]
  unfold F5_4 F5_82
  refine config_21 fun H2 e2 => ?_
  refine New_i fun H3 b10 hb10 e3 s3 k3 => ?_
  refine St_i k3 (by simp [confC]) (by simp) (by simp [confC]) fun H4 e4 s4 k4 => ?_
  have ha4 : 0 ≤ a % 4 ∧ a % 4 < 4 := by omega
  obtain ⟨nh, hnh⟩ : ∃ nh : Nat, a % 4 + 1 = nh := ⟨(a % 4 + 1).toNat, by omega⟩
  have k4' : blk H4 b10 (confC (a % 4 + 1) (2 ^ (b % 3).toNat) (c % 3 + 1) (6 * (a % 4 + 1))) := by simpa [wrL, confC] using k4
  have hconf := config_ok a b c
  rw [hnh] at k4' hconf
  generalize hs1 : (2 : Int) ^ (b % 3).toNat = s1 at k4' hconf
  generalize hw1 : c % 3 + 1 = w1 at k4' hconf
  generalize hr1 : 6 * (nh : Int) = r1 at k4' hconf
  have z1 := e1.size
  have z2 := e2.size
  have E4 : Ext [] H H4 := ((e1.trans e2).trans e3).fresh e4 (by simp; omega)
  have stR := st.recol (b := b10) (by omega)
  have st4 := stR.ext E4
  have exC : ∀ x y z w, (confC x y z w).size = 4 ∧ (confC x y z w).extract 0 4 = confC x y z w := fun _ _ _ _ => ⟨rfl, by simp [confC]⟩
  unfold F5_5 F5_81
  simp -implicitDefEqProofs only [LdA_some, k4'.cells, (exC _ _ _ _).1, (exC _ _ _ _).2, Nat.zero_add, Nat.le_refl, if_true, Option.map_some, q_some]
  refine made_22 (n := 128) (ws := []) (bw := 0) st4 hconf (by omega) (Slc.nil _ _ _) (by simp) (by simp) fun H6 col6 bf sk e6 S6 fa6 ok6 => ?_
  have hnh' : (nh : Int).toNat = nh := by omega
  generalize hf0 : Fab.new (nh : Int).toNat s1.toNat w1.toNat r1.toNat ((List.range (128 / 16)).map (lineOf (memNew 128 []))) = f0 at fa6 ok6
  have hp0 : f0.parts.length = nh := by rw [← hf0, hnh']; simp [Fab.new]
  have hh0 : f0.homes.length = 8 := by rw [← hf0]; simp [Fab.new]
  have hx0 : f0.net.next = 0 := by rw [← hf0]; rfl
  have q0 : Quiet f0 := by rw [← hf0]; exact Quiet.new
  have z4 := E4.size
  have L6 : Law H (recol col b10 .other) H6 col6 bf sk f0 := ⟨stR, E4.trans e6, fun x hx => S6 x (by omega), fa6, ok6⟩
  have o6 : Own H H6 col6 b10 (confC nh s1 w1 r1) := ⟨by omega, (S6 b10 k4'.lt).trans (by simp [recol]), k4'.ext e6 (by simp)⟩
  simp -implicitDefEqProofs only [Ex_tuple, List.getElem?_toArray, List.getElem?_cons_zero, List.getElem?_cons_succ, q_some]
  unfold F5_6 F5_80
  simp -implicitDefEqProofs only [un_not, Bool.not_true, q_some, condV_bool, Bool.false_eq_true, if_false]
  unfold F5_7 F5_9 F5_79 F5_10 F5_11
  refine ⟨fun v13 H' => ∃ (i : Nat) (col' : Nat → Rl) (f : Fab), v13 = .int .i64 i ∧ i ≤ l.length ∧ Law H (recol col b10 .other) H' col' bf sk f ∧ Own H H' col' b10 (confC nh s1 w1 r1) ∧ Quiet f ∧ f.parts.length = nh ∧ f.homes.length = 8 ∧ f.net.next ≤ 9 * i,
    fun v13 _ => l.length - (iv v13).toNat, ⟨0, col6, f0, rfl, by omega, L6, o6, q0, hp0, hh0, by omega⟩, ?_⟩
  rintro v13 H7 ⟨i, col7, f, rfl, hi, L7, o7, qf, hpn, h8, hx⟩
  unfold F5_12 F5_78
  simp -implicitDefEqProofs only [hlv (G := H7), q_some, Bin_lss_3, condV_bool]
  by_cases hlt : i < l.length
  · have hlt' : (i : Int) < l.length := by omega
    simp -implicitDefEqProofs only [hlt', decide_true, if_true]
    obtain ⟨o, hix, hcs⟩ := (hs.ext L7.e).at' i hlt
    have hdo := hd l[i] (List.getElem_mem hlt)
    generalize l[i] = d at hcs hdo
    unfold F5_13 F5_15 F5_16 F5_77
    simp -implicitDefEqProofs only [hix, q_some, LdA_some, hcs, Option.map_some]
    refine New_i fun H8 b14 hb14 e8 s8 k8 => ?_
    have S8 : Same H7 col7 (recol col7 b14 .other) := Same.recol (by omega)
    have L8 := L7.own e8 (Nat.le_of_eq hb14.symm)
    have o8 := (o7.cols S8).ext e8 (by simp)
    have lt7 := o7.k.lt
    refine St_i k8 (by rfl) (by simp) (by rfl) fun H9 e9 s9 k9 => ?_
    have k9' : blk H9 b14 (doC d) := by simpa [wrL, doC] using k9
    have L9 := L8.wr e9 (fun x hx _ => by simp at hx; subst hx; exact ⟨by simp [recol], by have := L7.e.size; omega⟩)
    have o9 := o8.ext e9 (by simp; omega)
    have o14 : Own H H9 (recol col7 b14 .other) b14 (doC d) := ⟨by have := L7.e.size; omega, by simp [recol], k9'⟩
    unfold F5_17 F5_76
    have c10 : cellAt H9 ⟨b10, 0, none⟩ = some (.int .i64 nh) := by rw [o9.k.cell]; rfl
    have c14 : cellAt H9 ⟨b14, 1, none⟩ = some (.int .i64 d.h) := by rw [k9'.cell]; rfl
    simp -implicitDefEqProofs only [Fa_some, add_mk, Nat.zero_add, q_some, Ld_some, c10, c14]
    refine Number_12 (by omega) ?_
    unfold F5_18 F5_75
    simp -implicitDefEqProofs only [Fa_some, add_mk, Nat.zero_add, q_some, Ld_some, c10]
    refine makeSlice_i ty_61 (z := .slice none 0 0) (by kernel_rfl) (by omega) (Int.le_refl _) (by omega) fun Ha ea sa ka => ?_
    have Sa : Same H9 (recol col7 b14 .other) (recol (recol col7 b14 .other) H9.size .other) := Same.recol (Nat.le_refl _)
    have La := L9.own ea (Nat.le_refl _)
    have oa := (o9.cols Sa).ext ea (by simp)
    have oa14 := (o14.cols Sa).ext ea (by simp)
    have lt9 := o9.k.lt
    have lt14 := o14.k.lt
    have ow : Own H Ha (recol (recol col7 b14 .other) H9.size .other) H9.size (wasC f.parts.length []) := ⟨L9.e.size, by simp [recol], by
      have : ((List.replicate (nh : Int).toNat (Value.cells (.slice none 0 0)).toList).flatten).toArray = wasC f.parts.length [] := by
        rw [hpn]
        simp [wasC]
      rw [← this]; exact ka⟩
    unfold F5_19
    rw [show (nh : Int).toNat = f.parts.length by omega]
    rw [← hpn] at oa
    refine saw_5 La qf h8 oa oa14 ow (by omega) (by omega) fun Hb colb bvs Lb pb10 pb14 Wb hbv => ?_
    refine did_5 Lb qf h8 pb14 hdo (by omega) fun g Hc colc mc Sc Lc T lk => ?_
    have hT8 := T.h
    have hTn := T.n
    refine told_5 Lc T (by omega) (pb10.mod mc Sc) (Wb.mod mc Sc) hbv fun Hd cold Ld pd10 => ?_
    unfold F5_14
    have wk : IntKind.wrap .i64 ((i : Int) + 1) = ((i + 1 : Nat) : Int) := by rw [w64 (by omega) (by omega)]; simp
    simp -implicitDefEqProofs only [Bin_add_3, wk, q_some]
    have lkn := lk.n
    rw [hpn] at pd10
    exact ⟨trivial, trivial, trivial, ⟨i + 1, cold, clr g g.parts.length, rfl, by omega, Ld, pd10, clr_quiet T, by rw [clr_len]; omega, by show g.homes.length = 8; omega, by show g.net.next ≤ _; omega⟩, by simp; omega⟩
  · have hlt' : ¬ (i : Int) < l.length := by omega
    simp -implicitDefEqProofs only [hlt', decide_false, Bool.false_eq_true, if_false]
    unfold F5_8
    exact hq H7 L7.e
end YtacidjifocfhkaaGreatDoor
end Go.Proofs
namespace Go.Pm
set_option linter.unusedSimpArgs false
set_option linter.unusedVariables false
set_option linter.unusedSectionVars false
namespace Alone
variable (H S W R : Nat) (data : List Words) (h line : Nat) (w : Bool)
def kd : Int := if w then 2 else 1
def lone1 : Lone := { line := line, hart := h, waits := kd w }
def lone2 : Lone := { line := line, hart := h, state := 2, data := data.getD line .zero }
def part1 (l : Lone) : Part := { cache := (Cache.new S W).put { line := line, state := 1 }, lines := (List.replicate data.length none).set line (some l) }
def parts1 (l : Lone) : List Part := (List.replicate H ({ cache := Cache.new S W, lines := List.replicate data.length none } : Part)).set h (part1 S W data line l)
def home1 (busy : Bool) : Home := { line := line, harts := H, data := data.getD line .zero, owner := h, sharers := List.replicate H false, busy := busy, serves := h, by_ := kd w, inv := List.replicate H false }
def homes1 (busy : Bool) : List Home := (data.mapIdx fun i d => Home.new i H d).set line (home1 H data h line w busy)
def m0 : Msg := { kind := kd w, line := line, frm := h, to := -1 }
def m1 : Msg := { kind := 7, line := line, frm := -1, to := h, data := data.getD line .zero, has := true, alone := true }
def m2 : Msg := { kind := 12, line := line, frm := h, to := -1 }
def f1 : Fab := { bytes := 16 * data.length, parts := parts1 H S W data h line (lone1 h line w), net := { harts := H, room := R, next := 1, l := [⟨0, m0 h line w⟩] }, homes := data.mapIdx fun i d => Home.new i H d }
def f2 : Fab := { bytes := 16 * data.length, parts := parts1 H S W data h line (lone1 h line w), net := { harts := H, room := R, next := 2, l := [⟨1, m1 data h line⟩] }, homes := homes1 H data h line w true }
def f3 : Fab := { bytes := 16 * data.length, parts := parts1 H S W data h line (lone2 data h line), net := { harts := H, room := R, next := 3, l := [⟨2, m2 h line⟩] }, homes := homes1 H data h line w true }
def f4 : Fab := { bytes := 16 * data.length, parts := parts1 H S W data h line (lone2 data h line), net := { harts := H, room := R, next := 3, l := [] }, homes := homes1 H data h line w false }
variable {H S W R : Nat} {data : List Words} {h line : Nat} {w : Bool} (hh : h < H) (hl : line < data.length) (hw : 1 ≤ W) (hr : 1 ≤ R)
theorem aloneF (r : Int) : ∀ (n i : Nat), Home.aloneFrom r (List.replicate n false) i = true
  | 0, _ => rfl
  | n + 1, i => by rw [List.replicate_succ, Home.aloneFrom, aloneF r n]; rfl
theorem invF (r : Int) : ∀ (n i : Nat), Home.invFrom r (List.replicate n false) (List.replicate n false) i = List.replicate n false
  | 0, _ => rfl
  | n + 1, i => by rw [List.replicate_succ, Home.invFrom, invF r n]; simp
theorem askF {g : Home} (hg : g.asked = -1) : ∀ (n i : Nat), Home.askL g (List.replicate n false) i = []
  | 0, _ => rfl
  | n + 1, i => by
    rw [List.replicate_succ, Home.askL, askF hg n, hg]
    have : ¬ ((-1 : Int) = (i : Int)) := by omega
    simp [this]
theorem setF (n k : Nat) : (List.replicate n false).set k false = List.replicate n false := by
  apply List.ext_getElem?
  intro i
  rw [List.getElem?_set]
  split
  · rename_i e; subst e
    simp only [List.length_replicate, List.getElem?_replicate]
  · rfl
include hh hl hw hr
omit hw hr in
theorem there : (Fab.new H S W R data).there h line = true := by
  simp [Fab.there, Fab.new]
  omega
theorem ask_eq : (Fab.new H S W R data).ask h line w = (f1 H S W R data h line w, true) := by
  have ht := there (S := S) (W := W) (R := R) hh hl
  have hp : (Fab.new H S W R data).part h = { cache := Cache.new S W, lines := List.replicate data.length none } := by
    simp [Fab.part, Fab.new, List.getD_eq_getElem?_getD, hh]
  have hn : (Part.line { cache := Cache.new S W, lines := List.replicate data.length none } (line : Int)) = none := by
    simp [Part.line, List.getD_eq_getElem?_getD, hl]
  have hc : (Part.count { cache := Cache.new S W, lines := List.replicate data.length none }) = 0 := by
    simp [Part.count]
  have hroom : (Cache.new S W).room line = true := by
    have : (Cache.new S W).row line = [] := by
      simp only [Cache.row, Cache.new, List.getD_eq_getElem?_getD, List.getElem?_replicate]
      split <;> rfl
    have h2 : decide (([] : List Entry).length < (Cache.new S W).ways) = true := decide_eq_true (by show 0 < W; omega)
    unfold Cache.room
    rw [this, h2]
    simp
  unfold Fab.ask
  simp only [ht, hp]
  simp only [hn, hc, Part.fit, hroom]
  simp only [if_true, hn, Option.getD_none]
  have hr0 : 0 < R := by omega
  cases w <;>
  simp [hr0, Lone.ask, Lone.can, Lone.msg, Net.send, Net.sendL, Net.may, classOf, Net.link, Net.used, Fab.new, hh, Fab.setPart, f1, parts1, part1, lone1, m0, kd, Part.setLine]
theorem home_take : (Home.new line H (data.getD line .zero)).takes (m0 h line w) = true ∧ (Home.new line H (data.getD line .zero)).take (m0 h line w) = (home1 H data h line w true, [m1 data h line]) := by
  have hi : (h : Int) < H := by omega
  have t : (Home.new line H (data.getD line .zero)).takes (m0 h line w) = true := by
    cases w <;> simp [Home.takes, m0, kd, Home.new, hh]
  refine ⟨t, ?_⟩
  unfold Home.take
  rw [t]
  cases w
  · simp [m0, kd, Home.new, Home.share, aloneF, home1, setF, Home.hand, Home.to, m1]
  · simp [m0, kd, Home.new, Home.own, invF, home1, Home.owned, Home.hand, Home.to, m1, Home.waits, Msg.zero]
    rw [askF (by rfl)]
end Alone
end Go.Pm
namespace Go.Proofs
namespace YtacidjifocfhkaaGreatDoor
open Go Go.NW Go.Pm
open Go.ChangeShapes Go.WideShapes Go.ChangeAt Go.WideMaps Go.WideElems Go.RowKit
/-- a laid error: its block stands unfrozen and holds an interface value -/
theorem glob_of {P : Program} {n nm : String} {d : DataW Unit} {r : List (String × DataW Unit)} {W : World} {g : Nat} {ti : TypeId} {ms : Array (String × TypeId)}
    (h : laidMet P ((n, .iface nm d) :: r) W) (hg : P.globalNamed n = some g) (ht : (P.globals[g]?).map (·.type) = some ti) (hi : P.underlying ti = some (.interface ms)) :
    ∃ c t v, blk W.heap g c ∧ c[0]? = some (.iface t v) := by
  obtain ⟨ps, ⟨g0, t0, cs0, f0, p0, q0, hg0, ht0, hv0, hd0, _, e0⟩, _, hrows⟩ := h
  obtain rfl := Option.some.inj (hg.symm.trans hg0)
  obtain rfl := Option.some.inj (ht.symm.trans ht0)
  subst e0
  obtain ⟨l0⟩ := cs0
  obtain ⟨f', u, v, hcs, _, _⟩ := iface_of_trod hi hd0
  simp only at hcs
  subst hcs
  obtain ⟨⟨c, t, hb⟩, _⟩ := hrows g 0 (by simp [MemPlace.row])
  unfold World.var? at hv0
  rw [hg] at hv0
  simp only [Option.bind_some, hb, Option.some.injEq] at hv0
  subst hv0
  exact ⟨_, u, v, ⟨_, hb⟩, rfl⟩
/-- the errors' colours -/
def gcol (b : Nat) : Rl := if b < 5 then .glob else .other
theorem kept_of_ext {w w' : World} (e : Ext [] w.heap w'.heap) (s : SameW w w') (may : MemPlace → Prop) : w.keptBut w' may := by
  refine ⟨s.os, s.output, fun i hi => ?_⟩
  rw [e.same i hi (by simp)]
  exact (World.keptBut_refl w may).2.2 i hi
end YtacidjifocfhkaaGreatDoor
end Go.Proofs
namespace Go.Proofs
namespace YtacidjifocfhkaaGreatDoor
open Go Go.NW Go.Pm
open Go.ChangeShapes Go.WideShapes Go.ChangeAt Go.WideMaps Go.WideElems Go.RowKit
theorem own0 : ownKnob Tryz.prog.godebug = none := by kernel_rfl
theorem gn0 : Tryz.prog.globalNamed "corral/api.ErrRange" = some 0 := by kernel_rfl
theorem gn1 : Tryz.prog.globalNamed "corral/api.ErrMany" = some 1 := by kernel_rfl
theorem gn2 : Tryz.prog.globalNamed "corral/api.ErrKind" = some 2 := by kernel_rfl
theorem gn3 : Tryz.prog.globalNamed "corral/api.ErrFull" = some 3 := by kernel_rfl
theorem gn4 : Tryz.prog.globalNamed "corral/api.ErrPlace" = some 4 := by kernel_rfl
theorem gt0 : (Tryz.prog.globals[0]?).map (·.type) = some 26 := by kernel_rfl
theorem gt1 : (Tryz.prog.globals[1]?).map (·.type) = some 26 := by kernel_rfl
theorem gt2 : (Tryz.prog.globals[2]?).map (·.type) = some 26 := by kernel_rfl
theorem gt3 : (Tryz.prog.globals[3]?).map (·.type) = some 26 := by kernel_rfl
theorem gt4 : (Tryz.prog.globals[4]?).map (·.type) = some 26 := by kernel_rfl
/-- the listed five, in the rows' order -/
def laid5 : List (String × DataW Unit) := [("corral/api.ErrMany", Rows.laid_corral_api_ErrMany), ("corral/api.ErrKind", Rows.laid_corral_api_ErrKind), ("corral/api.ErrPlace", Rows.laid_corral_api_ErrPlace), ("corral/api.ErrRange", Rows.laid_corral_api_ErrRange), ("corral/api.ErrFull", Rows.laid_corral_api_ErrFull)]
theorem laid5_start {W : World} (h : laidMetH Tryz.prog laid5 W) : Start W.heap gcol := by
  rw [MakeChecks.laidMetH_plain _ _ _ (by kernel_rfl)] at h
  have h1 := glob_of h gn1 gt1 Tryz.underlying26
  have h2 := glob_of h.tail gn2 gt2 Tryz.underlying26
  have h4 := glob_of h.tail.tail gn4 gt4 Tryz.underlying26
  have h0 := glob_of h.tail.tail.tail gn0 gt0 Tryz.underlying26
  have h3 := glob_of h.tail.tail.tail.tail gn3 gt3 Tryz.underlying26
  refine ⟨fun b hb => ⟨by simp [gcol, hb], ?_⟩, fun x => by unfold gcol; split <;> simp⟩
  match b, hb with
  | 0, _ => exact h0
  | 1, _ => exact h1
  | 2, _ => exact h2
  | 3, _ => exact h3
  | 4, _ => exact h4
theorem laid5_door (os : Os) (args : Array Value) : laidMetH Tryz.prog laid5 ((World.doorLaid Tryz.prog 400 os).forCall (fun _ _ => 0) ⟨#[], args, []⟩).memory :=
  laidMetH_of_parts3 (fuel := 8) (laidMet_of_run' 8 (by kernel_rfl) (by kernel_rfl)) (by kernel_rfl) (by kernel_rfl)
end YtacidjifocfhkaaGreatDoor
end Go.Proofs
namespace Go.Proofs
namespace YtacidjifocfhkaaGreatDoor
open Go Go.NW Go.Pm
open Go.ChangeShapes Go.WideShapes Go.ChangeAt Go.WideMaps Go.WideElems Go.RowKit
theorem laidOut0 : laidOutB Tryz.prog = true := by kernel_rfl
theorem below_of {W W' : World} (e : Ext [] W.heap W'.heap) (s : SameW W W') : Below W.heap.size W W' :=
  ⟨s.os, s.tape, s.output, e.size, fun k hk => e.same k hk (by simp)⟩
/-- arguments read as before -/
theorem carry_all {H : Type} {enc : TypeId × Value → H} {P : Program} {W W' : World} (hl : laidOutB P = true) (hb : Below W.heap.size W W') :
    ∀ {ts : List TypeId} {vs : List Value} {ds : List (DataW H)} {p : List MemPlace}, ts.all (fun t => P.readableRec t && decide (t < P.types.size)) = true → (∀ x ∈ p, x.block < W.heap.size) →
      DataW.TrodAll enc P W 0 (fun _ => true) true ts vs ds p → DataW.TrodAll enc P W' 0 (fun b => decide (b < W.heap.size)) true ts vs ds p
  | [], vs, ds, p, _, _, h => by
    obtain ⟨rfl, rfl, rfl⟩ := trodAll_nil h
    exact rfl
  | t :: ts, vs, ds, p, hr, hlt, h => by
    obtain ⟨v, vs', d, ds', p1, p2, rfl, rfl, rfl, h1, h2⟩ := trodAll_cons h
    simp only [List.all_cons, Bool.and_eq_true, decide_eq_true_eq] at hr
    exact ⟨p1, p2, Below.trod hl hr.1.1 hr.1.2 h1 hb fun x hx => hlt x (List.mem_append_left _ hx), carry_all hl hb (by simpa using hr.2) (fun x hx => hlt x (List.mem_append_right _ hx)) h2, rfl⟩
end YtacidjifocfhkaaGreatDoor
end Go.Proofs
namespace Go.Proofs
namespace YtacidjifocfhkaaGreatDoor
open Go Go.NW Go.Pm
open Go.ChangeShapes Go.WideShapes Go.ChangeAt Go.WideMaps Go.WideElems Go.RowKit
set_option maxRecDepth 100000 in
theorem lifted_5 (os : Os) (started : os.Started) (H : Type) (enc : TypeId × Value → H) :
    ReturnsInHanded {} Tryz.checked os 5 .any (fun w args => (Rows.fabricLostSpec.pre enc Tryz.prog Tryz.f5 [] false w args ∧ laidMetH Tryz.prog laid5 w) ∧ sizedMet enc Tryz.prog Tryz.f5 (OpenSpec.ofChange Rows.fabricLostSpec) false w args)
      (Rows.fabricLostSpec.post enc Tryz.prog Tryz.f5 false true false false) := by
  refine returnsInHanded_of_change_and (C := Tryz.checked) (X := fun w _ => laidMetH Tryz.prog laid5 w) (fun _ _ _ hh h => h.of_heap hh) own0 started (by kernel_rfl) Tryz.func5
    (ChangeSpec.witness_shaped (enc := enc) (C := Tryz.checked) (os := os) (X := fun w _ => laidMetH Tryz.prog laid5 w) false (World.doorLaid Tryz.prog 400 os) #[.int .i64 0, .int .i64 0, .int .i64 0, .slice none 0 0] 8 rfl (World.shaped_of_RefB (by kernel_rfl) (by kernel_rfl)) (by kernel_rfl) (by kernel_rfl) (by kernel_rfl) (laid5_door os _)) ?_
  intro W base args ds gs before hval0 hW _ _ hL _
  have hval : ∀ (j : Nat) t v, Tryz.f5.params[j]? = some t → args[j]? = some v → Value.okWide Tryz.prog W .any base t v := hval0
  have hW' := hW
  have hlt : ∀ x ∈ before, x.block < W.heap.size := fun x hx => by simpa using hW'.lt x hx
  obtain ⟨p, q, hA0, hV, rfl, hfz, hnd⟩ := hW
  have hA : DataW.TrodAll enc Tryz.prog W 0 (fun _ => true) true Tryz.f5.params.toList args.toList ds p := hA0
  rw [Tryz.params5] at hA hval
  have hA1 := hA
  obtain ⟨rfl, rfl⟩ := trodVars_none hV
  obtain ⟨v0, vs0, d0, ds0, p0, q0, hargs, rfl, rfl, h0, r0⟩ := trodAll_cons hA
  obtain ⟨v1, vs1, d1, ds1, p1, q1, rfl, rfl, rfl, h1, r1⟩ := trodAll_cons r0
  obtain ⟨v2, vs2, d2, ds2, p2, q2, rfl, rfl, rfl, h2, r2⟩ := trodAll_cons r1
  obtain ⟨v3, vs3, d3, ds3, p3, q3, rfl, rfl, rfl, h3, r3⟩ := trodAll_cons r2
  obtain ⟨rfl, rfl, rfl⟩ := trodAll_nil r3
  obtain rfl : args = #[v0, v1, v2, v3] := by cases args; simp_all
  obtain ⟨b0, rfl, rfl, rfl, w0⟩ := open_int Tryz.underlying3 (hval 0 3 v0 rfl rfl) h0
  obtain ⟨b1, rfl, rfl, rfl, w1⟩ := open_int Tryz.underlying3 (hval 1 3 v1 rfl rfl) h1
  obtain ⟨b2, rfl, rfl, rfl, w2⟩ := open_int Tryz.underlying3 (hval 2 3 v2 rfl rfl) h2
  obtain ⟨l, hl, hok⟩ := dos_open (okWide_slice Tryz.underlying58 (hval 3 58 v3 rfl rfl)) h3
  have st := laid5_start hL
  have hc := (Lost_5 (a := b0) (b := b1) (c := b2) (Q := fun r H' => r = .bool true ∧ Ext [] W.heap H') st hl hok fun H' e => ⟨rfl, e⟩).body (by kernel_rfl)
  refine (hc.2 W rfl).mono fun e W2 ⟨r, he, ⟨hr, hx⟩, hs⟩ => ?_
  subst he; subst hr
  refine ⟨_, rfl, ?_⟩
  have hps := carry_all laidOut0 (below_of hx hs) (by kernel_rfl) (fun x hx => hlt x (List.mem_append_left _ hx)) hA1
  exact ⟨_, _, _, [], _, [], hW', trodAll_mk1 (shut_bool Tryz.underlying4 _), hps, rfl, kept_of_ext hx hs _, fun h => by cases h⟩
theorem fabricLost_row : Rows.FabricLostSaid :=
  OpenClaim.holds_of_wide 5 Tryz.f5 rfl rfl rfl rfl rfl rfl rfl ⟨rfl, rfl, rfl, rfl, rfl⟩ rfl rfl rfl rfl rfl (by kernel_rfl) Tryz.func5 (by kernel_rfl)
    (of_decide_eq_true (by kernel_rfl)) (by unfold Func.isWrapper; first | (rw [if_pos (by decide +kernel)]; kernel_rfl) | (rw [if_neg (by decide +kernel)]; exact ⟨rfl, rfl⟩))
    (fun os started H enc _ => lifted_5 os started H enc)
end YtacidjifocfhkaaGreatDoor
end Go.Proofs
namespace Go.Proofs
namespace YtacidjifocfhkaaGreatDoor
open Go
theorem fabricLost_holds : Rows.FabricLostCardSaid :=
  Claim7.holds_tied_plain_at .later [] [.sentinel, .sentinel, .sentinel, .sentinel, .sentinel] true (true, "beaddecdb8a3510ccd37603628731803452b6c12f03e012ac52c753f3fbf71ac") true
    fabricLost_row (fun _ h => by cases h) (by kernel_rfl) (fun _ h => by cases h) fabricLost_row_tie rfl ⟨rfl, rfl⟩ (by kernel_rfl) rfl
    (fun f fn hf hfn => by
      obtain rfl : f = 5 := Option.some.inj ((show Tryz.prog.funcNamed "corral/corrallaw20.FabricLost" = some 5 by kernel_rfl).symm.trans hf) |>.symm
      obtain rfl : fn = Tryz.f5 := (Option.some.inj (Tryz.func5.symm.trans hfn)).symm
      exact ⟨by kernel_rfl, fun j t ht => by
        rw [Tryz.params5] at ht
        have hm : t ∈ [3, 3, 3, 58] := by simpa using Array.mem_of_getElem? ht
        have hall : ([3, 3, 3, 58].all fun u => !Tryz.prog.wantsStandIn u) = true := by kernel_rfl
        exact (show Tryz.prog.wantsStandIn t = false by simpa using List.all_eq_true.1 hall t hm)⟩)
    (by kernel_rfl)
end YtacidjifocfhkaaGreatDoor
end Go.Proofs
#print axioms Go.Proofs.YtacidjifocfhkaaGreatDoor.fabricLost_holds
