/-
  PROVED: for every int a and every uint32 v, FabricReaders(a, v) returns true, and both arguments read afterwards as they read before. CONDITIONS: the five errors of package api that the row lists read, when the call begins, as the program's text lays them (the card ties them); nothing else is asked.
-/
import Derived.Test.YtacidjifocfhkaaGreatDoorReadf
import Derived.Test.YtacidjifocfhkaaGreatDoorProg
import Derived.KernelRfl
import Derived.Test.YtacidjifocfhkaaGreatDoorRows
import Derived.ProofKit
import Derived.LaidMore
import Derived.LaidLaws
import Derived.OpenShut
import Derived.Stop.Joined
import Derived.Stop.LaidErr
import Derived.Test.YtacidjifocfhkaaGreatDoorTie
import Derived.Test.YtacidjifocfhkaaGreatDoorCards
import Derived.SevenTiedAt
namespace Go.Proofs
open Go Go.NW
set_option linter.unusedVariables false
set_option maxRecDepth 100000
namespace YtacidjifocfhkaaGreatDoor
def F4_22 (t5 : Value) (H : Hp) (Q : Value → Hp → Prop) : Prop :=
  Q t5 H
def F4_26 (t1 t5 t6 t7 t20 : Value) (H : Hp) (R25 : Value → Value → Value → Value → Value →  Hp → Prop) (Q : Value → Hp → Prop) : Prop :=
  q (Fa 0 t6) fun t158_1 =>
  q (Ld H t158_1) fun t159_2 =>
  q (Bin Tryz.prog H .lss 3 false t20 t159_2) fun t160_3 =>
  condV t160_3 (
    NCalls Tryz.prog 18 #[t7, t20, (Value.int IntKind.u32 0), (Value.int IntKind.i64 4)] H (fun t166_4 H_4 =>
    q (Ex 0 t166_4) fun t167_5 =>
    q (Ex 1 t166_4) fun t168_6 =>
    q (pv Tryz.prog (Op.unary .not t168_6)) fun t170_7 =>
    q (gd t170_7 false (some t167_5)) fun t172_8 =>
    q (gd t170_7 false (some t1)) fun t173_9 =>
    q (gd t170_7 false (Bin Tryz.prog H_4 .neq 40 false t172_8 t173_9)) fun t174_10 =>
    q (Pk t170_7 (Value.bool true) t174_10) fun t175_11 =>
    condV t175_11 (
      Q (Value.bool false) H_4) (
      q (Bin Tryz.prog H_4 .add 3 true t20 (Value.int IntKind.i64 1)) fun t162_12 =>
      R25 t1 t5 t6 t7 t162_12 H_4))) (
    F4_22 t5 H Q)
def F4_25 (t1 t5 t6 t7 t20 : Value) (H : Hp) (Q : Value → Hp → Prop) : Prop :=
  ∃ (I : Value → Hp → Prop) (μ : Value → Hp → Nat), I t20 H ∧ ∀ n20 H1, I n20 H1 → F4_26 t1 t5 t6 t7 n20 H1 (fun m1 m5 m6 m7 m20 H2 => m1 = t1 ∧ m5 = t5 ∧ m6 = t6 ∧ m7 = t7 ∧ (I m20 H2 ∧ μ m20 H2 < μ n20 H1)) Q
def F4_24 (t1 t5 t6 t7 t20 : Value) (H : Hp) (Q : Value → Hp → Prop) : Prop := F4_25 t1 t5 t6 t7 t20 H Q
def F4_27 (t1 t5 t6 t7 : Value) (H : Hp) (Q : Value → Hp → Prop) : Prop :=
  F4_24 t1 t5 t6 t7 (Value.int IntKind.i64 0) H Q
def F4_23 (t1 t5 t6 t7 : Value) (H : Hp) (Q : Value → Hp → Prop) : Prop := F4_27 t1 t5 t6 t7 H Q
def F4_21 (t1 t5 t6 t7 : Value) (H : Hp) (Q : Value → Hp → Prop) : Prop := F4_23 t1 t5 t6 t7 H Q
def F4_28 (t1 t5 t6 t7 : Value) (H : Hp) (Q : Value → Hp → Prop) : Prop :=
  NCalls Tryz.prog 19 #[t7] H (fun t156_13 H_13 =>
  F4_21 t1 t5 t6 t7 H_13 Q)
def F4_20 (t1 t5 t6 t7 : Value) (H : Hp) (Q : Value → Hp → Prop) : Prop := F4_28 t1 t5 t6 t7 H Q
def F4_32 (t1 t5 t6 t7 t19 : Value) (H : Hp) (R31 : Value → Value → Value → Value → Value →  Hp → Prop) (Q : Value → Hp → Prop) : Prop :=
  q (Fa 0 t6) fun t147_14 =>
  q (Ld H t147_14) fun t148_15 =>
  q (Bin Tryz.prog H .lss 3 false t19 t148_15) fun t149_16 =>
  condV t149_16 (
    NCalls Tryz.prog 16 #[t7, t19, (Value.int IntKind.i64 0), (Value.bool false)] H (fun t154_17 H_17 =>
    q (Bin Tryz.prog H_17 .add 3 true t19 (Value.int IntKind.i64 1)) fun t151_18 =>
    R31 t1 t5 t6 t7 t151_18 H_17)) (
    F4_20 t1 t5 t6 t7 H Q)
def F4_31 (t1 t5 t6 t7 t19 : Value) (H : Hp) (Q : Value → Hp → Prop) : Prop :=
  ∃ (I : Value → Hp → Prop) (μ : Value → Hp → Nat), I t19 H ∧ ∀ n19 H1, I n19 H1 → F4_32 t1 t5 t6 t7 n19 H1 (fun m1 m5 m6 m7 m19 H2 => m1 = t1 ∧ m5 = t5 ∧ m6 = t6 ∧ m7 = t7 ∧ (I m19 H2 ∧ μ m19 H2 < μ n19 H1)) Q
def F4_30 (t1 t5 t6 t7 t19 : Value) (H : Hp) (Q : Value → Hp → Prop) : Prop := F4_31 t1 t5 t6 t7 t19 H Q
def F4_33 (t1 t5 t6 t7 : Value) (H : Hp) (Q : Value → Hp → Prop) : Prop :=
  F4_30 t1 t5 t6 t7 (Value.int IntKind.i64 0) H Q
def F4_29 (t1 t5 t6 t7 : Value) (H : Hp) (Q : Value → Hp → Prop) : Prop := F4_33 t1 t5 t6 t7 H Q
def F4_19 (t1 t5 t6 t7 : Value) (H : Hp) (Q : Value → Hp → Prop) : Prop := F4_29 t1 t5 t6 t7 H Q
def F4_34 (t1 t5 t6 t7 t17 t18 : Value) (H : Hp) (Q : Value → Hp → Prop) : Prop :=
  q (pv Tryz.prog (Op.unary .not t18)) fun t127_19 =>
  q (gd t127_19 true (some t7)) fun t129_20 =>
  q (gd t127_19 true (some t17)) fun t130_21 =>
  gl t127_19 true (fun K => NCalls Tryz.prog 16 #[t129_20, t130_21, (Value.int IntKind.i64 0), (Value.bool true)] H K) H fun t131_22 H_22 =>
  q (gd t127_19 true (pv Tryz.prog (Op.unary .not t131_22))) fun t132_23 =>
  q (gd t127_19 true (some t132_23)) fun t133_24 =>
  q (gd t133_24 false (some t7)) fun t134_25 =>
  gl t133_24 false (fun K => NCalls Tryz.prog 19 #[t134_25] H_22 K) H_22 fun t135_26 H_26 =>
  q (gd t133_24 false (pv Tryz.prog (Op.unary .not t135_26))) fun t136_27 =>
  q (gd t127_19 true (Pk t133_24 (Value.bool true) t136_27)) fun t137_28 =>
  q (gd t127_19 true (some t137_28)) fun t138_29 =>
  q (gd t138_29 false (some t7)) fun t139_30 =>
  q (gd t138_29 false (some t17)) fun t140_31 =>
  q (gd t138_29 false (some t1)) fun t141_32 =>
  gl t138_29 false (fun K => NCalls Tryz.prog 20 #[t139_30, t140_31, (Value.int IntKind.u32 0), (Value.int IntKind.i64 4), t141_32] H_26 K) H_26 fun t142_33 H_33 =>
  q (gd t138_29 false (pv Tryz.prog (Op.unary .not t142_33))) fun t143_34 =>
  q (gd t127_19 true (Pk t138_29 (Value.bool true) t143_34)) fun t144_35 =>
  q (Pk t127_19 t144_35 (Value.bool false)) fun t145_36 =>
  condV t145_36 (
    Q (Value.bool false) H_33) (
    F4_19 t1 t5 t6 t7 H_33 Q)
def F4_18 (t1 t5 t6 t7 t17 t18 : Value) (H : Hp) (Q : Value → Hp → Prop) : Prop := F4_34 t1 t5 t6 t7 t17 t18 H Q
def F4_35 (t1 t5 t6 t7 t17 t18 : Value) (H : Hp) (Q : Value → Hp → Prop) : Prop :=
  q (Fa 0 t6) fun t122_37 =>
  q (Ld H t122_37) fun t123_38 =>
  q (Bin Tryz.prog H .eql 3 true t123_38 (Value.int IntKind.i64 1)) fun t124_39 =>
  q (Bin Tryz.prog H .neq 4 false t18 t124_39) fun t125_40 =>
  condV t125_40 (
    Q (Value.bool false) H) (
    F4_18 t1 t5 t6 t7 t17 t18 H Q)
def F4_17 (t1 t5 t6 t7 t17 t18 : Value) (H : Hp) (Q : Value → Hp → Prop) : Prop := F4_35 t1 t5 t6 t7 t17 t18 H Q
def F4_36 (t1 t5 t6 t7 t17 : Value) (H : Hp) (Q : Value → Hp → Prop) : Prop :=
  NCalls Tryz.prog 20 #[t7, t17, (Value.int IntKind.u32 0), (Value.int IntKind.i64 4), t1] H (fun t120_41 H_41 =>
  F4_17 t1 t5 t6 t7 t17 t120_41 H_41 Q)
def F4_16 (t1 t5 t6 t7 t17 : Value) (H : Hp) (Q : Value → Hp → Prop) : Prop := F4_36 t1 t5 t6 t7 t17 H Q
def F4_37 (t1 t5 t6 t7 : Value) (H : Hp) (Q : Value → Hp → Prop) : Prop :=
  q (Fa 0 t6) fun t114_42 =>
  q (Ld H t114_42) fun t115_43 =>
  q (Bin Tryz.prog H .sub 3 true t115_43 (Value.int IntKind.i64 1)) fun t116_44 =>
  F4_16 t1 t5 t6 t7 t116_44 H Q
def F4_15 (t1 t5 t6 t7 : Value) (H : Hp) (Q : Value → Hp → Prop) : Prop := F4_37 t1 t5 t6 t7 H Q
def F4_38 (t1 t5 t6 t7 t15 : Value) (H : Hp) (Q : Value → Hp → Prop) : Prop :=
  q (Fa 1 t15) fun t101_45 =>
  q (Ld H t101_45) fun t102_46 =>
  q (Ix 1 t102_46 (Value.int IntKind.i64 0)) fun t103_47 =>
  q (Ld H t103_47) fun t104_48 =>
  q (Bin Tryz.prog H .eql 3 true t104_48 (Value.int IntKind.i64 99)) fun t105_49 =>
  q (gd t105_49 false (Fa 2 t15)) fun t107_50 =>
  q (gd t105_49 false (Ld H t107_50)) fun t108_51 =>
  q (gd t105_49 false (Ix 4 t108_51 (Value.int IntKind.i64 0))) fun t109_52 =>
  q (gd t105_49 false (IxA 4 1 t109_52 (Value.int IntKind.i64 0))) fun t110_53 =>
  q (gd t105_49 false (Ld H t110_53)) fun t111_54 =>
  q (gd t105_49 false (Bin Tryz.prog H .neq 40 true t111_54 (Value.int IntKind.u32 5))) fun t112_55 =>
  q (Pk t105_49 (Value.bool true) t112_55) fun t113_56 =>
  condV t113_56 (
    Q (Value.bool false) H) (
    F4_15 t1 t5 t6 t7 H Q)
def F4_14 (t1 t5 t6 t7 t15 : Value) (H : Hp) (Q : Value → Hp → Prop) : Prop := F4_38 t1 t5 t6 t7 t15 H Q
def F4_39 (t1 t5 t6 t7 : Value) (H : Hp) (Q : Value → Hp → Prop) : Prop :=
  NCalls Tryz.prog 23 #[t7, (Value.int IntKind.i64 0)] H (fun t98_57 H_57 =>
  q (Ex 0 t98_57) fun t99_58 =>
  q (Ex 1 t98_57) fun t100_59 =>
  New #[Value.int IntKind.i64 0, Value.slice none 0 0, Value.slice none 0 0, Value.int IntKind.u32 0, Value.int IntKind.u32 0, Value.int IntKind.u32 0, Value.int IntKind.u32 0, Value.bool false, Value.bool false] 54 H_57 (fun t15_60 H_60 =>
  St 9 H_60 t15_60 t99_58 ((fun u_61 H_61 =>
  F4_14 t1 t5 t6 t7 t15_60 H_61 Q) undef)))
def F4_13 (t1 t5 t6 t7 : Value) (H : Hp) (Q : Value → Hp → Prop) : Prop := F4_39 t1 t5 t6 t7 H Q
def F4_40 (t1 t5 t6 t7 t13 : Value) (H : Hp) (Q : Value → Hp → Prop) : Prop :=
  q (Fa 2 t13) fun t92_62 =>
  q (Ld H t92_62) fun t93_63 =>
  q (Ix 4 t93_63 (Value.int IntKind.i64 0)) fun t94_64 =>
  q (IxA 4 1 t94_64 (Value.int IntKind.i64 0)) fun t95_65 =>
  St 1 H t95_65 (Value.int IntKind.u32 99) ((fun u_66 H_66 =>
  F4_13 t1 t5 t6 t7 H_66 Q) undef)
def F4_12 (t1 t5 t6 t7 t13 : Value) (H : Hp) (Q : Value → Hp → Prop) : Prop := F4_40 t1 t5 t6 t7 t13 H Q
def F4_41 (t1 t5 t6 t7 t13 : Value) (H : Hp) (Q : Value → Hp → Prop) : Prop :=
  q (Fa 1 t13) fun t89_67 =>
  q (Ld H t89_67) fun t90_68 =>
  q (Ix 1 t90_68 (Value.int IntKind.i64 0)) fun t91_69 =>
  St 1 H t91_69 (Value.int IntKind.i64 99) ((fun u_70 H_70 =>
  F4_12 t1 t5 t6 t7 t13 H_70 Q) undef)
def F4_11 (t1 t5 t6 t7 t13 : Value) (H : Hp) (Q : Value → Hp → Prop) : Prop := F4_41 t1 t5 t6 t7 t13 H Q
def F4_42 (t1 t5 t6 t7 t13 t14 : Value) (H : Hp) (Q : Value → Hp → Prop) : Prop :=
  q (pv Tryz.prog (Op.unary .not t14)) fun t72_71 =>
  q (gd t72_71 false (Fa 1 t13)) fun t74_72 =>
  q (gd t72_71 false (Ld H t74_72)) fun t75_73 =>
  q (gd t72_71 false (pv Tryz.prog (Builtin.len_ #[49] 0 #[t75_73]))) fun t76_74 =>
  q (gd t72_71 false (Fa 0 t6)) fun t77_75 =>
  q (gd t72_71 false (Ld H t77_75)) fun t78_76 =>
  q (gd t72_71 false (Bin Tryz.prog H .neq 3 false t76_74 t78_76)) fun t79_77 =>
  q (Pk t72_71 (Value.bool true) t79_77) fun t80_78 =>
  q (gd t80_78 false (Fa 2 t13)) fun t82_79 =>
  q (gd t80_78 false (Ld H t82_79)) fun t83_80 =>
  q (gd t80_78 false (pv Tryz.prog (Builtin.len_ #[50] 0 #[t83_80]))) fun t84_81 =>
  q (gd t80_78 false (Fa 0 t6)) fun t85_82 =>
  q (gd t80_78 false (Ld H t85_82)) fun t86_83 =>
  q (gd t80_78 false (Bin Tryz.prog H .neq 3 false t84_81 t86_83)) fun t87_84 =>
  q (Pk t80_78 (Value.bool true) t87_84) fun t88_85 =>
  condV t88_85 (
    Q (Value.bool false) H) (
    F4_11 t1 t5 t6 t7 t13 H Q)
def F4_10 (t1 t5 t6 t7 t13 t14 : Value) (H : Hp) (Q : Value → Hp → Prop) : Prop := F4_42 t1 t5 t6 t7 t13 t14 H Q
def F4_43 (t1 t5 t6 t7 : Value) (H : Hp) (Q : Value → Hp → Prop) : Prop :=
  NCalls Tryz.prog 23 #[t7, (Value.int IntKind.i64 0)] H (fun t68_86 H_86 =>
  q (Ex 0 t68_86) fun t69_87 =>
  q (Ex 1 t68_86) fun t70_88 =>
  New #[Value.int IntKind.i64 0, Value.slice none 0 0, Value.slice none 0 0, Value.int IntKind.u32 0, Value.int IntKind.u32 0, Value.int IntKind.u32 0, Value.int IntKind.u32 0, Value.bool false, Value.bool false] 54 H_86 (fun t13_89 H_89 =>
  St 9 H_89 t13_89 t69_87 ((fun u_90 H_90 =>
  F4_10 t1 t5 t6 t7 t13_89 t70_88 H_90 Q) undef)))
def F4_9 (t1 t5 t6 t7 : Value) (H : Hp) (Q : Value → Hp → Prop) : Prop := F4_43 t1 t5 t6 t7 H Q
def F4_47 (t1 t5 t6 t7 t10 : Value) (H : Hp) (R46 : Value → Value → Value → Value → Value →  Hp → Prop) (Q : Value → Hp → Prop) : Prop :=
  q (Fa 0 t6) fun t49_91 =>
  q (Ld H t49_91) fun t50_92 =>
  q (Bin Tryz.prog H .lss 3 false t10 t50_92) fun t51_93 =>
  condV t51_93 (
    NCalls Tryz.prog 18 #[t7, t10, (Value.int IntKind.u32 0), (Value.int IntKind.i64 4)] H (fun t57_94 H_94 =>
    q (Ex 0 t57_94) fun t58_95 =>
    q (Ex 1 t57_94) fun t59_96 =>
    q (pv Tryz.prog (Op.unary .not t59_96)) fun t61_97 =>
    q (gd t61_97 false (some t58_95)) fun t63_98 =>
    q (gd t61_97 false (Bin Tryz.prog H_94 .neq 40 true t63_98 (Value.int IntKind.u32 5))) fun t64_99 =>
    q (Pk t61_97 (Value.bool true) t64_99) fun t65_100 =>
    condV t65_100 (
      Q (Value.bool false) H_94) (
      q (Bin Tryz.prog H_94 .add 3 true t10 (Value.int IntKind.i64 1)) fun t53_101 =>
      R46 t1 t5 t6 t7 t53_101 H_94))) (
    F4_9 t1 t5 t6 t7 H Q)
def F4_46 (t1 t5 t6 t7 t10 : Value) (H : Hp) (Q : Value → Hp → Prop) : Prop :=
  ∃ (I : Value → Hp → Prop) (μ : Value → Hp → Nat), I t10 H ∧ ∀ n10 H1, I n10 H1 → F4_47 t1 t5 t6 t7 n10 H1 (fun m1 m5 m6 m7 m10 H2 => m1 = t1 ∧ m5 = t5 ∧ m6 = t6 ∧ m7 = t7 ∧ (I m10 H2 ∧ μ m10 H2 < μ n10 H1)) Q
def F4_45 (t1 t5 t6 t7 t10 : Value) (H : Hp) (Q : Value → Hp → Prop) : Prop := F4_46 t1 t5 t6 t7 t10 H Q
def F4_48 (t1 t5 t6 t7 : Value) (H : Hp) (Q : Value → Hp → Prop) : Prop :=
  F4_45 t1 t5 t6 t7 (Value.int IntKind.i64 0) H Q
def F4_44 (t1 t5 t6 t7 : Value) (H : Hp) (Q : Value → Hp → Prop) : Prop := F4_48 t1 t5 t6 t7 H Q
def F4_8 (t1 t5 t6 t7 : Value) (H : Hp) (Q : Value → Hp → Prop) : Prop := F4_44 t1 t5 t6 t7 H Q
def F4_49 (t1 t5 t6 t7 : Value) (H : Hp) (Q : Value → Hp → Prop) : Prop :=
  NCalls Tryz.prog 19 #[t7] H (fun t47_102 H_102 =>
  F4_8 t1 t5 t6 t7 H_102 Q)
def F4_7 (t1 t5 t6 t7 : Value) (H : Hp) (Q : Value → Hp → Prop) : Prop := F4_49 t1 t5 t6 t7 H Q
def F4_53 (t1 t5 t6 t7 t9 : Value) (H : Hp) (R52 : Value → Value → Value → Value → Value →  Hp → Prop) (Q : Value → Hp → Prop) : Prop :=
  q (Fa 0 t6) fun t37_103 =>
  q (Ld H t37_103) fun t38_104 =>
  q (Bin Tryz.prog H .lss 3 false t9 t38_104) fun t39_105 =>
  condV t39_105 (
    NCalls Tryz.prog 16 #[t7, t9, (Value.int IntKind.i64 0), (Value.bool false)] H (fun t44_106 H_106 =>
    q (pv Tryz.prog (Op.unary .not t44_106)) fun t45_107 =>
    condV t45_107 (
      Q (Value.bool false) H_106) (
      q (Bin Tryz.prog H_106 .add 3 true t9 (Value.int IntKind.i64 1)) fun t41_108 =>
      R52 t1 t5 t6 t7 t41_108 H_106))) (
    F4_7 t1 t5 t6 t7 H Q)
def F4_52 (t1 t5 t6 t7 t9 : Value) (H : Hp) (Q : Value → Hp → Prop) : Prop :=
  ∃ (I : Value → Hp → Prop) (μ : Value → Hp → Nat), I t9 H ∧ ∀ n9 H1, I n9 H1 → F4_53 t1 t5 t6 t7 n9 H1 (fun m1 m5 m6 m7 m9 H2 => m1 = t1 ∧ m5 = t5 ∧ m6 = t6 ∧ m7 = t7 ∧ (I m9 H2 ∧ μ m9 H2 < μ n9 H1)) Q
def F4_51 (t1 t5 t6 t7 t9 : Value) (H : Hp) (Q : Value → Hp → Prop) : Prop := F4_52 t1 t5 t6 t7 t9 H Q
def F4_54 (t1 t5 t6 t7 : Value) (H : Hp) (Q : Value → Hp → Prop) : Prop :=
  F4_51 t1 t5 t6 t7 (Value.int IntKind.i64 0) H Q
def F4_50 (t1 t5 t6 t7 : Value) (H : Hp) (Q : Value → Hp → Prop) : Prop := F4_54 t1 t5 t6 t7 H Q
def F4_6 (t1 t5 t6 t7 : Value) (H : Hp) (Q : Value → Hp → Prop) : Prop := F4_50 t1 t5 t6 t7 H Q
def F4_55 (t1 t5 t6 t7 t8 : Value) (H : Hp) (Q : Value → Hp → Prop) : Prop :=
  q (pv Tryz.prog (Op.unary .not t8)) fun t35_109 =>
  condV t35_109 (
    Q (Value.bool false) H) (
    F4_6 t1 t5 t6 t7 H Q)
def F4_5 (t1 t5 t6 t7 t8 : Value) (H : Hp) (Q : Value → Hp → Prop) : Prop := F4_55 t1 t5 t6 t7 t8 H Q
def F4_56 (t1 t5 t6 : Value) (H : Hp) (Q : Value → Hp → Prop) : Prop :=
  q (LdA 4 H t6) fun t29_110 =>
  Bsl #[Value.int IntKind.u32 0] 1 40 1 [(0, (Value.int IntKind.u32 5))] H (fun t30_111 H_111 =>
  NCalls Tryz.prog 22 #[t29_110, (Value.int IntKind.i64 64), t30_111] H_111 (fun t31_112 H_112 =>
  q (Ex 0 t31_112) fun t32_113 =>
  q (Ex 1 t31_112) fun t33_114 =>
  F4_5 t1 t5 t6 t32_113 t33_114 H_112 Q))
def F4_4 (t1 t5 t6 : Value) (H : Hp) (Q : Value → Hp → Prop) : Prop := F4_56 t1 t5 t6 H Q
def F4_57 (t0 t1 t5 : Value) (H : Hp) (Q : Value → Hp → Prop) : Prop :=
  NCalls Tryz.prog 21 #[t0, (Value.int IntKind.i64 1), (Value.int IntKind.i64 1)] H (fun t27_115 H_115 =>
  New #[Value.int IntKind.i64 0, Value.int IntKind.i64 0, Value.int IntKind.i64 0, Value.int IntKind.i64 0] 23 H_115 (fun t6_116 H_116 =>
  St 4 H_116 t6_116 t27_115 ((fun u_117 H_117 =>
  F4_4 t1 t5 t6_116 H_117 Q) undef)))
def F4_3 (t0 t1 t5 : Value) (H : Hp) (Q : Value → Hp → Prop) : Prop := F4_57 t0 t1 t5 H Q
def F4_58 (t0 t1 t5 : Value) (H : Hp) (Q : Value → Hp → Prop) : Prop :=
  q (pv Tryz.prog (Op.unary .not t5)) fun t25_118 =>
  condV t25_118 (
    Q (Value.bool false) H) (
    F4_3 t0 t1 t5 H Q)
def F4_2 (t0 t1 t5 : Value) (H : Hp) (Q : Value → Hp → Prop) : Prop := F4_58 t0 t1 t5 H Q
def F4_59 (t0 t1 : Value) (H : Hp) (Q : Value → Hp → Prop) : Prop :=
  NCalls Tryz.prog 9 #[] H (fun t23_119 H_119 =>
  F4_2 t0 t1 t23_119 H_119 Q)
def F4_1 (t0 t1 : Value) (H : Hp) (Q : Value → Hp → Prop) : Prop := F4_59 t0 t1 H Q
def F4_60 (t0 t1 : Value) (H : Hp) (Q : Value → Hp → Prop) : Prop :=
  F4_1 t0 t1 H Q
def F4_0 (t0 t1 : Value) (H : Hp) (Q : Value → Hp → Prop) : Prop := F4_60 t0 t1 H Q
theorem A4_22 {fr : Fr} {H : Hp} {Q : Value → Hp → Prop} (h : F4_22 (fr 5) H Q) : xCode Tryz.prog 177 (Code.r (Code.r (Code.r (Code.r (Code.r (Code.r (Code.r (Code.r (Code.r (Code.r (Code.r (Code.r (Code.r (Code.r (Code.r (Code.r (Code.r (Code.r (Code.r (Code.r (Code.r (Code.r (bodyOf Tryz.f4))))))))))))))))))))))) (xRet Tryz.prog [.tmp 4] Q) fr H :=
  Eq.mp (by kernel_rfl) h
theorem A4_26 {fr : Fr} {H : Hp} {R25 : Value → Value → Value → Value → Value →  Hp → Prop} {Q : Value → Hp → Prop} (h : F4_26 (fr 1) (fr 5) (fr 6) (fr 7) (fr 20) H R25 Q) : xCode Tryz.prog 177 (Code.l (Code.l (Code.r (Code.l (Code.r (Code.r (Code.r (Code.r (Code.r (Code.r (Code.r (Code.r (Code.r (Code.r (Code.r (Code.r (Code.r (Code.r (Code.r (Code.r (Code.r (Code.r (Code.r (Code.r (Code.r (bodyOf Tryz.f4)))))))))))))))))))))))))) (thenK (fun fr H => R25 (fr 1) (fr 5) (fr 6) (fr 7) (fr 20) H) (blockK 6 (thenK (fun fr H => F4_22 (fr 5) H Q) (xRet Tryz.prog [.tmp 4] Q)))) fr H :=
  Eq.mp (by kernel_rfl) h
theorem A4_25 {fr : Fr} {H : Hp} {Q : Value → Hp → Prop} (h : F4_25 (fr 1) (fr 5) (fr 6) (fr 7) (fr 20) H Q) : xCode Tryz.prog 177 (Code.l (Code.r (Code.l (Code.r (Code.r (Code.r (Code.r (Code.r (Code.r (Code.r (Code.r (Code.r (Code.r (Code.r (Code.r (Code.r (Code.r (Code.r (Code.r (Code.r (Code.r (Code.r (Code.r (Code.r (bodyOf Tryz.f4))))))))))))))))))))))))) (blockK 6 (thenK (fun fr H => F4_22 (fr 5) H Q) (xRet Tryz.prog [.tmp 4] Q))) fr H := by
  obtain ⟨I, μ, h0, hr⟩ := h
  refine loop_cut (a := (Code.l (Code.l (Code.r (Code.l (Code.r (Code.r (Code.r (Code.r (Code.r (Code.r (Code.r (Code.r (Code.r (Code.r (Code.r (Code.r (Code.r (Code.r (Code.r (Code.r (Code.r (Code.r (Code.r (Code.r (Code.r (bodyOf Tryz.f4))))))))))))))))))))))))))) (by kernel_rfl) (fun fr1 H1 => fr1 1 = fr 1 ∧ fr1 5 = fr 5 ∧ fr1 6 = fr 6 ∧ fr1 7 = fr 7 ∧ I (fr1 20) H1) (fun fr1 H1 => μ (fr1 20) H1) (by exact ⟨rfl, rfl, rfl, rfl, h0⟩) ?_
  intro fr1 H1 hI
  obtain ⟨hu1, hu5, hu6, hu7, hI⟩ := hI
  have hb := hr (fr1 20) H1 hI
  rw [← hu1] at hb; rw [← hu5] at hb; rw [← hu6] at hb; rw [← hu7] at hb
  refine ⟨_, ?_, A4_26 hb⟩
  intro fr2 H2 hj
  obtain ⟨ku1, ku5, ku6, ku7, hI2, hlt⟩ := hj
  exact ⟨⟨(ku1.trans hu1), (ku5.trans hu5), (ku6.trans hu6), (ku7.trans hu7), hI2⟩, hlt⟩
theorem A4_24 {fr : Fr} {H : Hp} {Q : Value → Hp → Prop} (h : F4_24 (fr 1) (fr 5) (fr 6) (fr 7) (fr 20) H Q) : xCode Tryz.prog 177 (Code.r (Code.l (Code.r (Code.r (Code.r (Code.r (Code.r (Code.r (Code.r (Code.r (Code.r (Code.r (Code.r (Code.r (Code.r (Code.r (Code.r (Code.r (Code.r (Code.r (Code.r (Code.r (Code.r (bodyOf Tryz.f4)))))))))))))))))))))))) (thenK (fun fr H => F4_22 (fr 5) H Q) (xRet Tryz.prog [.tmp 4] Q)) fr H :=
  block_cut (by kernel_rfl) (A4_25 h)
theorem A4_27 {fr : Fr} {H : Hp} {Q : Value → Hp → Prop} (h : F4_27 (fr 1) (fr 5) (fr 6) (fr 7) H Q) : xCode Tryz.prog 177 (Code.l (Code.l (Code.r (Code.r (Code.r (Code.r (Code.r (Code.r (Code.r (Code.r (Code.r (Code.r (Code.r (Code.r (Code.r (Code.r (Code.r (Code.r (Code.r (Code.r (Code.r (Code.r (Code.r (bodyOf Tryz.f4)))))))))))))))))))))))) (thenK (fun fr H => F4_24 (fr 1) (fr 5) (fr 6) (fr 7) (fr 20) H Q) (thenK (fun fr H => F4_22 (fr 5) H Q) (xRet Tryz.prog [.tmp 4] Q))) fr H :=
  Eq.mp (by kernel_rfl) h
theorem A4_23 {fr : Fr} {H : Hp} {Q : Value → Hp → Prop} (h : F4_23 (fr 1) (fr 5) (fr 6) (fr 7) H Q) : xCode Tryz.prog 177 (Code.l (Code.r (Code.r (Code.r (Code.r (Code.r (Code.r (Code.r (Code.r (Code.r (Code.r (Code.r (Code.r (Code.r (Code.r (Code.r (Code.r (Code.r (Code.r (Code.r (Code.r (Code.r (bodyOf Tryz.f4))))))))))))))))))))))) (thenK (fun fr H => F4_22 (fr 5) H Q) (xRet Tryz.prog [.tmp 4] Q)) fr H :=
  seq_cut (by kernel_rfl) (fun _ _ h => A4_24 h) (A4_27 h)
theorem A4_21 {fr : Fr} {H : Hp} {Q : Value → Hp → Prop} (h : F4_21 (fr 1) (fr 5) (fr 6) (fr 7) H Q) : xCode Tryz.prog 177 (Code.r (Code.r (Code.r (Code.r (Code.r (Code.r (Code.r (Code.r (Code.r (Code.r (Code.r (Code.r (Code.r (Code.r (Code.r (Code.r (Code.r (Code.r (Code.r (Code.r (Code.r (bodyOf Tryz.f4)))))))))))))))))))))) (xRet Tryz.prog [.tmp 4] Q) fr H :=
  seq_cut (by kernel_rfl) (fun _ _ h => A4_22 h) (A4_23 h)
theorem A4_28 {fr : Fr} {H : Hp} {Q : Value → Hp → Prop} (h : F4_28 (fr 1) (fr 5) (fr 6) (fr 7) H Q) : xCode Tryz.prog 177 (Code.l (Code.r (Code.r (Code.r (Code.r (Code.r (Code.r (Code.r (Code.r (Code.r (Code.r (Code.r (Code.r (Code.r (Code.r (Code.r (Code.r (Code.r (Code.r (Code.r (Code.r (bodyOf Tryz.f4)))))))))))))))))))))) (thenK (fun fr H => F4_21 (fr 1) (fr 5) (fr 6) (fr 7) H Q) (xRet Tryz.prog [.tmp 4] Q)) fr H :=
  Eq.mp (by kernel_rfl) h
theorem A4_20 {fr : Fr} {H : Hp} {Q : Value → Hp → Prop} (h : F4_20 (fr 1) (fr 5) (fr 6) (fr 7) H Q) : xCode Tryz.prog 177 (Code.r (Code.r (Code.r (Code.r (Code.r (Code.r (Code.r (Code.r (Code.r (Code.r (Code.r (Code.r (Code.r (Code.r (Code.r (Code.r (Code.r (Code.r (Code.r (Code.r (bodyOf Tryz.f4))))))))))))))))))))) (xRet Tryz.prog [.tmp 4] Q) fr H :=
  seq_cut (by kernel_rfl) (fun _ _ h => A4_21 h) (A4_28 h)
theorem A4_32 {fr : Fr} {H : Hp} {R31 : Value → Value → Value → Value → Value →  Hp → Prop} {Q : Value → Hp → Prop} (h : F4_32 (fr 1) (fr 5) (fr 6) (fr 7) (fr 19) H R31 Q) : xCode Tryz.prog 177 (Code.l (Code.l (Code.r (Code.l (Code.r (Code.r (Code.r (Code.r (Code.r (Code.r (Code.r (Code.r (Code.r (Code.r (Code.r (Code.r (Code.r (Code.r (Code.r (Code.r (Code.r (Code.r (Code.r (bodyOf Tryz.f4)))))))))))))))))))))))) (thenK (fun fr H => R31 (fr 1) (fr 5) (fr 6) (fr 7) (fr 19) H) (blockK 4 (thenK (fun fr H => F4_20 (fr 1) (fr 5) (fr 6) (fr 7) H Q) (xRet Tryz.prog [.tmp 4] Q)))) fr H :=
  Eq.mp (by kernel_rfl) h
theorem A4_31 {fr : Fr} {H : Hp} {Q : Value → Hp → Prop} (h : F4_31 (fr 1) (fr 5) (fr 6) (fr 7) (fr 19) H Q) : xCode Tryz.prog 177 (Code.l (Code.r (Code.l (Code.r (Code.r (Code.r (Code.r (Code.r (Code.r (Code.r (Code.r (Code.r (Code.r (Code.r (Code.r (Code.r (Code.r (Code.r (Code.r (Code.r (Code.r (Code.r (bodyOf Tryz.f4))))))))))))))))))))))) (blockK 4 (thenK (fun fr H => F4_20 (fr 1) (fr 5) (fr 6) (fr 7) H Q) (xRet Tryz.prog [.tmp 4] Q))) fr H := by
  obtain ⟨I, μ, h0, hr⟩ := h
  refine loop_cut (a := (Code.l (Code.l (Code.r (Code.l (Code.r (Code.r (Code.r (Code.r (Code.r (Code.r (Code.r (Code.r (Code.r (Code.r (Code.r (Code.r (Code.r (Code.r (Code.r (Code.r (Code.r (Code.r (Code.r (bodyOf Tryz.f4))))))))))))))))))))))))) (by kernel_rfl) (fun fr1 H1 => fr1 1 = fr 1 ∧ fr1 5 = fr 5 ∧ fr1 6 = fr 6 ∧ fr1 7 = fr 7 ∧ I (fr1 19) H1) (fun fr1 H1 => μ (fr1 19) H1) (by exact ⟨rfl, rfl, rfl, rfl, h0⟩) ?_
  intro fr1 H1 hI
  obtain ⟨hu1, hu5, hu6, hu7, hI⟩ := hI
  have hb := hr (fr1 19) H1 hI
  rw [← hu1] at hb; rw [← hu5] at hb; rw [← hu6] at hb; rw [← hu7] at hb
  refine ⟨_, ?_, A4_32 hb⟩
  intro fr2 H2 hj
  obtain ⟨ku1, ku5, ku6, ku7, hI2, hlt⟩ := hj
  exact ⟨⟨(ku1.trans hu1), (ku5.trans hu5), (ku6.trans hu6), (ku7.trans hu7), hI2⟩, hlt⟩
theorem A4_30 {fr : Fr} {H : Hp} {Q : Value → Hp → Prop} (h : F4_30 (fr 1) (fr 5) (fr 6) (fr 7) (fr 19) H Q) : xCode Tryz.prog 177 (Code.r (Code.l (Code.r (Code.r (Code.r (Code.r (Code.r (Code.r (Code.r (Code.r (Code.r (Code.r (Code.r (Code.r (Code.r (Code.r (Code.r (Code.r (Code.r (Code.r (Code.r (bodyOf Tryz.f4)))))))))))))))))))))) (thenK (fun fr H => F4_20 (fr 1) (fr 5) (fr 6) (fr 7) H Q) (xRet Tryz.prog [.tmp 4] Q)) fr H :=
  block_cut (by kernel_rfl) (A4_31 h)
theorem A4_33 {fr : Fr} {H : Hp} {Q : Value → Hp → Prop} (h : F4_33 (fr 1) (fr 5) (fr 6) (fr 7) H Q) : xCode Tryz.prog 177 (Code.l (Code.l (Code.r (Code.r (Code.r (Code.r (Code.r (Code.r (Code.r (Code.r (Code.r (Code.r (Code.r (Code.r (Code.r (Code.r (Code.r (Code.r (Code.r (Code.r (Code.r (bodyOf Tryz.f4)))))))))))))))))))))) (thenK (fun fr H => F4_30 (fr 1) (fr 5) (fr 6) (fr 7) (fr 19) H Q) (thenK (fun fr H => F4_20 (fr 1) (fr 5) (fr 6) (fr 7) H Q) (xRet Tryz.prog [.tmp 4] Q))) fr H :=
  Eq.mp (by kernel_rfl) h
theorem A4_29 {fr : Fr} {H : Hp} {Q : Value → Hp → Prop} (h : F4_29 (fr 1) (fr 5) (fr 6) (fr 7) H Q) : xCode Tryz.prog 177 (Code.l (Code.r (Code.r (Code.r (Code.r (Code.r (Code.r (Code.r (Code.r (Code.r (Code.r (Code.r (Code.r (Code.r (Code.r (Code.r (Code.r (Code.r (Code.r (Code.r (bodyOf Tryz.f4))))))))))))))))))))) (thenK (fun fr H => F4_20 (fr 1) (fr 5) (fr 6) (fr 7) H Q) (xRet Tryz.prog [.tmp 4] Q)) fr H :=
  seq_cut (by kernel_rfl) (fun _ _ h => A4_30 h) (A4_33 h)
theorem A4_19 {fr : Fr} {H : Hp} {Q : Value → Hp → Prop} (h : F4_19 (fr 1) (fr 5) (fr 6) (fr 7) H Q) : xCode Tryz.prog 177 (Code.r (Code.r (Code.r (Code.r (Code.r (Code.r (Code.r (Code.r (Code.r (Code.r (Code.r (Code.r (Code.r (Code.r (Code.r (Code.r (Code.r (Code.r (Code.r (bodyOf Tryz.f4)))))))))))))))))))) (xRet Tryz.prog [.tmp 4] Q) fr H :=
  seq_cut (by kernel_rfl) (fun _ _ h => A4_20 h) (A4_29 h)
theorem A4_34 {fr : Fr} {H : Hp} {Q : Value → Hp → Prop} (h : F4_34 (fr 1) (fr 5) (fr 6) (fr 7) (fr 17) (fr 18) H Q) : xCode Tryz.prog 177 (Code.l (Code.r (Code.r (Code.r (Code.r (Code.r (Code.r (Code.r (Code.r (Code.r (Code.r (Code.r (Code.r (Code.r (Code.r (Code.r (Code.r (Code.r (Code.r (bodyOf Tryz.f4)))))))))))))))))))) (thenK (fun fr H => F4_19 (fr 1) (fr 5) (fr 6) (fr 7) H Q) (xRet Tryz.prog [.tmp 4] Q)) fr H :=
  Eq.mp (by kernel_rfl) h
theorem A4_18 {fr : Fr} {H : Hp} {Q : Value → Hp → Prop} (h : F4_18 (fr 1) (fr 5) (fr 6) (fr 7) (fr 17) (fr 18) H Q) : xCode Tryz.prog 177 (Code.r (Code.r (Code.r (Code.r (Code.r (Code.r (Code.r (Code.r (Code.r (Code.r (Code.r (Code.r (Code.r (Code.r (Code.r (Code.r (Code.r (Code.r (bodyOf Tryz.f4))))))))))))))))))) (xRet Tryz.prog [.tmp 4] Q) fr H :=
  seq_cut (by kernel_rfl) (fun _ _ h => A4_19 h) (A4_34 h)
theorem A4_35 {fr : Fr} {H : Hp} {Q : Value → Hp → Prop} (h : F4_35 (fr 1) (fr 5) (fr 6) (fr 7) (fr 17) (fr 18) H Q) : xCode Tryz.prog 177 (Code.l (Code.r (Code.r (Code.r (Code.r (Code.r (Code.r (Code.r (Code.r (Code.r (Code.r (Code.r (Code.r (Code.r (Code.r (Code.r (Code.r (Code.r (bodyOf Tryz.f4))))))))))))))))))) (thenK (fun fr H => F4_18 (fr 1) (fr 5) (fr 6) (fr 7) (fr 17) (fr 18) H Q) (xRet Tryz.prog [.tmp 4] Q)) fr H :=
  Eq.mp (by kernel_rfl) h
theorem A4_17 {fr : Fr} {H : Hp} {Q : Value → Hp → Prop} (h : F4_17 (fr 1) (fr 5) (fr 6) (fr 7) (fr 17) (fr 18) H Q) : xCode Tryz.prog 177 (Code.r (Code.r (Code.r (Code.r (Code.r (Code.r (Code.r (Code.r (Code.r (Code.r (Code.r (Code.r (Code.r (Code.r (Code.r (Code.r (Code.r (bodyOf Tryz.f4)))))))))))))))))) (xRet Tryz.prog [.tmp 4] Q) fr H :=
  seq_cut (by kernel_rfl) (fun _ _ h => A4_18 h) (A4_35 h)
theorem A4_36 {fr : Fr} {H : Hp} {Q : Value → Hp → Prop} (h : F4_36 (fr 1) (fr 5) (fr 6) (fr 7) (fr 17) H Q) : xCode Tryz.prog 177 (Code.l (Code.r (Code.r (Code.r (Code.r (Code.r (Code.r (Code.r (Code.r (Code.r (Code.r (Code.r (Code.r (Code.r (Code.r (Code.r (Code.r (bodyOf Tryz.f4)))))))))))))))))) (thenK (fun fr H => F4_17 (fr 1) (fr 5) (fr 6) (fr 7) (fr 17) (fr 18) H Q) (xRet Tryz.prog [.tmp 4] Q)) fr H :=
  Eq.mp (by kernel_rfl) h
theorem A4_16 {fr : Fr} {H : Hp} {Q : Value → Hp → Prop} (h : F4_16 (fr 1) (fr 5) (fr 6) (fr 7) (fr 17) H Q) : xCode Tryz.prog 177 (Code.r (Code.r (Code.r (Code.r (Code.r (Code.r (Code.r (Code.r (Code.r (Code.r (Code.r (Code.r (Code.r (Code.r (Code.r (Code.r (bodyOf Tryz.f4))))))))))))))))) (xRet Tryz.prog [.tmp 4] Q) fr H :=
  seq_cut (by kernel_rfl) (fun _ _ h => A4_17 h) (A4_36 h)
theorem A4_37 {fr : Fr} {H : Hp} {Q : Value → Hp → Prop} (h : F4_37 (fr 1) (fr 5) (fr 6) (fr 7) H Q) : xCode Tryz.prog 177 (Code.l (Code.r (Code.r (Code.r (Code.r (Code.r (Code.r (Code.r (Code.r (Code.r (Code.r (Code.r (Code.r (Code.r (Code.r (Code.r (bodyOf Tryz.f4))))))))))))))))) (thenK (fun fr H => F4_16 (fr 1) (fr 5) (fr 6) (fr 7) (fr 17) H Q) (xRet Tryz.prog [.tmp 4] Q)) fr H :=
  Eq.mp (by kernel_rfl) h
theorem A4_15 {fr : Fr} {H : Hp} {Q : Value → Hp → Prop} (h : F4_15 (fr 1) (fr 5) (fr 6) (fr 7) H Q) : xCode Tryz.prog 177 (Code.r (Code.r (Code.r (Code.r (Code.r (Code.r (Code.r (Code.r (Code.r (Code.r (Code.r (Code.r (Code.r (Code.r (Code.r (bodyOf Tryz.f4)))))))))))))))) (xRet Tryz.prog [.tmp 4] Q) fr H :=
  seq_cut (by kernel_rfl) (fun _ _ h => A4_16 h) (A4_37 h)
theorem A4_38 {fr : Fr} {H : Hp} {Q : Value → Hp → Prop} (h : F4_38 (fr 1) (fr 5) (fr 6) (fr 7) (fr 15) H Q) : xCode Tryz.prog 177 (Code.l (Code.r (Code.r (Code.r (Code.r (Code.r (Code.r (Code.r (Code.r (Code.r (Code.r (Code.r (Code.r (Code.r (Code.r (bodyOf Tryz.f4)))))))))))))))) (thenK (fun fr H => F4_15 (fr 1) (fr 5) (fr 6) (fr 7) H Q) (xRet Tryz.prog [.tmp 4] Q)) fr H :=
  Eq.mp (by kernel_rfl) h
theorem A4_14 {fr : Fr} {H : Hp} {Q : Value → Hp → Prop} (h : F4_14 (fr 1) (fr 5) (fr 6) (fr 7) (fr 15) H Q) : xCode Tryz.prog 177 (Code.r (Code.r (Code.r (Code.r (Code.r (Code.r (Code.r (Code.r (Code.r (Code.r (Code.r (Code.r (Code.r (Code.r (bodyOf Tryz.f4))))))))))))))) (xRet Tryz.prog [.tmp 4] Q) fr H :=
  seq_cut (by kernel_rfl) (fun _ _ h => A4_15 h) (A4_38 h)
theorem A4_39 {fr : Fr} {H : Hp} {Q : Value → Hp → Prop} (h : F4_39 (fr 1) (fr 5) (fr 6) (fr 7) H Q) : xCode Tryz.prog 177 (Code.l (Code.r (Code.r (Code.r (Code.r (Code.r (Code.r (Code.r (Code.r (Code.r (Code.r (Code.r (Code.r (Code.r (bodyOf Tryz.f4))))))))))))))) (thenK (fun fr H => F4_14 (fr 1) (fr 5) (fr 6) (fr 7) (fr 15) H Q) (xRet Tryz.prog [.tmp 4] Q)) fr H :=
  Eq.mp (by kernel_rfl) h
theorem A4_13 {fr : Fr} {H : Hp} {Q : Value → Hp → Prop} (h : F4_13 (fr 1) (fr 5) (fr 6) (fr 7) H Q) : xCode Tryz.prog 177 (Code.r (Code.r (Code.r (Code.r (Code.r (Code.r (Code.r (Code.r (Code.r (Code.r (Code.r (Code.r (Code.r (bodyOf Tryz.f4)))))))))))))) (xRet Tryz.prog [.tmp 4] Q) fr H :=
  seq_cut (by kernel_rfl) (fun _ _ h => A4_14 h) (A4_39 h)
theorem A4_40 {fr : Fr} {H : Hp} {Q : Value → Hp → Prop} (h : F4_40 (fr 1) (fr 5) (fr 6) (fr 7) (fr 13) H Q) : xCode Tryz.prog 177 (Code.l (Code.r (Code.r (Code.r (Code.r (Code.r (Code.r (Code.r (Code.r (Code.r (Code.r (Code.r (Code.r (bodyOf Tryz.f4)))))))))))))) (thenK (fun fr H => F4_13 (fr 1) (fr 5) (fr 6) (fr 7) H Q) (xRet Tryz.prog [.tmp 4] Q)) fr H :=
  Eq.mp (by kernel_rfl) h
theorem A4_12 {fr : Fr} {H : Hp} {Q : Value → Hp → Prop} (h : F4_12 (fr 1) (fr 5) (fr 6) (fr 7) (fr 13) H Q) : xCode Tryz.prog 177 (Code.r (Code.r (Code.r (Code.r (Code.r (Code.r (Code.r (Code.r (Code.r (Code.r (Code.r (Code.r (bodyOf Tryz.f4))))))))))))) (xRet Tryz.prog [.tmp 4] Q) fr H :=
  seq_cut (by kernel_rfl) (fun _ _ h => A4_13 h) (A4_40 h)
theorem A4_41 {fr : Fr} {H : Hp} {Q : Value → Hp → Prop} (h : F4_41 (fr 1) (fr 5) (fr 6) (fr 7) (fr 13) H Q) : xCode Tryz.prog 177 (Code.l (Code.r (Code.r (Code.r (Code.r (Code.r (Code.r (Code.r (Code.r (Code.r (Code.r (Code.r (bodyOf Tryz.f4))))))))))))) (thenK (fun fr H => F4_12 (fr 1) (fr 5) (fr 6) (fr 7) (fr 13) H Q) (xRet Tryz.prog [.tmp 4] Q)) fr H :=
  Eq.mp (by kernel_rfl) h
theorem A4_11 {fr : Fr} {H : Hp} {Q : Value → Hp → Prop} (h : F4_11 (fr 1) (fr 5) (fr 6) (fr 7) (fr 13) H Q) : xCode Tryz.prog 177 (Code.r (Code.r (Code.r (Code.r (Code.r (Code.r (Code.r (Code.r (Code.r (Code.r (Code.r (bodyOf Tryz.f4)))))))))))) (xRet Tryz.prog [.tmp 4] Q) fr H :=
  seq_cut (by kernel_rfl) (fun _ _ h => A4_12 h) (A4_41 h)
theorem A4_42 {fr : Fr} {H : Hp} {Q : Value → Hp → Prop} (h : F4_42 (fr 1) (fr 5) (fr 6) (fr 7) (fr 13) (fr 14) H Q) : xCode Tryz.prog 177 (Code.l (Code.r (Code.r (Code.r (Code.r (Code.r (Code.r (Code.r (Code.r (Code.r (Code.r (bodyOf Tryz.f4)))))))))))) (thenK (fun fr H => F4_11 (fr 1) (fr 5) (fr 6) (fr 7) (fr 13) H Q) (xRet Tryz.prog [.tmp 4] Q)) fr H :=
  Eq.mp (by kernel_rfl) h
theorem A4_10 {fr : Fr} {H : Hp} {Q : Value → Hp → Prop} (h : F4_10 (fr 1) (fr 5) (fr 6) (fr 7) (fr 13) (fr 14) H Q) : xCode Tryz.prog 177 (Code.r (Code.r (Code.r (Code.r (Code.r (Code.r (Code.r (Code.r (Code.r (Code.r (bodyOf Tryz.f4))))))))))) (xRet Tryz.prog [.tmp 4] Q) fr H :=
  seq_cut (by kernel_rfl) (fun _ _ h => A4_11 h) (A4_42 h)
theorem A4_43 {fr : Fr} {H : Hp} {Q : Value → Hp → Prop} (h : F4_43 (fr 1) (fr 5) (fr 6) (fr 7) H Q) : xCode Tryz.prog 177 (Code.l (Code.r (Code.r (Code.r (Code.r (Code.r (Code.r (Code.r (Code.r (Code.r (bodyOf Tryz.f4))))))))))) (thenK (fun fr H => F4_10 (fr 1) (fr 5) (fr 6) (fr 7) (fr 13) (fr 14) H Q) (xRet Tryz.prog [.tmp 4] Q)) fr H :=
  Eq.mp (by kernel_rfl) h
theorem A4_9 {fr : Fr} {H : Hp} {Q : Value → Hp → Prop} (h : F4_9 (fr 1) (fr 5) (fr 6) (fr 7) H Q) : xCode Tryz.prog 177 (Code.r (Code.r (Code.r (Code.r (Code.r (Code.r (Code.r (Code.r (Code.r (bodyOf Tryz.f4)))))))))) (xRet Tryz.prog [.tmp 4] Q) fr H :=
  seq_cut (by kernel_rfl) (fun _ _ h => A4_10 h) (A4_43 h)
theorem A4_47 {fr : Fr} {H : Hp} {R46 : Value → Value → Value → Value → Value →  Hp → Prop} {Q : Value → Hp → Prop} (h : F4_47 (fr 1) (fr 5) (fr 6) (fr 7) (fr 10) H R46 Q) : xCode Tryz.prog 177 (Code.l (Code.l (Code.r (Code.l (Code.r (Code.r (Code.r (Code.r (Code.r (Code.r (Code.r (Code.r (bodyOf Tryz.f4))))))))))))) (thenK (fun fr H => R46 (fr 1) (fr 5) (fr 6) (fr 7) (fr 10) H) (blockK 2 (thenK (fun fr H => F4_9 (fr 1) (fr 5) (fr 6) (fr 7) H Q) (xRet Tryz.prog [.tmp 4] Q)))) fr H :=
  Eq.mp (by kernel_rfl) h
theorem A4_46 {fr : Fr} {H : Hp} {Q : Value → Hp → Prop} (h : F4_46 (fr 1) (fr 5) (fr 6) (fr 7) (fr 10) H Q) : xCode Tryz.prog 177 (Code.l (Code.r (Code.l (Code.r (Code.r (Code.r (Code.r (Code.r (Code.r (Code.r (Code.r (bodyOf Tryz.f4)))))))))))) (blockK 2 (thenK (fun fr H => F4_9 (fr 1) (fr 5) (fr 6) (fr 7) H Q) (xRet Tryz.prog [.tmp 4] Q))) fr H := by
  obtain ⟨I, μ, h0, hr⟩ := h
  refine loop_cut (a := (Code.l (Code.l (Code.r (Code.l (Code.r (Code.r (Code.r (Code.r (Code.r (Code.r (Code.r (Code.r (bodyOf Tryz.f4)))))))))))))) (by kernel_rfl) (fun fr1 H1 => fr1 1 = fr 1 ∧ fr1 5 = fr 5 ∧ fr1 6 = fr 6 ∧ fr1 7 = fr 7 ∧ I (fr1 10) H1) (fun fr1 H1 => μ (fr1 10) H1) (by exact ⟨rfl, rfl, rfl, rfl, h0⟩) ?_
  intro fr1 H1 hI
  obtain ⟨hu1, hu5, hu6, hu7, hI⟩ := hI
  have hb := hr (fr1 10) H1 hI
  rw [← hu1] at hb; rw [← hu5] at hb; rw [← hu6] at hb; rw [← hu7] at hb
  refine ⟨_, ?_, A4_47 hb⟩
  intro fr2 H2 hj
  obtain ⟨ku1, ku5, ku6, ku7, hI2, hlt⟩ := hj
  exact ⟨⟨(ku1.trans hu1), (ku5.trans hu5), (ku6.trans hu6), (ku7.trans hu7), hI2⟩, hlt⟩
theorem A4_45 {fr : Fr} {H : Hp} {Q : Value → Hp → Prop} (h : F4_45 (fr 1) (fr 5) (fr 6) (fr 7) (fr 10) H Q) : xCode Tryz.prog 177 (Code.r (Code.l (Code.r (Code.r (Code.r (Code.r (Code.r (Code.r (Code.r (Code.r (bodyOf Tryz.f4))))))))))) (thenK (fun fr H => F4_9 (fr 1) (fr 5) (fr 6) (fr 7) H Q) (xRet Tryz.prog [.tmp 4] Q)) fr H :=
  block_cut (by kernel_rfl) (A4_46 h)
theorem A4_48 {fr : Fr} {H : Hp} {Q : Value → Hp → Prop} (h : F4_48 (fr 1) (fr 5) (fr 6) (fr 7) H Q) : xCode Tryz.prog 177 (Code.l (Code.l (Code.r (Code.r (Code.r (Code.r (Code.r (Code.r (Code.r (Code.r (bodyOf Tryz.f4))))))))))) (thenK (fun fr H => F4_45 (fr 1) (fr 5) (fr 6) (fr 7) (fr 10) H Q) (thenK (fun fr H => F4_9 (fr 1) (fr 5) (fr 6) (fr 7) H Q) (xRet Tryz.prog [.tmp 4] Q))) fr H :=
  Eq.mp (by kernel_rfl) h
theorem A4_44 {fr : Fr} {H : Hp} {Q : Value → Hp → Prop} (h : F4_44 (fr 1) (fr 5) (fr 6) (fr 7) H Q) : xCode Tryz.prog 177 (Code.l (Code.r (Code.r (Code.r (Code.r (Code.r (Code.r (Code.r (Code.r (bodyOf Tryz.f4)))))))))) (thenK (fun fr H => F4_9 (fr 1) (fr 5) (fr 6) (fr 7) H Q) (xRet Tryz.prog [.tmp 4] Q)) fr H :=
  seq_cut (by kernel_rfl) (fun _ _ h => A4_45 h) (A4_48 h)
theorem A4_8 {fr : Fr} {H : Hp} {Q : Value → Hp → Prop} (h : F4_8 (fr 1) (fr 5) (fr 6) (fr 7) H Q) : xCode Tryz.prog 177 (Code.r (Code.r (Code.r (Code.r (Code.r (Code.r (Code.r (Code.r (bodyOf Tryz.f4))))))))) (xRet Tryz.prog [.tmp 4] Q) fr H :=
  seq_cut (by kernel_rfl) (fun _ _ h => A4_9 h) (A4_44 h)
theorem A4_49 {fr : Fr} {H : Hp} {Q : Value → Hp → Prop} (h : F4_49 (fr 1) (fr 5) (fr 6) (fr 7) H Q) : xCode Tryz.prog 177 (Code.l (Code.r (Code.r (Code.r (Code.r (Code.r (Code.r (Code.r (bodyOf Tryz.f4))))))))) (thenK (fun fr H => F4_8 (fr 1) (fr 5) (fr 6) (fr 7) H Q) (xRet Tryz.prog [.tmp 4] Q)) fr H :=
  Eq.mp (by kernel_rfl) h
theorem A4_7 {fr : Fr} {H : Hp} {Q : Value → Hp → Prop} (h : F4_7 (fr 1) (fr 5) (fr 6) (fr 7) H Q) : xCode Tryz.prog 177 (Code.r (Code.r (Code.r (Code.r (Code.r (Code.r (Code.r (bodyOf Tryz.f4)))))))) (xRet Tryz.prog [.tmp 4] Q) fr H :=
  seq_cut (by kernel_rfl) (fun _ _ h => A4_8 h) (A4_49 h)
theorem A4_53 {fr : Fr} {H : Hp} {R52 : Value → Value → Value → Value → Value →  Hp → Prop} {Q : Value → Hp → Prop} (h : F4_53 (fr 1) (fr 5) (fr 6) (fr 7) (fr 9) H R52 Q) : xCode Tryz.prog 177 (Code.l (Code.l (Code.r (Code.l (Code.r (Code.r (Code.r (Code.r (Code.r (Code.r (bodyOf Tryz.f4))))))))))) (thenK (fun fr H => R52 (fr 1) (fr 5) (fr 6) (fr 7) (fr 9) H) (blockK 0 (thenK (fun fr H => F4_7 (fr 1) (fr 5) (fr 6) (fr 7) H Q) (xRet Tryz.prog [.tmp 4] Q)))) fr H :=
  Eq.mp (by kernel_rfl) h
theorem A4_52 {fr : Fr} {H : Hp} {Q : Value → Hp → Prop} (h : F4_52 (fr 1) (fr 5) (fr 6) (fr 7) (fr 9) H Q) : xCode Tryz.prog 177 (Code.l (Code.r (Code.l (Code.r (Code.r (Code.r (Code.r (Code.r (Code.r (bodyOf Tryz.f4)))))))))) (blockK 0 (thenK (fun fr H => F4_7 (fr 1) (fr 5) (fr 6) (fr 7) H Q) (xRet Tryz.prog [.tmp 4] Q))) fr H := by
  obtain ⟨I, μ, h0, hr⟩ := h
  refine loop_cut (a := (Code.l (Code.l (Code.r (Code.l (Code.r (Code.r (Code.r (Code.r (Code.r (Code.r (bodyOf Tryz.f4)))))))))))) (by kernel_rfl) (fun fr1 H1 => fr1 1 = fr 1 ∧ fr1 5 = fr 5 ∧ fr1 6 = fr 6 ∧ fr1 7 = fr 7 ∧ I (fr1 9) H1) (fun fr1 H1 => μ (fr1 9) H1) (by exact ⟨rfl, rfl, rfl, rfl, h0⟩) ?_
  intro fr1 H1 hI
  obtain ⟨hu1, hu5, hu6, hu7, hI⟩ := hI
  have hb := hr (fr1 9) H1 hI
  rw [← hu1] at hb; rw [← hu5] at hb; rw [← hu6] at hb; rw [← hu7] at hb
  refine ⟨_, ?_, A4_53 hb⟩
  intro fr2 H2 hj
  obtain ⟨ku1, ku5, ku6, ku7, hI2, hlt⟩ := hj
  exact ⟨⟨(ku1.trans hu1), (ku5.trans hu5), (ku6.trans hu6), (ku7.trans hu7), hI2⟩, hlt⟩
theorem A4_51 {fr : Fr} {H : Hp} {Q : Value → Hp → Prop} (h : F4_51 (fr 1) (fr 5) (fr 6) (fr 7) (fr 9) H Q) : xCode Tryz.prog 177 (Code.r (Code.l (Code.r (Code.r (Code.r (Code.r (Code.r (Code.r (bodyOf Tryz.f4))))))))) (thenK (fun fr H => F4_7 (fr 1) (fr 5) (fr 6) (fr 7) H Q) (xRet Tryz.prog [.tmp 4] Q)) fr H :=
  block_cut (by kernel_rfl) (A4_52 h)
theorem A4_54 {fr : Fr} {H : Hp} {Q : Value → Hp → Prop} (h : F4_54 (fr 1) (fr 5) (fr 6) (fr 7) H Q) : xCode Tryz.prog 177 (Code.l (Code.l (Code.r (Code.r (Code.r (Code.r (Code.r (Code.r (bodyOf Tryz.f4))))))))) (thenK (fun fr H => F4_51 (fr 1) (fr 5) (fr 6) (fr 7) (fr 9) H Q) (thenK (fun fr H => F4_7 (fr 1) (fr 5) (fr 6) (fr 7) H Q) (xRet Tryz.prog [.tmp 4] Q))) fr H :=
  Eq.mp (by kernel_rfl) h
theorem A4_50 {fr : Fr} {H : Hp} {Q : Value → Hp → Prop} (h : F4_50 (fr 1) (fr 5) (fr 6) (fr 7) H Q) : xCode Tryz.prog 177 (Code.l (Code.r (Code.r (Code.r (Code.r (Code.r (Code.r (bodyOf Tryz.f4)))))))) (thenK (fun fr H => F4_7 (fr 1) (fr 5) (fr 6) (fr 7) H Q) (xRet Tryz.prog [.tmp 4] Q)) fr H :=
  seq_cut (by kernel_rfl) (fun _ _ h => A4_51 h) (A4_54 h)
theorem A4_6 {fr : Fr} {H : Hp} {Q : Value → Hp → Prop} (h : F4_6 (fr 1) (fr 5) (fr 6) (fr 7) H Q) : xCode Tryz.prog 177 (Code.r (Code.r (Code.r (Code.r (Code.r (Code.r (bodyOf Tryz.f4))))))) (xRet Tryz.prog [.tmp 4] Q) fr H :=
  seq_cut (by kernel_rfl) (fun _ _ h => A4_7 h) (A4_50 h)
theorem A4_55 {fr : Fr} {H : Hp} {Q : Value → Hp → Prop} (h : F4_55 (fr 1) (fr 5) (fr 6) (fr 7) (fr 8) H Q) : xCode Tryz.prog 177 (Code.l (Code.r (Code.r (Code.r (Code.r (Code.r (bodyOf Tryz.f4))))))) (thenK (fun fr H => F4_6 (fr 1) (fr 5) (fr 6) (fr 7) H Q) (xRet Tryz.prog [.tmp 4] Q)) fr H :=
  Eq.mp (by kernel_rfl) h
theorem A4_5 {fr : Fr} {H : Hp} {Q : Value → Hp → Prop} (h : F4_5 (fr 1) (fr 5) (fr 6) (fr 7) (fr 8) H Q) : xCode Tryz.prog 177 (Code.r (Code.r (Code.r (Code.r (Code.r (bodyOf Tryz.f4)))))) (xRet Tryz.prog [.tmp 4] Q) fr H :=
  seq_cut (by kernel_rfl) (fun _ _ h => A4_6 h) (A4_55 h)
theorem A4_56 {fr : Fr} {H : Hp} {Q : Value → Hp → Prop} (h : F4_56 (fr 1) (fr 5) (fr 6) H Q) : xCode Tryz.prog 177 (Code.l (Code.r (Code.r (Code.r (Code.r (bodyOf Tryz.f4)))))) (thenK (fun fr H => F4_5 (fr 1) (fr 5) (fr 6) (fr 7) (fr 8) H Q) (xRet Tryz.prog [.tmp 4] Q)) fr H :=
  Eq.mp (by kernel_rfl) h
theorem A4_4 {fr : Fr} {H : Hp} {Q : Value → Hp → Prop} (h : F4_4 (fr 1) (fr 5) (fr 6) H Q) : xCode Tryz.prog 177 (Code.r (Code.r (Code.r (Code.r (bodyOf Tryz.f4))))) (xRet Tryz.prog [.tmp 4] Q) fr H :=
  seq_cut (by kernel_rfl) (fun _ _ h => A4_5 h) (A4_56 h)
theorem A4_57 {fr : Fr} {H : Hp} {Q : Value → Hp → Prop} (h : F4_57 (fr 0) (fr 1) (fr 5) H Q) : xCode Tryz.prog 177 (Code.l (Code.r (Code.r (Code.r (bodyOf Tryz.f4))))) (thenK (fun fr H => F4_4 (fr 1) (fr 5) (fr 6) H Q) (xRet Tryz.prog [.tmp 4] Q)) fr H :=
  Eq.mp (by kernel_rfl) h
theorem A4_3 {fr : Fr} {H : Hp} {Q : Value → Hp → Prop} (h : F4_3 (fr 0) (fr 1) (fr 5) H Q) : xCode Tryz.prog 177 (Code.r (Code.r (Code.r (bodyOf Tryz.f4)))) (xRet Tryz.prog [.tmp 4] Q) fr H :=
  seq_cut (by kernel_rfl) (fun _ _ h => A4_4 h) (A4_57 h)
theorem A4_58 {fr : Fr} {H : Hp} {Q : Value → Hp → Prop} (h : F4_58 (fr 0) (fr 1) (fr 5) H Q) : xCode Tryz.prog 177 (Code.l (Code.r (Code.r (bodyOf Tryz.f4)))) (thenK (fun fr H => F4_3 (fr 0) (fr 1) (fr 5) H Q) (xRet Tryz.prog [.tmp 4] Q)) fr H :=
  Eq.mp (by kernel_rfl) h
theorem A4_2 {fr : Fr} {H : Hp} {Q : Value → Hp → Prop} (h : F4_2 (fr 0) (fr 1) (fr 5) H Q) : xCode Tryz.prog 177 (Code.r (Code.r (bodyOf Tryz.f4))) (xRet Tryz.prog [.tmp 4] Q) fr H :=
  seq_cut (by kernel_rfl) (fun _ _ h => A4_3 h) (A4_58 h)
theorem A4_59 {fr : Fr} {H : Hp} {Q : Value → Hp → Prop} (h : F4_59 (fr 0) (fr 1) H Q) : xCode Tryz.prog 177 (Code.l (Code.r (bodyOf Tryz.f4))) (thenK (fun fr H => F4_2 (fr 0) (fr 1) (fr 5) H Q) (xRet Tryz.prog [.tmp 4] Q)) fr H :=
  Eq.mp (by kernel_rfl) h
theorem A4_1 {fr : Fr} {H : Hp} {Q : Value → Hp → Prop} (h : F4_1 (fr 0) (fr 1) H Q) : xCode Tryz.prog 177 (Code.r (bodyOf Tryz.f4)) (xRet Tryz.prog [.tmp 4] Q) fr H :=
  seq_cut (by kernel_rfl) (fun _ _ h => A4_2 h) (A4_59 h)
theorem A4_60 {fr : Fr} {H : Hp} {Q : Value → Hp → Prop} (h : F4_60 (fr 0) (fr 1) H Q) : xCode Tryz.prog 177 (Code.l (bodyOf Tryz.f4)) (thenK (fun fr H => F4_1 (fr 0) (fr 1) H Q) (xRet Tryz.prog [.tmp 4] Q)) fr H :=
  Eq.mp (by kernel_rfl) h
theorem A4_0 {fr : Fr} {H : Hp} {Q : Value → Hp → Prop} (h : F4_0 (fr 0) (fr 1) H Q) : xCode Tryz.prog 177 (bodyOf Tryz.f4) (xRet Tryz.prog [.tmp 4] Q) fr H :=
  seq_cut (by kernel_rfl) (fun _ _ h => A4_1 h) (A4_60 h)
theorem E4 {t0 t1 : Value} {H : Hp} {Q : Value → Hp → Prop} (h : F4_0 t0 t1 H Q) : NCalls Tryz.prog 4 #[t0, t1] H Q :=
  NCalls.ofBody (by kernel_rfl) Tryz.func4 (by kernel_rfl) (by kernel_rfl) (Eq.mp (by kernel_rfl) (A4_0 (fr := fun i => (#[t0, t1] : Array Value).getD i undef) (H := H) (Q := Q) (Eq.mp (by kernel_rfl) h)))
def F9_0 (H : Hp) (Q : Value → Hp → Prop) : Prop :=
  q (pv Tryz.prog (Instr.build 23 #[(0, (Value.int IntKind.i64 2)), (1, (Value.int IntKind.i64 1)), (2, (Value.int IntKind.i64 1)), (3, (Value.int IntKind.i64 12))])) fun t12_1 =>
  NCalls Tryz.prog 22 #[t12_1, (Value.int IntKind.i64 64), (Value.slice none 0 0)] H (fun t13_2 H_2 =>
  q (Ex 0 t13_2) fun t14_3 =>
  q (Ex 1 t13_2) fun t15_4 =>
  q (pv Tryz.prog (Op.unary .not t15_4)) fun t17_5 =>
  condV t17_5 (
    Q (Value.bool false) H_2) (
    NCalls Tryz.prog 16 #[t14_3, (Value.int IntKind.i64 0), (Value.int IntKind.i64 0), (Value.bool true)] H_2 (fun t19_6 H_6 =>
    NCalls Tryz.prog 19 #[t14_3] H_6 (fun t21_7 H_7 =>
    NCalls Tryz.prog 20 #[t14_3, (Value.int IntKind.i64 0), (Value.int IntKind.u32 0), (Value.int IntKind.i64 4), (Value.int IntKind.u32 7)] H_7 (fun t23_8 H_8 =>
    NCalls Tryz.prog 18 #[t14_3, (Value.int IntKind.i64 1), (Value.int IntKind.u32 0), (Value.int IntKind.i64 4)] H_8 (fun t26_9 H_9 =>
    q (Ex 0 t26_9) fun t27_10 =>
    q (Ex 1 t26_9) fun t28_11 =>
    NCalls Tryz.prog 16 #[t14_3, (Value.int IntKind.i64 1), (Value.int IntKind.i64 0), (Value.bool false)] H_9 (fun t30_12 H_12 =>
    NCalls Tryz.prog 19 #[t14_3] H_12 (fun t32_13 H_13 =>
    NCalls Tryz.prog 18 #[t14_3, (Value.int IntKind.i64 1), (Value.int IntKind.u32 0), (Value.int IntKind.i64 4)] H_13 (fun t35_14 H_14 =>
    q (Ex 0 t35_14) fun t36_15 =>
    q (Ex 1 t35_14) fun t37_16 =>
    q (gd t19_6 true (some t21_7)) fun t40_17 =>
    q (Pk t19_6 t40_17 (Value.bool false)) fun t41_18 =>
    q (gd t41_18 true (some t23_8)) fun t43_19 =>
    q (Pk t41_18 t43_19 (Value.bool false)) fun t44_20 =>
    q (gd t44_20 true (some t28_11)) fun t46_21 =>
    q (gd t44_20 true (pv Tryz.prog (Op.unary .not t46_21))) fun t47_22 =>
    q (Pk t44_20 t47_22 (Value.bool false)) fun t48_23 =>
    q (gd t48_23 true (some t30_12)) fun t50_24 =>
    q (Pk t48_23 t50_24 (Value.bool false)) fun t51_25 =>
    q (gd t51_25 true (some t37_16)) fun t53_26 =>
    q (Pk t51_25 t53_26 (Value.bool false)) fun t54_27 =>
    q (gd t54_27 true (some t36_15)) fun t56_28 =>
    q (gd t54_27 true (Bin Tryz.prog H_14 .eql 40 true t56_28 (Value.int IntKind.u32 7))) fun t57_29 =>
    q (Pk t54_27 t57_29 (Value.bool false)) fun t58_30 =>
    Q t58_30 H_14)))))))))
theorem A9_0 {fr : Fr} {H : Hp} {Q : Value → Hp → Prop} (h : F9_0 H Q) : xCode Tryz.prog 59 (bodyOf Tryz.f9) (xRet Tryz.prog [.tmp 0] Q) fr H :=
  Eq.mp (by kernel_rfl) h
theorem E9 {H : Hp} {Q : Value → Hp → Prop} (h : F9_0 H Q) : NCalls Tryz.prog 9 #[] H Q :=
  NCalls.ofBody (by kernel_rfl) Tryz.func9 (by kernel_rfl) (by kernel_rfl) (Eq.mp (by kernel_rfl) (A9_0 (fr := fun i => (#[] : Array Value).getD i undef) (H := H) (Q := Q) (Eq.mp (by kernel_rfl) h)))
def F10_0 (t0 : Value) (H : Hp) (Q : Value → Hp → Prop) : Prop :=
  New (Value.cells t0) 23 H (fun t1_1 H_1 =>
  q (Fa 1 t1_1) fun t6_2 =>
  q (Ld H_1 t6_2) fun t7_3 =>
  q (Fa 2 t1_1) fun t8_4 =>
  q (Ld H_1 t8_4) fun t9_5 =>
  NCalls Tryz.prog 35 #[t7_3, t9_5] H_1 (fun t10_6 H_6 =>
  q (Ex 0 t10_6) fun t11_7 =>
  q (Ex 1 t10_6) fun t12_8 =>
  q (Fa 0 t1_1) fun t13_9 =>
  q (Ld H_6 t13_9) fun t14_10 =>
  q (Bin Tryz.prog H_6 .lss 3 true t14_10 (Value.int IntKind.i64 1)) fun t15_11 =>
  q (gd t15_11 false (Fa 0 t1_1)) fun t17_12 =>
  q (gd t15_11 false (Ld H_6 t17_12)) fun t18_13 =>
  q (gd t15_11 false (Bin Tryz.prog H_6 .gtr 3 true t18_13 (Value.int IntKind.i64 4))) fun t19_14 =>
  q (Pk t15_11 (Value.bool true) t19_14) fun t20_15 =>
  q (gd t20_15 false (some t12_8)) fun t22_16 =>
  q (gd t20_15 false (Bin Tryz.prog H_6 .neq 26 true t22_16 Value.nilIface)) fun t23_17 =>
  q (Pk t20_15 (Value.bool true) t23_17) fun t24_18 =>
  q (gd t24_18 false (Fa 3 t1_1)) fun t26_19 =>
  q (gd t24_18 false (Ld H_6 t26_19)) fun t27_20 =>
  q (gd t24_18 false (Fa 0 t1_1)) fun t28_21 =>
  q (gd t24_18 false (Ld H_6 t28_21)) fun t29_22 =>
  q (gd t24_18 false (Bin Tryz.prog H_6 .mul 3 true (Value.int IntKind.i64 6) t29_22)) fun t30_23 =>
  q (gd t24_18 false (Bin Tryz.prog H_6 .lss 3 false t27_20 t30_23)) fun t31_24 =>
  q (Pk t24_18 (Value.bool true) t31_24) fun t32_25 =>
  q (gd t32_25 false (Fa 3 t1_1)) fun t34_26 =>
  q (gd t32_25 false (Ld H_6 t34_26)) fun t35_27 =>
  q (gd t32_25 false (Bin Tryz.prog H_6 .gtr 3 true t35_27 (Value.int IntKind.i64 64))) fun t36_28 =>
  q (Pk t32_25 (Value.bool true) t36_28) fun t37_29 =>
  condV t37_29 (
    q (Ld H_6 (Value.pointer (some ⟨0, 0, none⟩))) fun t38_30 =>
    Q t38_30 H_6) (
    Q Value.nilIface H_6)))
theorem A10_0 {fr : Fr} {H : Hp} {Q : Value → Hp → Prop} (h : F10_0 (fr 0) H Q) : xCode Tryz.prog 39 (bodyOf Tryz.f10) (xRet Tryz.prog [.tmp 2] Q) fr H :=
  Eq.mp (by kernel_rfl) h
theorem E10 {t0 : Value} {H : Hp} {Q : Value → Hp → Prop} (h : F10_0 t0 H Q) : NCalls Tryz.prog 10 #[t0] H Q :=
  NCalls.ofBody (by kernel_rfl) Tryz.func10 (by kernel_rfl) (by kernel_rfl) (Eq.mp (by kernel_rfl) (A10_0 (fr := fun i => (#[t0] : Array Value).getD i undef) (H := H) (Q := Q) (Eq.mp (by kernel_rfl) h)))
def F12_0 (t0 t1 : Value) (H : Hp) (Q : Value → Hp → Prop) : Prop :=
  q (Bin Tryz.prog H .rem 3 false t0 t1) fun t7_1 =>
  q (Bin Tryz.prog H .add 3 false t7_1 t1) fun t9_2 =>
  q (Bin Tryz.prog H .rem 3 false t9_2 t1) fun t11_3 =>
  Q t11_3 H
theorem A12_0 {fr : Fr} {H : Hp} {Q : Value → Hp → Prop} (h : F12_0 (fr 0) (fr 1) H Q) : xCode Tryz.prog 12 (bodyOf Tryz.f12) (xRet Tryz.prog [.tmp 4] Q) fr H :=
  Eq.mp (by kernel_rfl) h
theorem E12 {t0 t1 : Value} {H : Hp} {Q : Value → Hp → Prop} (h : F12_0 t0 t1 H Q) : NCalls Tryz.prog 12 #[t0, t1] H Q :=
  NCalls.ofBody (by kernel_rfl) Tryz.func12 (by kernel_rfl) (by kernel_rfl) (Eq.mp (by kernel_rfl) (A12_0 (fr := fun i => (#[t0, t1] : Array Value).getD i undef) (H := H) (Q := Q) (Eq.mp (by kernel_rfl) h)))
end YtacidjifocfhkaaGreatDoor
end Go.Proofs
namespace Go.Proofs
open Go Go.NW Go.Pm
set_option maxRecDepth 20000
set_option linter.unusedSimpArgs false
set_option linter.unusedVariables false
namespace YtacidjifocfhkaaGreatDoor
def confC (h s w r : Int) : Array Value := #[.int .i64 h, .int .i64 s, .int .i64 w, .int .i64 r]
def confOk (h s w r : Int) : Bool := decide (1 ≤ h ∧ h ≤ 4) && shapeOk s w && decide (6 * h ≤ r ∧ r ≤ 64)
theorem Valid_10 {H : Hp} {h s w r : Int} {ev : Value} {Q : Value → Hp → Prop} (he : ∃ t v, ev = .iface t v) (hg : cellAt H ⟨0, 0, none⟩ = some ev)
    (hq : ∀ H', Ext [] H H' → Q (if confOk h s w r then .nilIface else ev) H') : NCalls Tryz.prog 10 #[.agg (confC h s w r)] H Q := by
  obtain ⟨t, v, rfl⟩ := he
  refine E10 ?_
  unfold F10_0
  refine New_i fun H1 b1 hb1 e1 s1 k1 => ?_
  replace k1 : blk H1 b1 (confC h s w r) := by simpa using k1
  have hg1 : cellAt H1 ⟨0, 0, none⟩ = some (.iface t v) := by
    unfold cellAt at hg ⊢
    cases hh : H[0]? with
    | none => simp [hh] at hg
    | some o => rw [e1.same 0 (get_lt hh) (by simp)]; exact hg
  have c : ∀ {G : Hp}, blk G b1 (confC h s w r) → cellAt G ⟨b1, 0, none⟩ = some (.int .i64 h) ∧ cellAt G ⟨b1, 1, none⟩ = some (.int .i64 s) ∧ cellAt G ⟨b1, 2, none⟩ = some (.int .i64 w) ∧ cellAt G ⟨b1, 3, none⟩ = some (.int .i64 r) := fun k => ⟨by rw [k.cell]; rfl, by rw [k.cell]; rfl, by rw [k.cell]; rfl, by rw [k.cell]; rfl⟩
  obtain ⟨c0, c1, c2, c3⟩ := c k1
  simp -implicitDefEqProofs only [Fa_some, add_mk, Nat.zero_add, q_some, Ld_some, c1, c2]
  refine New_35 (col := fun _ => .other) 0 hg1 (fun hs => ?_) (fun hs H2 col2 bc bs e2 _ _ _ _ => ?_)
  · by_cases h1 : h < 1
    · simp -implicitDefEqProofs [c0, h1, hg1]
      exact fin (hq H1 e1) (by rw [if_neg (by simp [confOk, hs])])
    · by_cases h4 : 4 < h
      · simp -implicitDefEqProofs [c0, h1, h4, hg1]
        exact fin (hq H1 e1) (by rw [if_neg (by simp [confOk, hs])])
      · simp -implicitDefEqProofs [c0, h1, h4, hg1]
        exact fin (hq H1 e1) (by rw [if_neg (by simp [confOk, hs])])
  · obtain ⟨d0, d1, d2, d3⟩ := c (k1.ext e2 (by simp))
    have hg2 : cellAt H2 ⟨0, 0, none⟩ = some (.iface t v) := by
      unfold cellAt at hg1 ⊢
      cases hh : H1[0]? with
      | none => simp [hh] at hg1
      | some o => rw [e2.same 0 (get_lt hh) (by simp)]; exact hg1
    have E2 := e1.trans e2
    by_cases h1 : h < 1
    · simp -implicitDefEqProofs [d0, h1, hg2]
      exact fin (hq H2 E2) (by rw [if_neg (by simp [confOk]; omega)])
    by_cases h4 : 4 < h
    · simp -implicitDefEqProofs [d0, h1, h4, hg2]
      exact fin (hq H2 E2) (by rw [if_neg (by simp [confOk]; omega)])
    have w6 : IntKind.wrap .i64 (6 * h) = 6 * h := w64 (by omega) (by omega)
    by_cases h6 : r < 6 * h
    · simp -implicitDefEqProofs [d0, d3, h1, h4, hg2, w6, h6]
      exact fin (hq H2 E2) (by rw [if_neg (by simp [confOk]; omega)])
    by_cases h7 : 64 < r
    · simp -implicitDefEqProofs [d0, d3, h1, h4, hg2, w6, h6, h7]
      exact fin (hq H2 E2) (by rw [if_neg (by simp [confOk]; omega)])
    simp -implicitDefEqProofs [d0, d3, h1, h4, hg2, w6, h6, h7]
    exact fin (hq H2 E2) (by rw [if_pos (by simp [confOk, hs]; omega)])
theorem PartAt.fresh {H : Hp} {col : Nat → Rl} {i bp bc bs bm n : Nat} {c : Cache} (cb : col bp = .part i) (kb : blk H bp #[at0 bc, .map (some bm), .slice none 0 0]) (kc : CacheAt H col i bc bs c) (cm : col bm = .map i) (ob : H[bm]? = some (.map #[] 0)) :
    PartAt H col i bp { cache := c, lines := List.replicate n none } := by
  refine ⟨cb, bc, bs, bm, _, [], fun _ => 0, kb, kc, ⟨cm, by rw [ob]; rfl, List.nodup_nil, fun k => ?_, fun k l hk hl => ?_⟩, .inl ⟨rfl, rfl⟩⟩
  · constructor
    · intro h; simp at h
    · rintro ⟨_, l, hl⟩
      rw [List.getElem?_replicate] at hl
      split at hl <;> simp at hl
  · rw [List.getElem?_replicate] at hl
    split at hl <;> simp at hl
/-- what was made so far -/
structure Made (H0 H : Hp) (col0 col : Nat → Rl) (bf : Nat) (s : Sk) (net : Net) (bs : List Int) (ps : List Part) (hs : List Home) : Prop where
  ext : Ext [] H0 H
  same : Same H0 col0 col
  fresh : H0.size ≤ bf ∧ H0.size ≤ s.bm ∧ H0.size ≤ s.bb ∧ H0.size ≤ s.bn
  cb : col bf = .fab
  kb : blk H bf #[at0 s.bm, s.pv, at0 s.bn, s.hv]
  mem : MemC H s.bm s.bb bs
  cm : col s.bm = .mem
  cbb : col s.bb = .bytes
  net : NetAt H col s.bn net
  pl : SlR H col .parts 1 s.pv (s.bps.map fun b => [at0 b])
  pn : s.bps.length = ps.length
  pt : ∀ i (h1 : i < s.bps.length) (h2 : i < ps.length), PartAt H col i s.bps[i] ps[i]
  hm : ∃ bhs : List Nat, SlR H col .homes 1 s.hv (bhs.map fun b => [at0 b]) ∧ bhs.length = hs.length ∧ ∀ i (h1 : i < bhs.length) (h2 : i < hs.length), HomeR H col bhs[i] hs[i]
theorem Made.step {R : Rl → Bool} {H0 H H' : Hp} {col0 col col' : Nat → Rl} {bf : Nat} {s : Sk} {net : Net} {bs : List Int} {ps : List Part} {hs : List Home} (m : Made H0 H col0 col bf s net bs ps hs) (e : Mod R H col H') (e0 : Ext [] H0 H') (hc : Same H col col') (hR : ∀ r, R r = true → r = .other) :
    Made H0 H' col0 col' bf s net bs ps hs := by
  have hf : ∀ r, r ≠ .other → R r = false := fun r hr => by cases h : R r with | false => rfl | true => exact (hr (hR r h)).elim
  have nm : ∀ {r : Rl}, r ≠ .other → ∀ x ∈ setOf R H col, x < H.size → col x ≠ r := fun hr x hx _ => nm_of (hf _ hr) hx
  have l0 := m.kb.lt
  obtain ⟨bhs, h1, h2, h3⟩ := m.hm
  refine ⟨e0, m.same.trans (H' := H) hc m.ext.size, m.fresh, (hc _ l0).trans m.cb, m.kb.ext e.ext fun hm => nm (by simp) _ hm l0 m.cb, m.mem.ext e.ext (fun hm => nm (by simp) _ hm m.mem.lm m.cm) (fun hm => nm (by simp) _ hm m.mem.lb m.cbb), (hc _ m.mem.lm).trans m.cm, (hc _ m.mem.lb).trans m.cbb, m.net.ext e.ext hc fun x hx hl => ⟨nm (by simp) x hx hl, nm (by simp) x hx hl⟩, m.pl.ext e.ext hc (nm (by simp)), m.pn, fun i a b => (m.pt i a b).mod e hc fun r hr => by rw [hR r hr]; rfl, bhs, h1.ext e.ext hc (nm (by simp)), h2, fun i a b => (h3 i a b).ext e.ext hc (nm (by simp))⟩
end YtacidjifocfhkaaGreatDoor
end Go.Proofs
namespace Go.Proofs
open Go Go.NW Go.Pm
set_option maxRecDepth 20000
set_option linter.unusedSimpArgs false
set_option linter.unusedVariables false
namespace YtacidjifocfhkaaGreatDoor
def ptrsC (l : List Nat) : List (List Value) := l.map fun b => [at0 b]
theorem ptrsC_len (l : List Nat) : (ptrsC l).length = l.length := by simp [ptrsC]
theorem ptrsC_one {l : List Nat} : ∀ x ∈ ptrsC l, x.all one = true := by
  intro x hx
  simp only [ptrsC, List.mem_map] at hx
  obtain ⟨y, _, rfl⟩ := hx
  rfl
/-- one pointer more in a row of them -/
theorem append_ptr {T E : Nat} (ty : SlTy Tryz.prog T E 1) {H : Hp} {col : Nat → Rl} {r : Rl} {v : Value} {l : List Nat} {b b1 : Nat} {K : Value → Hp → Prop} (hs : SlR H col r 1 v (ptrsC l)) (kb : blk H b1 #[at0 b]) (hl : l.length ≤ 2 ^ 20)
    (hK : ∀ H' v' col', (∃ S, (∀ x ∈ S, x < H.size ∧ col x = r) ∧ Ext S H H') → Same H col col' → SlR H' col' r 1 v' (ptrsC (l ++ [b])) → K v' H') :
    dm Tryz.prog (Builtin.append_ #[T, T] 0 #[v, .slice (some ⟨b1, 0, none⟩) 1 1]) H K := by
  obtain ⟨bo, hsl, hbo⟩ := hs.blk1 H.size
  have hx : Slc H 1 (.slice (some ⟨b1, 0, none⟩) 1 1) (ptrsC [b]) b1 := Slc.of (xs := ptrsC [b]) (c := _) (by simp [ptrsC]) kb (by simp [ptrsC]) (by simp) (by simp [ptrsC])
  refine append_i ty hsl hx ptrsC_one (by rw [ptrsC_len, ptrsC_len]; simp; omega) fun H1 v1 b2 e1 k1 hb2 => ?_
  have ek : ptrsC l ++ ptrsC [b] = ptrsC (l ++ [b]) := by simp [ptrsC]
  rw [ek] at k1
  have hlt := k1.lt (by simp [ptrsC])
  have hE : ∃ S, (∀ x ∈ S, x < H.size ∧ col x = r) ∧ Ext S H H1 := by
    rcases hbo with ⟨h1, h2⟩ | ⟨h1, _⟩
    · exact ⟨[bo], by intro x hx; simp at hx; subst hx; exact ⟨h1, h2⟩, e1⟩
    · refine ⟨[], by simp, ?_⟩
      exact ((Ext.refl [] H).fresh e1 (by simp; omega))
  by_cases hf : b2 < H.size
  · have : b2 = bo := by omega
    subst this
    have hc : col b2 = r := by rcases hbo with h | h; exact h.2; omega
    exact hK H1 v1 col hE (Same.refl _ _) (.inr ⟨b2, hlt, hc, k1⟩)
  · exact hK H1 v1 (recol col b2 r) hE (Same.recol (by omega)) (.inr ⟨b2, hlt, by simp [recol], k1⟩)
theorem Made.upd {H0 H H' : Hp} {col0 col col' : Nat → Rl} {bf : Nat} {s : Sk} {net : Net} {bs : List Int} {ps ps' : List Part} {hs hs' : List Home} {S : List Nat} {pv hv : Value} {bps : List Nat} (m : Made H0 H col0 col bf s net bs ps hs) (h0 : ∀ x, col0 x = .other ∨ col0 x = .glob) (e : Ext S H H') (hc : Same H col col')
    (hS : ∀ x ∈ S, x < H.size ∧ (col x = .homes ∨ col x = .parts ∨ col x = .fab)) (kb : blk H' bf #[at0 s.bm, pv, at0 s.bn, hv]) (pl : SlR H' col' .parts 1 pv (bps.map fun b => [at0 b])) (pn : bps.length = ps'.length)
    (pt : ∀ i (h1 : i < bps.length) (h2 : i < ps'.length), PartAt H' col' i bps[i] ps'[i]) (hm : ∃ bhs : List Nat, SlR H' col' .homes 1 hv (bhs.map fun b => [at0 b]) ∧ bhs.length = hs'.length ∧ ∀ i (h1 : i < bhs.length) (h2 : i < hs'.length), HomeR H' col' bhs[i] hs'[i]) :
    Made H0 H' col0 col' bf { s with pv := pv, hv := hv, bps := bps } net bs ps' hs' := by
  have ne : ∀ {r : Rl}, r ≠ .homes → r ≠ .parts → r ≠ .fab → ∀ x ∈ S, x < H.size → col x ≠ r := by
    intro r h1 h2 h3 x hx _ h
    rcases (hS x hx).2 with h4 | h4 | h4 <;> rw [h4] at h
    · exact h1 h.symm
    · exact h2 h.symm
    · exact h3 h.symm
  have E : Ext [] H0 H' := by
    refine m.ext.fresh e fun x hx => .inr ?_
    apply Classical.byContradiction; intro hlt
    have h2 := m.same x (by omega)
    rcases (hS x hx).2 with h4 | h4 | h4 <;> rw [h4] at h2 <;> rcases h0 x with h5 | h5 <;> rw [h5] at h2 <;> cases h2
  exact ⟨E, m.same.trans (H' := H) hc m.ext.size, m.fresh, (hc _ m.kb.lt).trans m.cb, kb, m.mem.ext e (fun h => ne (by simp) (by simp) (by simp) _ h m.mem.lm m.cm) (fun h => ne (by simp) (by simp) (by simp) _ h m.mem.lb m.cbb), (hc _ m.mem.lm).trans m.cm, (hc _ m.mem.lb).trans m.cbb,
    m.net.ext e hc fun x hx hl => ⟨ne (by simp) (by simp) (by simp) x hx hl, ne (by simp) (by simp) (by simp) x hx hl⟩, pl, pn, pt, hm⟩
theorem bld_105 (bc x : Nat) : pv Tryz.prog (Instr.build 105 #[(0, at0 bc), (1, .map (some x))]) = some (.agg #[at0 bc, .map (some x), .slice none 0 0]) := by kernel_rfl
theorem New_14 {H : Hp} {col : Nat → Rl} {h s w r : Int} {bm bb : Nat} {bs : List Int} {ev : Value} {Q : Value → Hp → Prop} (gl : ∀ b, b < 5 → GlobR H col b) (hg : cellAt H ⟨0, 0, none⟩ = some ev) (m : MemC H bm bb bs) (h16 : bs.length % 16 = 0) (hcol : ∀ x, col x = .other ∨ col x = .glob)
    (h0 : confOk h s w r = false → ∀ H', Ext [] H H' → Q (.tuple #[.pointer none, ev]) H')
    (h1 : confOk h s w r = true → ∀ H' col' bf sk, Ext [] H H' → Same H col col' → FabAt H' col' bf sk (Fab.new h.toNat s.toNat w.toNat r.toNat ((List.range (bs.length / 16)).map (lineOf bs))) → Q (.tuple #[at0 bf, .nilIface]) H') :
    NCalls Tryz.prog 14 #[.agg (confC h s w r), at0 bm] H Q := by
  have he : ∃ t v, ev = .iface t v := by
    obtain ⟨_, c, t, v, kb, hc⟩ := gl 0 (by omega)
    rw [kb.cell, hc] at hg
    exact ⟨t, v, by simpa using hg.symm⟩
  have hl0 := m.l0
  have hl1 := m.l1
  refine E14 ?_
  unfold F14_0 F14_20
  refine New_i fun H1 b2 hb1 e1 s1 k1 => ?_
  replace k1 : blk H1 b2 (confC h s w r) := by simpa using k1
  unfold F14_1 F14_19
  have hg1 : cellAt H1 ⟨0, 0, none⟩ = some ev := by
    unfold cellAt at hg ⊢
    cases hh : H[0]? with
    | none => simp [hh] at hg
    | some o => rw [e1.same 0 (get_lt hh) (by simp)]; exact hg
  simp -implicitDefEqProofs only [LdA_some, k1.cells, show (confC h s w r).size = 4 from rfl, show (confC h s w r).extract 0 (0 + 4) = confC h s w r by simp [confC], Nat.zero_add, Nat.le_refl, if_true, Option.map_some, q_some]
  refine Valid_10 he hg1 fun H2 e2 => ?_
  have E2 := e1.trans e2
  cases hc : confOk h s w r with
  | false =>
    obtain ⟨t, v, rfl⟩ := he
    simp -implicitDefEqProofs
    exact h0 hc H2 E2
  | true =>
    simp -implicitDefEqProofs only [if_true, Bin_neq_26_nil, q_some, condV_bool, Bool.false_eq_true, if_false]
    have hcc := hc
    simp [confOk] at hcc
    obtain ⟨⟨⟨hh1, hh4⟩, hsh⟩, hr6, hr64⟩ := hcc
    have hso := hsh
    simp [shapeOk] at hso
    obtain ⟨hn, rfl⟩ := Int.eq_ofNat_of_zero_le (show 0 ≤ h by omega)
    obtain ⟨rn, rfl⟩ := Int.eq_ofNat_of_zero_le (show 0 ≤ r by omega)
    have k2 := k1.ext e2 (by simp)
    have m2 := m.ext0 E2
    have cc : ∀ {G : Hp}, blk G b2 (confC hn s w rn) → cellAt G ⟨b2, 0, none⟩ = some (.int .i64 hn) ∧ cellAt G ⟨b2, 1, none⟩ = some (.int .i64 s) ∧ cellAt G ⟨b2, 2, none⟩ = some (.int .i64 w) ∧ cellAt G ⟨b2, 3, none⟩ = some (.int .i64 rn) := fun k => ⟨by rw [k.cell]; rfl, by rw [k.cell]; rfl, by rw [k.cell]; rfl, by rw [k.cell]; rfl⟩
    unfold F14_2 F14_18
    refine Clone_39 m2 fun H3 cm cb e3 m3 g1 g2 => ?_
    simp -implicitDefEqProofs
    refine New_i fun H4 bf hbf e4 s4 k4 => ?_
    replace k4 : blk H4 bf #[at0 cm, .slice none 0 0, .pointer none, .slice none 0 0] := by simpa using k4
    unfold F14_3 F14_17
    have k24 := (k2.ext e3 (by simp)).ext e4 (by simp)
    obtain ⟨c0, c1, c2, c3⟩ := cc k24
    simp -implicitDefEqProofs only [Fa_some, add_mk, Nat.zero_add, q_some, Ld_some, c0, c3]
    refine New_40 (col := col) (by omega) (by omega) fun H5 bn e5 kn5 kbn hbn => ?_
    have z3 := e3.size
    have z4 := e4.size
    have z5 := e5.size
    have z2 := E2.size
    have k5 := k4.ext e5 (by simp)
    simp -implicitDefEqProofs only [Ex_tuple, List.getElem?_toArray, List.getElem?_cons_zero, List.getElem?_cons_succ, q_some, Nz_some, Fa_some, add_mk, Nat.zero_add]
    refine St_i k5 (by simp) (by simp) (by simp) fun H6 e6 s6 k6 => ?_
    replace k6 : blk H6 bf #[at0 cm, .slice none 0 0, at0 bn, .slice none 0 0] := by simpa [wrL] using k6
    have E26 : Ext [] H2 H6 := ((e3.trans e4).trans e5).fresh e6 (by simp; omega)
    have lcm := m3.lm
    have lcb := m3.lb
    obtain ⟨col6, hcol6⟩ : ∃ c : Nat → Rl, c = recol (recol (recol (recol col cm .mem) cb .bytes) bf .fab) bn .net := ⟨_, rfl⟩
    have S6 : Same H2 col col6 := by
      intro x hx; subst hcol6; simp only [recol]
      rw [if_neg (by omega), if_neg (by omega), if_neg (by omega), if_neg (by omega)]
    have mne := m3.ne
    have made0 : Made H2 H6 col col6 bf ⟨cm, cb, bn, .slice none 0 0, .slice none 0 0, []⟩ { harts := hn, room := rn } bs [] [] := by
      refine ⟨E26, S6, ⟨by omega, by show _ ≤ cm; omega, by show _ ≤ cb; omega, by show _ ≤ bn; omega⟩, ?_, k6, ((m3.ext0 e4).ext0 e5).ext e6 (by simp; omega) (by simp; omega), ?_, ?_, ?_, .inl ⟨rfl, rfl⟩, rfl, by simp, [], .inl ⟨rfl, rfl⟩, rfl, by simp⟩
      · subst hcol6; simp [recol, show ¬ bf = bn by omega]
      · subst hcol6; simp [recol, show ¬ cm = bn by omega, show ¬ cm = bf by omega, mne]
      · subst hcol6; simp [recol, show ¬ cb = bn by omega, show ¬ cb = bf by omega]
      · have hcb : col6 bn = .net := by subst hcol6; simp [recol]
        exact ⟨hcb, _, by simpa using kbn.ext e6 (by simp; omega), .inl ⟨rfl, by simp [flsC]⟩⟩
    generalize hL : bs.length / 16 = L at *
    have hbl : bs.length = 16 * L := by omega
    -- the homes
    have loop2 : ∀ (H7 : Hp) (col7 : Nat → Rl) (pv : Value) (bps : List Nat) (ps : List Part), Made H2 H7 col col7 bf ⟨cm, cb, bn, pv, .slice none 0 0, bps⟩ { harts := hn, room := rn } bs ps [] →
        ps = List.replicate hn { cache := Cache.new s.toNat w.toNat, lines := List.replicate L none } → F14_5 (at0 bm) (at0 b2) (at0 bf) H7 Q := by
      intro H7 col7 pv bps ps made7 hps
      unfold F14_5 F14_7 F14_11
      have m7 := m2.ext0 made7.ext
      have q1 : IntKind.wrap .i64 ((bs.length : Int).tdiv 16) = (L : Int) := by rw [Int.tdiv_eq_ediv_of_nonneg (by omega), w64 (by omega) (by omega)]; omega
      refine Bytes_41 m7 ?_
      simp -implicitDefEqProofs only [Bin_quo_3 _ _ _ _ (show (16 : Int) ≠ 0 by omega), q1, q_some]
      unfold F14_8 F14_9
      refine ⟨fun v62 H' => ∃ (i : Nat) (col' : Nat → Rl) (hv : Value), v62 = .int .i64 i ∧ i ≤ L ∧ Made H2 H' col col' bf ⟨cm, cb, bn, pv, hv, bps⟩ { harts := hn, room := rn } bs ps ((List.range i).map fun (j : Nat) => Home.new j hn (lineOf bs j)), fun v62 _ => L - (iv v62).toNat, ⟨0, col7, _, rfl, by omega, made7⟩, ?_⟩
      rintro v62 H8 ⟨i, col8, hv, rfl, hi, made8⟩
      unfold F14_10
      have m8 := m2.ext0 made8.ext
      have k8 := k2.ext made8.ext (by simp)
      by_cases hlt : i < L
      · have hlt' : (i : Int) < L := by omega
        simp -implicitDefEqProofs only [Bin_lss_3, hlt', decide_true, q_some, condV_bool, if_true]
        refine Line_42 m8 (by omega) fun H9 e9 => ?_
        simp -implicitDefEqProofs only [Ex_tuple, List.getElem?_toArray, List.getElem?_cons_zero, List.getElem?_cons_succ, q_some]
        refine New_i fun H10 b10 hb10 e10 s10 k10 => ?_
        refine St_i k10 (by simp [wordsC]) (by simp) (by simp [wordsC]) fun H11 e11 s11 k11 => ?_
        have k11' : blk H11 b10 (wordsC (lineOf bs i)) := by simpa [wrL, wordsC] using k11
        have z9 := e9.size
        have e8a : Ext [] H8 H11 := (e9.trans e10).fresh e11 (by simp; omega)
        have k811 := k8.ext e8a (by simp)
        have made11 := made8.step (R := fun _ => false) (Mod.of e8a (by simp)) (made8.ext.trans e8a) (Same.refl _ _) (by simp)
        have hc3 : ∀ {G : Hp}, blk G bf #[at0 cm, pv, at0 bn, hv] → cellAt G ⟨bf, 3, none⟩ = some hv := fun k => by rw [k.cell]; rfl
        obtain ⟨d0, _, _, _⟩ := cc k811
        simp -implicitDefEqProofs only [Nz_some, Fa_some, add_mk, Nat.zero_add, q_some, Ld_some, hc3 made11.kb, d0, LdA_some, k11'.cells, show (wordsC (lineOf bs i)).size = 4 from rfl, Nat.le_refl, if_true, show (wordsC (lineOf bs i)).extract 0 4 = wordsC (lineOf bs i) by simp [wordsC], Option.map_some]
        refine New_home (by omega) fun H12 hb hbs hbi e12 ha12 y1 y2 y3 => ?_
        have made12a := made11.step (R := fun _ => false) (Mod.of e12 (by simp)) (made11.ext.trans e12) (Same.refl _ _) (by simp)
        refine ⟨hc3 made12a.kb, ?_⟩
        refine Bsl_i (cells := #[at0 hb]) (by kernel_rfl) fun H13 b13 hb13 e13 s13 k13 => ?_
        have z11 := e8a.size
        have z12 := e12.size
        have z13 := e13.size
        obtain ⟨col13, hcol13⟩ : ∃ c : Nat → Rl, c = recol (recol (recol col8 hb .home) hbs .home) hbi .home := ⟨_, rfl⟩
        have S13 : Same H11 col8 col13 := by
          intro x hx; subst hcol13; simp only [recol]
          rw [if_neg (by omega), if_neg (by omega), if_neg (by omega)]
        have e1113 := e12.trans e13
        have made13 := made11.step (R := fun _ => false) (col' := col13) (Mod.of e1113 (by simp)) (made11.ext.trans e1113) S13 (by simp)
        have hr13 : HomeR H13 col13 hb (Home.new i hn (lineOf bs i)) := by
          refine ⟨hbs, hbi, ha12.ext0 e13, ?_, ?_, ?_⟩
          · subst hcol13; simp [recol, ha12.d2, ha12.d1]
          · subst hcol13; simp [recol, ha12.d3]
          · subst hcol13; simp [recol]
        refine ⟨hc3 made13.kb, ?_⟩
        obtain ⟨bhs, x1, x2, x3⟩ := made13.hm
        have hbl8 : bhs.length = i := by rw [x2]; simp
        refine append_ptr ty_97 (col := col13) (r := .homes) (l := bhs) x1 k13 (by omega) fun H14 v14 col14 hE S14 x14 => ?_
        obtain ⟨S, hS, eS⟩ := hE
        have l13 := made13.kb.lt
        have hbf : bf ∉ S := by intro hx; have := (hS bf hx).2; rw [made13.cb] at this; cases this
        have k14 := made13.kb.ext eS hbf
        obtain ⟨bx, hbx⟩ := x14.slc
        obtain ⟨ax, capx, hv14, _, _⟩ := hbx.shape
        have hcv : v14.cells = #[v14] := by rw [hv14]; rfl
        refine St_i k14 (by rw [hcv]; rfl) (by simp) (by rw [hcv, hv14]; rfl) fun H15 e15 s15 k15 => ?_
        have k15' : blk H15 bf #[at0 cm, pv, at0 bn, v14] := by rw [hcv] at k15; simpa [wrL] using k15
        have eA : Ext (bf :: S) H13 H15 := (eS.mono (by simp; intro a ha; exact .inr ha)).trans (e15.mono (by simp))
        have hSA : ∀ x ∈ bf :: S, x < H13.size ∧ (col13 x = .homes ∨ col13 x = .parts ∨ col13 x = .fab) := by
          intro x hx
          rcases List.mem_cons.1 hx with rfl | hx
          · exact ⟨l13, .inr (.inr made13.cb)⟩
          · exact ⟨(hS x hx).1, .inl (hS x hx).2⟩
        have neA : ∀ x ∈ bf :: S, x < H13.size → col13 x ≠ .home := by
          intro x hx _ h
          rcases (hSA x hx).2 with h4 | h4 | h4 <;> rw [h4] at h <;> cases h
        have c14f : col14 bf = .fab := (S14 _ l13).trans made13.cb
        have made15 := made13.upd (ps' := ps) (hs' := (List.range (i + 1)).map fun (j : Nat) => Home.new j hn (lineOf bs j)) hcol eA S14 hSA k15'
          (made13.pl.ext eA S14 (by
            intro x hx hl h
            rcases List.mem_cons.1 hx with rfl | hx
            · rw [made13.cb] at h; cases h
            · rw [(hS x hx).2] at h; cases h))
          made13.pn
          (fun j a b => (made13.pt j a b).ext eA S14 (by
            intro x hx hl
            rcases (hSA x hx).2 with h4 | h4 | h4 <;> rw [h4] <;> rfl))
          ⟨bhs ++ [hb], x14.ext e15 (Same.refl _ _) (by
            intro x hx _; simp at hx; subst hx; rw [c14f]; simp), by simp [hbl8], by
            intro j a b
            by_cases hj : j < i
            · have := (x3 j (by omega) (by simp; omega)).ext eA S14 neA
              rw [List.getElem_append_left (by omega)]
              simpa using this
            · have hji : j = i := by simp [hbl8] at a; omega
              subst hji
              rw [List.getElem_append_right (by omega)]
              simpa using hr13.ext eA S14 neA⟩
        have wi : IntKind.wrap .i64 ((i : Int) + 1) = ((i + 1 : Nat) : Int) := by rw [w64 (by omega) (by omega)]; simp
        simp -implicitDefEqProofs only [Bin_add_3, q_some, wi]
        exact ⟨trivial, trivial, trivial, trivial, ⟨i + 1, col14, v14, rfl, by omega, made15⟩, by simp; omega⟩
      · have hil : i = L := by omega
        subst hil
        have hlt' : ¬ ((i : Int) < i) := by omega
        simp -implicitDefEqProofs only [Bin_lss_3, hlt', decide_false, q_some, condV_bool, Bool.false_eq_true, if_false]
        unfold F14_6
        refine h1 hc H8 col8 bf ⟨cm, cb, bn, pv, hv, bps⟩ (E2.trans made8.ext) (Same.trans (H' := H2) (Same.refl _ _) made8.same z2) ⟨?_, made8.cb, made8.kb, ⟨bs, made8.mem, ?_⟩, made8.cm, made8.cbb, made8.net, made8.pl, ?_, ?_, ?_⟩
        · intro b hb5
          have := (gl b hb5).ext E2 (Same.refl _ _) (by simp)
          exact this.ext made8.ext made8.same (by simp)
        · simp [Fab.new]; omega
        · have := made8.pn; rw [this, hps]; simp [Fab.new]
        · intro j a b
          have hj : j < ps.length := by have := made8.pn; show j < _; omega
          have := made8.pt j a hj
          subst hps
          simpa [Fab.new] using this
        · obtain ⟨bhs, x1, x2, x3⟩ := made8.hm
          refine ⟨bhs, x1, by simpa [Fab.new] using x2, fun j a b => ?_⟩
          have := x3 j a (by rw [← x2]; exact a)
          simpa [Fab.new] using this
    unfold F14_4 F14_12 F14_16
    obtain ⟨c0', _, _, _⟩ := cc ((k24.ext e5 (by simp)).ext e6 (by simp; omega))
    simp -implicitDefEqProofs only [Fa_some, add_mk, Nat.zero_add, q_some, Ld_some, c0']
    unfold F14_13 F14_14
    refine ⟨fun v35 H' => ∃ (i : Nat) (col' : Nat → Rl) (pv : Value) (bps : List Nat), v35 = .int .i64 i ∧ i ≤ hn ∧ Made H2 H' col col' bf ⟨cm, cb, bn, pv, .slice none 0 0, bps⟩ { harts := hn, room := rn } bs (List.replicate i { cache := Cache.new s.toNat w.toNat, lines := List.replicate L none }) [], fun v35 _ => hn - (iv v35).toNat,
      ⟨0, col6, _, [], rfl, by omega, made0⟩, ?_⟩
    rintro v35 H7 ⟨i, col7, pv, bps, rfl, hi, made7⟩
    unfold F14_15
    have k7 := k2.ext made7.ext (by simp)
    obtain ⟨_, d1, d2, _⟩ := cc k7
    by_cases hlt : i < hn
    · have hlt' : (i : Int) < hn := by omega
      simp -implicitDefEqProofs only [Bin_lss_3, hlt', decide_true, q_some, condV_bool, if_true, Fa_some, add_mk, Nat.zero_add, Ld_some, d1, d2]
      have hg7 : cellAt H7 ⟨0, 0, none⟩ = some ev := by
        have e07 := E2.trans made7.ext
        unfold cellAt at hg ⊢
        cases hh : H[0]? with
        | none => simp [hh] at hg
        | some o => rw [e07.same 0 (get_lt hh) (by simp)]; exact hg
      refine New_35 (col := col7) i hg7 (fun hs => by rw [hsh] at hs; cases hs) (fun _ H8 col8 bc bsx e8 S8 ca8 y1 y2 => ?_)
      have made8 := made7.step (R := fun _ => false) (Mod.of e8 (by simp)) (made7.ext.trans e8) S8 (by simp)
      have hc1 : ∀ {G : Hp}, blk G bf #[at0 cm, pv, at0 bn, .slice none 0 0] → cellAt G ⟨bf, 1, none⟩ = some pv := fun k => by rw [k.cell]; rfl
      simp -implicitDefEqProofs only [Ex_tuple, List.getElem?_toArray, List.getElem?_cons_zero, List.getElem?_cons_succ, q_some, Nz_some, Fa_some, add_mk, Nat.zero_add, Ld_some, hc1 made8.kb]
      have e89 : Ext [] H8 (H8.push (Obj.map #[] 0)) := Ext.push _ _
      have om9 : (H8.push (Obj.map #[] 0))[H8.size]? = some (.map #[] 0) := by simp
      have sz9 : (H8.push (Obj.map #[] 0)).size = H8.size + 1 := by simp
      generalize H8.push (Obj.map #[] 0) = H9 at e89 om9 sz9
      simp -implicitDefEqProofs only [bld_105, q_some]
      refine New_i fun H10 b10 hb10 e10 s10 k10 => ?_
      replace k10 : blk H10 b10 #[at0 bc, .map (some H8.size), .slice none 0 0] := by simpa using k10
      refine Bsl_i (cells := #[at0 b10]) (by kernel_rfl) fun H11 b11 hb11 e11 s11 k11 => ?_
      have z8 := e8.size
      have z9 := e89.size
      have z10 := e10.size
      have z11 := e11.size
      have e811 : Ext [] H8 H11 := (e89.trans e10).trans e11
      obtain ⟨col11, hcol11⟩ : ∃ c : Nat → Rl, c = recol (recol col8 H8.size (.map i)) b10 (.part i) := ⟨_, rfl⟩
      have S11 : Same H8 col8 col11 := by
        intro x hx; subst hcol11; simp only [recol]
        rw [if_neg (by omega), if_neg (by omega)]
      have made11 := made8.step (R := fun _ => false) (col' := col11) (Mod.of e811 (by simp)) (made8.ext.trans e811) S11 (by simp)
      have hcp : col11 b10 = .part i := by subst hcol11; simp [recol]
      have hcmp : col11 H8.size = .map i := by subst hcol11; simp [recol, show ¬ H8.size = b10 by omega]
      have pt11 : PartAt H11 col11 i b10 { cache := Cache.new s.toNat w.toNat, lines := List.replicate L none } :=
        PartAt.fresh hcp (k10.ext e11 (by simp)) (ca8.ext0 e811 S11) hcmp (by
          rw [e11.same _ (by omega) (by simp), e10.same _ (by omega) (by simp)]; exact om9)
      have hlb : bps.length = i := by have := made11.pn; simpa using this
      refine append_ptr ty_95 (col := col11) (r := .parts) (l := bps) made11.pl k11 (by omega) fun H12 v12 col12 hE S12 x12 => ?_
      obtain ⟨S, hS, eS⟩ := hE
      have l11 := made11.kb.lt
      have hbf2 : bf ∉ S := by intro hx; have := (hS bf hx).2; rw [made11.cb] at this; cases this
      have k12 := made11.kb.ext eS hbf2
      obtain ⟨bx, hbx⟩ := x12.slc
      obtain ⟨ax, capx, hv12, _, _⟩ := hbx.shape
      have hcv : v12.cells = #[v12] := by rw [hv12]; rfl
      refine St_i k12 (by rw [hcv]; rfl) (by simp) (by rw [hcv, hv12]; rfl) fun H13 e13 s13 k13 => ?_
      have k13' : blk H13 bf #[at0 cm, v12, at0 bn, .slice none 0 0] := by rw [hcv] at k13; simpa [wrL] using k13
      have eA : Ext (bf :: S) H11 H13 := (eS.mono (by simp; intro a ha; exact .inr ha)).trans (e13.mono (by simp))
      have hSA : ∀ x ∈ bf :: S, x < H11.size ∧ (col11 x = .homes ∨ col11 x = .parts ∨ col11 x = .fab) := by
        intro x hx
        rcases List.mem_cons.1 hx with rfl | hx
        · exact ⟨l11, .inr (.inr made11.cb)⟩
        · exact ⟨(hS x hx).1, .inr (.inl (hS x hx).2)⟩
      have hSP : ∀ j, ∀ x ∈ bf :: S, x < H11.size → (col11 x).isPart j = false := by
        intro j x hx hl
        rcases (hSA x hx).2 with h4 | h4 | h4 <;> rw [h4] <;> rfl
      have c12f : col12 bf = .fab := (S12 _ l11).trans made11.cb
      have made13 := made11.upd (pv := v12) (hv := .slice none 0 0) (bps := bps ++ [b10]) (ps' := List.replicate (i + 1) { cache := Cache.new s.toNat w.toNat, lines := List.replicate L none }) (hs' := []) hcol eA S12 hSA k13'
        (x12.ext e13 (Same.refl _ _) (by intro x hx _; simp at hx; subst hx; rw [c12f]; simp))
        (by simp [hlb])
        (by
          intro j a b
          by_cases hj : j < i
          · have := (made11.pt j (by show j < bps.length; omega) (by simp; omega)).ext eA S12 (hSP j)
            rw [List.getElem_append_left (by omega)]
            simpa using this
          · have hji : j = i := by simp [hlb] at a; omega
            subst hji
            rw [List.getElem_append_right (by omega)]
            simpa using pt11.ext eA S12 (hSP j))
        ⟨[], .inl ⟨rfl, rfl⟩, rfl, by simp⟩
      have wi : IntKind.wrap .i64 ((i : Int) + 1) = ((i + 1 : Nat) : Int) := by rw [w64 (by omega) (by omega)]; simp
      simp -implicitDefEqProofs only [Bin_add_3, q_some, wi]
      exact ⟨trivial, trivial, trivial, trivial, ⟨i + 1, col12, v12, bps ++ [b10], rfl, by omega, made13⟩, by simp; omega⟩
    · have hil : i = hn := by omega
      subst hil
      have hlt' : ¬ ((i : Int) < i) := by omega
      simp -implicitDefEqProofs only [Bin_lss_3, hlt', decide_false, q_some, condV_bool, Bool.false_eq_true, if_false]
      exact loop2 H7 col7 pv bps _ made7 rfl
end YtacidjifocfhkaaGreatDoor
end Go.Proofs
namespace Go.Proofs
open Go Go.NW Go.Pm
set_option maxRecDepth 20000
set_option linter.unusedSimpArgs false
set_option linter.unusedVariables false
namespace YtacidjifocfhkaaGreatDoor
theorem Number_12 {H : Hp} {n b : Int} {Q : Value → Hp → Prop} (hb : 0 < b ∧ b < 1000) (hq : Q (.int .i64 (n % b)) H) : NCalls Tryz.prog 12 #[.int .i64 n, .int .i64 b] H Q := by
  refine E12 ?_
  unfold F12_0
  have h1 : -b < n.tmod b ∧ n.tmod b < b := by
    constructor
    · exact Int.lt_tmod_of_pos _ hb.1
    · exact Int.tmod_lt_of_pos _ hb.1
  have w1 : IntKind.wrap .i64 (n.tmod b + b) = n.tmod b + b := w64 (by omega) (by omega)
  have h2 : (n.tmod b + b).tmod b = n % b := by
    rw [Int.tmod_eq_emod_of_nonneg (by omega), Int.add_emod_right]
    have := Int.tmod_add_mul_tdiv n b
    have h3 : n = n.tmod b + b * n.tdiv b := by omega
    conv => rhs; rw [h3]
    rw [Int.add_mul_emod_self_left]
  simp -implicitDefEqProofs only [Bin_rem_3 _ _ _ _ (show b ≠ 0 by omega), q_some, Bin_add_3, w1, h2]
  exact hq
theorem new_good {s w : Nat} (hs : 1 ≤ s ∧ s ≤ 64) (hw : 1 ≤ w ∧ w ≤ 8) : CacheOk (Cache.new s w) ∧ CacheGood (Cache.new s w) ∧ (Cache.new s w).all = [] := by
  refine ⟨⟨by simp [Cache.new]; omega, by simp [Cache.new]; omega, hw.2, ?_⟩, ⟨?_, ?_, ?_, hw.1⟩, ?_⟩
  · intro l hl; simp [Cache.new] at hl; rw [hl.2]; simp
  · intro j row hj e he; simp [Cache.new, List.getElem?_replicate] at hj; rw [hj.2] at he; simp at he
  · intro j row hj; simp [Cache.new, List.getElem?_replicate] at hj; rw [hj.2]; simp
  · intro l hl; simp [Cache.new] at hl; rw [hl.2]; simp
  · simp [Cache.new, Cache.all]
theorem FabOk.new {h s w r : Nat} {data : List Words} (hh : 1 ≤ h ∧ h ≤ 4) (hs : 1 ≤ s ∧ s ≤ 64) (hw : 1 ≤ w ∧ w ≤ 8) (hr : r ≤ 64) (hd : 1 ≤ data.length ∧ data.length ≤ 4096) (hu : ∀ d ∈ data, U32s d) : FabOk (Fab.new h s w r data) := by
  obtain ⟨c1, c2, c3⟩ := new_good hs hw
  refine ⟨by simp [Fab.new]; omega, by simp [Fab.new]; omega, by simp [Fab.new], by simp [Fab.new]; omega, by simp [Fab.new]; omega, fun i hi => ?_, by simp [Fab.new], by simpa [Fab.new] using hr, by simp [Fab.new], by simp [Fab.new], fun i hi => ?_⟩
  · simp only [Fab.new, List.length_mapIdx, List.getElem_replicate]
    refine ⟨hd.2, c1, c2, by simp, ?_, by rw [c3]; simp, List.Pairwise.nil, by simp, ?_⟩
    · intro e he; rw [c3] at he; simp at he
    · intro k l hl; simp [Part.line, List.getD_eq_getElem?_getD, List.getElem?_replicate] at hl
      split at hl <;> simp at hl
  · simp only [Fab.new, List.getElem_mapIdx, List.length_replicate]
    refine ⟨⟨by show h ≤ 1000; omega, by simp [Home.new], by simp [Home.new], ⟨Int.le_refl _, by show (-1 : Int) < h; omega⟩, fun hb => (by cases hb), fun ha => (ha rfl).elim⟩, rfl, rfl, hu _ (List.getElem_mem _), U32s.zero, fun _ => ⟨rfl, by simp [Home.new]⟩⟩
theorem lineOf_u32 {bs : List Int} (h : Bytes bs) (i : Nat) : U32s (lineOf bs i) := by
  have g : ∀ o, U32 (getL bs o 4) := fun o => by have := getL_rng h o 4; exact ⟨this.1, by simpa using this.2⟩
  exact ⟨g _, g _, g _, g _⟩
theorem confOk_cases {h s w r : Int} (hc : confOk h s w r = true) : 1 ≤ h.toNat ∧ h.toNat ≤ 4 ∧ 1 ≤ s.toNat ∧ s.toNat ≤ 64 ∧ 1 ≤ w.toNat ∧ w.toNat ≤ 8 ∧ r.toNat ≤ 64 ∧ 6 * h.toNat ≤ r.toNat := by
  simp [confOk, shapeOk] at hc
  omega
/-- where the statements begin: no memory but errors and arguments -/
structure Start (H : Hp) (col : Nat → Rl) : Prop where
  gl : ∀ b, b < 5 → GlobR H col b
  col : ∀ x, col x = .other ∨ col x = .glob
theorem Start.ev {H : Hp} {col : Nat → Rl} (s : Start H col) : ∃ ev, cellAt H ⟨0, 0, none⟩ = some ev := by
  obtain ⟨_, c, t, v, kb, hc⟩ := s.gl 0 (by omega)
  exact ⟨_, by rw [kb.cell]; exact hc⟩
theorem Start.ext {H H' : Hp} {col : Nat → Rl} (s : Start H col) (e : Ext [] H H') : Start H' col := ⟨fun b hb => (s.gl b hb).ext e (Same.refl _ _) (by simp), s.col⟩
/-- what is not the fabric's, stays -/
theorem Start.stay {H H' : Hp} {col : Nat → Rl} (s : Start H col) (m : Mod Rl.mine H col H') : Ext [] H H' :=
  ⟨m.size, fun x hx _ => m.same x hx (by rcases s.col x with h | h <;> rw [h] <;> rfl)⟩
theorem made_22 {H : Hp} {col : Nat → Rl} {h s w r : Int} {n bw : Nat} {wv : Value} {ws : List Int} {Q : Value → Hp → Prop} (st : Start H col) (hc : confOk h s w r = true) (hn : 16 ≤ n ∧ n ≤ 65536 ∧ n % 16 = 0) (hs : Slc H 1 wv (u32sC ws) bw) (hl : 4 * ws.length ≤ n) (hw : ∀ w ∈ ws, U32 w)
    (hq : ∀ H' col' bf sk, Ext [] H H' → Same H col col' → FabAt H' col' bf sk (Fab.new h.toNat s.toNat w.toNat r.toNat ((List.range (n / 16)).map (lineOf (memNew n ws)))) → FabOk (Fab.new h.toNat s.toNat w.toNat r.toNat ((List.range (n / 16)).map (lineOf (memNew n ws)))) → Q (.tuple #[at0 bf, .bool true]) H') :
    NCalls Tryz.prog 22 #[.agg (confC h s w r), .int .i64 n, wv] H Q := by
  refine E22 ?_
  unfold F22_0
  refine New_i fun H1 b1 hb1 e1 s1 k1 => ?_
  replace k1 : blk H1 b1 (confC h s w r) := by simpa using k1
  refine New_13 hn (hs.ext e1 (by simp)) hl hw fun H2 bm bb e2 m2 g1 g2 => ?_
  have k2 := k1.ext e2 (by simp)
  have E2 := e1.trans e2
  have st2 := st.ext E2
  obtain ⟨ev, hev⟩ := st2.ev
  have hml := memNew_len n ws
  have he30 : Bin Tryz.prog H2 .eql 30 true (at0 bm) (.pointer none) = some (.bool false) := by kernel_rfl
  simp -implicitDefEqProofs only [Ex_tuple, List.getElem?_toArray, List.getElem?_cons_zero, List.getElem?_cons_succ, q_some, he30, gd_bool, if_true, Bin_neq_26_nil, Pk_bool, Bool.false_eq_true, if_false, condV_bool, LdA_some, k2.cells, show (confC h s w r).size = 4 from rfl, show (confC h s w r).extract 0 (0 + 4) = confC h s w r by simp [confC], Nat.zero_add, Nat.le_refl, Option.map_some]
  have hcf := confOk_cases hc
  refine New_14 st2.gl hev m2 (by rw [hml]; omega) st2.col (fun hf => by rw [hc] at hf; cases hf) (fun _ H3 col3 bf sk e3 S3 fa3 => ?_)
  have he33 : ∀ G, Bin Tryz.prog G .neq 33 true (at0 bf) (.pointer none) = some (.bool true) := by intro G; kernel_rfl
  simp -implicitDefEqProofs only [Ex_tuple, List.getElem?_toArray, List.getElem?_cons_zero, List.getElem?_cons_succ, q_some, he33, gd_bool, if_true, Bin_eql_26_nil, Pk_bool]
  rw [hml] at fa3
  have z2 := E2.size
  refine hq H3 col3 bf sk (E2.trans e3) (fun x hx => S3 x (by omega)) fa3 (FabOk.new ⟨hcf.1, hcf.2.1⟩ ⟨hcf.2.2.1, hcf.2.2.2.1⟩ ⟨hcf.2.2.2.2.1, hcf.2.2.2.2.2.1⟩ hcf.2.2.2.2.2.2.1 (by simp; omega) ?_)
  intro d hd
  simp only [List.mem_map] at hd
  obtain ⟨i, _, rfl⟩ := hd
  exact lineOf_u32 (memNew_bytes n ws) i
end YtacidjifocfhkaaGreatDoor
end Go.Proofs
namespace Go.Proofs
open Go Go.NW Go.Pm
set_option maxRecDepth 20000
set_option linter.unusedSimpArgs false
set_option linter.unusedVariables false
namespace YtacidjifocfhkaaGreatDoor
theorem append_R {T E n : Nat} (ty : SlTy Tryz.prog T E n) {H : Hp} {col : Nat → Rl} {r : Rl} {v x : Value} {xs ys : List (List Value)} {bx : Nat} {K : Value → Hp → Prop} (hs : SlR H col r n v xs) (hx : Slc H n x ys bx) (h1 : ∀ y ∈ ys, y.all one = true) (hl : xs.length + ys.length ≤ 2 ^ 30)
    (hK : ∀ H' v' col', (∃ S, (∀ x ∈ S, x < H.size ∧ col x = r) ∧ Ext S H H') → Same H col col' → SlR H' col' r n v' (xs ++ ys) → K v' H') :
    dm Tryz.prog (Builtin.append_ #[T, T] 0 #[v, x]) H K := by
  obtain ⟨bo, hsl, hbo⟩ := hs.blk1 H.size
  refine append_i ty hsl hx h1 hl fun H1 v1 b2 e1 k1 hb2 => ?_
  have hE : ∃ S, (∀ x ∈ S, x < H.size ∧ col x = r) ∧ Ext S H H1 := by
    rcases hbo with ⟨h1, h2⟩ | ⟨h1, _⟩
    · exact ⟨[bo], by intro x hx; simp at hx; subst hx; exact ⟨h1, h2⟩, e1⟩
    · refine ⟨[], by simp, ?_⟩
      exact ((Ext.refl [] H).fresh e1 (by simp; omega))
  rcases k1.2 with ⟨hv, hnil⟩ | ⟨o, cap, c, _, _, hb, _⟩
  · exact hK H1 v1 col hE (Same.refl _ _) (.inl ⟨hv, hnil⟩)
  · have hlt := hb.lt
    by_cases hf : b2 < H.size
    · have : b2 = bo := by omega
      subst this
      have hc : col b2 = r := by rcases hbo with h | h; exact h.2; omega
      exact hK H1 v1 col hE (Same.refl _ _) (.inr ⟨b2, hlt, hc, k1⟩)
    · exact hK H1 v1 (recol col b2 r) hE (Same.recol (by omega)) (.inr ⟨b2, hlt, by simp [recol], k1⟩)
def wordsL (ws : List Words) : List (List Value) := ws.map fun w => (wordsC w).toList
def viewC (line : Int) (sv dv : Value) (m : Words) (busy puts : Bool) : Array Value := #[.int .i64 line, sv, dv, .int .u32 m.a, .int .u32 m.b, .int .u32 m.c, .int .u32 m.d, .bool busy, .bool puts]
def stOf (line : Int) (p : Part) : Int := match p.line line with | some l => l.state | none => 0
def dtOf (line : Int) (p : Part) : Words := match p.line line with | some l => if l.state = 0 then .zero else l.data | none => .zero
def puOf (line : Int) (p : Part) : Bool := match p.line line with | some l => l.waits == 3 | none => false
theorem view_eq {f : Fab} {line : Int} {h : Home} (h0 : 0 ≤ line) (hh : f.homes[line.toNat]? = some h) : f.view line = some { state := f.parts.map (stOf line), data := f.parts.map (dtOf line), memory := h.data, busy := h.busy, puts := f.parts.any (puOf line) } := by
  have hl := (List.getElem?_eq_some_iff.1 hh).1
  unfold Fab.view
  rw [if_neg (by omega)]
  have : f.homes.getD line.toNat (Home.new 0 0 .zero) = h := by rw [List.getD_eq_getElem?_getD, hh]; rfl
  rw [this]
  rfl
/-- a part's row of a view is added -/
theorem view_row {H : Hp} {col : Nat → Rl} {b7 b11 : Nat} {t1 t4 t41 t42 : Value} {k : Nat} {line st : Int} {sv dv : Value} {m w : Words} {bz pz : Bool} {xs : List Int} {ys : List Words} {R8 : Value → Value → Value → Value → Value → Value → Hp → Prop} {Q : Value → Hp → Prop}
    (k7 : blk H b7 (viewC line sv dv m bz pz)) (k11 : blk H b11 (wordsC w)) (c7 : col b7 = .other) (c11 : col b11 = .other) (hs : SlR H col (.lost 77) 1 sv (intsC xs)) (hd : SlR H col (.lost 78) 4 dv (wordsL ys)) (hl : xs.length ≤ 100 ∧ ys.length ≤ 100) (hk : k ≤ 100)
    (hK : ∀ H' col' sv' dv' S, (∀ x ∈ S, x < H.size → col x = .lost 77 ∨ col x = .lost 78 ∨ x = b7) → Ext S H H' → Same H col col' → blk H' b7 (viewC line sv' dv' m bz pz) → SlR H' col' (.lost 77) 1 sv' (intsC (xs ++ [st])) → SlR H' col' (.lost 78) 4 dv' (wordsL (ys ++ [w])) → R8 t1 t4 (at0 b7) t41 t42 (.int .i64 (k + 1 : Nat)) H') :
    F23_18 t1 t4 (at0 b7) (.int .i64 st) (at0 b11) t41 t42 (.int .i64 k) H R8 Q := by
  have l7 := k7.lt
  have l11 := k11.lt
  have C1 : ∀ {G : Hp}, blk G b7 (viewC line sv dv m bz pz) → cellAt G ⟨b7, 1, none⟩ = some sv := fun k => by rw [k.cell]; rfl
  have C2 : ∀ {G : Hp}, blk G b7 (viewC line sv dv m bz pz) → cellAt G ⟨b7, 2, none⟩ = some dv := fun k => by rw [k.cell]; rfl
  have C4 : ∀ {G : Hp}, blk G b11 (wordsC w) → cellsAt G ⟨b11, 0, none⟩ 4 = some (wordsC w) := fun k => by rw [k.cells]; simp [wordsC]
  have bI : bslCells #[.int .i64 0] 1 1 [(0, .int .i64 st)] = some #[.int .i64 st] := by kernel_rfl
  have bW : bslCells #[.int .u32 0, .int .u32 0, .int .u32 0, .int .u32 0] 4 1 [(0, .agg (wordsC w))] = some (wordsC w) := by kernel_rfl
  have wk : IntKind.wrap .i64 ((k : Int) + 1) = ((k + 1 : Nat) : Int) := by rw [w64 (by omega) (by omega)]; simp
  have xI : ∀ {G : Hp} {b : Nat}, blk G b #[.int .i64 st] → Slc G 1 (.slice (some ⟨b, 0, none⟩) 1 1) (intsC [st]) b := fun k => Slc.of (xs := intsC [st]) (c := _) (by simp [intsC]) k (by simp [intsC]) (by simp) (by simp [intsC])
  have xW : ∀ {G : Hp} {b : Nat}, blk G b (wordsC w) → Slc G 4 (.slice (some ⟨b, 0, none⟩) 1 1) (wordsL [w]) b := fun k => Slc.of (xs := wordsL [w]) (c := _) (by simp [wordsL, wordsC]) k (by simp [wordsL]) (by simp [wordsC]) (by simp [wordsL, wordsC])
  have oW : ∀ y ∈ wordsL [w], y.all one = true := by intro y hy; simp [wordsL] at hy; subst hy; rfl
  have eI : intsC xs ++ intsC [st] = intsC (xs ++ [st]) := by simp [intsC]
  have eW : wordsL ys ++ wordsL [w] = wordsL (ys ++ [w]) := by simp [wordsL]
  have lI := intsC_len xs
  have lW : (wordsL ys).length = ys.length := by simp [wordsL]
  have l1 : (intsC [st]).length = 1 := rfl
  have l2 : (wordsL [w]).length = 1 := rfl
  -- the end
  have tail : ∀ (G : Hp) (colG : Nat → Rl) (sv' dv' : Value) (S : List Nat), (∀ x ∈ S, x < H.size → col x = .lost 77 ∨ col x = .lost 78) → Ext S H G → Same H col colG → SlR G colG (.lost 77) 1 sv' (intsC (xs ++ [st])) → SlR G colG (.lost 78) 4 dv' (wordsL (ys ++ [w])) →
      St 1 G (.pointer (some ⟨b7, 1, none⟩)) sv' (fun H_14 => q (Fa 2 (at0 b7)) fun t78_16 => St 1 H_14 t78_16 dv' (fun H_15 => F23_12 t1 t4 (at0 b7) t41 t42 (.int .i64 k) H_15 R8 Q)) := by
    intro G colG sv' dv' S hS e Sm hs' hd'
    have h7 : b7 ∉ S := by intro h; rcases hS b7 h l7 with h | h <;> (rw [c7] at h; cases h)
    have kG := k7.ext e h7
    have c7G : colG b7 = .other := (Sm _ l7).trans c7
    obtain ⟨bz1, hz1⟩ := hs'.slc
    obtain ⟨a1, cap1, hv1, _, _⟩ := hz1.shape
    obtain ⟨bz2, hz2⟩ := hd'.slc
    obtain ⟨a2, cap2, hv2, _, _⟩ := hz2.shape
    have hcv1 : sv'.cells = #[sv'] := by rw [hv1]; rfl
    have hcv2 : dv'.cells = #[dv'] := by rw [hv2]; rfl
    refine St_i kG (by rw [hcv1]; rfl) (by simp [viewC]) (by rw [hcv1, hv1]; rfl) fun G1 e1 s1 k1 => ?_
    have k1' : blk G1 b7 (viewC line sv' dv m bz pz) := by rw [hcv1] at k1; simpa [wrL, viewC] using k1
    simp -implicitDefEqProofs only [Fa_some, add_mk, Nat.zero_add, q_some]
    refine St_i k1' (by rw [hcv2]; rfl) (by simp [viewC]) (by rw [hcv2, hv2]; rfl) fun G2 e2 s2 k2 => ?_
    have k2' : blk G2 b7 (viewC line sv' dv' m bz pz) := by rw [hcv2] at k2; simpa [wrL, viewC] using k2
    unfold F23_12
    simp -implicitDefEqProofs only [Bin_add_3, wk, q_some]
    have e12 : Ext [b7] G G2 := e1.trans e2
    refine hK G2 colG sv' dv' (b7 :: S) ?_ ((e.mono (by simp; intro a ha; exact .inr ha)).trans (e12.mono (by simp))) Sm k2' (hs'.ext e12 (Same.refl _ _) ?_) (hd'.ext e12 (Same.refl _ _) ?_)
    · intro x hx hl
      rcases List.mem_cons.1 hx with rfl | hx
      · exact .inr (.inr rfl)
      · rcases hS x hx hl with h | h
        · exact .inl h
        · exact .inr (.inl h)
    · intro x hx _; simp at hx; subst hx; rw [c7G]; simp
    · intro x hx _; simp at hx; subst hx; rw [c7G]; simp
  -- the first is appended
  have app1 : ∀ (G : Hp) (colG : Nat → Rl) (bi : Nat) (K : Value → Hp → Prop), Ext [] H G → Same H col colG → blk G bi #[.int .i64 st] →
      (∀ G2 v2 col2 S, (∀ x ∈ S, x < G.size ∧ colG x = .lost 77) → Ext S G G2 → Same G colG col2 → SlR G2 col2 (.lost 77) 1 v2 (intsC (xs ++ [st])) → K v2 G2) →
      dm Tryz.prog (Builtin.append_ #[49, 49] 0 #[sv, .slice (some ⟨bi, 0, none⟩) 1 1]) G K := by
    intro G colG bi K e Sm kb hK'
    refine append_R ty_49 (col := colG) (hs.ext e Sm (by simp)) (xI kb) intsC_one (by rw [lI, l1]; omega) fun G2 v2 col2 hE S2 r2 => ?_
    obtain ⟨S, h1, h2⟩ := hE
    rw [eI] at r2
    exact hK' G2 v2 col2 S h1 h2 S2 r2
  -- the second is appended, and all is stored
  have app2 : ∀ (G : Hp) (colG : Nat → Rl) (bw : Nat) (sv' : Value) (S1 : List Nat), (∀ x ∈ S1, x < H.size → col x = .lost 77) → Ext S1 H G → Same H col colG → SlR G colG (.lost 77) 1 sv' (intsC (xs ++ [st])) → blk G bw (wordsC w) →
      dm Tryz.prog (Builtin.append_ #[50, 50] 0 #[dv, .slice (some ⟨bw, 0, none⟩) 1 1]) G (fun t76 H14 => St 1 H14 (.pointer (some ⟨b7, 1, none⟩)) sv' (fun H_14 => q (Fa 2 (at0 b7)) fun t78_16 => St 1 H_14 t78_16 t76 (fun H_15 => F23_12 t1 t4 (at0 b7) t41 t42 (.int .i64 k) H_15 R8 Q))) := by
    intro G colG bw sv' S1 hS1 e Sm hs' kb
    have hdG : SlR G colG (.lost 78) 4 dv (wordsL ys) := hd.ext e Sm (by intro x hx hl; rw [hS1 x hx hl]; simp)
    refine append_R ty_50 (col := colG) hdG (xW kb) oW (by rw [lW, l2]; omega) fun G2 v2 col2 hE S2 r2 => ?_
    obtain ⟨S, h1, h2⟩ := hE
    rw [eW] at r2
    refine tail G2 col2 sv' v2 (S1 ++ S) ?_ ((e.mono (by intro a ha; simp [ha])).trans (h2.mono (by intro a ha; simp [ha]))) (Sm.trans (H' := G) S2 e.size) (hs'.ext h2 S2 (by intro x hx _; rw [(h1 x hx).2]; simp)) r2
    intro x hx hl
    rcases List.mem_append.1 hx with hx | hx
    · exact .inl (hS1 x hx hl)
    · right; rw [← Sm x hl]; exact (h1 x hx).2
  have nS : ∀ {G : Hp} {colG : Nat → Rl} {S : List Nat} {b : Nat}, Same H col colG → (∀ x ∈ S, x < G.size ∧ colG x = .lost 77) → b < H.size → col b = .other → b ∉ S := by
    intro G colG S b Sm h1 hb hc hx
    have := (h1 b hx).2
    rw [Sm b hb, hc] at this; cases this
  unfold F23_18
  refine ⟨?_, ?_, ?_⟩
  · simp -implicitDefEqProofs only [Fa_some, add_mk, Nat.zero_add, q_some, Ld_some, C1 k7, C2 k7, LdA_some, C4 k11, Option.map_some]
    refine Bsl_i bI fun G1 bi hbi e1 s1 kbi => ?_
    refine ⟨by rw [C4 (k11.ext e1 (by simp))]; rfl, C2 (k7.ext e1 (by simp)), C1 (k7.ext e1 (by simp)), ?_⟩
    refine app1 G1 col bi _ e1 (Same.refl _ _) kbi fun G2 v2 col2 S h1 h2 S2 r2 => ?_
    have z1 := e1.size
    have e2 : Ext S H G2 := (e1.mono (by simp)).trans h2
    have S2' : Same H col col2 := fun x hx => S2 x (by omega)
    have k72 := k7.ext e2 (nS (Same.refl _ _) h1 l7 c7)
    have k112 := k11.ext e2 (nS (Same.refl _ _) h1 l11 c11)
    refine ⟨by rw [C4 k112]; rfl, C2 k72, ?_⟩
    refine Bsl_i bW fun G3 bw hbw e3 s3 kbw => ?_
    have e3' : Ext S H G3 := e2.trans (e3.mono (by simp))
    refine ⟨C2 (k72.ext e3 (by simp)), ?_, ?_⟩
    · exact C1 (k72.ext e3 (by simp))
    · exact app2 G3 col2 bw v2 S (fun x hx hl => (h1 x hx).2) e3' S2' (r2.ext e3 (Same.refl _ _) (by simp)) kbw
  · simp -implicitDefEqProofs only [Fa_some, add_mk, Nat.zero_add, q_some, Ld_some, C1 k7, C2 k7, LdA_some, C4 k11, Option.map_some]
    refine Bsl_i bI fun G1 bi hbi e1 s1 kbi => ?_
    refine ⟨by rw [C4 (k11.ext e1 (by simp))]; rfl, C2 (k7.ext e1 (by simp)), C1 (k7.ext e1 (by simp)), ?_⟩
    refine Bsl_i bW fun G2 bw hbw e2 s2 kbw => ?_
    have e12 := e1.trans e2
    refine ⟨C2 (k7.ext e12 (by simp)), C1 (k7.ext e12 (by simp)), ?_⟩
    have z1 := e1.size
    have z2 := e2.size
    refine app1 G2 (recol col bw .other) bi _ e12 (Same.recol (by omega)) (kbi.ext e2 (by simp)) fun G3 v3 col3 S h1 h2 S3 r3 => ?_
    have e3 : Ext S H G3 := (e12.mono (by simp)).trans h2
    have S3' : Same H col col3 := (Same.recol (by omega)).trans (H' := G2) S3 (by omega)
    have k73 := k7.ext e3 (nS (Same.recol (by omega)) h1 l7 c7)
    have k113 := k11.ext e3 (nS (Same.recol (by omega)) h1 l11 c11)
    have kbw3 := kbw.ext h2 (by intro hx; have := (h1 bw hx).2; simp [recol] at this)
    refine ⟨by rw [C4 k113]; rfl, C2 k73, ?_⟩
    exact app2 G3 col3 bw v3 S (fun x hx hl => by have := (h1 x hx).2; simp only [recol] at this; rw [if_neg (by omega)] at this; exact this) e3 S3' r3 kbw3
  · simp -implicitDefEqProofs only [Fa_some, add_mk, Nat.zero_add, q_some, Ld_some, C1 k7, C2 k7, LdA_some, C4 k11, Option.map_some]
    refine Bsl_i bW fun G1 bw hbw e1 s1 kbw => ?_
    refine ⟨C2 (k7.ext e1 (by simp)), C1 (k7.ext e1 (by simp)), ?_⟩
    refine Bsl_i bI fun G2 bi hbi e2 s2 kbi => ?_
    have e12 := e1.trans e2
    refine ⟨by rw [C4 (k11.ext e12 (by simp))]; rfl, C2 (k7.ext e12 (by simp)), C1 (k7.ext e12 (by simp)), ?_⟩
    have z1 := e1.size
    have z2 := e2.size
    refine app1 G2 (recol col bw .other) bi _ e12 (Same.recol (by omega)) kbi fun G3 v3 col3 S h1 h2 S3 r3 => ?_
    have e3 : Ext S H G3 := (e12.mono (by simp)).trans h2
    have S3' : Same H col col3 := (Same.recol (by omega)).trans (H' := G2) S3 (by omega)
    have k73 := k7.ext e3 (nS (Same.recol (by omega)) h1 l7 c7)
    have k113 := k11.ext e3 (nS (Same.recol (by omega)) h1 l11 c11)
    have kbw3 := (kbw.ext e2 (by simp)).ext h2 (by intro hx; have := (h1 bw hx).2; simp [recol] at this)
    refine ⟨by rw [C4 k113]; rfl, C2 k73, ?_⟩
    exact app2 G3 col3 bw v3 S (fun x hx hl => by have := (h1 x hx).2; simp only [recol] at this; rw [if_neg (by omega)] at this; exact this) e3 S3' r3 kbw3
theorem View_23 {H : Hp} {col : Nat → Rl} {bf : Nat} {s : Sk} {f : Fab} {line : Int} {Q : Value → Hp → Prop} (fa : FabAt H col bf s f) (ok : FabOk f)
    (hn : f.view line = none → ∀ H', Ext [] H H' → Q (.tuple #[.agg (viewC 0 (.slice none 0 0) (.slice none 0 0) .zero false false), .bool false]) H')
    (hs : ∀ V, f.view line = some V → ∀ H' sv dv b1 b2, Ext [] H H' → Slc H' 1 sv (intsC V.state) b1 → Slc H' 4 dv (wordsL V.data) b2 → H.size ≤ b1 → H.size ≤ b2 → b1 ≠ b2 → Q (.tuple #[.agg (viewC line sv dv V.memory V.busy V.puts), .bool true]) H') :
    NCalls Tryz.prog 23 #[at0 bf, .int .i64 line] H Q := by
  refine E23 ?_
  unfold F23_0 F23_29
  refine New_i fun H1 b4 hb4 e1 s1 k4 => ?_
  unfold F23_1 F23_28
  have fa1 := fa.ext0 e1
  have ex9 : ∀ l sv dv m bz pz, (viewC l sv dv m bz pz).size = 9 ∧ (viewC l sv dv m bz pz).extract 0 9 = viewC l sv dv m bz pz := fun l sv dv m bz pz => ⟨rfl, by simp [viewC]⟩
  by_cases hin : line < 0 ∨ line ≥ f.homes.length
  · have hv : f.view line = none := by unfold Fab.view; rw [if_pos hin]
    have go : q (pv Tryz.prog (Instr.build 54 #[])) (fun t24 => St 9 H1 (at0 b4) t24 (fun H_87 => q (LdA 9 H_87 (at0 b4)) fun r_88 => Q (.tuple #[r_88, .bool false]) H_87)) := by
      simp only [bld_54, q_some]
      refine St_i k4 (by simp) (by simp) (by simp) fun H2 e2 s2 k2 => ?_
      have k2' : blk H2 b4 (viewC 0 (.slice none 0 0) (.slice none 0 0) .zero false false) := by simpa [wrL, viewC, Words.zero] using k2
      simp -implicitDefEqProofs only [LdA_some, k2'.cells, (ex9 _ _ _ _ _ _).1, (ex9 _ _ _ _ _ _).2, Nat.zero_add, Nat.le_refl, if_true, Option.map_some, q_some]
      exact hn hv H2 (e1.fresh e2 (by simp; omega))
    rcases hin with h0 | h1
    · simp -implicitDefEqProofs only [Bin_lss_3, h0, decide_true, q_some, gd_bool, Bool.true_eq_false, if_false, Pk_bool, if_true, condV_bool]
      exact go
    · by_cases h0 : line < 0
      · simp -implicitDefEqProofs only [Bin_lss_3, h0, decide_true, q_some, gd_bool, Bool.true_eq_false, if_false, Pk_bool, if_true, condV_bool]
        exact go
      · have h1' : (f.homes.length : Int) ≤ line := h1
        simp -implicitDefEqProofs only [Bin_lss_3, h0, decide_false, q_some, gd_bool, if_true, Nz_some, Fa_some, add_mk, Nat.zero_add, Ld_some, fa1.cHv, fa1.lenH, Bin_geq_3, ge_iff_le, h1', decide_true, Pk_bool, Bool.false_eq_true, if_false, condV_bool]
        exact go
  · have h0 : ¬ line < 0 := by omega
    have h1 : ¬ ((f.homes.length : Int) ≤ line) := by omega
    obtain ⟨h, hh⟩ : ∃ h, f.homes[line.toNat]? = some h := ⟨_, List.getElem?_eq_getElem (by omega)⟩
    have hv := view_eq (by omega) hh
    simp -implicitDefEqProofs only [Bin_lss_3, h0, decide_false, q_some, gd_bool, if_true, Nz_some, Fa_some, add_mk, Nat.zero_add, Ld_some, fa1.cHv, fa1.lenH, Bin_geq_3, ge_iff_le, h1, Pk_bool, Bool.false_eq_true, if_false, condV_bool]
    unfold F23_2 F23_27
    obtain ⟨e, o, b, hix, hcell, hr⟩ := fa1.homeIx hh
    have hih : ((line.toNat : Nat) : Int) = line := by omega
    rw [hih] at hix
    simp -implicitDefEqProofs only [Nz_some, q_some, Fa_some, add_mk, Nat.zero_add, Ld_some, fa1.cHv, hix, hcell]
    unfold F23_3 F23_26
    obtain ⟨bs, bi, ha, _, _, _⟩ := hr
    refine Data_home ha fun H2 e2 => ?_
    have ha2 := ha.ext0 e2
    refine Busy_spec ha2 ?_
    have hbld : pv Tryz.prog (Instr.build 54 #[(0, .int .i64 line), (3, .agg (wordsC h.data)), (4, .bool h.busy)]) = some (.agg (viewC line (.slice none 0 0) (.slice none 0 0) h.data h.busy false)) := by kernel_rfl
    simp -implicitDefEqProofs only [hbld, q_some]
    refine New_i fun H3 b7 hb7 e3 s3 k3 => ?_
    refine St_i k3 (by simp [viewC]) (by simp) (by simp [viewC]) fun H4' e4 s4 k4' => ?_
    have k7 : blk H4' b7 (viewC line (.slice none 0 0) (.slice none 0 0) h.data h.busy false) := by simpa [wrL, viewC] using k4'
    have z1 := e1.size
    have z2 := e2.size
    have z3 := e3.size
    have e24 : Ext [] H1 H4' := (e2.trans e3).fresh e4 (by simp; omega)
    have E4 : Ext [] H H4' := e1.trans e24
    have k44 := k4.ext e24 (by simp)
    have l44 := k44.lt
    unfold F23_4 F23_6 F23_25
    have fa4 := fa.ext0 E4
    simp -implicitDefEqProofs only [Nz_some, q_some, Fa_some, add_mk, Nat.zero_add, Ld_some, fa4.cPv, fa4.lenP]
    unfold F23_7 F23_8
    obtain ⟨col4, hcol4⟩ : ∃ c : Nat → Rl, c = fun _ => .other := ⟨_, rfl⟩
    have c4 : ∀ x, col4 x = .other := by subst hcol4; intro x; rfl
    have c7 := c4 b7
    have hp4 := ok.h1
    refine ⟨fun v43 H' => ∃ (i : Nat) (col' : Nat → Rl) (sv dv : Value), v43 = .int .i64 i ∧ i ≤ f.parts.length ∧ Ext [] H H' ∧ Ext [b7] H4' H' ∧ Same H4' col4 col' ∧ blk H' b7 (viewC line sv dv h.data h.busy ((f.parts.take i).any (puOf line))) ∧ SlR H' col' (.lost 77) 1 sv (intsC ((f.parts.take i).map (stOf line))) ∧ SlR H' col' (.lost 78) 4 dv (wordsL ((f.parts.take i).map (dtOf line))),
      fun v43 _ => f.parts.length - (iv v43).toNat, ⟨0, col4, _, _, rfl, by omega, E4, .refl _ _, Same.refl _ _, by simpa using k7, .inl ⟨rfl, by simp [intsC]⟩, .inl ⟨rfl, by simp [wordsL]⟩⟩, ?_⟩
    rintro v43 H5 ⟨i, col5, sv, dv, rfl, hi, E5, E5b, S5, k75, hs5, hd5⟩
    unfold F23_9 F23_24
    have fa5 := fa.ext0 E5
    by_cases hlt : i < f.parts.length
    · have hlt' : (i : Int) < f.parts.length := by omega
      simp -implicitDefEqProofs only [Bin_lss_3, hlt', decide_true, q_some]
      unfold F23_10 F23_23
      simp -implicitDefEqProofs only [condV_bool, if_true]
      unfold F23_11 F23_13 F23_14 F23_22
      have hp : f.parts[i]? = some f.parts[i] := List.getElem?_eq_getElem hlt
      generalize hpe : f.parts[i] = p at hp
      obtain ⟨bp, hb⟩ := fa5.bpOf hlt
      obtain ⟨hlb, hbe⟩ := List.getElem?_eq_some_iff.1 hb
      obtain ⟨e', o', hix', hcell'⟩ := fa5.partIx hlb
      rw [hbe] at hcell'
      simp -implicitDefEqProofs only [hix', q_some, Ld_some, hcell']
      unfold F23_15 F23_21 F23_16 F23_20
      refine New_i fun H6 b11 hb11 e6 s6 k6 => ?_
      unfold F23_17 F23_19
      have k76 := k75.ext e6 (by simp)
      have fa6 := fa5.ext0 e6
      have z5 := E5.size
      have z5b := E5b.size
      have l7 := k7.lt
      have l75 := k75.lt
      have c5_4 : col5 b7 = .other := (S5 _ l7).trans c7
      have S6 : Same H5 col5 (recol col5 b11 .other) := Same.recol (by omega)
      have c67 : recol col5 b11 .other b7 = .other := by simp only [recol]; rw [if_neg (by omega)]; exact c5_4
      have hs6 := hs5.ext e6 S6 (by simp)
      have hd6 := hd5.ext e6 S6 (by simp)
      have htk : f.parts.take (i + 1) = f.parts.take i ++ [p] := by rw [List.take_succ_eq_append_getElem hlt, hpe]
      -- the row is added
      have row : ∀ (G : Hp) (w : Words) (st : Int) (pz : Bool), Ext [b11, b7] H6 G → blk G b7 (viewC line sv dv h.data h.busy pz) → blk G b11 (wordsC w) → st = stOf line p → w = dtOf line p → pz = ((f.parts.take i).any (puOf line) || puOf line p) →
          F23_18 (.int .i64 line) (at0 b4) (at0 b7) (.int .i64 st) (at0 b11) s.pv (.int .i64 f.parts.length) (.int .i64 i) G (fun m1 m4 m7 m41 m42 m43 H2 => m1 = .int .i64 line ∧ m4 = at0 b4 ∧ m7 = at0 b7 ∧ m41 = s.pv ∧ m42 = .int .i64 f.parts.length ∧ ((∃ (i : Nat) (col' : Nat → Rl) (sv dv : Value), m43 = .int .i64 i ∧ i ≤ f.parts.length ∧ Ext [] H H2 ∧ Ext [b7] H4' H2 ∧ Same H4' col4 col' ∧ blk H2 b7 (viewC line sv dv h.data h.busy ((f.parts.take i).any (puOf line))) ∧ SlR H2 col' (.lost 77) 1 sv (intsC ((f.parts.take i).map (stOf line))) ∧ SlR H2 col' (.lost 78) 4 dv (wordsL ((f.parts.take i).map (dtOf line)))) ∧ f.parts.length - (iv m43).toNat < f.parts.length - (iv (.int .i64 (i : Int))).toNat)) Q := by
        intro G w st pz eG kG7 kG11 hst hw hpz
        have neL : ∀ x ∈ [b11, b7], x < H6.size → recol col5 b11 .other x = .other := by
          intro x hx _; simp at hx
          rcases hx with rfl | rfl
          · simp [recol]
          · exact c67
        refine view_row kG7 kG11 c67 (by simp [recol]) (hs6.ext eG (Same.refl _ _) (by intro x hx hl; rw [neL x hx hl]; simp)) (hd6.ext eG (Same.refl _ _) (by intro x hx hl; rw [neL x hx hl]; simp)) (by simp; omega) (by omega) fun G2 col2 sv2 dv2 S hS eS S2 k2 r1 r2 => ?_
        have zG := eG.size
        have lG7 := kG7.lt
        have lG11 := kG11.lt
        have S42 : Same H4' col4 col2 := (S5.trans (H' := H5) S6 (by omega)).trans (H' := G) S2 (by omega)
        have e62 : Ext [b11, b7] H4' G := (E5b.mono (by simp)).trans ((e6.mono (by simp)).trans eG)
        have eB : Ext [b7] H4' G2 := by
          refine Ext.fresh (S := [b11, b7] ++ S) ?_ ((e62.mono (by intro a ha; exact List.mem_append.2 (.inl ha))).trans (eS.mono (by intro a ha; exact List.mem_append.2 (.inr ha)))) ?_
          · exact .refl _ _
          · intro x hx
            rcases List.mem_append.1 hx with hx | hx
            · simp at hx
              rcases hx with rfl | rfl
              · right; omega
              · left; simp
            · by_cases hxl : x < H4'.size
              · have hxG : x < G.size := by omega
                have hc : recol col5 b11 .other x = col4 x := by simp only [recol]; rw [if_neg (by omega)]; exact S5 x hxl
                rcases hS x hx hxG with h | h | h
                · rw [hc, c4] at h; cases h
                · rw [hc, c4] at h; cases h
                · left; simp [h]
              · right; omega
        refine ⟨rfl, rfl, rfl, rfl, rfl, ⟨i + 1, col2, sv2, dv2, rfl, by omega, ?_, eB, S42, ?_, ?_, ?_⟩, by simp; omega⟩
        · exact E4.fresh eB (by simp; omega)
        · rw [htk, List.any_append]; simpa [← hpz] using k2
        · rw [htk, List.map_append]; simpa [← hst] using r1
        · rw [htk, List.map_append]; simpa [← hw] using r2
      have hpok := ok.pOf hp
      refine line_45 (fa6.ptAt hb hp) (by omega) (fun hnone => ?_) (fun l bl hsome hil => ?_)
      · simp -implicitDefEqProofs only [Bin_neq_111, Option.isNone_none, Bool.not_true, q_some, condV_bool, Bool.false_eq_true, if_false]
        exact row H6 .zero 0 _ (.refl _ _) k76 (by simpa [wordsC, Words.zero] using k6) (by simp [stOf, hnone]) (by simp [dtOf, hnone]) (by simp [puOf, hnone])
      · obtain ⟨_, kl, _⟩ := (fa6.ptAt hb hp).lone (by omega) hsome hil
        simp -implicitDefEqProofs only [Bin_neq_111, Option.isNone_some, Bool.not_false, q_some, condV_bool, if_true]
        refine State_spec kl ?_
        refine Data_spec kl fun H7 e7 => ?_
        have k6' := k6.ext e7 (by simp)
        have k77 := k76.ext e7 (by simp)
        have kl7 := kl.ext e7 (by simp)
        simp -implicitDefEqProofs only [Ex_tuple, List.getElem?_toArray, List.getElem?_cons_zero, List.getElem?_cons_succ, q_some]
        refine St_i k6' (by simp [wordsC]) (by simp) (by simp [wordsC]) fun H8 e8 s8 k8 => ?_
        have k8' : blk H8 b11 (wordsC (lineD l).1) := by simpa [wrL, wordsC] using k8
        have z6 := e6.size
        have k78 := k77.ext e8 (by simp; omega)
        have hbl : bl < H6.size := kl.lt
        have hbl11 : bl ≠ b11 := by
          obtain ⟨cbl, _, _⟩ := ((fa5.new (b := b11) e6 (by omega)).ptAt hb hp).lone (by omega) hsome hil
          intro h2; subst h2; simp [recol] at cbl
        have kl8 := kl7.ext e8 (by simpa using hbl11)
        have c8 : ∀ {G : Hp} {sv dv : Value} {m : Words} {bz pz : Bool}, blk G b7 (viewC line sv dv m bz pz) → cellAt G ⟨b7, 8, none⟩ = some (.bool pz) := fun k => by rw [k.cell]; rfl
        simp -implicitDefEqProofs only [Fa_some, add_mk, Nat.zero_add, q_some, Ld_some, c8 k78]
        have fin3 : ∀ pz, pz = ((f.parts.take i).any (puOf line) || puOf line p) → ∀ pv2, pv2 = .bool pz → St 1 H8 (.pointer (some ⟨b7, 8, none⟩)) pv2 (fun H_58 => F23_18 (.int .i64 line) (at0 b4) (at0 b7) (.int .i64 l.state) (at0 b11) s.pv (.int .i64 f.parts.length) (.int .i64 i) H_58 (fun m1 m4 m7 m41 m42 m43 H2 => m1 = .int .i64 line ∧ m4 = at0 b4 ∧ m7 = at0 b7 ∧ m41 = s.pv ∧ m42 = .int .i64 f.parts.length ∧ ((∃ (i : Nat) (col' : Nat → Rl) (sv dv : Value), m43 = .int .i64 i ∧ i ≤ f.parts.length ∧ Ext [] H H2 ∧ Ext [b7] H4' H2 ∧ Same H4' col4 col' ∧ blk H2 b7 (viewC line sv dv h.data h.busy ((f.parts.take i).any (puOf line))) ∧ SlR H2 col' (.lost 77) 1 sv (intsC ((f.parts.take i).map (stOf line))) ∧ SlR H2 col' (.lost 78) 4 dv (wordsL ((f.parts.take i).map (dtOf line)))) ∧ f.parts.length - (iv m43).toNat < f.parts.length - (iv (.int .i64 (i : Int))).toNat)) Q) := by
          rintro pz hpz pv2 rfl
          refine St_i k78 (by simp) (by simp [viewC]) (by simp) fun H9 e9 s9 k9 => ?_
          have k9' : blk H9 b7 (viewC line sv dv h.data h.busy pz) := by simpa [wrL, viewC] using k9
          refine row H9 (lineD l).1 l.state pz ?_ k9' (k8'.ext e9 (by simp; omega)) (by simp [stOf, hsome]) (by unfold dtOf lineD; rw [hsome]; simp only []; split <;> rfl) hpz
          exact ((e7.mono (by simp)).trans (e8.mono (by simp))).trans (e9.mono (by simp))
        cases hpp : (f.parts.take i).any (puOf line) with
        | true =>
          simp -implicitDefEqProofs only [gd_bool, gl_bool, Bool.true_eq_false, if_false, q_some, Pk_bool, if_true]
          exact fin3 true (by rw [hpp]; rfl) _ rfl
        | false =>
          simp -implicitDefEqProofs only [gd_bool, gl_bool, if_true, q_some]
          refine Waits_spec kl8 ?_
          simp -implicitDefEqProofs only [Bin_eql_3, q_some, Pk_bool, Bool.false_eq_true, if_false]
          exact fin3 (l.waits == 3) (by rw [hpp]; simp [puOf, hsome]) _ rfl
    · have hil : i = f.parts.length := by omega
      subst hil
      rw [List.take_length] at k75 hs5 hd5
      have hlt' : ¬ ((f.parts.length : Int) < f.parts.length) := by omega
      simp -implicitDefEqProofs only [Bin_lss_3, hlt', decide_false, q_some]
      unfold F23_10 F23_23
      simp -implicitDefEqProofs only [condV_bool, Bool.false_eq_true, if_false]
      unfold F23_5
      simp -implicitDefEqProofs only [LdA_some, k75.cells, (ex9 _ _ _ _ _ _).1, (ex9 _ _ _ _ _ _).2, Nat.zero_add, Nat.le_refl, if_true, Option.map_some, q_some]
      have k45 := k44.ext E5b (by simp; omega)
      obtain ⟨ba, hsa, hba⟩ := hs5.blk1 (H5.size + 1)
      obtain ⟨bb, hsb, hbb⟩ := hd5.blk1 (H5.size + 2)
      obtain ⟨aa, capa, hva, _, _⟩ := hsa.shape
      obtain ⟨ab, capb, hvb, _, _⟩ := hsb.shape
      refine St_i k45 (by simp [viewC]) (by simp) (by rw [hva, hvb]; simp [viewC]) fun H6 e6 s6 k6 => ?_
      have k6' : blk H6 b4 (viewC line sv dv h.data h.busy (f.parts.any (puOf line))) := by simpa [wrL, viewC] using k6
      simp -implicitDefEqProofs only [LdA_some, k6'.cells, (ex9 _ _ _ _ _ _).1, (ex9 _ _ _ _ _ _).2, Nat.zero_add, Nat.le_refl, if_true, Option.map_some, q_some]
      have z5 := E5.size
      have z5b := E5b.size
      have low : ∀ x r, r ≠ .other → x < H5.size → col5 x = r → H4'.size ≤ x := by
        intro x r hr hx hc
        apply Classical.byContradiction; intro hlt2
        rw [S5 x (by omega), c4] at hc; exact hr hc.symm
      have la : H4'.size ≤ ba := by rcases hba with ⟨h1, h2⟩ | ⟨h1, _⟩; exact low ba _ (by simp) h1 h2; omega
      have lb : H4'.size ≤ bb := by rcases hbb with ⟨h1, h2⟩ | ⟨h1, _⟩; exact low bb _ (by simp) h1 h2; omega
      have nab : ba ≠ bb := by
        intro h2; subst h2
        rcases hba with ⟨h1, h2⟩ | ⟨h1, _⟩ <;> rcases hbb with ⟨h3, h4⟩ | ⟨h3, _⟩
        · rw [h2] at h4; cases h4
        · omega
        · omega
        · omega
      have := hs _ hv H6 sv dv ba bb (E5.fresh e6 (by simp; omega)) (hsa.ext e6 (by simp; omega)) (hsb.ext e6 (by simp; omega)) (by omega) (by omega) nab
      exact this
end YtacidjifocfhkaaGreatDoor
end Go.Proofs
namespace Go.Pm
set_option maxRecDepth 100000
set_option linter.unusedVariables false
def stl (f : Fab) : Fab := match f.settle 60 with | some g => g.1 | none => f
def stlOk (f : Fab) : Bool := match f.settle 60 with | some g => g.2 | none => false
def stlIs (f : Fab) : Bool := (f.settle 60).isSome
theorem stl_eq {f : Fab} (h : stlIs f = true) : f.settle 60 = some (stl f, stlOk f) := by
  unfold stlIs at h
  unfold stl stlOk
  cases hs : f.settle 60 with
  | none => rw [hs] at h; cases h
  | some g => rfl
def askTo (w : Bool) (f : Fab) : Nat → Fab
  | 0 => f
  | k + 1 => ((askTo w f k).ask k 0 w).1
def readTo (f : Fab) : Nat → Fab
  | 0 => f
  | k + 1 => ((readTo f k).read k 0 4).1
def data64 (ws : List Int) : List Words := (List.range 4).map (lineOf (memNew 64 ws))
namespace First
def g0 : Fab := Fab.new 2 1 1 12 (data64 [])
def g1 : Fab := (g0.ask 0 0 true).1
def g2 : Fab := stl g1
def g3 : Fab := (g2.write 0 0 4 7).1
def g4 : Fab := (g3.read 1 0 4).1
def g5 : Fab := (g4.ask 1 0 false).1
def g6 : Fab := stl g5
theorem a0 : (g0.ask 0 0 true).2 = true := by kernel_rfl
theorem s1 : stlIs g1 = true := by kernel_rfl
theorem o1 : stlOk g1 = true := by kernel_rfl
theorem w2 : (g2.write 0 0 4 7).2 = true := by kernel_rfl
theorem r3 : (g3.read 1 0 4).2.2 = false := by kernel_rfl
theorem a4 : (g4.ask 1 0 false).2 = true := by kernel_rfl
theorem s5 : stlIs g5 = true := by kernel_rfl
theorem r6 : (g6.read 1 0 4).2 = (7, true) := by kernel_rfl
end First
namespace Rd
def f0 (n : Nat) : Fab := Fab.new n 2 2 (6 * n) (data64 [5])
def f1 (n : Nat) : Fab := stl (askTo false (f0 n) n)
def f2 (n : Nat) : Fab := readTo (f1 n) n
def f3 (n : Nat) (v : Int) : Fab := ((f2 n).write ((n : Int) - 1) 0 4 v).1
def f4 (n : Nat) (v : Int) : Fab := ((f3 n v).ask ((n : Int) - 1) 0 true).1
def f5 (n : Nat) (v : Int) : Fab := ((stl (f4 n v)).write ((n : Int) - 1) 0 4 v).1
def f6 (n : Nat) (v : Int) : Fab := if n = 1 then f3 n v else f5 n v
def f7 (n : Nat) (v : Int) : Fab := stl (askTo false (f6 n v) n)
structure Facts (n : Nat) (v : Int) : Prop where
  a : ∀ k : Nat, k < n → ((askTo false (f0 n) k).ask k 0 false).2 = true
  s : stlIs (askTo false (f0 n) n) = true
  r : ∀ k : Nat, k < n → ((readTo (f1 n) k).read k 0 4).2 = (5, true)
  vw : ∃ V, (f2 n).view 0 = some V ∧ V.state.length = n ∧ V.data.length = n ∧ (∃ x xs, V.state = x :: xs ∧ x ≠ 99) ∧ ∃ w ws, V.data = w :: ws ∧ w.a = 5
  w : ((f2 n).write ((n : Int) - 1) 0 4 v).2 = (n == 1)
  b : n ≠ 1 → ((f3 n v).ask ((n : Int) - 1) 0 true).2 = true ∧ stlIs (f4 n v) = true ∧ stlOk (f4 n v) = true ∧ ((stl (f4 n v)).write ((n : Int) - 1) 0 4 v).2 = true
  s7 : stlIs (askTo false (f6 n v) n) = true
  r7 : ∀ k : Nat, k < n → ((readTo (f7 n v) k).read k 0 4).2 = (v, true)
theorem a_1_0 : ((askTo false (f0 1) 0).ask 0 0 false).2 = true := by kernel_rfl
theorem r_1_0 : ((readTo (f1 1) 0).read 0 0 4).2 = (5, true) := by kernel_rfl
theorem q_1_0 (v : Int) : ((readTo (f7 1 v) 0).read 0 0 4).2 = (v, true) := by kernel_rfl
theorem s_1 : stlIs (askTo false (f0 1) 1) = true := by kernel_rfl
theorem t_1 (v : Int) : stlIs (askTo false (f6 1 v) 1) = true := by kernel_rfl
theorem w_1 (v : Int) : ((f2 1).write (((1 : Nat) : Int) - 1) 0 4 v).2 = (1 == 1) := by kernel_rfl
theorem v_1 : (f2 1).view 0 = some { state := [2], data := [⟨5, 0, 0, 0⟩], memory := ⟨5, 0, 0, 0⟩, busy := false, puts := false } := by kernel_rfl
theorem facts_1 (v : Int) : Facts 1 v where
  a := by
    intro k hk
    have : k = 0 := by omega
    rcases this with rfl
    · exact a_1_0
  s := s_1
  r := by
    intro k hk
    have : k = 0 := by omega
    rcases this with rfl
    · exact r_1_0
  vw := ⟨_, v_1, rfl, rfl, ⟨_, _, rfl, by decide⟩, ⟨_, _, rfl, rfl⟩⟩
  w := w_1 v
  b := fun h => (h rfl).elim
  s7 := t_1 v
  r7 := by
    intro k hk
    have : k = 0 := by omega
    rcases this with rfl
    · exact q_1_0 v
theorem a_2_0 : ((askTo false (f0 2) 0).ask 0 0 false).2 = true := by kernel_rfl
theorem r_2_0 : ((readTo (f1 2) 0).read 0 0 4).2 = (5, true) := by kernel_rfl
theorem q_2_0 (v : Int) : ((readTo (f7 2 v) 0).read 0 0 4).2 = (v, true) := by kernel_rfl
theorem a_2_1 : ((askTo false (f0 2) 1).ask 1 0 false).2 = true := by kernel_rfl
theorem r_2_1 : ((readTo (f1 2) 1).read 1 0 4).2 = (5, true) := by kernel_rfl
theorem q_2_1 (v : Int) : ((readTo (f7 2 v) 1).read 1 0 4).2 = (v, true) := by kernel_rfl
theorem s_2 : stlIs (askTo false (f0 2) 2) = true := by kernel_rfl
theorem t_2 (v : Int) : stlIs (askTo false (f6 2 v) 2) = true := by kernel_rfl
theorem w_2 (v : Int) : ((f2 2).write (((2 : Nat) : Int) - 1) 0 4 v).2 = (2 == 1) := by kernel_rfl
theorem b_2 (v : Int) : ((f3 2 v).ask (((2 : Nat) : Int) - 1) 0 true).2 = true := by kernel_rfl
theorem c_2 (v : Int) : stlIs (f4 2 v) = true := by kernel_rfl
theorem d_2 (v : Int) : stlOk (f4 2 v) = true := by kernel_rfl
theorem e_2 (v : Int) : ((stl (f4 2 v)).write (((2 : Nat) : Int) - 1) 0 4 v).2 = true := by kernel_rfl
theorem v_2 : (f2 2).view 0 = some { state := [1, 1], data := [⟨5, 0, 0, 0⟩, ⟨5, 0, 0, 0⟩], memory := ⟨5, 0, 0, 0⟩, busy := false, puts := false } := by kernel_rfl
theorem facts_2 (v : Int) : Facts 2 v where
  a := by
    intro k hk
    have : k = 0 ∨ k = 1 := by omega
    rcases this with rfl | rfl
    · exact a_2_0
    · exact a_2_1
  s := s_2
  r := by
    intro k hk
    have : k = 0 ∨ k = 1 := by omega
    rcases this with rfl | rfl
    · exact r_2_0
    · exact r_2_1
  vw := ⟨_, v_2, rfl, rfl, ⟨_, _, rfl, by decide⟩, ⟨_, _, rfl, rfl⟩⟩
  w := w_2 v
  b := fun _ => ⟨b_2 v, c_2 v, d_2 v, e_2 v⟩
  s7 := t_2 v
  r7 := by
    intro k hk
    have : k = 0 ∨ k = 1 := by omega
    rcases this with rfl | rfl
    · exact q_2_0 v
    · exact q_2_1 v
theorem a_3_0 : ((askTo false (f0 3) 0).ask 0 0 false).2 = true := by kernel_rfl
theorem r_3_0 : ((readTo (f1 3) 0).read 0 0 4).2 = (5, true) := by kernel_rfl
theorem q_3_0 (v : Int) : ((readTo (f7 3 v) 0).read 0 0 4).2 = (v, true) := by kernel_rfl
theorem a_3_1 : ((askTo false (f0 3) 1).ask 1 0 false).2 = true := by kernel_rfl
theorem r_3_1 : ((readTo (f1 3) 1).read 1 0 4).2 = (5, true) := by kernel_rfl
theorem q_3_1 (v : Int) : ((readTo (f7 3 v) 1).read 1 0 4).2 = (v, true) := by kernel_rfl
theorem a_3_2 : ((askTo false (f0 3) 2).ask 2 0 false).2 = true := by kernel_rfl
theorem r_3_2 : ((readTo (f1 3) 2).read 2 0 4).2 = (5, true) := by kernel_rfl
theorem q_3_2 (v : Int) : ((readTo (f7 3 v) 2).read 2 0 4).2 = (v, true) := by kernel_rfl
theorem s_3 : stlIs (askTo false (f0 3) 3) = true := by kernel_rfl
theorem t_3 (v : Int) : stlIs (askTo false (f6 3 v) 3) = true := by kernel_rfl
theorem w_3 (v : Int) : ((f2 3).write (((3 : Nat) : Int) - 1) 0 4 v).2 = (3 == 1) := by kernel_rfl
theorem b_3 (v : Int) : ((f3 3 v).ask (((3 : Nat) : Int) - 1) 0 true).2 = true := by kernel_rfl
theorem c_3 (v : Int) : stlIs (f4 3 v) = true := by kernel_rfl
theorem d_3 (v : Int) : stlOk (f4 3 v) = true := by kernel_rfl
theorem e_3 (v : Int) : ((stl (f4 3 v)).write (((3 : Nat) : Int) - 1) 0 4 v).2 = true := by kernel_rfl
theorem v_3 : (f2 3).view 0 = some { state := [1, 1, 1], data := [⟨5, 0, 0, 0⟩, ⟨5, 0, 0, 0⟩, ⟨5, 0, 0, 0⟩], memory := ⟨5, 0, 0, 0⟩, busy := false, puts := false } := by kernel_rfl
theorem facts_3 (v : Int) : Facts 3 v where
  a := by
    intro k hk
    have : k = 0 ∨ k = 1 ∨ k = 2 := by omega
    rcases this with rfl | rfl | rfl
    · exact a_3_0
    · exact a_3_1
    · exact a_3_2
  s := s_3
  r := by
    intro k hk
    have : k = 0 ∨ k = 1 ∨ k = 2 := by omega
    rcases this with rfl | rfl | rfl
    · exact r_3_0
    · exact r_3_1
    · exact r_3_2
  vw := ⟨_, v_3, rfl, rfl, ⟨_, _, rfl, by decide⟩, ⟨_, _, rfl, rfl⟩⟩
  w := w_3 v
  b := fun _ => ⟨b_3 v, c_3 v, d_3 v, e_3 v⟩
  s7 := t_3 v
  r7 := by
    intro k hk
    have : k = 0 ∨ k = 1 ∨ k = 2 := by omega
    rcases this with rfl | rfl | rfl
    · exact q_3_0 v
    · exact q_3_1 v
    · exact q_3_2 v
theorem a_4_0 : ((askTo false (f0 4) 0).ask 0 0 false).2 = true := by kernel_rfl
theorem r_4_0 : ((readTo (f1 4) 0).read 0 0 4).2 = (5, true) := by kernel_rfl
theorem q_4_0 (v : Int) : ((readTo (f7 4 v) 0).read 0 0 4).2 = (v, true) := by kernel_rfl
theorem a_4_1 : ((askTo false (f0 4) 1).ask 1 0 false).2 = true := by kernel_rfl
theorem r_4_1 : ((readTo (f1 4) 1).read 1 0 4).2 = (5, true) := by kernel_rfl
theorem q_4_1 (v : Int) : ((readTo (f7 4 v) 1).read 1 0 4).2 = (v, true) := by kernel_rfl
theorem a_4_2 : ((askTo false (f0 4) 2).ask 2 0 false).2 = true := by kernel_rfl
theorem r_4_2 : ((readTo (f1 4) 2).read 2 0 4).2 = (5, true) := by kernel_rfl
theorem q_4_2 (v : Int) : ((readTo (f7 4 v) 2).read 2 0 4).2 = (v, true) := by kernel_rfl
theorem a_4_3 : ((askTo false (f0 4) 3).ask 3 0 false).2 = true := by kernel_rfl
theorem r_4_3 : ((readTo (f1 4) 3).read 3 0 4).2 = (5, true) := by kernel_rfl
theorem q_4_3 (v : Int) : ((readTo (f7 4 v) 3).read 3 0 4).2 = (v, true) := by kernel_rfl
theorem s_4 : stlIs (askTo false (f0 4) 4) = true := by kernel_rfl
theorem t_4 (v : Int) : stlIs (askTo false (f6 4 v) 4) = true := by kernel_rfl
theorem w_4 (v : Int) : ((f2 4).write (((4 : Nat) : Int) - 1) 0 4 v).2 = (4 == 1) := by kernel_rfl
theorem b_4 (v : Int) : ((f3 4 v).ask (((4 : Nat) : Int) - 1) 0 true).2 = true := by kernel_rfl
theorem c_4 (v : Int) : stlIs (f4 4 v) = true := by kernel_rfl
theorem d_4 (v : Int) : stlOk (f4 4 v) = true := by kernel_rfl
theorem e_4 (v : Int) : ((stl (f4 4 v)).write (((4 : Nat) : Int) - 1) 0 4 v).2 = true := by kernel_rfl
theorem v_4 : (f2 4).view 0 = some { state := [1, 1, 1, 1], data := [⟨5, 0, 0, 0⟩, ⟨5, 0, 0, 0⟩, ⟨5, 0, 0, 0⟩, ⟨5, 0, 0, 0⟩], memory := ⟨5, 0, 0, 0⟩, busy := false, puts := false } := by kernel_rfl
theorem facts_4 (v : Int) : Facts 4 v where
  a := by
    intro k hk
    have : k = 0 ∨ k = 1 ∨ k = 2 ∨ k = 3 := by omega
    rcases this with rfl | rfl | rfl | rfl
    · exact a_4_0
    · exact a_4_1
    · exact a_4_2
    · exact a_4_3
  s := s_4
  r := by
    intro k hk
    have : k = 0 ∨ k = 1 ∨ k = 2 ∨ k = 3 := by omega
    rcases this with rfl | rfl | rfl | rfl
    · exact r_4_0
    · exact r_4_1
    · exact r_4_2
    · exact r_4_3
  vw := ⟨_, v_4, rfl, rfl, ⟨_, _, rfl, by decide⟩, ⟨_, _, rfl, rfl⟩⟩
  w := w_4 v
  b := fun _ => ⟨b_4 v, c_4 v, d_4 v, e_4 v⟩
  s7 := t_4 v
  r7 := by
    intro k hk
    have : k = 0 ∨ k = 1 ∨ k = 2 ∨ k = 3 := by omega
    rcases this with rfl | rfl | rfl | rfl
    · exact q_4_0 v
    · exact q_4_1 v
    · exact q_4_2 v
    · exact q_4_3 v
theorem facts {n : Nat} (h1 : 1 ≤ n) (h4 : n ≤ 4) (v : Int) : Facts n v := by
  have : n = 1 ∨ n = 2 ∨ n = 3 ∨ n = 4 := by omega
  rcases this with rfl | rfl | rfl | rfl
  · exact facts_1 v
  · exact facts_2 v
  · exact facts_3 v
  · exact facts_4 v
end Rd
end Go.Pm
namespace Go.Proofs
open Go Go.NW Go.Pm
set_option maxRecDepth 20000
set_option linter.unusedSimpArgs false
set_option linter.unusedVariables false
namespace YtacidjifocfhkaaGreatDoor
structure Like (f g : Fab) (k : Nat) : Prop where
  h : g.homes.length = f.homes.length
  p : g.parts.length = f.parts.length
  n : g.net.next ≤ f.net.next + k
theorem Like.refl (f : Fab) : Like f f 0 := ⟨rfl, rfl, Nat.le_refl _⟩
theorem Like.trans {f g h : Fab} {a b : Nat} (x : Like f g a) (y : Like g h b) : Like f h (a + b) := ⟨y.h.trans x.h, y.p.trans x.p, by have := x.n; have := y.n; omega⟩
theorem Like.mono {f g : Fab} {a b : Nat} (x : Like f g a) (h : a ≤ b) : Like f g b := ⟨x.h, x.p, by have := x.n; omega⟩
theorem like_used (f : Fab) (h addr : Int) : Like f (f.used h addr) 0 := ⟨rfl, by simp [Fab.used, Fab.setPart], Nat.le_refl _⟩
theorem like_read (f : Fab) (h addr size : Int) : Like f (f.read h addr size).1 0 := by
  unfold Fab.read; split
  · exact Like.refl f
  · exact like_used f h addr
theorem like_write (f : Fab) (h addr size v : Int) : Like f (f.write h addr size v).1 0 := by
  unfold Fab.write; split
  · exact Like.refl f
  · exact ⟨rfl, by simp [Fab.used, Fab.setPart], Nat.le_refl _⟩
theorem like_ask {f : Fab} (ok : FabOk f) (h line : Int) (w : Bool) : Like f (f.ask h line w).1 2 := by
  have r0 : Like f f 2 := (Like.refl f).mono (by omega)
  cases ht : f.there h line with
  | false => rw [show f.ask h line w = (f, false) by simp [Fab.ask, ht]]; exact r0
  | true =>
    obtain ⟨p, hp, _⟩ := there_of ht
    rw [ask_eq ht hp]
    split
    · exact r0
    split
    · exact r0
    cases hf : p.fit f.net line with
    | none => exact r0
    | some r =>
      obtain ⟨p', n'⟩ := r
      obtain ⟨_, _, hn⟩ := fit_keeps hf (ok.pOf hp).cache
      have hn' : n'.next ≤ f.net.next + 1 := by
        rcases hn with rfl | ⟨ms, hms, rfl⟩
        · omega
        · obtain ⟨_, _, _, q4, _⟩ := send_next (n := f.net) (ms := ms); omega
      simp only []
      generalize (p'.line line).getD { line := line, hart := h } = l
      unfold asked
      have ha := ask_len l w
      split
      · obtain ⟨_, _, _, q4, _⟩ := send_next (n := n') (ms := (l.ask w).2.1)
        exact ⟨rfl, by simp [Fab.setPart], by show (Net.send _ _).next ≤ _; omega⟩
      · exact ⟨rfl, by simp [Fab.setPart], by show n'.next ≤ _; omega⟩
theorem like_deliver {f g : Fab} {id : Int} (ok : FabOk f) (h : f.deliver? id = some g) : Like f g 9 := by
  refine ⟨?_, ?_, deliver_next ok h⟩ <;>
  · unfold Fab.deliver? at h
    split at h
    · cases h
    · split at h
      · cases h
      · split at h
        · unfold Fab.atHome at h
          simp only [] at h
          split at h
          · cases h
          split at h
          · cases h
          simp at h; subst h; simp
        · unfold Fab.atHart at h
          simp only [] at h
          split at h
          · cases h
          split at h
          · cases h
          simp only [Option.some.injEq] at h
          subst h
          simp [Fab.setPart]
theorem step_deliver {f g : Fab} (h : f.step = some g) : ∃ id, f.deliver? id = some g := by
  unfold Fab.step at h
  obtain ⟨x, _, hx⟩ := List.exists_of_findSome?_eq_some h
  exact ⟨x.id, hx⟩
theorem like_settle : ∀ {n : Nat} {f g : Fab} {r : Bool}, FabOk f → f.settle n = some (g, r) → Like f g (9 * n) ∧ FabOk g
  | 0, f, g, r, _, h => by simp [Fab.settle] at h
  | n + 1, f, g, r, ok, h => by
    simp only [Fab.settle] at h
    split at h
    · simp at h; obtain ⟨rfl, _⟩ := h; exact ⟨(Like.refl _).mono (by omega), ok⟩
    · split at h
      · rename_i g' hg
        obtain ⟨id, hid⟩ := step_deliver hg
        obtain ⟨a, b⟩ := like_settle (ok.deliver hid) h
        exact ⟨((like_deliver ok hid).trans a).mono (by omega), b⟩
      · simp at h; obtain ⟨rfl, _⟩ := h; exact ⟨(Like.refl _).mono (by omega), ok⟩
theorem config_21 {H : Hp} {a b c : Int} {Q : Value → Hp → Prop}
    (hq : ∀ H', Ext [] H H' → Q (.agg (confC (a % 4 + 1) (2 ^ (b % 3).toNat) (c % 3 + 1) (6 * (a % 4 + 1)))) H') : NCalls Tryz.prog 21 #[.int .i64 a, .int .i64 b, .int .i64 c] H Q := by
  refine E21 ?_
  unfold F21_0
  refine New_i fun H1 b1 hb1 e1 s1 k1 => ?_
  refine Number_12 (by omega) ?_
  have ha : 0 ≤ a % 4 ∧ a % 4 < 4 := by omega
  have hb : 0 ≤ b % 3 ∧ b % 3 < 3 := by omega
  have hc : 0 ≤ c % 3 ∧ c % 3 < 3 := by omega
  have w1 : IntKind.wrap .i64 (a % 4 + 1) = a % 4 + 1 := w64 (by omega) (by omega)
  have w2 : IntKind.wrap .i64 (c % 3 + 1) = c % 3 + 1 := w64 (by omega) (by omega)
  have w3 : IntKind.wrap .i64 (6 * (a % 4 + 1)) = 6 * (a % 4 + 1) := w64 (by omega) (by omega)
  have wu : IntKind.wrap .u64 (b % 3) = b % 3 := by unfold IntKind.wrap; simp [IntKind.bits, IntKind.signed]; omega
  have ws : IntKind.wrap .i64 (1 * 2 ^ (min (b % 3).toNat (IntKind.bits .i64))) = 2 ^ (b % 3).toNat := by
    have : b % 3 = 0 ∨ b % 3 = 1 ∨ b % 3 = 2 := by omega
    rcases this with h | h | h <;> rw [h] <;> decide
  simp -implicitDefEqProofs only [Bin_add_3, w1, q_some]
  refine Number_12 (by omega) ?_
  simp -implicitDefEqProofs only [cv_3_130, wu, q_some, Bin_shl_3_u64 _ _ _ _ hb.1, ws]
  refine Number_12 (by omega) ?_
  simp -implicitDefEqProofs only [Bin_add_3, w2, q_some, Bin_mul_3, w3, bld_23_0_1_2_3]
  refine St_i k1 (by simp) (by simp) (by simp) fun H2 e2 s2 k2 => ?_
  have k2' : blk H2 b1 (confC (a % 4 + 1) (2 ^ (b % 3).toNat) (c % 3 + 1) (6 * (a % 4 + 1))) := by simpa [wrL, confC] using k2
  simp -implicitDefEqProofs only [LdA_some, k2'.cells, show ∀ x y z w, (confC x y z w).size = 4 from fun _ _ _ _ => rfl, show ∀ x y z w, (confC x y z w).extract 0 4 = confC x y z w from fun _ _ _ _ => by simp [confC], Nat.zero_add, Nat.le_refl, if_true, Option.map_some, q_some]
  exact hq H2 (e1.fresh e2 (by simp; omega))
theorem config_ok (a b c : Int) : confOk (a % 4 + 1) (2 ^ (b % 3).toNat) (c % 3 + 1) (6 * (a % 4 + 1)) = true := by
  have ha : 0 ≤ a % 4 ∧ a % 4 < 4 := by omega
  have hc : 0 ≤ c % 3 ∧ c % 3 < 3 := by omega
  have : b % 3 = 0 ∨ b % 3 = 1 ∨ b % 3 = 2 := by omega
  have hp : pow2 1 = true ∧ pow2 2 = true ∧ pow2 4 = true := by decide
  rcases this with h | h | h <;> rw [h] <;> simp [confOk, shapeOk, hp.1, hp.2.1, hp.2.2] <;> omega
theorem first_9 {H : Hp} {col : Nat → Rl} {Q : Value → Hp → Prop} (st : Start H col) (hq : ∀ H', Ext [] H H' → Q (.bool true) H') : NCalls Tryz.prog 9 #[] H Q := by
  refine E9 ?_
  unfold F9_0
  have hb : pv Tryz.prog (Instr.build 23 #[(0, .int .i64 2), (1, .int .i64 1), (2, .int .i64 1), (3, .int .i64 12)]) = some (.agg (confC 2 1 1 12)) := by kernel_rfl
  simp -implicitDefEqProofs only [hb, q_some]
  refine made_22 (n := 64) (ws := []) (bw := 0) st (by decide) (by omega) (Slc.nil _ _ _) (by simp) (by simp) fun H1 col1 bf sk e1 S1 fa1 ok1 => ?_
  have fa1' : FabAt H1 col1 bf sk First.g0 := fa1
  have ok1' : FabOk First.g0 := ok1
  have hh0 : First.g0.homes.length = 4 := by kernel_rfl
  have hn0 : First.g0.net.next = 0 := by kernel_rfl
  simp -implicitDefEqProofs only [Ex_tuple, List.getElem?_toArray, List.getElem?_cons_zero, List.getElem?_cons_succ, q_some, un_not, Bool.not_true, condV_bool, Bool.false_eq_true, if_false]
  refine Ask_16 fa1' ok1' (by omega) fun H2 col2 m2 S2 fa2 => ?_
  rw [First.a0]
  have l1 := like_ask ok1' 0 0 true
  have ok2 : FabOk First.g1 := ok1'.ask (.inl (by omega)) 0 0 true
  have l1n := l1.n
  have fa2' : FabAt H2 col2 bf sk First.g1 := fa2
  refine Settle_19 (N := 60) fa2' ok2 (stl_eq First.s1) (by show First.g1.net.next + _ ≤ _; have : First.g1.net.next ≤ First.g0.net.next + 2 := l1n; omega) fun H3 col3 m3 S3 fa3 ok3 hx3 => ?_
  rw [First.o1]
  have fa3' : FabAt H3 col3 bf sk First.g2 := fa3
  have ok3' : FabOk First.g2 := ok3
  refine Write_20 fa3' ok3' (by unfold U32; omega) (by unfold U32; omega) fun H4 col4 m4 S4 fa4 => ?_
  rw [First.w2]
  have fa4' : FabAt H4 col4 bf sk First.g3 := fa4
  have ok4 : FabOk First.g3 := ok3'.write 0 0 4 7 (by omega) (by unfold U32; omega)
  refine Read_18 fa4' ok4 (by unfold U32; omega) fun H5 col5 m5 S5 fa5 => ?_
  have ok5 : FabOk First.g4 := ok4.read 1 0 4
  have l2 := (like_settle ok2 (stl_eq First.s1)).1
  have l3 := like_write First.g2 0 0 4 7
  have l4 := like_read First.g3 1 0 4
  have L4 : Like First.g0 First.g4 (2 + 9 * 60 + 0 + 0) := ((l1.trans l2).trans l3).trans l4
  have L4h := L4.h
  have L4n := L4.n
  simp -implicitDefEqProofs only [Ex_tuple, List.getElem?_toArray, List.getElem?_cons_zero, List.getElem?_cons_succ, q_some]
  have fa5' : FabAt H5 col5 bf sk First.g4 := fa5
  refine Ask_16 fa5' ok5 (by show First.g4.net.next ≤ _; omega) fun H6 col6 m6 S6 fa6 => ?_
  rw [First.a4]
  have fa6' : FabAt H6 col6 bf sk First.g5 := fa6
  have ok6 : FabOk First.g5 := ok5.ask (.inl (by omega)) 1 0 false
  have l5 := like_ask ok5 1 0 false
  have l5n := l5.n
  refine Settle_19 (N := 60) fa6' ok6 (stl_eq First.s5) (by show First.g5.net.next + _ ≤ _; have : First.g5.net.next ≤ First.g4.net.next + 2 := l5n; omega) fun H7 col7 m7 S7 fa7 ok7 hx7 => ?_
  have fa7' : FabAt H7 col7 bf sk First.g6 := fa7
  have ok7' : FabOk First.g6 := ok7
  refine Read_18 fa7' ok7' (by unfold U32; omega) fun H8 col8 m8 S8 fa8 => ?_
  rw [First.r3, First.r6]
  simp -implicitDefEqProofs
  refine hq H8 ?_
  have z1 := m2.size
  have z2 := m3.size
  have z3 := m4.size
  have z4 := m5.size
  have z5 := m6.size
  have z6 := m7.size
  have T2 : Same H1 col1 col2 := S2
  have T3 := T2.trans (H' := H2) S3 (by omega)
  have T4 := T3.trans (H' := H3) S4 (by omega)
  have T5 := T4.trans (H' := H4) S5 (by omega)
  have T6 := T5.trans (H' := H5) S6 (by omega)
  have T7 := T6.trans (H' := H6) S7 (by omega)
  have M := (((((m2.trans T2 m3).trans T3 m4).trans T4 m5).trans T5 m6).trans T6 m7).trans T7 m8
  have M0 : Mod Rl.mine H col H8 := (Mod.of (R := Rl.mine) e1 (by simp)).trans S1 M
  exact st.stay M0
end YtacidjifocfhkaaGreatDoor
end Go.Proofs
namespace Go.Proofs
open Go Go.NW Go.Pm
set_option maxRecDepth 20000
set_option linter.unusedSimpArgs false
set_option linter.unusedVariables false
namespace YtacidjifocfhkaaGreatDoor
/-- a statement under way: where it began, its fabric -/
structure Law (H0 : Hp) (col0 : Nat → Rl) (H : Hp) (col : Nat → Rl) (bf : Nat) (sk : Sk) (f : Fab) : Prop where
  st : Start H0 col0
  e : Ext [] H0 H
  s : Same H0 col0 col
  fa : FabAt H col bf sk f
  ok : FabOk f
section law
variable {H0 H H' : Hp} {col0 col col' : Nat → Rl} {bf : Nat} {sk : Sk} {f f' : Fab}
theorem Law.step (l : Law H0 col0 H col bf sk f) (m : Mod Rl.mine H col H') (s : Same H col col') (fa : FabAt H' col' bf sk f') (ok : FabOk f') : Law H0 col0 H' col' bf sk f' := by
  have z := l.e.size
  refine ⟨l.st, ⟨Nat.le_trans z m.size, fun x hx _ => ?_⟩, l.s.trans (H' := H) s z, fa, ok⟩
  rw [m.same x (by omega) (by rw [l.s x hx]; rcases l.st.col x with h | h <;> rw [h] <;> rfl)]
  exact l.e.same x hx (by simp)
theorem Law.alloc (l : Law H0 col0 H col bf sk f) (e : Ext [] H H') : Law H0 col0 H' col bf sk f := ⟨l.st, l.e.trans e, l.s, l.fa.ext0 e, l.ok⟩
theorem Law.own' (l : Law H0 col0 H col bf sk f) (e : Ext [] H H') (s : Same H col col') : Law H0 col0 H' col' bf sk f := by
  have z := l.e.size
  exact ⟨l.st, l.e.trans e, l.s.trans (H' := H) s z, l.fa.ext (R := fun _ => false) (Mod.of e (by simp)) s (by simp), l.ok⟩
/-- what is one's own was written -/
theorem Law.wr (l : Law H0 col0 H col bf sk f) {S : List Nat} (e : Ext S H H') (hS : ∀ x ∈ S, x < H.size → col x = .other ∧ H0.size ≤ x) : Law H0 col0 H' col bf sk f := by
  refine ⟨l.st, ?_, l.s, l.fa.ext (R := fun r => r == .other) (Mod.of e fun x hx hl => by rw [(hS x hx hl).1]; rfl) (Same.refl _ _) (by intro r hr; simpa using hr), l.ok⟩
  refine ⟨Nat.le_trans l.e.size e.size, fun x hx _ => ?_⟩
  have z := l.e.size
  rw [e.same x (by omega) fun hm => by have := (hS x hm (by omega)).2; omega]
  exact l.e.same x hx (by simp)
end law
def Rd.n (a : Int) : Nat := (a % 4 + 1).toNat
theorem Rd.n_rng (a : Int) : 1 ≤ Rd.n a ∧ Rd.n a ≤ 4 ∧ ((Rd.n a : Nat) : Int) = a % 4 + 1 := by unfold Rd.n; omega
theorem askTo_ok {f : Fab} (ok : FabOk f) (h4 : f.homes.length ≤ 12) (w : Bool) : ∀ k, FabOk (askTo w f k) ∧ Like f (askTo w f k) (2 * k)
  | 0 => ⟨ok, Like.refl f⟩
  | k + 1 => by
    obtain ⟨a, b⟩ := askTo_ok ok h4 w k
    have h := b.h
    exact ⟨a.ask (.inl (by omega)) k 0 w, (b.trans (like_ask a k 0 w)).mono (by omega)⟩
theorem readTo_ok {f : Fab} (ok : FabOk f) : ∀ k, FabOk (readTo f k) ∧ Like f (readTo f k) 0
  | 0 => ⟨ok, Like.refl f⟩
  | k + 1 => by
    obtain ⟨a, b⟩ := readTo_ok ok k
    exact ⟨a.read k 0 4, (b.trans (like_read _ k 0 4)).mono (by omega)⟩
theorem Readers_4 {H : Hp} {col : Nat → Rl} {a v : Int} {Q : Value → Hp → Prop} (st : Start H col) (hv : U32 v) (hq : ∀ H', Ext [] H H' → Q (.bool true) H') : NCalls Tryz.prog 4 #[.int .i64 a, .int .u32 v] H Q := by
  obtain ⟨n1, n4, hn⟩ := Rd.n_rng a
  have F := Go.Pm.Rd.facts n1 n4 v
  generalize Rd.n a = n at n1 n4 hn F
  refine E4 ?_
  unfold F4_0 F4_60 F4_1 F4_59
  refine first_9 st fun H1 e1 => ?_
  unfold F4_2 F4_58
  simp -implicitDefEqProofs only [un_not, Bool.not_true, q_some, condV_bool, Bool.false_eq_true, if_false]
  unfold F4_3 F4_57
  refine config_21 fun H2 e2 => ?_
  refine New_i fun H3 b6 hb6 e3 s3 k3 => ?_
  refine St_i k3 (by simp [confC]) (by simp) (by simp [confC]) fun H4 e4 s4 k4 => ?_
  have k4' : blk H4 b6 (confC (a % 4 + 1) 2 2 (6 * (a % 4 + 1))) := by simpa [wrL, confC] using k4
  have z1 := e1.size
  have z2 := e2.size
  have E4 : Ext [] H H4 := ((e1.trans e2).trans e3).fresh e4 (by simp; omega)
  have st4 := st.ext E4
  unfold F4_4 F4_56
  have exC : ∀ x y z w, (confC x y z w).size = 4 ∧ (confC x y z w).extract 0 4 = confC x y z w := fun _ _ _ _ => ⟨rfl, by simp [confC]⟩
  simp -implicitDefEqProofs only [LdA_some, k4'.cells, (exC _ _ _ _).1, (exC _ _ _ _).2, Nat.zero_add, Nat.le_refl, if_true, Option.map_some, q_some]
  refine Bsl_i (cells := #[.int .u32 5]) (by kernel_rfl) fun H5 b5 hb5 e5 s5 k5 => ?_
  have hws : Slc H5 1 (.slice (some ⟨b5, 0, none⟩) 1 1) (u32sC [5]) b5 := Slc.of (xs := u32sC [5]) (c := _) (by simp [u32sC]) k5 (by simp [u32sC]) (by simp) (by simp [u32sC])
  have hconf : confOk (a % 4 + 1) 2 2 (6 * (a % 4 + 1)) = true := config_ok a 1 1
  have st5 := st4.ext e5
  refine made_22 (n := 64) (ws := [5]) st5 hconf (by omega) hws (by simp) (by intro w hw; simp at hw; subst hw; unfold U32; omega) fun H6 col6 bf sk e6 S6 fa6 ok6 => ?_
  have e46 := e5.trans e6
  have hf0 : Fab.new (a % 4 + 1).toNat (2 : Int).toNat (2 : Int).toNat (6 * (a % 4 + 1)).toNat ((List.range (64 / 16)).map (lineOf (memNew 64 [5]))) = Go.Pm.Rd.f0 n := by
    unfold Go.Pm.Rd.f0
    rw [show (a % 4 + 1).toNat = n by omega, show (6 * (a % 4 + 1)).toNat = 6 * n by omega]
    rfl
  rw [hf0] at fa6 ok6
  have z5 := e5.size
  have L6 : Law H4 col H6 col6 bf sk (Go.Pm.Rd.f0 n) := ⟨st4, e46, fun x hx => S6 x (by omega), fa6, ok6⟩
  have hh0 : (Go.Pm.Rd.f0 n).homes.length = 4 := by simp [Go.Pm.Rd.f0, Fab.new, data64]
  have hnx0 : (Go.Pm.Rd.f0 n).net.next = 0 := rfl
  -- the config, wherever
  have cfg : ∀ {G : Hp}, Ext [] H4 G → cellAt G ⟨b6, 0, none⟩ = some (.int .i64 n) := by
    intro G e
    rw [(k4'.ext e (by simp)).cell, hn]; rfl
  have wk : ∀ k : Nat, k ≤ 4 → IntKind.wrap .i64 ((k : Int) + 1) = ((k + 1 : Nat) : Int) := fun k hk => by rw [w64 (by omega) (by omega)]; simp
  simp -implicitDefEqProofs only [Ex_tuple, List.getElem?_toArray, List.getElem?_cons_zero, List.getElem?_cons_succ, q_some]
  unfold F4_5 F4_55
  simp -implicitDefEqProofs only [un_not, Bool.not_true, q_some, condV_bool, Bool.false_eq_true, if_false]
  unfold F4_6 F4_50 F4_54 F4_51 F4_52
  refine ⟨fun v9 H' => ∃ (k : Nat) (col' : Nat → Rl), v9 = .int .i64 k ∧ k ≤ n ∧ Law H4 col H' col' bf sk (askTo false (Go.Pm.Rd.f0 n) k), fun v9 _ => n - (iv v9).toNat, ⟨0, col6, rfl, by omega, L6⟩, ?_⟩
  rintro v9 H7 ⟨k, col7, rfl, hk, L7⟩
  unfold F4_53
  simp -implicitDefEqProofs only [Fa_some, add_mk, Nat.zero_add, q_some, Ld_some, cfg L7.e, Bin_lss_3]
  obtain ⟨ok7, like7⟩ := askTo_ok ok6 (by omega) false k
  have like7n := like7.n
  have like7h := like7.h
  by_cases hlt : k < n
  · have hlt' : (k : Int) < n := by omega
    simp -implicitDefEqProofs only [hlt', decide_true, condV_bool, if_true]
    refine Ask_16 L7.fa ok7 (by omega) fun H8 col8 m8 S8 fa8 => ?_
    rw [F.a k hlt]
    simp -implicitDefEqProofs only [un_not, Bool.not_true, q_some, condV_bool, Bool.false_eq_true, if_false, Bin_add_3, wk k (by omega)]
    exact ⟨trivial, trivial, trivial, trivial, ⟨k + 1, col8, rfl, by omega, L7.step m8 S8 fa8 (ok7.ask (.inl (by omega)) k 0 false)⟩, by simp; omega⟩
  have hkn : k = n := by omega
  subst hkn
  have hlt' : ¬ ((k : Int) < k) := by omega
  simp -implicitDefEqProofs only [hlt', decide_false, condV_bool, Bool.false_eq_true, if_false]
  unfold F4_7 F4_49
  refine Settle_19 (N := 60) L7.fa ok7 (stl_eq F.s) (by omega) fun H8 col8 m8 S8 fa8 ok8 hx8 => ?_
  have fa8' : FabAt H8 col8 bf sk (Go.Pm.Rd.f1 k) := fa8
  have ok8' : FabOk (Go.Pm.Rd.f1 k) := ok8
  have L8 := L7.step m8 S8 fa8' ok8'
  have like8 : Like (Go.Pm.Rd.f0 k) (Go.Pm.Rd.f1 k) (2 * k + 9 * 60) := like7.trans (like_settle ok7 (stl_eq F.s)).1
  have like8n := like8.n
  have like8h := like8.h
  unfold F4_8 F4_44 F4_48 F4_45 F4_46
  refine ⟨fun v10 H' => ∃ (j : Nat) (col' : Nat → Rl), v10 = .int .i64 j ∧ j ≤ k ∧ Law H4 col H' col' bf sk (readTo (Go.Pm.Rd.f1 k) j), fun v10 _ => k - (iv v10).toNat, ⟨0, col8, rfl, by omega, L8⟩, ?_⟩
  rintro v10 H9 ⟨j, col9, rfl, hj, L9⟩
  unfold F4_47
  simp -implicitDefEqProofs only [Fa_some, add_mk, Nat.zero_add, q_some, Ld_some, cfg L9.e, Bin_lss_3]
  obtain ⟨ok9, like9⟩ := readTo_ok ok8' j
  by_cases hlt2 : j < k
  · have hlt2' : (j : Int) < k := by omega
    simp -implicitDefEqProofs only [hlt2', decide_true, condV_bool, if_true]
    refine Read_18 L9.fa ok9 (by unfold U32; omega) fun H10 col10 m10 S10 fa10 => ?_
    rw [F.r j hlt2]
    have e5 : ((5 : Int) != 5) = false := by decide
    simp -implicitDefEqProofs only [Ex_tuple, List.getElem?_toArray, List.getElem?_cons_zero, List.getElem?_cons_succ, un_not, Bool.not_true, q_some, gd_bool, if_true, Bin_neq_40, e5, Pk_bool, condV_bool, Bool.false_eq_true, if_false, Bin_add_3, wk j (by omega)]
    exact ⟨trivial, trivial, trivial, trivial, ⟨j + 1, col10, rfl, by omega, L9.step m10 S10 fa10 (ok9.read j 0 4)⟩, by simp; omega⟩
  have hjk : j = k := by omega
  subst hjk
  have hlt2' : ¬ ((j : Int) < j) := by omega
  simp -implicitDefEqProofs only [hlt2', decide_false, condV_bool, Bool.false_eq_true, if_false]
  have fa9' : FabAt H9 col9 bf sk (Go.Pm.Rd.f2 j) := L9.fa
  have L9' : Law H4 col H9 col9 bf sk (Go.Pm.Rd.f2 j) := L9
  obtain ⟨V, hV, hV1, hV2, ⟨x, xs, hVs, hx99⟩, w0, ws, hVd, hw5⟩ := F.vw
  unfold F4_9 F4_43
  refine View_23 L9'.fa L9'.ok (fun hn => by rw [hV] at hn; cases hn) (fun V' hV' H10 sv dv c1 c2 e10 q1 q2 g1 g2 g3 => ?_)
  have : V' = V := by rw [hV] at hV'; simpa using hV'.symm
  subst this
  simp -implicitDefEqProofs only [Ex_tuple, List.getElem?_toArray, List.getElem?_cons_zero, List.getElem?_cons_succ, q_some]
  refine New_i fun H11 b13 hb13 e11 s11 k11 => ?_
  have z9 := L9.e.size
  have z10 := e10.size
  have z11 := e11.size
  obtain ⟨sa, scap, hsv, _, _⟩ := id q1.shape
  obtain ⟨da, dcap, hdv, _, _⟩ := id q2.shape
  rw [intsC_len] at hsv
  have hwl : (wordsL V'.data).length = V'.data.length := by simp [wordsL]
  rw [hwl] at hdv
  refine St_i k11 (by simp [viewC]) (by simp) (by rw [hsv, hdv]; simp [viewC]) fun H12 e12 s12 k12 => ?_
  have k12' : blk H12 b13 (viewC 0 sv dv V'.memory V'.busy V'.puts) := by simpa [wrL, viewC] using k12
  have e912 : Ext [] H9 H12 := (e10.trans e11).fresh e12 (by simp; omega)
  have l1 : c1 < H10.size := q1.lt (by intro h; have := intsC_len V'.state; rw [h] at this; simp at this; omega)
  have l2 : c2 < H10.size := q2.lt (by intro h; rw [h] at hwl; simp at hwl; omega)
  obtain ⟨col12, hcol12⟩ : ∃ c : Nat → Rl, c = recol (recol (recol col9 c1 .other) c2 .other) b13 .other := ⟨_, rfl⟩
  have S12 : Same H9 col9 col12 := by
    intro y hy; subst hcol12; simp only [recol]
    rw [if_neg (by omega), if_neg (by omega), if_neg (by omega)]
  have L12 := L9'.own' e912 S12
  have o1 : col12 c1 = .other := by subst hcol12; simp [recol]
  have o2 : col12 c2 = .other := by subst hcol12; simp [recol]
  have q1' := (q1.ext e11 (by simp)).ext e12 (by simp; omega)
  have q2' := (q2.ext e11 (by simp)).ext e12 (by simp; omega)
  have d1 : ∀ {G : Hp} {b : Nat} {x y : Value} {m : Words} {p q : Bool}, blk G b (viewC 0 x y m p q) → cellAt G ⟨b, 1, none⟩ = some x := fun k => by rw [k.cell]; rfl
  have d2 : ∀ {G : Hp} {b : Nat} {x y : Value} {m : Words} {p q : Bool}, blk G b (viewC 0 x y m p q) → cellAt G ⟨b, 2, none⟩ = some y := fun k => by rw [k.cell]; rfl
  have hls : pv Tryz.prog (Builtin.len_ #[49] 0 #[sv]) = some (.int .i64 j) := by rw [hsv, hV1]; simp -implicitDefEqProofs
  have hld : pv Tryz.prog (Builtin.len_ #[50] 0 #[dv]) = some (.int .i64 j) := by rw [hdv, hV2]; simp -implicitDefEqProofs
  have ejj : ((j : Int) != j) = false := by simp
  unfold F4_10 F4_42
  simp -implicitDefEqProofs only [un_not, Bool.not_true, q_some, gd_bool, if_true, Fa_some, add_mk, Nat.zero_add, Ld_some, d1 k12', d2 k12', hls, hld, cfg L12.e, Bin_neq_3, ejj, Pk_bool, Bool.false_eq_true, if_false, condV_bool]
  unfold F4_11 F4_41
  obtain ⟨os, hixs, hsts⟩ := q1'.st (i := 0) (x := .int .i64 99) (by rw [intsC_len]; omega) (by rfl) (by rfl)
  have hixs0 : Ix 1 sv (.int .i64 0) = some (.pointer (some ⟨c1, os, none⟩)) := hixs .i64
  simp -implicitDefEqProofs only [Fa_some, add_mk, Nat.zero_add, q_some, Ld_some, d1 k12', hixs0]
  refine hsts _ fun H13 e13 s13 _ => ?_
  have own1 : ∀ x ∈ [c1], x < H12.size → col12 x = .other ∧ H4.size ≤ x := by intro x hx _; simp at hx; subst hx; exact ⟨o1, by omega⟩
  have L13 := L12.wr e13 own1
  have k13 := k12'.ext e13 (by simp; omega)
  have q2'' := q2'.ext e13 (by simpa using g3.symm)
  unfold F4_12 F4_40
  obtain ⟨gg, ⟨hv0, hx0⟩ | ⟨od, capd, cd, hvd, hld', hbd, hsd, hfd⟩⟩ := q2''
  · rw [hx0] at hwl; simp at hwl; omega
  rw [hwl, hV2] at hvd hfd
  rw [hwl, hV2] at hld'
  have hixd : Ix 4 dv (.int .i64 0) = some (.pointer (some ⟨c2, od, none⟩)) := by
    rw [hvd]; simp only [Ix]; rw [if_pos ⟨by omega, by omega⟩]; simp
  have hixa : ∀ b o, IxA 4 1 (.pointer (some ⟨b, o, none⟩)) (.int .i64 0) = some (.pointer (some ⟨b, o, none⟩)) := by
    intro b o; simp only [IxA]; rw [if_pos ⟨by omega, by omega⟩]; simp
  simp -implicitDefEqProofs only [Fa_some, add_mk, Nat.zero_add, q_some, Ld_some, d2 k13, hixd, hixa]
  refine St_i hbd (by simp) (by omega) (by simp) fun H14 e14 s14 _ => ?_
  have own2 : ∀ x ∈ [c2], x < H13.size → col12 x = .other ∧ H4.size ≤ x := by intro x hx _; simp at hx; subst hx; exact ⟨o2, by omega⟩
  have L14 := L13.wr e14 own2
  unfold F4_13 F4_39
  refine View_23 L14.fa L14.ok (fun hn => by rw [hV] at hn; cases hn) (fun V'' hV'' H15 sv2 dv2 c3 c4 e15 q3 q4 g4 g5 g6 => ?_)
  have : V'' = V' := by rw [hV] at hV''; simpa using hV''.symm
  subst this
  simp -implicitDefEqProofs only [Ex_tuple, List.getElem?_toArray, List.getElem?_cons_zero, List.getElem?_cons_succ, q_some]
  refine New_i fun H16 b15 hb15 e16 s16 k16 => ?_
  obtain ⟨sa2, scap2, hsv2, _, _⟩ := id q3.shape
  obtain ⟨da2, dcap2, hdv2, _, _⟩ := id q4.shape
  refine St_i k16 (by simp [viewC]) (by simp) (by rw [hsv2, hdv2]; simp [viewC]) fun H17 e17 s17 k17 => ?_
  have k17' : blk H17 b15 (viewC 0 sv2 dv2 V''.memory V''.busy V''.puts) := by simpa [wrL, viewC] using k17
  have z15 := e15.size
  have e1417 : Ext [] H14 H17 := (e15.trans e16).fresh e17 (by simp; omega)
  have L17 := L14.alloc e1417
  have lc3 : c3 < H15.size := q3.lt (by intro h; have := intsC_len V''.state; rw [h] at this; simp at this; omega)
  have lc4 : c4 < H15.size := q4.lt (by intro h; rw [h] at hwl; simp at hwl; omega)
  have q3' := (q3.ext e16 (by simp)).ext e17 (by simp; omega)
  have q4' := (q4.ext e16 (by simp)).ext e17 (by simp; omega)
  unfold F4_14 F4_38
  obtain ⟨oi, hxi, hci⟩ := ints_at q3' (i := 0) (by omega)
  have hxi0 : Ix 1 sv2 (.int .i64 0) = some (.pointer (some ⟨c3, oi, none⟩)) := hxi .i64
  have hst0 : V''.state[0]'(by omega) = x := by simp [hVs]
  rw [hst0] at hci
  obtain ⟨ow, hxw, hcw, _⟩ := q4'.at (i := 0) (by rw [hwl]; omega)
  have hxw0 : Ix 4 dv2 (.int .i64 0) = some (.pointer (some ⟨c4, ow, none⟩)) := hxw .i64
  have hcw0 : cellAt H17 ⟨c4, ow, none⟩ = some (.int .u32 5) := by
    have h5 := hcw 0 (by omega)
    rw [Nat.add_zero] at h5
    rw [h5]
    have : (wordsL V''.data)[0]'(by rw [hwl]; omega) = (wordsC w0).toList := by simp [wordsL, hVd]
    rw [this, ← hw5]; rfl
  have ex99 : (x == 99) = false := by simpa using hx99
  have e55 : ((5 : Int) != 5) = false := by decide
  simp -implicitDefEqProofs only [Fa_some, add_mk, Nat.zero_add, q_some, Ld_some, d1 k17', hxi0, hci, Bin_eql_3, ex99, gd_bool, if_true, d2 k17', hxw0, hixa, hcw0, Bin_neq_40, e55, Pk_bool, Bool.false_eq_true, if_false, condV_bool]
  unfold F4_15 F4_37
  have w1 : IntKind.wrap .i64 ((j : Int) - 1) = (j : Int) - 1 := w64 (by omega) (by omega)
  simp -implicitDefEqProofs only [Fa_some, add_mk, Nat.zero_add, q_some, Ld_some, cfg L17.e, Bin_sub_3, w1]
  unfold F4_16 F4_36
  refine Write_20 L17.fa L17.ok (by unfold U32; omega) hv fun H18 col18 m18 S18 fa18 => ?_
  rw [F.w]
  have fa18' : FabAt H18 col18 bf sk (Go.Pm.Rd.f3 j v) := fa18
  have ok18 : FabOk (Go.Pm.Rd.f3 j v) := L17.ok.write ((j : Int) - 1) 0 4 v (by omega) hv
  have L18 := L17.step m18 S18 fa18' ok18
  have like2 : Like (Go.Pm.Rd.f0 j) (Go.Pm.Rd.f3 j v) (2 * j + 9 * 60 + 0 + 0) := (like8.trans (readTo_ok ok8' j).2).trans (like_write (Go.Pm.Rd.f2 j) ((j : Int) - 1) 0 4 v)
  have like2n := like2.n
  have like2h := like2.h
  unfold F4_17 F4_35
  have ej1 : (((j : Int) == 1)) = (j == 1) := by rw [Bool.eq_iff_iff]; simp; omega
  simp -implicitDefEqProofs only [Fa_some, add_mk, Nat.zero_add, q_some, Ld_some, cfg L18.e, Bin_eql_3, ej1, Bin_neq_4, beq_self_eq_true, Bool.not_true, condV_bool, Bool.false_eq_true, if_false]
  -- the second half
  have half : ∀ (G : Hp) (colG : Nat → Rl), Law H4 col G colG bf sk (Go.Pm.Rd.f6 j v) → (Go.Pm.Rd.f6 j v).net.next ≤ 2000 → (Go.Pm.Rd.f6 j v).homes.length = 4 → F4_19 (.int .u32 v) (.bool true) (at0 b6) (at0 bf) G Q := by
    intro G colG LG hnx hho
    unfold F4_19 F4_29 F4_33 F4_30 F4_31
    refine ⟨fun v19 H' => ∃ (i : Nat) (col' : Nat → Rl), v19 = .int .i64 i ∧ i ≤ j ∧ Law H4 col H' col' bf sk (askTo false (Go.Pm.Rd.f6 j v) i), fun v19 _ => j - (iv v19).toNat, ⟨0, colG, rfl, by omega, LG⟩, ?_⟩
    rintro v19 G1 ⟨i, colG1, rfl, hi, LG1⟩
    unfold F4_32
    simp -implicitDefEqProofs only [Fa_some, add_mk, Nat.zero_add, q_some, Ld_some, cfg LG1.e, Bin_lss_3]
    obtain ⟨okG, likeG⟩ := askTo_ok LG.ok (by omega) false i
    have likeGn := likeG.n
    have likeGh := likeG.h
    by_cases hlt : i < j
    · have hlt' : (i : Int) < j := by omega
      simp -implicitDefEqProofs only [hlt', decide_true, condV_bool, if_true]
      refine Ask_16 LG1.fa okG (by omega) fun G2 colG2 mG2 SG2 faG2 => ?_
      simp -implicitDefEqProofs only [Bin_add_3, wk i (by omega), q_some]
      exact ⟨trivial, trivial, trivial, trivial, ⟨i + 1, colG2, rfl, by omega, LG1.step mG2 SG2 faG2 (okG.ask (.inl (by omega)) i 0 false)⟩, by simp; omega⟩
    have hij : i = j := by omega
    subst hij
    have hlt' : ¬ ((i : Int) < i) := by omega
    simp -implicitDefEqProofs only [hlt', decide_false, condV_bool, Bool.false_eq_true, if_false]
    unfold F4_20 F4_28
    refine Settle_19 (N := 60) LG1.fa okG (stl_eq F.s7) (by omega) fun G3 colG3 mG3 SG3 faG3 okG3 hxG3 => ?_
    have faG3' : FabAt G3 colG3 bf sk (Go.Pm.Rd.f7 i v) := faG3
    have okG3' : FabOk (Go.Pm.Rd.f7 i v) := okG3
    have LG3 := LG1.step mG3 SG3 faG3' okG3'
    unfold F4_21 F4_23 F4_27 F4_24 F4_25
    refine ⟨fun v20 H' => ∃ (k : Nat) (col' : Nat → Rl), v20 = .int .i64 k ∧ k ≤ i ∧ Law H4 col H' col' bf sk (readTo (Go.Pm.Rd.f7 i v) k), fun v20 _ => i - (iv v20).toNat, ⟨0, colG3, rfl, by omega, LG3⟩, ?_⟩
    rintro v20 G4 ⟨k, colG4, rfl, hk, LG4⟩
    unfold F4_26
    simp -implicitDefEqProofs only [Fa_some, add_mk, Nat.zero_add, q_some, Ld_some, cfg LG4.e, Bin_lss_3]
    obtain ⟨okG4, likeG4⟩ := readTo_ok okG3' k
    by_cases hlt2 : k < i
    · have hlt2' : (k : Int) < i := by omega
      simp -implicitDefEqProofs only [hlt2', decide_true, condV_bool, if_true]
      refine Read_18 LG4.fa okG4 (by unfold U32; omega) fun G5 colG5 mG5 SG5 faG5 => ?_
      rw [F.r7 k hlt2]
      have evv : (v != v) = false := by simp
      simp -implicitDefEqProofs only [Ex_tuple, List.getElem?_toArray, List.getElem?_cons_zero, List.getElem?_cons_succ, un_not, Bool.not_true, q_some, gd_bool, if_true, Bin_neq_40, evv, Pk_bool, condV_bool, Bool.false_eq_true, if_false, Bin_add_3, wk k (by omega)]
      exact ⟨trivial, trivial, trivial, trivial, ⟨k + 1, colG5, rfl, by omega, LG4.step mG5 SG5 faG5 (okG4.read k 0 4)⟩, by simp; omega⟩
    have hki : k = i := by omega
    subst hki
    have hlt2' : ¬ ((k : Int) < k) := by omega
    simp -implicitDefEqProofs only [hlt2', decide_false, condV_bool, Bool.false_eq_true, if_false]
    unfold F4_22
    exact hq G4 (E4.trans LG4.e)
  unfold F4_18 F4_34
  by_cases h1 : j = 1
  · have hj1 : (j == 1) = true := by simp [h1]
    rw [hj1]
    simp -implicitDefEqProofs only [un_not, Bool.not_true, q_some, gd_bool, gl_bool, gd_undef, gl_undef, Bool.false_eq_true, if_false, Pk_bool, condV_bool]
    have e6 : Go.Pm.Rd.f6 j v = Go.Pm.Rd.f3 j v := by unfold Go.Pm.Rd.f6; rw [if_pos h1]
    exact half H18 col18 (by rw [e6]; exact L18) (by rw [e6]; omega) (by rw [e6]; omega)
  · have hj1 : (j == 1) = false := by simp [h1]
    obtain ⟨f1, f2, f3, f4⟩ := F.b h1
    rw [hj1]
    simp -implicitDefEqProofs only [un_not, Bool.not_false, q_some, gd_bool, gl_bool, if_true]
    refine Ask_16 L18.fa ok18 (by omega) fun H19 col19 m19 S19 fa19 => ?_
    rw [f1]
    have fa19' : FabAt H19 col19 bf sk (Go.Pm.Rd.f4 j v) := fa19
    have ok19 : FabOk (Go.Pm.Rd.f4 j v) := ok18.ask (.inl (by omega)) ((j : Int) - 1) 0 true
    have L19 := L18.step m19 S19 fa19' ok19
    have like19 : Like (Go.Pm.Rd.f3 j v) (Go.Pm.Rd.f4 j v) 2 := like_ask ok18 ((j : Int) - 1) 0 true
    have like19n := like19.n
    have like19h := like19.h
    simp -implicitDefEqProofs only [un_not, Bool.not_true, q_some, gd_bool, gl_bool, if_true]
    refine Settle_19 (N := 60) L19.fa ok19 (stl_eq f2) (by omega) fun H20 col20 m20 S20 fa20 ok20 hx20 => ?_
    rw [f3]
    have L20 := L19.step m20 S20 fa20 ok20
    have like20 := (like_settle ok19 (stl_eq f2)).1
    have like20h := like20.h
    simp -implicitDefEqProofs only [un_not, Bool.not_true, q_some, Pk_bool, Bool.false_eq_true, if_false, gd_bool, gl_bool, if_true]
    refine Write_20 L20.fa ok20 (by unfold U32; omega) hv fun H21 col21 m21 S21 fa21 => ?_
    rw [f4]
    have e6 : Go.Pm.Rd.f6 j v = Go.Pm.Rd.f5 j v := by unfold Go.Pm.Rd.f6; rw [if_neg h1]
    have fa21' : FabAt H21 col21 bf sk (Go.Pm.Rd.f6 j v) := by rw [e6]; exact fa21
    have ok21 : FabOk (Go.Pm.Rd.f6 j v) := by rw [e6]; exact ok20.write ((j : Int) - 1) 0 4 v (by omega) hv
    have L21 := L20.step m21 S21 fa21' ok21
    have like21 : Like (stl (Go.Pm.Rd.f4 j v)) (Go.Pm.Rd.f5 j v) 0 := like_write _ ((j : Int) - 1) 0 4 v
    have like21n := like21.n
    have like21h := like21.h
    simp -implicitDefEqProofs only [un_not, Bool.not_true, q_some, Pk_bool, Bool.false_eq_true, if_false, gd_bool, if_true, condV_bool]
    exact half H21 col21 L21 (by rw [e6]; omega) (by rw [e6]; omega)
end YtacidjifocfhkaaGreatDoor
end Go.Proofs
namespace Go.Proofs
namespace YtacidjifocfhkaaGreatDoor
open Go Go.NW Go.Pm
open Go.ChangeShapes Go.WideShapes Go.ChangeAt Go.WideMaps Go.WideElems Go.RowKit
/-- a laid error: its block stands unfrozen and holds an interface value -/
theorem glob_of {P : Program} {n nm : String} {d : DataW Unit} {r : List (String × DataW Unit)} {W : World} {g : Nat} {ti : TypeId} {ms : Array (String × TypeId)}
    (h : laidMet P ((n, .iface nm d) :: r) W) (hg : P.globalNamed n = some g) (ht : (P.globals[g]?).map (·.type) = some ti) (hi : P.underlying ti = some (.interface ms)) :
    ∃ c t v, blk W.heap g c ∧ c[0]? = some (.iface t v) := by
  obtain ⟨ps, ⟨g0, t0, cs0, f0, p0, q0, hg0, ht0, hv0, hd0, _, e0⟩, _, hrows⟩ := h
  obtain rfl := Option.some.inj (hg.symm.trans hg0)
  obtain rfl := Option.some.inj (ht.symm.trans ht0)
  subst e0
  obtain ⟨l0⟩ := cs0
  obtain ⟨f', u, v, hcs, _, _⟩ := iface_of_trod hi hd0
  simp only at hcs
  subst hcs
  obtain ⟨⟨c, t, hb⟩, _⟩ := hrows g 0 (by simp [MemPlace.row])
  unfold World.var? at hv0
  rw [hg] at hv0
  simp only [Option.bind_some, hb, Option.some.injEq] at hv0
  subst hv0
  exact ⟨_, u, v, ⟨_, hb⟩, rfl⟩
/-- the errors' colours -/
def gcol (b : Nat) : Rl := if b < 5 then .glob else .other
theorem kept_of_ext {w w' : World} (e : Ext [] w.heap w'.heap) (s : SameW w w') (may : MemPlace → Prop) : w.keptBut w' may := by
  refine ⟨s.os, s.output, fun i hi => ?_⟩
  rw [e.same i hi (by simp)]
  exact (World.keptBut_refl w may).2.2 i hi
end YtacidjifocfhkaaGreatDoor
end Go.Proofs
namespace Go.Proofs
namespace YtacidjifocfhkaaGreatDoor
open Go Go.NW Go.Pm
open Go.ChangeShapes Go.WideShapes Go.ChangeAt Go.WideMaps Go.WideElems Go.RowKit
theorem own0 : ownKnob Tryz.prog.godebug = none := by kernel_rfl
theorem gn0 : Tryz.prog.globalNamed "corral/api.ErrRange" = some 0 := by kernel_rfl
theorem gn1 : Tryz.prog.globalNamed "corral/api.ErrMany" = some 1 := by kernel_rfl
theorem gn2 : Tryz.prog.globalNamed "corral/api.ErrKind" = some 2 := by kernel_rfl
theorem gn3 : Tryz.prog.globalNamed "corral/api.ErrFull" = some 3 := by kernel_rfl
theorem gn4 : Tryz.prog.globalNamed "corral/api.ErrPlace" = some 4 := by kernel_rfl
theorem gt0 : (Tryz.prog.globals[0]?).map (·.type) = some 26 := by kernel_rfl
theorem gt1 : (Tryz.prog.globals[1]?).map (·.type) = some 26 := by kernel_rfl
theorem gt2 : (Tryz.prog.globals[2]?).map (·.type) = some 26 := by kernel_rfl
theorem gt3 : (Tryz.prog.globals[3]?).map (·.type) = some 26 := by kernel_rfl
theorem gt4 : (Tryz.prog.globals[4]?).map (·.type) = some 26 := by kernel_rfl
/-- the listed five, in the rows' order -/
def laid5 : List (String × DataW Unit) := [("corral/api.ErrMany", Rows.laid_corral_api_ErrMany), ("corral/api.ErrKind", Rows.laid_corral_api_ErrKind), ("corral/api.ErrPlace", Rows.laid_corral_api_ErrPlace), ("corral/api.ErrRange", Rows.laid_corral_api_ErrRange), ("corral/api.ErrFull", Rows.laid_corral_api_ErrFull)]
theorem laid5_start {W : World} (h : laidMetH Tryz.prog laid5 W) : Start W.heap gcol := by
  rw [MakeChecks.laidMetH_plain _ _ _ (by kernel_rfl)] at h
  have h1 := glob_of h gn1 gt1 Tryz.underlying26
  have h2 := glob_of h.tail gn2 gt2 Tryz.underlying26
  have h4 := glob_of h.tail.tail gn4 gt4 Tryz.underlying26
  have h0 := glob_of h.tail.tail.tail gn0 gt0 Tryz.underlying26
  have h3 := glob_of h.tail.tail.tail.tail gn3 gt3 Tryz.underlying26
  refine ⟨fun b hb => ⟨by simp [gcol, hb], ?_⟩, fun x => by unfold gcol; split <;> simp⟩
  match b, hb with
  | 0, _ => exact h0
  | 1, _ => exact h1
  | 2, _ => exact h2
  | 3, _ => exact h3
  | 4, _ => exact h4
theorem laid5_door (os : Os) (args : Array Value) : laidMetH Tryz.prog laid5 ((World.doorLaid Tryz.prog 400 os).forCall (fun _ _ => 0) ⟨#[], args, []⟩).memory :=
  laidMetH_of_parts3 (fuel := 8) (laidMet_of_run' 8 (by kernel_rfl) (by kernel_rfl)) (by kernel_rfl) (by kernel_rfl)
set_option maxRecDepth 100000 in
theorem lifted_4 (os : Os) (started : os.Started) (H : Type) (enc : TypeId × Value → H) :
    ReturnsInHanded {} Tryz.checked os 4 .any (fun w args => (Rows.fabricReadersSpec.pre enc Tryz.prog Tryz.f4 [] false w args ∧ laidMetH Tryz.prog laid5 w) ∧ sizedMet enc Tryz.prog Tryz.f4 (OpenSpec.ofChange Rows.fabricReadersSpec) false w args)
      (Rows.fabricReadersSpec.post enc Tryz.prog Tryz.f4 false true false false) := by
  refine returnsInHanded_of_change_and (C := Tryz.checked) (X := fun w _ => laidMetH Tryz.prog laid5 w) (fun _ _ _ hh h => h.of_heap hh) own0 started (by kernel_rfl) Tryz.func4
    (ChangeSpec.witness_shaped (enc := enc) (C := Tryz.checked) (os := os) (X := fun w _ => laidMetH Tryz.prog laid5 w) false (World.doorLaid Tryz.prog 400 os) #[.int .i64 0, .int .u32 0] 8 rfl (World.shaped_of_RefB (by kernel_rfl) (by kernel_rfl)) (by kernel_rfl) (by kernel_rfl) (by kernel_rfl) (laid5_door os _)) ?_
  intro W base args ds gs before hval0 hW _ _ hL _
  have hval : ∀ (j : Nat) t v, Tryz.f4.params[j]? = some t → args[j]? = some v → Value.okWide Tryz.prog W .any base t v := hval0
  have hW' := hW
  obtain ⟨p, q, hA0, hV, rfl, hfz, hnd⟩ := hW
  have hA : DataW.TrodAll enc Tryz.prog W 0 (fun _ => true) true Tryz.f4.params.toList args.toList ds p := hA0
  rw [Tryz.params4] at hA hval
  obtain ⟨v0, v1, d0, d1, p0, p1, rfl, rfl, rfl, h0, h1⟩ := trodAll_two hA
  obtain ⟨rfl, rfl⟩ := trodVars_none hV
  obtain ⟨a, rfl, rfl, rfl, wa⟩ := open_int Tryz.underlying3 (hval 0 3 v0 rfl rfl) h0
  obtain ⟨v, rfl, rfl, rfl, wv⟩ := open_int Tryz.underlying40 (hval 1 40 v1 rfl rfl) h1
  have hv : U32 v := by
    simp only [Lit.wf, IntKind.min, IntKind.max, IntKind.signed, IntKind.bits] at wv
    unfold U32
    simp at wv
    omega
  have st := laid5_start hL
  have hc := (Readers_4 (a := a) (Q := fun r H' => r = .bool true ∧ Ext [] W.heap H') st hv fun H' e => ⟨rfl, e⟩).body (by kernel_rfl)
  refine (hc.2 W rfl).mono fun e W2 ⟨r, he, ⟨hr, hx⟩, hs⟩ => ?_
  subst he; subst hr
  refine ⟨_, rfl, ?_⟩
  simp only [List.append_nil] at hW'
  exact ⟨_, _, _, [], [], [], hW', trodAll_mk1 (shut_bool Tryz.underlying4 _), trodAll_mk2 (shut_int Tryz.underlying3 wa) (shut_int Tryz.underlying40 wv), rfl, kept_of_ext hx hs _, fun h => by cases h⟩
theorem fabricReaders_row : Rows.FabricReadersSaid :=
  OpenClaim.holds_of_wide 4 Tryz.f4 rfl rfl rfl rfl rfl rfl rfl ⟨rfl, rfl, rfl, rfl, rfl⟩ rfl rfl rfl rfl rfl (by kernel_rfl) Tryz.func4 (by kernel_rfl)
    (of_decide_eq_true (by kernel_rfl)) (by unfold Func.isWrapper; first | (rw [if_pos (by decide +kernel)]; kernel_rfl) | (rw [if_neg (by decide +kernel)]; exact ⟨rfl, rfl⟩))
    (fun os started H enc _ => lifted_4 os started H enc)
end YtacidjifocfhkaaGreatDoor
end Go.Proofs
namespace Go.Proofs
namespace YtacidjifocfhkaaGreatDoor
open Go
theorem fabricReaders_holds : Rows.FabricReadersCardSaid :=
  Claim7.holds_tied_plain_at .later [] [.sentinel, .sentinel, .sentinel, .sentinel, .sentinel] true (true, "beaddecdb8a3510ccd37603628731803452b6c12f03e012ac52c753f3fbf71ac") true
    fabricReaders_row (fun _ h => by cases h) (by kernel_rfl) (fun _ h => by cases h) fabricReaders_row_tie rfl ⟨rfl, rfl⟩ (by kernel_rfl) rfl
    (fun f fn hf hfn => by
      obtain rfl : f = 4 := Option.some.inj ((show Tryz.prog.funcNamed "corral/corrallaw20.FabricReaders" = some 4 by kernel_rfl).symm.trans hf) |>.symm
      obtain rfl : fn = Tryz.f4 := (Option.some.inj (Tryz.func4.symm.trans hfn)).symm
      exact ⟨by kernel_rfl, fun j t ht => by
        rw [Tryz.params4] at ht
        have hm : t ∈ [3, 40] := by simpa using Array.mem_of_getElem? ht
        have hall : ([3, 40].all fun u => !Tryz.prog.wantsStandIn u) = true := by kernel_rfl
        exact (show Tryz.prog.wantsStandIn t = false by simpa using List.all_eq_true.1 hall t hm)⟩)
    (by kernel_rfl)
end YtacidjifocfhkaaGreatDoor
end Go.Proofs
#print axioms Go.Proofs.YtacidjifocfhkaaGreatDoor.fabricReaders_holds
