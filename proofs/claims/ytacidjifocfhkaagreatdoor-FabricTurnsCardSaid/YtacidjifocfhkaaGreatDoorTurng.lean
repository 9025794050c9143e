/-
  PROVED: for every number of harts and ways and every list of turns, FabricTurns returns true, and all arguments read afterwards as they read before. CONDITIONS: the five errors of package api that the row lists read, when the call begins, as the program's text lays them (the card ties them); nothing else is asked.
-/
import Derived.Test.YtacidjifocfhkaaGreatDoorTurnf
import Derived.ProofKit
import Derived.OpenShut
import Derived.Deep.Slices
import Derived.Test.YtacidjifocfhkaaGreatDoorRows
import Derived.LaidMore
import Derived.LaidLaws
import Derived.Stop.Joined
import Derived.Stop.LaidErr
import Derived.Carry
import Derived.Lib.SmallJoins
import Derived.Test.YtacidjifocfhkaaGreatDoorTie
import Derived.Test.YtacidjifocfhkaaGreatDoorCards
import Derived.SevenTiedAt
namespace Go.Proofs
open Go Go.NW Go.Pm
set_option maxRecDepth 20000
set_option linter.unusedSimpArgs false
set_option linter.unusedVariables false
namespace YtacidjifocfhkaaGreatDoor
structure Like (f g : Fab) (k : Nat) : Prop where
  h : g.homes.length = f.homes.length
  p : g.parts.length = f.parts.length
  n : g.net.next ≤ f.net.next + k
theorem Like.refl (f : Fab) : Like f f 0 := ⟨rfl, rfl, Nat.le_refl _⟩
theorem Like.trans {f g h : Fab} {a b : Nat} (x : Like f g a) (y : Like g h b) : Like f h (a + b) := ⟨y.h.trans x.h, y.p.trans x.p, by have := x.n; have := y.n; omega⟩
theorem Like.mono {f g : Fab} {a b : Nat} (x : Like f g a) (h : a ≤ b) : Like f g b := ⟨x.h, x.p, by have := x.n; omega⟩
theorem like_used (f : Fab) (h addr : Int) : Like f (f.used h addr) 0 := ⟨rfl, by simp [Fab.used, Fab.setPart], Nat.le_refl _⟩
theorem like_read (f : Fab) (h addr size : Int) : Like f (f.read h addr size).1 0 := by
  unfold Fab.read; split
  · exact Like.refl f
  · exact like_used f h addr
theorem like_write (f : Fab) (h addr size v : Int) : Like f (f.write h addr size v).1 0 := by
  unfold Fab.write; split
  · exact Like.refl f
  · exact ⟨rfl, by simp [Fab.used, Fab.setPart], Nat.le_refl _⟩
theorem like_ask {f : Fab} (ok : FabOk f) (h line : Int) (w : Bool) : Like f (f.ask h line w).1 2 := by
  have r0 : Like f f 2 := (Like.refl f).mono (by omega)
  cases ht : f.there h line with
  | false => rw [show f.ask h line w = (f, false) by simp [Fab.ask, ht]]; exact r0
  | true =>
    obtain ⟨p, hp, _⟩ := there_of ht
    rw [ask_eq ht hp]
    split
    · exact r0
    split
    · exact r0
    cases hf : p.fit f.net line with
    | none => exact r0
    | some r =>
      obtain ⟨p', n'⟩ := r
      obtain ⟨_, _, hn⟩ := fit_keeps hf (ok.pOf hp).cache
      have hn' : n'.next ≤ f.net.next + 1 := by
        rcases hn with rfl | ⟨ms, hms, rfl⟩
        · omega
        · obtain ⟨_, _, _, q4, _⟩ := send_next (n := f.net) (ms := ms); omega
      simp only []
      generalize (p'.line line).getD { line := line, hart := h } = l
      unfold asked
      have ha := ask_len l w
      split
      · obtain ⟨_, _, _, q4, _⟩ := send_next (n := n') (ms := (l.ask w).2.1)
        exact ⟨rfl, by simp [Fab.setPart], by show (Net.send _ _).next ≤ _; omega⟩
      · exact ⟨rfl, by simp [Fab.setPart], by show n'.next ≤ _; omega⟩
theorem like_deliver {f g : Fab} {id : Int} (ok : FabOk f) (h : f.deliver? id = some g) : Like f g 9 := by
  refine ⟨?_, ?_, deliver_next ok h⟩ <;>
  · unfold Fab.deliver? at h
    split at h
    · cases h
    · split at h
      · cases h
      · split at h
        · unfold Fab.atHome at h
          simp only [] at h
          split at h
          · cases h
          split at h
          · cases h
          simp at h; subst h; simp
        · unfold Fab.atHart at h
          simp only [] at h
          split at h
          · cases h
          split at h
          · cases h
          simp only [Option.some.injEq] at h
          subst h
          simp [Fab.setPart]
theorem step_deliver {f g : Fab} (h : f.step = some g) : ∃ id, f.deliver? id = some g := by
  unfold Fab.step at h
  obtain ⟨x, _, hx⟩ := List.exists_of_findSome?_eq_some h
  exact ⟨x.id, hx⟩
theorem like_settle : ∀ {n : Nat} {f g : Fab} {r : Bool}, FabOk f → f.settle n = some (g, r) → Like f g (9 * n) ∧ FabOk g
  | 0, f, g, r, _, h => by simp [Fab.settle] at h
  | n + 1, f, g, r, ok, h => by
    simp only [Fab.settle] at h
    split at h
    · simp at h; obtain ⟨rfl, _⟩ := h; exact ⟨(Like.refl _).mono (by omega), ok⟩
    · split at h
      · rename_i g' hg
        obtain ⟨id, hid⟩ := step_deliver hg
        obtain ⟨a, b⟩ := like_settle (ok.deliver hid) h
        exact ⟨((like_deliver ok hid).trans a).mono (by omega), b⟩
      · simp at h; obtain ⟨rfl, _⟩ := h; exact ⟨(Like.refl _).mono (by omega), ok⟩
theorem config_21 {H : Hp} {a b c : Int} {Q : RT1}
    (hq : ∀ H', Ext [] H H' → Q (.agg (confC (a % 4 + 1) (2 ^ (b % 3).toNat) (c % 3 + 1) (6 * (a % 4 + 1)))) H') : NCalls Tryz.prog 21 #[.int .i64 a, .int .i64 b, .int .i64 c] H Q := by
  refine E21 ?_
  unfold F21_0
  refine New_i fun H1 b1 hb1 e1 s1 k1 => ?_
  refine Number_12 (by omega) ?_
  have ha : 0 ≤ a % 4 ∧ a % 4 < 4 := by omega
  have hb : 0 ≤ b % 3 ∧ b % 3 < 3 := by omega
  have hc : 0 ≤ c % 3 ∧ c % 3 < 3 := by omega
  have w1 : IntKind.wrap .i64 (a % 4 + 1) = a % 4 + 1 := w64 (by omega) (by omega)
  have w2 : IntKind.wrap .i64 (c % 3 + 1) = c % 3 + 1 := w64 (by omega) (by omega)
  have w3 : IntKind.wrap .i64 (6 * (a % 4 + 1)) = 6 * (a % 4 + 1) := w64 (by omega) (by omega)
  have wu : IntKind.wrap .u64 (b % 3) = b % 3 := by unfold IntKind.wrap; simp [IntKind.bits, IntKind.signed]; omega
  have ws : IntKind.wrap .i64 (1 * 2 ^ (min (b % 3).toNat (IntKind.bits .i64))) = 2 ^ (b % 3).toNat := by
    have : b % 3 = 0 ∨ b % 3 = 1 ∨ b % 3 = 2 := by omega
    rcases this with h | h | h <;> rw [h] <;> decide
  simp -implicitDefEqProofs only [Bin_add_3, w1, q_some]
  refine Number_12 (by omega) ?_
  simp -implicitDefEqProofs only [cv_3_130, wu, q_some, Bin_shl_3_u64 _ _ _ _ hb.1, ws]
  refine Number_12 (by omega) ?_
  simp -implicitDefEqProofs only [Bin_add_3, w2, q_some, Bin_mul_3, w3, bld_23_0_1_2_3]
  refine St_i k1 (by simp) (by simp) (by simp) fun H2 e2 s2 k2 => ?_
  have k2' : blk H2 b1 (confC (a % 4 + 1) (2 ^ (b % 3).toNat) (c % 3 + 1) (6 * (a % 4 + 1))) := by simpa [wrL, confC] using k2
  simp -implicitDefEqProofs only [LdA_some, k2'.cells, show ∀ x y z w, (confC x y z w).size = 4 from fun _ _ _ _ => rfl, show ∀ x y z w, (confC x y z w).extract 0 4 = confC x y z w from fun _ _ _ _ => by simp [confC], Nat.zero_add, Nat.le_refl, if_true, Option.map_some, q_some]
  exact hq H2 (e1.fresh e2 (by simp; omega))
theorem config_ok (a b c : Int) : confOk (a % 4 + 1) (2 ^ (b % 3).toNat) (c % 3 + 1) (6 * (a % 4 + 1)) = true := by
  have ha : 0 ≤ a % 4 ∧ a % 4 < 4 := by omega
  have hc : 0 ≤ c % 3 ∧ c % 3 < 3 := by omega
  have : b % 3 = 0 ∨ b % 3 = 1 ∨ b % 3 = 2 := by omega
  have hp : pow2 1 = true ∧ pow2 2 = true ∧ pow2 4 = true := by decide
  rcases this with h | h | h <;> rw [h] <;> simp [confOk, shapeOk, hp.1, hp.2.1, hp.2.2] <;> omega
theorem first_9 {H : Hp} {col : Nat → Rl} {Q : RT1} (st : Start H col) (hq : ∀ H', Ext [] H H' → Q (.bool true) H') : NCalls Tryz.prog 9 #[] H Q := by
  refine E9 ?_
  unfold F9_0
  have hb : pv Tryz.prog (Instr.build 23 #[(0, .int .i64 2), (1, .int .i64 1), (2, .int .i64 1), (3, .int .i64 12)]) = some (.agg (confC 2 1 1 12)) := by kernel_rfl
  simp -implicitDefEqProofs only [hb, q_some]
  refine made_22 (n := 64) (ws := []) (bw := 0) st (by decide) (by omega) (Slc.nil _ _ _) (by simp) (by simp) fun H1 col1 bf sk e1 S1 fa1 ok1 => ?_
  have fa1' : FabAt H1 col1 bf sk First.g0 := fa1
  have ok1' : FabOk First.g0 := ok1
  have hh0 : First.g0.homes.length = 4 := by kernel_rfl
  have hn0 : First.g0.net.next = 0 := by kernel_rfl
  simp -implicitDefEqProofs only [Ex_tuple, List.getElem?_toArray, List.getElem?_cons_zero, List.getElem?_cons_succ, q_some, un_not, Bool.not_true, condV_bool, Bool.false_eq_true, if_false]
  refine Ask_16 fa1' ok1' (by omega) fun H2 col2 m2 S2 fa2 => ?_
  rw [First.a0]
  have l1 := like_ask ok1' 0 0 true
  have ok2 : FabOk First.g1 := ok1'.ask (.inl (by omega)) 0 0 true
  have l1n := l1.n
  have fa2' : FabAt H2 col2 bf sk First.g1 := fa2
  refine Settle_19 (N := 60) fa2' ok2 (stl_eq First.s1) (by show First.g1.net.next + _ ≤ _; have : First.g1.net.next ≤ First.g0.net.next + 2 := l1n; omega) fun H3 col3 m3 S3 fa3 ok3 hx3 => ?_
  rw [First.o1]
  have fa3' : FabAt H3 col3 bf sk First.g2 := fa3
  have ok3' : FabOk First.g2 := ok3
  refine Write_20 fa3' ok3' (by unfold U32; omega) (by unfold U32; omega) fun H4 col4 m4 S4 fa4 => ?_
  rw [First.w2]
  have fa4' : FabAt H4 col4 bf sk First.g3 := fa4
  have ok4 : FabOk First.g3 := ok3'.write 0 0 4 7 (by omega) (by unfold U32; omega)
  refine Read_18 fa4' ok4 (by unfold U32; omega) fun H5 col5 m5 S5 fa5 => ?_
  have ok5 : FabOk First.g4 := ok4.read 1 0 4
  have l2 := (like_settle ok2 (stl_eq First.s1)).1
  have l3 := like_write First.g2 0 0 4 7
  have l4 := like_read First.g3 1 0 4
  have L4 : Like First.g0 First.g4 (2 + 9 * 60 + 0 + 0) := ((l1.trans l2).trans l3).trans l4
  have L4h := L4.h
  have L4n := L4.n
  simp -implicitDefEqProofs only [Ex_tuple, List.getElem?_toArray, List.getElem?_cons_zero, List.getElem?_cons_succ, q_some]
  have fa5' : FabAt H5 col5 bf sk First.g4 := fa5
  refine Ask_16 fa5' ok5 (by show First.g4.net.next ≤ _; omega) fun H6 col6 m6 S6 fa6 => ?_
  rw [First.a4]
  have fa6' : FabAt H6 col6 bf sk First.g5 := fa6
  have ok6 : FabOk First.g5 := ok5.ask (.inl (by omega)) 1 0 false
  have l5 := like_ask ok5 1 0 false
  have l5n := l5.n
  refine Settle_19 (N := 60) fa6' ok6 (stl_eq First.s5) (by show First.g5.net.next + _ ≤ _; have : First.g5.net.next ≤ First.g4.net.next + 2 := l5n; omega) fun H7 col7 m7 S7 fa7 ok7 hx7 => ?_
  have fa7' : FabAt H7 col7 bf sk First.g6 := fa7
  have ok7' : FabOk First.g6 := ok7
  refine Read_18 fa7' ok7' (by unfold U32; omega) fun H8 col8 m8 S8 fa8 => ?_
  rw [First.r3, First.r6]
  simp -implicitDefEqProofs
  refine hq H8 ?_
  have z1 := m2.size
  have z2 := m3.size
  have z3 := m4.size
  have z4 := m5.size
  have z5 := m6.size
  have z6 := m7.size
  have T2 : Same H1 col1 col2 := S2
  have T3 := T2.trans (H' := H2) S3 (by omega)
  have T4 := T3.trans (H' := H3) S4 (by omega)
  have T5 := T4.trans (H' := H4) S5 (by omega)
  have T6 := T5.trans (H' := H5) S6 (by omega)
  have T7 := T6.trans (H' := H6) S7 (by omega)
  have M := (((((m2.trans T2 m3).trans T3 m4).trans T4 m5).trans T5 m6).trans T6 m7).trans T7 m8
  have M0 : Mod Rl.mine H col H8 := (Mod.of (R := Rl.mine) e1 (by simp)).trans S1 M
  exact st.stay M0
end YtacidjifocfhkaaGreatDoor
end Go.Proofs
namespace Go.Proofs
open Go Go.NW Go.Pm
set_option maxRecDepth 20000
set_option linter.unusedSimpArgs false
set_option linter.unusedVariables false
namespace YtacidjifocfhkaaGreatDoor
/-- a statement under way: where it began, its fabric -/
structure Law (H0 : Hp) (col0 : Nat → Rl) (H : Hp) (col : Nat → Rl) (bf : Nat) (sk : Sk) (f : Fab) : Prop where
  st : Start H0 col0
  e : Ext [] H0 H
  s : Same H0 col0 col
  fa : FabAt H col bf sk f
  ok : FabOk f
section law
variable {H0 H H' : Hp} {col0 col col' : Nat → Rl} {bf : Nat} {sk : Sk} {f f' : Fab}
theorem Law.step (l : Law H0 col0 H col bf sk f) (m : Mod Rl.mine H col H') (s : Same H col col') (fa : FabAt H' col' bf sk f') (ok : FabOk f') : Law H0 col0 H' col' bf sk f' := by
  have z := l.e.size
  refine ⟨l.st, ⟨Nat.le_trans z m.size, fun x hx _ => ?_⟩, l.s.trans (H' := H) s z, fa, ok⟩
  rw [m.same x (by omega) (by rw [l.s x hx]; rcases l.st.col x with h | h <;> rw [h] <;> rfl)]
  exact l.e.same x hx (by simp)
theorem Law.alloc (l : Law H0 col0 H col bf sk f) (e : Ext [] H H') : Law H0 col0 H' col bf sk f := ⟨l.st, l.e.trans e, l.s, l.fa.ext0 e, l.ok⟩
end law
end YtacidjifocfhkaaGreatDoor
end Go.Proofs
namespace Go.Proofs
open Go Go.NW Go.Pm
set_option maxRecDepth 20000
set_option linter.unusedSimpArgs false
set_option linter.unusedVariables false
namespace YtacidjifocfhkaaGreatDoor
def ownsD (line : Int) (p : Part) : Option Words := match p.line line with | some l => if l.state = 4 ∨ l.state = 3 then some l.data else none | none => none
def keepsD (line : Int) (p : Part) : Option Words := match p.line line with | some l => if keptD l = true then some l.data else none | none => none
def fliesD (line : Int) (x : Flight) : Option Words := if x.msg.line = line ∧ x.msg.dirty = true ∧ (x.msg.kind = 7 ∨ x.msg.kind = 11) then some x.msg.data else none
def newestOf (f : Fab) (line : Int) : Words :=
  match f.parts.findSome? (ownsD line) with
  | some d => d
  | none => match f.net.l.findSome? (fliesD line) with
    | some d => d
    | none => let h := f.homes.getD line.toNat (Home.new 0 0 .zero)
      if h.held = true then h.back.data else match f.parts.findSome? (keepsD line) with
        | some d => d
        | none => h.data
theorem findSome_take {α β : Type} {g : α → Option β} {l : List α} {i : Nat} {x : α} {d : β} (h0 : (l.take i).findSome? g = none) (hx : l[i]? = some x) (hd : g x = some d) : l.findSome? g = some d := by
  obtain ⟨hi, rfl⟩ := List.getElem?_eq_some_iff.1 hx
  conv => lhs; rw [← List.take_append_drop i l]
  rw [List.findSome?_append, h0, List.drop_eq_getElem_cons hi, List.findSome?_cons, hd]
  rfl
theorem findSome_next {α β : Type} {g : α → Option β} {l : List α} {i : Nat} {x : α} (h0 : (l.take i).findSome? g = none) (hx : l[i]? = some x) (hd : g x = none) : (l.take (i + 1)).findSome? g = none := by
  obtain ⟨hi, rfl⟩ := List.getElem?_eq_some_iff.1 hx
  rw [List.take_succ_eq_append_getElem hi, List.findSome?_append, h0]
  simp [hd]
theorem ret_4 {H : Hp} {b : Nat} {c w : Words} {K : RT1} (k : blk H b (wordsC c)) (hK : ∀ H', Ext [b] H H' → K (.agg (wordsC w)) H') :
    St 4 H (at0 b) (.agg (wordsC w)) (fun H' => q (LdA 4 H' (at0 b)) fun r => K r H') := by
  refine St_i k (by simp [wordsC]) (by simp [wordsC]) (by simp [wordsC]) fun H1 e1 s1 k1 => ?_
  have k1' : blk H1 b (wordsC w) := by simpa [wrL, wordsC] using k1
  simp -implicitDefEqProofs only [LdA_some, k1'.cells, show (wordsC w).size = 4 from rfl, show (wordsC w).extract 0 4 = wordsC w by simp [wordsC], Nat.zero_add, Nat.le_refl, if_true, Option.map_some, q_some]
  exact hK H1 e1
section
variable {H0 H : Hp} {col : Nat → Rl} {bf b4 : Nat} {sk : Sk} {f : Fab} {line : Int} {Q : RT1}
/-- behind the rest: those who keep it, or the home -/
theorem kept_68 (fa : FabAt H0 col bf sk f) (hl : 0 ≤ line ∧ line < f.homes.length) (np : f.parts.length ≤ 4) (e : Ext [] H0 H) (k4 : blk H b4 (wordsC .zero)) (h4 : H0.size ≤ b4)
    (hq : ∀ H', Ext [] H0 H' → Q (.agg (wordsC (match f.parts.findSome? (keepsD line) with | some d => d | none => (f.homes.getD line.toNat (Home.new 0 0 .zero)).data))) H') : F68_4 (at0 bf) (.int .i64 line) (at0 b4) H Q := by
  have fa1 := fa.ext0 e
  unfold F68_4 F68_6 F68_16
  simp -implicitDefEqProofs only [Nz_some, q_some, Fa_some, add_mk, Nat.zero_add, Ld_some, fa1.cPv, fa1.lenP]
  unfold F68_7 F68_8
  refine ⟨fun v H' => ∃ i : Nat, v = .int .i64 i ∧ i ≤ f.parts.length ∧ Ext [] H0 H' ∧ blk H' b4 (wordsC .zero) ∧ (f.parts.take i).findSome? (keepsD line) = none,
    fun v _ => f.parts.length - (iv v).toNat, ⟨0, rfl, by omega, e, k4, by simp⟩, ?_⟩
  rintro v H2 ⟨i, rfl, hi, e2, k2, hnone⟩
  unfold F68_9 F68_15
  simp -implicitDefEqProofs only [Bin_lss_3, q_some]
  unfold F68_10 F68_14
  have fa2 := fa.ext0 e2
  by_cases hlt : i < f.parts.length
  · have hlt' : (i : Int) < f.parts.length := by omega
    simp -implicitDefEqProofs only [hlt', decide_true, condV_bool, if_true]
    have hp : f.parts[i]? = some f.parts[i] := List.getElem?_eq_getElem hlt
    generalize f.parts[i] = p at hp
    obtain ⟨bp, hb⟩ := fa2.bpOf hlt
    obtain ⟨hlb, hbe⟩ := List.getElem?_eq_some_iff.1 hb
    obtain ⟨e', o', hix', hcell'⟩ := fa2.partIx hlb
    rw [hbe] at hcell'
    unfold F68_11 F68_13
    simp -implicitDefEqProofs only [hix', q_some, Ld_some, hcell']
    have wk : IntKind.wrap .i64 ((i : Int) + 1) = ((i + 1 : Nat) : Int) := by rw [w64 (by omega) (by omega)]; simp
    have next : ∀ G, Ext [] H0 G → blk G b4 (wordsC .zero) → keepsD line p = none → F68_12 (at0 bf) (.int .i64 line) (at0 b4) sk.pv (.int .i64 f.parts.length) (.int .i64 i) G (fun m0 m1 m4 m102 m103 m104 H2 => m0 = at0 bf ∧ m1 = .int .i64 line ∧ m4 = at0 b4 ∧ m102 = sk.pv ∧ m103 = .int .i64 f.parts.length ∧ ((∃ i : Nat, m104 = .int .i64 i ∧ i ≤ f.parts.length ∧ Ext [] H0 H2 ∧ blk H2 b4 (wordsC .zero) ∧ (f.parts.take i).findSome? (keepsD line) = none) ∧ f.parts.length - (iv m104).toNat < f.parts.length - (iv (.int .i64 (i : Int))).toNat)) Q := by
      intro G eG kG hno
      unfold F68_12
      simp -implicitDefEqProofs only [Bin_add_3, wk, q_some]
      exact ⟨trivial, trivial, trivial, trivial, trivial, ⟨i + 1, rfl, by omega, eG, kG, findSome_next hnone hp hno⟩, by simp; omega⟩
    refine line_45 (fa2.ptAt hb hp) (by omega) (fun hno => ?_) (fun l bl hsome hil => ?_)
    · simp -implicitDefEqProofs only [Bin_neq_111, Option.isNone_none, Bool.not_true, q_some, condV_bool, Bool.false_eq_true, if_false]
      exact next H2 e2 k2 (by simp [keepsD, hno])
    · obtain ⟨_, kl, _⟩ := (fa2.ptAt hb hp).lone (by omega) hsome hil
      simp -implicitDefEqProofs only [Bin_neq_111, Option.isNone_some, Bool.not_false, q_some, condV_bool, if_true]
      refine Kept_spec kl fun H3 e3 => ?_
      simp -implicitDefEqProofs only [Ex_tuple, List.getElem?_toArray, List.getElem?_cons_zero, List.getElem?_cons_succ, q_some]
      refine New_i fun H4 b17 hb17 e4 s4 k17 => ?_
      refine St_i k17 (by simp [wordsC]) (by simp) (by simp [wordsC]) fun H5 e5 s5 k5 => ?_
      have k5' : blk H5 b17 (wordsC l.data) := by simpa [wrL, wordsC] using k5
      have z2 := e2.size
      have z3 := e3.size
      have E4 : Ext [] H0 H4 := (e2.trans e3).trans e4
      have E5 : Ext [] H0 H5 := E4.fresh e5 (by simp; omega)
      have l4 := k2.lt
      have k45 : blk H5 b4 (wordsC .zero) := ((k2.ext e3 (by simp)).ext e4 (by simp)).ext e5 (by simp; omega)
      cases hk : keptD l with
      | false =>
        simp -implicitDefEqProofs only [condV_bool, Bool.false_eq_true, if_false]
        exact next H5 E5 k45 (by simp [keepsD, hsome, hk])
      | true =>
        simp -implicitDefEqProofs only [condV_bool, if_true, LdA_some, k5'.cells, show (wordsC l.data).size = 4 from rfl, show (wordsC l.data).extract 0 (0 + 4) = wordsC l.data by simp [wordsC], Nat.zero_add, Nat.le_refl, Option.map_some, q_some]
        refine ret_4 k45 fun H6 e6 => ?_
        have := hq H6 (E5.fresh e6 (by simp; omega))
        rw [findSome_take hnone hp (by simp [keepsD, hsome, hk] : keepsD line p = some l.data)] at this
        exact this
  · have hlt' : ¬ (i : Int) < f.parts.length := by omega
    simp -implicitDefEqProofs only [hlt', decide_false, condV_bool, Bool.false_eq_true, if_false]
    rw [List.take_of_length_le (by omega)] at hnone
    unfold F68_5
    obtain ⟨h, hh⟩ : ∃ h, f.homes[line.toNat]? = some h := ⟨_, List.getElem?_eq_getElem (by omega)⟩
    obtain ⟨e', o, b, hix, hcell, hr⟩ := fa2.homeIx hh
    have hih : ((line.toNat : Nat) : Int) = line := by omega
    rw [hih] at hix
    simp -implicitDefEqProofs only [Nz_some, q_some, Fa_some, add_mk, Nat.zero_add, Ld_some, fa2.cHv, hix, hcell]
    obtain ⟨bs, bi, ha, _, _, _⟩ := hr
    refine Data_home ha fun H3 e3 => ?_
    refine ret_4 (k2.ext e3 (by simp)) fun H4 e4 => ?_
    have := hq H4 ((e2.trans e3).fresh e4 (by simp; omega))
    rw [hnone, List.getD_eq_getElem?_getD, hh] at this
    exact this
end
end YtacidjifocfhkaaGreatDoor
end Go.Proofs
namespace Go.Proofs
open Go Go.NW Go.Pm
set_option maxRecDepth 20000
set_option linter.unusedSimpArgs false
set_option linter.unusedVariables false
namespace YtacidjifocfhkaaGreatDoor
section
variable {H0 H : Hp} {col : Nat → Rl} {bf b4 : Nat} {sk : Sk} {f : Fab} {line : Int} {Q : RT1}
def restOf (f : Fab) (line : Int) : Words :=
  let h := f.homes.getD line.toNat (Home.new 0 0 .zero)
  if h.held = true then h.back.data else match f.parts.findSome? (keepsD line) with
    | some d => d
    | none => h.data
theorem held_68 (fa : FabAt H0 col bf sk f) (ok : FabOk f) (hl : 0 ≤ line ∧ line < f.homes.length) (np : f.parts.length ≤ 4) (e : Ext [] H0 H) (k4 : blk H b4 (wordsC .zero)) (h4 : H0.size ≤ b4)
    (hq : ∀ H', Ext [] H0 H' → Q (.agg (wordsC (restOf f line))) H') : F68_3 (at0 bf) (.int .i64 line) (at0 b4) H Q := by
  have fa2 := fa.ext0 e
  unfold F68_3 F68_17
  obtain ⟨h, hh⟩ : ∃ h, f.homes[line.toNat]? = some h := ⟨_, List.getElem?_eq_getElem (by omega)⟩
  have hg : f.homes.getD line.toNat (Home.new 0 0 .zero) = h := by rw [List.getD_eq_getElem?_getD, hh]; rfl
  obtain ⟨e', o, b, hix, hcell, hr⟩ := fa2.homeIx hh
  have hih : ((line.toNat : Nat) : Int) = line := by omega
  rw [hih] at hix
  simp -implicitDefEqProofs only [Nz_some, q_some, Fa_some, add_mk, Nat.zero_add, Ld_some, fa2.cHv, hix, hcell]
  obtain ⟨bs, bi, ha, _, _, _⟩ := hr
  have hlt := (List.getElem?_eq_some_iff.1 hh)
  have hwf := (ok.homes _ hlt.1).wf
  rw [hlt.2] at hwf
  refine Held_spec hwf ha fun H3 e3 => ?_
  simp -implicitDefEqProofs only [Ex_tuple, List.getElem?_toArray, List.getElem?_cons_zero, List.getElem?_cons_succ, q_some]
  refine New_i fun H4 b12 hb12 e4 s4 k12 => ?_
  refine St_i k12 (by simp [wordsC]) (by simp) (by simp [wordsC]) fun H5 e5 s5 k5 => ?_
  have k5' : blk H5 b12 (wordsC h.back.data) := by simpa [wrL, wordsC] using k5
  have z2 := e.size
  have z3 := e3.size
  have E4 : Ext [] H0 H4 := (e.trans e3).trans e4
  have E5 : Ext [] H0 H5 := E4.fresh e5 (by simp; omega)
  have l4 := k4.lt
  have k45 : blk H5 b4 (wordsC .zero) := ((k4.ext e3 (by simp)).ext e4 (by simp)).ext e5 (by simp; omega)
  unfold restOf at hq
  rw [hg] at hq
  simp only [] at hq
  cases hk : h.held with
  | false =>
    simp -implicitDefEqProofs only [condV_bool, Bool.false_eq_true, if_false]
    refine kept_68 fa hl np E5 k45 h4 fun H6 e6 => ?_
    have := hq H6 e6
    rw [hk, if_neg (by simp)] at this
    rw [hg]
    exact this
  | true =>
    simp -implicitDefEqProofs only [condV_bool, if_true, LdA_some, k5'.cells, show (wordsC h.back.data).size = 4 from rfl, show (wordsC h.back.data).extract 0 (0 + 4) = wordsC h.back.data by simp [wordsC], Nat.zero_add, Nat.le_refl, Option.map_some, q_some]
    refine ret_4 k45 fun H6 e6 => ?_
    have := hq H6 (E5.fresh e6 (by simp; omega))
    rw [hk, if_pos rfl] at this
    exact this
theorem flies_68 (fa : FabAt H0 col bf sk f) (ok : FabOk f) (hx : f.net.next ≤ 2 ^ 18) (hl : 0 ≤ line ∧ line < f.homes.length) (e : Ext [] H0 H) (k4 : blk H b4 (wordsC .zero)) (h4 : H0.size ≤ b4)
    (hq : ∀ H', Ext [] H0 H' → Q (.agg (wordsC (match f.net.l.findSome? (fliesD line) with | some d => d | none => restOf f line))) H') : F68_2 (at0 bf) (.int .i64 line) (at0 b4) H Q := by
  have fa2 := fa.ext0 e
  have hnl := ok.nl
  have np := ok.h1
  unfold F68_2 F68_18 F68_22
  simp -implicitDefEqProofs only [Nz_some, q_some, Fa_some, add_mk, Nat.zero_add, Ld_some, fa2.cBn]
  refine All_54 fa2.net (by omega) fun H1 v b e1 hs hb => ?_
  obtain ⟨av, cv, hv, _, _⟩ := hs.shape
  have hll : (flsC f.net.l).length = f.net.l.length := by simp [flsC]
  have hlv : pv Tryz.prog (Builtin.len_ #[38] 0 #[v]) = some (.int .i64 f.net.l.length) := by rw [hv]; simp -implicitDefEqProofs [hll]
  simp -implicitDefEqProofs only [hlv, q_some]
  have E1 := e.trans e1
  have z0 := e.size
  have l4 := k4.lt
  unfold F68_19 F68_20
  refine ⟨fun v56 H' => ∃ i : Nat, v56 = .int .i64 i ∧ i ≤ f.net.l.length ∧ Ext [] H0 H' ∧ Ext [] H1 H' ∧ blk H' b4 (wordsC .zero) ∧ (f.net.l.take i).findSome? (fliesD line) = none,
    fun v56 _ => f.net.l.length - (iv v56).toNat, ⟨0, rfl, by omega, E1, .refl _ _, k4.ext e1 (by simp), by simp⟩, ?_⟩
  rintro v56 H2 ⟨i, rfl, hi, E2, E12, k2, hnone⟩
  unfold F68_21
  simp -implicitDefEqProofs only [Bin_lss_3, q_some, condV_bool]
  by_cases hlt : i < f.net.l.length
  · have hlt' : (i : Int) < f.net.l.length := by omega
    have hs2 := hs.ext E12 (by simp)
    obtain ⟨o, hix, _, hcs⟩ := hs2.at (i := i) (by rw [hll]; exact hlt)
    have hp : f.net.l[i]? = some f.net.l[i] := List.getElem?_eq_getElem hlt
    have hget : ((flsC f.net.l)[i]'(by rw [hll]; exact hlt)).toArray = flightC f.net.l[i] := by simp [flsC]
    rw [hget] at hcs
    generalize f.net.l[i] = x at hp hcs
    simp -implicitDefEqProofs only [hlt', decide_true, if_true, hix, q_some, LdA_some, hcs, Option.map_some]
    refine New_i fun H3 b11 hb11 e3 s3 k11 => ?_
    refine St_i k11 (by rfl) (by simp) (by rfl) fun H4 e4 s4 k44 => ?_
    have k44' : blk H4 b11 (flightC x) := by simpa [wrL, flightC] using k44
    have z2 := E2.size
    have E4 : Ext [] H0 H4 := (E2.trans e3).fresh e4 (by simp; omega)
    have E14 : Ext [] H1 H4 := (E12.trans e3).fresh e4 (by simp; have := E12.size; omega)
    have l42 := k2.lt
    have kb4 : blk H4 b4 (wordsC .zero) := (k2.ext e3 (by simp)).ext e4 (by simp; omega)
    have c : ∀ j, cellAt H4 ⟨b11, j, none⟩ = (flightC x)[j]? := fun j => k44'.cell j
    have wk : IntKind.wrap .i64 ((i : Int) + 1) = ((i + 1 : Nat) : Int) := by rw [w64 (by omega) (by omega)]; simp
    have next : fliesD line x = none → q (Bin Tryz.prog H4 .add 3 true (.int .i64 i) (.int .i64 1)) (fun t85 => (at0 bf : Value) = at0 bf ∧ Value.int .i64 line = Value.int .i64 line ∧ (at0 b4 : Value) = at0 b4 ∧ v = v ∧ Value.int .i64 f.net.l.length = Value.int .i64 f.net.l.length ∧ ((∃ i : Nat, t85 = .int .i64 i ∧ i ≤ f.net.l.length ∧ Ext [] H0 H4 ∧ Ext [] H1 H4 ∧ blk H4 b4 (wordsC .zero) ∧ (f.net.l.take i).findSome? (fliesD line) = none) ∧ f.net.l.length - (iv t85).toNat < f.net.l.length - (iv (.int .i64 (i : Int))).toNat)) := by
      intro hno
      simp -implicitDefEqProofs only [Bin_add_3, wk, q_some]
      exact ⟨trivial, trivial, trivial, trivial, trivial, ⟨i + 1, rfl, by omega, E4, E14, kb4, findSome_next hnone hp hno⟩, by simp; omega⟩
    have c2 : cellAt H4 ⟨b11, 2, none⟩ = some (.int .i64 x.msg.line) := by rw [c]; rfl
    have c10 : cellAt H4 ⟨b11, 10, none⟩ = some (.bool x.msg.dirty) := by rw [c]; rfl
    have c1 : cellAt H4 ⟨b11, 1, none⟩ = some (.int .i64 x.msg.kind) := by rw [c]; rfl
    simp -implicitDefEqProofs only [Fa_some, add_mk, Nat.zero_add, Nat.add_zero, q_some, Ld_some, c2, Bin_eql_3, gd_bool]
    by_cases h1 : x.msg.line = line
    case neg =>
      have h1' : (x.msg.line == line) = false := by simp [h1]
      rw [h1']
      simp -implicitDefEqProofs only [Bool.false_eq_true, if_false, q_some, gd_undef, Pk_bool, gd_bool, condV_bool]
      simpa using next (by simp [fliesD, h1])
    have h1' : (x.msg.line == line) = true := by simp [h1]
    rw [h1']
    simp -implicitDefEqProofs only [if_true, q_some, Fa_some, add_mk, Nat.reduceAdd, Ld_some, c10, Pk_bool, gd_bool]
    cases h2 : x.msg.dirty with
    | false =>
      simp -implicitDefEqProofs only [Bool.false_eq_true, if_false, q_some, gd_undef, Pk_bool, gd_bool, condV_bool]
      simpa using next (by simp [fliesD, h2])
    | true =>
      simp -implicitDefEqProofs only [if_true, q_some, Fa_some, add_mk, Nat.reduceAdd, Nat.add_zero, Ld_some, c1, Bin_eql_3, Pk_bool, gd_bool]
      have found : x.msg.kind = 7 ∨ x.msg.kind = 11 → q (LdA 4 H4 (.pointer (some ⟨b11, 5, none⟩))) (fun t84 => St 4 H4 (at0 b4) t84 (fun H' => q (LdA 4 H' (at0 b4)) fun r => Q r H')) := by
        intro hk
        have hc5 : cellsAt H4 ⟨b11, 5, none⟩ 4 = some (wordsC x.msg.data) := by rw [k44'.cells]; simp [flightC, wordsC]
        simp -implicitDefEqProofs only [LdA_some, hc5, Option.map_some, q_some]
        refine ret_4 kb4 fun H6 e6 => ?_
        have := hq H6 (E4.fresh e6 (by simp; omega))
        rw [findSome_take hnone hp (by simp [fliesD, h1, h2, hk] : fliesD line x = some x.msg.data)] at this
        exact this
      by_cases h7 : x.msg.kind = 7
      · have h7' : (x.msg.kind == 7) = true := by simp [h7]
        rw [h7']
        simp -implicitDefEqProofs only [reduceCtorEq, Bool.true_eq_false, if_false, if_true, q_some, gd_undef, Pk_bool, condV_bool, gd_bool, Fa_some, add_mk, Nat.reduceAdd]
        exact found (.inl h7)
      · have h7' : (x.msg.kind == 7) = false := by simp [h7]
        rw [h7']
        simp -implicitDefEqProofs only [if_true, Fa_some, add_mk, Nat.reduceAdd, Nat.add_zero, q_some, Ld_some, c1, Bin_eql_3, Pk_bool, Bool.false_eq_true, if_false, gd_bool, condV_bool]
        by_cases h11 : x.msg.kind = 11
        · have h11' : (x.msg.kind == 11) = true := by simp [h11]
          rw [h11']
          simp -implicitDefEqProofs only [if_true]
          exact found (.inr h11)
        · have h11' : (x.msg.kind == 11) = false := by simp [h11]
          rw [h11']
          simp -implicitDefEqProofs only [Bool.false_eq_true, if_false]
          simpa using next (by simp [fliesD, h7, h11])
  · have hlt' : ¬ (i : Int) < f.net.l.length := by omega
    simp -implicitDefEqProofs only [hlt', decide_false, Bool.false_eq_true, if_false]
    rw [List.take_of_length_le (by omega)] at hnone
    refine held_68 fa ok hl np E2 k2 h4 fun H6 e6 => ?_
    have := hq H6 e6
    rw [hnone] at this
    exact this
end
end YtacidjifocfhkaaGreatDoor
end Go.Proofs
namespace Go.Proofs
open Go Go.NW Go.Pm
set_option maxRecDepth 20000
set_option linter.unusedSimpArgs false
set_option linter.unusedVariables false
namespace YtacidjifocfhkaaGreatDoor
theorem newestOf_eq (f : Fab) (line : Int) : newestOf f line = match f.parts.findSome? (ownsD line) with
  | some d => d
  | none => match f.net.l.findSome? (fliesD line) with
    | some d => d
    | none => restOf f line := rfl
theorem newest_68 {H : Hp} {col : Nat → Rl} {bf : Nat} {sk : Sk} {f : Fab} {line : Int} {Q : RT1} (fa : FabAt H col bf sk f) (ok : FabOk f) (hx : f.net.next ≤ 2 ^ 18) (hl : 0 ≤ line ∧ line < f.homes.length)
    (hq : ∀ H', Ext [] H H' → Q (.agg (wordsC (newestOf f line))) H') : NCalls Tryz.prog 68 #[at0 bf, .int .i64 line] H Q := by
  refine E68 ?_
  unfold F68_0 F68_28
  refine New_i fun H1 b4 hb4 e1 s1 k4 => ?_
  have k4' : blk H1 b4 (wordsC .zero) := k4
  have fa1 := fa.ext0 e1
  have np := ok.h1
  unfold F68_1 F68_23 F68_27
  simp -implicitDefEqProofs only [Nz_some, q_some, Fa_some, add_mk, Nat.zero_add, Ld_some, fa1.cPv, fa1.lenP]
  unfold F68_24 F68_25
  refine ⟨fun v H' => ∃ i : Nat, v = .int .i64 i ∧ i ≤ f.parts.length ∧ Ext [] H H' ∧ blk H' b4 (wordsC .zero) ∧ (f.parts.take i).findSome? (ownsD line) = none,
    fun v _ => f.parts.length - (iv v).toNat, ⟨0, rfl, by omega, e1, k4', by simp⟩, ?_⟩
  rintro v H2 ⟨i, rfl, hi, e2, k2, hnone⟩
  unfold F68_26
  simp -implicitDefEqProofs only [Bin_lss_3, q_some, condV_bool]
  have fa2 := fa.ext0 e2
  by_cases hlt : i < f.parts.length
  · have hlt' : (i : Int) < f.parts.length := by omega
    have hp : f.parts[i]? = some f.parts[i] := List.getElem?_eq_getElem hlt
    generalize f.parts[i] = p at hp
    obtain ⟨bp, hb⟩ := fa2.bpOf hlt
    obtain ⟨hlb, hbe⟩ := List.getElem?_eq_some_iff.1 hb
    obtain ⟨e', o', hix', hcell'⟩ := fa2.partIx hlb
    rw [hbe] at hcell'
    simp -implicitDefEqProofs only [hlt', decide_true, if_true, hix', q_some, Ld_some, hcell']
    have wk : IntKind.wrap .i64 ((i : Int) + 1) = ((i + 1 : Nat) : Int) := by rw [w64 (by omega) (by omega)]; simp
    refine line_45 (fa2.ptAt hb hp) (by omega) (fun hno => ?_) (fun l bl hsome hil => ?_)
    · simp -implicitDefEqProofs only [Bin_neq_111, Option.isNone_none, Bool.not_true, q_some, gd_bool, gl_bool, gd_undef, Bool.false_eq_true, if_false, Pk_bool, condV_bool, Bin_add_3, wk]
      exact ⟨trivial, trivial, trivial, trivial, trivial, ⟨i + 1, rfl, by omega, e2, k2, findSome_next hnone hp (by simp [ownsD, hno])⟩, by simp; omega⟩
    · obtain ⟨_, kl, _⟩ := (fa2.ptAt hb hp).lone (by omega) hsome hil
      simp -implicitDefEqProofs only [Bin_neq_111, Option.isNone_some, Bool.not_false, q_some, gd_bool, gl_bool, if_true]
      refine State_spec kl ?_
      have found : l.state = 4 ∨ l.state = 3 → NCalls Tryz.prog 56 #[at0 bl] H2 (fun t45 H_89 => q (Ex 0 t45) fun t46 => q (Ex 1 t45) fun t47 => New #[.int .u32 0, .int .u32 0, .int .u32 0, .int .u32 0] 52 H_89 (fun t8 H_92 => St 4 H_92 t8 t46 (fun H_93 => q (LdA 4 H_93 t8) fun t48 => St 4 H_93 (at0 b4) t48 (fun H' => q (LdA 4 H' (at0 b4)) fun r => Q r H')))) := by
        intro hs
        refine Data_spec kl fun H3 e3 => ?_
        have hd : lineD l = (l.data, true) := by unfold lineD; rw [if_neg (by omega)]
        rw [hd]
        simp -implicitDefEqProofs only [Ex_tuple, List.getElem?_toArray, List.getElem?_cons_zero, List.getElem?_cons_succ, q_some]
        refine New_i fun H4 b8 hb8 e4 s4 k8 => ?_
        refine St_i k8 (by simp [wordsC]) (by simp) (by simp [wordsC]) fun H5 e5 s5 k5 => ?_
        have k5' : blk H5 b8 (wordsC l.data) := by simpa [wrL, wordsC] using k5
        have z2 := e2.size
        have z3 := e3.size
        have E4 : Ext [] H H4 := (e2.trans e3).trans e4
        have E5 : Ext [] H H5 := E4.fresh e5 (by simp; omega)
        have l4 := k2.lt
        have k45 : blk H5 b4 (wordsC .zero) := ((k2.ext e3 (by simp)).ext e4 (by simp)).ext e5 (by simp; omega)
        simp -implicitDefEqProofs only [LdA_some, k5'.cells, show (wordsC l.data).size = 4 from rfl, show (wordsC l.data).extract 0 (0 + 4) = wordsC l.data by simp [wordsC], Nat.zero_add, Nat.le_refl, if_true, Option.map_some, q_some]
        refine ret_4 k45 fun H6 e6 => ?_
        have := hq H6 (E5.fresh e6 (by simp; omega))
        rw [newestOf_eq, findSome_take hnone hp (by simp [ownsD, hsome, hs] : ownsD line p = some l.data)] at this
        exact this
      by_cases h4 : l.state = 4
      · have h4' : (l.state == 4) = true := by simp [h4]
        simp -implicitDefEqProofs only [Bin_eql_3, h4', q_some, gd_bool, gl_bool, Bool.true_eq_false, if_false, gd_undef, Pk_bool, if_true, condV_bool]
        exact found (.inl h4)
      · have h4' : (l.state == 4) = false := by simp [h4]
        simp -implicitDefEqProofs only [Bin_eql_3, h4', q_some, gd_bool, gl_bool, if_true]
        refine State_spec kl ?_
        by_cases h3 : l.state = 3
        · have h3' : (l.state == 3) = true := by simp [h3]
          simp -implicitDefEqProofs only [Bin_eql_3, h3', q_some, Pk_bool, Bool.false_eq_true, if_false, if_true, condV_bool]
          exact found (.inr h3)
        · have h3' : (l.state == 3) = false := by simp [h3]
          simp -implicitDefEqProofs only [Bin_eql_3, h3', q_some, Pk_bool, Bool.false_eq_true, if_false, if_true, condV_bool, Bin_add_3, wk]
          exact ⟨trivial, trivial, trivial, trivial, trivial, ⟨i + 1, rfl, by omega, e2, k2, findSome_next hnone hp (by simp [ownsD, hsome, h3, h4])⟩, by simp; omega⟩
  · have hlt' : ¬ (i : Int) < f.parts.length := by omega
    simp -implicitDefEqProofs only [hlt', decide_false, Bool.false_eq_true, if_false]
    rw [List.take_of_length_le (by omega)] at hnone
    refine flies_68 fa ok hx hl e2 k2 (by omega) fun H3 e3 => ?_
    have := hq H3 e3
    rw [newestOf_eq, hnone] at this
    exact this
/-- memory with every line as it was written last -/
def finalB (f : Fab) (bs : List Int) : Nat → List Int
  | 0 => bs
  | k + 1 => setLineL (finalB f bs k) k (newestOf f (k : Nat))
theorem finalB_len (f : Fab) (bs : List Int) : ∀ k, (finalB f bs k).length = bs.length
  | 0 => rfl
  | k + 1 => by rw [finalB, setLineL_len, finalB_len f bs k]
end YtacidjifocfhkaaGreatDoor
end Go.Proofs
namespace Go.Proofs
open Go Go.NW Go.Pm
set_option maxRecDepth 20000
set_option linter.unusedSimpArgs false
set_option linter.unusedVariables false
namespace YtacidjifocfhkaaGreatDoor
theorem newest_u32 {f : Fab} (ok : FabOk f) {line : Int} (hl : 0 ≤ line ∧ line < f.homes.length) : U32s (newestOf f line) := by
  have part : ∀ (g : Int → Part → Option Words), (∀ p d, g line p = some d → ∃ l, p.line line = some l ∧ d = l.data) → ∀ d, f.parts.findSome? (g line) = some d → U32s d := by
    intro g hg d hd
    rw [List.findSome?_eq_some_iff] at hd
    obtain ⟨l1, p, l2, hp, hd, _⟩ := hd
    obtain ⟨l, h1, rfl⟩ := hg p d hd
    have hm : p ∈ f.parts := by rw [hp]; simp
    obtain ⟨i, hi, rfl⟩ := List.getElem_of_mem hm
    exact ((ok.parts i hi).lines _ _ h1 hl.1).2.2
  obtain ⟨h, hh⟩ : ∃ h, f.homes[line.toNat]? = some h := ⟨_, List.getElem?_eq_getElem (by omega)⟩
  have hg : f.homes.getD line.toNat (Home.new 0 0 .zero) = h := by rw [List.getD_eq_getElem?_getD, hh]; rfl
  have hlt := List.getElem?_eq_some_iff.1 hh
  have ho := ok.homes _ hlt.1
  rw [hlt.2] at ho
  rw [newestOf_eq]
  cases h1 : f.parts.findSome? (ownsD line) with
  | some d =>
    exact part ownsD (fun p d hd => by
      unfold ownsD at hd
      split at hd
      · rename_i l hl
        split at hd
        · exact ⟨l, hl, (Option.some.inj hd).symm⟩
        · cases hd
      · cases hd) d h1
  | none =>
    simp only []
    cases h2 : f.net.l.findSome? (fliesD line) with
    | some d =>
      rw [List.findSome?_eq_some_iff] at h2
      obtain ⟨l1, x, l2, hp, hd, _⟩ := h2
      unfold fliesD at hd
      split at hd
      · obtain rfl := Option.some.inj hd
        exact (ok.msgs x (by rw [hp]; simp)).data
      · cases hd
    | none =>
      simp only []
      unfold restOf
      rw [hg]
      simp only []
      split
      · exact ho.back
      · cases h3 : f.parts.findSome? (keepsD line) with
        | none => exact ho.data
        | some d =>
          exact part keepsD (fun p d hd => by
            unfold keepsD at hd
            split at hd
            · rename_i l hl
              split at hd
              · exact ⟨l, hl, (Option.some.inj hd).symm⟩
              · cases hd
            · cases hd) d h3
theorem Final_27 {H : Hp} {col : Nat → Rl} {bf : Nat} {sk : Sk} {f : Fab} {Q : RT1} (fa : FabAt H col bf sk f) (ok : FabOk f) (hx : f.net.next ≤ 2 ^ 18)
    (hq : ∀ H' bm bb bs, Ext [] H H' → MemC H' bm bb (finalB f bs f.homes.length) → bs.length = f.bytes → H.size ≤ bm → H.size ≤ bb → Q (at0 bm) H') : NCalls Tryz.prog 27 #[at0 bf] H Q := by
  refine E27 ?_
  unfold F27_0 F27_10 F27_1 F27_9
  simp -implicitDefEqProofs only [Nz_some, q_some, Fa_some, add_mk, Nat.zero_add, Ld_some, fa.cBm]
  obtain ⟨bs, mc, hbl⟩ := fa.mem
  have hbytes := ok.bytes
  have hn1 := ok.n1
  refine Clone_39 mc fun H1 bm bb e1 m1 g1 g2 => ?_
  have fa1 := fa.ext0 e1
  unfold F27_2 F27_4 F27_8
  simp -implicitDefEqProofs only [Nz_some, q_some, Fa_some, add_mk, Nat.zero_add, Ld_some, fa1.cHv, fa1.lenH]
  unfold F27_5 F27_6
  refine ⟨fun v H' => ∃ k : Nat, v = .int .i64 k ∧ k ≤ f.homes.length ∧ Ext [] H H' ∧ MemC H' bm bb (finalB f bs k),
    fun v _ => f.homes.length - (iv v).toNat, ⟨0, rfl, by omega, e1, m1⟩, ?_⟩
  rintro v H2 ⟨k, rfl, hk, e2, m2⟩
  unfold F27_7
  simp -implicitDefEqProofs only [Bin_lss_3, q_some, condV_bool]
  have fa2 := fa.ext0 e2
  by_cases hlt : k < f.homes.length
  · have hlt' : (k : Int) < f.homes.length := by omega
    simp -implicitDefEqProofs only [hlt', decide_true, if_true]
    refine newest_68 fa2 ok hx ⟨by omega, hlt'⟩ fun H3 e3 => ?_
    have m3 : MemC H3 bm bb (finalB f bs k) := m2.ext e3 (by simp) (by simp)
    refine SetLine_67 m3 (by rw [finalB_len]; omega) (newest_u32 ok ⟨by omega, hlt'⟩) fun H4 e4 m4 => ?_
    have wk : IntKind.wrap .i64 ((k : Int) + 1) = ((k + 1 : Nat) : Int) := by rw [w64 (by omega) (by omega)]; simp
    simp -implicitDefEqProofs only [Bin_add_3, wk, q_some]
    exact ⟨trivial, trivial, trivial, ⟨k + 1, rfl, by omega, (e2.trans e3).fresh e4 (by simp; omega), m4⟩, by simp; omega⟩
  · have hlt' : ¬ (k : Int) < f.homes.length := by omega
    have hkn : k = f.homes.length := by omega
    subst hkn
    simp -implicitDefEqProofs only [hlt', decide_false, Bool.false_eq_true, if_false]
    unfold F27_3
    exact hq H2 bm bb bs e2 m2 hbl g1 g2
end YtacidjifocfhkaaGreatDoor
end Go.Proofs
namespace Go.Proofs
open Go Go.NW Go.Pm
set_option maxRecDepth 20000
set_option linter.unusedSimpArgs false
set_option linter.unusedVariables false
namespace YtacidjifocfhkaaGreatDoor
theorem lineOf_set {bs : List Int} {i : Nat} {w : Words} (h : 16 * i + 16 ≤ bs.length) (hw : U32s w) : lineOf (setLineL bs i w) i = w := by
  obtain ⟨a, b, c, d⟩ := hw
  unfold lineOf setLineL
  have l1 := putL_len bs (16 * i) w.a 4
  have l2 := putL_len (putL bs (16 * i) w.a 4) (16 * i + 4) w.b 4
  have l3 := putL_len (putL (putL bs (16 * i) w.a 4) (16 * i + 4) w.b 4) (16 * i + 8) w.c 4
  rw [getL_putL_ne (by omega) (by omega), getL_putL_ne (by omega) (by omega), getL_putL_ne (by omega) (by omega), getL_putL4 (by omega) a,
    getL_putL_ne (by omega) (by omega), getL_putL_ne (by omega) (by omega), getL_putL4 (by omega) b,
    getL_putL_ne (by omega) (by omega), getL_putL4 (by omega) c, getL_putL4 (by omega) d]
theorem lineOf_set_ne {bs : List Int} {i j : Nat} {w : Words} (h : 16 * i + 16 ≤ bs.length) (hne : i ≠ j) : lineOf (setLineL bs i w) j = lineOf bs j := by
  unfold lineOf setLineL
  have l1 := putL_len bs (16 * i) w.a 4
  have l2 := putL_len (putL bs (16 * i) w.a 4) (16 * i + 4) w.b 4
  have l3 := putL_len (putL (putL bs (16 * i) w.a 4) (16 * i + 4) w.b 4) (16 * i + 8) w.c 4
  have g : ∀ o, (o = 16 * j ∨ o = 16 * j + 4 ∨ o = 16 * j + 8 ∨ o = 16 * j + 12) → getL (putL (putL (putL (putL bs (16 * i) w.a 4) (16 * i + 4) w.b 4) (16 * i + 8) w.c 4) (16 * i + 12) w.d 4) o 4 = getL bs o 4 := by
    intro o ho
    rw [getL_putL_ne (by omega) (by omega), getL_putL_ne (by omega) (by omega), getL_putL_ne (by omega) (by omega), getL_putL_ne (by omega) (by omega)]
  rw [g _ (by omega), g _ (by omega), g _ (by omega), g _ (by omega)]
theorem lineOf_final {f : Fab} (ok : FabOk f) {bs : List Int} (hb : bs.length = f.bytes) {i : Nat} : ∀ k, i < k → k ≤ f.homes.length → lineOf (finalB f bs k) i = newestOf f i
  | 0, h, _ => by omega
  | k + 1, h, hk => by
    have hbytes := ok.bytes
    have hlen := finalB_len f bs k
    rw [finalB]
    by_cases c : k = i
    · subst c
      exact lineOf_set (by omega) (newest_u32 ok ⟨by omega, by omega⟩)
    · rw [lineOf_set_ne (by omega) c]
      exact lineOf_final ok hb k (by omega) (by omega)
end YtacidjifocfhkaaGreatDoor
end Go.Proofs
namespace Go.Pm
set_option linter.unusedSimpArgs false
set_option linter.unusedVariables false
set_option linter.unusedSectionVars false
namespace Alone
variable (H S W R : Nat) (data : List Words) (h line : Nat) (w : Bool)
def kd : Int := if w then 2 else 1
def lone1 : Lone := { line := line, hart := h, waits := kd w }
def lone2 : Lone := { line := line, hart := h, state := 2, data := data.getD line .zero }
def part1 (l : Lone) : Part := { cache := (Cache.new S W).put { line := line, state := 1 }, lines := (List.replicate data.length none).set line (some l) }
def parts1 (l : Lone) : List Part := (List.replicate H ({ cache := Cache.new S W, lines := List.replicate data.length none } : Part)).set h (part1 S W data line l)
def home1 (busy : Bool) : Home := { line := line, harts := H, data := data.getD line .zero, owner := h, sharers := List.replicate H false, busy := busy, serves := h, by_ := kd w, inv := List.replicate H false }
def homes1 (busy : Bool) : List Home := (data.mapIdx fun i d => Home.new i H d).set line (home1 H data h line w busy)
def m0 : Msg := { kind := kd w, line := line, frm := h, to := -1 }
def m1 : Msg := { kind := 7, line := line, frm := -1, to := h, data := data.getD line .zero, has := true, alone := true }
def m2 : Msg := { kind := 12, line := line, frm := h, to := -1 }
def f1 : Fab := { bytes := 16 * data.length, parts := parts1 H S W data h line (lone1 h line w), net := { harts := H, room := R, next := 1, l := [⟨0, m0 h line w⟩] }, homes := data.mapIdx fun i d => Home.new i H d }
def f2 : Fab := { bytes := 16 * data.length, parts := parts1 H S W data h line (lone1 h line w), net := { harts := H, room := R, next := 2, l := [⟨1, m1 data h line⟩] }, homes := homes1 H data h line w true }
def f3 : Fab := { bytes := 16 * data.length, parts := parts1 H S W data h line (lone2 data h line), net := { harts := H, room := R, next := 3, l := [⟨2, m2 h line⟩] }, homes := homes1 H data h line w true }
def f4 : Fab := { bytes := 16 * data.length, parts := parts1 H S W data h line (lone2 data h line), net := { harts := H, room := R, next := 3, l := [] }, homes := homes1 H data h line w false }
variable {H S W R : Nat} {data : List Words} {h line : Nat} {w : Bool} (hh : h < H) (hl : line < data.length) (hw : 1 ≤ W) (hr : 1 ≤ R)
theorem aloneF (r : Int) : ∀ (n i : Nat), Home.aloneFrom r (List.replicate n false) i = true
  | 0, _ => rfl
  | n + 1, i => by rw [List.replicate_succ, Home.aloneFrom, aloneF r n]; rfl
theorem invF (r : Int) : ∀ (n i : Nat), Home.invFrom r (List.replicate n false) (List.replicate n false) i = List.replicate n false
  | 0, _ => rfl
  | n + 1, i => by rw [List.replicate_succ, Home.invFrom, invF r n]; simp
theorem askF {g : Home} (hg : g.asked = -1) : ∀ (n i : Nat), Home.askL g (List.replicate n false) i = []
  | 0, _ => rfl
  | n + 1, i => by
    rw [List.replicate_succ, Home.askL, askF hg n, hg]
    have : ¬ ((-1 : Int) = (i : Int)) := by omega
    simp [this]
theorem setF (n k : Nat) : (List.replicate n false).set k false = List.replicate n false := by
  apply List.ext_getElem?
  intro i
  rw [List.getElem?_set]
  split
  · rename_i e; subst e
    simp only [List.length_replicate, List.getElem?_replicate]
  · rfl
include hh hl hw hr
omit hw hr in
theorem there : (Fab.new H S W R data).there h line = true := by
  simp [Fab.there, Fab.new]
  omega
theorem ask_eq : (Fab.new H S W R data).ask h line w = (f1 H S W R data h line w, true) := by
  have ht := there (S := S) (W := W) (R := R) hh hl
  have hp : (Fab.new H S W R data).part h = { cache := Cache.new S W, lines := List.replicate data.length none } := by
    simp [Fab.part, Fab.new, List.getD_eq_getElem?_getD, hh]
  have hn : (Part.line { cache := Cache.new S W, lines := List.replicate data.length none } (line : Int)) = none := by
    simp [Part.line, List.getD_eq_getElem?_getD, hl]
  have hc : (Part.count { cache := Cache.new S W, lines := List.replicate data.length none }) = 0 := by
    simp [Part.count]
  have hroom : (Cache.new S W).room line = true := by
    have : (Cache.new S W).row line = [] := by
      simp only [Cache.row, Cache.new, List.getD_eq_getElem?_getD, List.getElem?_replicate]
      split <;> rfl
    have h2 : decide (([] : List Entry).length < (Cache.new S W).ways) = true := decide_eq_true (by show 0 < W; omega)
    unfold Cache.room
    rw [this, h2]
    simp
  unfold Fab.ask
  simp only [ht, hp]
  simp only [hn, hc, Part.fit, hroom]
  simp only [if_true, hn, Option.getD_none]
  have hr0 : 0 < R := by omega
  cases w <;>
  simp [hr0, Lone.ask, Lone.can, Lone.msg, Net.send, Net.sendL, Net.may, classOf, Net.link, Net.used, Fab.new, hh, Fab.setPart, f1, parts1, part1, lone1, m0, kd, Part.setLine]
theorem home_take : (Home.new line H (data.getD line .zero)).takes (m0 h line w) = true ∧ (Home.new line H (data.getD line .zero)).take (m0 h line w) = (home1 H data h line w true, [m1 data h line]) := by
  have hi : (h : Int) < H := by omega
  have t : (Home.new line H (data.getD line .zero)).takes (m0 h line w) = true := by
    cases w <;> simp [Home.takes, m0, kd, Home.new, hh]
  refine ⟨t, ?_⟩
  unfold Home.take
  rw [t]
  cases w
  · simp [m0, kd, Home.new, Home.share, aloneF, home1, setF, Home.hand, Home.to, m1]
  · simp [m0, kd, Home.new, Home.own, invF, home1, Home.owned, Home.hand, Home.to, m1, Home.waits, Msg.zero]
    rw [askF (by rfl)]
omit hh hl hw hr in
theorem setPart_part {f : Fab} {p : Part} (hi : h < f.parts.length) : (f.setPart h p).part h = p := by
  simp [Fab.part, Fab.setPart, List.getD_eq_getElem?_getD, List.getElem?_set, hi]
end Alone
end Go.Pm
namespace Go.Pm
set_option linter.unusedSimpArgs false
set_option linter.unusedVariables false
set_option linter.unusedSectionVars false
namespace Turns
/-- who has the line -/
def own? (o : Option Nat) : Int := match o with | some k => k | none => -1
structure HasIt (W i : Nat) (v : Int) (st : Int) (p : Part) : Prop where
  ex : ∃ l e, p.lines = [some l, none, none, none] ∧ p.cache = { ways := W, sets := [[e]] } ∧ e.line = 0 ∧ l.line = 0 ∧ l.hart = i ∧ l.state = st ∧ l.waits = 0 ∧ l.data.b = v
structure HasNot (W i : Nat) (p : Part) : Prop where
  ex : ∃ x, p.lines = [x, none, none, none] ∧ p.cache = { ways := W, sets := [[]] } ∧ ∀ l, x = some l → l.line = 0 ∧ l.hart = i ∧ l.state = 0 ∧ l.waits = 0
structure HomeIs (n : Nat) (o : Option Nat) (v : Int) (h : Home) : Prop where
  line : h.line = 0
  harts : h.harts = n
  busy : h.busy = false
  asked : h.asked = -1
  sh : h.sharers = List.replicate n false
  inv : h.inv = List.replicate n false
  ow : h.owner = own? o
  data : o = none → h.data.b = v
structure Is (W n : Nat) (o : Option Nat) (v st : Int) (f : Fab) : Prop where
  bytes : f.bytes = 64
  pn : f.parts.length = n
  hn : f.homes.length = 4
  nh : f.net.harts = n
  nr : 1 ≤ f.net.room
  nl : f.net.l = []
  home : ∃ h, f.homes[0]? = some h ∧ HomeIs n o v h
  ow : ∀ k, o = some k → k < n
  has : ∀ i p, f.parts[i]? = some p → if o = some i then HasIt W i v st p else HasNot W i p
variable {W n k h : Nat} {v : Int}
theorem askL_one {g : Home} {n0 a : Nat} (ha : g.asked = (a : Int)) : ∀ (n i : Nat), Home.askL g (List.replicate n false) i = if i ≤ a ∧ a < i + n then [g.to a 6] else []
  | 0, i => by rw [if_neg (by omega)]; rfl
  | n + 1, i => by
    rw [List.replicate_succ, Home.askL, askL_one (n0 := n0) ha n, ha]
    by_cases c : a = i
    · subst c
      have h1 : ¬ (a + 1 ≤ a ∧ a < a + 1 + n) := by omega
      have h2 : a ≤ a ∧ a < a + (n + 1) := by omega
      rw [if_neg h1, if_pos h2]
      simp
    · have h0 : ¬ ((a : Int) = (i : Int)) := by omega
      rw [if_neg h0]
      by_cases c2 : i ≤ a ∧ a < i + (n + 1)
      · have h1 : i + 1 ≤ a ∧ a < i + 1 + n := by omega
        rw [if_pos h1, if_pos c2]; simp
      · have h1 : ¬ (i + 1 ≤ a ∧ a < i + 1 + n) := by omega
        rw [if_neg h1, if_neg c2]; simp
def asking (h : Nat) (x : Option Lone) : Lone := { x.getD { line := 0, hart := h } with waits := 2 }
structure Asked (W n : Nat) (o : Option Nat) (v : Int) (h : Nat) (f g : Fab) (P : List Part) (k : Nat) (l1 : Lone) (e : Entry) : Prop where
  g : g = { f with parts := P, net := { f.net with next := f.net.next + 1, l := [⟨f.net.next, { kind := 2, line := 0, frm := h, to := -1 }⟩] } }
  P : P = f.parts.set h { cache := { ways := W, sets := [[e]] }, lines := [some l1, none, none, none], lost := (f.part h).lost }
  e : e.line = 0
  l : l1.line = 0 ∧ l1.hart = h ∧ l1.state = 0 ∧ l1.waits = 2
theorem Is.there {o : Option Nat} {st : Int} {f : Fab} (s : Is W n o v st f) (hh : h < n) : f.there h 0 = true := by
  have := s.pn; have := s.hn
  simp [Fab.there]; omega
theorem Is.part {o : Option Nat} {st : Int} {f : Fab} (s : Is W n o v st f) (hh : h < n) : f.parts[h]? = some (f.part h) := by
  have := s.pn
  have hp : f.parts[h]? = some f.parts[h] := List.getElem?_eq_getElem (by omega)
  rw [hp]; simp [Fab.part, List.getD_eq_getElem?_getD, hp]
/-- who has it, asks in vain -/
theorem ask_has {st : Int} {f : Fab} (s : Is W n (some h) v st f) (hst : st = 2 ∨ st = 4) : f.ask h 0 true = (f, false) := by
  have hh := s.ow h rfl
  have hp := s.has h _ (s.part hh)
  rw [if_pos rfl] at hp
  obtain ⟨l, e, h1, h2, h3, h4, h5, h6, h7, h8⟩ := hp.ex
  unfold Fab.ask
  rw [s.there hh]
  have hl : (f.part h).line 0 = some l := by simp [Part.line, h1]
  simp only [hl]
  rcases hst with rfl | rfl <;> simp [Lone.can, h6, h7]
theorem ask_not {o : Option Nat} {st : Int} {f : Fab} (s : Is W n o v st f) (hh : h < n) (ho : o ≠ some h) (hw : 1 ≤ W) : ∃ g P l1 e, f.ask h 0 true = (g, true) ∧ Asked W n o v h f g P 0 l1 e := by
  have hp := s.has h _ (s.part hh)
  rw [if_neg ho] at hp
  obtain ⟨x, h1, h2, h3⟩ := hp.ex
  have hl : (f.part h).line 0 = x := by simp [Part.line, h1]
  have hcnt : (f.part h).count = 0 := by
    unfold Part.count
    rw [h1]
    cases x with
    | none => rfl
    | some l => simp [h3 l rfl]
  have hroom : (f.part h).cache.room 0 = true := by
    rw [h2]
    have : 0 < W := by omega
    simp [Cache.room, Cache.at?, Cache.row, Cache.idx, this]
  refine ⟨_, _, asking h x, { line := 0, state := 1 }, ?_, ⟨rfl, rfl, rfl, ?_⟩⟩
  · have hnh := s.nh
    have hnl := s.nl
    have hnr := s.nr
    unfold Fab.ask
    rw [s.there hh]
    simp only [hl, hcnt, Part.fit, hroom]
    have hr0 : 0 < f.net.room := by omega
    have hput : (f.part h).cache.put { line := 0, state := 1 } = { ways := W, sets := [[{ line := 0, state := 1 }]] } := by
      rw [h2]
      have hw0 : ¬ W ≤ 0 := by omega
      have hw1 : ¬ W = 0 := by omega
      simp [Cache.put, Cache.at?, Cache.row, Cache.idx, Cache.setRow, Cache.last, hw0, hw1]
    have hset : ∀ l1, (f.part h).setLine 0 l1 = { cache := (f.part h).cache, lines := [some l1, none, none, none], lost := (f.part h).lost } := by
      intro l1
      unfold Part.setLine
      rw [h1]; rfl
    have hone : ∀ l1 : Lone, l1.line = 0 → l1.hart = h → f.net.send [l1.msg 2] = { f.net with next := f.net.next + 1, l := [⟨f.net.next, { kind := 2, line := 0, frm := h, to := -1 }⟩] } := by
      intro l1 a b
      simp [Net.send, Net.sendL, Net.may, classOf, Net.link, Net.used, Lone.msg, a, b, hnh, hnl, hh, hr0]
    cases x with
    | none =>
      simp only [if_true, hl, Option.getD_none, hset]
      rw [show (Lone.ask { line := 0, hart := (h : Int) } true) = (asking h none, [Lone.msg { line := 0, hart := (h : Int) } 2], true) by simp [Lone.ask, Lone.can, asking]]
      simp only [if_true, hone { line := 0, hart := (h : Int) } rfl rfl]
      simp [Fab.setPart, hput]
    | some l =>
      obtain ⟨q1, q2, q3, q4⟩ := h3 l rfl
      have hcan : l.can true = false := by simp [Lone.can, q3, q4]
      have q4' : (l.waits != 0) = false := by simp [q4]
      simp only [hcan, q4', Bool.or_self, Bool.false_eq_true, if_false]
      simp only [if_true, hl, Option.getD_some, hset]
      rw [show l.ask true = (asking h (some l), [l.msg 2], true) by simp [Lone.ask, hcan, q4, asking]]
      simp only [if_true, hone l q1 q2]
      simp [Fab.setPart, hput]
  · cases x with
    | none => exact ⟨rfl, rfl, rfl, rfl⟩
    | some l => obtain ⟨a, b, c, d⟩ := h3 l rfl; exact ⟨a, b, c, rfl⟩
theorem send_one {net : Net} {id : Int} {m m' : Msg} (hl : net.l = [⟨id, m⟩]) (hr : 1 ≤ net.room) (hc : classOf m'.kind ≠ -1) (hk : net.link m'.frm m'.to (classOf m'.kind) = true) (h0 : 0 ≤ m'.line)
    (hne : (m.frm == m'.frm && m.to == m'.to && classOf m.kind == classOf m'.kind) = false) :
    (net.take id).send [m'] = { net with next := net.next + 1, l := [⟨net.next, m'⟩] } ∧ net.fits [m'] = true := by
  have ht : net.take id = { net with l := [] } := by
    unfold Net.take Net.at?
    rw [hl]
    simp
  have hr0 : 0 < net.room := by omega
  have hk' : ({ net with l := [] } : Net).link m'.frm m'.to (classOf m'.kind) = true := hk
  constructor
  · rw [ht]
    simp [Net.send, Net.sendL, Net.may, Net.used, hc, hk', h0, hr0]
  · unfold Net.fits Net.free
    have hu : Net.used net.l m'.frm m'.to (classOf m'.kind) = 0 := by
      unfold Net.used
      rw [hl, List.countP_cons, List.countP_nil]
      simp only [hne]
      rfl
    simp [hk, hu]
    omega
theorem head_one {f : Fab} {id : Int} {m : Msg} (hl : f.net.l = [⟨id, m⟩]) : f.net.head id = some m := by
  unfold Net.head Net.at?
  rw [hl]; simp
theorem home_step {f : Fab} {id : Int} {m m' : Msg} {hm hm' : Home} (hl : f.net.l = [⟨id, m⟩]) (h1 : m.line = 0) (h2 : m.to = -1) (hn : f.homes.length = 4) (hh : f.homes[0]? = some hm) (ht : hm.takes m = true) (hk : hm.take m = (hm', [m']))
    (hs : (f.net.take id).send [m'] = { f.net with next := f.net.next + 1, l := [⟨f.net.next, m'⟩] } ∧ f.net.fits [m'] = true) :
    f.deliver? id = some { f with homes := f.homes.set 0 hm', net := { f.net with next := f.net.next + 1, l := [⟨f.net.next, m'⟩] } } := by
  unfold Fab.deliver?
  rw [head_one hl]
  have c1 : ¬ (m.line ≥ f.homes.length) := by rw [h1, hn]; omega
  simp only [c1, if_false, h2, show (-1 : Int) < 0 by omega, if_true]
  unfold Fab.atHome
  have hg : f.homes.getD m.line.toNat (Home.new 0 0 .zero) = hm := by rw [h1, List.getD_eq_getElem?_getD]; simp [hh]
  simp only [hg]
  rw [ht, hk]
  simp only [Bool.not_true, Bool.false_eq_true, if_false]
  rw [hs.2, hs.1, h1]
  rfl
theorem home_step0 {f : Fab} {id : Int} {m : Msg} {hm hm' : Home} (hl : f.net.l = [⟨id, m⟩]) (h1 : m.line = 0) (h2 : m.to = -1) (hn : f.homes.length = 4) (hh : f.homes[0]? = some hm) (ht : hm.takes m = true) (hk : hm.take m = (hm', [])) :
    f.deliver? id = some { f with homes := f.homes.set 0 hm', net := { f.net with l := [] } } := by
  unfold Fab.deliver?
  rw [head_one hl]
  have c1 : ¬ (m.line ≥ f.homes.length) := by rw [h1, hn]; omega
  simp only [c1, if_false, h2, show (-1 : Int) < 0 by omega, if_true]
  unfold Fab.atHome
  have hg : f.homes.getD m.line.toNat (Home.new 0 0 .zero) = hm := by rw [h1, List.getD_eq_getElem?_getD]; simp [hh]
  simp only [hg]
  rw [ht, hk]
  have h3 : f.net.fits [] = true := rfl
  have h4 : (f.net.take id).send [] = { f.net with l := [] } := by
    unfold Net.take Net.at?
    rw [hl]
    simp [Net.send, Net.sendL]
  simp only [Bool.not_true, Bool.false_eq_true, if_false]
  rw [h3, h4, h1]
  rfl
theorem hart_step {f : Fab} {id : Int} {m m' : Msg} {p : Part} {l l' : Lone} {h : Nat} {b : Bool} (hl : f.net.l = [⟨id, m⟩]) (h1 : m.line = 0) (h2 : m.to = h) (hn : f.homes.length = 4) (hp : f.parts[h]? = some p) (hline : p.line 0 = some l) (ht : l.takes m = true) (hk : l.take m = (l', [m'], b))
    (hs : (f.net.take id).send [m'] = { f.net with next := f.net.next + 1, l := [⟨f.net.next, m'⟩] } ∧ f.net.fits [m'] = true) :
    f.deliver? id = some { f with net := { f.net with next := f.net.next + 1, l := [⟨f.net.next, m'⟩] }, parts := f.parts.set h (
      let p1 := p.setLine 0 l'
      let p2 := if b then p1.lose 0 else p1
      if l'.state = 0 ∧ l'.waits = 0 then { p2 with cache := p2.cache.drop 0 } else p2) } := by
  unfold Fab.deliver?
  rw [head_one hl]
  have c1 : ¬ (m.line ≥ f.homes.length) := by rw [h1, hn]; omega
  have c2 : ¬ ((h : Int) < 0) := by omega
  simp only [c1, if_false, h2, c2]
  unfold Fab.atHart
  have hg : f.part m.to = p := by rw [h2]; simp [Fab.part, List.getD_eq_getElem?_getD, hp]
  simp only [hg, h1, hline, Option.getD_some]
  rw [ht, hk]
  simp only [Bool.not_true, Bool.false_eq_true, if_false]
  rw [hs.2, hs.1]
  simp [Fab.setPart, h2]
theorem hart_keep {f : Fab} {id : Int} {m m' : Msg} {p : Part} {l l' : Lone} {h : Nat} (hl : f.net.l = [⟨id, m⟩]) (h1 : m.line = 0) (h2 : m.to = h) (hn : f.homes.length = 4) (hp : f.parts[h]? = some p) (hline : p.line 0 = some l) (ht : l.takes m = true) (hk : l.take m = (l', [m'], false)) (hz : l'.state ≠ 0)
    (hs : (f.net.take id).send [m'] = { f.net with next := f.net.next + 1, l := [⟨f.net.next, m'⟩] } ∧ f.net.fits [m'] = true) :
    f.deliver? id = some { f with net := { f.net with next := f.net.next + 1, l := [⟨f.net.next, m'⟩] }, parts := f.parts.set h (p.setLine 0 l') } := by
  rw [hart_step hl h1 h2 hn hp hline ht hk hs]
  simp [hz]
theorem settle_step {f g : Fab} {id : Int} {m : Msg} {N : Nat} (hl : f.net.l = [⟨id, m⟩]) (hd : f.deliver? id = some g) : f.settle (N + 1) = g.settle N := by
  have hs : f.step = some g := by unfold Fab.step; rw [hl]; simp [hd]
  rw [Fab.settle, if_neg (by rw [hl]; simp), hs]
def hm (n : Nat) (d : Words) (ow : Int) (busy : Bool) (sv by_ asked : Int) (bk : Msg) : Home := { line := 0, harts := n, data := d, owner := ow, sharers := List.replicate n false, busy := busy, serves := sv, by_ := by_, asked := asked, inv := List.replicate n false, back := bk }
theorem hm_of {o : Option Nat} {g : Home} (i : HomeIs n o v g) : g = hm n g.data (own? o) false g.serves g.by_ (-1) g.back := by
  obtain ⟨a, b, c, d, e, f, g1, _⟩ := i
  cases g
  simp at a b c d e f g1
  subst a; subst b; subst c; subst d; subst e; subst f; subst g1
  rfl
theorem hm_is {o : Option Nat} {d : Words} {sv by_ : Int} {bk : Msg} (hv : o = none → d.b = v) : HomeIs n o v (hm n d (own? o) false sv by_ (-1) bk) := ⟨rfl, rfl, rfl, rfl, rfl, rfl, rfl, hv⟩
def mAsk (h : Nat) : Msg := { kind := 2, line := 0, frm := h, to := -1 }
def mGive (h : Nat) (d : Words) (dirty : Bool) : Msg := { kind := 7, line := 0, frm := -1, to := h, data := d, has := true, dirty := dirty, alone := true }
def mLose (k : Nat) : Msg := { kind := 6, line := 0, frm := -1, to := k }
def mBack (k : Nat) (d : Words) : Msg := { kind := 11, line := 0, frm := k, to := -1, data := d, has := true, dirty := true }
def mDone (h : Nat) : Msg := { kind := 12, line := 0, frm := h, to := -1 }
theorem home_none {d : Words} {sv by_ : Int} {bk : Msg} (hh : h < n) : (hm n d (-1) false sv by_ (-1) bk).takes (mAsk h) = true ∧ (hm n d (-1) false sv by_ (-1) bk).take (mAsk h) = (hm n d h true h 2 (-1) .zero, [mGive h d false]) := by
  have t : (hm n d (-1) false sv by_ (-1) bk).takes (mAsk h) = true := by simp [Home.takes, hm, mAsk, hh]
  refine ⟨t, ?_⟩
  unfold Home.take
  rw [t]
  simp [mAsk, hm, Home.own, Alone.invF, Home.owned, Home.hand, Home.to, mGive, Home.waits, Msg.zero]
  rw [Alone.askF (by rfl)]
theorem home_some {d : Words} {sv by_ : Int} {bk : Msg} (hh : h < n) (hk : k < n) (hne : k ≠ h) : (hm n d k false sv by_ (-1) bk).takes (mAsk h) = true ∧ (hm n d k false sv by_ (-1) bk).take (mAsk h) = (hm n d k true h 2 k .zero, [mLose k]) := by
  have t : (hm n d k false sv by_ (-1) bk).takes (mAsk h) = true := by simp [Home.takes, hm, mAsk, hh]
  refine ⟨t, ?_⟩
  unfold Home.take
  rw [t]
  have c1 : ¬ ((k : Int) = -1) := by omega
  have c2 : ¬ ((k : Int) = (h : Int)) := by omega
  simp [mAsk, hm, Home.own, Alone.invF, c1, c2]
  rw [askL_one (a := k) (n0 := 0) (by rfl)]
  simp [hk, Home.to, mLose]
theorem home_back {d dl : Words} (hh : h < n) (hk : k < n) (hne : k ≠ h) : (hm n d k true h 2 k .zero).takes (mBack k dl) = true ∧ (hm n d k true h 2 k .zero).take (mBack k dl) = (hm n d h true h 2 (-1) (mBack k dl), [mGive h dl true]) := by
  have t : (hm n d k true h 2 k .zero).takes (mBack k dl) = true := by simp [Home.takes, hm, mBack, hk]
  refine ⟨t, ?_⟩
  unfold Home.take
  rw [t]
  have c2 : ¬ ((k : Int) = (h : Int)) := by omega
  simp [mBack, hm, Home.owned, Home.waits, Home.hand, Home.to, mGive, c2]
theorem home_done {d : Words} {bk : Msg} (hh : h < n) : (hm n d h true h 2 (-1) bk).takes (mDone h) = true ∧ (hm n d h true h 2 (-1) bk).take (mDone h) = (hm n d h false h 2 (-1) bk, []) := by
  have t : (hm n d h true h 2 (-1) bk).takes (mDone h) = true := by simp [Home.takes, hm, mDone, hh, Home.waits]
  refine ⟨t, ?_⟩
  unfold Home.take
  rw [t]
  simp [mDone, hm]
theorem hart_give {l : Lone} {d : Words} {b : Bool} (h1 : l.line = 0) (h2 : l.hart = h) (h3 : l.state = 0) (h4 : l.waits = 2) : l.takes (mGive h d b) = true ∧ l.take (mGive h d b) = ({ l with data := d, waits := 0, state := if b then 4 else 2 }, [mDone h], false) := by
  have t : l.takes (mGive h d b) = true := by simp [Lone.takes, mGive, h1, h2, h4]
  refine ⟨t, ?_⟩
  unfold Lone.take
  rw [t]
  cases b <;> simp [Lone.take1, mGive, h1, h2, h3, h4, Lone.msg, mDone]
theorem hart_lose {l : Lone} (h1 : l.line = 0) (h2 : l.hart = k) (h3 : l.state = 4) (h4 : l.waits = 0) : l.takes (mLose k) = true ∧ l.take (mLose k) = ({ l with state := 0 }, [mBack k l.data], true) := by
  have t : l.takes (mLose k) = true := by simp [Lone.takes, mLose, h1, h2]
  refine ⟨t, ?_⟩
  unfold Lone.take
  rw [t]
  simp [Lone.take1, mLose, Lone.lose, Lone.held, Lone.setHeld, h1, h2, h3, h4, Lone.withD, Lone.msg, mBack, Lone.dirty]
theorem hasIt_part {st : Int} {l : Lone} {e : Entry} {lo : List Int} (h1 : l.line = 0) (h2 : l.hart = h) (h3 : l.state = st) (h4 : l.waits = 0) (h5 : l.data.b = v) (he : e.line = 0) : HasIt W h v st { cache := { ways := W, sets := [[e]] }, lines := [some l, none, none, none], lost := lo } :=
  ⟨l, e, rfl, rfl, he, h1, h2, h3, h4, h5⟩
theorem settled_none {st : Int} {f : Fab} (s : Is W n none v st f) (hh : h < n) (hw : 1 ≤ W) :
    ∃ g, (f.ask h 0 true).2 = true ∧ (f.ask h 0 true).1.settle 60 = some (g, true) ∧ Is W n (some h) v 2 g := by
  obtain ⟨g1, P, l1, e, ha, A⟩ := ask_not s hh (by simp) hw
  obtain ⟨hm0, hh0, hi⟩ := s.home
  have hv := hi.data rfl
  have hmo := hm_of hi
  have hnr := s.nr
  have hnh := s.nh
  have hpn := s.pn
  rw [ha]
  obtain ⟨a1, a2, a3, a4⟩ := A.l
  have hP : P[h]? = some { cache := { ways := W, sets := [[e]] }, lines := [some l1, none, none, none], lost := (f.part h).lost } := by
    rw [A.P, List.getElem?_set, if_pos rfl, if_pos (by omega)]
  obtain ⟨q1, q2⟩ := home_none (n := n) (h := h) (d := hm0.data) (sv := hm0.serves) (by_ := hm0.by_) (bk := hm0.back) hh
  obtain ⟨r1, r2⟩ := hart_give (d := hm0.data) (b := false) a1 a2 a3 a4
  obtain ⟨t1, t2⟩ := home_done (n := n) (h := h) (d := hm0.data) (bk := .zero) hh
  have hg := A.g
  have hlt0 : 0 < f.homes.length := by have := s.hn; omega
  -- to the home
  have d1 := home_step (f := g1) (id := f.net.next) (m := mAsk h) (m' := mGive h hm0.data false) (hm := hm n hm0.data (-1) false hm0.serves hm0.by_ (-1) hm0.back) (hm' := hm n hm0.data h true h 2 (-1) .zero)
    (by rw [hg]; rfl) rfl rfl (by rw [hg]; exact s.hn) (by rw [hg]; show f.homes[0]? = _; rw [hh0]; exact congrArg some hmo) q1 q2
    (send_one (m := mAsk h) (by rw [hg]; rfl) (by rw [hg]; exact hnr) (by simp [mGive, classOf]) (by rw [hg]; simp [mGive, classOf, Net.link, hnh, hh]) (by simp [mGive]) (by simp [mAsk, mGive]))
  have e1 := settle_step (N := 59) (m := mAsk h) (by rw [hg]; rfl) d1
  -- to the hart
  have d2 := hart_keep (f := { g1 with homes := g1.homes.set 0 (hm n hm0.data h true h 2 (-1) .zero), net := { g1.net with next := g1.net.next + 1, l := [⟨g1.net.next, mGive h hm0.data false⟩] } }) (id := g1.net.next) (m := mGive h hm0.data false) (m' := mDone h) (h := h) rfl rfl rfl
    (by show (g1.homes.set 0 _).length = 4; rw [List.length_set, hg]; exact s.hn) (by show g1.parts[h]? = _; rw [hg]; exact hP) rfl r1 r2 (by simp)
    (send_one (m := mGive h hm0.data false) rfl (by show 1 ≤ g1.net.room; rw [hg]; exact hnr) (by simp [mDone, classOf]) (by show g1.net.link _ _ _ = true; rw [hg]; simp [mDone, classOf, Net.link, hnh, hh]) (by simp [mDone]) (by simp [mDone, mGive, classOf]))
  have e2 := settle_step (N := 58) (m := mGive h hm0.data false) rfl d2
  -- and back
  have d3 := home_step0 (f := { g1 with homes := g1.homes.set 0 (hm n hm0.data h true h 2 (-1) .zero), net := { g1.net with next := g1.net.next + 1 + 1, l := [⟨g1.net.next + 1, mDone h⟩] }, parts := g1.parts.set h (Part.setLine { cache := { ways := W, sets := [[e]] }, lines := [some l1, none, none, none], lost := (f.part h).lost } 0 { l1 with data := hm0.data, waits := 0, state := 2 }) }) (id := (g1.net.next + 1 : Nat)) (m := mDone h) rfl rfl rfl
    (by show (g1.homes.set 0 _).length = 4; rw [List.length_set, hg]; exact s.hn) (by show (g1.homes.set 0 _)[0]? = _; rw [List.getElem?_set, if_pos rfl, if_pos (by rw [hg]; exact hlt0)]) t1 t2
  have e3 := settle_step (N := 57) (m := mDone h) rfl d3
  refine ⟨{ g1 with homes := (g1.homes.set 0 (hm n hm0.data h true h 2 (-1) .zero)).set 0 (hm n hm0.data h false h 2 (-1) .zero), net := { g1.net with next := g1.net.next + 1 + 1, l := [] }, parts := g1.parts.set h (Part.setLine { cache := { ways := W, sets := [[e]] }, lines := [some l1, none, none, none], lost := (f.part h).lost } 0 { l1 with data := hm0.data, waits := 0, state := 2 }) }, rfl, ?_, ?_⟩
  · rw [show (60 : Nat) = 59 + 1 from rfl, e1, show (59 : Nat) = 58 + 1 from rfl]
    refine Eq.trans e2 ?_
    rw [show (58 : Nat) = 57 + 1 from rfl]
    refine Eq.trans e3 ?_
    rw [show (57 : Nat) = 56 + 1 from rfl, Fab.settle, if_pos rfl]
  · refine ⟨?_, ?_, ?_, ?_, ?_, rfl, ⟨hm n hm0.data h false h 2 (-1) .zero, ?_, hm_is (o := some h) (d := hm0.data) (sv := h) (by_ := 2) (bk := .zero) (by simp)⟩, fun k hk => by simp at hk; omega, ?_⟩
    · rw [hg]; exact s.bytes
    · show (g1.parts.set h _).length = n
      rw [List.length_set, hg]; show P.length = n; rw [A.P, List.length_set]; exact hpn
    · show ((g1.homes.set 0 _).set 0 _).length = 4
      rw [List.length_set, List.length_set, hg]; exact s.hn
    · rw [hg]; exact hnh
    · rw [hg]; exact hnr
    · show ((g1.homes.set 0 _).set 0 _)[0]? = _
      rw [List.getElem?_set, if_pos rfl, if_pos (by rw [List.length_set, hg]; exact hlt0)]
    · intro i p hp
      have hp' : (g1.parts.set h (Part.setLine { cache := { ways := W, sets := [[e]] }, lines := [some l1, none, none, none], lost := (f.part h).lost } 0 { l1 with data := hm0.data, waits := 0, state := 2 }))[i]? = some p := hp
      have hgp : g1.parts = P := by rw [hg]
      rw [hgp, List.getElem?_set] at hp'
      by_cases c : h = i
      · subst c
        rw [if_pos rfl, if_pos (by rw [A.P, List.length_set]; omega)] at hp'
        obtain rfl := Option.some.inj hp'
        rw [if_pos rfl]
        exact hasIt_part (l := { l1 with data := hm0.data, waits := 0, state := 2 }) a1 a2 rfl rfl hv A.e
      · rw [if_neg c, A.P, List.getElem?_set, if_neg c] at hp'
        rw [if_neg (by simpa using c)]
        have := s.has i p hp'
        rw [if_neg (by simp)] at this
        exact this
def stt (g : Fab) (X : List Home) (N : Nat) (L : List Flight) (Y : List Part) : Fab := { g with homes := X, net := { g.net with next := N, l := L }, parts := Y }
theorem settled_some {f : Fab} (s : Is W n (some k) v 4 f) (hh : h < n) (hne : k ≠ h) (hw : 1 ≤ W) :
    ∃ g, (f.ask h 0 true).2 = true ∧ (f.ask h 0 true).1.settle 60 = some (g, true) ∧ Is W n (some h) v 4 g := by
  obtain ⟨g1, P, l1, e, ha, A⟩ := ask_not s hh (by simpa using hne) hw
  obtain ⟨hm0, hh0, hi⟩ := s.home
  have hmo : hm0 = hm n hm0.data k false hm0.serves hm0.by_ (-1) hm0.back := hm_of hi
  have hnr := s.nr
  have hnh := s.nh
  have hpn := s.pn
  have hkn := s.ow k rfl
  rw [ha]
  obtain ⟨a1, a2, a3, a4⟩ := A.l
  have hP : P[h]? = some { cache := { ways := W, sets := [[e]] }, lines := [some l1, none, none, none], lost := (f.part h).lost } := by
    rw [A.P, List.getElem?_set, if_pos rfl, if_pos (by omega)]
  have hpk := s.part hkn
  have hK := s.has k _ hpk
  rw [if_pos rfl] at hK
  obtain ⟨lk, ek, b1, b2, b3, b4, b5, b6, b7, b8⟩ := hK.ex
  have hPk : P[k]? = some (f.part k) := by rw [A.P, List.getElem?_set, if_neg (fun x => hne x.symm)]; exact hpk
  have hPl : P.length = n := by rw [A.P, List.length_set]; exact hpn
  obtain ⟨q1, q2⟩ := home_some (n := n) (h := h) (k := k) (d := hm0.data) (sv := hm0.serves) (by_ := hm0.by_) (bk := hm0.back) hh hkn hne
  obtain ⟨u1, u2⟩ := hart_lose (k := k) b4 b5 b6 b7
  obtain ⟨w1, w2⟩ := home_back (n := n) (h := h) (k := k) (d := hm0.data) (dl := lk.data) hh hkn hne
  obtain ⟨r1, r2⟩ := hart_give (d := lk.data) (b := true) a1 a2 a3 a4
  obtain ⟨t1, t2⟩ := home_done (n := n) (h := h) (d := hm0.data) (bk := mBack k lk.data) hh
  have hlt0 : 0 < f.homes.length := by have := s.hn; omega
  have hg : g1 = stt f f.homes (f.net.next + 1) [⟨f.net.next, mAsk h⟩] P := A.g
  rw [hg]
  have hX : ∀ (X : List Home) (x : Home), X.length = 4 → (X.set 0 x)[0]? = some x := by intro X x hx; rw [List.getElem?_set, if_pos rfl, if_pos (by omega)]
  have d1 := home_step (f := stt f f.homes (f.net.next + 1) [⟨f.net.next, mAsk h⟩] P) (id := f.net.next) (m := mAsk h) (m' := mLose k) (hm := hm n hm0.data k false hm0.serves hm0.by_ (-1) hm0.back) (hm' := hm n hm0.data k true h 2 k .zero)
    rfl rfl rfl s.hn (by show f.homes[0]? = _; rw [hh0]; exact congrArg some hmo) q1 q2
    (send_one (m := mAsk h) rfl hnr (by simp [mLose, classOf]) (by simp [stt, mLose, classOf, Net.link, hnh, hkn]) (by simp [mLose]) (by simp [mAsk, mLose]))
  have e1 := settle_step (N := 59) (m := mAsk h) rfl d1
  have hpl : ∀ lo : List Int, Part.line { cache := { ways := W, sets := [[e]] }, lines := [some l1, none, none, none], lost := lo } 0 = some l1 := fun _ => rfl
  have d2 := hart_step (f := stt f (f.homes.set 0 (hm n hm0.data k true h 2 k .zero)) (f.net.next + 1 + 1) [⟨(f.net.next + 1 : Nat), mLose k⟩] P) (id := (f.net.next + 1 : Nat)) (m := mLose k) (m' := mBack k lk.data) (h := k) (l := lk) rfl rfl rfl
    (by show (f.homes.set 0 _).length = 4; rw [List.length_set]; exact s.hn) (by exact hPk) (by unfold Part.line; rw [b1]; rfl) u1 u2
    (send_one (m := mLose k) rfl hnr (by simp [mBack, classOf]) (by simp [stt, mBack, classOf, Net.link, hnh, hkn]) (by simp [mBack]) (by simp [mBack, mLose, classOf]))
  have e2 := settle_step (N := 58) (m := mLose k) rfl d2
  generalize hpk2 : (let p1 := (f.part k).setLine 0 { lk with state := 0 }
      let p2 := if true = true then p1.lose 0 else p1
      if ({ lk with state := 0 } : Lone).state = 0 ∧ ({ lk with state := 0 } : Lone).waits = 0 then { p2 with cache := p2.cache.drop 0 } else p2) = pk2 at d2 e2
  have hnot : HasNot W k pk2 := by
    have z : ({ lk with state := 0 } : Lone).state = 0 ∧ ({ lk with state := 0 } : Lone).waits = 0 := ⟨rfl, b7⟩
    rw [← hpk2]
    simp only [if_true]
    rw [if_pos ⟨trivial, b7⟩]
    have hl1 : ((f.part k).setLine 0 { lk with state := 0 }).lines = [some { lk with state := 0 }, none, none, none] := by unfold Part.setLine; rw [b1]; rfl
    have hlose : ∀ p : Part, (p.lose 0).lines = p.lines ∧ (p.lose 0).cache = p.cache := by intro p; unfold Part.lose; split <;> simp
    refine ⟨⟨some { lk with state := 0 }, ?_, ?_, ?_⟩⟩
    · show (((f.part k).setLine 0 { lk with state := 0 }).lose 0).lines = _
      rw [(hlose _).1, hl1]
    · show (((f.part k).setLine 0 { lk with state := 0 }).lose 0).cache.drop 0 = _
      rw [(hlose _).2]
      show (f.part k).cache.drop 0 = _
      rw [b2]
      simp [Cache.drop, Cache.at?, Cache.row, Cache.idx, Cache.setRow, b3]
    · intro l hl
      obtain rfl := Option.some.inj hl
      exact ⟨b4, b5, rfl, b7⟩
  have d3 := home_step (f := stt f (f.homes.set 0 (hm n hm0.data k true h 2 k .zero)) (f.net.next + 1 + 1 + 1) [⟨(f.net.next + 1 + 1 : Nat), mBack k lk.data⟩] (P.set k pk2)) (id := (f.net.next + 1 + 1 : Nat)) (m := mBack k lk.data) (m' := mGive h lk.data true) (hm := hm n hm0.data k true h 2 k .zero) (hm' := hm n hm0.data h true h 2 (-1) (mBack k lk.data))
    rfl rfl rfl (by show (f.homes.set 0 _).length = 4; rw [List.length_set]; exact s.hn) (hX _ _ s.hn) w1 w2
    (send_one (m := mBack k lk.data) rfl hnr (by simp [mGive, classOf]) (by simp [stt, mGive, classOf, Net.link, hnh, hh]) (by simp [mGive]) (by simp [mBack, mGive]))
  have e3 := settle_step (N := 57) (m := mBack k lk.data) rfl d3
  have hX2 : ((f.homes.set 0 (hm n hm0.data k true h 2 k .zero)).set 0 (hm n hm0.data h true h 2 (-1) (mBack k lk.data))).length = 4 := by rw [List.length_set, List.length_set]; exact s.hn
  have hP2 : (P.set k pk2)[h]? = some { cache := { ways := W, sets := [[e]] }, lines := [some l1, none, none, none], lost := (f.part h).lost } := by rw [List.getElem?_set, if_neg hne]; exact hP
  have d4 := hart_keep (f := stt f ((f.homes.set 0 (hm n hm0.data k true h 2 k .zero)).set 0 (hm n hm0.data h true h 2 (-1) (mBack k lk.data))) (f.net.next + 1 + 1 + 1 + 1) [⟨(f.net.next + 1 + 1 + 1 : Nat), mGive h lk.data true⟩] (P.set k pk2)) (id := (f.net.next + 1 + 1 + 1 : Nat)) (m := mGive h lk.data true) (m' := mDone h) (h := h) rfl rfl rfl
    hX2 (by exact hP2) (hpl _) r1 r2 (by simp)
    (send_one (m := mGive h lk.data true) rfl hnr (by simp [mDone, classOf]) (by simp [stt, mDone, classOf, Net.link, hnh, hh]) (by simp [mDone]) (by simp [mDone, mGive, classOf]))
  have e4 := settle_step (N := 56) (m := mGive h lk.data true) rfl d4
  have d5 := home_step0 (f := stt f ((f.homes.set 0 (hm n hm0.data k true h 2 k .zero)).set 0 (hm n hm0.data h true h 2 (-1) (mBack k lk.data))) (f.net.next + 1 + 1 + 1 + 1 + 1) [⟨(f.net.next + 1 + 1 + 1 + 1 : Nat), mDone h⟩] ((P.set k pk2).set h (Part.setLine { cache := { ways := W, sets := [[e]] }, lines := [some l1, none, none, none], lost := (f.part h).lost } 0 { l1 with data := lk.data, waits := 0, state := 4 }))) (id := (f.net.next + 1 + 1 + 1 + 1 : Nat)) (m := mDone h) rfl rfl rfl
    hX2 (hX _ _ (by rw [List.length_set]; exact s.hn)) t1 t2
  have e5 := settle_step (N := 55) (m := mDone h) rfl d5
  refine ⟨stt f (((f.homes.set 0 (hm n hm0.data k true h 2 k .zero)).set 0 (hm n hm0.data h true h 2 (-1) (mBack k lk.data))).set 0 (hm n hm0.data h false h 2 (-1) (mBack k lk.data))) (f.net.next + 1 + 1 + 1 + 1 + 1) [] ((P.set k pk2).set h (Part.setLine { cache := { ways := W, sets := [[e]] }, lines := [some l1, none, none, none], lost := (f.part h).lost } 0 { l1 with data := lk.data, waits := 0, state := 4 })), rfl, ?_, ?_⟩
  · refine Eq.trans e1 ?_
    refine Eq.trans e2 ?_
    refine Eq.trans e3 ?_
    refine Eq.trans e4 ?_
    refine Eq.trans e5 ?_
    rw [show (55 : Nat) = 54 + 1 from rfl, Fab.settle, if_pos rfl]
    rfl
  · refine ⟨s.bytes, ?_, ?_, hnh, hnr, rfl, ⟨hm n hm0.data h false h 2 (-1) (mBack k lk.data), hX _ _ hX2, hm_is (o := some h) (d := hm0.data) (sv := h) (by_ := 2) (bk := mBack k lk.data) (by simp)⟩, fun j hj => by simp at hj; omega, ?_⟩
    · show ((P.set k pk2).set h _).length = n
      rw [List.length_set, List.length_set]; exact hPl
    · show (List.set _ 0 _).length = 4
      rw [List.length_set]; exact hX2
    · intro i p hp
      have hp' : ((P.set k pk2).set h (Part.setLine { cache := { ways := W, sets := [[e]] }, lines := [some l1, none, none, none], lost := (f.part h).lost } 0 { l1 with data := lk.data, waits := 0, state := 4 }))[i]? = some p := hp
      rw [List.getElem?_set] at hp'
      by_cases c : h = i
      · subst c
        rw [if_pos rfl, if_pos (by rw [List.length_set]; omega)] at hp'
        obtain rfl := Option.some.inj hp'
        rw [if_pos rfl]
        exact hasIt_part (l := { l1 with data := lk.data, waits := 0, state := 4 }) a1 a2 rfl rfl b8 A.e
      · rw [if_neg c, List.getElem?_set] at hp'
        rw [if_neg (by simpa using c)]
        by_cases c2 : k = i
        · subst c2
          rw [if_pos rfl, if_pos (by omega)] at hp'
          obtain rfl := Option.some.inj hp'
          exact hnot
        · rw [if_neg c2, A.P, List.getElem?_set, if_neg c] at hp'
          have := s.has i p hp'
          rw [if_neg (by simpa using c2)] at this
          exact this
theorem Is.can {o : Option Nat} {st : Int} {f : Fab} (s : Is W n o v st f) (hst : st = 2 ∨ st = 4) (hh : h < n) (w : Bool) (hc : o = some h) : ∃ l, f.can h 4 4 w = some l ∧ (f.part h).line 0 = some l ∧ l.can true = true := by
  have hp := s.has h _ (s.part hh)
  rw [if_pos hc] at hp
  obtain ⟨l, e, h1, h2, h3, h4, h5, h6, h7, h8⟩ := hp.ex
  have hl : (f.part h).line 0 = some l := by simp [Part.line, h1]
  have hb := s.bytes
  have h3 : f.has 4 4 = true := by simp [Fab.has, Fab.fair, hb]
  have ht := s.there hh
  have hc1 : l.can true = true := by rcases hst with rfl | rfl <;> simp [Lone.can, h6, h7]
  have hc2 : l.can w = true := by
    cases w with
    | true => exact hc1
    | false => rcases hst with rfl | rfl <;> simp [Lone.can, h6, h7]
  refine ⟨l, ?_, hl, hc1⟩
  unfold Fab.can
  rw [h3, show (4 : Int) / 16 = 0 by decide, ht]
  simp only [Fab.line, hl, hc2]
  rfl
theorem Is.cannot {o : Option Nat} {st : Int} {f : Fab} (s : Is W n o v st f) (hh : h < n) (w : Bool) (hc : o ≠ some h) : f.can h 4 4 w = none := by
  have hp := s.has h _ (s.part hh)
  rw [if_neg hc] at hp
  obtain ⟨x, h1, h2, h3⟩ := hp.ex
  have hl : (f.part h).line 0 = x := by simp [Part.line, h1]
  have hb := s.bytes
  have h4 : f.has 4 4 = true := by simp [Fab.has, Fab.fair, hb]
  have ht := s.there hh
  unfold Fab.can
  rw [h4, show (4 : Int) / 16 = 0 by decide, ht]
  simp only [Fab.line, hl]
  cases x with
  | none => rfl
  | some l =>
    obtain ⟨_, _, q3, q4⟩ := h3 l rfl
    have : l.can w = false := by simp [Lone.can, q3]
    simp [this]
theorem Is.used {st : Int} {f : Fab} (s : Is W n (some h) v st f) : Is W n (some h) v st (f.used h 4) ∧ ((f.used h 4).part h).line 0 = (f.part h).line 0 := by
  have hh := s.ow h rfl
  have hpp := s.part hh
  have hpn := s.pn
  have hp := s.has h _ hpp
  rw [if_pos rfl] at hp
  obtain ⟨l, e, h1, h2, h3, h4, h5, h6, h7, h8⟩ := hp.ex
  have hu : (f.part h).cache.use (4 / 16) = { ways := W, sets := [[e]] } := by
    rw [h2]
    simp [Cache.use, Cache.at?, Cache.row, Cache.idx, Cache.setRow, Cache.last, h3]
  refine ⟨⟨s.bytes, by show (f.parts.set _ _).length = n; rw [List.length_set]; exact hpn, s.hn, s.nh, s.nr, s.nl, s.home, s.ow, ?_⟩, ?_⟩
  · intro i p hi
    have hi' : (f.parts.set h { f.part h with cache := (f.part h).cache.use (4 / 16) })[i]? = some p := hi
    rw [List.getElem?_set] at hi'
    by_cases c : h = i
    · subst c
      rw [if_pos rfl, if_pos (by omega)] at hi'
      obtain rfl := Option.some.inj hi'
      rw [if_pos rfl]
      exact ⟨l, e, h1, hu, h3, h4, h5, h6, h7, h8⟩
    · rw [if_neg c] at hi'
      exact s.has i p hi'
  · have : (f.used h 4).part h = { f.part h with cache := (f.part h).cache.use (4 / 16) } := by
      unfold Fab.used
      exact Alone.setPart_part (by omega)
    rw [this]; rfl
theorem read_has {st : Int} {f : Fab} (s : Is W n (some h) v st f) (hst : st = 2 ∨ st = 4) : (f.read h 4 4).2 = (v, true) ∧ Is W n (some h) v st (f.read h 4 4).1 := by
  have hh := s.ow h rfl
  obtain ⟨l, h1, h2, _⟩ := s.can hst hh false rfl
  have hp := s.has h _ (s.part hh)
  rw [if_pos rfl] at hp
  obtain ⟨l', e, g1, g2, g3, g4, g5, g6, g7, g8⟩ := hp.ex
  have : l = l' := by
    have hl : (f.part h).line 0 = some l' := by simp [Part.line, g1]
    rw [hl] at h2; exact (Option.some.inj h2).symm
  subst this
  unfold Fab.read
  rw [h1]
  refine ⟨?_, s.used.1⟩
  have : Fab.rdW l.data 4 4 = v := by
    rw [← g8]
    simp [Fab.rdW, Fab.fair, Fab.bytesAt, Fab.word]
  simp only [this]
theorem read_not {o : Option Nat} {st : Int} {f : Fab} (s : Is W n o v st f) (hh : h < n) (hc : o ≠ some h) : f.read h 4 4 = (f, 0, false) := by
  unfold Fab.read
  rw [s.cannot hh false hc]
theorem write_has {st x : Int} {f : Fab} (s : Is W n (some h) v st f) (hst : st = 2 ∨ st = 4) : (f.write h 4 4 x).2 = true ∧ Is W n (some h) x 4 (f.write h 4 4 x).1 := by
  have hh := s.ow h rfl
  obtain ⟨l, h1, h2, hcan⟩ := s.can hst hh true rfl
  obtain ⟨s2, hl2⟩ := s.used
  have hp := s2.has h _ (s2.part hh)
  rw [if_pos rfl] at hp
  obtain ⟨l', e, g1, g2, g3, g4, g5, g6, g7, g8⟩ := hp.ex
  have : l = l' := by
    have hl : ((f.used h 4).part h).line 0 = some l' := by simp [Part.line, g1]
    rw [hl2, h2] at hl; exact Option.some.inj hl
  subst this
  unfold Fab.write
  rw [h1]
  have hpn2 := s2.pn
  have hset : l.set (Fab.wrW l.data 4 4 x) = ({ l with data := Fab.wrW l.data 4 4 x, state := 4 }, true) := by unfold Lone.set; rw [if_pos hcan]
  simp only [hset]
  refine ⟨trivial, ⟨s2.bytes, by show (List.set _ _ _).length = n; rw [List.length_set]; exact hpn2, s2.hn, s2.nh, s2.nr, s2.nl, ?_, s2.ow, ?_⟩⟩
  · obtain ⟨hm0, q1, q2⟩ := s2.home
    exact ⟨hm0, q1, ⟨q2.line, q2.harts, q2.busy, q2.asked, q2.sh, q2.inv, q2.ow, by simp⟩⟩
  · intro i p hi
    have hi' : ((f.used h 4).parts.set h (((f.used h 4).part h).setLine (4 / 16) { l with data := Fab.wrW l.data 4 4 x, state := 4 }))[i]? = some p := hi
    rw [List.getElem?_set] at hi'
    by_cases c : h = i
    · subst c
      rw [if_pos rfl, if_pos (by omega)] at hi'
      obtain rfl := Option.some.inj hi'
      rw [if_pos rfl]
      refine ⟨{ l with data := Fab.wrW l.data 4 4 x, state := 4 }, e, ?_, g2, g3, g4, g5, rfl, g7, ?_⟩
      · unfold Part.setLine; rw [g1]; rfl
      · simp [Fab.wrW, Fab.fair, Fab.setBytes, Fab.setWord]
    · rw [if_neg c] at hi'
      have := s2.has i p hi'
      rw [if_neg (by simpa using c)] at this ⊢
      exact this
theorem Is.new {W n R : Nat} (hr : 1 ≤ R) (data : List Words) (hd : data.length = 4) (h0 : (data.getD 0 .zero).b = 0) : Is W n none 0 4 (Fab.new n 1 W R data) := by
  refine ⟨by simp [Fab.new, hd], by simp [Fab.new], by simp [Fab.new, hd], rfl, hr, rfl, ?_, by simp, ?_⟩
  · refine ⟨Home.new 0 n (data.getD 0 .zero), ?_, ⟨rfl, rfl, rfl, rfl, rfl, rfl, rfl, fun _ => h0⟩⟩
    have : 0 < data.length := by omega
    simp [Fab.new, List.getD_eq_getElem?_getD, this]
  · intro i p hp
    rw [if_neg (by simp)]
    have hp' := List.mem_of_getElem? hp
    simp only [Fab.new] at hp'
    rw [List.eq_of_mem_replicate hp']
    exact ⟨none, by simp [hd], rfl, by simp⟩
end Turns
end Go.Pm
namespace Go.Proofs
open Go Go.NW Go.Pm
set_option maxRecDepth 20000
set_option linter.unusedSimpArgs false
set_option linter.unusedVariables false
namespace YtacidjifocfhkaaGreatDoor
/-- a block of one's own -/
structure Own (H0 H : Hp) (col : Nat → Rl) (b : Nat) (c : Array Value) : Prop where
  ge : H0.size ≤ b
  o : col b = .other
  k : blk H b c
section own
variable {H0 H H' : Hp} {col col' : Nat → Rl} {b : Nat} {c : Array Value}
theorem Own.mod (o : Own H0 H col b c) (m : Mod Rl.mine H col H') (s : Same H col col') : Own H0 H' col' b c := by
  have hl := o.k.lt
  refine ⟨o.ge, (s b hl).trans o.o, ?_⟩
  obtain ⟨T, h⟩ := o.k
  exact ⟨T, (m.same b hl (by rw [o.o]; rfl)).trans h⟩
end own
end YtacidjifocfhkaaGreatDoor
end Go.Proofs
set_option maxRecDepth 100000
namespace Go.Proofs
namespace YtacidjifocfhkaaGreatDoor
open Go Go.NW Go.Pm
open Go.ChangeShapes Go.WideShapes Go.ChangeAt Go.WideMaps Go.WideElems Go.RowKit
theorem list_of {α : Type} {R : Nat → α → Prop} : ∀ {n : Nat}, (∀ i, i < n → ∃ x, R i x) → ∃ l : List α, l.length = n ∧ ∀ i (h : i < l.length), R i l[i]
  | 0, _ => ⟨[], rfl, fun i h => by simp at h⟩
  | n + 1, h => by
    obtain ⟨l, hl, hr⟩ := list_of (n := n) fun i hi => h i (by omega)
    obtain ⟨x, hx⟩ := h n (by omega)
    refine ⟨l ++ [x], by simp [hl], fun i hi => ?_⟩
    by_cases c : i < l.length
    · rw [List.getElem_append_left c]; exact hr i c
    · have : i = n := by simp at hi; omega
      subst this
      rw [List.getElem_append_right (by omega)]
      simpa [hl] using hx
section
variable {H : Type} {enc : TypeId × Value → H} {W : World}
end
end YtacidjifocfhkaaGreatDoor
end Go.Proofs
namespace Go.Proofs
open Go Go.NW Go.Pm
set_option maxRecDepth 20000
set_option linter.unusedSimpArgs false
set_option linter.unusedVariables false
namespace YtacidjifocfhkaaGreatDoor
theorem Start.recol {H : Hp} {col : Nat → Rl} (st : Start H col) {b : Nat} (hb : H.size ≤ b) : Start H (recol col b .other) := by
  refine ⟨fun x hx => ?_, fun x => ?_⟩
  · obtain ⟨c, h1, t, v, kb, hc⟩ := st.gl x hx
    exact ⟨(Same.recol hb x kb.lt).trans c, h1, t, v, kb, hc⟩
  · unfold YtacidjifocfhkaaGreatDoor.recol
    split
    · exact .inl rfl
    · exact st.col x
end YtacidjifocfhkaaGreatDoor
end Go.Proofs
namespace Go.Proofs
open Go Go.NW Go.Pm
set_option maxRecDepth 20000
set_option linter.unusedSimpArgs false
set_option linter.unusedVariables false
namespace YtacidjifocfhkaaGreatDoor
theorem findSome_at {α β : Type} {g : α → Option β} {d : β} : ∀ {l : List α} {k : Nat} {x : α}, l[k]? = some x → g x = some d → (∀ i y, i ≠ k → l[i]? = some y → g y = none) → l.findSome? g = some d
  | [], k, x, h, _, _ => by simp at h
  | y :: l, 0, x, h, hd, _ => by simp at h; subst h; simp [hd]
  | y :: l, k + 1, x, h, hd, hn => by
    rw [List.findSome?_cons, hn 0 y (by omega) rfl]
    exact findSome_at (k := k) (by simpa using h) hd fun i z hi hz => hn (i + 1) z (by omega) (by simpa using hz)
theorem newest_is {W n : Nat} {o : Option Nat} {v : Int} {f : Fab} (s : Turns.Is W n o v 4 f) : (newestOf f 0).b = v := by
  have hnot : ∀ i p, f.parts[i]? = some p → o ≠ some i → ownsD 0 p = none ∧ keepsD 0 p = none := by
    intro i p hp ho
    have := s.has i p hp
    rw [if_neg ho] at this
    obtain ⟨x, h1, h2, h3⟩ := this.ex
    have hl : p.line 0 = x := by simp [Part.line, h1]
    unfold ownsD keepsD
    rw [hl]
    cases x with
    | none => exact ⟨rfl, rfl⟩
    | some l =>
      obtain ⟨_, _, q3, q4⟩ := h3 l rfl
      simp [q3, keptD, q4]
  rw [newestOf_eq]
  cases o with
  | some k =>
    have hk := s.ow k rfl
    have hpn := s.pn
    have hp := s.part hk
    have hK := s.has k _ hp
    rw [if_pos rfl] at hK
    obtain ⟨l, e, h1, h2, h3, h4, h5, h6, h7, h8⟩ := hK.ex
    have hl : (f.part k).line 0 = some l := by simp [Part.line, h1]
    have : f.parts.findSome? (ownsD 0) = some l.data := findSome_at hp (by unfold ownsD; rw [hl]; simp [h6]) fun i y hi hy => (hnot i y hy (by simpa using fun h => hi h.symm)).1
    rw [this]
    exact h8
  | none =>
    have h1 : f.parts.findSome? (ownsD 0) = none := by
      rw [List.findSome?_eq_none_iff]
      intro p hp
      obtain ⟨i, hi, rfl⟩ := List.getElem_of_mem hp
      exact (hnot i _ (List.getElem?_eq_getElem hi) (by simp)).1
    have h2 : f.parts.findSome? (keepsD 0) = none := by
      rw [List.findSome?_eq_none_iff]
      intro p hp
      obtain ⟨i, hi, rfl⟩ := List.getElem_of_mem hp
      exact (hnot i _ (List.getElem?_eq_getElem hi) (by simp)).2
    obtain ⟨hm0, q1, q2⟩ := s.home
    have hg : f.homes.getD (0 : Int).toNat (Home.new 0 0 .zero) = hm0 := by rw [List.getD_eq_getElem?_getD]; simp [q1]
    have hheld : hm0.held = false := by unfold Home.held; rw [q2.busy]; rfl
    rw [h1, s.nl]
    show (restOf f 0).b = v
    unfold restOf
    rw [hg, h2]
    simp only [hheld]
    exact q2.data rfl
theorem turn_settles {W n h : Nat} {o : Option Nat} {v : Int} {f : Fab} (s : Turns.Is W n o v 4 f) (hh : h < n) (hw : 1 ≤ W) : ∃ g st, (st = 2 ∨ st = 4) ∧ (f.ask h 0 true).1.settle 60 = some (g, true) ∧ Turns.Is W n (some h) v st g := by
  cases o with
  | none =>
    obtain ⟨g, _, h2, h3⟩ := Turns.settled_none s hh hw
    exact ⟨g, 2, .inl rfl, h2, h3⟩
  | some k =>
    by_cases c : k = h
    · subst c
      refine ⟨f, 4, .inr rfl, ?_, s⟩
      rw [Turns.ask_has s (.inr rfl), show (60 : Nat) = 59 + 1 from rfl, Fab.settle, if_pos s.nl]
    · obtain ⟨g, _, h2, h3⟩ := Turns.settled_some s hh c hw
      exact ⟨g, 4, .inr rfl, h2, h3⟩
/-- a slice of numbers, to read -/
structure IntsAt (H : Hp) (v : Value) (l : List Int) : Prop where
  sh : ∃ a cap, v = .slice a l.length cap
  at' : ∀ i (hi : i < l.length), ∃ p : Addr, (∀ k, Ix 1 v (.int k i) = some (.pointer (some p))) ∧ cellAt H p = some (.int .i64 l[i])
theorem cellAt_ext {H H' : Hp} {p : Addr} {c : Value} (h : cellAt H p = some c) (e : Ext [] H H') : cellAt H' p = some c := by
  unfold cellAt at h ⊢
  cases hb : H[p.block]? with
  | none => simp [hb] at h
  | some o => rw [e.same p.block (get_lt hb) (by simp)]; exact h
theorem IntsAt.ext {H H' : Hp} {v : Value} {l : List Int} (d : IntsAt H v l) (e : Ext [] H H') : IntsAt H' v l :=
  ⟨d.sh, fun i hi => by obtain ⟨p, h1, h2⟩ := d.at' i hi; exact ⟨p, h1, cellAt_ext h2 e⟩⟩
theorem wrap_u32 (x : Int) : U32 (IntKind.wrap .u32 x) := by
  unfold IntKind.wrap U32; simp [IntKind.bits, IntKind.signed]; omega
theorem tail_6 {H : Hp} {col : Nat → Rl} {bf W n : Nat} {sk : Sk} {f : Fab} {o : Option Nat} {v : Int} {Q : RT1} (fa : FabAt H col bf sk f) (ok : FabOk f) (hx : f.net.next ≤ 2 ^ 18) (s : Turns.Is W n o v 4 f) (hq : ∀ H', Ext [] H H' → Q (.bool true) H') : F6_9 (at0 bf) (.int .u32 v) H Q := by
  unfold F6_9
  refine Final_27 fa ok hx fun H1 bm bb bs e1 m1 hl g1 g2 => ?_
  have hb := s.bytes
  have hn := s.hn
  refine Load_28 m1 (by unfold U32; omega) ?_
  have hlen := finalB_len f bs f.homes.length
  have hh : hasL (finalB f bs f.homes.length).length 4 4 = true := by rw [hlen, hl, hb]; decide
  have hlo := lineOf_final ok hl (i := 0) f.homes.length (by omega) (Nat.le_refl _)
  have hb4 : getL (finalB f bs f.homes.length) 4 4 = v := by
    have h2 : (lineOf (finalB f bs f.homes.length) 0).b = getL (finalB f bs f.homes.length) 4 4 := rfl
    rw [← h2, hlo]
    exact newest_is s
  rw [hh]
  simp -implicitDefEqProofs only [if_true, Ex_tuple, List.getElem?_toArray, List.getElem?_cons_zero, List.getElem?_cons_succ, q_some, show (4 : Int).toNat = 4 from rfl, hb4, Bin_eql_40, beq_self_eq_true]
  exact hq H1 e1
end YtacidjifocfhkaaGreatDoor
end Go.Proofs
namespace Go.Proofs
open Go Go.NW Go.Pm
set_option maxRecDepth 20000
set_option linter.unusedSimpArgs false
set_option linter.unusedVariables false
namespace YtacidjifocfhkaaGreatDoor
/-- all look -/
theorem look_6 {H0 H : Hp} {col0 col : Nat → Rl} {bf b8 W n h i : Nat} {sk : Sk} {f : Fab} {s w r x : Int} {N : Nat} {t2 t11 : Value} {R12 : RT5} {Q : RT1}
    (L : Law H0 col0 H col bf sk f) (o8 : Own H0 H col b8 (confC n s w r)) (S : Turns.Is W n (some h) x 4 f) (hN : f.net.next ≤ N)
    (hq : ∀ H' col' f', Law H0 col0 H' col' bf sk f' → Own H0 H' col' b8 (confC n s w r) → Turns.Is W n (some h) x 4 f' → f'.net.next ≤ N → F6_15 t2 (at0 b8) (at0 bf) t11 (.int .i64 i) H' R12 Q) :
    F6_23 t2 (at0 b8) (at0 bf) t11 (.int .i64 i) (.int .i64 h) H R12 Q := by
  have np4 := L.ok.h1
  have hpn := S.pn
  unfold F6_23 F6_27 F6_24 F6_25
  refine ⟨fun v16 H' => ∃ (k : Nat) (col' : Nat → Rl) (f' : Fab), v16 = .int .i64 k ∧ k ≤ n ∧ Law H0 col0 H' col' bf sk f' ∧ Own H0 H' col' b8 (confC n s w r) ∧ Turns.Is W n (some h) x 4 f' ∧ f'.net.next ≤ N,
    fun v16 _ => n - (iv v16).toNat, ⟨0, col, f, rfl, by omega, L, o8, S, hN⟩, ?_⟩
  rintro v16 H1 ⟨k, col1, f1, rfl, hk, L1, p8, S1, hN1⟩
  unfold F6_26
  have c8 : cellAt H1 ⟨b8, 0, none⟩ = some (.int .i64 n) := by rw [p8.k.cell]; rfl
  simp -implicitDefEqProofs only [Fa_some, add_mk, Nat.zero_add, q_some, Ld_some, c8, Bin_lss_3, condV_bool]
  by_cases hlt : k < n
  · have hlt' : (k : Int) < n := by omega
    simp -implicitDefEqProofs only [hlt', decide_true, if_true]
    refine Read_18 L1.fa L1.ok (by unfold U32; omega) fun H2 col2 m2 s2 fa2 => ?_
    have ok2 := L1.ok.read (k : Int) 4 4
    have lk := (like_read f1 (k : Int) 4 4).n
    have wk : IntKind.wrap .i64 ((k : Int) + 1) = ((k + 1 : Nat) : Int) := by rw [w64 (by omega) (by omega)]; simp
    have key : (f1.read k 4 4).2.2 = ((k : Int) == (h : Int)) ∧ Turns.Is W n (some h) x 4 (f1.read k 4 4).1 := by
      by_cases c : k = h
      · subst c
        obtain ⟨a, b⟩ := Turns.read_has S1 (.inr rfl)
        exact ⟨by rw [a]; simp, b⟩
      · have := Turns.read_not S1 hlt (by simpa using fun e => c e.symm)
        rw [this]
        refine ⟨?_, S1⟩
        have : ((k : Int) == (h : Int)) = false := by simp; omega
        rw [this]
    obtain ⟨ka, kb⟩ := key
    rw [ka]
    simp -implicitDefEqProofs only [Ex_tuple, List.getElem?_toArray, List.getElem?_cons_zero, List.getElem?_cons_succ, q_some, Bin_eql_3, Bin_neq_4, beq_self_eq_true, Bool.not_true, condV_bool, Bool.false_eq_true, if_false, Bin_add_3, wk]
    exact ⟨trivial, trivial, trivial, trivial, trivial, trivial, ⟨k + 1, col2, _, rfl, by omega, L1.step m2 s2 fa2 ok2, p8.mod m2 s2, kb, by omega⟩, by simp; omega⟩
  · have hlt' : ¬ (k : Int) < n := by omega
    simp -implicitDefEqProofs only [hlt', decide_false, Bool.false_eq_true, if_false]
    exact hq H1 col1 f1 L1 p8 S1 hN1
theorem Turns_6 {H : Hp} {col : Nat → Rl} {a b : Int} {t2 : Value} {l : List Int} {Q : RT1} (st : Start H col) (hs : IntsAt H t2 l) (hq : ∀ H', Ext [] H H' → Q (.bool true) H') :
    NCalls Tryz.prog 6 #[.int .i64 a, .int .i64 b, t2] H Q := by
  have hlv : ∀ {G : Hp}, pv Tryz.prog (Builtin.len_ #[49] 0 #[t2]) = some (.int .i64 l.length) := by
    intro G
    obtain ⟨av, cv, hv⟩ := hs.sh
    rw [hv]; simp -implicitDefEqProofs
  refine E6 ?_
  unfold F6_0 F6_43 F6_1 F6_42
  refine first_9 st fun H1 e1 => ?_
  unfold F6_2 F6_41
  simp -implicitDefEqProofs only [un_not, Bool.not_true, q_some, condV_bool, Bool.false_eq_true, if_false]
  unfold F6_3 F6_40
  simp -implicitDefEqProofs only [hlv (G := H1), q_some, Bin_gtr_3]
  by_cases h40 : l.length ≤ 40
  case neg =>
    have h' : (l.length : Int) > 40 := by omega
    simp -implicitDefEqProofs only [h', decide_true, gd_bool, reduceCtorEq, if_false, q_some, gd_undef, Pk_bool, if_true, condV_bool, Bool.true_eq_false]
    exact hq H1 e1
  have h' : ¬ (l.length : Int) > 40 := by omega
  simp -implicitDefEqProofs only [h', decide_false, gd_bool, if_true, q_some, un_not, Bool.not_true, Pk_bool, Bool.false_eq_true, if_false, condV_bool]
  unfold F6_4 F6_39
  refine config_21 fun H2 e2 => ?_
  refine New_i fun H3 b8 hb8 e3 s3 k3 => ?_
  refine St_i k3 (by simp [confC]) (by simp) (by simp [confC]) fun H4 e4 s4 k4 => ?_
  obtain ⟨nh, hnh⟩ : ∃ nh : Nat, a % 4 + 1 = nh := ⟨(a % 4 + 1).toNat, by omega⟩
  have hn14 : 1 ≤ nh ∧ nh ≤ 4 := by omega
  have k4' : blk H4 b8 (confC (a % 4 + 1) (2 ^ ((0 : Int) % 3).toNat) (b % 3 + 1) (6 * (a % 4 + 1))) := by simpa [wrL, confC] using k4
  have hconf := config_ok a 0 b
  rw [hnh, show (2 : Int) ^ ((0 : Int) % 3).toNat = 1 by decide] at k4' hconf
  obtain ⟨W, hW⟩ : ∃ W : Nat, b % 3 + 1 = W := ⟨(b % 3 + 1).toNat, by omega⟩
  have hW1 : 1 ≤ W := by omega
  rw [hW] at k4' hconf
  have z1 := e1.size
  have z2 := e2.size
  have E4 : Ext [] H H4 := ((e1.trans e2).trans e3).fresh e4 (by simp; omega)
  have stR := st.recol (b := b8) (by omega)
  have st4 := stR.ext E4
  have exC : ∀ x y z w, (confC x y z w).size = 4 ∧ (confC x y z w).extract 0 4 = confC x y z w := fun _ _ _ _ => ⟨rfl, by simp [confC]⟩
  unfold F6_5 F6_38
  simp -implicitDefEqProofs only [LdA_some, k4'.cells, (exC _ _ _ _).1, (exC _ _ _ _).2, Nat.zero_add, Nat.le_refl, if_true, Option.map_some, q_some]
  refine made_22 (n := 64) (ws := []) (bw := 0) st4 hconf (by omega) (Slc.nil _ _ _) (by simp) (by simp) fun H6 col6 bf sk e6 S6 fa6 ok6 => ?_
  rw [show (nh : Int).toNat = nh by omega, show (1 : Int).toNat = 1 by rfl, show (W : Int).toNat = W by omega, show (6 * (nh : Int)).toNat = 6 * nh by omega] at fa6 ok6
  have hdat : (List.map (lineOf (memNew 64 [])) (List.range (64 / 16))).length = 4 := by simp
  have I0 : Turns.Is W nh none 0 4 (Fab.new nh 1 W (6 * nh) (List.map (lineOf (memNew 64 [])) (List.range (64 / 16)))) := Turns.Is.new (by omega) _ hdat (by decide)
  generalize hf0 : Fab.new nh 1 W (6 * nh) (List.map (lineOf (memNew 64 [])) (List.range (64 / 16))) = f0 at fa6 ok6 I0
  have hx0 : f0.net.next = 0 := by rw [← hf0]; rfl
  have z4 := E4.size
  have L6 : Law H (recol col b8 .other) H6 col6 bf sk f0 := ⟨stR, E4.trans e6, fun x hx => S6 x (by omega), fa6, ok6⟩
  have o6 : Own H H6 col6 b8 (confC nh 1 W (6 * nh)) := ⟨by omega, (S6 b8 k4'.lt).trans (by simp [recol]), k4'.ext e6 (by simp)⟩
  simp -implicitDefEqProofs only [Ex_tuple, List.getElem?_toArray, List.getElem?_cons_zero, List.getElem?_cons_succ, q_some]
  unfold F6_6 F6_37
  simp -implicitDefEqProofs only [un_not, Bool.not_true, q_some, condV_bool, Bool.false_eq_true, if_false]
  unfold F6_7 F6_36 F6_8 F6_10 F6_35 F6_11 F6_12
  refine ⟨fun v11 v12 H' => ∃ (i : Nat) (v : Int) (o : Option Nat) (col' : Nat → Rl) (f : Fab), v11 = .int .u32 v ∧ v12 = .int .i64 i ∧ i ≤ l.length ∧ U32 v ∧ Law H (recol col b8 .other) H' col' bf sk f ∧ Own H H' col' b8 (confC nh 1 W (6 * nh)) ∧ Turns.Is W nh o v 4 f ∧ f.net.next ≤ 542 * i,
    fun _ v12 _ => l.length - (iv v12).toNat, ⟨0, 0, none, col6, f0, rfl, rfl, by omega, by unfold U32; omega, L6, o6, I0, by omega⟩, ?_⟩
  rintro v11 v12 H7 ⟨i, v, o, col7, f, rfl, rfl, hi, hv, L7, o7, I7, hx⟩
  unfold F6_13 F6_34
  simp -implicitDefEqProofs only [hlv (G := H7), q_some, Bin_lss_3, condV_bool]
  by_cases hlt : i < l.length
  · have hlt' : (i : Int) < l.length := by omega
    simp -implicitDefEqProofs only [hlt', decide_true, if_true]
    obtain ⟨p, hix, hcell⟩ := (hs.ext L7.e).at' i hlt
    generalize l[i] = t at hcell
    unfold F6_14 F6_16 F6_17 F6_33
    have c8 : cellAt H7 ⟨b8, 0, none⟩ = some (.int .i64 nh) := by rw [o7.k.cell]; rfl
    simp -implicitDefEqProofs only [hix, q_some, Ld_some, hcell, Fa_some, add_mk, Nat.zero_add, c8]
    refine Number_12 (by omega) ?_
    obtain ⟨h, hh⟩ : ∃ h : Nat, t % (nh : Int) = h := ⟨(t % (nh : Int)).toNat, by have := Int.emod_nonneg t (b := (nh : Int)) (by omega); omega⟩
    have hhn : h < nh := by have := Int.emod_lt_of_pos t (b := (nh : Int)) (by omega); omega
    rw [hh]
    unfold F6_18 F6_32
    have hh4 := I7.hn
    refine Ask_16 L7.fa L7.ok (by omega) fun H8 col8 m8 s8 fa8 => ?_
    have ok8 := L7.ok.ask (.inl (by omega)) (h : Int) 0 true
    have lk8 := (like_ask L7.ok (h : Int) 0 true).n
    have L8 := L7.step m8 s8 fa8 ok8
    have o8 := o7.mod m8 s8
    obtain ⟨g, st9, hst9, hset, I9⟩ := turn_settles I7 hhn hW1
    unfold F6_19 F6_31
    refine Settle_19 (N := 60) L8.fa L8.ok hset (by omega) fun H9 col9 m9 s9 fa9 ok9 hx9 => ?_
    have L9 := L8.step m9 s9 fa9 ok9
    have o9 := o8.mod m9 s9
    simp -implicitDefEqProofs only [un_not, Bool.not_true, q_some, condV_bool, Bool.false_eq_true, if_false]
    unfold F6_20 F6_30
    refine Read_18 L9.fa L9.ok (by unfold U32; omega) fun Ha cola ma sa faa => ?_
    have oka := L9.ok.read (h : Int) 4 4
    have lka := (like_read g (h : Int) 4 4).n
    obtain ⟨r1, Ia⟩ := Turns.read_has I9 hst9
    have La := L9.step ma sa faa oka
    have oa := o9.mod ma sa
    rw [r1]
    have evv : (v != v) = false := by simp
    have hx1 : IntKind.wrap .u32 (i : Int) = i := wu32 (by omega) (by omega)
    simp -implicitDefEqProofs only [Ex_tuple, List.getElem?_toArray, List.getElem?_cons_zero, List.getElem?_cons_succ, q_some]
    unfold F6_21 F6_29
    simp -implicitDefEqProofs only [un_not, Bool.not_true, q_some, gd_bool, if_true, Bin_neq_40, evv, Pk_bool, Bool.false_eq_true, if_false, cv_3_40, hx1, Bin_add_40, gl_bool]
    have hxu := wrap_u32 (IntKind.wrap .u32 (v + i) + 1)
    have hxe : ∃ x, x = IntKind.wrap .u32 (IntKind.wrap .u32 (v + i) + 1) := ⟨_, rfl⟩
    obtain ⟨x, hxe⟩ := hxe
    rw [← hxe] at hxu
    refine Write_20 La.fa La.ok (by unfold U32; omega) (by rw [← hxe]; exact hxu) fun Hb colb mb sb fab => ?_
    rw [← hxe] at fab ⊢
    have okb := La.ok.write (h : Int) 4 4 x (by omega) hxu
    have lkb := (like_write (g.read (h : Int) 4 4).1 (h : Int) 4 4 x).n
    obtain ⟨w1, Ib⟩ := Turns.write_has (x := x) Ia hst9
    have Lb := La.step mb sb fab okb
    have ob := oa.mod mb sb
    rw [w1]
    simp -implicitDefEqProofs only [un_not, Bool.not_true, q_some, Pk_bool, Bool.false_eq_true, if_false, condV_bool]
    unfold F6_22 F6_28
    simp -implicitDefEqProofs only [cv_3_40, hx1, q_some, Bin_add_40]
    rw [← hxe]
    refine look_6 (N := 542 * (i + 1)) Lb ob Ib (by omega) fun Hc colc f' Lc oc Ic hxc => ?_
    unfold F6_15
    have wk : IntKind.wrap .i64 ((i : Int) + 1) = ((i + 1 : Nat) : Int) := by rw [w64 (by omega) (by omega)]; simp
    simp -implicitDefEqProofs only [Bin_add_3, wk, q_some]
    exact ⟨trivial, trivial, trivial, ⟨i + 1, x, some h, colc, f', rfl, rfl, by omega, hxu, Lc, oc, Ic, hxc⟩, by simp; omega⟩
  · have hlt' : ¬ (i : Int) < l.length := by omega
    simp -implicitDefEqProofs only [hlt', decide_false, Bool.false_eq_true, if_false]
    exact tail_6 L7.fa L7.ok (by omega) I7 fun H8 e8 => hq H8 (L7.alloc e8).e
end YtacidjifocfhkaaGreatDoor
end Go.Proofs
namespace Go.Proofs
namespace YtacidjifocfhkaaGreatDoor
open Go Go.NW Go.Pm
open Go.ChangeShapes Go.WideShapes Go.ChangeAt Go.WideMaps Go.WideElems Go.RowKit
/-- a laid error: its block stands unfrozen and holds an interface value -/
theorem glob_of {P : Program} {n nm : String} {d : DataW Unit} {r : List (String × DataW Unit)} {W : World} {g : Nat} {ti : TypeId} {ms : Array (String × TypeId)}
    (h : laidMet P ((n, .iface nm d) :: r) W) (hg : P.globalNamed n = some g) (ht : (P.globals[g]?).map (·.type) = some ti) (hi : P.underlying ti = some (.interface ms)) :
    ∃ c t v, blk W.heap g c ∧ c[0]? = some (.iface t v) := by
  obtain ⟨ps, ⟨g0, t0, cs0, f0, p0, q0, hg0, ht0, hv0, hd0, _, e0⟩, _, hrows⟩ := h
  obtain rfl := Option.some.inj (hg.symm.trans hg0)
  obtain rfl := Option.some.inj (ht.symm.trans ht0)
  subst e0
  obtain ⟨l0⟩ := cs0
  obtain ⟨f', u, v, hcs, _, _⟩ := iface_of_trod hi hd0
  simp only at hcs
  subst hcs
  obtain ⟨⟨c, t, hb⟩, _⟩ := hrows g 0 (by simp [MemPlace.row])
  unfold World.var? at hv0
  rw [hg] at hv0
  simp only [Option.bind_some, hb, Option.some.injEq] at hv0
  subst hv0
  exact ⟨_, u, v, ⟨_, hb⟩, rfl⟩
/-- the errors' colours -/
def gcol (b : Nat) : Rl := if b < 5 then .glob else .other
theorem kept_of_ext {w w' : World} (e : Ext [] w.heap w'.heap) (s : SameW w w') (may : MemPlace → Prop) : w.keptBut w' may := by
  refine ⟨s.os, s.output, fun i hi => ?_⟩
  rw [e.same i hi (by simp)]
  exact (World.keptBut_refl w may).2.2 i hi
end YtacidjifocfhkaaGreatDoor
end Go.Proofs
namespace Go.Proofs
namespace YtacidjifocfhkaaGreatDoor
open Go Go.NW Go.Pm
open Go.ChangeShapes Go.WideShapes Go.ChangeAt Go.WideMaps Go.WideElems Go.RowKit
theorem own0 : ownKnob Tryz.prog.godebug = none := by kernel_rfl
theorem gn0 : Tryz.prog.globalNamed "corral/api.ErrRange" = some 0 := by kernel_rfl
theorem gn1 : Tryz.prog.globalNamed "corral/api.ErrMany" = some 1 := by kernel_rfl
theorem gn2 : Tryz.prog.globalNamed "corral/api.ErrKind" = some 2 := by kernel_rfl
theorem gn3 : Tryz.prog.globalNamed "corral/api.ErrFull" = some 3 := by kernel_rfl
theorem gn4 : Tryz.prog.globalNamed "corral/api.ErrPlace" = some 4 := by kernel_rfl
theorem gt0 : (Tryz.prog.globals[0]?).map (·.type) = some 26 := by kernel_rfl
theorem gt1 : (Tryz.prog.globals[1]?).map (·.type) = some 26 := by kernel_rfl
theorem gt2 : (Tryz.prog.globals[2]?).map (·.type) = some 26 := by kernel_rfl
theorem gt3 : (Tryz.prog.globals[3]?).map (·.type) = some 26 := by kernel_rfl
theorem gt4 : (Tryz.prog.globals[4]?).map (·.type) = some 26 := by kernel_rfl
/-- the listed five, in the rows' order -/
def laid5 : List (String × DataW Unit) := [("corral/api.ErrMany", Rows.laid_corral_api_ErrMany), ("corral/api.ErrKind", Rows.laid_corral_api_ErrKind), ("corral/api.ErrPlace", Rows.laid_corral_api_ErrPlace), ("corral/api.ErrRange", Rows.laid_corral_api_ErrRange), ("corral/api.ErrFull", Rows.laid_corral_api_ErrFull)]
theorem laid5_start {W : World} (h : laidMetH Tryz.prog laid5 W) : Start W.heap gcol := by
  rw [MakeChecks.laidMetH_plain _ _ _ (by kernel_rfl)] at h
  have h1 := glob_of h gn1 gt1 Tryz.underlying26
  have h2 := glob_of h.tail gn2 gt2 Tryz.underlying26
  have h4 := glob_of h.tail.tail gn4 gt4 Tryz.underlying26
  have h0 := glob_of h.tail.tail.tail gn0 gt0 Tryz.underlying26
  have h3 := glob_of h.tail.tail.tail.tail gn3 gt3 Tryz.underlying26
  refine ⟨fun b hb => ⟨by simp [gcol, hb], ?_⟩, fun x => by unfold gcol; split <;> simp⟩
  match b, hb with
  | 0, _ => exact h0
  | 1, _ => exact h1
  | 2, _ => exact h2
  | 3, _ => exact h3
  | 4, _ => exact h4
theorem laid5_door (os : Os) (args : Array Value) : laidMetH Tryz.prog laid5 ((World.doorLaid Tryz.prog 400 os).forCall (fun _ _ => 0) ⟨#[], args, []⟩).memory :=
  laidMetH_of_parts3 (fuel := 8) (laidMet_of_run' 8 (by kernel_rfl) (by kernel_rfl)) (by kernel_rfl) (by kernel_rfl)
end YtacidjifocfhkaaGreatDoor
end Go.Proofs
namespace Go.Proofs
namespace YtacidjifocfhkaaGreatDoor
open Go Go.NW Go.Pm
open Go.ChangeShapes Go.WideShapes Go.ChangeAt Go.WideMaps Go.WideElems Go.RowKit
theorem laidOut0 : laidOutB Tryz.prog = true := by kernel_rfl
theorem below_of {W W' : World} (e : Ext [] W.heap W'.heap) (s : SameW W W') : Below W.heap.size W W' :=
  ⟨s.os, s.tape, s.output, e.size, fun k hk => e.same k hk (by simp)⟩
/-- arguments read as before -/
theorem carry_all {H : Type} {enc : TypeId × Value → H} {P : Program} {W W' : World} (hl : laidOutB P = true) (hb : Below W.heap.size W W') :
    ∀ {ts : List TypeId} {vs : List Value} {ds : List (DataW H)} {p : List MemPlace}, ts.all (fun t => P.readableRec t && decide (t < P.types.size)) = true → (∀ x ∈ p, x.block < W.heap.size) →
      DataW.TrodAll enc P W 0 (fun _ => true) true ts vs ds p → DataW.TrodAll enc P W' 0 (fun b => decide (b < W.heap.size)) true ts vs ds p
  | [], vs, ds, p, _, _, h => by
    obtain ⟨rfl, rfl, rfl⟩ := trodAll_nil h
    exact rfl
  | t :: ts, vs, ds, p, hr, hlt, h => by
    obtain ⟨v, vs', d, ds', p1, p2, rfl, rfl, rfl, h1, h2⟩ := trodAll_cons h
    simp only [List.all_cons, Bool.and_eq_true, decide_eq_true_eq] at hr
    exact ⟨p1, p2, Below.trod hl hr.1.1 hr.1.2 h1 hb fun x hx => hlt x (List.mem_append_left _ hx), carry_all hl hb (by simpa using hr.2) (fun x hx => hlt x (List.mem_append_right _ hx)) h2, rfl⟩
end YtacidjifocfhkaaGreatDoor
end Go.Proofs
namespace Go.Proofs
namespace YtacidjifocfhkaaGreatDoor
open Go Go.NW Go.Pm
open Go.ChangeShapes Go.WideShapes Go.ChangeAt Go.WideMaps Go.WideElems Go.RowKit
set_option maxRecDepth 100000 in
theorem ints_open {H : Type} {enc : TypeId × Value → H} {W : World} {v : Value} {d : DataW H} {ps : List MemPlace} (hval : ∃ o n c, v = .slice o n c) (h : DataW.Trod enc Tryz.prog W 0 (fun _ => true) true 49 v d ps) : ∃ l, IntsAt W.heap v l := by
  obtain ⟨o, n, c, rfl⟩ := hval
  obtain ⟨fuel, h⟩ := h
  have c3 : Tryz.prog.cellsOf 3 = 1 := by kernel_rfl
  rcases Go.Deep.open_slice Tryz.underlying49 h with ⟨h1, _⟩ | ⟨a, len, cap, m, n', D, Pl, h1, _, hl, _, hm, _, hx⟩
  · simp [Value.cells] at h1
    obtain ⟨rfl, rfl, rfl⟩ := h1
    exact ⟨[], ⟨⟨none, 0, rfl⟩, fun i hi => by simp at hi⟩⟩
  · simp [Value.cells] at h1
    obtain ⟨rfl, rfl, rfl⟩ := h1
    simp at hm
    rw [c3] at hx
    obtain ⟨l, hll, hr⟩ := list_of (R := fun i (x : Int) => cellAt W.heap (a.add (i * 1)) = some (.int .i64 x)) (n := n) fun i hi => by
      obtain ⟨cs', h2, h3⟩ := hx i (by omega)
      obtain ⟨_, hlen, hcell⟩ := World.cells?_some h2
      obtain ⟨k, e, _, _⟩ := DataW.trod_int Tryz.underlying3 h3
      refine ⟨k, ?_⟩
      have := hcell 0 (by omega)
      rw [e] at this
      have e0 : ∀ p : Addr, p.add 0 = p := fun p => by simp [Addr.add]
      rw [e0] at this
      exact this
    refine ⟨l, ⟨⟨_, _, by rw [hll]⟩, fun i hi => ⟨a.add (i * 1), fun k => ?_, hr i hi⟩⟩⟩
    show (if (0 : Int) ≤ i ∧ (i : Int) < ((n : Nat) : Int) then some (Value.pointer (some (a.add ((i : Int).toNat * 1)))) else none) = _
    rw [if_pos ⟨by omega, by omega⟩, Int.toNat_natCast]
set_option maxRecDepth 100000 in
theorem lifted_6 (os : Os) (started : os.Started) (H : Type) (enc : TypeId × Value → H) :
    ReturnsInHanded {} Tryz.checked os 6 .any (fun w args => (Rows.fabricTurnsSpec.pre enc Tryz.prog Tryz.f6 [] false w args ∧ laidMetH Tryz.prog laid5 w) ∧ sizedMet enc Tryz.prog Tryz.f6 (OpenSpec.ofChange Rows.fabricTurnsSpec) false w args)
      (Rows.fabricTurnsSpec.post enc Tryz.prog Tryz.f6 false true false false) := by
  refine returnsInHanded_of_change_and (C := Tryz.checked) (X := fun w _ => laidMetH Tryz.prog laid5 w) (fun _ _ _ hh h => h.of_heap hh) own0 started (by kernel_rfl) Tryz.func6
    (ChangeSpec.witness_shaped (enc := enc) (C := Tryz.checked) (os := os) (X := fun w _ => laidMetH Tryz.prog laid5 w) false (World.doorLaid Tryz.prog 400 os) #[.int .i64 0, .int .i64 0, .slice none 0 0] 8 rfl (World.shaped_of_RefB (by kernel_rfl) (by kernel_rfl)) (by kernel_rfl) (by kernel_rfl) (by kernel_rfl) (laid5_door os _)) ?_
  intro W base args ds gs before hval0 hW _ _ hL _
  have hval : ∀ (j : Nat) t v, Tryz.f6.params[j]? = some t → args[j]? = some v → Value.okWide Tryz.prog W .any base t v := hval0
  have hW' := hW
  have hlt : ∀ x ∈ before, x.block < W.heap.size := fun x hx => by simpa using hW'.lt x hx
  obtain ⟨p, q, hA0, hV, rfl, hfz, hnd⟩ := hW
  have hA : DataW.TrodAll enc Tryz.prog W 0 (fun _ => true) true Tryz.f6.params.toList args.toList ds p := hA0
  rw [Tryz.params6] at hA hval
  have hA1 := hA
  obtain ⟨rfl, rfl⟩ := trodVars_none hV
  obtain ⟨v0, vs0, d0, ds0, p0, q0, hargs, rfl, rfl, h0, r0⟩ := trodAll_cons hA
  obtain ⟨v1, vs1, d1, ds1, p1, q1, rfl, rfl, rfl, h1, r1⟩ := trodAll_cons r0
  obtain ⟨v2, vs2, d2, ds2, p2, q2, rfl, rfl, rfl, h2, r2⟩ := trodAll_cons r1
  obtain ⟨rfl, rfl, rfl⟩ := trodAll_nil r2
  obtain rfl : args = #[v0, v1, v2] := by cases args; simp_all
  obtain ⟨b0, rfl, rfl, rfl, w0⟩ := open_int Tryz.underlying3 (hval 0 3 v0 rfl rfl) h0
  obtain ⟨b1, rfl, rfl, rfl, w1⟩ := open_int Tryz.underlying3 (hval 1 3 v1 rfl rfl) h1
  obtain ⟨l, hl⟩ := ints_open (okWide_slice Tryz.underlying49 (hval 2 49 v2 rfl rfl)) h2
  have st := laid5_start hL
  have hc := (Turns_6 (a := b0) (b := b1) (Q := fun r H' => r = .bool true ∧ Ext [] W.heap H') st hl fun H' e => ⟨rfl, e⟩).body (by kernel_rfl)
  refine (hc.2 W rfl).mono fun e W2 ⟨r, he, ⟨hr, hx⟩, hs⟩ => ?_
  subst he; subst hr
  refine ⟨_, rfl, ?_⟩
  have hps := carry_all laidOut0 (below_of hx hs) (by kernel_rfl) (fun x hx => hlt x (List.mem_append_left _ hx)) hA1
  exact ⟨_, _, _, [], _, [], hW', trodAll_mk1 (shut_bool Tryz.underlying4 _), hps, rfl, kept_of_ext hx hs _, fun h => by cases h⟩
theorem fabricTurns_row : Rows.FabricTurnsSaid :=
  OpenClaim.holds_of_wide 6 Tryz.f6 rfl rfl rfl rfl rfl rfl rfl ⟨rfl, rfl, rfl, rfl, rfl⟩ rfl rfl rfl rfl rfl (by kernel_rfl) Tryz.func6 (by kernel_rfl)
    (of_decide_eq_true (by kernel_rfl)) (by unfold Func.isWrapper; first | (rw [if_pos (by decide +kernel)]; kernel_rfl) | (rw [if_neg (by decide +kernel)]; exact ⟨rfl, rfl⟩))
    (fun os started H enc _ => lifted_6 os started H enc)
end YtacidjifocfhkaaGreatDoor
end Go.Proofs
namespace Go.Proofs
namespace YtacidjifocfhkaaGreatDoor
open Go
theorem fabricTurns_holds : Rows.FabricTurnsCardSaid :=
  Claim7.holds_tied_plain_at .later [] [.sentinel, .sentinel, .sentinel, .sentinel, .sentinel] true (true, "beaddecdb8a3510ccd37603628731803452b6c12f03e012ac52c753f3fbf71ac") true
    fabricTurns_row (fun _ h => by cases h) (by kernel_rfl) (fun _ h => by cases h) fabricTurns_row_tie rfl ⟨rfl, rfl⟩ (by kernel_rfl) rfl
    (fun f fn hf hfn => by
      obtain rfl : f = 6 := Option.some.inj ((show Tryz.prog.funcNamed "corral/corrallaw20.FabricTurns" = some 6 by kernel_rfl).symm.trans hf) |>.symm
      obtain rfl : fn = Tryz.f6 := (Option.some.inj (Tryz.func6.symm.trans hfn)).symm
      exact ⟨by kernel_rfl, fun j t ht => by
        rw [Tryz.params6] at ht
        have hm : t ∈ [3, 3, 49] := by simpa using Array.mem_of_getElem? ht
        have hall : ([3, 3, 49].all fun u => !Tryz.prog.wantsStandIn u) = true := by kernel_rfl
        exact (show Tryz.prog.wantsStandIn t = false by simpa using List.all_eq_true.1 hall t hm)⟩)
    (by kernel_rfl)
end YtacidjifocfhkaaGreatDoor
end Go.Proofs
#print axioms Go.Proofs.YtacidjifocfhkaaGreatDoor.fabricTurns_holds
