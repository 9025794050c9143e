/-
  Part 6 of the proof of: PROVED: for every number of harts and ways and every list of turns, FabricTurns returns true, and all arguments read afterwards as they read before. CONDITIONS: the five errors of package api that the row lists read, when the call begins, as the program's text lays them (the card ties them); nothing else is asked.
-/
import Derived.Test.YtacidjifocfhkaaGreatDoorTurne
import Derived.Test.YtacidjifocfhkaaGreatDoorProg
import Derived.KernelRfl
namespace Go.Proofs
open Go Go.NW Go.Pm
set_option maxRecDepth 20000
set_option linter.unusedSimpArgs false
set_option linter.unusedVariables false
namespace YtacidjifocfhkaaGreatDoor
theorem HomeAt.st {H : Hp} {b bs bi n off : Nat} {x : Value} {h h' : Home} {K : Hp → Prop} (k : HomeAt H b bs bi h) (hx : ∀ vs vi, wrL (homeC h vs vi) off x.cells.toList = homeC h' vs vi) (hn : x.cells.size = n)
    (ho : off + n ≤ 24) (h1 : x.cells.toList.all one = true) (hs : h'.sharers = h.sharers) (hi : h'.inv = h.inv)
    (hK : ∀ H', Ext [b] H H' → H'.size = H.size → HomeAt H' b bs bi h' → (∀ vs, cellAt H ⟨b, 7, none⟩ = some vs → cellAt H' ⟨b, 7, none⟩ = some vs) → (∀ vs, cellAt H ⟨b, 12, none⟩ = some vs → cellAt H' ⟨b, 12, none⟩ = some vs) → K H') : St n H (.pointer (some ⟨b, off, none⟩)) x K := by
  obtain ⟨⟨vs, vi, kb, ks, ki, o1, o2⟩, d1, d2, d3, ls, li⟩ := k
  refine St_i kb hn (by simpa [homeC] using ho) h1 fun H' e s k' => hK H' e s ⟨⟨vs, vi, ?_, ?_, ?_, o1, o2⟩, d1, d2, d3, by omega, by omega⟩ ?_ ?_
  · rw [hx] at k'; exact k'
  · rw [hs]; exact ks.ext e (by simp; exact fun e => d1 e.symm)
  · rw [hi]; exact ki.ext e (by simp; exact fun e => d2 e.symm)
  · rw [hx] at k'; intro ws hw; rw [← hw]; simp [kb.cell, k'.cell, homeC]
  · rw [hx] at k'; intro ws hw; rw [← hw]; simp [kb.cell, k'.cell, homeC]
theorem HomeAt.sh {H : Hp} {b bs bi i : Nat} {h : Home} (k : HomeAt H b bs bi h) (hi : i < h.sharers.length) :
    ∃ vs o, cellAt H ⟨b, 7, none⟩ = some vs ∧ (∀ kk, Ix 1 vs (.int kk i) = some (.pointer (some ⟨bs, o, none⟩))) ∧ cellAt H ⟨bs, o, none⟩ = some (.bool h.sharers[i]) ∧
      ∀ (x : Bool) (K : Hp → Prop), (∀ H', Ext [bs] H H' → H'.size = H.size → HomeAt H' b bs bi { h with sharers := h.sharers.set i x } → K H') → St 1 H (.pointer (some ⟨bs, o, none⟩)) (.bool x) K := by
  obtain ⟨⟨vs, vi, kb, ks, ki, o1, o2⟩, d1, d2, d3, ls, li⟩ := k
  have hl : i < (boolsC h.sharers).length := by simpa [boolsC] using hi
  obtain ⟨o, hix, hc, _⟩ := ks.at hl
  refine ⟨vs, o, by simp [kb.cell, homeC], hix, ?_, ?_⟩
  · have := hc 0 (by omega); simpa [boolsC] using this
  · intro x K hK
    obtain ⟨o', hix', hst⟩ := ks.st hl (x := .bool x) (by simp) (by simp)
    have : o' = o := by have e1 := hix .i64; have e2 := hix' .i64; rw [e1] at e2; simpa using e2.symm
    subst this
    refine hst K fun H' e s k' => hK H' e s ⟨⟨vs, vi, ?_, ?_, ki.ext e (by simp; exact fun e => d3 e.symm), o1, o2⟩, d1, d2, d3, by omega, by omega⟩
    · have := kb.ext e (by simp; exact d1); simpa [homeC] using this
    · have e0 : (boolsC h.sharers).set i (Value.cells (.bool x)).toList = boolsC (h.sharers.set i x) := by simp [boolsC, List.map_set]
      rw [e0] at k'; exact k'
theorem HomeAt.iv {H : Hp} {b bs bi i : Nat} {h : Home} (k : HomeAt H b bs bi h) (hi : i < h.inv.length) :
    ∃ vi o, cellAt H ⟨b, 12, none⟩ = some vi ∧ (∀ kk, Ix 1 vi (.int kk i) = some (.pointer (some ⟨bi, o, none⟩))) ∧ cellAt H ⟨bi, o, none⟩ = some (.bool h.inv[i]) ∧
      ∀ (x : Bool) (K : Hp → Prop), (∀ H', Ext [bi] H H' → H'.size = H.size → HomeAt H' b bs bi { h with inv := h.inv.set i x } → K H') → St 1 H (.pointer (some ⟨bi, o, none⟩)) (.bool x) K := by
  obtain ⟨⟨vs, vi, kb, ks, ki, o1, o2⟩, d1, d2, d3, ls, li⟩ := k
  have hl : i < (boolsC h.inv).length := by simpa [boolsC] using hi
  obtain ⟨o, hix, hc, _⟩ := ki.at hl
  refine ⟨vi, o, by simp [kb.cell, homeC], hix, ?_, ?_⟩
  · have := hc 0 (by omega); simpa [boolsC] using this
  · intro x K hK
    obtain ⟨o', hix', hst⟩ := ki.st hl (x := .bool x) (by simp) (by simp)
    have : o' = o := by have e1 := hix .i64; have e2 := hix' .i64; rw [e1] at e2; simpa using e2.symm
    subst this
    refine hst K fun H' e s k' => hK H' e s ⟨⟨vs, vi, ?_, ks.ext e (by simp; exact d3), ?_, o1, o2⟩, d1, d2, d3, by omega, by omega⟩
    · have := kb.ext e (by simp; exact d2); simpa [homeC] using this
    · have e0 : (boolsC h.inv).set i (Value.cells (.bool x)).toList = boolsC (h.inv.set i x) := by simp [boolsC, List.map_set]
      rw [e0] at k'; exact k'
theorem HomeAt.cLine {H : Hp} {b bs bi : Nat} {h : Home} (k : HomeAt H b bs bi h) : cellAt H ⟨b, 0, none⟩ = some (.int .i64 h.line) := by
  obtain ⟨⟨vs, vi, kb, _⟩, _⟩ := k; simp [kb.cell, homeC]
theorem HomeAt.cHarts {H : Hp} {b bs bi : Nat} {h : Home} (k : HomeAt H b bs bi h) : cellAt H ⟨b, 1, none⟩ = some (.int .i64 h.harts) := by
  obtain ⟨⟨vs, vi, kb, _⟩, _⟩ := k; simp [kb.cell, homeC]
theorem HomeAt.cOwner {H : Hp} {b bs bi : Nat} {h : Home} (k : HomeAt H b bs bi h) : cellAt H ⟨b, 6, none⟩ = some (.int .i64 h.owner) := by
  obtain ⟨⟨vs, vi, kb, _⟩, _⟩ := k; simp [kb.cell, homeC]
theorem HomeAt.cBusy {H : Hp} {b bs bi : Nat} {h : Home} (k : HomeAt H b bs bi h) : cellAt H ⟨b, 8, none⟩ = some (.bool h.busy) := by
  obtain ⟨⟨vs, vi, kb, _⟩, _⟩ := k; simp [kb.cell, homeC]
theorem HomeAt.cServes {H : Hp} {b bs bi : Nat} {h : Home} (k : HomeAt H b bs bi h) : cellAt H ⟨b, 9, none⟩ = some (.int .i64 h.serves) := by
  obtain ⟨⟨vs, vi, kb, _⟩, _⟩ := k; simp [kb.cell, homeC]
theorem HomeAt.cBy {H : Hp} {b bs bi : Nat} {h : Home} (k : HomeAt H b bs bi h) : cellAt H ⟨b, 10, none⟩ = some (.int .i64 h.by_) := by
  obtain ⟨⟨vs, vi, kb, _⟩, _⟩ := k; simp [kb.cell, homeC]
theorem HomeAt.cAsked {H : Hp} {b bs bi : Nat} {h : Home} (k : HomeAt H b bs bi h) : cellAt H ⟨b, 11, none⟩ = some (.int .i64 h.asked) := by
  obtain ⟨⟨vs, vi, kb, _⟩, _⟩ := k; simp [kb.cell, homeC]
theorem HomeAt.cData {H : Hp} {b bs bi : Nat} {h : Home} (k : HomeAt H b bs bi h) : cellsAt H ⟨b, 2, none⟩ 4 = some (wordsC h.data) := by
  obtain ⟨⟨vs, vi, kb, _⟩, _⟩ := k; simp [kb.cells, homeC, wordsC]
theorem HomeAt.lb {H : Hp} {b bs bi : Nat} {h : Home} (k : HomeAt H b bs bi h) : b < H.size := by
  obtain ⟨⟨vs, vi, kb, _⟩, _⟩ := k; exact kb.lt
/-- one message of a home's, in new memory -/
theorem one_to {H : Hp} {b bs bi : Nat} {h : Home} {x y : Int} {K : RT1} (k : HomeAt H b bs bi h)
    (hq : ∀ H' v bm, Ext [] H H' → Msgs H' v [h.to x y] bm → H.size ≤ bm → K v H') :
    NCalls Tryz.prog 127 #[at0 b, .int .i64 x, .int .i64 y] H (fun t H1 => Bsl #[Value.int IntKind.i64 0, Value.int IntKind.i64 0, Value.int IntKind.i64 0, Value.int IntKind.i64 0, Value.int IntKind.u32 0, Value.int IntKind.u32 0, Value.int IntKind.u32 0, Value.int IntKind.u32 0, Value.bool false, Value.bool false, Value.bool false] 11 66 1 [(0, t)] H1 K) := by
  refine to_spec k fun H1 e1 => ?_
  refine msg_slice fun H2 bm v hbm e2 hm => ?_
  exact hq H2 v bm (e1.trans e2) hm (by have := e1.size; omega)
theorem owned_spec {H : Hp} {b bs bi : Nat} {h : Home} {Q : RT1} (w : h.Wf) (k : HomeAt H b bs bi h)
    (hq : ∀ H' v bm, Ext [b, bs, bi] H H' → HomeAt H' b bs bi h.owned.1 → Msgs H' v h.owned.2 bm → H.size ≤ bm → Q v H') : NCalls Tryz.prog 128 #[at0 b] H Q := by
  refine E128 ?_
  unfold F128_0
  refine waits_spec w k ?_
  cases hw : h.waits with
  | true =>
    simp
    rw [show h.owned = (h, []) by simp [Home.owned, hw]] at hq
    exact hq H _ H.size (.refl _ _) k (Msgs.nil _ _) (Nat.le_refl _)
  | false =>
    obtain ⟨⟨vs, vi, kb, ks, ki, o1, o2⟩, d1, d2, d3, ls, li⟩ := id k
    simp [kb.cell, homeC]
    refine k.st (h' := { h with owner := h.serves }) (fun _ _ => by simp [wrL, homeC]) (by simp) (by simp) (by simp) rfl rfl fun H1 e1 s1 k1 y1 z1 => ?_
    obtain ⟨⟨vs1, vi1, kb1, ks1, ki1, p1, p2⟩, _, _, _, _, _⟩ := id k1
    simp [kb1.cell, homeC]
    refine clear_i ty_63 (z := .bool false) (by kernel_rfl) ks1 fun H2 e2 s2 ks2 => ?_
    have k2 : HomeAt H2 b bs bi { h with owner := h.serves, sharers := List.replicate h.sharers.length false } := by
      refine ⟨⟨vs1, vi1, ?_, ?_, ki1.ext e2 (by simp; exact fun e => d3 e.symm), p1, p2⟩, d1, d2, d3, by omega, by omega⟩
      · have := kb1.ext e2 (by simp; exact d1); simpa [homeC] using this
      · simpa [boolsC] using ks2
    obtain ⟨⟨vs2, vi2, kb2, ks2', ki2, p3, p4⟩, _, _, _, _, _⟩ := id k2
    have E2 : Ext [b, bs, bi] H H2 := (e1.mono (by simp)).trans (e2.mono (by simp))
    have z2 := E2.size
    have fin3 : ∀ (x : Msg), h.owned = ({ h with owner := h.serves, sharers := List.replicate h.sharers.length false }, [x]) → ∀ H' v bm, Ext [] H2 H' → Msgs H' v [x] bm → H2.size ≤ bm → Q v H' := by
      intro x ho H' v bm e3 hm hbm
      rw [ho] at hq
      exact hq H' v bm (E2.trans (e3.mono (by simp))) (k2.ext0 e3) hm (by omega)
    simp [kb2.cell, kb2.cells, homeC]
    by_cases c1 : h.owner = h.serves
    · simp [c1, kb2.cell, homeC]
      refine one_to k2 (fin3 _ ?_)
      simp [Home.owned, hw, c1]
    · by_cases c2 : h.back.has = true
      · simp [c1, c2]
        refine hand_spec k2 (d := h.back.data) (fin3 _ ?_)
        simp [Home.owned, hw, c1, c2]
      · simp [c1, c2]
        refine hand_spec k2 (d := h.data) (fin3 _ ?_)
        simp [Home.owned, hw, c1, c2]
theorem shared_spec {H : Hp} {b bs bi : Nat} {h : Home} {m : Msg} {Q : RT1} (w : h.Wf) (k : HomeAt H b bs bi h) (hs : 0 ≤ h.serves ∧ h.serves < h.harts) (ho : 0 ≤ h.owner)
    (hq : ∀ H' v bm, Ext [b, bs, bi] H H' → HomeAt H' b bs bi (h.shared m).1 → Msgs H' v (h.shared m).2 bm → H.size ≤ bm → Q v H') : NCalls Tryz.prog 129 #[at0 b, .agg (msgC m)] H Q := by
  refine E129 ?_
  unfold F129_0 F129_16
  have lb := k.lb
  have lbs := k.ls
  have lbi := k.li
  obtain ⟨i, hi⟩ : ∃ i : Nat, h.serves = i := ⟨h.serves.toNat, by omega⟩
  obtain ⟨j, hj⟩ : ∃ j : Nat, h.owner = j := ⟨h.owner.toNat, by omega⟩
  have hil : i < h.sharers.length := by rw [w.sh]; omega
  have hjl : j < h.sharers.length := by rw [w.sh]; have := w.ow; omega
  refine New_i fun H1 b1 hb1 e1 s1 k1 => ?_
  replace k := k.ext0 e1
  unfold F129_1 F129_15
  obtain ⟨vs, o, hc, hix, _, hst⟩ := k.sh hil
  simp [hc, k.cServes, hi, hix]
  refine hst true _ fun H2 e2 s2 k2 => ?_
  replace k1 := k1.ext e2 (by simp; omega)
  unfold F129_2 F129_14
  simp [k2.cData]
  refine New_i fun H3 b3 hb3 e3 s3 k3 => ?_
  replace k1 := k1.ext e3 (by simp)
  replace k2 := k2.ext0 e3
  refine St_i k3 (by simp [wordsC]) (by simp) (by simp [wordsC]) fun H4 e4 s4 k4 => ?_
  replace k1 := k1.ext e4 (by simp; omega)
  replace k2 := k2.ext e4 (by simp; omega) (by simp; omega) (by simp; omega)
  have k4' : blk H4 b3 (wordsC h.data) := by simpa [wrL, wordsC] using k4
  have E4 : Ext [b, bs, bi] H H4 := ((((e1.mono (by simp)).trans (e2.mono (by simp))).trans (e3.mono (by simp))).fresh e4 (by simp; omega))
  have key5 : ∀ (H2 : Hp) (h2 : Home) (d : Words), HomeAt H2 b bs bi h2 → Ext [b, bs, bi] H H2 → blk H2 b3 (wordsC d) → h.shared m = (h2, [h2.hand d false false]) → F129_5 (at0 b) (at0 b3) H2 Q := by
    intro H2 h2 d k2 E2 kd hsh
    unfold F129_5
    simp [kd.cells, wordsC]
    rw [hsh] at hq
    refine hand_spec k2 (d := d) fun H5 v bm e5 hm hbm => ?_
    exact hq H5 v bm (E2.trans (e5.mono (by simp))) (k2.ext0 e5) hm (by have := E2.size; omega)
  have key4 : ∀ (H5 : Hp) (d : Words), HomeAt H5 b bs bi { h with sharers := h.sharers.set i true } → Ext [b, bs, bi] H H5 → H4.size ≤ H5.size → blk H5 b3 (wordsC d) → blk H5 b1 (msgC m) → d = (if m.dirty = true ∨ m.has = true then m.data else h.data) →
      F129_4 (at0 b) (at0 b1) (at0 b3) H5 Q := by
    intro H5 d k5 E5 z5 kd km hd
    unfold F129_4 F129_6 F129_12
    simp [km.cell, msgC]
    unfold F129_7
    cases hmd : m.dirty with
    | true =>
      simp
      unfold F129_11
      refine key5 H5 _ d k5 E5 kd ?_
      simp [Home.shared, hmd, hi, hd]
    | false =>
      simp
      unfold F129_8 F129_10
      have key9 : ∀ (H6 : Hp) (ss : List Bool), HomeAt H6 b bs bi { h with sharers := ss } → Ext [b, bs, bi] H H6 → H4.size ≤ H6.size → blk H6 b3 (wordsC d) → ss = (if m.has = true then (h.sharers.set i true).set j true else h.sharers.set i true) → F129_9 (at0 b) (at0 b3) H6 Q := by
        intro H6 ss k6 E6 z6 kd6 hss
        unfold F129_9
        simp
        refine k6.st (h' := { h with sharers := ss, owner := -1 }) (fun _ _ => by simp [wrL, homeC]) (by simp) (by simp) (by simp) rfl rfl fun H7 e7 s7 k7 y7 z7 => ?_
        refine key5 H7 _ d k7 (E6.trans (e7.mono (by simp))) (kd6.ext e7 (by simp; omega)) ?_
        simp [Home.shared, hmd, hi, hd, hss, hj]
      cases hmh : m.has with
      | true =>
        obtain ⟨vs', o', hc', hix', _, hst'⟩ := k5.sh (i := j) (by simpa using hjl)
        simp [km.cell, msgC, hmh, hc', k5.cOwner, hj, hix']
        refine hst' true _ fun H6 e6 s6 k6 => ?_
        exact key9 H6 _ k6 (E5.trans (e6.mono (by simp))) (by omega) (kd.ext e6 (by simp; omega)) (by simp [hmh])
      | false =>
        simp [km.cell, msgC, hmh]
        exact key9 H5 _ k5 E5 z5 kd (by simp [hmh])
  unfold F129_3 F129_13
  by_cases hdh : m.dirty = true ∨ m.has = true
  · have st : St 4 H4 (at0 b3) (.agg (wordsC m.data)) (fun H_26 => F129_4 (at0 b) (at0 b1) (at0 b3) H_26 Q) := by
      refine St_i k4' (by simp [wordsC]) (by simp [wordsC]) (by simp [wordsC]) fun H5 e5 s5 k5 => ?_
      exact key4 H5 m.data (k2.ext e5 (by simp; omega) (by simp; omega) (by simp; omega)) (E4.fresh e5 (by simp; omega)) (by omega) (by simpa [wrL, wordsC] using k5) (k1.ext e5 (by simp; omega)) (by simp [hdh])
    cases hmd : m.dirty with
    | true =>
      simp [k1.cell, k1.cells, msgC, hmd]
      simpa [wordsC] using st
    | false =>
      have hmh : m.has = true := by simpa [hmd] using hdh
      simp [k1.cell, k1.cells, msgC, hmd, hmh]
      simpa [wordsC] using st
  · have hmd : m.dirty = false := by cases h : m.dirty <;> simp [h] at hdh ⊢
    have hmh : m.has = false := by cases h : m.has <;> simp [h] at hdh ⊢
    simp [k1.cell, msgC, hmd, hmh]
    exact key4 H4 h.data k2 E4 (Nat.le_refl _) k4' k1 (by simp [hmd, hmh])
theorem aloneFrom_drop {r : Int} : ∀ {l : List Bool} {i k : Nat}, k ≤ l.length → Home.aloneFrom r l i = (Home.aloneFrom r (l.take k) i && Home.aloneFrom r (l.drop k) (i + k))
  | l, i, 0, _ => by simp [Home.aloneFrom]
  | [], i, k + 1, h => by simp at h
  | s :: ss, i, k + 1, h => by
    simp only [List.take_succ_cons, List.drop_succ_cons, Home.aloneFrom]
    rw [aloneFrom_drop (l := ss) (i := i + 1) (k := k) (by simpa using h), Bool.and_assoc, show i + 1 + k = i + (k + 1) by omega]
theorem aloneFrom_snoc {r : Int} {l : List Bool} {k : Nat} (hk : k < l.length) : Home.aloneFrom r (l.take (k + 1)) 0 = (Home.aloneFrom r (l.take k) 0 && (!l[k] || ((k : Int) == r))) := by
  have e : l.take (k + 1) = l.take k ++ [l[k]] := by rw [List.take_succ_eq_append_getElem hk]
  rw [aloneFrom_drop (l := l.take (k + 1)) (k := k) (by simp; omega)]
  rw [List.take_take, Nat.min_eq_left (by omega)]
  rw [e, List.drop_append_of_le_length (by simp; omega), List.drop_of_length_le (by rw [List.length_take]; omega)]
  simp [Home.aloneFrom]
theorem share_home {H : Hp} {b bs bi : Nat} {h : Home} {Q : RT1} (w : h.Wf) (k : HomeAt H b bs bi h) (hs : 0 ≤ h.serves ∧ h.serves < h.harts)
    (hq : ∀ H' v bm, Ext [b, bs, bi] H H' → HomeAt H' b bs bi h.share.1 → Msgs H' v h.share.2 bm → H.size ≤ bm → Q v H') : NCalls Tryz.prog 125 #[at0 b] H Q := by
  refine E125 ?_
  unfold F125_0 F125_18 F125_1 F125_17
  obtain ⟨i, hi⟩ : ∃ i : Nat, h.serves = i := ⟨h.serves.toNat, by omega⟩
  have hil : i < h.sharers.length := by rw [w.sh]; omega
  simp [k.cServes, hi]
  unfold F125_2 F125_16
  by_cases c : h.owner ≠ -1 ∧ h.owner ≠ h.serves
  · have c1 := c.1
    have c2 : ¬ h.owner = (i : Int) := by rw [← hi]; exact c.2
    simp [k.cOwner, c1, c2]
    refine k.st (h' := { h with asked := h.owner }) (fun _ _ => by simp [wrL, homeC]) (by simp) (by simp) (by simp) rfl rfl fun H1 e1 s1 k1 y1 z1 => ?_
    simp [k1.cOwner]
    rw [show h.share = ({ h with asked := h.owner }, [h.to h.owner 5]) by simp [Home.share, c.1, c.2]] at hq
    refine one_to k1 fun H2 v bm e2 hm hbm => ?_
    exact hq H2 v bm ((e1.mono (by simp)).trans (e2.mono (by simp))) (k1.ext0 e2) hm (by omega)
  · have rest : F125_3 (at0 b) (.int .i64 i) H Q := by
      unfold F125_3 F125_15
      simp
      refine k.st (h' := { h with owner := -1 }) (fun _ _ => by simp [wrL, homeC]) (by simp) (by simp) (by simp) rfl rfl fun H1 e1 s1 k1 y1 z1 => ?_
      unfold F125_4 F125_14 F125_5 F125_9 F125_13
      obtain ⟨⟨vs, vi, kb, ks, ki, o1, o2⟩, d1, d2, d3, ls, li⟩ := id k1
      obtain ⟨a, cap, hv, hcap, hn⟩ := ks.shape
      have hl : (boolsC h.sharers).length = h.sharers.length := by simp [boolsC]
      have hc7 : cellAt H1 ⟨b, 7, none⟩ = some vs := by simp [kb.cell, homeC]
      have hlen : pv Tryz.prog (Builtin.len_ #[63] 0 #[vs]) = some (.int .i64 h.sharers.length) := by rw [hv]; simp [hl]
      simp [hc7, hlen]
      unfold F125_10 F125_11
      refine ⟨fun va vk H' => H' = H1 ∧ ∃ n : Nat, vk = .int .i64 n ∧ n ≤ h.sharers.length ∧ va = .bool (Home.aloneFrom i (h.sharers.take n) 0), fun _ vk _ => h.sharers.length - (iv vk).toNat, ⟨rfl, 0, rfl, by omega, by simp [Home.aloneFrom]⟩, ?_⟩
      rintro n4 n46 H2' ⟨hH2, n, rfl, hn', rfl⟩
      subst H2'
      unfold F125_12
      by_cases hlt : n < h.sharers.length
      · obtain ⟨vs', o, hc', hix, hcell, _⟩ := k1.sh (i := n) (by simpa using hlt)
        have hvs : vs' = vs := by rw [hc7] at hc'; simpa using hc'.symm
        subst hvs
        have hsn := aloneFrom_snoc (r := (i : Int)) hlt
        have wn : IntKind.wrap .i64 ((n : Int) + 1) = ((n + 1 : Nat) : Int) := by rw [w64 (by omega) (by have := w.harts; have := w.sh; omega)]; simp
        cases ha : Home.aloneFrom i (h.sharers.take n) 0 with
        | false =>
          simp [show (n : Int) < h.sharers.length by omega, hix, hcell]
          rw [wn]
          refine ⟨⟨n + 1, rfl, by omega, ?_⟩, by simp; omega⟩
          rw [hsn, ha]; simp
        | true =>
          cases hx : h.sharers[n] with
          | false =>
            simp [show (n : Int) < h.sharers.length by omega, hix, hcell, hx]
            rw [wn]
            refine ⟨⟨n + 1, rfl, by omega, ?_⟩, by simp; omega⟩
            rw [hsn, ha, hx]; simp
          | true =>
            simp [show (n : Int) < h.sharers.length by omega, hix, hcell, hx]
            rw [wn]
            refine ⟨⟨n + 1, rfl, by omega, ?_⟩, by simp; omega⟩
            rw [hsn, ha, hx]; simp
      · have hne : n = h.sharers.length := by omega
        subst hne
        rw [List.take_length]
        simp
        unfold F125_6 F125_8
        have key7 : ∀ (H3 : Hp) (h3 : Home) (al : Bool), HomeAt H3 b bs bi h3 → Ext [b, bs, bi] H H3 → h3.data = h.data → h.share = (h3, [h3.hand h.data false al]) → F125_7 (at0 b) (.bool al) H3 Q := by
          intro H3 h3 al k3 e3 hd hsh
          unfold F125_7
          simp [k3.cData, hd]
          rw [hsh] at hq
          refine hand_spec k3 (d := h.data) fun H5 v bm e5 hm hbm => ?_
          exact hq H5 v bm (e3.trans (e5.mono (by simp))) (k3.ext0 e5) hm (by have := e3.size; omega)
        have E1 : Ext [b, bs, bi] H H1 := e1.mono (by simp)
        have hshare : h.share = (if Home.aloneFrom h.serves h.sharers 0 = true then ({ h with owner := h.serves, sharers := h.sharers.set h.serves.toNat false }, [({ h with owner := h.serves, sharers := h.sharers.set h.serves.toNat false } : Home).hand h.data false true]) else ({ h with owner := -1, sharers := h.sharers.set h.serves.toNat true }, [({ h with owner := -1, sharers := h.sharers.set h.serves.toNat true } : Home).hand h.data false false])) := by
          unfold Home.share; rw [if_neg c]
        cases ha : Home.aloneFrom i h.sharers 0 with
        | true =>
          obtain ⟨vs', o, hc', hix, _, _⟩ := k1.sh (i := i) (by simpa using hil)
          have hvs : vs' = vs := by rw [hc7] at hc'; simpa using hc'.symm
          subst hvs
          simp [hc7]
          refine k1.st (h' := { h with owner := i }) (fun _ _ => by simp [wrL, homeC]) (by simp) (by simp) (by simp) rfl rfl fun H2 e2 s2 k2 y2 z2 => ?_
          obtain ⟨vs2, o2', hc2, hix2, _, hst2⟩ := k2.sh (i := i) (by simpa using hil)
          have hc72 : cellAt H2 ⟨b, 7, none⟩ = some vs' := y2 _ hc7
          have hvs2 : vs2 = vs' := by rw [hc72] at hc2; simpa using hc2.symm
          subst hvs2
          simp [hix2]
          refine hst2 false _ fun H3 e3 s3 k3 => ?_
          refine key7 H3 _ true k3 ((E1.trans (e2.mono (by simp))).trans (e3.mono (by simp))) rfl ?_
          rw [hshare]
          simp [hi, ha]
        | false =>
          obtain ⟨vs', o, hc', hix, _, hst⟩ := k1.sh (i := i) (by simpa using hil)
          have hvs : vs' = vs := by rw [hc7] at hc'; simpa using hc'.symm
          subst hvs
          simp [hc7, hix]
          refine hst true _ fun H3 e3 s3 k3 => ?_
          refine key7 H3 _ false k3 (E1.trans (e3.mono (by simp))) rfl ?_
          rw [hshare]
          simp [hi, ha]
    by_cases c1 : h.owner = -1
    · simp [k.cOwner, c1]; simpa using rest
    · have c2 : h.owner = (i : Int) := by rw [← hi]; exact Classical.not_not.1 fun e => c ⟨c1, e⟩
      simp [k.cOwner, c1, c2]; simpa using rest
end YtacidjifocfhkaaGreatDoor
end Go.Proofs
namespace Go.Proofs
open Go Go.NW Go.Pm
set_option maxRecDepth 20000
set_option linter.unusedSimpArgs false
set_option linter.unusedVariables false
namespace YtacidjifocfhkaaGreatDoor
theorem HomeAt.c7 {S : List Nat} {H H' : Hp} {b bs bi : Nat} {h : Home} {v : Value} (k : HomeAt H b bs bi h) (e : Ext S H H') (hb : b ∉ S) (hv : cellAt H ⟨b, 7, none⟩ = some v) : cellAt H' ⟨b, 7, none⟩ = some v := by
  obtain ⟨⟨vs, vi, kb, _⟩, _⟩ := k
  rw [← hv]; simp [kb.cell, (kb.ext e hb).cell, homeC]
theorem invFrom_len (r : Int) : ∀ (ss vs : List Bool) (i : Nat), (Home.invFrom r ss vs i).length = vs.length
  | s :: ss, v :: vs, i => by simp [Home.invFrom, invFrom_len r ss vs (i + 1)]
  | [], vs, i => by simp [Home.invFrom]
  | s :: ss, [], i => by simp [Home.invFrom]
theorem invFrom_snoc (r : Int) : ∀ (n : Nat) (ss vs : List Bool) (i : Nat) (h1 : n < ss.length) (h2 : n < vs.length),
    Home.invFrom r (ss.take (n + 1)) vs i = if ss[n] && (((i + n : Nat) : Int) != r) then (Home.invFrom r (ss.take n) vs i).set n true else Home.invFrom r (ss.take n) vs i
  | 0, s :: ss, v :: vs, i, h1, h2 => by
    cases s <;> simp [Home.invFrom]
    by_cases hr : (i : Int) = r <;> simp [hr]
  | n + 1, s :: ss, v :: vs, i, h1, h2 => by
    have := invFrom_snoc r n ss vs (i + 1) (by simpa using h1) (by simpa using h2)
    simp only [List.take_succ_cons, Home.invFrom, List.getElem_cons_succ, List.set_cons_succ]
    rw [this, show i + 1 + n = i + (n + 1) by omega]
    split <;> rfl
theorem askL_append (h : Home) : ∀ (l1 l2 : List Bool) (i : Nat), h.askL (l1 ++ l2) i = h.askL l1 i ++ h.askL l2 (i + l1.length)
  | [], l2, i => by simp [Home.askL]
  | v :: l1, l2, i => by simp [Home.askL, askL_append h l1 l2 (i + 1), show i + 1 + l1.length = i + (l1.length + 1) by omega]
theorem askL_snoc (h : Home) {l : List Bool} {n : Nat} (hn : n < l.length) : h.askL (l.take (n + 1)) 0 = h.askL (l.take n) 0 ++ ((if l[n] then [h.to n 4] else []) ++ (if h.asked = (n : Int) then [h.to n 6] else [])) := by
  rw [List.take_succ_eq_append_getElem hn, askL_append]
  simp [Home.askL, Nat.min_eq_left (Nat.le_of_lt hn)]
theorem askL_len (h : Home) : ∀ (l : List Bool) (i : Nat), (h.askL l i).length ≤ 2 * l.length
  | [], i => by simp [Home.askL]
  | v :: l, i => by
    have := askL_len h l (i + 1)
    simp only [Home.askL, List.length_append, List.length_cons]
    have h1 : (if v = true then [h.to i 4] else []).length ≤ 1 := by split <;> simp
    have h2 : (if h.asked = (i : Int) then [h.to i 6] else []).length ≤ 1 := by split <;> simp
    omega
theorem Wf.inv {h : Home} (w : h.Wf) {iv : List Bool} (hl : iv.length = h.inv.length) : ({ h with inv := iv } : Home).Wf := ⟨w.harts, w.sh, by rw [← w.iv]; exact hl, w.ow, w.sv, w.ak⟩
theorem own_spec {H : Hp} {b bs bi : Nat} {h : Home} {Q : RT1} (w : h.Wf) (k : HomeAt H b bs bi h)
    (hq : ∀ H' v bm, Ext [b, bs, bi] H H' → HomeAt H' b bs bi h.own.1 → Msgs H' v h.own.2 bm → H.size ≤ bm → Q v H') : NCalls Tryz.prog 126 #[at0 b] H Q := by
  have lb := k.lb
  have lbs := k.ls
  have lbi := k.li
  have wh := w.harts
  refine E126 ?_
  unfold F126_0 F126_35 F126_1 F126_34 F126_2 F126_23 F126_33
  obtain ⟨⟨vs, vi, kb, ks, ki, o1, o2⟩, d1, d2, d3, ls, li⟩ := id k
  obtain ⟨a, cap, hv, hcap, hn⟩ := ks.shape
  have hl : (boolsC h.sharers).length = h.sharers.length := by simp [boolsC]
  have hc7 : cellAt H ⟨b, 7, none⟩ = some vs := by simp [kb.cell, homeC]
  have hlen : pv Tryz.prog (Builtin.len_ #[63] 0 #[vs]) = some (.int .i64 h.sharers.length) := by rw [hv]; simp [hl]
  simp [hc7, hlen]
  have fin2 : ∀ (h2 : Home) (H2 : Hp), h2.Wf → HomeAt H2 b bs bi h2 → Ext [b, bs, bi] H H2 → h.own = (if (h2.askL h2.inv 0).length > 0 then (h2, h2.askL h2.inv 0) else h2.owned) → F126_4 (at0 b) (.slice none 0 0) H2 Q := by
    intro h2 H2 w2 k2 e2 ho
    unfold F126_4 F126_6 F126_21
    simp [k2.cHarts]
    unfold F126_7 F126_8
    refine ⟨fun v3 v60 H' => ∃ (n bm : Nat), v60 = .int .i64 n ∧ n ≤ h2.harts ∧ HomeAt H' b bs bi h2 ∧ Ext [b, bs, bi] H H' ∧ Msgs H' v3 (h2.askL (h2.inv.take n) 0) bm ∧ H.size ≤ bm, fun _ vk _ => h2.harts - (iv vk).toNat, ?_, ?_⟩
    · exact ⟨0, H.size, rfl, by omega, k2, e2, by simpa [Home.askL] using Msgs.nil _ _, Nat.le_refl _⟩
    · rintro v3 v60 H3 ⟨n, bm, rfl, hn', k3, e3, m3, hbm⟩
      unfold F126_9 F126_20 F126_10 F126_19
      have w2h := w2.harts
      by_cases hlt : n < h2.harts
      · simp [show (n : Int) < h2.harts by omega]
        unfold F126_11 F126_13 F126_14 F126_18 F126_15
        have hil : n < h2.inv.length := by rw [w2.iv]; exact hlt
        have hsn := askL_snoc h2 hil
        have wn : IntKind.wrap .i64 ((n : Int) + 1) = ((n + 1 : Nat) : Int) := by rw [w64 (by omega) (by omega)]; simp
        have hal := askL_len h2 (h2.inv.take n) 0
        have htl : (h2.inv.take n).length ≤ n := by simp; omega
        suffices key : ∀ R : RT4, (∀ (H4 : Hp) (v4 : Value) (bm4 : Nat), HomeAt H4 b bs bi h2 → Ext [b, bs, bi] H H4 → Msgs H4 v4 (h2.askL (h2.inv.take (n + 1)) 0) bm4 → H.size ≤ bm4 → R (at0 b) v4 (.int .i64 h2.harts) (.int .i64 (n + 1 : Nat)) H4) → F126_17 (at0 b) v3 (.int .i64 n) (.int .i64 h2.harts) (.int .i64 n) H3 R Q from
          key _ fun H4 v4 bm4 k4 e4 m4 hb4 => ⟨rfl, rfl, ⟨n + 1, rfl, by omega, k4, e4, bm4, m4, hb4⟩, by simp; omega⟩
        intro R hR
        have done : ∀ (H4 : Hp) (v4 : Value) (bm4 : Nat), HomeAt H4 b bs bi h2 → Ext [b, bs, bi] H H4 → Msgs H4 v4 (h2.askL (h2.inv.take (n + 1)) 0) bm4 → H.size ≤ bm4 →
            F126_12 (at0 b) v4 (.int .i64 h2.harts) (.int .i64 n) H4 R Q := by
          intro H4 v4 bm4 k4 e4 m4 hb4
          unfold F126_12
          simp
          rw [wn]
          exact hR H4 v4 bm4 k4 e4 m4 hb4
        have step : ∀ (H4 : Hp) (v4 : Value) (bm4 : Nat) (l : List Msg), l.length ≤ 2 * n + 1 → HomeAt H4 b bs bi h2 → Ext [b, bs, bi] H H4 → Msgs H4 v4 l bm4 → H.size ≤ bm4 → h2.askL (h2.inv.take (n + 1)) 0 = l ++ (if h2.asked = (n : Int) then [h2.to n 6] else []) →
            F126_16 (at0 b) v4 (.int .i64 n) (.int .i64 h2.harts) (.int .i64 n) H4 R Q := by
          intro H4 v4 bm4 l hll k4 e4 m4 hb4 hs
          unfold F126_16
          by_cases c : h2.asked = n
          · simp [k4.cAsked, c]
            rw [if_pos c] at hs
            refine one_to k4 fun H5 v5 bm5 e5 m5 hb5 => ?_
            have z5 := e5.size
            have z4 := e4.size
            refine append_i ty_117 (m4.ext e5 (by simp)) m5 (by simp [msgC]) (by simp; omega) fun H6 v6 bm6 e6 m6 hb6 => ?_
            rw [← List.map_append, ← hs] at m6
            exact done H6 v6 bm6 ((k4.ext0 e5).ext e6 (by simp; omega) (by simp; omega) (by simp; omega)) ((e4.trans (e5.mono (by simp))).fresh e6 (by simp; omega)) m6 (by omega)
          · simp [k4.cAsked, c]
            rw [if_neg c, List.append_nil] at hs
            exact done H4 v4 bm4 k4 e4 (by rw [hs]; exact m4) hb4
        unfold F126_17
        obtain ⟨vi', o, hc', hix, hcell, _⟩ := k3.iv hil
        cases hx : h2.inv[n] with
        | true =>
          rw [hx] at hsn
          simp [hc', hix, hcell, hx]
          refine one_to k3 fun H5 v5 bm5 e5 m5 hb5 => ?_
          have z5 := e5.size
          have z4 := e3.size
          refine append_i ty_117 (m3.ext e5 (by simp)) m5 (by simp [msgC]) (by simp; omega) fun H6 v6 bm6 e6 m6 hb6 => ?_
          rw [← List.map_append] at m6
          exact step H6 v6 bm6 _ (by simp; omega) ((k3.ext0 e5).ext e6 (by simp; omega) (by simp; omega) (by simp; omega)) ((e3.trans (e5.mono (by simp))).fresh e6 (by simp; omega)) m6 (by omega) (by simp [hsn])
        | false =>
          rw [hx] at hsn
          simp [hc', hix, hcell, hx]
          exact step H3 v3 bm _ (by omega) k3 e3 m3 hbm (by simp [hsn])
      · have hne : n = h2.harts := by omega
        subst hne
        simp
        unfold F126_5
        rw [← w2.iv, List.take_length] at m3
        obtain ⟨a3, cap3, hv3, _, _⟩ := m3.shape
        simp [hv3]
        by_cases c : (h2.askL h2.inv 0).length > 0
        · rw [if_pos c] at ho
          rw [ho] at hq
          rw [if_pos c]
          have := hq H3 _ bm e3 k3 m3 hbm
          rw [hv3] at this; simpa using this
        · rw [if_neg c] at ho
          rw [ho] at hq
          rw [if_neg c]
          refine owned_spec w2 k3 fun H5 v5 bm5 e5 k5 m5 hb5 => ?_
          exact hq H5 v5 bm5 (e3.trans e5) k5 m5 (by have := e3.size; omega)
  unfold F126_24 F126_25
  refine ⟨fun vk H' => ∃ n : Nat, vk = .int .i64 n ∧ n ≤ h.sharers.length ∧ HomeAt H' b bs bi { h with inv := Home.invFrom h.serves (h.sharers.take n) h.inv 0 } ∧ Ext [b, bs, bi] H H' ∧ cellAt H' ⟨b, 7, none⟩ = some vs, fun vk _ => h.sharers.length - (iv vk).toNat, ?_, ?_⟩
  · exact ⟨0, rfl, by omega, by simpa [Home.invFrom] using k, .refl _ _, hc7⟩
  · rintro v12 H1 ⟨n, rfl, hn', k1, e1, c71⟩
    unfold F126_26 F126_32 F126_27 F126_31
    by_cases hlt : n < h.sharers.length
    · simp [show (n : Int) < h.sharers.length by omega]
      unfold F126_28
      have hil : n < h.inv.length := by rw [w.iv, ← w.sh]; exact hlt
      obtain ⟨vs', o, hc', hix, hcell, _⟩ := k1.sh (i := n) (by simpa using hlt)
      have hvs : vs' = vs := by rw [c71] at hc'; simpa using hc'.symm
      subst hvs
      have hsn := invFrom_snoc h.serves n h.sharers h.inv 0 hlt hil
      rw [show ((0 + n : Nat) : Int) = n by simp] at hsn
      have wn : IntKind.wrap .i64 ((n : Int) + 1) = ((n + 1 : Nat) : Int) := by rw [w64 (by omega) (by have := w.sh; omega)]; simp
      suffices key : ∀ R : RT5, (∀ H2, HomeAt H2 b bs bi { h with inv := Home.invFrom h.serves (h.sharers.take (n + 1)) h.inv 0 } → Ext [b, bs, bi] H H2 → cellAt H2 ⟨b, 7, none⟩ = some vs' → R (at0 b) (.slice none 0 0) vs' (.int .i64 h.sharers.length) (.int .i64 (n + 1 : Nat)) H2) → F126_30 (at0 b) (.slice none 0 0) vs' (.int .i64 h.sharers.length) (.int .i64 n) H1 R Q from
        key _ fun H2 k2 e2 c2 => ⟨rfl, rfl, rfl, rfl, ⟨n + 1, rfl, by omega, k2, e2, c2⟩, by simp; omega⟩
      intro R hR
      unfold F126_30
      by_cases c : h.sharers[n] = true ∧ (n : Int) ≠ h.serves
      · have c1 := c.1
        have c2 := c.2
        simp [hix, hcell, c1, k1.cServes, c2]
        rw [if_pos (by simp [c1, c2])] at hsn
        obtain ⟨vi', o', hci', hix', _, hst⟩ := k1.iv (i := n) (by simpa [invFrom_len] using hil)
        simp [hci', hix']
        refine hst true _ fun H3 e3 s3 k3 => ?_
        unfold F126_29
        simp
        rw [wn]
        refine hR H3 ?_ (e1.trans (e3.mono (by simp))) (k1.c7 e3 (by simpa using d2) c71)
        rw [hsn]; exact k3
      · rw [if_neg (by simpa using c)] at hsn
        cases c1 : h.sharers[n] with
        | false =>
          simp [hix, hcell, c1]
          unfold F126_29
          simp
          rw [wn]
          exact hR H1 (by rw [hsn]; exact k1) e1 c71
        | true =>
          have c2 : h.serves = (n : Int) := (Classical.not_not.1 fun e => c ⟨c1, e⟩).symm
          simp [hix, hcell, c1, k1.cServes, c2]
          unfold F126_29
          simp
          rw [wn]
          exact hR H1 (by rw [hsn]; exact k1) e1 c71
    · have hne : n = h.sharers.length := by omega
      subst hne
      rw [List.take_length] at k1
      simp
      unfold F126_3 F126_22
      have w1 : ({ h with inv := Home.invFrom h.serves h.sharers h.inv 0 } : Home).Wf := Wf.inv w (invFrom_len _ _ _ _)
      by_cases c : h.owner ≠ -1 ∧ h.owner ≠ h.serves
      · have c1 := c.1
        have c2 := c.2
        simp [k1.cOwner, k1.cServes, c1, c2]
        refine k1.st (h' := { h with inv := Home.invFrom h.serves h.sharers h.inv 0, asked := h.owner }) (fun _ _ => by simp [wrL, homeC]) (by simp) (by simp) (by simp) rfl rfl fun H2 e2 s2 k2 y2 z2 => ?_
        refine fin2 { h with inv := Home.invFrom h.serves h.sharers h.inv 0, asked := h.owner } H2 ⟨w1.harts, w1.sh, w1.iv, w1.ow, w1.sv, fun _ => rfl⟩ k2 (e1.trans (e2.mono (by simp))) ?_
        simp [Home.own, c1, c2]
      · have r := fin2 _ H1 w1 k1 e1 (by simp only [Home.own]; rw [if_neg c])
        by_cases c1 : h.owner = -1
        · simp [k1.cOwner, c1]; exact r
        · have c2 : h.owner = h.serves := Classical.not_not.1 fun e => c ⟨c1, e⟩
          simp [k1.cOwner, k1.cServes, ← c2, c1]; exact r
end YtacidjifocfhkaaGreatDoor
end Go.Proofs
namespace Go.Proofs
open Go Go.NW Go.Pm
set_option maxRecDepth 20000
set_option linter.unusedSimpArgs false
set_option linter.unusedVariables false
namespace YtacidjifocfhkaaGreatDoor
def takesK (h : Home) (m : Msg) : Bool :=
  if m.kind = 1 ∨ m.kind = 2 ∨ m.kind = 3 then !h.busy else
  if m.kind = 10 then h.busy && h.inv.getD m.frm.toNat false else
  if m.kind = 11 then h.busy && h.asked == m.frm else
  if m.kind = 12 then h.busy && !h.waits && h.serves == m.frm else false
theorem Takes_k {H : Hp} {b b1 bs bi : Nat} {h : Home} {m : Msg} {Q : RT1} (w : h.Wf) (k : HomeAt H b bs bi h) (k1 : blk H b1 (msgC m)) (f0 : 0 ≤ m.frm) (f1 : m.frm < h.harts)
    (hq : Q (.bool (takesK h m)) H) : F97_2 (at0 b) (at0 b1) H Q := by
  unfold F97_2 F97_4 F97_9 F97_5 F97_6 F97_8
  simp -implicitDefEqProofs [k1.cell, msgC]
  unfold takesK at hq
  by_cases k4 : m.kind = 1
  · simp only [k4] at hq ⊢; simp [F97_7, k.cBusy]; simpa using hq
  by_cases k5 : m.kind = 2
  · simp only [k5] at hq ⊢; simp [F97_7, k.cBusy]; simpa using hq
  by_cases k6 : m.kind = 3
  · simp only [k6] at hq ⊢; simp [F97_7, k.cBusy]; simpa using hq
  rw [if_neg (by simp [k4, k5, k6])] at hq
  by_cases k7 : m.kind = 10
  · obtain ⟨i, hi⟩ : ∃ i : Nat, m.frm = i := ⟨m.frm.toNat, by omega⟩
    have hil : i < h.inv.length := by rw [w.iv]; omega
    obtain ⟨vi, o, hc, hix, hcell, _⟩ := k.iv hil
    rw [if_pos k7] at hq
    simp only [k7]
    cases hb : h.busy
    · simp -implicitDefEqProofs [F97_7, k.cBusy, hb]; exact fin hq (by simp [hb])
    · simp -implicitDefEqProofs [F97_7, k.cBusy, hb, hc, k1.cell, msgC, hi, hix, hcell]; exact fin hq (by simp [hb, hi, hil])
  rw [if_neg k7] at hq
  by_cases k8 : m.kind = 11
  · rw [if_pos k8] at hq
    simp only [k8]
    cases hb : h.busy
    · simp -implicitDefEqProofs [F97_7, k.cBusy, hb]; exact fin hq (by simp [hb])
    · simp -implicitDefEqProofs [F97_7, k.cBusy, hb, k.cAsked, k1.cell, msgC]; exact fin hq (by simp [hb])
  rw [if_neg k8] at hq
  by_cases k9 : m.kind = 12
  · rw [if_pos k9] at hq
    simp only [k9]
    cases hb : h.busy
    · simp -implicitDefEqProofs [F97_7, k.cBusy, hb]; exact fin hq (by simp [hb])
    · simp -implicitDefEqProofs [F97_7, k.cBusy, hb]
      refine waits_spec w k ?_
      cases hw : h.waits
      · simp -implicitDefEqProofs [k1.cell, msgC, k.cServes]; exact fin hq (by simp [hb, hw])
      · simp; exact fin hq (by simp [hb, hw])
  · rw [if_neg k9] at hq
    simp -implicitDefEqProofs [k4, k5, k6, F97_7, k7, k8, k9, F97_3]; exact hq
theorem Takes_home {H : Hp} {b bs bi : Nat} {h : Home} {m : Msg} {Q : RT1} (w : h.Wf) (k : HomeAt H b bs bi h)
    (hq : ∀ H', Ext [] H H' → Q (.bool (h.takes m)) H') : NCalls Tryz.prog 97 #[at0 b, .agg (msgC m)] H Q := by
  refine E97 ?_
  unfold F97_0 F97_11
  refine New_i fun H1 b1 hb1 e1 s1 k1 => ?_
  replace k1 : blk H1 b1 (msgC m) := by simpa using k1
  replace k := k.ext0 e1
  replace hq := hq H1 e1
  unfold F97_1 F97_10
  by_cases h1 : m.line = h.line
  · by_cases h2 : m.to = -1
    · by_cases h3 : m.frm < 0
      · simp -implicitDefEqProofs [k.cLine, k1.cell, msgC, h1, h2, h3]; exact fin hq (by simp [Home.takes, h1, h2, h3])
      · by_cases h4 : (h.harts : Int) ≤ m.frm
        · simp -implicitDefEqProofs [k.cLine, k.cHarts, k1.cell, msgC, h1, h2, h3, h4]; exact fin hq (by simp [Home.takes, h1, h2, h3, h4])
        · simp -implicitDefEqProofs [k.cLine, k.cHarts, k1.cell, msgC, h1, h2, h3, h4]
          refine Takes_k w k k1 (by omega) (by omega) (fin hq ?_)
          unfold Home.takes
          rw [if_neg (by simp [h1, h2]; omega)]
          rfl
    · simp -implicitDefEqProofs [k.cLine, k1.cell, msgC, h1, h2]; exact fin hq (by simp [Home.takes, h1, h2])
  · simp -implicitDefEqProofs [k.cLine, k1.cell, msgC, h1]; exact fin hq (by simp [Home.takes, h1])
theorem takes_frm {h : Home} {m : Msg} (t : h.takes m = true) : 0 ≤ m.frm ∧ m.frm < h.harts := by
  unfold Home.takes at t
  split at t
  · cases t
  · rename_i c; constructor <;> (apply Classical.byContradiction; intro e; apply c) <;> (simp; omega)
theorem Take_home {H : Hp} {b bs bi : Nat} {h : Home} {m : Msg} {Q : RT1} (w : h.Wf) (k : HomeAt H b bs bi h)
    (hq : ∀ H' v bm, Ext [b, bs, bi] H H' → HomeAt H' b bs bi (h.take m).1 → Msgs H' v (h.take m).2 bm → H.size ≤ bm → Q v H') : NCalls Tryz.prog 98 #[at0 b, .agg (msgC m)] H Q := by
  have lb := k.lb
  have lbs := k.ls
  have lbi := k.li
  refine E98 ?_
  unfold F98_0 F98_25
  refine New_i fun H1 b1 hb1 e1 s1 k1 => ?_
  replace k1 : blk H1 b1 (msgC m) := by simpa using k1
  replace k := k.ext0 e1
  unfold F98_1 F98_24
  have er : (msgC m).extract 0 11 = msgC m := by simp [msgC]
  simp -implicitDefEqProofs [k1.cells, show (msgC m).size = 11 by simp [msgC], er]
  refine Takes_home w k fun H2 e2 => ?_
  have z2 := e2.size
  replace k1 := k1.ext e2 (by simp)
  replace k := k.ext0 e2
  have E2 : Ext [b, bs, bi] H H2 := (e1.trans e2).mono (by simp)
  cases ht : h.takes m with
  | false =>
    simp -implicitDefEqProofs
    rw [show h.take m = (h, []) by simp [Home.take, ht]] at hq
    exact hq H2 _ H.size E2 k (Msgs.nil _ _) (Nat.le_refl _)
  | true =>
    obtain ⟨f0, f1⟩ := takes_frm ht
    simp -implicitDefEqProofs
    unfold F98_2 F98_4 F98_23 F98_5 F98_6 F98_22
    have q8 : (m.kind = 1 ∨ m.kind = 2) → F98_8 (at0 b) (at0 b1) H2 Q := by
      intro hk
      unfold F98_8
      simp -implicitDefEqProofs [k1.cell, msgC]
      refine k.st (h' := { h with busy := true }) (fun _ _ => by simp [wrL, homeC]) (by simp) (by simp) (by simp) rfl rfl fun H3 e3 s3 k3 _ _ => ?_
      replace k1 := k1.ext e3 (by simp; omega)
      simp -implicitDefEqProofs [k1.cell, msgC]
      refine k3.st (h' := { h with busy := true, serves := m.frm }) (fun _ _ => by simp [wrL, homeC]) (by simp) (by simp) (by simp) rfl rfl fun H4 e4 s4 k4 _ _ => ?_
      replace k1 := k1.ext e4 (by simp; omega)
      simp -implicitDefEqProofs [k1.cell, msgC]
      refine k4.st (h' := { h with busy := true, serves := m.frm, by_ := m.kind }) (fun _ _ => by simp [wrL, homeC]) (by simp) (by simp) (by simp) rfl rfl fun H5 e5 s5 k5 _ _ => ?_
      replace k1 := k1.ext e5 (by simp; omega)
      refine k5.st (h' := { h with busy := true, serves := m.frm, by_ := m.kind, back := .zero }) (fun _ _ => by simp [wrL, homeC, Msg.zero, Words.zero]) (by simp) (by simp) (by simp) rfl rfl fun H6 e6 s6 k6 _ _ => ?_
      replace k1 := k1.ext e6 (by simp; omega)
      have w6 : ({ h with busy := true, serves := m.frm, by_ := m.kind, back := .zero } : Home).Wf := ⟨w.harts, w.sh, w.iv, w.ow, fun _ => ⟨f0, f1⟩, w.ak⟩
      have E6 : Ext [b, bs, bi] H H6 := (((E2.trans (e3.mono (by simp))).trans (e4.mono (by simp))).trans (e5.mono (by simp))).trans (e6.mono (by simp))
      by_cases c1 : m.kind = 1
      · simp -implicitDefEqProofs [k1.cell, msgC, c1]
        rw [show h.take m = ({ h with busy := true, serves := m.frm, by_ := m.kind, back := .zero } : Home).share by simp [Home.take, ht, c1]] at hq
        refine share_home w6 k6 ⟨f0, f1⟩ fun H7 v bm e7 k7 m7 hbm => ?_
        exact hq H7 v bm (E6.trans e7) k7 m7 (by have := E6.size; omega)
      · simp -implicitDefEqProofs [k1.cell, msgC, c1]
        rw [show h.take m = ({ h with busy := true, serves := m.frm, by_ := m.kind, back := .zero } : Home).own by simp [Home.take, ht, hk.resolve_left c1]] at hq
        refine own_spec w6 k6 fun H7 v bm e7 k7 m7 hbm => ?_
        exact hq H7 v bm (E6.trans e7) k7 m7 (by have := E6.size; omega)
    by_cases c1 : m.kind = 1
    · simp -implicitDefEqProofs [k1.cell, msgC, c1]
      unfold F98_7
      simp -implicitDefEqProofs
      exact q8 (.inl c1)
    by_cases c2 : m.kind = 2
    · simp -implicitDefEqProofs [k1.cell, msgC, c2]
      unfold F98_7
      simp -implicitDefEqProofs
      exact q8 (.inr c2)
    simp -implicitDefEqProofs [k1.cell, msgC, c1, c2]
    unfold F98_7
    simp -implicitDefEqProofs
    unfold F98_9 F98_21 F98_10
    obtain ⟨i, hi⟩ : ∃ i : Nat, m.frm = i := ⟨m.frm.toNat, by omega⟩
    by_cases c3 : m.kind = 3
    · simp -implicitDefEqProofs [c3]
      unfold F98_11 F98_13 F98_19 F98_14
      have q12 : ∀ (h3 : Home) (H3 : Hp), HomeAt H3 b bs bi h3 → blk H3 b1 (msgC m) → Ext [b, bs, bi] H H3 → h3.sharers = h.sharers → h3.line = h.line → h.take m = ({ h3 with sharers := h3.sharers.set m.frm.toNat false }, [h.to m.frm 9]) →
          F98_12 (at0 b) (at0 b1) H3 Q := by
        intro h3 H3 k3 k1 E3 hs hl ho
        unfold F98_12
        have hil : i < h3.sharers.length := by rw [hs, w.sh]; omega
        obtain ⟨vs, o, hc, hix, _, hst⟩ := k3.sh hil
        simp -implicitDefEqProofs [hc, k1.cell, msgC, hi, hix]
        refine hst false _ fun H4 e4 s4 k4 => ?_
        replace k1 := k1.ext e4 (by have := E3.size; simp; omega)
        simp -implicitDefEqProofs [k1.cell, msgC]
        refine one_to k4 fun H5 v5 bm5 e5 m5 hb5 => ?_
        rw [ho] at hq
        refine hq H5 v5 bm5 ((E3.trans (e4.mono (by simp))).trans (e5.mono (by simp))) ?_ ?_ (by have := E3.size; omega)
        · simpa [hi] using k4.ext0 e5
        · simpa [Home.to, hl, hi] using m5
      by_cases c4 : m.frm = h.owner
      · simp -implicitDefEqProofs [k1.cell, msgC, k.cOwner, c4]
        unfold F98_15 F98_17
        have q16 : ∀ (h3 : Home) (H3 : Hp), HomeAt H3 b bs bi h3 → blk H3 b1 (msgC m) → Ext [b, bs, bi] H H3 → h3.sharers = h.sharers → h3.line = h.line → h.take m = ({ h3 with owner := -1, sharers := h3.sharers.set m.frm.toNat false }, [h.to m.frm 9]) →
            F98_16 (at0 b) (at0 b1) H3 Q := by
          intro h3 H3 k3 k1 E3 hs hl ho
          unfold F98_16
          simp -implicitDefEqProofs
          refine k3.st (h' := { h3 with owner := -1 }) (fun _ _ => by simp [wrL, homeC]) (by simp) (by simp) (by simp) rfl rfl fun H4 e4 s4 k4 _ _ => ?_
          exact q12 _ H4 k4 (k1.ext e4 (by have := E3.size; simp; omega)) (E3.trans (e4.mono (by simp))) hs hl ho
        cases hd : m.dirty with
        | true =>
          simp -implicitDefEqProofs [k1.cell, k1.cells, msgC, hd]
          refine k.st (h' := { h with data := m.data }) (x := .agg #[.int .u32 m.data.a, .int .u32 m.data.b, .int .u32 m.data.c, .int .u32 m.data.d]) (fun _ _ => by simp [wrL, homeC]) (by simp) (by simp) (by simp) rfl rfl fun H3 e3 s3 k3 _ _ => ?_
          exact q16 _ H3 k3 (k1.ext e3 (by simp; omega)) (E2.trans (e3.mono (by simp))) rfl rfl (by simp [Home.take, ht, c3, c4, hd])
        | false =>
          simp -implicitDefEqProofs [k1.cell, msgC, hd]
          exact q16 _ H2 k k1 E2 rfl rfl (by simp [Home.take, ht, c3, c4, hd])
      · simp -implicitDefEqProofs [k1.cell, msgC, k.cOwner, c4]
        unfold F98_18
        exact q12 h H2 k k1 E2 rfl rfl (by simp [Home.take, ht, c3, c4])
    simp -implicitDefEqProofs [c3]
    unfold F98_20
    by_cases c4 : m.kind = 10
    · have hil : i < h.inv.length := by rw [w.iv]; omega
      obtain ⟨vi, o, hc, hix, _, hst⟩ := k.iv hil
      simp -implicitDefEqProofs [c4, hc, k1.cell, msgC, hi, hix]
      refine hst false _ fun H3 e3 s3 k3 => ?_
      have w3 : ({ h with inv := h.inv.set i false } : Home).Wf := Wf.inv w (by simp)
      rw [show h.take m = ({ h with inv := h.inv.set i false } : Home).owned by simp [Home.take, ht, c4, hi]] at hq
      refine owned_spec w3 k3 fun H7 v bm e7 k7 m7 hbm => ?_
      exact hq H7 v bm ((E2.trans (e3.mono (by simp))).trans e7) k7 m7 (by have := E2.size; omega)
    by_cases c5 : m.kind = 11
    · have hbz : h.busy = true ∧ h.asked = m.frm := by
        unfold Home.takes at ht
        split at ht
        · cases ht
        · simpa [c5] using ht
      simp -implicitDefEqProofs [c4, c5, k1.cells, show (msgC m).size = 11 by simp [msgC], er]
      refine k.st (h' := { h with asked := -1 }) (fun _ _ => by simp [wrL, homeC]) (by simp) (by simp) (by simp) rfl rfl fun H3 e3 s3 k3 _ _ => ?_
      replace k1 := k1.ext e3 (by simp; omega)
      simp -implicitDefEqProofs [k1.cells, show (msgC m).size = 11 by simp [msgC], er]
      refine k3.st (h' := { h with asked := -1, back := m }) (fun _ _ => by simp [wrL, homeC, msgC]) (by simp [msgC]) (by simp) (by simp [msgC]) rfl rfl fun H4 e4 s4 k4 _ _ => ?_
      replace k1 := k1.ext e4 (by simp; omega)
      have w4 : ({ h with asked := -1, back := m } : Home).Wf := ⟨w.harts, w.sh, w.iv, w.ow, w.sv, fun h => absurd rfl h⟩
      have E4 := (E2.trans (e3.mono (by simp))).trans (e4.mono (S' := [b, bs, bi]) (by simp))
      by_cases c6 : h.by_ = 1
      · simp -implicitDefEqProofs [k4.cBy, c6, k1.cells, show (msgC m).size = 11 by simp [msgC], er]
        rw [show h.take m = ({ h with asked := -1, back := m } : Home).shared m by simp [Home.take, ht, c5, c6]] at hq
        have ho : h.owner = m.frm := by rw [← hbz.2]; exact w.ak (by rw [hbz.2]; omega)
        refine shared_spec w4 k4 (w.sv hbz.1) (by simp [ho]; omega) fun H7 v bm e7 k7 m7 hbm => ?_
        exact hq H7 v bm (E4.trans e7) k7 m7 (by have := E4.size; omega)
      · simp -implicitDefEqProofs [k4.cBy, c6]
        rw [show h.take m = ({ h with asked := -1, back := m } : Home).owned by simp [Home.take, ht, c5, c6]] at hq
        refine owned_spec w4 k4 fun H7 v bm e7 k7 m7 hbm => ?_
        exact hq H7 v bm (E4.trans e7) k7 m7 (by have := E4.size; omega)
    simp -implicitDefEqProofs [c4, c5]
    unfold F98_3
    simp -implicitDefEqProofs
    rw [if_neg c2]
    refine k.st (h' := { h with busy := false }) (fun _ _ => by simp [wrL, homeC]) (by simp) (by simp) (by simp) rfl rfl fun H3 e3 s3 k3 _ _ => ?_
    rw [show h.take m = ({ h with busy := false }, []) by simp [Home.take, ht, c1, c2, c3, c4, c5]] at hq
    exact hq H3 _ H.size (E2.trans (e3.mono (by simp))) k3 (Msgs.nil _ _) (Nat.le_refl _)
theorem boolsC_one {l : List Bool} : ∀ x ∈ boolsC l, x.all one = true := by
  intro x hx
  simp only [boolsC, List.mem_map] at hx
  obtain ⟨y, _, rfl⟩ := hx
  rfl
theorem Clone_home {H : Hp} {b bs bi : Nat} {h : Home} {Q : RT1} (hn : 0 < h.harts) (w : h.Wf) (k : HomeAt H b bs bi h)
    (hq : ∀ H' b' bs' bi', Ext [] H H' → HomeAt H' b' bs' bi' h → H.size ≤ b' → H.size ≤ bs' → H.size ≤ bi' → Q (at0 b') H') : NCalls Tryz.prog 96 #[at0 b] H Q := by
  have lb := k.lb
  have wh := w.harts
  refine E96 ?_
  unfold F96_0
  obtain ⟨⟨vs, vi, kb, ks, ki, o1, o2⟩, d1, d2, d3, ls, li⟩ := id k
  simp -implicitDefEqProofs [kb.cells, show (homeC h vs vi).size = 24 by simp [homeC], show (homeC h vs vi).extract 0 24 = homeC h vs vi by simp [homeC]]
  refine New_i fun H1 b1 hb1 e1 s1 k1 => ?_
  replace kb := kb.ext e1 (by simp)
  replace ks := ks.ext e1 (by simp)
  replace ki := ki.ext e1 (by simp)
  refine St_i k1 (by simp [homeC]) (by simp) (by simp [homeC, o1, o2]) fun H2 e2 s2 k2 => ?_
  replace kb := kb.ext e2 (by simp; omega)
  replace ks := ks.ext e2 (by simp; omega)
  replace ki := ki.ext e2 (by simp; omega)
  simp -implicitDefEqProofs [kb.cell, homeC]
  refine Clone_63 ks boolsC_one (by simp [boolsC]; have := w.sh; omega) fun H3 v3 b3 e3 k3 hb3 => ?_
  replace kb := kb.ext e3 (by simp)
  replace ki := ki.ext e3 (by simp)
  replace k2 := k2.ext e3 (by simp)
  simp -implicitDefEqProofs [kb.cell, homeC]
  refine Clone_63 ki boolsC_one (by simp [boolsC]; have := w.iv; omega) fun H4 v4 b4 e4 k4 hb4 => ?_
  replace k2 := k2.ext e4 (by simp)
  have z3 := e3.size
  have z4 := e4.size
  have k2' : blk H4 b1 (homeC h vs vi) := by simpa [wrL, homeC] using k2
  obtain ⟨a3, c3, hv3, _⟩ := id k3.shape
  obtain ⟨a4, c4, hv4, _⟩ := id k4.shape
  have n3 : one v3 = true := by rw [hv3]; rfl
  have n4 : one v4 = true := by rw [hv4]; rfl
  have n1 : boolsC h.sharers ≠ [] := by intro e; have := congrArg List.length e; simp [boolsC] at this; have := w.sh; rw [‹h.sharers = []›] at this; simp at this; omega
  have n2 : boolsC h.inv ≠ [] := by intro e; have := congrArg List.length e; simp [boolsC] at this; have := w.iv; rw [‹h.inv = []›] at this; simp at this; omega
  have l3 : b3 < H3.size := k3.lt n1
  have l4 : b4 < H4.size := k4.lt n2
  replace k3 := k3.ext e4 (by simp)
  refine St_i k2' (by rw [hv3]; rfl) (by simp [homeC]) (by rw [hv3]; rfl) fun H5 e5 s5 k5 => ?_
  replace k3 := k3.ext e5 (by simp; omega)
  replace k4 := k4.ext e5 (by simp; omega)
  replace k5 : blk H5 b1 (homeC h v3 vi) := by rw [hv3] at k5 ⊢; simpa [wrL, homeC] using k5
  refine St_i k5 (by rw [hv4]; rfl) (by simp [homeC]) (by rw [hv4]; rfl) fun H6 e6 s6 k6 => ?_
  replace k6 : blk H6 b1 (homeC h v3 v4) := by rw [hv4] at k6 ⊢; simpa [wrL, homeC] using k6
  have E : Ext [] H H6 := (((e1.fresh e2 (by simp; omega)).trans e3).trans e4).fresh e5 (by simp; omega) |>.fresh e6 (by simp; omega)
  refine hq H6 b1 b3 b4 E ⟨⟨v3, v4, k6, k3.ext e6 (by simp; omega), k4.ext e6 (by simp; omega), n3, n4⟩, by omega, by omega, by omega, by omega, by omega⟩ (by omega) (by omega) (by omega)
end YtacidjifocfhkaaGreatDoor
end Go.Proofs
namespace Go.Proofs
open Go Go.NW Go.Pm
set_option maxRecDepth 20000
set_option linter.unusedSimpArgs false
set_option linter.unusedVariables false
namespace YtacidjifocfhkaaGreatDoor
/-- all colours but one -/
def Rl.mine : Rl → Bool
  | .other | .glob => false
  | _ => true
theorem mine_part {i : Nat} (r : Rl) (h : r.isPart i = true) : r.mine = true := by cases r <;> simp [Rl.isPart] at h <;> rfl
theorem mine_net (r : Rl) (h : r.isNet = true) : r.mine = true := by cases r <;> simp [Rl.isNet] at h <;> rfl
theorem part_net {i : Nat} (r : Rl) (h : r.isNet = true) : r.isPart i = false := by cases r <;> simp [Rl.isNet] at h <;> rfl
theorem part_part {i j : Nat} (hij : i ≠ j) (r : Rl) (h : r.isPart i = true) : r.isPart j = false := by
  cases r <;> simp [Rl.isPart] at h ⊢ <;> omega
/-- where a fabric's memory, parts, net and homes lie -/
structure Sk where
  bm : Nat
  bb : Nat
  bn : Nat
  pv : Value
  hv : Value
  bps : List Nat
def HomeR (H : Hp) (col : Nat → Rl) (b : Nat) (h : Home) : Prop := ∃ bs bi, HomeAt H b bs bi h ∧ col b = .home ∧ col bs = .home ∧ col bi = .home
/-- the errors are laid -/
structure GlobR (H : Hp) (col : Nat → Rl) (b : Nat) : Prop where
  c : col b = .glob
  ex : ∃ c t v, blk H b c ∧ c[0]? = some (.iface t v)
theorem GlobR.ext {S : List Nat} {H H' : Hp} {col col' : Nat → Rl} {b : Nat} (k : GlobR H col b) (e : Ext S H H') (hc : Same H col col') (hS : ∀ x ∈ S, x < H.size → col x ≠ .glob) : GlobR H' col' b := by
  obtain ⟨h, c, t, v, kb, h2⟩ := k
  exact ⟨(hc _ kb.lt).trans h, c, t, v, kb.ext e fun hm => hS _ hm kb.lt h, h2⟩
structure FabAt (H : Hp) (col : Nat → Rl) (bf : Nat) (s : Sk) (f : Fab) : Prop where
  gl : ∀ b, b < 5 → GlobR H col b
  cb : col bf = .fab
  kb : blk H bf #[at0 s.bm, s.pv, at0 s.bn, s.hv]
  mem : ∃ bs, MemC H s.bm s.bb bs ∧ bs.length = f.bytes
  cm : col s.bm = .mem
  cbb : col s.bb = .bytes
  net : NetAt H col s.bn f.net
  pl : SlR H col .parts 1 s.pv (s.bps.map fun b => [at0 b])
  pn : s.bps.length = f.parts.length
  pt : ∀ i (h1 : i < s.bps.length) (h2 : i < f.parts.length), PartAt H col i s.bps[i] f.parts[i]
  hm : ∃ bhs : List Nat, SlR H col .homes 1 s.hv (bhs.map fun b => [at0 b]) ∧ bhs.length = f.homes.length ∧ ∀ i (h1 : i < bhs.length) (h2 : i < f.homes.length), HomeR H col bhs[i] f.homes[i]
theorem HomeR.ext {S : List Nat} {H H' : Hp} {col col' : Nat → Rl} {b : Nat} {h : Home} (k : HomeR H col b h) (e : Ext S H H') (hc : Same H col col') (hS : ∀ x ∈ S, x < H.size → col x ≠ .home) : HomeR H' col' b h := by
  obtain ⟨bs, bi, ha, c1, c2, c3⟩ := k
  have l1 : b < H.size := by obtain ⟨⟨vs, vi, kb, _⟩, _⟩ := ha; exact kb.lt
  exact ⟨bs, bi, ha.ext e (fun hm => hS _ hm l1 c1) (fun hm => hS _ hm ha.ls c2) (fun hm => hS _ hm ha.li c3), (hc _ l1).trans c1, (hc _ ha.ls).trans c2, (hc _ ha.li).trans c3⟩
section ext
variable {R : Rl → Bool} {H H' : Hp} {col col' : Nat → Rl} {bf : Nat} {s : Sk} {f : Fab}
theorem nm_of {r : Rl} {x : Nat} (hr : R r = false) (h : x ∈ setOf R H col) : col x ≠ r := by
  intro e; have := setOf_col h; rw [e, hr] at this; cases this
/-- all but the parts, the net and the homes -/
theorem FabAt.base (fa : FabAt H col bf s f) (e : Mod R H col H') (hc : Same H col col') (h1 : R .fab = false) (h2 : R .mem = false) (h3 : R .bytes = false) (h4 : R .parts = false) (h5 : R .glob = false) :
    (∀ b, b < 5 → GlobR H' col' b) ∧ col' bf = .fab ∧ blk H' bf #[at0 s.bm, s.pv, at0 s.bn, s.hv] ∧ (∃ bs, MemC H' s.bm s.bb bs ∧ bs.length = f.bytes) ∧ col' s.bm = .mem ∧ col' s.bb = .bytes ∧ SlR H' col' .parts 1 s.pv (s.bps.map fun b => [at0 b]) := by
  have l0 := fa.kb.lt
  obtain ⟨bs, mc, hbl⟩ := fa.mem
  refine ⟨fun b hb => (fa.gl b hb).ext e.ext hc fun x hx _ => nm_of h5 hx, (hc _ l0).trans fa.cb, fa.kb.ext e.ext fun hm => nm_of h1 hm fa.cb, ⟨bs, mc.ext e.ext (fun hm => nm_of h2 hm fa.cm) (fun hm => nm_of h3 hm fa.cbb), hbl⟩, (hc _ mc.lm).trans fa.cm, (hc _ mc.lb).trans fa.cbb, fa.pl.ext e.ext hc fun x hx _ => nm_of h4 hx⟩
theorem FabAt.homes (fa : FabAt H col bf s f) (e : Mod R H col H') (hc : Same H col col') (h1 : R .homes = false) (h2 : R .home = false) :
    ∃ bhs : List Nat, SlR H' col' .homes 1 s.hv (bhs.map fun b => [at0 b]) ∧ bhs.length = f.homes.length ∧ ∀ i (h1 : i < bhs.length) (h2 : i < f.homes.length), HomeR H' col' bhs[i] f.homes[i] := by
  obtain ⟨bhs, hs, hl, hh⟩ := fa.hm
  exact ⟨bhs, hs.ext e.ext hc fun x hx _ => nm_of h1 hx, hl, fun i a b => (hh i a b).ext e.ext hc fun x hx _ => nm_of h2 hx⟩
theorem FabAt.netE (fa : FabAt H col bf s f) (e : Mod R H col H') (hc : Same H col col') (h1 : R .net = false) (h2 : R .msgs = false) : NetAt H' col' s.bn f.net :=
  fa.net.ext e.ext hc fun x hx _ => ⟨nm_of h1 hx, nm_of h2 hx⟩
/-- nothing of the fabric has turned -/
theorem FabAt.ext (fa : FabAt H col bf s f) (e : Mod R H col H') (hc : Same H col col') (hR : ∀ r, R r = true → r = .other) : FabAt H' col' bf s f := by
  have hf : ∀ r, r ≠ .other → R r = false := fun r hr => by cases h : R r with | false => rfl | true => exact (hr (hR r h)).elim
  obtain ⟨b0, b1, b2, b3, b4, b5, b6⟩ := fa.base e hc (hf _ (by simp)) (hf _ (by simp)) (hf _ (by simp)) (hf _ (by simp)) (hf _ (by simp))
  exact ⟨b0, b1, b2, b3, b4, b5, fa.netE e hc (hf _ (by simp)) (hf _ (by simp)), b6, fa.pn, fun i h1 h2 => (fa.pt i h1 h2).mod e hc fun r hr => by rw [hR r hr]; rfl,
    fa.homes e hc (hf _ (by simp)) (hf _ (by simp))⟩
/-- a part has turned -/
theorem FabAt.part (fa : FabAt H col bf s f) {i : Nat} {p : Part} (hi : i < s.bps.length) (e : Mod (Rl.isPart i) H col H') (hc : Same H col col') (hp : PartAt H' col' i (s.bps[i]) p) : FabAt H' col' bf s { f with parts := f.parts.set i p } := by
  obtain ⟨b0, b1, b2, b3, b4, b5, b6⟩ := fa.base e hc rfl rfl rfl rfl rfl
  refine ⟨b0, b1, b2, b3, b4, b5, fa.netE e hc rfl rfl, b6, by simpa using fa.pn, fun j h1 h2 => ?_, fa.homes e hc rfl rfl⟩
  by_cases hj : i = j
  · subst hj; simpa using hp
  · simp only [List.getElem_set, hj, if_false]
    exact (fa.pt j h1 (by simpa using h2)).mod e hc (part_part hj)
/-- the net has turned -/
theorem FabAt.netT (fa : FabAt H col bf s f) {n : Net} (e : Mod Rl.isNet H col H') (hc : Same H col col') (hn : NetAt H' col' s.bn n) : FabAt H' col' bf s { f with net := n } := by
  obtain ⟨b0, b1, b2, b3, b4, b5, b6⟩ := fa.base e hc rfl rfl rfl rfl rfl
  exact ⟨b0, b1, b2, b3, b4, b5, hn, b6, fa.pn, fun j h1 h2 => (fa.pt j h1 h2).mod e hc part_net, fa.homes e hc rfl rfl⟩
end ext
theorem FabAt.new {H H' : Hp} {col : Nat → Rl} {bf b : Nat} {s : Sk} {f : Fab} (fa : FabAt H col bf s f) (e : Ext [] H H') (hb : H.size ≤ b) : FabAt H' (recol col b .other) bf s f :=
  fa.ext (R := fun _ => false) (Mod.of e (by simp)) (Same.recol hb) (by simp)
theorem FabAt.ext0 {H H' : Hp} {col : Nat → Rl} {bf : Nat} {s : Sk} {f : Fab} (fa : FabAt H col bf s f) (e : Ext [] H H') : FabAt H' col bf s f :=
  fa.ext (R := fun _ => false) (Mod.of e (by simp)) (Same.refl _ _) (by simp)
/-- a block of one's own stays -/
theorem blk.mine {H H' : Hp} {col : Nat → Rl} {b : Nat} {c : Array Value} (k : blk H b c) (m : Mod Rl.mine H col H') (hc : col b = .other) : blk H' b c := by
  have := k.ext m.ext fun hm => nm_of rfl hm hc
  exact this
theorem FabAt.glob {H : Hp} {col : Nat → Rl} {bf : Nat} {s : Sk} {f : Fab} (fa : FabAt H col bf s f) : Glob H := fun b hb => (fa.gl b hb).ex
theorem FabAt.cPv {H : Hp} {col : Nat → Rl} {bf : Nat} {s : Sk} {f : Fab} (fa : FabAt H col bf s f) : cellAt H ⟨bf, 1, none⟩ = some s.pv := by rw [fa.kb.cell]; rfl
theorem FabAt.cBn {H : Hp} {col : Nat → Rl} {bf : Nat} {s : Sk} {f : Fab} (fa : FabAt H col bf s f) : cellAt H ⟨bf, 2, none⟩ = some (at0 s.bn) := by rw [fa.kb.cell]; rfl
theorem FabAt.cHv {H : Hp} {col : Nat → Rl} {bf : Nat} {s : Sk} {f : Fab} (fa : FabAt H col bf s f) : cellAt H ⟨bf, 3, none⟩ = some s.hv := by rw [fa.kb.cell]; rfl
theorem FabAt.cBm {H : Hp} {col : Nat → Rl} {bf : Nat} {s : Sk} {f : Fab} (fa : FabAt H col bf s f) : cellAt H ⟨bf, 0, none⟩ = some (at0 s.bm) := by rw [fa.kb.cell]; rfl
theorem FabAt.lenP {H : Hp} {col : Nat → Rl} {bf : Nat} {s : Sk} {f : Fab} (fa : FabAt H col bf s f) : pv Tryz.prog (Builtin.len_ #[95] 0 #[s.pv]) = some (.int .i64 f.parts.length) := by
  obtain ⟨b, hb⟩ := fa.pl.slc
  obtain ⟨a, cap, hv, _, _⟩ := hb.shape
  have := fa.pn
  rw [hv]; simp -implicitDefEqProofs [this]
theorem FabAt.lenH {H : Hp} {col : Nat → Rl} {bf : Nat} {s : Sk} {f : Fab} (fa : FabAt H col bf s f) : pv Tryz.prog (Builtin.len_ #[97] 0 #[s.hv]) = some (.int .i64 f.homes.length) := by
  obtain ⟨bhs, hs, hl, _⟩ := fa.hm
  obtain ⟨b, hb⟩ := hs.slc
  obtain ⟨a, cap, hv, _, _⟩ := hb.shape
  rw [hv]; simp -implicitDefEqProofs [hl]
theorem FabAt.partIx {H : Hp} {col : Nat → Rl} {bf : Nat} {s : Sk} {f : Fab} (fa : FabAt H col bf s f) {i : Nat} (hi : i < s.bps.length) :
    ∃ b o, (∀ k, Ix 1 s.pv (.int k i) = some (.pointer (some ⟨b, o, none⟩))) ∧ cellAt H ⟨b, o, none⟩ = some (at0 s.bps[i]) := by
  obtain ⟨b, hb⟩ := fa.pl.slc
  obtain ⟨o, hix, hc, _⟩ := hb.at (i := i) (by simpa using hi)
  exact ⟨b, o, hix, by have := hc 0 (by omega); simpa using this⟩
structure MsgOk (n : Net) (m : Msg) : Prop where
  link : n.link m.frm m.to (classOf m.kind) = true
  line : 0 ≤ m.line ∧ m.line < 2 ^ 40
  data : U32s m.data
structure HomeOk (harts i : Nat) (h : Home) : Prop where
  wf : h.Wf
  line : h.line = i
  harts : h.harts = harts
  data : U32s h.data
  back : U32s h.back.data
  idle : h.busy = false → h.asked = -1 ∧ true ∉ h.inv
structure FabOk (f : Fab) : Prop where
  n0 : 0 < f.homes.length
  n1 : f.homes.length ≤ 4096
  bytes : f.bytes = 16 * f.homes.length
  h0 : 1 ≤ f.parts.length
  h1 : f.parts.length ≤ 4
  parts : ∀ i (h : i < f.parts.length), PartOk f.homes.length i f.parts[i]
  nh : f.net.harts = f.parts.length
  nr : f.net.room ≤ 64
  nl : f.net.l.length ≤ f.net.next
  msgs : ∀ x ∈ f.net.l, MsgOk f.net x.msg
  homes : ∀ i (h : i < f.homes.length), HomeOk f.parts.length i f.homes[i]
theorem victim_perm {c : Cache} {line : Int} {a b : List Int} (h : a.Perm b) : c.victim line a = c.victim line b := by
  unfold Cache.victim
  have : ∀ e : Entry, (!a.contains e.line) = !b.contains e.line := by
    intro e
    congr 1
    rw [Bool.eq_iff_iff]
    simp only [List.contains_iff_mem]
    exact h.mem_iff
  simp only [this]
theorem CacheOk.drop {c : Cache} (ok : CacheOk c) (line : Int) : CacheOk (c.drop line) := by
  unfold Cache.drop
  split
  · exact ok
  · rename_i k hk
    refine ⟨by simpa [Cache.setRow] using ok.n0, by simpa [Cache.setRow] using ok.n1, ok.w, ?_⟩
    intro l hl
    simp only [Cache.setRow] at hl
    rcases List.mem_or_eq_of_mem_set hl with hl | rfl
    · exact ok.r l hl
    · rw [row_eq ok]
      have := ok.row (ok.idx line)
      rw [List.length_eraseIdx]
      split <;> omega
theorem victim_mem {c : Cache} (ok : CacheOk c) {line : Int} {no : List Int} {e : Entry} (h : c.victim line no = some e) : e ∈ c.all := by
  unfold Cache.victim at h
  split at h
  · cases h
  · have := List.mem_of_find?_eq_some h
    rw [row_eq ok] at this
    unfold Cache.all
    rw [List.mem_flatten]
    exact ⟨_, by simp, this⟩
theorem PartAt.c0 {H : Hp} {col : Nat → Rl} {i bp : Nat} {p : Part} (k : PartAt H col i bp p) : ∃ bc bs, cellAt H ⟨bp, 0, none⟩ = some (at0 bc) ∧ CacheAt H col i bc bs p.cache ∧
    ∀ H' col' c, Ext [bs] H H' → Same H col col' → CacheAt H' col' i bc bs c → PartAt H' col' i bp { p with cache := c } := by
  have l0 := k.lt
  obtain ⟨cb, bc, bs, bm, lv, order, bl, kb, kc, km, ks⟩ := k
  have hcs := kc.cs
  refine ⟨bc, bs, by rw [kb.cell]; rfl, kc, fun H' col' c e hc k' => ⟨(hc _ l0).trans cb, bc, bs, bm, lv, order, bl, kb.ext e ?_, k', ⟨(hc _ km.lt).trans km.cm, ?_, km.nd, km.ks, ?_⟩, ks.ext e hc ?_⟩⟩
  · simp; intro h; rw [h, hcs] at cb; cases cb
  · rw [e.same _ km.lt (by simp; intro h; have := km.cm; rw [h, hcs] at this; cases this)]; exact km.ob
  · intro x l hx hl
    obtain ⟨d1, d2⟩ := km.ln x l hx hl
    exact ⟨(hc _ d2.lt).trans d1, d2.ext e (by simp; intro h; rw [h, hcs] at d1; cases d1)⟩
  · intro x hx _; simp at hx; subst hx; rw [hcs]; simp
end YtacidjifocfhkaaGreatDoor
end Go.Proofs
namespace Go.Proofs
open Go Go.NW Go.Pm
set_option maxRecDepth 20000
set_option linter.unusedSimpArgs false
set_option linter.unusedVariables false
namespace YtacidjifocfhkaaGreatDoor
theorem FabAt.ptAt {H : Hp} {col : Nat → Rl} {bf : Nat} {s : Sk} {f : Fab} (fa : FabAt H col bf s f) {i bp : Nat} {p : Part} (hb : s.bps[i]? = some bp) (hp : f.parts[i]? = some p) : PartAt H col i bp p := by
  obtain ⟨h1, rfl⟩ := List.getElem?_eq_some_iff.1 hb
  obtain ⟨h2, rfl⟩ := List.getElem?_eq_some_iff.1 hp
  exact fa.pt i h1 h2
theorem FabAt.setP {H H' : Hp} {col col' : Nat → Rl} {bf : Nat} {s : Sk} {f : Fab} (fa : FabAt H col bf s f) {i bp : Nat} {p : Part} (hb : s.bps[i]? = some bp) (e : Mod (Rl.isPart i) H col H') (hc : Same H col col')
    (hp : PartAt H' col' i bp p) : FabAt H' col' bf s { f with parts := f.parts.set i p } := by
  obtain ⟨h1, rfl⟩ := List.getElem?_eq_some_iff.1 hb
  exact fa.part h1 e hc hp
theorem set_get {α : Type} {l : List α} {i : Nat} {a b : α} (h : l[i]? = some a) : (l.set i b)[i]? = some b := by
  rw [List.getElem?_set]; simp [(List.getElem?_eq_some_iff.1 h).1]
theorem FabAt.bpOf {H : Hp} {col : Nat → Rl} {bf : Nat} {s : Sk} {f : Fab} (fa : FabAt H col bf s f) {i : Nat} (hi : i < f.parts.length) : ∃ bp, s.bps[i]? = some bp := by
  have := fa.pn
  exact ⟨s.bps[i]'(by omega), List.getElem?_eq_getElem (by omega)⟩
theorem FabOk.pOf {f : Fab} (ok : FabOk f) {i : Nat} {p : Part} (h : f.parts[i]? = some p) : PartOk f.homes.length i p := by
  obtain ⟨h1, rfl⟩ := List.getElem?_eq_some_iff.1 h
  exact ok.parts i h1
theorem evict_len (l : Lone) : l.evict.2.1.length ≤ 1 := by
  unfold Lone.evict; split
  · simp
  · split <;> simp
theorem ask_len (l : Lone) (w : Bool) : (l.ask w).2.1.length ≤ 1 := by
  unfold Lone.ask; split <;> simp
theorem fit_49 {H : Hp} {col : Nat → Rl} {bf i bp bno : Nat} {s : Sk} {f : Fab} {p : Part} {line : Int} {no : List Int} {nv : Value} {Q : RT1} (fa : FabAt H col bf s f) (ok : FabOk f) (hb : s.bps[i]? = some bp) (hp : f.parts[i]? = some p)
    (hl : 0 ≤ line ∧ line < 2 ^ 40) (hn : Slc H 1 nv (intsC no) bno) (hpm : no.Perm p.places) (hx : f.net.next ≤ 2 ^ 18)
    (h0 : p.fit f.net line = none → ∀ H', Ext [] H H' → Q (.bool false) H')
    (h1 : ∀ p' n', p.fit f.net line = some (p', n') → ∀ H' col', Mod Rl.mine H col H' → Same H col col' → FabAt H' col' bf s { f with parts := f.parts.set i p', net := n' } → Q (.bool true) H') :
    NCalls Tryz.prog 49 #[at0 bp, at0 bf, .int .i64 line, nv] H Q := by
  have po := ok.pOf hp
  refine E49 ?_
  unfold F49_0
  obtain ⟨bc, bs, hc0, ca, _⟩ := (fa.ptAt hb hp).c0
  simp -implicitDefEqProofs only [Nz_some, q_some, Fa_some, add_mk, Nat.zero_add, Ld_some, hc0]
  refine Room_79 ca po.cache hl fun H1 e1 => ?_
  cases hroom : p.cache.room line with
  | true =>
    simp -implicitDefEqProofs only [condV_bool, if_true]
    refine h1 p f.net (by simp [Part.fit, hroom]) H1 col (Mod.of e1 (by simp)) (Same.refl _ _) ?_
    have : f.parts.set i p = f.parts := by
      obtain ⟨h1, rfl⟩ := List.getElem?_eq_some_iff.1 hp; simp
    rw [this]; exact fa.ext0 e1
  | false =>
    have fa1 := fa.ext0 e1
    obtain ⟨bc1, bs1, hc1, ca1, _⟩ := (fa1.ptAt hb hp).c0
    simp -implicitDefEqProofs only [condV_bool, Bool.false_eq_true, if_false, q_some, hc1]
    have hnl : no.length ≤ 2 ^ 20 := by
      rw [hpm.length_eq]
      have : p.places.length ≤ (p.cache.all.map (·.line)).length := List.length_filter_le _ _
      have := po.all
      simp at *; omega
    refine Victim_80 ca1 po.cache hl (hn.ext e1 (by simp)) hnl fun H2 e2 => ?_
    rw [victim_perm hpm]
    have z1 := e1.size
    have z2 := e2.size
    simp -implicitDefEqProofs only [Ex_tuple, List.getElem?_toArray, List.getElem?_cons_zero, List.getElem?_cons_succ, q_some]
    refine New_i fun H3 b3 hb3 e3 s3 k3 => ?_
    refine St_i k3 (by simp [entryC]) (by simp) (by simp [entryC]) fun H4 e4 s4 k4 => ?_
    have k4' : blk H4 b3 (entryC ((p.cache.victim line p.places).getD entry0)) := by simpa [wrL, entryC] using k4
    have E4 : Ext [] H H4 := ((e1.trans e2).trans e3).fresh e4 (by simp; omega)
    cases hv : p.cache.victim line p.places with
    | none =>
      simp -implicitDefEqProofs only [Option.isSome_none, un_not, Bool.not_false, q_some, condV_bool, if_true]
      exact h0 (by simp [Part.fit, hroom, hv]) H4 E4
    | some e =>
      rw [hv] at k4'
      simp only [Option.getD_some] at k4'
      obtain ⟨g0, g1, l, hl'⟩ := po.ents e (victim_mem po.cache hv)
      have fa4 := fa.new (b := b3) E4 (by omega)
      have pt4 := fa4.ptAt hb hp
      obtain ⟨bm, hcm, hh⟩ := pt4.look g0
      rcases hh with ⟨hne, _⟩ | ⟨l2, b, hl2, hlk, hil⟩
      · rw [hl'] at hne; cases hne
      have : l2 = l := by rw [hl'] at hl2; simpa using hl2.symm
      subst this
      obtain ⟨cbl, kbl, hclose⟩ := pt4.lone g0 hl' hil
      have hcl : cellAt H4 ⟨b3, 0, none⟩ = some (.int .i64 e.line) := by rw [k4'.cell]; rfl
      simp -implicitDefEqProofs only [Option.isSome_some, un_not, Bool.not_true, q_some, condV_bool, Bool.false_eq_true, if_false, hcm, Fa_some, add_mk, Nat.zero_add, Nz_some, Ld_some, hcl, hlk]
      refine Evict_spec kbl fun H5 v5 bm5 e5 k5 m5 hb5 => ?_
      have m45 : Mod (Rl.isPart i) H4 (recol col b3 .other) H5 := Mod.of e5 (by intro x hx _; simp at hx; subst hx; rw [cbl]; simp [Rl.isPart])
      have fa5 := fa4.setP hb m45 (Same.refl _ _) (hclose H5 _ e5 k5)
      have c3 : recol col b3 .other b3 = .other := by simp [recol]
      have k35 := blk.mine k4' (m45.mono mine_part) c3
      have cNet := fa5.cBn
      simp -implicitDefEqProofs only [Ex_tuple, List.getElem?_toArray, List.getElem?_cons_zero, List.getElem?_cons_succ, q_some, Fa_some, add_mk, Nat.zero_add, Nz_some, Ld_some, cNet]
      have hel := evict_len l2
      have hnl2 : f.net.l.length ≤ f.net.next := ok.nl
      refine Send_53 fa5.glob fa5.net (by show f.net.l.length + _ ≤ _; omega) (by show f.net.next ≤ _; omega) (by have := ok.nr; show f.net.room ≤ _; omega) m5 fun H6 col6 v6 e6 sm6 kn6 => ?_
      have cbn : (recol col b3 .other) s.bn = .net := fa5.net.cb
      have m56 : Mod Rl.isNet H5 (recol col b3 .other) H6 := Mod.of e6 (by intro x hx _; simp at hx; subst hx; rw [cbn]; rfl)
      have fa6 := fa5.netT m56 sm6 kn6
      have k36 := blk.mine k35 (m56.mono mine_net) c3
      have hp6 : (f.parts.set i (p.setLine e.line l2.evict.1))[i]? = some (p.setLine e.line l2.evict.1) := set_get hp
      have pt6 := fa6.ptAt hb (p := p.setLine e.line l2.evict.1) hp6
      obtain ⟨bc6, bs6, hc6, ca6, hcl6⟩ := pt6.c0
      have hcl3 : cellAt H6 ⟨b3, 0, none⟩ = some (.int .i64 e.line) := by rw [k36.cell]; rfl
      simp -implicitDefEqProofs only [hc6, q_some, Fa_some, add_mk, Nat.zero_add, Nz_some, Ld_some, hcl3]
      refine Drop_82 ca6 (by exact po.cache) (by have := ok.n1; omega) fun H7 col7 r7 e7 sm7 ca7 => ?_
      have cbs : col6 bs6 = .sets i := ca6.cs
      have m67 : Mod (Rl.isPart i) H6 col6 H7 := Mod.of e7 (by intro x hx _; simp at hx; subst hx; rw [cbs]; simp [Rl.isPart])
      have fa7 := fa6.setP hb m67 sm7 (hcl6 H7 col7 _ e7 sm7 ca7)
      have l3 : b3 < H5.size := k35.lt
      have c36 : col6 b3 = .other := (sm6 b3 l3).trans c3
      have k37 := blk.mine k36 (m67.mono mine_part) c36
      have hcl4 : cellAt H7 ⟨b3, 0, none⟩ = some (.int .i64 e.line) := by rw [k37.cell]; rfl
      simp -implicitDefEqProofs only [q_some, Fa_some, add_mk, Nat.zero_add, Nz_some, Ld_some, hcl4]
      have pt7 := fa7.ptAt hb (p := { p.setLine e.line l2.evict.1 with cache := p.cache.drop e.line }) (set_get hp6)
      have hll : p.lost.length ≤ 2 ^ 19 := by
        have := (List.Nodup.length_le_of_subset (l₁ := p.lost.map Int.toNat) (l₂ := List.range f.homes.length) (by
          unfold List.Nodup
          rw [List.pairwise_map]
          refine List.Pairwise.imp_of_mem ?_ po.sorted
          intro a b ha hb hab h
          have := (po.lost a ha).1
          have := (po.lost b hb).1
          omega) (by
          intro a ha
          simp only [List.mem_map] at ha
          obtain ⟨k, hk, rfl⟩ := ha
          have := po.lost k hk
          rw [List.mem_range]; omega))
        simp only [List.length_map, List.length_range] at this
        have := ok.n1
        omega
      refine lose_83 pt7 (by exact po.sorted) (by exact hll) fun H8 col8 m78 sm8 pt8 _ => ?_
      have fa8 := fa7.setP hb m78 sm8 pt8
      have z4 := E4.size
      have sm46 : Same H col col6 := (Same.recol (by omega)).trans (H' := H5) sm6 (by have := e5.size; omega)
      refine h1 _ _ (by simp [Part.fit, hroom, hv, hl']; exact ⟨rfl, rfl⟩) H8 col8 ?_ ?_ ?_
      · exact ((((Mod.of (R := Rl.mine) E4 (by simp)).trans (Same.recol (by omega)) (m45.mono mine_part)).trans (Same.recol (by omega)) (m56.mono mine_net)).trans sm46 (m67.mono mine_part)).trans (sm46.trans (H' := H6) sm7 (by have := e5.size; have := e6.size; omega)) (m78.mono mine_part)
      · exact (sm46.trans (H' := H6) sm7 (by have := e5.size; have := e6.size; omega)).trans (H' := H7) sm8 (by have := e5.size; have := e6.size; have := e7.size; omega)
      · simpa only [List.set_set] using fa8
end YtacidjifocfhkaaGreatDoor
end Go.Proofs
namespace Go.Proofs
open Go Go.NW Go.Pm
set_option maxRecDepth 20000
set_option linter.unusedSimpArgs false
set_option linter.unusedVariables false
namespace YtacidjifocfhkaaGreatDoor
theorem part_of {f : Fab} {h : Int} {p : Part} (hp : f.parts[h.toNat]? = some p) : f.part h = p := by
  unfold Fab.part; rw [List.getD_eq_getElem?_getD, hp]; rfl
theorem there_of {f : Fab} {h line : Int} (ht : f.there h line = true) : ∃ p, f.parts[h.toNat]? = some p ∧ 0 ≤ h ∧ h < f.parts.length ∧ 0 ≤ line ∧ line < f.homes.length := by
  unfold Fab.there at ht
  simp only [Bool.and_eq_true, decide_eq_true_eq] at ht
  obtain ⟨⟨a, b⟩, c, d⟩ := ht
  exact ⟨f.parts[h.toNat]'(by omega), List.getElem?_eq_getElem (by omega), a, b, c, d⟩
theorem there_44 {H : Hp} {col : Nat → Rl} {bf : Nat} {s : Sk} {f : Fab} {h line : Int} {Q : RT1} (fa : FabAt H col bf s f) (hq : Q (.bool (f.there h line)) H) : NCalls Tryz.prog 44 #[at0 bf, .int .i64 h, .int .i64 line] H Q := by
  refine E44 ?_
  unfold F44_0
  unfold Fab.there at hq
  by_cases h0 : 0 ≤ h
  · by_cases h1 : h < f.parts.length
    · by_cases h2 : 0 ≤ line
      · simp -implicitDefEqProofs [h0, h1, h2, fa.cPv, fa.lenP, fa.cHv, fa.lenH]
        simpa [h0, h1, h2] using hq
      · simp -implicitDefEqProofs [h0, h1, h2, fa.cPv, fa.lenP]
        simpa [h0, h1, h2] using hq
    · simp -implicitDefEqProofs [h0, h1, fa.cPv, fa.lenP]
      simpa [h0, h1] using hq
  · simp -implicitDefEqProofs [h0]
    simpa [h0] using hq
theorem can_55 {H : Hp} {col : Nat → Rl} {bf : Nat} {s : Sk} {f : Fab} {h addr size : Int} {w : Bool} {Q : RT1} (fa : FabAt H col bf s f) (ok : FabOk f) (ha : U32 addr)
    (hn : f.can h addr size w = none → ∀ H', Ext [] H H' → Q (.pointer none) H')
    (hs : ∀ l bp b H' col', f.can h addr size w = some l → f.there h (addr / 16) = true → f.line h (addr / 16) = some l → s.bps[h.toNat]? = some bp → Mod Rl.mine H col H' → Same H col col' → FabAt H' col' bf s (f.used h addr) → IsLone H' bp (addr / 16) b → Q (at0 b) H') :
    NCalls Tryz.prog 55 #[at0 bf, .int .i64 h, .int .u32 addr, .int .i64 size, .bool w] H Q := by
  refine E55 ?_
  unfold F55_0
  obtain ⟨bs, mc, hbl⟩ := fa.mem
  have hlt := ha.2
  have h0' := ha.1
  simp -implicitDefEqProofs only [Nz_some, q_some, Fa_some, add_mk, Nat.zero_add, Ld_some, fa.cBm]
  refine Has_69 mc ha ?_
  have hhas : hasL bs.length addr size = f.has addr size := by unfold hasL Fab.has; rw [hbl]
  rw [hhas]
  cases c1 : f.has addr size with
  | false =>
    simp -implicitDefEqProofs only [un_not, q_some, gd_bool, gl_bool, Bool.not_false, if_true, Pk_bool, condV_bool, Bool.true_eq_false, if_false]
    exact hn (by simp [Fab.can, c1]) H (.refl _ _)
  | true =>
    simp -implicitDefEqProofs only [un_not, q_some, gd_bool, gl_bool, Bool.not_true, if_true, Bool.false_eq_true, if_false]
    refine LineOf_92 ha ?_
    refine there_44 fa ?_
    cases c2 : f.there h (addr / 16) with
    | false =>
      simp -implicitDefEqProofs only [un_not, q_some, Pk_bool, Bool.not_false, Bool.false_eq_true, if_false, condV_bool, if_true]
      exact hn (by simp [Fab.can, c1, c2]) H (.refl _ _)
    | true =>
      obtain ⟨p, hp, g0, g1, g2, g3⟩ := there_of c2
      obtain ⟨bp, hb⟩ := fa.bpOf (i := h.toNat) (by omega)
      obtain ⟨hlb, hbe⟩ := List.getElem?_eq_some_iff.1 hb
      obtain ⟨e, o, hix, hcell⟩ := fa.partIx hlb
      rw [hbe] at hcell
      have hih : ((h.toNat : Nat) : Int) = h := by omega
      rw [hih] at hix
      simp -implicitDefEqProofs only [un_not, q_some, Pk_bool, Bool.not_true, Bool.false_eq_true, if_false, condV_bool, Nz_some, Fa_some, add_mk, Nat.zero_add, Ld_some, fa.cPv, hix, hcell]
      refine LineOf_92 ha ?_
      refine ⟨hcell, fa.cPv, ?_⟩
      have hpl : f.line h (addr / 16) = p.line (addr / 16) := by unfold Fab.line; rw [part_of hp]
      refine line_45 (fa.ptAt hb hp) g2 (fun hnone => ?_) (fun l b hsome hil => ?_)
      · simp -implicitDefEqProofs
        exact hn (by simp [Fab.can, c1, c2, hpl, hnone]) H (.refl _ _)
      · obtain ⟨cbl, kbl, _⟩ := (fa.ptAt hb hp).lone g2 hsome hil
        simp -implicitDefEqProofs only [Bin_eql_111, Option.isNone_some, q_some, gd_bool, gl_bool, if_true]
        refine Can_spec kbl ?_
        cases c3 : l.can w with
        | false =>
          simp -implicitDefEqProofs
          exact hn (by simp [Fab.can, c1, c2, hpl, hsome, c3]) H (.refl _ _)
        | true =>
          have pt := fa.ptAt hb hp
          obtain ⟨bc, bsx, hc0, ca, hclose⟩ := pt.c0
          simp -implicitDefEqProofs only [un_not, q_some, Pk_bool, Bool.not_true, Bool.false_eq_true, if_false, condV_bool, Nz_some, Fa_some, add_mk, Nat.zero_add, Ld_some, fa.cPv, hix, hcell, hc0]
          refine LineOf_92 ha ?_
          refine ⟨hc0, hcell, fa.cPv, ?_⟩
          refine Use_93 ca (ok.pOf hp).cache (by have := ok.n1; omega) fun H1 col1 r e1 s1 ca1 => ?_
          have cbs : col bsx = .sets h.toNat := ca.cs
          have m1 : Mod (Rl.isPart h.toNat) H col H1 := Mod.of e1 (by intro x hx _; simp at hx; subst hx; rw [cbs]; simp [Rl.isPart])
          have fa1 := fa.setP hb m1 s1 (hclose H1 col1 _ e1 s1 ca1)
          refine hs l bp b H1 col1 (by simp [Fab.can, c1, c2, hpl, hsome, c3]) c2 (by rw [hpl]; exact hsome) hb (m1.mono mine_part) s1 ?_ ?_
          · simp only [Fab.used, Fab.setPart, part_of hp]; exact fa1
          · exact pt.isLone e1 (by intro x hx _; simp at hx; subst hx; rw [cbs]; simp) hil
theorem Read_18 {H : Hp} {col : Nat → Rl} {bf : Nat} {s : Sk} {f : Fab} {h addr size : Int} {Q : RT1} (fa : FabAt H col bf s f) (ok : FabOk f) (ha : U32 addr)
    (hq : ∀ H' col', Mod Rl.mine H col H' → Same H col col' → FabAt H' col' bf s (f.read h addr size).1 → Q (.tuple #[.int .u32 (f.read h addr size).2.1, .bool (f.read h addr size).2.2]) H') :
    NCalls Tryz.prog 18 #[at0 bf, .int .i64 h, .int .u32 addr, .int .i64 size] H Q := by
  refine E18 ?_
  unfold F18_0
  refine can_55 fa ok ha (fun hn H1 e1 => ?_) (fun l bp b H1 col1 hs ht hln hb m1 s1 fa1 hil => ?_)
  · simp -implicitDefEqProofs
    have hr : f.read h addr size = (f, 0, false) := by simp [Fab.read, hn]
    rw [hr] at hq
    exact hq H1 col (Mod.of e1 (by simp)) (Same.refl _ _) (fa.ext0 e1)
  · have hr : f.read h addr size = (f.used h addr, Fab.rdW l.data addr size, true) := by simp [Fab.read, hs]
    rw [hr] at hq
    obtain ⟨p, hp, g0, g1, g2, g3⟩ := there_of ht
    have hp1 : (f.used h addr).parts[h.toNat]? = some { f.part h with cache := (f.part h).cache.use (addr / 16) } := set_get hp
    have pt1 := fa1.ptAt hb hp1
    have hl1 : ({ f.part h with cache := (f.part h).cache.use (addr / 16) } : Part).line (addr / 16) = some l := hln
    obtain ⟨cbl, kbl, _⟩ := pt1.lone g2 hl1 hil
    have hpl : p.line (addr / 16) = some l := by rw [← hln]; unfold Fab.line; rw [part_of hp]
    obtain ⟨_, _, hu⟩ := (ok.pOf hp).lines _ _ hpl g2
    have hst : l.state ≠ 0 := by
      intro h0; unfold Fab.can at hs
      rw [hln] at hs
      split at hs
      · cases hs
      · simp [Lone.can, h0] at hs
    simp -implicitDefEqProofs only [Bin_eql_111, Option.isNone_some, q_some, condV_bool, Bool.false_eq_true, if_false]
    refine Data_spec kbl fun H2 e2 => ?_
    have hld : (lineD l).1 = l.data := by simp [lineD, hst]
    rw [hld]
    simp -implicitDefEqProofs only [Ex_tuple, List.getElem?_toArray, List.getElem?_cons_zero, List.getElem?_cons_succ, q_some]
    refine New_i fun H3 b3 hb3 e3 s3 k3 => ?_
    refine St_i k3 (by simp [wordsC]) (by simp) (by simp [wordsC]) fun H4 e4 s4 k4 => ?_
    have k4' : blk H4 b3 (wordsC l.data) := by simpa [wrL, wordsC] using k4
    simp -implicitDefEqProofs [k4'.cells, show (wordsC l.data).size = 4 by rfl, show (wordsC l.data).extract 0 4 = wordsC l.data by simp [wordsC]]
    refine Part_57 hu ha fun H5 e5 => ?_
    have z1 := m1.size
    have z2 := e2.size
    have E5 : Ext [] H1 H5 := ((e2.trans e3).fresh e4 (by simp; omega)).trans e5
    exact hq H5 col1 (m1.trans s1 (Mod.of E5 (by simp))) s1 (fa1.ext0 E5)
theorem Write_20 {H : Hp} {col : Nat → Rl} {bf : Nat} {s : Sk} {f : Fab} {h addr size v : Int} {Q : RT1} (fa : FabAt H col bf s f) (ok : FabOk f) (ha : U32 addr) (hv : U32 v)
    (hq : ∀ H' col', Mod Rl.mine H col H' → Same H col col' → FabAt H' col' bf s (f.write h addr size v).1 → Q (.bool (f.write h addr size v).2) H') :
    NCalls Tryz.prog 20 #[at0 bf, .int .i64 h, .int .u32 addr, .int .i64 size, .int .u32 v] H Q := by
  refine E20 ?_
  unfold F20_0
  refine can_55 fa ok ha (fun hn H1 e1 => ?_) (fun l bp b H1 col1 hs ht hln hb m1 s1 fa1 hil => ?_)
  · simp -implicitDefEqProofs
    have hr : f.write h addr size v = (f, false) := by simp [Fab.write, hn]
    rw [hr] at hq
    exact hq H1 col (Mod.of e1 (by simp)) (Same.refl _ _) (fa.ext0 e1)
  · obtain ⟨p, hp, g0, g1, g2, g3⟩ := there_of ht
    have hp1 : (f.used h addr).parts[h.toNat]? = some { f.part h with cache := (f.part h).cache.use (addr / 16) } := set_get hp
    have pt1 := fa1.ptAt hb hp1
    have hl1 : ({ f.part h with cache := (f.part h).cache.use (addr / 16) } : Part).line (addr / 16) = some l := hln
    obtain ⟨cbl, kbl, _⟩ := pt1.lone g2 hl1 hil
    have hpl : p.line (addr / 16) = some l := by rw [← hln]; unfold Fab.line; rw [part_of hp]
    obtain ⟨_, _, hu⟩ := (ok.pOf hp).lines _ _ hpl g2
    have hst : l.state ≠ 0 := by
      intro h0; unfold Fab.can at hs
      rw [hln] at hs
      split at hs
      · cases hs
      · simp [Lone.can, h0] at hs
    simp -implicitDefEqProofs only [Bin_eql_111, Option.isNone_some, q_some, condV_bool, Bool.false_eq_true, if_false]
    refine Data_spec kbl fun H2 e2 => ?_
    have hld : (lineD l).1 = l.data := by simp [lineD, hst]
    rw [hld]
    simp -implicitDefEqProofs only [Ex_tuple, List.getElem?_toArray, List.getElem?_cons_zero, List.getElem?_cons_succ, q_some]
    refine New_i fun H3 b3 hb3 e3 s3 k3 => ?_
    refine St_i k3 (by simp [wordsC]) (by simp) (by simp [wordsC]) fun H4 e4 s4 k4 => ?_
    have k4' : blk H4 b3 (wordsC l.data) := by simpa [wrL, wordsC] using k4
    simp -implicitDefEqProofs [k4'.cells, show (wordsC l.data).size = 4 by rfl, show (wordsC l.data).extract 0 4 = wordsC l.data by simp [wordsC]]
    refine With_60 hu ha hv fun H5 e5 => ?_
    have z1 := m1.size
    have z2 := e2.size
    have E5 : Ext [] H1 H5 := ((e2.trans e3).fresh e4 (by simp; omega)).trans e5
    have fa5 := fa1.ext0 E5
    have pt5 := fa5.ptAt hb hp1
    have hil5 := pt1.isLone E5 (by simp) hil
    obtain ⟨cbl5, kbl5, hclose⟩ := pt5.lone g2 hl1 hil5
    refine Set_spec kbl5 fun H6 e6 k6 => ?_
    have m6 : Mod (Rl.isPart h.toNat) H5 col1 H6 := Mod.of e6 (by intro x hx _; simp at hx; subst hx; rw [cbl5]; simp [Rl.isPart])
    have fa6 := fa5.setP hb m6 (Same.refl _ _) (hclose H6 _ e6 k6)
    have hr : f.write h addr size v = ((f.used h addr).setPart h (((f.used h addr).part h).setLine (addr / 16) (l.set (Fab.wrW l.data addr size v)).1), (l.set (Fab.wrW l.data addr size v)).2) := by simp [Fab.write, hs]
    rw [hr] at hq
    refine hq H6 col1 ((m1.trans s1 (Mod.of E5 (by simp))).trans s1 (m6.mono mine_part)) s1 ?_
    simp only [Fab.setPart, part_of hp1]
    exact fa6
end YtacidjifocfhkaaGreatDoor
end Go.Proofs
namespace Go.Proofs
open Go Go.NW Go.Pm
set_option maxRecDepth 20000
set_option linter.unusedSimpArgs false
set_option linter.unusedVariables false
namespace YtacidjifocfhkaaGreatDoor
theorem Put_any {H : Hp} {col : Nat → Rl} {i bc bs : Nat} {c : Cache} {e : Entry} {Q : RT1} (ca : CacheAt H col i bc bs c) (ok : CacheOk c) (g : Glob H) (hl : 0 ≤ e.line ∧ e.line < 2 ^ 40) (hs : 1 ≤ e.state ∧ e.state ≤ 4)
    (hq : ∀ H' col' v, Ext [bs] H H' → Same H col col' → CacheAt H' col' i bc bs (c.put e) → Q v H') : NCalls Tryz.prog 52 #[at0 bc, .agg (entryC e)] H Q := by
  cases hroom : c.room e.line with
  | true => exact Put_52 ca ok hl hs hroom fun H' col' a b c => hq H' col' _ a b c
  | false =>
    refine E52 ?_
    unfold F52_0
    refine New_i fun H1 b1 hb1 e1 s1 k1 => ?_
    replace k1 : blk H1 b1 (entryC e) := by simpa using k1
    have ca1 := ca.ext0 e1 (Same.refl _ _)
    simp -implicitDefEqProofs [k1.cell, entryC, show ¬ (e.line < 0) by omega, show ¬ (e.state < 1) by omega, show ¬ (4 < e.state) by omega]
    refine at_86 ca1 ok hl.2 fun H2 o e2 hr => ?_
    have ca2 := ca1.ext0 e2 (Same.refl _ _)
    rw [if_neg (by omega)] at hr
    obtain ⟨sv, hc, hs', _⟩ := ca2.row (ok.idx e.line) hr
    obtain ⟨b, hs'⟩ := hs'.slc
    obtain ⟨a, cap, hv, _, _⟩ := hs'.shape
    have hll := entsC_len (c.sets[c.idx e.line]'(ok.idx e.line))
    have hlv : pv Tryz.prog (Builtin.len_ #[153] 0 #[sv]) = some (.int .i64 (c.sets[c.idx e.line]'(ok.idx e.line)).length) := by rw [hv]; simp -implicitDefEqProofs [hll]
    have hk : c.at? e.line = none := by
      unfold Cache.room at hroom
      cases hx : c.at? e.line with
      | none => rfl
      | some k => rw [hx] at hroom; simp [hl.1] at hroom
    have hge : (c.ways : Int) ≤ (c.sets[c.idx e.line]'(ok.idx e.line)).length := by
      unfold Cache.room at hroom
      rw [row_eq ok] at hroom
      simp [hk, hl.1] at hroom
      omega
    have E2 := e1.trans e2
    obtain ⟨t3, v3, hg3⟩ := (g.ext E2 (by simp)).at (b := 3) (by omega)
    rw [hk]
    simp -implicitDefEqProofs [kOf, hc, hlv, ca2.cWays, hge, hg3]
    refine hq H2 col _ (E2.mono (by simp)) (Same.refl _ _) ?_
    have : c.put e = c := by
      unfold Cache.put
      rw [if_neg (by omega), if_pos]
      refine ⟨by rw [hk]; rfl, ?_⟩
      rw [row_eq ok]; omega
    rw [this]; exact ca2
theorem setLine_lines {p : Part} {k : Int} {l : Lone} : (p.setLine k l).lines.length = p.lines.length := by simp [Part.setLine]
theorem lose_lines {p : Part} {k : Int} : (p.lose k).lines = p.lines ∧ (p.lose k).cache = p.cache := by unfold Part.lose; split <;> simp
theorem fit_keeps {p p' : Part} {n n' : Net} {line : Int} (h : p.fit n line = some (p', n')) (ok : CacheOk p.cache) :
    p'.lines.length = p.lines.length ∧ CacheOk p'.cache ∧ (n' = n ∨ ∃ ms, ms.length ≤ 1 ∧ n' = n.send ms) := by
  unfold Part.fit at h
  split at h
  · simp at h; obtain ⟨rfl, rfl⟩ := h; exact ⟨rfl, ok, .inl rfl⟩
  · split at h
    · cases h
    · split at h
      · cases h
      · rename_i e he x l hle
        simp at h
        obtain ⟨rfl, rfl⟩ := h
        refine ⟨?_, ?_, .inr ⟨_, evict_len l, rfl⟩⟩
        · rw [(lose_lines (p := { p.setLine e.line l.evict.1 with cache := p.cache.drop e.line })).1]; exact setLine_lines
        · rw [(lose_lines (p := { p.setLine e.line l.evict.1 with cache := p.cache.drop e.line })).2]; exact ok.drop _
theorem sendL_len {n : Net} : ∀ {ms : List Msg} {l l' : List Flight} {i : Nat}, n.sendL l i ms = some l' → l'.length = l.length + ms.length
  | [], l, l', i, h => by simp [Net.sendL] at h; subst h; simp
  | m :: ms, l, l', i, h => by
    unfold Net.sendL at h
    split at h
    · have := sendL_len h; simp at this ⊢; omega
    · cases h
theorem send_next {n : Net} {ms : List Msg} : (n.send ms).room = n.room ∧ (n.send ms).harts = n.harts ∧ n.next ≤ (n.send ms).next ∧ (n.send ms).next ≤ n.next + ms.length ∧ (n.l.length ≤ n.next → (n.send ms).l.length ≤ (n.send ms).next) := by
  unfold Net.send
  split
  · rename_i l h
    have := sendL_len h
    refine ⟨rfl, rfl, ?_, ?_, fun h => ?_⟩ <;> simp at * <;> omega
  · exact ⟨rfl, rfl, Nat.le_refl _, by omega, fun h => h⟩
theorem Slc.mine {H H' : Hp} {col : Nat → Rl} {n b : Nat} {v : Value} {xs : List (List Value)} (k : Slc H n v xs b) (m : Mod Rl.mine H col H') (hc : col b = .other) : Slc H' n v xs b :=
  k.ext m.ext fun hm => nm_of rfl hm hc
def refuses (p : Part) (line : Int) (w : Bool) : Bool := match p.line line with | some l => l.can w || l.waits != 0 | none => false
def asked (f : Fab) (h line : Int) (w : Bool) (p : Part) (n : Net) (l : Lone) : Fab × Bool :=
  if (l.ask w).2.2 then ({ f with net := n.send (l.ask w).2.1 }.setPart h { p.setLine line (l.ask w).1 with cache := p.cache.put { line := line, state := 1 } }, true)
  else ({ f with net := n }.setPart h (p.setLine line (l.ask w).1), false)
theorem ask_eq {f : Fab} {h line : Int} {w : Bool} {p : Part} (ht : f.there h line = true) (hp : f.parts[h.toNat]? = some p) :
    f.ask h line w = if refuses p line w then (f, false) else if p.count ≥ 4 then (f, false) else match p.fit f.net line with
      | none => (f, false)
      | some (p', n') => asked f h line w p' n' ((p'.line line).getD { line := line, hart := h }) := by
  unfold Fab.ask refuses asked
  rw [ht, part_of hp]
  rfl
theorem Ask_16 {H : Hp} {col : Nat → Rl} {bf : Nat} {s : Sk} {f : Fab} {h line : Int} {w : Bool} {Q : RT1} (fa : FabAt H col bf s f) (ok : FabOk f) (hx : f.net.next ≤ 2 ^ 18)
    (hq : ∀ H' col', Mod Rl.mine H col H' → Same H col col' → FabAt H' col' bf s (f.ask h line w).1 → Q (.bool (f.ask h line w).2) H') :
    NCalls Tryz.prog 16 #[at0 bf, .int .i64 h, .int .i64 line, .bool w] H Q := by
  refine E16 ?_
  unfold F16_0 F16_16 F16_1 F16_15
  refine there_44 fa ?_
  have ret0 : f.ask h line w = (f, false) → ∀ H', Ext [] H H' → Q (.bool false) H' := by
    intro e H' e'
    rw [e] at hq
    exact hq H' col (Mod.of e' (by simp)) (Same.refl _ _) (fa.ext0 e')
  cases ht : f.there h line with
  | false =>
    simp -implicitDefEqProofs only [un_not, Bool.not_false, q_some, condV_bool, if_true]
    exact ret0 (by simp [Fab.ask, ht]) H (.refl _ _)
  | true =>
    obtain ⟨p, hp, g0, g1, g2, g3⟩ := there_of ht
    have po := ok.pOf hp
    have hask := ask_eq (w := w) ht hp
    obtain ⟨bp, hb⟩ := fa.bpOf (i := h.toNat) (by omega)
    obtain ⟨hlb, hbe⟩ := List.getElem?_eq_some_iff.1 hb
    obtain ⟨e, o, hix, hcell⟩ := fa.partIx hlb
    rw [hbe] at hcell
    have hih : ((h.toNat : Nat) : Int) = h := by omega
    rw [hih] at hix
    have hn1 := ok.n1
    simp -implicitDefEqProofs only [un_not, Bool.not_true, q_some, condV_bool, Bool.false_eq_true, if_false]
    unfold F16_2 F16_14
    simp -implicitDefEqProofs only [Nz_some, q_some, Fa_some, add_mk, Nat.zero_add, Ld_some, fa.cPv, hix, hcell]
    unfold F16_3 F16_13
    -- behind the line
    have rest : refuses p line w = false → F16_4 (at0 bf) (.int .i64 h) (.int .i64 line) (.bool w) (at0 bp) H Q := by
      intro hno
      rw [hno, if_neg (by simp)] at hask
      unfold F16_4 F16_12
      refine waits_48 (fa.ptAt hb hp) po fun H1 v1 b1 no e1 k1 hpm => ?_
      have fa1 := fa.ext0 e1
      simp -implicitDefEqProofs only [Ex_tuple, List.getElem?_toArray, List.getElem?_cons_zero, List.getElem?_cons_succ, q_some]
      unfold F16_5 F16_11
      by_cases hcnt : p.count ≥ 4
      · have hc' : decide ((p.count : Int) ≥ 4) = true := by simp; omega
        rw [if_pos hcnt] at hask
        simp -implicitDefEqProofs only [Bin_geq_3, hc', q_some, gd_bool, gl_bool, Bool.true_eq_false, if_false, Pk_bool, if_true, condV_bool]
        exact ret0 hask H1 e1
      · have hc' : decide ((p.count : Int) ≥ 4) = false := by simp; omega
        rw [if_neg hcnt] at hask
        simp -implicitDefEqProofs only [Bin_geq_3, hc', q_some, gd_bool, gl_bool, if_true]
        refine fit_49 fa1 ok hb hp ⟨g2, by omega⟩ k1 hpm hx (fun hnone H2 e2 => ?_) (fun p' n' hsome H2 col2 m2 sm2 fa2 => ?_)
        · simp -implicitDefEqProofs only [un_not, Bool.not_false, q_some, Pk_bool, Bool.false_eq_true, if_false, condV_bool, if_true]
          rw [hnone] at hask
          exact ret0 hask H2 (e1.trans e2)
        · rw [hsome] at hask
          simp only [] at hask
          simp -implicitDefEqProofs only [un_not, Bool.not_true, q_some, Pk_bool, Bool.false_eq_true, if_false, condV_bool]
          unfold F16_6 F16_10
          obtain ⟨hlen, hco, hnet⟩ := fit_keeps hsome po.cache
          have hp2 : (f.parts.set h.toNat p')[h.toNat]? = some p' := set_get hp
          have pt2 := fa2.ptAt hb hp2
          have hml := po.len
          refine found_50 (h := h) pt2 g2 (by omega) fun H3 col3 b m3 sm3 pt3 il3 => ?_
          generalize hl0 : (p'.line line).getD { line := line, hart := h } = l0 at pt3 hask
          have fa3 := fa2.setP hb m3 sm3 pt3
          have hl3 : (p'.setLine line l0).line line = some l0 := by
            unfold Part.line Part.setLine
            rw [List.getD_eq_getElem?_getD, List.getElem?_set]
            simp [show line.toNat < p'.lines.length by omega]
          have hp3 : ((f.parts.set h.toNat p').set h.toNat (p'.setLine line l0))[h.toNat]? = some (p'.setLine line l0) := set_get hp2
          obtain ⟨_, kbl, _⟩ := pt3.lone g2 hl3 il3
          refine Ask_spec kbl fun H4 v4 bm4 e4 k4 ms4 hbm4 => ?_
          have fa3' := fa3.ext (R := fun _ => false) (col' := recol col3 bm4 .other) (Mod.refl _ _ _) (Same.recol hbm4) (by simp)
          obtain ⟨cbl, _, hclose⟩ := (fa3'.ptAt hb hp3).lone g2 hl3 il3
          have m4 : Mod (Rl.isPart h.toNat) H3 (recol col3 bm4 .other) H4 := Mod.of e4 (by intro x hx _; simp at hx; subst hx; rw [cbl]; simp [Rl.isPart])
          have fa4 := fa3'.setP hb m4 (Same.refl _ _) (hclose H4 _ e4 k4)
          simp -implicitDefEqProofs only [Ex_tuple, List.getElem?_toArray, List.getElem?_cons_zero, List.getElem?_cons_succ, q_some]
          unfold F16_7 F16_9 F16_8
          have z1 := e1.size
          have z2 := m2.size
          have z3 := m3.size
          have S2 : Same H col col2 := fun x hx => sm2 x (by omega)
          have S3 : Same H col col3 := S2.trans (H' := H2) sm3 (by omega)
          have S4 : Same H col (recol col3 bm4 .other) := S3.trans (H' := H3) (Same.recol hbm4) (by omega)
          have M2 : Mod Rl.mine H col H2 := (Mod.of (R := Rl.mine) e1 (by simp)).trans (Same.refl _ _) m2
          have M3 : Mod Rl.mine H col H3 := M2.trans S2 (m3.mono mine_part)
          have M4 : Mod Rl.mine H col H4 := M3.trans S4 (m4.mono mine_part)
          have hss : (p'.setLine line l0).setLine line (l0.ask w).1 = p'.setLine line (l0.ask w).1 := by simp [Part.setLine]
          cases ha : (l0.ask w).2.2 with
          | false =>
            simp -implicitDefEqProofs only [condV_bool, Bool.false_eq_true, if_false]
            unfold asked at hask
            rw [ha, if_neg (by simp)] at hask
            rw [hask] at hq
            refine hq H4 _ M4 S4 ?_
            simp only [Fab.setPart]
            simpa only [List.set_set, hss] using fa4
          | true =>
            unfold asked at hask
            rw [ha, if_pos rfl] at hask
            rw [hask] at hq
            have hp4 : (((f.parts.set h.toNat p').set h.toNat (p'.setLine line l0)).set h.toNat ((p'.setLine line l0).setLine line (l0.ask w).1))[h.toNat]? = some ((p'.setLine line l0).setLine line (l0.ask w).1) := set_get hp3
            obtain ⟨bc4, bs4, hc4, ca4, hcl4⟩ := (fa4.ptAt hb hp4).c0
            have hbld : pv Tryz.prog (Instr.build 123 #[(0, .int .i64 line), (1, .int .i64 1)]) = some (.agg (entryC { line := line, state := 1 })) := by kernel_rfl
            simp -implicitDefEqProofs only [condV_bool, if_true, Nz_some, q_some, Fa_some, add_mk, Nat.zero_add, Ld_some, hc4, hbld]
            refine Put_any (e := { line := line, state := 1 }) ca4 (by exact hco) fa4.glob ⟨g2, by show line < _; omega⟩ ⟨by show (1 : Int) ≤ 1; omega, by show (1 : Int) ≤ 4; omega⟩ fun H5 col5 v5 e5 sm5 ca5 => ?_
            have cbs : recol col3 bm4 .other bs4 = .sets h.toNat := ca4.cs
            have m5 : Mod (Rl.isPart h.toNat) H4 (recol col3 bm4 .other) H5 := Mod.of e5 (by intro x hx _; simp at hx; subst hx; rw [cbs]; simp [Rl.isPart])
            have fa5 := fa4.setP hb m5 sm5 (hcl4 H5 col5 _ e5 sm5 ca5)
            simp -implicitDefEqProofs only [fa5.cBn, q_some]
            have hal := ask_len l0 w
            have hnn : n'.next ≤ f.net.next + 1 ∧ n'.room = f.net.room ∧ n'.l.length ≤ n'.next := by
              rcases hnet with rfl | ⟨ms, hms, rfl⟩
              · exact ⟨by omega, rfl, ok.nl⟩
              · obtain ⟨q1, q2, q3, q4, q5⟩ := send_next (n := f.net) (ms := ms)
                exact ⟨by omega, q1, q5 ok.nl⟩
            have hnr := ok.nr
            have z4 := m4.size
            have z5 := m5.size
            have msE : Msgs H5 v4 (l0.ask w).2.1 bm4 := by
              unfold Msgs at *
              exact Slc.mine ms4 (m5.mono mine_part) (by simp [recol])
            refine Send_53 fa5.glob fa5.net (by show n'.l.length + _ ≤ _; omega) (by show n'.next ≤ _; omega) (by show n'.room ≤ _; omega) msE fun H6 col6 v6 e6 sm6 kn6 => ?_
            have cbn : col5 s.bn = .net := fa5.net.cb
            have m6 : Mod Rl.isNet H5 col5 H6 := Mod.of e6 (by intro x hx _; simp at hx; subst hx; rw [cbn]; rfl)
            have fa6 := fa5.netT m6 sm6 kn6
            have S5 : Same H col col5 := S4.trans (H' := H4) sm5 (by omega)
            have S6 : Same H col col6 := S5.trans (H' := H5) sm6 (by omega)
            refine hq H6 col6 ((M4.trans S4 (m5.mono mine_part)).trans S5 (m6.mono mine_net)) S6 ?_
            simp only [Fab.setPart]
            have fa7 := fa6
            simp only [List.set_set, hss] at fa7
            exact fa7
    refine line_45 (fa.ptAt hb hp) g2 (fun hnone => ?_) (fun l b hsome hil => ?_)
    · simp -implicitDefEqProofs
      exact rest (by unfold refuses; rw [hnone])
    · obtain ⟨cbl, kbl, _⟩ := (fa.ptAt hb hp).lone g2 hsome hil
      have hrf : refuses p line w = (l.can w || l.waits != 0) := by unfold refuses; rw [hsome]
      simp -implicitDefEqProofs only [Bin_neq_111, Option.isNone_some, Bool.not_false, q_some, gd_bool, gl_bool, if_true]
      refine Can_spec kbl ?_
      cases hc : l.can w with
      | true =>
        simp -implicitDefEqProofs
        refine ret0 ?_ H (.refl _ _)
        rw [hask, if_pos (by rw [hrf, hc]; rfl)]
      | false =>
        simp -implicitDefEqProofs only [q_some, gd_bool, gl_bool, if_true]
        refine Waits_spec kbl ?_
        simp -implicitDefEqProofs only [Bin_neq_3, q_some, gd_bool, if_true, Pk_bool, Bool.false_eq_true, if_false]
        cases hw : (l.waits != 0) with
        | true =>
          simp -implicitDefEqProofs
          refine ret0 ?_ H (.refl _ _)
          rw [hask, if_pos (by rw [hrf, hc, hw]; rfl)]
        | false =>
          simp -implicitDefEqProofs
          exact rest (by rw [hrf, hc, hw]; rfl)
end YtacidjifocfhkaaGreatDoor
end Go.Proofs
namespace Go.Proofs
open Go Go.NW Go.Pm
set_option maxRecDepth 20000
set_option linter.unusedSimpArgs false
set_option linter.unusedVariables false
namespace YtacidjifocfhkaaGreatDoor
def encT (k : Int × Int × Int) : Value := .agg #[.int .i64 k.1, .int .i64 k.2.1, .int .i64 k.2.2]
theorem und_198 : (Tryz.prog).underlying 198 = some (.array 3 3) := by kernel_rfl
theorem und_197 : (Tryz.prog).underlying 197 = some (.map 198 3) := by kernel_rfl
theorem size_3 : elemSize Tryz.prog 3 = some 1 := by kernel_rfl
theorem rd_part {H : Hp} {cs : Array Value} {i : Nat} {v : Value} (h : cs[i]? = some v) : rd Tryz.prog H (part 3 cs i) = some v := by
  unfold part isAgg
  simp only [rd_b, rd_underlying und_3, Option.bind_some]
  show rd Tryz.prog H (match cs[i]? with | some v => pure v | none => stuck "part: no such cell") = _
  rw [h]; rfl
theorem eqInt {H : Hp} (n : Nat) (a b : Int) : rd Tryz.prog H (Op.equalIn (n + 1) 3 (.int .i64 a) (.int .i64 b)) = some (a == b) := by
  unfold Op.equalIn
  simp only [rd_b, rd_underlying und_3, Option.bind_some]
  rfl
theorem eq_198 {H : Hp} (k l : Int × Int × Int) : rd Tryz.prog H (Op.equal 198 (encT k) (encT l)) = some (decide (k = l)) := by
  obtain ⟨a, b, c⟩ := k
  obtain ⟨x, y, z⟩ := l
  unfold Op.equal Op.maxDepth
  show rd Tryz.prog H (Op.equalIn (9998 + 1 + 1) 198 _ _) = _
  rw [Op.equalIn]
  rw [rd_b, rd_underlying und_198]
  simp only [encT, Option.bind_some]
  rw [rd_b, rd_sizeOf size_3]
  simp only [Option.bind_some]
  simp only [Std.Legacy.Range.forIn_eq_forIn_range', Std.Legacy.Range.size, List.range', List.forIn_cons, List.forIn_nil, Nat.zero_mul, Nat.mul_one]
  simp only [rd_b, rd_part (show (#[Value.int .i64 a, .int .i64 b, .int .i64 c])[0]? = some (.int .i64 a) from rfl), rd_part (show (#[Value.int .i64 x, .int .i64 y, .int .i64 z])[0]? = some (.int .i64 x) from rfl), Option.bind_some, eqInt]
  by_cases h1 : a = x
  · subst h1
    simp only [beq_self_eq_true, Bool.not_true, Bool.false_eq_true, if_false, rd_p, Option.bind_some]
    simp only [rd_b, rd_part (show (#[Value.int .i64 a, .int .i64 b, .int .i64 c])[0 + 1]? = some (.int .i64 b) from rfl), rd_part (show (#[Value.int .i64 a, .int .i64 y, .int .i64 z])[0 + 1]? = some (.int .i64 y) from rfl), Option.bind_some, eqInt]
    by_cases h2 : b = y
    · subst h2
      simp only [beq_self_eq_true, Bool.not_true, Bool.false_eq_true, if_false, rd_p, Option.bind_some]
      simp only [rd_b, rd_part (show (#[Value.int .i64 a, .int .i64 b, .int .i64 c])[0 + 1 + 1]? = some (.int .i64 c) from rfl), rd_part (show (#[Value.int .i64 a, .int .i64 b, .int .i64 z])[0 + 1 + 1]? = some (.int .i64 z) from rfl), Option.bind_some, eqInt]
      by_cases h3 : c = z
      · subst h3
        simp [rd_p]
      · have e3 : (c == z) = false := by simpa using h3
        simp [rd_p, e3, h3]
    · have e2 : (b == y) = false := by simpa using h2
      simp [rd_p, e2, h2]
  · have e1 : (a == x) = false := by simpa using h1
    simp [rd_p, e1, h1]
theorem check_198 {H : Hp} (b : Bool) (k : Int × Int × Int) : rd Tryz.prog H (Instr.checkKey b 10000 198 (encT k)) = some () := by
  obtain ⟨a, b', c⟩ := k
  show rd Tryz.prog H (Instr.checkKey b (9998 + 1 + 1) 198 _) = _
  rw [Instr.checkKey]
  rw [rd_b, rd_underlying und_198]
  simp only [encT, Option.bind_some]
  have hi : ∀ x : Int, rd Tryz.prog H (Instr.checkKey b (9998 + 1) 3 (.int .i64 x)) = some () := by
    intro x
    rw [Instr.checkKey]
    simp only [rd_b, rd_underlying und_3, Option.bind_some]
    rfl
  simp only [Std.Legacy.Range.forIn_eq_forIn_range', Std.Legacy.Range.size, List.range', List.forIn_cons, List.forIn_nil]
  simp only [rd_b, rd_sizeOf size_3, Option.bind_some, Nat.zero_mul, Nat.mul_one]
  simp [rd_b, rd_p, rd_sizeOf size_3, rd_part (show (#[Value.int .i64 a, .int .i64 b', .int .i64 c])[0]? = some (.int .i64 a) from rfl), rd_part (show (#[Value.int .i64 a, .int .i64 b', .int .i64 c])[1]? = some (.int .i64 b') from rfl), rd_part (show (#[Value.int .i64 a, .int .i64 b', .int .i64 c])[2]? = some (.int .i64 c) from rfl), hi]
theorem findNow_agg (k : Int × Int × Int) : ∀ (es : List ((Int × Int × Int) × Value)) (i : Nat), Instr.findNow (.array 3 3) (encT k) (mapE encT es i) i = if es = [] then some none else none
  | [], _ => rfl
  | e :: es, i => rfl
theorem findAsk (H : Hp) (k : Int × Int × Int) : ∀ (es : List ((Int × Int × Int) × Value)) (i : Nat), rd Tryz.prog H (Instr.findAsking 198 (encT k) (mapE encT es i) i) = some (mapF k es i)
  | [], _ => rfl
  | e :: es, i => by
    simp only [mapE, Instr.findAsking, mapF]
    rw [rd_b, eq_198]
    simp only [Option.bind_some]
    by_cases c : k = e.1
    · have c' : e.1 = k := c.symm
      rw [if_pos c', if_pos (by simpa using c)]; rfl
    · have c' : ¬ e.1 = k := fun h => c h.symm
      rw [if_neg c', if_neg (by simpa using c)]
      exact findAsk H k es (i + 1)
theorem key_197 : KeyTy Tryz.prog 197 encT (.int .i64 0) where
  ty := by
    refine ⟨198, 3, by kernel_rfl, ?_, ?_, ?_⟩
    · intro H
      have hi : (Tryz.prog).info? 3 = some Tryz.t3 := by kernel_rfl
      have hz : Tryz.t3.zero = some (.int .i64 0) := by kernel_rfl
      simp only [zeroValue, rd_b, rd_typeInfo hi, Option.bind_some, hz]; rfl
    · intro H b k; exact check_198 b k
    · intro H k es
      unfold Instr.findKey
      simp only [rd_b, rd_underlying und_198, Option.bind_some, findNow_agg k es 0]
      by_cases he : es = []
      · subst he; rfl
      · rw [if_neg he]; exact findAsk H k es 0
  same := by
    intro k
    show Instr.sameBits (9999 + 1) (encT k) (encT k) = true
    simp [encT, Instr.sameBits]
end YtacidjifocfhkaaGreatDoor
end Go.Proofs
namespace Go.Proofs
open Go Go.NW Go.Pm
set_option maxRecDepth 20000
set_option linter.unusedSimpArgs false
set_option linter.unusedVariables false
namespace YtacidjifocfhkaaGreatDoor
abbrev K3 := Int × Int × Int
def keyOf (m : Msg) : K3 := (m.frm, m.to, classOf m.kind)
def cntK (ms : List Msg) (k : K3) : Nat := ms.countP fun m => keyOf m == k
theorem mapS_mem {k : K3} {v : Value} : ∀ {es : List (K3 × Value)}, (es.map (·.1)).Nodup → ∀ e, e ∈ mapS k v es ↔ e = (k, v) ∨ (e ∈ es ∧ e.1 ≠ k)
  | [], _, e => by simp [mapS]
  | x :: xs, hn, e => by
    simp only [List.map_cons, List.nodup_cons] at hn
    unfold mapS
    by_cases c : x.1 = k
    · rw [if_pos c]
      simp only [List.mem_cons]
      constructor
      · rintro (h | h)
        · exact .inl h
        · refine .inr ⟨.inr h, fun h2 => hn.1 ?_⟩
          rw [c, ← h2]; exact List.mem_map_of_mem (f := (·.1)) h
      · rintro (h | ⟨h | h, h2⟩)
        · exact .inl h
        · subst h; exact (h2 c).elim
        · exact .inr h
    · rw [if_neg c]
      simp only [List.mem_cons, mapS_mem hn.2 e]
      constructor
      · rintro (h | h | h)
        · subst h; exact .inr ⟨.inl rfl, c⟩
        · exact .inl h
        · exact .inr ⟨.inr h.1, h.2⟩
      · rintro (h | ⟨h | h, h2⟩)
        · exact .inr (.inl h)
        · exact .inl h
        · exact .inr (.inr ⟨h, h2⟩)
theorem mapS_keys {k : K3} {v : Value} : ∀ {es : List (K3 × Value)}, (es.map (·.1)).Nodup → ((mapS k v es).map (·.1)).Nodup
  | [], _ => by simp [mapS]
  | x :: xs, hn => by
    have hn' := hn
    simp only [List.map_cons, List.nodup_cons] at hn
    unfold mapS
    by_cases c : x.1 = k
    · rw [if_pos c]; simp only [List.map_cons, List.nodup_cons]; rw [← c]; exact hn
    · rw [if_neg c]
      simp only [List.map_cons, List.nodup_cons]
      refine ⟨fun h => ?_, mapS_keys hn.2⟩
      simp only [List.mem_map] at h
      obtain ⟨e, he, he2⟩ := h
      rw [mapS_mem hn.2] at he
      rcases he with rfl | ⟨h3, h4⟩
      · exact c he2.symm
      · exact hn.1 (by rw [← he2]; exact List.mem_map_of_mem (f := (·.1)) h3)
theorem mapG_mem {k : K3} : ∀ {es : List (K3 × Value)} {i : Nat}, (es.map (·.1)).Nodup → ∀ v, ((mapF k es i).map (·.2)) = some v ↔ (k, v) ∈ es
  | [], _, _, v => by simp [mapF]
  | x :: xs, i, hn, v => by
    simp only [List.map_cons, List.nodup_cons] at hn
    unfold mapF
    by_cases c : x.1 = k
    · rw [if_pos c]
      simp only [Option.map_some, Option.some.injEq, List.mem_cons]
      constructor
      · rintro rfl; left; subst c; rfl
      · rintro (h | h)
        · rw [← h]
        · exact (hn.1 (by rw [c]; exact List.mem_map_of_mem (f := (·.1)) h)).elim
    · rw [if_neg c, mapG_mem hn.2 v]
      simp only [List.mem_cons]
      constructor
      · exact .inr
      · rintro (h | h)
        · rw [← h] at c; exact (c rfl).elim
        · exact h
/-- the counts so far -/
structure Cnt (ms : List Msg) (es : List (K3 × Value)) : Prop where
  nd : (es.map (·.1)).Nodup
  a : ∀ e ∈ es, e.2 = .int .i64 (cntK ms e.1) ∧ 0 < cntK ms e.1
  b : ∀ k, 0 < cntK ms k → (k, .int .i64 (cntK ms k)) ∈ es
theorem Cnt.get {ms : List Msg} {es : List (K3 × Value)} (c : Cnt ms es) (k : K3) : (mapG k es).getD (.int .i64 0) = .int .i64 (cntK ms k) := by
  unfold mapG
  cases h : (mapF k es 0).map (·.2) with
  | none =>
    have : cntK ms k = 0 := by
      apply Classical.byContradiction; intro hn
      have := (mapG_mem (i := 0) c.nd _).2 (c.b k (by omega))
      rw [h] at this; cases this
    rw [this]; rfl
  | some v =>
    have := (mapG_mem c.nd v).1 h
    exact (c.a _ this).1
theorem cntK_snoc (ms : List Msg) (m : Msg) (k : K3) : cntK (ms ++ [m]) k = cntK ms k + if keyOf m = k then 1 else 0 := by
  simp only [cntK, List.countP_append, List.countP_cons, List.countP_nil, beq_iff_eq, Nat.zero_add]
theorem Cnt.snoc {ms : List Msg} {es : List (K3 × Value)} (c : Cnt ms es) (m : Msg) : Cnt (ms ++ [m]) (mapS (keyOf m) (.int .i64 ((cntK ms (keyOf m) + 1 : Nat) : Int)) es) := by
  refine ⟨mapS_keys c.nd, ?_, ?_⟩
  · intro e he
    rw [mapS_mem c.nd] at he
    rw [cntK_snoc]
    rcases he with rfl | ⟨h1, h2⟩
    · simp
    · rw [if_neg (fun h => h2 h.symm)]; exact c.a e h1
  · intro k hk
    rw [cntK_snoc] at hk ⊢
    rw [mapS_mem c.nd]
    by_cases h : keyOf m = k
    · subst h; left; simp
    · rw [if_neg h] at hk ⊢; right; exact ⟨c.b k hk, fun h2 => h h2.symm⟩
theorem fits_cnt {n : Net} {ms : List Msg} : n.fits ms = ms.all fun m => decide ((cntK ms (keyOf m) : Int) ≤ n.free m.frm m.to (classOf m.kind)) := by
  unfold Net.fits cntK keyOf
  congr 1
  funext m
  congr 3
  congr 1
  funext o
  rw [Bool.eq_iff_iff]
  simp
  constructor
  · rintro ⟨⟨a, b⟩, c⟩; exact ⟨a, b, c⟩
  · rintro ⟨a, b, c⟩; exact ⟨⟨a, b⟩, c⟩
theorem room_99 {H : Hp} {col : Nat → Rl} {bf bm : Nat} {s : Sk} {f : Fab} {mv : Value} {ms : List Msg} {Q : RT1} (fa : FabAt H col bf s f) (hl : f.net.l.length ≤ 2 ^ 20) (hr : f.net.room ≤ 2 ^ 20) (hm : Msgs H mv ms bm) (hml : ms.length ≤ 1000)
    (hq : ∀ H', Ext [] H H' → Q (.bool (f.net.fits ms)) H') : NCalls Tryz.prog 99 #[at0 bf, mv] H Q := by
  refine E99 ?_
  unfold F99_0 F99_16 F99_1 F99_15 F99_2
  obtain ⟨a, cap, hmv, _, _⟩ := id hm.shape
  have hmll : (ms.map fun m => (msgC m).toList).length = ms.length := by simp
  have hlv : pv Tryz.prog (Builtin.len_ #[117] 0 #[mv]) = some (.int .i64 ms.length) := by rw [hmv]; simp -implicitDefEqProofs [hmll]
  have e0 : Ext [] H (H.push (.map #[] 0)) := Ext.push H _
  obtain ⟨r, hr0⟩ : ∃ r, r = H.size := ⟨_, rfl⟩
  rw [← hr0]
  unfold F99_10 F99_14
  simp -implicitDefEqProofs only [hlv, q_some]
  unfold F99_11 F99_12
  have hmap0 : (H.push (Obj.map #[] 0))[r]? = some (mapO encT []) := by subst hr0; simp [mapO, mapE]
  have ck : ∀ k, cntK ms k ≤ 1000 := fun k => Nat.le_trans List.countP_le_length hml
  have ckt : ∀ j k, cntK (ms.take j) k ≤ 1000 := fun j k => Nat.le_trans List.countP_le_length (by simp; omega)
  refine ⟨fun v13 H' => ∃ (j : Nat) (es : List (K3 × Value)), v13 = .int .i64 j ∧ j ≤ ms.length ∧ Ext [] H H' ∧ H'[r]? = some (mapO encT es) ∧ Cnt (ms.take j) es, fun v13 _ => ms.length - (iv v13).toNat,
    ⟨0, [], rfl, by omega, e0, hmap0, ⟨by simp, by simp, by simp [cntK]⟩⟩, ?_⟩
  rintro v13 H1 ⟨j, es, rfl, hj, e1, ho1, hc1⟩
  unfold F99_13
  have rl : r < H1.size := get_lt ho1
  by_cases hlt : j < ms.length
  · have hlt' : (j : Int) < ms.length := by omega
    obtain ⟨o, hix, _, hcs⟩ := (hm.ext e1 (by simp)).at (i := j) (by simpa using hlt)
    have hx : (ms.map fun m => (msgC m).toList)[j]'(by simpa using hlt) = (msgC ms[j]).toList := by simp
    rw [hx] at hcs
    generalize hmj : ms[j] = m at hcs
    have hcs' : cellsAt H1 ⟨bm, o, none⟩ 11 = some (msgC m) := by simpa using hcs
    simp -implicitDefEqProofs only [Bin_lss_3, hlt', decide_true, q_some, condV_bool, if_true, hix, LdA_some, hcs', Option.map_some]
    refine New_i fun H2 b2 hb2 e2 s2 k2 => ?_
    refine St_i k2 (by simp [msgC]) (by simp) (by simp [msgC]) fun H3 e3 s3 k3 => ?_
    have k3' : blk H3 b2 (msgC m) := by simpa [wrL, msgC] using k3
    have e13 : Ext [] H1 H3 := e2.fresh e3 (by simp; omega)
    have E3 := e1.trans e13
    have ho3 : H3[r]? = some (mapO encT es) := by rw [e13.same _ rl (by simp)]; exact ho1
    have c2 : cellAt H3 ⟨b2, 2, none⟩ = some (.int .i64 m.frm) := by rw [k3'.cell]; rfl
    have c3 : cellAt H3 ⟨b2, 3, none⟩ = some (.int .i64 m.to) := by rw [k3'.cell]; rfl
    have c0 : cellAt H3 ⟨b2, 0, none⟩ = some (.int .i64 m.kind) := by rw [k3'.cell]; rfl
    simp -implicitDefEqProofs only [Fa_some, add_mk, Nat.zero_add, q_some, Ld_some, c2, c3, c0]
    refine Class_89 ?_
    refine ⟨c3, c2, ?_⟩
    have hb : pv Tryz.prog (Instr.build 198 #[(0, .int .i64 m.frm), (1, .int .i64 m.to), (2, .int .i64 (classOf m.kind))]) = some (encT (keyOf m)) := by kernel_rfl
    have hlk := lookup_rd key_197 ho3 (keyOf m)
    rw [hc1.get] at hlk
    have hck := ckt j (keyOf m)
    have w1 : IntKind.wrap .i64 ((cntK (ms.take j) (keyOf m) : Int) + 1) = ((cntK (ms.take j) (keyOf m) + 1 : Nat) : Int) := by rw [w64 (by omega) (by omega)]; simp
    have wj : IntKind.wrap .i64 ((j : Int) + 1) = ((j + 1 : Nat) : Int) := by rw [w64 (by omega) (by omega)]; simp
    simp -implicitDefEqProofs only [hb, q_some, hlk, Bin_add_3, w1]
    refine mapEntry_i key_197 ho3 ?_
    rw [hc1.get]
    have rl3 : r < H3.size := get_lt ho3
    have ho4 : (H3.setIfInBounds r (mapO encT (mapS (keyOf m) (.int .i64 (cntK (ms.take j) (keyOf m))) es)))[r]? = some (mapO encT (mapS (keyOf m) (.int .i64 (cntK (ms.take j) (keyOf m))) es)) := by
      rw [Array.getElem?_setIfInBounds]; simp [rl3]
    have hlk4 := lookup_rd key_197 ho4 (keyOf m)
    have hmf := mapF_S (k := keyOf m) (v := .int .i64 (cntK (ms.take j) (keyOf m))) es 0
    have hg4 : mapG (keyOf m) (mapS (keyOf m) (.int .i64 (cntK (ms.take j) (keyOf m))) es) = some (.int .i64 (cntK (ms.take j) (keyOf m))) := by unfold mapG; rw [hmf]; rfl
    rw [hg4] at hlk4
    refine ⟨hlk4, ?_⟩
    simp -implicitDefEqProofs only [Ex_tuple, List.getElem?_toArray, List.getElem?_cons_zero, List.getElem?_cons_succ, q_some]
    refine entryStore_i (k := keyOf m) ho4 (by rw [Nat.zero_add] at hmf; exact hmf) ?_
    rw [mapS_S, Array.setIfInBounds_setIfInBounds]
    simp -implicitDefEqProofs only [wj, q_some]
    have e34 : Ext [r] H3 (H3.setIfInBounds r (mapO encT (mapS (keyOf m) (.int .i64 ((cntK (ms.take j) (keyOf m) + 1 : Nat) : Int)) es))) := setObj_ext _ (by simp)
    refine ⟨trivial, trivial, trivial, trivial, ⟨j + 1, mapS (keyOf m) (.int .i64 ((cntK (ms.take j) (keyOf m) + 1 : Nat) : Int)) es, rfl, by omega, E3.fresh e34 (by simp; omega), by rw [Array.getElem?_setIfInBounds, if_pos rfl, if_pos rl3], ?_⟩, by simp; omega⟩
    rw [List.take_succ_eq_append_getElem hlt, hmj]
    exact hc1.snoc m
  · have hjl : j = ms.length := by omega
    subst hjl
    rw [List.take_length] at hc1
    have hlt' : ¬ ((ms.length : Int) < ms.length) := by omega
    simp -implicitDefEqProofs only [Bin_lss_3, hlt', decide_false, q_some, condV_bool, Bool.false_eq_true, if_false]
    unfold F99_3 F99_5 F99_9
    refine range_i und_197 ho1 ?_
    unfold F99_6 F99_7
    obtain ⟨t, ht⟩ : ∃ t, t = H1.size := ⟨_, rfl⟩
    rw [← ht]
    have e12 : Ext [] H (H1.push (.mapIter (some r) es.length #[] es.length)) := e1.trans (Ext.push H1 _)
    refine ⟨fun H' => ∃ sn : Array Nat, H'[t]? = some (.mapIter (some r) es.length sn es.length) ∧ Ext [] H1 H' ∧ sn.toList.Nodup ∧ (∀ x ∈ sn, x < es.length) ∧ ∀ x ∈ sn, ∀ hx : x < es.length, ((cntK ms es[x].1 : Int) ≤ f.net.free es[x].1.1 es[x].1.2.1 es[x].1.2.2),
      fun H' => match H'[t]? with | some (.mapIter _ _ sn _) => es.length - sn.size | _ => 0, ⟨#[], by subst ht; simp, Ext.push H1 _, by simp, by simp, by simp⟩, ?_⟩
    rintro H2 ⟨sn, hit, e2, hnd, hlts, hok⟩
    have obs : H2[r]? = some (mapO encT es) := by rw [e2.same _ rl (by simp)]; exact ho1
    unfold F99_8
    refine next_i obs hit (fun hall => ?_) (fun i hi hin => ?_)
    · simp -implicitDefEqProofs only [Ex_tuple, List.getElem?_toArray, List.getElem?_cons_zero, q_some, condV_bool, Bool.false_eq_true, if_false]
      unfold F99_4
      refine fin (hq H2 (e1.trans e2)) ?_
      have : f.net.fits ms = true := by
        rw [fits_cnt, List.all_eq_true]
        intro m hm'
        simp only [decide_eq_true_eq]
        have hpos : 0 < cntK ms (keyOf m) := by unfold cntK; rw [List.countP_pos_iff]; exact ⟨m, hm', by simp⟩
        obtain ⟨x, hx, hxe⟩ := List.getElem_of_mem (hc1.b _ hpos)
        have := hok x (hall x hx) hx
        rw [hxe] at this
        exact this
      rw [this]
    · have hrl : t < H2.size := get_lt hit
      have hext : Ext [t] H2 (H2.setIfInBounds t (.mapIter (some r) es.length (sn.push i) es.length)) := setObj_ext _ (by simp)
      have hbr : r ≠ t := by omega
      have ob2 : (H2.setIfInBounds t (.mapIter (some r) es.length (sn.push i) es.length))[r]? = some (mapO encT es) := by rw [hext.same _ (get_lt obs) (by simpa using hbr)]; exact obs
      have it2 : (H2.setIfInBounds t (.mapIter (some r) es.length (sn.push i) es.length))[t]? = some (.mapIter (some r) es.length (sn.push i) es.length) := by rw [Array.getElem?_setIfInBounds]; simp [hrl]
      have e23 : Ext [] H1 (H2.setIfInBounds t (.mapIter (some r) es.length (sn.push i) es.length)) := e2.fresh hext (by simp; omega)
      have hent := entry_rd (P := Tryz.prog) ob2 hi it2
      generalize hH3 : H2.setIfInBounds t (.mapIter (some r) es.length (sn.push i) es.length) = H3 at *
      simp -implicitDefEqProofs only [Ex_tuple, List.getElem?_toArray, List.getElem?_cons_succ, List.getElem?_cons_zero, q_some, condV_bool, if_true, hent]
      have hem : es[i] ∈ es := by simp
      obtain ⟨ha1, ha2⟩ := hc1.a _ hem
      rw [ha1]
      generalize hk : es[i].1 = k at *
      refine New_i fun H4 b4 hb4 e4 s4 k4 => ?_
      refine St_i k4 (by simp [encT]) (by simp) (by simp [encT]) fun H5 e5 s5 k5 => ?_
      have k5' : blk H5 b4 #[.int .i64 k.1, .int .i64 k.2.1, .int .i64 k.2.2] := by simpa [wrL, encT] using k5
      have e35 : Ext [] H3 H5 := e4.fresh e5 (by simp; omega)
      have fa5 := fa.ext0 ((e1.trans e23).trans e35)
      have i0 : IxA 3 1 (at0 b4) (.int .i64 0) = some (.pointer (some ⟨b4, 0, none⟩)) := by kernel_rfl
      have i1 : IxA 3 1 (at0 b4) (.int .i64 1) = some (.pointer (some ⟨b4, 1, none⟩)) := by kernel_rfl
      have i2 : IxA 3 1 (at0 b4) (.int .i64 2) = some (.pointer (some ⟨b4, 2, none⟩)) := by kernel_rfl
      have d0 : cellAt H5 ⟨b4, 0, none⟩ = some (.int .i64 k.1) := by rw [k5'.cell]; rfl
      have d1 : cellAt H5 ⟨b4, 1, none⟩ = some (.int .i64 k.2.1) := by rw [k5'.cell]; rfl
      have d2 : cellAt H5 ⟨b4, 2, none⟩ = some (.int .i64 k.2.2) := by rw [k5'.cell]; rfl
      simp -implicitDefEqProofs only [Nz_some, q_some, Fa_some, add_mk, Nat.zero_add, Ld_some, fa5.cBn, i0, i1, i2, d0, d1, d2]
      refine Room_130 fa5.net hl hr fun H6 e6 => ?_
      have E6 : Ext [] H1 H6 := (e23.trans e35).trans e6
      by_cases hfit : ((cntK ms k : Int) ≤ f.net.free k.1 k.2.1 k.2.2)
      · have hd : decide (f.net.free k.1 k.2.1 k.2.2 < (cntK ms k : Int)) = false := by simp; omega
        simp -implicitDefEqProofs only [Bin_lss_3, hd, q_some, condV_bool, Bool.false_eq_true, if_false]
        have it6 : H6[t]? = some (.mapIter (some r) es.length (sn.push i) es.length) := by
          have t3 : t < H3.size := get_lt it2
          rw [(e35.trans e6).same _ t3 (by simp)]; exact it2
        have hnd2 : (sn.push i).toList.Nodup := by
          rw [Array.toList_push, List.nodup_append]
          exact ⟨hnd, by simp, by intro x hx y hy; simp at hy; subst hy; intro he; subst he; exact hin (by simpa using hx)⟩
        have hlt2 : ∀ x ∈ sn.push i, x < es.length := by
          intro x hx
          rw [Array.mem_push] at hx
          rcases hx with hx | rfl
          · exact hlts x hx
          · exact hi
        refine ⟨trivial, trivial, ⟨sn.push i, it6, E6, hnd2, hlt2, ?_⟩, ?_⟩
        · intro x hx hxl
          rw [Array.mem_push] at hx
          rcases hx with hx | rfl
          · exact hok x hx hxl
          · rw [hk]; exact hfit
        · rw [it6, hit]
          have := (List.Nodup.length_le_of_subset (l₁ := (sn.push i).toList) (l₂ := List.range es.length) hnd2 (by intro a ha; simp; exact hlt2 a (by simpa using ha)))
          simp at this ⊢; omega
      · have hd : decide (f.net.free k.1 k.2.1 k.2.2 < (cntK ms k : Int)) = true := by simp; omega
        simp -implicitDefEqProofs only [Bin_lss_3, hd, q_some, condV_bool, if_true]
        refine fin (hq H6 (e1.trans E6)) ?_
        have : f.net.fits ms = false := by
          rw [fits_cnt, List.all_eq_false]
          have hp : 0 < cntK ms k := ha2
          unfold cntK at hp
          rw [List.countP_pos_iff] at hp
          obtain ⟨m, hm', hmk⟩ := hp
          have hmk : keyOf m = k := by simpa using hmk
          refine ⟨m, hm', ?_⟩
          simp only [decide_eq_true_eq]
          subst hmk
          exact hfit
        rw [this]
end YtacidjifocfhkaaGreatDoor
end Go.Proofs
namespace Go.Proofs
open Go Go.NW Go.Pm
set_option maxRecDepth 20000
set_option linter.unusedSimpArgs false
set_option linter.unusedVariables false
namespace YtacidjifocfhkaaGreatDoor
theorem FabAt.memT {H H' : Hp} {col : Nat → Rl} {bf : Nat} {s : Sk} {f : Fab} (fa : FabAt H col bf s f) {bs : List Int} (e : Ext [s.bb] H H') (m : MemC H' s.bm s.bb bs) (hl : bs.length = f.bytes) : FabAt H' col bf s f := by
  have hc := Same.refl H col
  have hS : ∀ x ∈ [s.bb], x < H.size → col x = .bytes := by intro x hx _; simp at hx; subst hx; exact fa.cbb
  have ne : ∀ {r : Rl}, r ≠ .bytes → ∀ x ∈ [s.bb], x < H.size → col x ≠ r := fun hr x hx hl h => hr (h ▸ hS x hx hl)
  refine ⟨fun b hb => (fa.gl b hb).ext e hc (ne (by simp)), fa.cb, fa.kb.ext e fun hm => ?_, ⟨bs, m, hl⟩, fa.cm, fa.cbb, fa.net.ext e hc fun x hx hlt => ⟨ne (by simp) x hx hlt, ne (by simp) x hx hlt⟩, fa.pl.ext e hc (ne (by simp)), fa.pn, fun i h1 h2 => (fa.pt i h1 h2).ext e hc fun x hx hlt => by rw [hS x hx hlt]; rfl, ?_⟩
  · have := hS _ hm fa.kb.lt; rw [fa.cb] at this; cases this
  · obtain ⟨bhs, h1, h2, h3⟩ := fa.hm
    exact ⟨bhs, h1.ext e hc (ne (by simp)), h2, fun i a b => (h3 i a b).ext e hc (ne (by simp))⟩
theorem FabAt.homeIx {H : Hp} {col : Nat → Rl} {bf : Nat} {s : Sk} {f : Fab} (fa : FabAt H col bf s f) {i : Nat} {h : Home} (hi : f.homes[i]? = some h) :
    ∃ e o b, (∀ k, Ix 1 s.hv (.int k i) = some (.pointer (some ⟨e, o, none⟩))) ∧ cellAt H ⟨e, o, none⟩ = some (at0 b) ∧ HomeR H col b h := by
  obtain ⟨h1, rfl⟩ := List.getElem?_eq_some_iff.1 hi
  obtain ⟨bhs, hs, hl, hh⟩ := fa.hm
  obtain ⟨e, hb⟩ := hs.slc
  obtain ⟨o, hix, hc, _⟩ := hb.at (i := i) (by simp; omega)
  exact ⟨e, o, bhs[i]'(by omega), hix, by have := hc 0 (by omega); simpa using this, hh i (by omega) h1⟩
theorem FabAt.homeSt {H : Hp} {col : Nat → Rl} {bf b : Nat} {s : Sk} {f : Fab} (fa : FabAt H col bf s f) {i : Nat} {h' : Home} (hi : i < f.homes.length) (hr : HomeR H col b h') :
    ∃ e o, (∀ k, Ix 1 s.hv (.int k i) = some (.pointer (some ⟨e, o, none⟩))) ∧ col e = .homes ∧ ∀ K : Hp → Prop, (∀ H', Ext [e] H H' → H'.size = H.size → FabAt H' col bf s { f with homes := f.homes.set i h' } → K H') → St 1 H (.pointer (some ⟨e, o, none⟩)) (at0 b) K := by
  obtain ⟨bhs, hs, hl, hh⟩ := fa.hm
  rcases hs with ⟨_, h0⟩ | ⟨e, he, hce, hb⟩
  · have : (bhs.map fun b => [at0 b]).length = 0 := by rw [h0]; rfl
    simp at this; rw [this] at hl; simp at hl; omega
  obtain ⟨o, hix, hst⟩ := hb.st (i := i) (x := at0 b) (by simp; omega) (by rfl) (by rfl)
  refine ⟨e, o, hix, hce, fun K hK => hst K fun H' e' s' k' => hK H' e' s' ?_⟩
  have hS : ∀ x ∈ [e], x < H.size → col x = .homes := by intro x hx _; simp at hx; subst hx; exact hce
  have hc := Same.refl H col
  have ne : ∀ {r : Rl}, r ≠ .homes → ∀ x ∈ [e], x < H.size → col x ≠ r := fun hr x hx hl h => hr (h ▸ hS x hx hl)
  obtain ⟨bs, mc, hbl⟩ := fa.mem
  refine ⟨fun b hb => (fa.gl b hb).ext e' hc (ne (by simp)), fa.cb, fa.kb.ext e' fun hm => ?_, ⟨bs, mc.ext e' (fun hm => ?_) (fun hm => ?_), hbl⟩, fa.cm, fa.cbb, fa.net.ext e' hc fun x hx hlt => ⟨ne (by simp) x hx hlt, ne (by simp) x hx hlt⟩, fa.pl.ext e' hc (ne (by simp)), fa.pn, fun i h1 h2 => (fa.pt i h1 h2).ext e' hc fun x hx hlt => by rw [hS x hx hlt]; rfl, bhs.set i b, .inr ⟨e, by omega, hce, ?_⟩, by simpa using hl, fun j h1 h2 => ?_⟩
  · have := hS _ hm fa.kb.lt; rw [fa.cb] at this; cases this
  · have := hS _ hm mc.lm; rw [fa.cm] at this; cases this
  · have := hS _ hm mc.lb; rw [fa.cbb] at this; cases this
  · simpa [List.map_set] using k'
  · by_cases hj : i = j
    · subst hj
      simpa using hr.ext e' hc (ne (by simp))
    · simp only [List.getElem_set, hj, if_false]
      exact (hh j (by simpa using h1) (by simpa using h2)).ext e' hc (ne (by simp))
theorem take_net {n : Net} {id : Int} : (n.take id).room = n.room ∧ (n.take id).next = n.next ∧ (n.take id).l.length ≤ n.l.length ∧ (n.take id).harts = n.harts := by
  unfold Net.take
  split
  · exact ⟨rfl, rfl, Nat.le_refl _, rfl⟩
  · refine ⟨rfl, rfl, ?_, rfl⟩
    simp only [List.length_eraseIdx]; split <;> omega
theorem askL_le (h : Home) : ∀ (l : List Bool) (i : Nat), (h.askL l i).length ≤ 2 * l.length
  | [], i => by simp [Home.askL]
  | v :: vs, i => by
    have := askL_le h vs (i + 1)
    simp only [Home.askL, List.length_append, List.length_cons]
    have h1 : (if v then [h.to i 4] else []).length ≤ 1 := by split <;> simp
    have h2 : (if h.asked = (i : Int) then [h.to i 6] else []).length ≤ 1 := by split <;> simp
    omega
theorem invFrom_length (sv : Int) : ∀ (ss vs : List Bool) (i : Nat), (Home.invFrom sv ss vs i).length = vs.length
  | [], vs, i => by simp [Home.invFrom]
  | s :: ss, [], i => by simp [Home.invFrom]
  | s :: ss, v :: vs, i => by simp [Home.invFrom, invFrom_length sv ss vs (i + 1)]
theorem owned_len (h : Home) : h.owned.2.length ≤ 1 := by unfold Home.owned; split <;> simp
theorem own_eq (h : Home) : ∃ h2 : Home, h.own = (if (h2.askL h2.inv 0).length > 0 then (h2, h2.askL h2.inv 0) else h2.owned) ∧ h2.inv.length = h.inv.length := by
  unfold Home.own
  refine ⟨_, rfl, ?_⟩
  split <;> simp [invFrom_length]
theorem own_len (h : Home) : h.own.2.length ≤ 1 + 2 * h.inv.length := by
  obtain ⟨h2, e, hinv⟩ := own_eq h
  rw [e]
  have := askL_le h2 h2.inv 0
  split
  · simp only []; omega
  · have := owned_len h2; omega
theorem share_len (h : Home) : h.share.2.length ≤ 1 := by
  unfold Home.share
  split
  · simp
  · split <;> simp
theorem take_len {h : Home} (m : Msg) : (h.take m).2.length ≤ 1 + 2 * h.inv.length := by
  unfold Home.take
  split
  · simp
  split
  · simp only []
    split
    · exact Nat.le_trans (share_len _) (by omega)
    · exact own_len _
  split
  · simp
  split
  · exact Nat.le_trans (owned_len _) (by omega)
  split
  · simp only []
    split
    · simp [Home.shared]
    · exact Nat.le_trans (owned_len _) (by omega)
  · simp
theorem SetLine_int {H : Hp} {bm bb : Nat} {line : Int} {bs : List Int} {w : Words} {Q : RT1} (m : MemC H bm bb bs) (h0 : 0 ≤ line) (hi : line.toNat < bs.length / 16) (hw : U32s w)
    (hq : ∀ H', Ext [bb] H H' → MemC H' bm bb (setLineL bs line.toNat w) → Q (.bool true) H') : NCalls Tryz.prog 67 #[at0 bm, .int .i64 line, .agg (wordsC w)] H Q := by
  obtain ⟨n, rfl⟩ := Int.eq_ofNat_of_zero_le h0
  exact SetLine_67 m hi hw hq
theorem atHome_65 {H : Hp} {col : Nat → Rl} {bf : Nat} {s : Sk} {f : Fab} {id : Int} {m : Msg} {Q : RT1} (fa : FabAt H col bf s f) (ok : FabOk f) (hx : f.net.next ≤ 2 ^ 18) (hml : 0 ≤ m.line ∧ m.line < f.homes.length)
    (hnext : ∀ f', f.atHome id m = some f' → ∀ i (hi : i < f'.homes.length), U32s f'.homes[i].data)
    (h0 : f.atHome id m = none → ∀ H', Ext [] H H' → Q (.bool false) H')
    (h1 : ∀ f', f.atHome id m = some f' → ∀ H' col', Mod Rl.mine H col H' → Same H col col' → FabAt H' col' bf s f' → Q (.bool true) H') :
    NCalls Tryz.prog 65 #[at0 bf, .int .i64 id, .agg (msgC m)] H Q := by
  refine E65 ?_
  unfold F65_0
  refine New_i fun H1 b1 hb1 e1 s1 k1 => ?_
  replace k1 : blk H1 b1 (msgC m) := by simpa using k1
  have fa1 := fa.new (b := b1) e1 (by omega)
  obtain ⟨h, hh⟩ : ∃ h, f.homes[m.line.toNat]? = some h := ⟨_, List.getElem?_eq_getElem (by omega)⟩
  have hlt : m.line.toNat < f.homes.length := by omega
  obtain ⟨e, o, b, hix, hcell, hr⟩ := fa1.homeIx hh
  have hih : ((m.line.toNat : Nat) : Int) = m.line := by omega
  rw [hih] at hix
  have hc1 : cellAt H1 ⟨b1, 1, none⟩ = some (.int .i64 m.line) := by rw [k1.cell]; rfl
  have hgetD : f.homes.getD m.line.toNat (Home.new 0 0 .zero) = h := by rw [List.getD_eq_getElem?_getD, hh]; rfl
  have hok : HomeOk f.parts.length m.line.toNat h := by
    obtain ⟨a, rfl⟩ := List.getElem?_eq_some_iff.1 hh; exact ok.homes _ a
  obtain ⟨bs, bi, ha, cb1, cb2, cb3⟩ := hr
  have hath : f.atHome id m = if !h.takes m then none else if !f.net.fits (h.take m).2 then none else some { f with homes := f.homes.set m.line.toNat (h.take m).1, net := (f.net.take id).send (h.take m).2 } := by
    unfold Fab.atHome; rw [hgetD]
  simp -implicitDefEqProofs only [Nz_some, q_some, Fa_some, add_mk, Nat.zero_add, Ld_some, fa1.cHv, hc1, hix, hcell]
  refine Clone_home (by rw [hok.harts]; have := ok.h0; omega) hok.wf ha fun H2 c2 cs2 ci2 e2 ha2 g1 g2 g3 => ?_
  have z1 := e1.size
  have z2 := e2.size
  have k2 := k1.ext e2 (by simp)
  have er : (msgC m).extract 0 11 = msgC m := by simp [msgC]
  have hms : (msgC m).size = 11 := rfl
  simp -implicitDefEqProofs [k2.cells, hms, er]
  refine Takes_home hok.wf ha2 fun H3 e3 => ?_
  have k3 := k2.ext e3 (by simp)
  have E3 : Ext [] H H3 := (e1.trans e2).trans e3
  cases ht : h.takes m with
  | false =>
    simp -implicitDefEqProofs
    exact h0 (by rw [hath, ht]; rfl) H3 E3
  | true =>
    have ha3 := ha2.ext0 e3
    have z3 := e3.size
    simp -implicitDefEqProofs [k3.cells, hms, er]
    refine Take_home hok.wf ha3 fun H4 v4 bm4 e4 ha4 ms4 hbm4 => ?_
    have l4 := e4.size
    have hn1 : c2 ≠ b1 := by omega
    -- the colours of what is new
    obtain ⟨col4, hcol4⟩ : ∃ c : Nat → Rl, c = recol (recol (recol (recol (recol col b1 .other) c2 .home) cs2 .home) ci2 .home) bm4 .other := ⟨_, rfl⟩
    have lc2 := ha3.lb
    have lcs := ha3.ls
    have lci := ha3.li
    have S4 : Same H col col4 := by
      intro x hx; subst hcol4; simp only [recol]
      rw [if_neg (by omega), if_neg (by omega), if_neg (by omega), if_neg (by omega), if_neg (by omega)]
    have E4 : Ext [] H H4 := E3.fresh e4 (by simp; omega)
    have fa4 : FabAt H4 col4 bf s f := fa.ext (R := fun _ => false) (Mod.of E4 (by simp)) S4 (by simp)
    have c4b1 : col4 b1 = .other := by
      subst hcol4; simp [recol, show ¬ b1 = bm4 by omega, show ¬ b1 = ci2 by omega, show ¬ b1 = cs2 by omega, show ¬ b1 = c2 by omega]
    have c4c2 : col4 c2 = .home := by
      subst hcol4; simp [recol, show ¬ c2 = bm4 by omega, ha3.d2, ha3.d1]
    have c4cs : col4 cs2 = .home := by
      subst hcol4; simp [recol, show ¬ cs2 = bm4 by omega, ha3.d3]
    have c4ci : col4 ci2 = .home := by
      subst hcol4; simp [recol, show ¬ ci2 = bm4 by omega]
    have c4bm : col4 bm4 = .other := by subst hcol4; simp [recol]
    have k4 : blk H4 b1 (msgC m) := k3.ext e4 (by simp; omega)
    have hiv := hok.wf.iv
    have hharts := hok.harts
    have hp4 := ok.h1
    have hlen := take_len (h := h) m
    have hnl := ok.nl
    have hnr := ok.nr
    refine room_99 fa4 (by omega) (by omega) ms4 (by omega) fun H5 e5 => ?_
    cases hf : f.net.fits (h.take m).2 with
    | false =>
      simp -implicitDefEqProofs
      exact h0 (by rw [hath, ht, hf]; rfl) H5 (E4.trans e5)
    | true =>
      have hsome : f.atHome id m = some { f with homes := f.homes.set m.line.toNat (h.take m).1, net := (f.net.take id).send (h.take m).2 } := by rw [hath, ht, hf]; rfl
      have fa5 := fa4.ext0 e5
      have k5 := k4.ext e5 (by simp)
      have ha5 := ha4.ext0 e5
      have ms5 : Msgs H5 v4 (h.take m).2 bm4 := ms4.ext e5 (by simp)
      have hr5 : HomeR H5 col4 c2 (h.take m).1 := ⟨cs2, ci2, ha5, c4c2, c4cs, c4ci⟩
      obtain ⟨e', o', hix', hce, hst⟩ := fa5.homeSt hlt hr5
      rw [hih] at hix'
      have hcl5 : cellAt H5 ⟨b1, 1, none⟩ = some (.int .i64 m.line) := by rw [k5.cell]; rfl
      simp -implicitDefEqProofs only [un_not, Bool.not_true, q_some, condV_bool, Bool.false_eq_true, if_false, Nz_some, Fa_some, add_mk, Nat.zero_add, Ld_some, fa5.cHv, hcl5, hix']
      refine hst _ fun H6 e6 s6 fa6 => ?_
      have k6 := k5.ext e6 (by simp; intro h2; subst h2; rw [c4b1] at hce; cases hce)
      have hcl6 : cellAt H6 ⟨b1, 1, none⟩ = some (.int .i64 m.line) := by rw [k6.cell]; rfl
      have m6 : Mod Rl.mine H5 col4 H6 := Mod.of e6 (by intro x hx _; simp at hx; subst hx; rw [hce]; rfl)
      have ms6 : Msgs H6 v4 (h.take m).2 bm4 := Slc.mine ms5 m6 c4bm
      have hne2 : ∀ x, col4 x = .home → x ≠ e' := by intro x hx h2; subst h2; rw [hx] at hce; cases hce
      have ha6 : HomeAt H6 c2 cs2 ci2 (h.take m).1 := ha5.ext e6 (by simpa using hne2 _ c4c2) (by simpa using hne2 _ c4cs) (by simpa using hne2 _ c4ci)
      simp -implicitDefEqProofs only [fa6.cBm, q_some, hcl6]
      refine Data_home ha6 fun H7 e7 => ?_
      have k7 := k6.ext e7 (by simp)
      have fa7 := fa6.ext0 e7
      have ms7 : Msgs H7 v4 (h.take m).2 bm4 := ms6.ext e7 (by simp)
      have hcl7 : cellAt H7 ⟨b1, 1, none⟩ = some (.int .i64 m.line) := by rw [k7.cell]; rfl
      obtain ⟨bb, mc, hbl⟩ := fa7.mem
      refine ⟨hcl7, fa7.cBm, ?_⟩
      have hby := ok.bytes
      have hu : U32s (h.take m).1.data := by
        have := hnext _ hsome m.line.toNat (by simpa using hlt)
        simpa using this
      have hbl' : bb.length = 16 * f.homes.length := hbl.trans hby
      refine SetLine_int mc hml.1 (by omega) hu fun H8 e8 mc8 => ?_
      have fa8 := fa7.memT e8 mc8 (by rw [setLineL_len]; exact hbl)
      have m8 : Mod Rl.mine H7 col4 H8 := Mod.of e8 (by intro x hx _; simp at hx; subst hx; rw [fa7.cbb]; rfl)
      have ms8 : Msgs H8 v4 (h.take m).2 bm4 := Slc.mine ms7 m8 c4bm
      simp -implicitDefEqProofs only [q_some, fa8.cBn]
      refine Take_100 fa8.net (by show f.net.l.length ≤ _; omega) fun H9 col9 v9 e9 sm9 kn9 => ?_
      have cbn : col4 s.bn = .net := fa8.net.cb
      have m9 : Mod Rl.isNet H8 col4 H9 := Mod.of e9 (by intro x hx _; simp at hx; subst hx; rw [cbn]; rfl)
      have fa9 := fa8.netT m9 sm9 kn9
      have z5 := e5.size
      have z7 := e7.size
      have z8 := e8.size
      have lbm : bm4 < H8.size ∨ (h.take m).2 = [] := by
        by_cases he : (h.take m).2 = []
        · exact .inr he
        · left; exact ms8.lt (by simpa using he)
      have ms9 : Msgs H9 v4 (h.take m).2 bm4 := Slc.mine ms8 (m9.mono mine_net) c4bm
      simp -implicitDefEqProofs only [q_some, fa9.cBn]
      obtain ⟨t1, t2, t3, t4⟩ := take_net (n := f.net) (id := id)
      refine Send_53 fa9.glob fa9.net (by show (f.net.take id).l.length + _ ≤ _; omega) (by show (f.net.take id).next ≤ _; omega) (by show (f.net.take id).room ≤ _; omega) ms9 fun H10 col10 v10 e10 sm10 kn10 => ?_
      have cbn9 : col9 s.bn = .net := fa9.net.cb
      have m10 : Mod Rl.isNet H9 col9 H10 := Mod.of e10 (by intro x hx _; simp at hx; subst hx; rw [cbn9]; rfl)
      have fa10 := fa9.netT m10 sm10 kn10
      have z4 := E4.size
      have z9 := e9.size
      have M8 : Mod Rl.mine H col H8 := ((((Mod.of (R := Rl.mine) (E4.trans e5) (by simp)).trans S4 m6).trans S4 (Mod.of e7 (by simp)))).trans S4 m8
      have S9 : Same H col col9 := S4.trans (H' := H8) sm9 (by omega)
      have S10 : Same H col col10 := S9.trans (H' := H9) sm10 (by omega)
      exact h1 _ hsome H10 col10 ((M8.trans S4 (m9.mono mine_net)).trans S9 (m10.mono mine_net)) S10 fa10
end YtacidjifocfhkaaGreatDoor
end Go.Proofs
namespace Go.Proofs
open Go Go.NW Go.Pm
set_option maxRecDepth 20000
set_option linter.unusedSimpArgs false
set_option linter.unusedVariables false
namespace YtacidjifocfhkaaGreatDoor
theorem take1_len (l : Lone) (m : Msg) : (l.take m).2.1.length ≤ 1 := by
  unfold Lone.take
  split
  · simp only []; unfold Lone.take1; repeat' split
    all_goals simp
  · simp
theorem lost_len {n i : Nat} {p : Part} (po : PartOk n i p) : p.lost.length ≤ n := by
  have := (List.Nodup.length_le_of_subset (l₁ := p.lost.map Int.toNat) (l₂ := List.range n) (by
    unfold List.Nodup
    rw [List.pairwise_map]
    refine List.Pairwise.imp_of_mem ?_ po.sorted
    intro a b ha hb hab h
    have := (po.lost a ha).1
    have := (po.lost b hb).1
    omega) (by
    intro a ha
    simp only [List.mem_map] at ha
    obtain ⟨k, hk, rfl⟩ := ha
    have := po.lost k hk
    rw [List.mem_range]; omega))
  simpa only [List.length_map, List.length_range] using this
theorem Slc.mine2 {H0 H H' : Hp} {col : Nat → Rl} {n b : Nat} {v : Value} {xs : List (List Value)} (k0 : Slc H0 n v xs b) (k : Slc H n v xs b) (m : Mod Rl.mine H col H') (hc : b < H0.size → col b = .other) : Slc H' n v xs b := by
  rcases k0.2 with ⟨rfl, rfl⟩ | ⟨o, cap, c, _, _, hb, _⟩
  · exact Slc.nil _ _ _
  · exact Slc.mine k m (hc hb.lt)
def hartPart (p : Part) (m : Msg) (l : Lone) : Part :=
  let p1 := p.setLine m.line (l.take m).1
  let p2 := if (l.take m).2.2 then p1.lose m.line else p1
  if (l.take m).1.state = 0 ∧ (l.take m).1.waits = 0 then { p2 with cache := p2.cache.drop m.line } else p2
def loneOf (p : Part) (m : Msg) : Lone := (p.line m.line).getD { line := m.line, hart := m.to }
theorem atHart_eq {f : Fab} {id : Int} {m : Msg} {p : Part} (hp : f.parts[m.to.toNat]? = some p) : f.atHart id m =
    if !(loneOf p m).takes m then none else if !f.net.fits ((loneOf p m).take m).2.1 then none else
    some { f with net := (f.net.take id).send ((loneOf p m).take m).2.1, parts := f.parts.set m.to.toNat (hartPart p m (loneOf p m)) } := by
  unfold Fab.atHart
  rw [part_of hp]
  rfl
theorem atHart_66 {H : Hp} {col : Nat → Rl} {bf : Nat} {s : Sk} {f : Fab} {id : Int} {m : Msg} {Q : RT1} (fa : FabAt H col bf s f) (ok : FabOk f) (hx : f.net.next ≤ 2 ^ 18) (hml : 0 ≤ m.line ∧ m.line < f.homes.length) (hmt : 0 ≤ m.to ∧ m.to < f.parts.length)
    (h0 : f.atHart id m = none → ∀ H', Ext [] H H' → Q (.bool false) H')
    (h1 : ∀ f', f.atHart id m = some f' → ∀ H' col', Mod Rl.mine H col H' → Same H col col' → FabAt H' col' bf s f' → Q (.bool true) H') :
    NCalls Tryz.prog 66 #[at0 bf, .int .i64 id, .agg (msgC m)] H Q := by
  obtain ⟨p, hp⟩ : ∃ p, f.parts[m.to.toNat]? = some p := ⟨_, List.getElem?_eq_getElem (by omega)⟩
  have po := ok.pOf hp
  have hath := atHart_eq (id := id) hp
  generalize hl : loneOf p m = l at hath
  have hih : ((m.to.toNat : Nat) : Int) = m.to := by omega
  refine E66 ?_
  unfold F66_0 F66_20
  refine New_i fun H1 b1 hb1 e1 s1 k1 => ?_
  replace k1 : blk H1 b1 (msgC m) := by simpa using k1
  have fa1 := fa.ext0 e1
  obtain ⟨bp, hb⟩ := fa1.bpOf (i := m.to.toNat) (by omega)
  obtain ⟨hlb, hbe⟩ := List.getElem?_eq_some_iff.1 hb
  obtain ⟨e, o, hix, hcell⟩ := fa1.partIx hlb
  rw [hbe] at hcell
  rw [hih] at hix
  have c1 : ∀ {G : Hp}, blk G b1 (msgC m) → cellAt G ⟨b1, 1, none⟩ = some (.int .i64 m.line) := fun k => by rw [k.cell]; rfl
  have c3 : ∀ {G : Hp}, blk G b1 (msgC m) → cellAt G ⟨b1, 3, none⟩ = some (.int .i64 m.to) := fun k => by rw [k.cell]; rfl
  have er : (msgC m).extract 0 11 = msgC m := by simp [msgC]
  have hms : (msgC m).size = 11 := rfl
  unfold F66_1 F66_19
  simp -implicitDefEqProofs only [Nz_some, q_some, Fa_some, add_mk, Nat.zero_add, Ld_some, fa1.cPv, c3 k1, hix, hcell]
  unfold F66_2 F66_18
  simp -implicitDefEqProofs only [q_some, Fa_some, add_mk, Nat.zero_add, Ld_some, c1 k1, c3 k1]
  refine New_lone fun H2 b2 hb2 e2 k2 => ?_
  have k12 := k1.ext e2 (by simp)
  have E2 := e1.trans e2
  have z1 := e1.size
  have z2 := e2.size
  unfold F66_3 F66_17
  simp -implicitDefEqProofs only [q_some, Fa_some, add_mk, Nat.zero_add, Ld_some, c1 k12]
  have fa2 := fa.ext0 E2
  -- behind the line
  have rest : ∀ (H3 : Hp) (b : Nat), Ext [] H H3 → H.size ≤ b → b ≠ b1 → blk H3 b1 (msgC m) → blk H3 b (loneC l) → F66_4 (at0 bf) (.int .i64 id) (at0 b1) (at0 bp) (at0 b) H3 Q := by
    intro H3 b E3 hbs hne k13 k3
    unfold F66_4 F66_16
    simp -implicitDefEqProofs only [LdA_some, k13.cells, hms, er, Nat.zero_add, Nat.le_refl, if_true, Option.map_some, q_some]
    refine Takes_spec k3 fun H4 e4 => ?_
    have k14 := k13.ext e4 (by simp)
    have k4 := k3.ext e4 (by simp)
    have E4 := E3.trans e4
    have lb4 := k4.lt
    have lb14 := k14.lt
    cases ht : l.takes m with
    | false =>
      simp -implicitDefEqProofs
      exact h0 (by rw [hath, ht]; rfl) H4 E4
    | true =>
      simp -implicitDefEqProofs only [un_not, Bool.not_true, q_some, condV_bool, Bool.false_eq_true, if_false]
      unfold F66_5 F66_15
      simp -implicitDefEqProofs only [LdA_some, k14.cells, hms, er, Nat.zero_add, Nat.le_refl, if_true, Option.map_some, q_some]
      refine Take_spec k4 fun H5 v5 bm5 e5 k5 ms5 hbm5 => ?_
      have k15 := k14.ext e5 (by simpa using hne.symm)
      have z4 := E4.size
      have z5 := e5.size
      have E5 : Ext [] H H5 := E4.fresh e5 (by simp; omega)
      obtain ⟨col5, hcol5⟩ : ∃ c : Nat → Rl, c = recol (recol (recol col b1 .other) b (.lone m.to.toNat m.line.toNat)) bm5 .other := ⟨_, rfl⟩
      have S5 : Same H col col5 := by
        intro x hx; subst hcol5; simp only [recol]
        rw [if_neg (by omega), if_neg (by omega), if_neg (by omega)]
      have fa5 : FabAt H5 col5 bf s f := fa.ext (R := fun _ => false) (Mod.of E5 (by simp)) S5 (by simp)
      have cb1 : col5 b1 = .other := by subst hcol5; simp [recol, show ¬ b1 = bm5 by omega, hne.symm]
      have cb : col5 b = .lone m.to.toNat m.line.toNat := by subst hcol5; simp [recol, show ¬ b = bm5 by omega]
      have cbm : col5 bm5 = .other := by subst hcol5; simp [recol]
      have hlen := take1_len l m
      have hnl := ok.nl
      have hnr := ok.nr
      simp -implicitDefEqProofs only [Ex_tuple, List.getElem?_toArray, List.getElem?_cons_zero, List.getElem?_cons_succ, q_some]
      unfold F66_6 F66_14
      refine room_99 fa5 (by omega) (by omega) ms5 (by omega) fun H6 e6 => ?_
      cases hf : f.net.fits (l.take m).2.1 with
      | false =>
        simp -implicitDefEqProofs
        exact h0 (by rw [hath, ht, hf]; rfl) H6 (E5.trans e6)
      | true =>
        rw [ht, hf] at hath
        simp only [Bool.not_true, Bool.false_eq_true, if_false] at hath
        simp -implicitDefEqProofs only [un_not, Bool.not_true, q_some, condV_bool, Bool.false_eq_true, if_false]
        unfold F66_7 F66_13
        have fa6 := fa5.ext0 e6
        have k16 := k15.ext e6 (by simp)
        have k6 := k5.ext e6 (by simp)
        have ms6 : Msgs H6 v5 (l.take m).2.1 bm5 := ms5.ext e6 (by simp)
        have M6 : Mod Rl.mine H col H6 := Mod.of (E5.trans e6) (by simp)
        have z6 := e6.size
        have pl := po.len
        obtain ⟨bm, hcm, ccm, hput⟩ := (fa6.ptAt hb hp).put hml.1 (by omega) cb k6
        simp -implicitDefEqProofs only [Nz_some, q_some, Fa_some, add_mk, Nat.zero_add, Ld_some, hcm, c1 k16]
        refine hput _ fun H7 e7 s7 pt7 il7 => ?_
        have m7 : Mod (Rl.isPart m.to.toNat) H6 col5 H7 := Mod.of e7 (by intro x hx _; simp at hx; subst hx; rw [ccm]; simp [Rl.isPart])
        have fa7 := fa6.setP hb m7 (Same.refl _ _) pt7
        have k17 := blk.mine k16 (m7.mono mine_part) cb1
        have ms7 : Msgs H7 v5 (l.take m).2.1 bm5 := Slc.mine ms6 (m7.mono mine_part) cbm
        have M7 : Mod Rl.mine H col H7 := M6.trans S5 (m7.mono mine_part)
        have z7 := m7.size
        have lb17 := k17.lt
        -- the end: the net
        have last : ∀ (H8 : Hp) (col8 : Nat → Rl) (p' : Part), Mod Rl.mine H col H8 → Same H col col8 → H7.size ≤ H8.size → FabAt H8 col8 bf s { f with parts := f.parts.set m.to.toNat p' } → Msgs H8 v5 (l.take m).2.1 bm5 → (bm5 < H7.size → col8 bm5 = .other) →
            f.atHart id m = some { f with net := (f.net.take id).send (l.take m).2.1, parts := f.parts.set m.to.toNat p' } → F66_10 (at0 bf) (.int .i64 id) v5 H8 Q := by
          intro H8 col8 p' M8 S8 z8 fa8 ms8 cbm8 hsome
          unfold F66_10
          simp -implicitDefEqProofs only [Nz_some, q_some, Fa_some, add_mk, Nat.zero_add, Ld_some, fa8.cBn]
          refine Take_100 fa8.net (by show f.net.l.length ≤ _; omega) fun H9 col9 v9 e9 sm9 kn9 => ?_
          have cbn : col8 s.bn = .net := fa8.net.cb
          have m9 : Mod Rl.isNet H8 col8 H9 := Mod.of e9 (by intro x hx _; simp at hx; subst hx; rw [cbn]; rfl)
          have fa9 := fa8.netT m9 sm9 kn9
          have ms9 : Msgs H9 v5 (l.take m).2.1 bm5 := Slc.mine2 ms7 ms8 (m9.mono mine_net) cbm8
          simp -implicitDefEqProofs only [q_some, fa9.cBn]
          obtain ⟨t1, t2, t3, t4⟩ := take_net (n := f.net) (id := id)
          refine Send_53 fa9.glob fa9.net (by show (f.net.take id).l.length + _ ≤ _; omega) (by show (f.net.take id).next ≤ _; omega) (by show (f.net.take id).room ≤ _; omega) ms9 fun H10 col10 v10 e10 sm10 kn10 => ?_
          have cbn9 : col9 s.bn = .net := fa9.net.cb
          have m10 : Mod Rl.isNet H9 col9 H10 := Mod.of e10 (by intro x hx _; simp at hx; subst hx; rw [cbn9]; rfl)
          have fa10 := fa9.netT m10 sm10 kn10
          have z8' := M8.size
          have z9 := e9.size
          have S9 : Same H col col9 := S8.trans (H' := H8) sm9 (by omega)
          have S10 : Same H col col10 := S9.trans (H' := H9) sm10 (by omega)
          exact h1 _ hsome H10 col10 ((M8.trans S8 (m9.mono mine_net)).trans S9 (m10.mono mine_net)) S10 fa10
        generalize hl1 : (l.take m).1 = l1 at *
        have hp7 : (f.parts.set m.to.toNat (p.setLine m.line l1))[m.to.toNat]? = some (p.setLine m.line l1) := set_get hp
        have hlo := lost_len po
        have hn1 := ok.n1
        -- the cache
        have mid : ∀ (H8 : Hp) (col8 : Nat → Rl) (p2 : Part), CacheOk p2.cache → p2.line m.line = some l1 → Mod Rl.mine H col H8 → Same H col col8 → H7.size ≤ H8.size → FabAt H8 col8 bf s { f with parts := f.parts.set m.to.toNat p2 } → Msgs H8 v5 (l.take m).2.1 bm5 → (bm5 < H7.size → col8 bm5 = .other) → blk H8 b1 (msgC m) → col8 b1 = .other →
            IsLone H8 bp m.line b → f.atHart id m = some { f with net := (f.net.take id).send (l.take m).2.1, parts := f.parts.set m.to.toNat (if l1.state = 0 ∧ l1.waits = 0 then { p2 with cache := p2.cache.drop m.line } else p2) } → F66_9 (at0 bf) (.int .i64 id) (at0 b1) (at0 bp) (at0 b) v5 H8 Q := by
          intro H8 col8 p2 co2 hl2 M8 S8 z8 fa8 ms8 cbm8 k18 cb18 il8 hsome
          unfold F66_9 F66_11
          have hp8 : (f.parts.set m.to.toNat p2)[m.to.toNat]? = some p2 := set_get hp
          obtain ⟨_, kl8, _⟩ := (fa8.ptAt hb hp8).lone hml.1 hl2 il8
          refine State_spec kl8 ?_
          by_cases hs : l1.state = 0
          · simp -implicitDefEqProofs only [Bin_eql_3, hs, beq_self_eq_true, q_some, gd_bool, gl_bool, if_true]
            refine Waits_spec kl8 ?_
            by_cases hw : l1.waits = 0
            · rw [if_pos ⟨hs, hw⟩] at hsome
              obtain ⟨bc, bsx, hc0, ca, hclose⟩ := (fa8.ptAt hb hp8).c0
              simp -implicitDefEqProofs only [Bin_eql_3, hw, beq_self_eq_true, q_some, gd_bool, if_true, Pk_bool, condV_bool, Nz_some, Fa_some, add_mk, Nat.zero_add, Ld_some, hc0, c1 k18]
              refine Drop_82 ca co2 (by omega) fun H9 col9 r9 e9 sm9 ca9 => ?_
              have cbs : col8 bsx = .sets m.to.toNat := ca.cs
              have m9 : Mod (Rl.isPart m.to.toNat) H8 col8 H9 := Mod.of e9 (by intro x hx _; simp at hx; subst hx; rw [cbs]; simp [Rl.isPart])
              have fa9 := fa8.setP hb m9 sm9 (hclose H9 col9 _ e9 sm9 ca9)
              simp only [List.set_set] at fa9
              have z8' := M8.size
              refine last H9 col9 _ (M8.trans S8 (m9.mono mine_part)) (S8.trans (H' := H8) sm9 (by omega)) (by have := e9.size; omega) fa9 (Slc.mine2 ms7 ms8 (m9.mono mine_part) cbm8) (fun hlt => (sm9 _ (by omega)).trans (cbm8 hlt)) hsome
            · rw [if_neg (fun h => hw h.2)] at hsome
              have e0 : (l1.waits == 0) = false := by simpa using hw
              simp -implicitDefEqProofs only [Bin_eql_3, e0, q_some, gd_bool, if_true, Pk_bool, condV_bool, Bool.false_eq_true, if_false]
              exact last H8 col8 p2 M8 S8 z8 fa8 ms8 cbm8 hsome
          · rw [if_neg (fun h => hs h.1)] at hsome
            have e0 : (l1.state == 0) = false := by simpa using hs
            simp -implicitDefEqProofs only [Bin_eql_3, e0, q_some, gd_bool, gl_bool, Bool.false_eq_true, if_false, Pk_bool, condV_bool]
            exact last H8 col8 p2 M8 S8 z8 fa8 ms8 cbm8 hsome
        have hline : (p.setLine m.line l1).line m.line = some l1 := by
          unfold Part.line Part.setLine
          rw [List.getD_eq_getElem?_getD, List.getElem?_set]
          simp [show m.line.toNat < p.lines.length by omega]
        unfold F66_8 F66_12
        unfold hartPart at hath
        rw [hl1] at hath
        cases hlost : (l.take m).2.2 with
        | false =>
          rw [hlost] at hath
          simp -implicitDefEqProofs only [condV_bool, Bool.false_eq_true, if_false]
          exact mid H7 col5 _ (by exact po.cache) hline M7 S5 (Nat.le_refl _) fa7 ms7 (fun _ => cbm) k17 cb1 il7 (by simpa using hath)
        | true =>
          rw [hlost] at hath
          simp -implicitDefEqProofs only [condV_bool, if_true, Fa_some, add_mk, Nat.zero_add, q_some, Ld_some, c1 k17]
          have pt7' := fa7.ptAt hb hp7
          refine lose_83 pt7' (by exact po.sorted) (by show p.lost.length ≤ _; omega) fun H8 col8 m8 sm8 pt8 il8 => ?_
          have fa8 := fa7.setP hb m8 sm8 pt8
          simp only [List.set_set] at fa8
          have k18 := blk.mine k17 (m8.mono mine_part) cb1
          have ms8 : Msgs H8 v5 (l.take m).2.1 bm5 := Slc.mine2 ms7 ms7 (m8.mono mine_part) (fun _ => cbm)
          have z8 := m8.size
          have hll := lose_lines (p := p.setLine m.line l1) (k := m.line)
          refine mid H8 col8 _ (by rw [hll.2]; exact po.cache) (by unfold Part.line; rw [hll.1]; exact hline) (M7.trans S5 (m8.mono mine_part)) (S5.trans (H' := H7) sm8 (by have := M7.size; omega)) z8 fa8 ms8 (fun hlt => (sm8 _ hlt).trans cbm) k18 ((sm8 _ lb17).trans cb1) (il8 _ _ il7) (by simpa using hath)
  refine line_45 (fa2.ptAt hb hp) hml.1 (fun hnone => ?_) (fun l' b hsome hil => ?_)
  · simp -implicitDefEqProofs
    have : l = { line := m.line, hart := m.to } := by rw [← hl]; unfold loneOf; rw [hnone]; rfl
    exact rest H2 b2 E2 (by omega) (by omega) k12 (by rw [this]; exact k2)
  · have : l = l' := by rw [← hl]; unfold loneOf; rw [hsome]; rfl
    subst this
    obtain ⟨_, kl, _⟩ := (fa2.ptAt hb hp).lone hml.1 hsome hil
    simp -implicitDefEqProofs
    refine Clone_lone kl fun H3 b3 hb3 e3 k3 => ?_
    exact rest H3 b3 (E2.trans e3) (by omega) (by omega) (k12.ext e3 (by simp)) k3
end YtacidjifocfhkaaGreatDoor
end Go.Proofs
namespace Go.Proofs
open Go Go.NW Go.Pm
set_option maxRecDepth 20000
set_option linter.unusedSimpArgs false
set_option linter.unusedVariables false
namespace YtacidjifocfhkaaGreatDoor
theorem flatten_set_len {α : Type} : ∀ {L : List (List α)} {i : Nat} {x y : List α}, L[i]? = some y → (L.set i x).flatten.length + y.length = L.flatten.length + x.length
  | [], i, x, y, h => by simp at h
  | a :: L, 0, x, y, h => by simp at h; subst h; simp; omega
  | a :: L, i + 1, x, y, h => by
    have := flatten_set_len (L := L) (i := i) (x := x) (y := y) (by simpa using h)
    simp at this ⊢; omega
theorem row_get {c : Cache} (ok : CacheOk c) (line : Int) : c.sets[c.idx line]? = some (c.row line) := by
  rw [row_eq ok]; exact List.getElem?_eq_getElem _
theorem setRow_idx {c : Cache} {line x : Int} {l : List Entry} : (c.setRow line l).idx x = c.idx x := by simp [Cache.idx, Cache.setRow]
/-- a set anew -/
theorem good_set {c : Cache} (g : CacheGood c) (ok : CacheOk c) {line : Int} {l : List Entry} (h1 : ∀ e ∈ l, 0 ≤ e.line ∧ c.idx e.line = c.idx line) (h2 : (l.map (·.line)).Nodup) (h3 : l.length ≤ c.ways) : CacheGood (c.setRow line l) := by
  refine ⟨fun j row hj => ?_, fun j row hj => ?_, fun row hr => ?_, g.w1⟩
  · simp only [Cache.setRow, List.getElem?_set] at hj
    intro e he
    rw [setRow_idx]
    by_cases c1 : c.idx line = j
    · rw [if_pos c1] at hj
      split at hj
      · simp at hj; subst hj; rw [← c1]; exact h1 e he
      · cases hj
    · rw [if_neg c1] at hj; exact g.idx j row hj e he
  · simp only [Cache.setRow, List.getElem?_set] at hj
    by_cases c1 : c.idx line = j
    · rw [if_pos c1] at hj
      split at hj
      · simp at hj; subst hj; exact h2
      · cases hj
    · rw [if_neg c1] at hj; exact g.nd j row hj
  · simp only [Cache.setRow] at hr
    rcases List.mem_or_eq_of_mem_set hr with hr | rfl
    · exact g.len row hr
    · exact h3
theorem ok_set {c : Cache} (ok : CacheOk c) {line : Int} {l : List Entry} (h3 : l.length ≤ 8) : CacheOk (c.setRow line l) := by
  refine ⟨by simpa [Cache.setRow] using ok.n0, by simpa [Cache.setRow] using ok.n1, ok.w, ?_⟩
  intro r hr
  simp only [Cache.setRow] at hr
  rcases List.mem_or_eq_of_mem_set hr with hr | rfl
  · exact ok.r r hr
  · exact h3
theorem mem_all {c : Cache} {e : Entry} : e ∈ c.all ↔ ∃ (j : Nat) (row : List Entry), c.sets[j]? = some row ∧ e ∈ row := by
  unfold Cache.all
  rw [List.mem_flatten]
  constructor
  · rintro ⟨l, h1, h2⟩
    obtain ⟨j, hj, rfl⟩ := List.getElem_of_mem h1
    exact ⟨j, _, List.getElem?_eq_getElem hj, h2⟩
  · rintro ⟨j, row, h1, h2⟩
    exact ⟨row, List.mem_of_getElem? h1, h2⟩
theorem mem_set {c : Cache} (ok : CacheOk c) {line : Int} {l : List Entry} {e : Entry} (h : e ∈ (c.setRow line l).all) : e ∈ l ∨ e ∈ c.all := by
  rw [mem_all] at h
  obtain ⟨j, row, h1, h2⟩ := h
  simp only [Cache.setRow, List.getElem?_set] at h1
  by_cases c1 : c.idx line = j
  · rw [if_pos c1] at h1
    split at h1
    · simp at h1; subst h1; exact .inl h2
    · cases h1
  · rw [if_neg c1] at h1; right; rw [mem_all]; exact ⟨j, row, h1, h2⟩
theorem row_all {c : Cache} (ok : CacheOk c) {line : Int} {e : Entry} (h : e ∈ c.row line) : e ∈ c.all := by
  rw [mem_all]; exact ⟨_, _, row_get ok line, h⟩
theorem set_len {c : Cache} (ok : CacheOk c) {line : Int} {l : List Entry} : (c.setRow line l).all.length + (c.row line).length = c.all.length + l.length :=
  flatten_set_len (row_get ok line)
theorem at_some {c : Cache} {line : Int} {k : Nat} (h : c.at? line = some k) : 0 ≤ line ∧ ∃ e, (c.row line)[k]? = some e ∧ e.line = line := by
  unfold Cache.at? at h
  split at h
  · cases h
  · rw [List.findIdx?_eq_some_iff_getElem] at h
    obtain ⟨hk, he, _⟩ := h
    exact ⟨by omega, _, List.getElem?_eq_getElem hk, by simpa using he⟩
theorem at_none {c : Cache} {line : Int} (h0 : 0 ≤ line) (h : c.at? line = none) : ∀ e ∈ c.row line, e.line ≠ line := by
  unfold Cache.at? at h
  rw [if_neg (by omega)] at h
  rw [List.findIdx?_eq_none_iff] at h
  intro e he; simpa using h e he
theorem row_len {c : Cache} (g : CacheGood c) (ok : CacheOk c) (line : Int) : (c.row line).length ≤ c.ways := g.len _ (List.mem_of_getElem? (row_get ok line))
theorem nodup_last {l : List Entry} {k : Nat} {e : Entry} (hn : (l.map (·.line)).Nodup) (he : ∃ x, l[k]? = some x ∧ x.line = e.line) : ((Cache.last l (some k) e).map (·.line)).Nodup := by
  obtain ⟨x, hx, hxe⟩ := he
  have hk : k < l.length := (List.getElem?_eq_some_iff.1 hx).1
  have hp : (Cache.last l (some k) e).map (·.line) |>.Perm (l.map (·.line)) := by
    unfold Cache.last
    simp only [List.map_append, List.map_cons, List.map_nil]
    have h1 : (l.eraseIdx k).map (·.line) = (l.map (·.line)).eraseIdx k := by
      rw [List.eraseIdx_eq_take_drop_succ, List.eraseIdx_eq_take_drop_succ]; simp [List.map_take, List.map_drop]
    rw [h1]
    have h2 : (l.map (·.line)) = (l.map (·.line)).take k ++ e.line :: (l.map (·.line)).drop (k + 1) := by
      have : (l.map (·.line))[k]? = some e.line := by simp [hx, hxe]
      have hk' : k < (l.map (·.line)).length := by simpa using hk
      rw [List.getElem?_eq_getElem hk'] at this
      have h3 := List.take_append_drop k (l.map (·.line))
      rw [List.drop_eq_getElem_cons hk'] at h3
      simp only [Option.some.injEq] at this
      rw [this] at h3
      exact h3.symm
    rw [List.eraseIdx_eq_take_drop_succ]
    conv => rhs; rw [h2]
    rw [List.append_assoc]
    exact (List.perm_append_comm (l₁ := (l.map (·.line)).drop (k + 1)) (l₂ := [e.line])).append_left _
  exact hp.nodup_iff.2 hn
theorem last_mem {l : List Entry} {k : Option Nat} {e x : Entry} (h : x ∈ Cache.last l k e) : x = e ∨ x ∈ l := by
  unfold Cache.last at h
  rw [List.mem_append] at h
  rcases h with h | h
  · cases k with
    | none => exact .inr h
    | some k => exact .inr (List.mem_of_mem_eraseIdx h)
  · simp at h; exact .inl h
structure Kept (c c' : Cache) : Prop where
  good : CacheGood c'
  ok : CacheOk c'
  mem : ∀ e ∈ c'.all, e ∈ c.all
  len : c'.all.length ≤ c.all.length
theorem keep_drop {c : Cache} (g : CacheGood c) (ok : CacheOk c) (line : Int) : Kept c (c.drop line) := by
  unfold Cache.drop
  cases h : c.at? line with
  | none => exact ⟨g, ok, fun e h => h, Nat.le_refl _⟩
  | some k =>
    have hrow := row_get ok line
    have hsub : ∀ e ∈ (c.row line).eraseIdx k, e ∈ c.row line := fun e he => List.mem_of_mem_eraseIdx he
    have hle : ((c.row line).eraseIdx k).length ≤ (c.row line).length := by rw [List.length_eraseIdx]; split <;> omega
    have hr8 := ok.r _ (List.mem_of_getElem? hrow)
    have hw := row_len g ok line
    simp only []
    refine ⟨good_set g ok (fun e he => g.idx _ _ hrow e (hsub e he)) ?_ (by omega), ok_set ok (by omega), fun e he => ?_, ?_⟩
    · have h1 : ((c.row line).eraseIdx k).map (·.line) = ((c.row line).map (·.line)).eraseIdx k := by
        rw [List.eraseIdx_eq_take_drop_succ, List.eraseIdx_eq_take_drop_succ]; simp [List.map_take, List.map_drop]
      rw [h1]
      exact List.Nodup.sublist (List.eraseIdx_sublist _ _) (g.nd _ _ hrow)
    · rcases mem_set ok he with he | he
      · exact row_all ok (hsub e he)
      · exact he
    · have := set_len ok (line := line) (l := (c.row line).eraseIdx k); omega
theorem keep_use {c : Cache} (g : CacheGood c) (ok : CacheOk c) (line : Int) : Kept c (c.use line) := by
  unfold Cache.use
  cases h : c.at? line with
  | none => exact ⟨g, ok, fun e h => h, Nat.le_refl _⟩
  | some k =>
    obtain ⟨h0, e, he, hl⟩ := at_some h
    have hrow := row_get ok line
    have hk : k < (c.row line).length := (List.getElem?_eq_some_iff.1 he).1
    have hgd : (c.row line).getD k { line := 0, state := 0 } = e := by rw [List.getD_eq_getElem?_getD, he]; rfl
    simp only [hgd]
    have hem : e ∈ c.row line := List.mem_of_getElem? he
    have hsub : ∀ x ∈ Cache.last (c.row line) (some k) e, x ∈ c.row line := by
      intro x hx; rcases last_mem hx with rfl | hx
      · exact hem
      · exact hx
    have hle : (Cache.last (c.row line) (some k) e).length = (c.row line).length := by
      unfold Cache.last; simp only [List.length_append, List.length_eraseIdx_of_lt hk, List.length_cons, List.length_nil]; omega
    have hr8 := ok.r _ (List.mem_of_getElem? hrow)
    have hw := row_len g ok line
    refine ⟨good_set g ok (fun e he => g.idx _ _ hrow e (hsub e he)) (nodup_last (g.nd _ _ hrow) ⟨e, he, rfl⟩) (by omega), ok_set ok (by omega), fun x hx => ?_, ?_⟩
    · rcases mem_set ok hx with hx | hx
      · exact row_all ok (hsub x hx)
      · exact hx
    · have := set_len ok (line := line) (l := Cache.last (c.row line) (some k) e); omega
structure KeptPut (c c' : Cache) (e : Entry) : Prop where
  good : CacheGood c'
  ok : CacheOk c'
  mem : ∀ x ∈ c'.all, x = e ∨ x ∈ c.all
  len : c'.all.length ≤ c.all.length + 1
theorem keep_put {c : Cache} (g : CacheGood c) (ok : CacheOk c) (e : Entry) : KeptPut c (c.put e) e := by
  have triv : KeptPut c c e := ⟨g, ok, fun x h => .inr h, by omega⟩
  unfold Cache.put
  split
  · exact triv
  rename_i h1
  split
  · exact triv
  rename_i h2
  have h0 : 0 ≤ e.line := by omega
  have hrow := row_get ok e.line
  have hr8 := ok.r _ (List.mem_of_getElem? hrow)
  have hw := row_len g ok e.line
  have hw8 := ok.w
  have hmem : ∀ x ∈ Cache.last (c.row e.line) (c.at? e.line) e, 0 ≤ x.line ∧ c.idx x.line = c.idx e.line := by
    intro x hx
    rcases last_mem hx with rfl | hx
    · exact ⟨h0, rfl⟩
    · exact g.idx _ _ hrow x hx
  have hsum := set_len ok (line := e.line) (l := Cache.last (c.row e.line) (c.at? e.line) e)
  have hm2 : ∀ x ∈ (c.setRow e.line (Cache.last (c.row e.line) (c.at? e.line) e)).all, x = e ∨ x ∈ c.all := by
    intro x hx
    rcases mem_set ok hx with hx | hx
    · rcases last_mem hx with rfl | hx
      · exact .inl rfl
      · exact .inr (row_all ok hx)
    · exact .inr hx
  cases hat : c.at? e.line with
  | none =>
    rw [hat] at h2 hmem hsum hm2
    simp at h2
    have hle : (Cache.last (c.row e.line) none e).length = (c.row e.line).length + 1 := by simp [Cache.last]
    refine ⟨good_set g ok hmem ?_ (by omega), ok_set ok (by omega), hm2, by omega⟩
    simp only [Cache.last, List.map_append, List.map_cons, List.map_nil]
    rw [List.nodup_append]
    refine ⟨g.nd _ _ hrow, by simp, ?_⟩
    intro a ha b hb
    simp at hb; subst hb
    simp only [List.mem_map] at ha
    obtain ⟨x, hx, rfl⟩ := ha
    exact at_none h0 hat x hx
  | some k =>
    rw [hat] at hmem hsum hm2
    obtain ⟨_, x, hx, hl⟩ := at_some hat
    have hk : k < (c.row e.line).length := (List.getElem?_eq_some_iff.1 hx).1
    have hle : (Cache.last (c.row e.line) (some k) e).length = (c.row e.line).length := by
      unfold Cache.last; simp only [List.length_append, List.length_eraseIdx_of_lt hk, List.length_cons, List.length_nil]; omega
    exact ⟨good_set g ok hmem (nodup_last (g.nd _ _ hrow) ⟨x, hx, hl⟩) (by omega), ok_set ok (by omega), hm2, by omega⟩
/-- no line stands twice -/
theorem all_nodup {c : Cache} (g : CacheGood c) : (c.all.map (·.line)).Nodup := by
  unfold Cache.all
  rw [List.map_flatten]
  unfold List.Nodup
  rw [List.pairwise_flatten]
  refine ⟨?_, ?_⟩
  · intro l hl
    simp only [List.mem_map] at hl
    obtain ⟨row, hr, rfl⟩ := hl
    obtain ⟨j, hj, rfl⟩ := List.getElem_of_mem hr
    exact g.nd j _ (List.getElem?_eq_getElem hj)
  · rw [List.pairwise_map, List.pairwise_iff_getElem]
    intro i j hi hj hij a ha b hb
    simp only [List.mem_map] at ha hb
    obtain ⟨x, hx, rfl⟩ := ha
    obtain ⟨y, hy, rfl⟩ := hb
    have h1 := (g.idx i _ (List.getElem?_eq_getElem hi) x hx).2
    have h2 := (g.idx j _ (List.getElem?_eq_getElem hj) y hy).2
    intro h
    rw [h, h2] at h1
    omega
theorem all_le {c : Cache} (g : CacheGood c) {n : Nat} (h : ∀ e ∈ c.all, 0 ≤ e.line ∧ e.line < n) : c.all.length ≤ n := by
  have := (List.Nodup.length_le_of_subset (l₁ := (c.all.map (·.line)).map Int.toNat) (l₂ := List.range n) (by
    unfold List.Nodup
    rw [List.pairwise_map]
    refine List.Pairwise.imp_of_mem ?_ (all_nodup g)
    intro a b ha hb hab e
    simp only [List.mem_map] at ha hb
    obtain ⟨x, hx, rfl⟩ := ha
    obtain ⟨y, hy, rfl⟩ := hb
    have := (h x hx).1
    have := (h y hy).1
    omega) (by
    intro a ha
    simp only [List.mem_map] at ha
    obtain ⟨k, ⟨x, hx, rfl⟩, rfl⟩ := ha
    have := h x hx
    rw [List.mem_range]; omega))
  simpa only [List.length_map, List.length_range] using this
end YtacidjifocfhkaaGreatDoor
end Go.Proofs
namespace Go.Proofs
open Go Go.NW Go.Pm
set_option maxRecDepth 20000
set_option linter.unusedSimpArgs false
set_option linter.unusedVariables false
namespace YtacidjifocfhkaaGreatDoor
theorem U32s.zero : U32s Words.zero := ⟨⟨by simp [Words.zero], by simp [Words.zero]⟩, ⟨by simp [Words.zero], by simp [Words.zero]⟩, ⟨by simp [Words.zero], by simp [Words.zero]⟩, ⟨by simp [Words.zero], by simp [Words.zero]⟩⟩
/-- a message's numbers fit -/
def MsgN (m : Msg) : Prop := 0 ≤ m.line ∧ m.line < 2 ^ 40 ∧ U32s m.data
theorem lone_msgs {l : Lone} {k : Int} (h0 : 0 ≤ l.line ∧ l.line < 2 ^ 40) (hd : U32s l.data) : (∀ w, ∀ m ∈ (l.ask w).2.1, MsgN m) ∧ (∀ m ∈ l.evict.2.1, MsgN m) := by
  refine ⟨fun w m hm => ?_, fun m hm => ?_⟩
  · unfold Lone.ask at hm
    split at hm
    · simp at hm
    · simp at hm; subst hm; exact ⟨h0.1, h0.2, U32s.zero⟩
  · unfold Lone.evict at hm
    split at hm
    · simp at hm
    · split at hm
      · simp at hm
      · simp at hm; subst hm; exact ⟨h0.1, h0.2, hd⟩
theorem ask_keeps (l : Lone) (w : Bool) : (l.ask w).1.line = l.line ∧ (l.ask w).1.hart = l.hart ∧ (l.ask w).1.data = l.data := by
  unfold Lone.ask; split <;> exact ⟨rfl, rfl, rfl⟩
theorem evict_keeps (l : Lone) : l.evict.1.line = l.line ∧ l.evict.1.hart = l.hart ∧ l.evict.1.data = l.data := by
  unfold Lone.evict; split
  · exact ⟨rfl, rfl, rfl⟩
  · split <;> exact ⟨rfl, rfl, rfl⟩
theorem setHeld_keeps (l : Lone) (s : Int) : (l.setHeld s).line = l.line ∧ (l.setHeld s).hart = l.hart ∧ (l.setHeld s).data = l.data := by
  unfold Lone.setHeld; split <;> exact ⟨rfl, rfl, rfl⟩
theorem take_keeps (l : Lone) (m : Msg) : (l.take m).1.line = l.line ∧ (l.take m).1.hart = l.hart ∧ ((l.take m).1.data = l.data ∨ (l.take m).1.data = m.data) := by
  unfold Lone.take
  split
  · simp only []
    unfold Lone.take1
    split
    · exact ⟨rfl, rfl, .inl rfl⟩
    split
    · unfold Lone.share
      simp only []
      split
      · exact ⟨rfl, rfl, .inl rfl⟩
      · simp only []
        split
        · exact ⟨(setHeld_keeps l _).1, (setHeld_keeps l _).2.1, .inl (setHeld_keeps l _).2.2⟩
        · split
          · exact ⟨(setHeld_keeps l _).1, (setHeld_keeps l _).2.1, .inl (setHeld_keeps l _).2.2⟩
          · exact ⟨rfl, rfl, .inl rfl⟩
    split
    · unfold Lone.lose
      simp only []
      exact ⟨(setHeld_keeps l _).1, (setHeld_keeps l _).2.1, .inl (setHeld_keeps l _).2.2⟩
    split
    · exact ⟨rfl, rfl, .inr rfl⟩
    split
    · exact ⟨rfl, rfl, .inl rfl⟩
    · exact ⟨rfl, rfl, .inl rfl⟩
  · exact ⟨rfl, rfl, .inl rfl⟩
theorem take_msgs {l : Lone} {m : Msg} (h0 : 0 ≤ l.line ∧ l.line < 2 ^ 40) (hd : U32s l.data) : ∀ x ∈ (l.take m).2.1, MsgN x := by
  intro x hx
  unfold Lone.take at hx
  split at hx
  · simp only [] at hx
    unfold Lone.take1 at hx
    split at hx
    · simp at hx; subst hx; exact ⟨h0.1, h0.2, U32s.zero⟩
    split at hx
    · simp at hx; subst hx
      unfold Lone.share
      simp only []
      split
      · exact ⟨h0.1, h0.2, U32s.zero⟩
      · exact ⟨h0.1, h0.2, hd⟩
    split at hx
    · simp at hx; subst hx
      unfold Lone.lose
      simp only []
      split
      · exact ⟨h0.1, h0.2, hd⟩
      · exact ⟨h0.1, h0.2, U32s.zero⟩
    split at hx
    · simp at hx; subst hx; exact ⟨h0.1, h0.2, U32s.zero⟩
    split at hx
    · simp at hx; subst hx; exact ⟨h0.1, h0.2, U32s.zero⟩
    · simp at hx
  · simp at hx
theorem home_to {h : Home} {a k : Int} (h0 : 0 ≤ h.line ∧ h.line < 2 ^ 40) : MsgN (h.to a k) := ⟨h0.1, h0.2, U32s.zero⟩
theorem home_hand {h : Home} {d : Words} {x y : Bool} (h0 : 0 ≤ h.line ∧ h.line < 2 ^ 40) (hd : U32s d) : MsgN (h.hand d x y) := ⟨h0.1, h0.2, hd⟩
/-- what holds of a home while it serves -/
structure HomeJ (harts i : Nat) (h : Home) : Prop where
  wf : h.Wf
  line : h.line = i
  harts : h.harts = harts
  data : U32s h.data
  back : U32s h.back.data
theorem Home.Wf.of {h h' : Home} (w : h.Wf) (h1 : h'.harts = h.harts) (h2 : h'.sharers.length = h.sharers.length) (h3 : h'.inv.length = h.inv.length) (h4 : -1 ≤ h'.owner ∧ h'.owner < h'.harts) (h5 : h'.busy = true → 0 ≤ h'.serves ∧ h'.serves < h'.harts) (h6 : h'.asked ≠ -1 → h'.owner = h'.asked) : h'.Wf :=
  ⟨by rw [h1]; exact w.harts, by rw [h2, h1]; exact w.sh, by rw [h3, h1]; exact w.iv, h4, h5, h6⟩
theorem owned_j {n i : Nat} {h : Home} (j : HomeJ n i h) (hb : h.busy = true) (hi : (i : Int) < 2 ^ 40) : HomeJ n i h.owned.1 ∧ h.owned.1.busy = true ∧ ∀ m ∈ h.owned.2, MsgN m := by
  have hln : 0 ≤ h.line ∧ h.line < 2 ^ 40 := by rw [j.line]; omega
  unfold Home.owned
  split
  · exact ⟨j, hb, by simp⟩
  · rename_i hw
    have ha : h.asked = -1 := by
      unfold Home.waits at hw
      simp at hw; exact hw.1
    have hs := j.wf.sv hb
    refine ⟨⟨Home.Wf.of j.wf rfl (by simp) rfl ?_ j.wf.sv (fun h' => (h' ha).elim), j.line, j.harts, j.data, j.back⟩, hb, ?_⟩
    · show -1 ≤ h.serves ∧ h.serves < h.harts; omega
    · intro m hm
      simp at hm
      subst hm
      split
      · exact home_to hln
      · split
        · exact home_hand hln j.back
        · exact home_hand hln j.data
theorem takes_cases {h : Home} {m : Msg} (ht : h.takes m = true) : m.line = h.line ∧ m.to = -1 ∧ 0 ≤ m.frm ∧ m.frm < h.harts ∧
    (((m.kind = 1 ∨ m.kind = 2 ∨ m.kind = 3) ∧ h.busy = false) ∨ (m.kind = 10 ∧ h.busy = true ∧ h.inv.getD m.frm.toNat false = true) ∨ (m.kind = 11 ∧ h.busy = true ∧ h.asked = m.frm) ∨ (m.kind = 12 ∧ h.busy = true ∧ h.waits = false ∧ h.serves = m.frm)) := by
  unfold Home.takes at ht
  by_cases c0 : m.line ≠ h.line ∨ m.to ≠ -1 ∨ m.frm < 0 ∨ m.frm ≥ h.harts
  · rw [if_pos c0] at ht; cases ht
  rw [if_neg c0] at ht
  refine ⟨by omega, by omega, by omega, by omega, ?_⟩
  by_cases c1 : m.kind = 1 ∨ m.kind = 2 ∨ m.kind = 3
  · rw [if_pos c1] at ht; exact .inl ⟨c1, by simpa using ht⟩
  rw [if_neg c1] at ht
  by_cases c2 : m.kind = 10
  · rw [if_pos c2] at ht; simp only [Bool.and_eq_true] at ht; exact .inr (.inl ⟨c2, ht.1, ht.2⟩)
  rw [if_neg c2] at ht
  by_cases c3 : m.kind = 11
  · rw [if_pos c3] at ht; simp at ht; exact .inr (.inr (.inl ⟨c3, ht.1, ht.2⟩))
  rw [if_neg c3] at ht
  by_cases c4 : m.kind = 12
  · rw [if_pos c4] at ht; simp at ht; exact .inr (.inr (.inr ⟨c4, ht.1.1, ht.1.2, ht.2⟩))
  rw [if_neg c4] at ht; cases ht
theorem home_take {n i : Nat} {h : Home} {m : Msg} (j : HomeOk n i h) (hi : (i : Int) < 2 ^ 40) (hm : U32s m.data) : HomeOk n i (h.take m).1 ∧ ∀ x ∈ (h.take m).2, MsgN x := by
  have hln : 0 ≤ h.line ∧ h.line < 2 ^ 40 := by rw [j.line]; omega
  obtain ⟨wf, line, harts, data, back, idle⟩ := j
  have same : HomeOk n i h ∧ ∀ x ∈ ([] : List Msg), MsgN x := ⟨⟨wf, line, harts, data, back, idle⟩, by simp⟩
  cases ht : h.takes m with
  | false => rw [show h.take m = (h, []) by simp [Home.take, ht]]; exact same
  | true =>
  obtain ⟨_, _, hf1, hf2, hcase⟩ := takes_cases ht
  have hfr : 0 ≤ m.frm ∧ m.frm < h.harts := ⟨hf1, hf2⟩
  have up : ∀ {h' : Home}, HomeJ n i h' → h'.busy = true → HomeOk n i h' := fun j hb => ⟨j.wf, j.line, j.harts, j.data, j.back, fun h => by rw [hb] at h; cases h⟩
  have upo : ∀ {h' : Home}, HomeJ n i h' → h'.busy = true → HomeOk n i h'.owned.1 ∧ ∀ x ∈ h'.owned.2, MsgN x := fun j hb => by
    obtain ⟨a, b, c⟩ := owned_j j hb hi; exact ⟨up a b, c⟩
  unfold Home.take
  rw [ht]
  simp only [Bool.not_true, Bool.false_eq_true, if_false]
  split
  · -- it begins to serve
    rename_i hk
    have hnb : h.busy = false := by rcases hcase with h1 | h1 | h1 | h1 <;> first | exact h1.2 | (exfalso; omega)
    obtain ⟨ia, iv⟩ := idle hnb
    have j1 : HomeJ n i { h with busy := true, serves := m.frm, by_ := m.kind, back := .zero } := ⟨Home.Wf.of wf rfl rfl rfl wf.ow (fun _ => hfr) (fun h' => (h' ia).elim), line, harts, data, U32s.zero⟩
    split
    · unfold Home.share
      split
      · refine ⟨up ⟨Home.Wf.of wf rfl rfl rfl wf.ow (fun _ => hfr) (fun _ => rfl), line, harts, data, U32s.zero⟩ rfl, ?_⟩
        intro x hx; simp at hx; subst hx; exact home_to hln
      · split
        · refine ⟨up ⟨Home.Wf.of wf rfl (by simp) rfl ⟨by show -1 ≤ m.frm; omega, hfr.2⟩ (fun _ => hfr) (fun h' => (h' ia).elim), line, harts, data, U32s.zero⟩ rfl, ?_⟩
          intro x hx; simp at hx; subst hx; exact home_hand hln data
        · refine ⟨up ⟨Home.Wf.of wf rfl (by simp) rfl ⟨Int.le_refl _, by show (-1 : Int) < h.harts; omega⟩ (fun _ => hfr) (fun h' => (h' ia).elim), line, harts, data, U32s.zero⟩ rfl, ?_⟩
          intro x hx; simp at hx; subst hx; exact home_hand hln data
    · have hown : ∀ h' : Home, h'.line = h.line → HomeJ n i h' → h'.busy = true → (HomeOk n i (if (h'.askL h'.inv 0).length > 0 then (h', h'.askL h'.inv 0) else h'.owned).1 ∧ ∀ x ∈ (if (h'.askL h'.inv 0).length > 0 then (h', h'.askL h'.inv 0) else h'.owned).2, MsgN x) := by
        intro h' hl' j' hb'
        split
        · refine ⟨up j' hb', ?_⟩
          have : ∀ (l : List Bool) (k : Nat), ∀ x ∈ h'.askL l k, MsgN x := by
            intro l
            induction l with
            | nil => intro k x hx; simp [Home.askL] at hx
            | cons v vs ih =>
              intro k x hx
              simp only [Home.askL, List.mem_append] at hx
              have hln' : 0 ≤ h'.line ∧ h'.line < 2 ^ 40 := by rw [hl']; exact hln
              rcases hx with (hx | hx) | hx
              · split at hx
                · simp at hx; subst hx; exact home_to hln'
                · simp at hx
              · split at hx
                · simp at hx; subst hx; exact home_to hln'
                · simp at hx
              · exact ih _ x hx
          exact this _ _
        · exact upo j' hb'
      unfold Home.own
      refine hown _ ?_ ?_ ?_
      · split <;> rfl
      · split
        · exact ⟨Home.Wf.of wf rfl rfl (by simp [invFrom_length]) wf.ow (fun _ => hfr) (fun _ => rfl), line, harts, data, U32s.zero⟩
        · exact ⟨Home.Wf.of wf rfl rfl (by simp [invFrom_length]) wf.ow (fun _ => hfr) (fun h' => (h' ia).elim), line, harts, data, U32s.zero⟩
      · split <;> rfl
  split
  · -- Put
    rename_i hk
    have hnb : h.busy = false := by rcases hcase with h1 | h1 | h1 | h1 <;> first | exact h1.2 | (exfalso; omega)
    obtain ⟨ia, iv⟩ := idle hnb
    refine ⟨?_, by intro x hx; simp at hx; subst hx; exact home_to hln⟩
    split
    · refine ⟨Home.Wf.of wf rfl (by simp) rfl ⟨Int.le_refl _, by show (-1 : Int) < h.harts; omega⟩ wf.sv (fun h' => (h' ia).elim), line, harts, ?_, back, idle⟩
      show U32s (if m.dirty = true then m.data else h.data)
      split
      · exact hm
      · exact data
    · exact ⟨Home.Wf.of wf rfl (by simp) rfl wf.ow wf.sv wf.ak, line, harts, data, back, idle⟩
  split
  · -- Ack
    rename_i hk
    have hb : h.busy = true := by rcases hcase with h1 | h1 | h1 | h1 <;> first | exact h1.2.1 | (exfalso; omega)
    exact upo (h' := { h with inv := h.inv.set m.frm.toNat false }) ⟨Home.Wf.of wf rfl rfl (by simp) wf.ow wf.sv wf.ak, line, harts, data, back⟩ hb
  split
  · -- Back
    rename_i hk
    have hb : h.busy = true := by rcases hcase with h1 | h1 | h1 | h1 <;> first | exact h1.2.1 | (exfalso; omega)
    have j1 : HomeJ n i { h with asked := -1, back := m } := ⟨Home.Wf.of wf rfl rfl rfl wf.ow wf.sv (fun h' => (h' rfl).elim), line, harts, data, hm⟩
    split
    · unfold Home.shared
      refine ⟨?_, ?_⟩
      · simp only []
        split
        · exact up ⟨Home.Wf.of wf rfl (by simp) rfl wf.ow wf.sv (fun h' => (h' rfl).elim), line, harts, data, hm⟩ hb
        · refine up ⟨Home.Wf.of wf rfl (by simp only []; split <;> simp) rfl ⟨Int.le_refl _, by show (-1 : Int) < h.harts; omega⟩ wf.sv (fun h' => (h' rfl).elim), line, harts, data, hm⟩ hb
      · intro x hx
        simp at hx
        subst hx
        split
        · refine home_hand hln ?_
          split
          · exact hm
          · exact data
        · refine home_hand hln ?_
          split
          · exact hm
          · exact data
    · exact upo j1 hb
  · -- Done
    rename_i k1 k2 k3 k4
    have hw : h.busy = true ∧ h.waits = false := by rcases hcase with h1 | h1 | h1 | h1 <;> first | exact ⟨h1.2.1, h1.2.2.1⟩ | (exfalso; omega)
    refine ⟨⟨Home.Wf.of wf rfl rfl rfl wf.ow (fun h' => by cases h') wf.ak, line, harts, data, back, fun _ => ?_⟩, by simp⟩
    have := hw.2
    unfold Home.waits at this
    simp at this
    exact this
end YtacidjifocfhkaaGreatDoor
end Go.Proofs
namespace Go.Proofs
open Go Go.NW Go.Pm
set_option maxRecDepth 20000
set_option linter.unusedSimpArgs false
set_option linter.unusedVariables false
namespace YtacidjifocfhkaaGreatDoor
theorem sendL_mem {n : Net} : ∀ {ms : List Msg} {l l' : List Flight} {i : Nat}, n.sendL l i ms = some l' → ∀ x ∈ l', x ∈ l ∨ (x.msg ∈ ms ∧ n.link x.msg.frm x.msg.to (classOf x.msg.kind) = true)
  | [], l, l', i, h, x, hx => by simp [Net.sendL] at h; subst h; exact .inl hx
  | m :: ms, l, l', i, h, x, hx => by
    unfold Net.sendL at h
    split at h
    · rename_i hm
      rcases sendL_mem h x hx with hx | ⟨h1, h2⟩
      · rw [List.mem_append] at hx
        rcases hx with hx | hx
        · exact .inl hx
        · simp at hx; subst hx
          refine .inr ⟨by simp, ?_⟩
          unfold Net.may at hm
          simp only [Bool.and_eq_true] at hm
          exact hm.1.1.2
      · exact .inr ⟨by simp [h1], h2⟩
    · cases h
theorem send_mem {n : Net} {ms : List Msg} : ∀ x ∈ (n.send ms).l, x ∈ n.l ∨ (x.msg ∈ ms ∧ n.link x.msg.frm x.msg.to (classOf x.msg.kind) = true) := by
  unfold Net.send
  split
  · rename_i l h; exact sendL_mem h
  · exact fun x hx => .inl hx
theorem take_mem {n : Net} {id : Int} : ∀ x ∈ (n.take id).l, x ∈ n.l := by
  unfold Net.take
  split
  · exact fun x hx => hx
  · exact fun x hx => List.mem_of_mem_eraseIdx hx
theorem msgOk_harts {n n' : Net} {m : Msg} (h : n'.harts = n.harts) (k : MsgOk n m) : MsgOk n' m := by
  refine ⟨?_, k.line, k.data⟩
  have := k.link
  unfold Net.link at this ⊢
  rw [h]; exact this
/-- a net after a message was taken and others sent -/
theorem net_ok {n : Net} {ms : List Msg} (h0 : ∀ x ∈ n.l, MsgOk n x.msg) (hms : ∀ m ∈ ms, MsgN m) : ∀ x ∈ (n.send ms).l, MsgOk (n.send ms) x.msg := by
  intro x hx
  obtain ⟨_, q2, _⟩ := send_next (n := n) (ms := ms)
  rcases send_mem x hx with h | ⟨h1, h2⟩
  · exact msgOk_harts q2 (h0 x h)
  · obtain ⟨a, b, c⟩ := hms _ h1
    refine msgOk_harts q2 ⟨h2, ⟨a, b⟩, c⟩
theorem net_ok_take {n : Net} {id : Int} (h0 : ∀ x ∈ n.l, MsgOk n x.msg) : ∀ x ∈ (n.take id).l, MsgOk (n.take id) x.msg :=
  fun x hx => msgOk_harts take_net.2.2.2 (h0 x (take_mem x hx))
theorem getD_set {α : Type} {l : List α} {i : Nat} {a d : α} (j : Nat) : (l.set i a).getD j d = if i = j ∧ i < l.length then a else l.getD j d := by
  rw [List.getD_eq_getElem?_getD, List.getElem?_set, List.getD_eq_getElem?_getD]
  by_cases c : i = j
  · subst c
    by_cases c2 : i < l.length
    · simp [c2]
    · simp [c2]
  · simp [c]
theorem line_setLine {p : Part} {k x : Int} {l : Lone} (hk : k.toNat < p.lines.length) : (p.setLine k l).line x = if k.toNat = x.toNat then some l else p.line x := by
  unfold Part.line Part.setLine
  simp only [getD_set]
  by_cases c : k.toNat = x.toNat
  · rw [if_pos ⟨c, hk⟩, if_pos c]
  · rw [if_neg (fun h => c h.1), if_neg c]
theorem line_lose {p : Part} {k x : Int} : (p.lose k).line x = p.line x := by unfold Part.line; rw [lose_lines.1]
theorem part_lines {n i : Nat} {p : Part} (po : PartOk n i p) {k : Int} {l : Lone} (hk : 0 ≤ k ∧ k < n) (h1 : l.line = k) (h2 : l.hart = i) (h3 : U32s l.data) : PartOk n i (p.setLine k l) := by
  have hkl : k.toNat < p.lines.length := by rw [po.len]; omega
  refine ⟨po.n0, po.cache, po.good, by rw [setLine_lines]; exact po.len, fun e he => ?_, po.all, po.sorted, po.lost, fun x lx hx h0 => ?_⟩
  · obtain ⟨a, b, l', hl'⟩ := po.ents e he
    refine ⟨a, b, ?_⟩
    rw [line_setLine hkl]
    split
    · exact ⟨l, rfl⟩
    · exact ⟨l', hl'⟩
  · rw [line_setLine hkl] at hx
    split at hx
    · rename_i hxx
      simp at hx; subst hx
      exact ⟨by omega, h2, h3⟩
    · exact po.lines x lx hx h0
theorem part_cache {n i : Nat} {p : Part} (po : PartOk n i p) {c : Cache} (h : Kept p.cache c) : PartOk n i { p with cache := c } :=
  ⟨po.n0, h.ok, h.good, po.len, fun e he => po.ents e (h.mem e he), Nat.le_trans h.len po.all, po.sorted, po.lost, po.lines⟩
theorem mem_lose {p : Part} {k x : Int} : x ∈ (p.lose k).lost ↔ x = k ∨ x ∈ p.lost := by
  unfold Part.lose
  split
  · rename_i h
    constructor
    · exact .inr
    · rintro (rfl | h2)
      · exact h
      · exact h2
  · simp only [List.mem_append, List.mem_cons]
    have : ∀ x, x ∈ p.lost ↔ x ∈ p.lost.takeWhile (· < k) ∨ x ∈ p.lost.dropWhile (· < k) := by
      intro x
      conv => lhs; rw [← List.takeWhile_append_dropWhile (p := (· < k)) (l := p.lost)]
      rw [List.mem_append]
    rw [this x]
    constructor
    · rintro (h | h | h)
      · exact .inr (.inl h)
      · exact .inl h
      · exact .inr (.inr h)
    · rintro (h | h | h)
      · exact .inr (.inl h)
      · exact .inl h
      · exact .inr (.inr h)
theorem takeWhile_lt {k : Int} : ∀ {l : List Int}, ∀ x ∈ l.takeWhile (· < k), x < k
  | [], x, h => by simp at h
  | y :: ys, x, h => by
    rw [List.takeWhile_cons] at h
    split at h
    · rename_i hy
      simp at hy
      rcases List.mem_cons.1 h with rfl | h
      · exact hy
      · exact takeWhile_lt x h
    · simp at h
theorem dropWhile_ge {k : Int} : ∀ {l : List Int}, l.Pairwise (· < ·) → ∀ x ∈ l.dropWhile (· < k), k ≤ x
  | [], _, x, h => by simp at h
  | y :: ys, hp, x, h => by
    rw [List.dropWhile_cons] at h
    split at h
    · exact dropWhile_ge (List.pairwise_cons.1 hp).2 x h
    · rename_i hy
      simp at hy
      rcases List.mem_cons.1 h with rfl | h
      · exact hy
      · have := (List.pairwise_cons.1 hp).1 x h; omega
theorem lose_sorted {p : Part} {k : Int} (h : p.lost.Pairwise (· < ·)) : (p.lose k).lost.Pairwise (· < ·) := by
  unfold Part.lose
  split
  · exact h
  · rename_i hk
    simp only []
    rw [List.pairwise_append, List.pairwise_cons]
    have hs : (p.lost.takeWhile (· < k)).Pairwise (· < ·) := List.Pairwise.sublist (List.takeWhile_sublist _) h
    have hd : (p.lost.dropWhile (· < k)).Pairwise (· < ·) := List.Pairwise.sublist (List.dropWhile_sublist _) h
    refine ⟨hs, ⟨fun x hx => ?_, hd⟩, fun a ha b hb => ?_⟩
    · have h1 := dropWhile_ge h x hx
      have h2 : x ≠ k := by
        intro e; subst e
        exact hk ((List.dropWhile_sublist _).subset hx)
      omega
    · have h1 := takeWhile_lt a ha
      rcases List.mem_cons.1 hb with rfl | hb
      · exact h1
      · have := dropWhile_ge h b hb; omega
theorem part_lose {n i : Nat} {p : Part} (po : PartOk n i p) {k : Int} (hk : 0 ≤ k ∧ k < n) : PartOk n i (p.lose k) := by
  have h := lose_lines (p := p) (k := k)
  refine ⟨po.n0, by rw [h.2]; exact po.cache, by rw [h.2]; exact po.good, by rw [h.1]; exact po.len, ?_, by rw [h.2]; exact po.all, lose_sorted po.sorted, fun x hx => ?_, ?_⟩
  · rw [h.2]; intro e he; rw [line_lose]; exact po.ents e he
  · rcases mem_lose.1 hx with rfl | hx
    · exact hk
    · exact po.lost x hx
  · intro x l hx h0; rw [line_lose] at hx; exact po.lines x l hx h0
/-- a fabric with one part, and another net -/
theorem fab_part {f : Fab} (ok : FabOk f) {i : Nat} {p : Part} {n : Net} (hp : PartOk f.homes.length i p) (h1 : n.harts = f.net.harts) (h2 : n.room = f.net.room) (h3 : n.l.length ≤ n.next) (h4 : ∀ x ∈ n.l, MsgOk n x.msg) :
    FabOk { f with parts := f.parts.set i p, net := n } := by
  refine ⟨ok.n0, ok.n1, ok.bytes, by simpa using ok.h0, by simpa using ok.h1, fun j hj => ?_, by show n.harts = _; rw [h1]; simpa using ok.nh, by show n.room ≤ _; rw [h2]; exact ok.nr, h3, h4, fun j hj => by simpa using ok.homes j hj⟩
  simp only [List.getElem_set]
  by_cases c : i = j
  · subst c; simpa using hp
  · simp only [c, if_false]; exact ok.parts j (by simpa using hj)
theorem head_mem {n : Net} {id : Int} {m : Msg} (h : n.head id = some m) : ∃ x ∈ n.l, x.msg = m ∧ x.id = id := by
  unfold Net.head at h
  obtain ⟨k, hk, h⟩ := Option.bind_eq_some_iff.1 h
  obtain ⟨x, hx, rfl⟩ := Option.map_eq_some_iff.1 h
  refine ⟨x, List.mem_of_getElem? hx, rfl, ?_⟩
  unfold Net.at? at hk
  rw [List.findIdx?_eq_some_iff_getElem] at hk
  obtain ⟨hl, he, _⟩ := hk
  rw [List.getElem?_eq_getElem hl] at hx
  simp at hx he; subst hx; exact he
theorem FabOk.atHome {f f' : Fab} {id : Int} {m : Msg} (ok : FabOk f) (hm : U32s m.data) (hl : 0 ≤ m.line ∧ m.line < f.homes.length) (h : f.atHome id m = some f') : FabOk f' := by
  unfold Fab.atHome at h
  have hn1 := ok.n1
  obtain ⟨hm0, hh⟩ : ∃ x, f.homes[m.line.toNat]? = some x := ⟨_, List.getElem?_eq_getElem (by omega)⟩
  have hgetD : f.homes.getD m.line.toNat (Home.new 0 0 .zero) = hm0 := by rw [List.getD_eq_getElem?_getD, hh]; rfl
  rw [hgetD] at h
  have hok : HomeOk f.parts.length m.line.toNat hm0 := by
    obtain ⟨a, rfl⟩ := List.getElem?_eq_some_iff.1 hh; exact ok.homes _ a
  obtain ⟨t1, t2⟩ := home_take hok (by omega) hm
  simp only [] at h
  split at h
  · cases h
  split at h
  · cases h
  simp at h
  subst h
  obtain ⟨a1, a2, a3, a4⟩ := take_net (n := f.net) (id := id)
  obtain ⟨q1, q2, q3, q4, q5⟩ := send_next (n := f.net.take id) (ms := (hm0.take m).2)
  have hnl := ok.nl
  refine ⟨by simpa using ok.n0, by simpa using ok.n1, by simpa using ok.bytes, ok.h0, ok.h1, ?_, by show (Net.send _ _).harts = _; rw [q2, a4]; exact ok.nh, by show (Net.send _ _).room ≤ _; rw [q1, a1]; exact ok.nr, q5 (by omega), net_ok (net_ok_take ok.msgs) t2, fun j hj => ?_⟩
  · intro i hi; simpa using ok.parts i hi
  · simp only [List.getElem_set]
    by_cases c : m.line.toNat = j
    · subst c; simpa using t1
    · simp only [c, if_false]; exact ok.homes j (by simpa using hj)
theorem loneOf_ok {n i : Nat} {p : Part} {m : Msg} (po : PartOk n i p) (hl : 0 ≤ m.line) (ht : m.to = i) : (loneOf p m).line = m.line ∧ (loneOf p m).hart = i ∧ U32s (loneOf p m).data := by
  unfold loneOf
  cases h : p.line m.line with
  | none => exact ⟨rfl, ht, U32s.zero⟩
  | some l => exact po.lines _ _ h hl
theorem hartPart_ok {n i : Nat} {p : Part} {m : Msg} {l : Lone} (po : PartOk n i p) (hm : U32s m.data) (hl : 0 ≤ m.line ∧ m.line < n) (h1 : l.line = m.line) (h2 : l.hart = i) (h3 : U32s l.data) : PartOk n i (hartPart p m l) := by
  obtain ⟨k1, k2, k3⟩ := take_keeps l m
  have hd : U32s (l.take m).1.data := by rcases k3 with e | e <;> rw [e]; exact h3; exact hm
  have p1 := part_lines po hl (k1.trans h1) (k2.trans h2) hd
  unfold hartPart
  simp only []
  have p2 : PartOk n i (if (l.take m).2.2 then (p.setLine m.line (l.take m).1).lose m.line else p.setLine m.line (l.take m).1) := by
    split
    · exact part_lose p1 hl
    · exact p1
  split
  · exact part_cache p2 (keep_drop p2.good p2.cache _)
  · exact p2
theorem FabOk.atHart {f f' : Fab} {id : Int} {m : Msg} (ok : FabOk f) (hm : U32s m.data) (hl : 0 ≤ m.line ∧ m.line < f.homes.length) (ht : 0 ≤ m.to ∧ m.to < f.parts.length) (h : f.atHart id m = some f') : FabOk f' := by
  obtain ⟨p, hp⟩ : ∃ p, f.parts[m.to.toNat]? = some p := ⟨_, List.getElem?_eq_getElem (by omega)⟩
  have po := ok.pOf hp
  have hn1 := ok.n1
  rw [atHart_eq hp] at h
  obtain ⟨k1, k2, k3⟩ := loneOf_ok po hl.1 (by omega : m.to = m.to.toNat)
  split at h
  · cases h
  split at h
  · cases h
  simp at h
  subst h
  obtain ⟨a1, a2, a3, a4⟩ := take_net (n := f.net) (id := id)
  obtain ⟨q1, q2, q3, q4, q5⟩ := send_next (n := f.net.take id) (ms := ((loneOf p m).take m).2.1)
  have hnl := ok.nl
  refine fab_part ok (hartPart_ok po hm hl k1 k2 k3) (by rw [q2, a4]) (by rw [q1, a1]) (q5 (by omega)) (net_ok (net_ok_take ok.msgs) (take_msgs (by rw [k1]; omega) k3))
theorem to_rng {f : Fab} (ok : FabOk f) {m : Msg} (k : MsgOk f.net m) (h : 0 ≤ m.to) : m.to < f.parts.length := by
  have := k.link
  have hn := ok.nh
  unfold Net.link at this
  split at this
  · simp at this; omega
  · split at this
    · simp at this; omega
    · cases this
theorem FabOk.deliver {f f' : Fab} {id : Int} (ok : FabOk f) (h : f.deliver? id = some f') : FabOk f' := by
  unfold Fab.deliver? at h
  split at h
  · cases h
  · rename_i m hm
    obtain ⟨x, hx, rfl, _⟩ := head_mem hm
    have km := ok.msgs x hx
    split at h
    · cases h
    · rename_i hl
      split at h
      · exact ok.atHome km.data ⟨km.line.1, by omega⟩ h
      · rename_i ht
        exact ok.atHart km.data ⟨km.line.1, by omega⟩ ⟨by omega, to_rng ok km (by omega)⟩ h
end YtacidjifocfhkaaGreatDoor
end Go.Proofs
namespace Go.Proofs
open Go Go.NW Go.Pm
set_option maxRecDepth 20000
set_option linter.unusedSimpArgs false
set_option linter.unusedVariables false
namespace YtacidjifocfhkaaGreatDoor
theorem Deliver_25 {H : Hp} {col : Nat → Rl} {bf : Nat} {s : Sk} {f : Fab} {id : Int} {Q : RT1} (fa : FabAt H col bf s f) (ok : FabOk f) (hx : f.net.next ≤ 2 ^ 18)
    (h0 : f.deliver? id = none → ∀ H', Ext [] H H' → Q (.bool false) H')
    (h1 : ∀ f', f.deliver? id = some f' → ∀ H' col', Mod Rl.mine H col H' → Same H col col' → FabAt H' col' bf s f' → Q (.bool true) H') :
    NCalls Tryz.prog 25 #[at0 bf, .int .i64 id] H Q := by
  refine E25 ?_
  unfold F25_0
  have hnl := ok.nl
  simp -implicitDefEqProofs only [Nz_some, q_some, Fa_some, add_mk, Nat.zero_add, Ld_some, fa.cBn]
  refine Head_64 fa.net (by omega) fun H1 e1 => ?_
  simp -implicitDefEqProofs only [Ex_tuple, List.getElem?_toArray, List.getElem?_cons_zero, List.getElem?_cons_succ, q_some]
  refine New_i fun H2 b2 hb2 e2 s2 k2 => ?_
  refine St_i k2 (by simp [msgC]) (by simp) (by simp [msgC]) fun H3 e3 s3 k3 => ?_
  have z1 := e1.size
  have E3 : Ext [] H H3 := (e1.trans e2).fresh e3 (by simp; omega)
  cases hh : f.net.head id with
  | none =>
    simp -implicitDefEqProofs
    exact h0 (by unfold Fab.deliver?; rw [hh]) H3 E3
  | some m =>
    rw [hh] at k3
    have k3' : blk H3 b2 (msgC m) := by simpa [wrL, msgC] using k3
    obtain ⟨x, hxm, hxe, _⟩ := head_mem hh
    have km := ok.msgs x hxm
    rw [hxe] at km
    have fa3 := fa.ext0 E3
    have er : (msgC m).extract 0 11 = msgC m := by simp [msgC]
    have hms : (msgC m).size = 11 := rfl
    have c1 : cellAt H3 ⟨b2, 1, none⟩ = some (.int .i64 m.line) := by rw [k3'.cell]; rfl
    have c3 : cellAt H3 ⟨b2, 3, none⟩ = some (.int .i64 m.to) := by rw [k3'.cell]; rfl
    have hdel : f.deliver? id = if m.line ≥ f.homes.length then none else if m.to < 0 then f.atHome id m else f.atHart id m := by unfold Fab.deliver?; rw [hh]
    by_cases hl : m.line ≥ f.homes.length
    · rw [if_pos hl] at hdel
      have hl' : (f.homes.length : Int) ≤ m.line := hl
      simp -implicitDefEqProofs [c1, fa3.cHv, fa3.lenH, hl']
      exact h0 hdel H3 E3
    · rw [if_neg hl] at hdel
      have hl' : ¬ (f.homes.length : Int) ≤ m.line := hl
      simp -implicitDefEqProofs only [Option.isSome_some, un_not, Bool.not_true, q_some, gd_bool, if_true, Fa_some, add_mk, Nat.zero_add, Ld_some, c1, Nz_some, fa3.cHv, fa3.lenH, Bin_geq_3, ge_iff_le, hl', decide_false, Pk_bool, Bool.false_eq_true, if_false, condV_bool, c3, Bin_lss_3]
      have M3 : Mod Rl.mine H col H3 := Mod.of E3 (by simp)
      by_cases ht : m.to < 0
      · rw [if_pos ht] at hdel
        simp -implicitDefEqProofs only [ht, decide_true, condV_bool, if_true, LdA_some, k3'.cells, hms, er, Nat.zero_add, Nat.le_refl, Option.map_some, q_some]
        refine atHome_65 fa3 ok hx ⟨km.line.1, by omega⟩ (fun f' hf' i hi => ?_) (fun hn H4 e4 => ?_) (fun f' hf' H4 col4 m4 sm4 fa4 => ?_)
        · have := ok.atHome km.data ⟨km.line.1, by omega⟩ hf'
          exact (this.homes i hi).data
        · exact h0 (by rw [hdel, hn]) H4 (E3.trans e4)
        · exact h1 f' (by rw [hdel, hf']) H4 col4 (M3.trans (Same.refl _ _) m4) (fun x hx => sm4 x (by have := E3.size; omega)) fa4
      · rw [if_neg ht] at hdel
        simp -implicitDefEqProofs only [ht, decide_false, condV_bool, Bool.false_eq_true, if_false, LdA_some, k3'.cells, hms, er, Nat.zero_add, Nat.le_refl, if_true, Option.map_some, q_some]
        refine atHart_66 fa3 ok hx ⟨km.line.1, by omega⟩ ⟨by omega, to_rng ok km (by omega)⟩ (fun hn H4 e4 => ?_) (fun f' hf' H4 col4 m4 sm4 fa4 => ?_)
        · exact h0 (by rw [hdel, hn]) H4 (E3.trans e4)
        · exact h1 f' (by rw [hdel, hf']) H4 col4 (M3.trans (Same.refl _ _) m4) (fun x hx => sm4 x (by have := E3.size; omega)) fa4
theorem fit_ok {n i : Nat} {p p' : Part} {net net' : Net} {line : Int} (po : PartOk n i p) (h : p.fit net line = some (p', net')) :
    PartOk n i p' ∧ (net' = net ∨ ∃ l : Lone, (0 ≤ l.line ∧ l.line < n ∧ U32s l.data) ∧ net' = net.send l.evict.2.1) := by
  unfold Part.fit at h
  split at h
  · simp at h; obtain ⟨rfl, rfl⟩ := h; exact ⟨po, .inl rfl⟩
  · split at h
    · cases h
    · split at h
      · cases h
      · rename_i e he x l hle
        simp at h
        obtain ⟨rfl, rfl⟩ := h
        obtain ⟨a, b, _⟩ := po.ents e (victim_mem po.cache he)
        obtain ⟨c1, c2, c3⟩ := po.lines _ _ hle a
        obtain ⟨k1, k2, k3⟩ := evict_keeps l
        have p1 := part_lines po ⟨a, b⟩ (k1.trans c1) (k2.trans c2) (by rw [k3]; exact c3)
        have p2 := part_cache p1 (keep_drop p1.good p1.cache e.line)
        exact ⟨part_lose p2 ⟨a, b⟩, .inr ⟨l, ⟨by omega, by omega, c3⟩, rfl⟩⟩
/-- few lines, or few are in caches -/
def Few (f : Fab) : Prop := f.homes.length ≤ 12 ∨ ∀ p ∈ f.parts, p.cache.all.length ≤ 11
theorem FabOk.ask {f : Fab} (ok : FabOk f) (few : Few f) (h line : Int) (w : Bool) : FabOk (f.ask h line w).1 := by
  cases ht : f.there h line with
  | false => rw [show f.ask h line w = (f, false) by simp [Fab.ask, ht]]; exact ok
  | true =>
    obtain ⟨p, hp, g0, g1, g2, g3⟩ := there_of ht
    have po := ok.pOf hp
    have hn1 := ok.n1
    rw [ask_eq ht hp]
    split
    · exact ok
    split
    · exact ok
    cases hf : p.fit f.net line with
    | none => exact ok
    | some r =>
      obtain ⟨p', n'⟩ := r
      obtain ⟨po', hn'⟩ := fit_ok po hf
      have hnet : n'.harts = f.net.harts ∧ n'.room = f.net.room ∧ n'.l.length ≤ n'.next ∧ ∀ x ∈ n'.l, MsgOk n' x.msg := by
        rcases hn' with rfl | ⟨l, hl, rfl⟩
        · exact ⟨rfl, rfl, ok.nl, ok.msgs⟩
        · obtain ⟨q1, q2, q3, q4, q5⟩ := send_next (n := f.net) (ms := l.evict.2.1)
          exact ⟨q2, q1, q5 ok.nl, net_ok ok.msgs (lone_msgs (k := 0) ⟨hl.1, by omega⟩ hl.2.2).2⟩
      obtain ⟨n1, n2, n3, n4⟩ := hnet
      simp only []
      have hl0 : ((p'.line line).getD { line := line, hart := h }).line = line ∧ ((p'.line line).getD { line := line, hart := h }).hart = h.toNat ∧ U32s ((p'.line line).getD { line := line, hart := h }).data := by
        cases hpl : p'.line line with
        | none => exact ⟨rfl, by show h = _; omega, U32s.zero⟩
        | some l => exact po'.lines _ _ hpl g2
      generalize (p'.line line).getD { line := line, hart := h } = l at hl0
      obtain ⟨l1, l2, l3⟩ := hl0
      obtain ⟨k1, k2, k3⟩ := ask_keeps l w
      have p1 := part_lines po' ⟨g2, g3⟩ (k1.trans l1) (k2.trans l2) (by rw [k3]; exact l3)
      unfold asked
      split
      · obtain ⟨q1, q2, q3, q4, q5⟩ := send_next (n := n') (ms := (l.ask w).2.1)
        have kp := keep_put p1.good p1.cache { line := line, state := 1 }
        have hents : ∀ e ∈ ((p'.setLine line (l.ask w).1).cache.put { line := line, state := 1 }).all, 0 ≤ e.line ∧ e.line < f.homes.length ∧ ∃ l', (p'.setLine line (l.ask w).1).line e.line = some l' := by
          intro e he
          rcases kp.mem e he with rfl | he
          · refine ⟨g2, g3, (l.ask w).1, ?_⟩
            rw [line_setLine (by rw [po'.len]; omega), if_pos rfl]
          · exact p1.ents e he
        have p2 : PartOk f.homes.length h.toNat { p'.setLine line (l.ask w).1 with cache := p'.cache.put { line := line, state := 1 } } := by
          refine ⟨p1.n0, kp.ok, kp.good, p1.len, hents, ?_, p1.sorted, p1.lost, p1.lines⟩
          rcases few with h12 | h11
          · exact Nat.le_trans (all_le kp.good fun e he => ⟨(hents e he).1, (hents e he).2.1⟩) h12
          · have a1 : p'.cache.all.length ≤ p.cache.all.length := by
              have hf' := hf
              unfold Part.fit at hf'
              split at hf'
              · simp at hf'; obtain ⟨rfl, rfl⟩ := hf'; exact Nat.le_refl _
              · split at hf'
                · cases hf'
                · split at hf'
                  · cases hf'
                  · simp at hf'
                    obtain ⟨rfl, _⟩ := hf'
                    rw [lose_lines.2]
                    exact (keep_drop po.good po.cache _).len
            have a2 := h11 p (List.mem_of_getElem? hp)
            exact Nat.le_trans kp.len (by show p'.cache.all.length + 1 ≤ 12; omega)
        have := fab_part (f := f) (n := n'.send (l.ask w).2.1) ok p2 (by rw [q2, n1]) (by rw [q1, n2]) (q5 n3) (net_ok n4 ((lone_msgs (k := 0) ⟨by omega, by omega⟩ l3).1 w))
        exact this
      · exact fab_part (f := f) (n := n') ok p1 n1 n2 n3 n4
theorem FabOk.setPart {f : Fab} (ok : FabOk f) {i : Nat} {p : Part} (hp : PartOk f.homes.length i p) : FabOk { f with parts := f.parts.set i p } :=
  fab_part (f := f) (n := f.net) ok hp rfl rfl ok.nl ok.msgs
theorem FabOk.used {f : Fab} (ok : FabOk f) {h addr : Int} (ht : f.there h (addr / 16) = true) : FabOk (f.used h addr) := by
  obtain ⟨p, hp, g0, g1, g2, g3⟩ := there_of ht
  have po := ok.pOf hp
  unfold Fab.used Fab.setPart
  rw [part_of hp]
  exact ok.setPart (part_cache po (keep_use po.good po.cache _))
theorem can_there {f : Fab} {h addr size : Int} {w : Bool} {l : Lone} (hc : f.can h addr size w = some l) : f.there h (addr / 16) = true ∧ f.line h (addr / 16) = some l ∧ l.can w = true ∧ f.has addr size = true := by
  unfold Fab.can at hc
  split at hc
  · cases hc
  · rename_i hn
    simp at hn
    split at hc
    · cases hc
    · rename_i l' hl'
      split at hc
      · rename_i hcan
        simp at hc; subst hc
        exact ⟨hn.2, hl', hcan, hn.1⟩
      · cases hc
theorem FabOk.read {f : Fab} (ok : FabOk f) (h addr size : Int) : FabOk (f.read h addr size).1 := by
  unfold Fab.read
  cases hc : f.can h addr size false with
  | none => exact ok
  | some l => exact ok.used (can_there hc).1
theorem setBytes_rng {w v : Int} {sh sz : Nat} (hw : U32 w) (hv : U32 v) (h : (sz = 1 ∧ sh < 4) ∨ (sz = 2 ∧ (sh = 0 ∨ sh = 2)) ∨ sz = 4) : U32 (Fab.setBytes w sh sz v) := by
  obtain ⟨w, rfl⟩ := Int.eq_ofNat_of_zero_le hw.1
  obtain ⟨v, rfl⟩ := Int.eq_ofNat_of_zero_le hv.1
  obtain ⟨_, hw⟩ := hw
  obtain ⟨_, hv2⟩ := hv
  have : (sz = 1 ∧ sh = 0) ∨ (sz = 1 ∧ sh = 1) ∨ (sz = 1 ∧ sh = 2) ∨ (sz = 1 ∧ sh = 3) ∨ (sz = 2 ∧ sh = 0) ∨ (sz = 2 ∧ sh = 2) ∨ sz = 4 := by omega
  unfold U32
  rcases this with ⟨rfl, rfl⟩ | ⟨rfl, rfl⟩ | ⟨rfl, rfl⟩ | ⟨rfl, rfl⟩ | ⟨rfl, rfl⟩ | ⟨rfl, rfl⟩ | rfl <;> simp [Fab.setBytes, Fab.bytesAt] <;> omega
theorem setWord_rng {d : Words} {x : Int} (hd : U32s d) (hx : U32 x) (i : Int) : U32s (Fab.setWord d i x) := by
  obtain ⟨a, b, c, e⟩ := hd
  unfold Fab.setWord
  split
  · exact ⟨hx, b, c, e⟩
  · split
    · exact ⟨a, hx, c, e⟩
    · split
      · exact ⟨a, b, hx, e⟩
      · exact ⟨a, b, c, hx⟩
theorem wrW_rng {d : Words} {addr size v : Int} (hd : U32s d) (ha : 0 ≤ addr) (hv : U32 v) : U32s (Fab.wrW d addr size v) := by
  unfold Fab.wrW
  split
  · rename_i hf
    refine setWord_rng hd ?_ _
    have hc := fair_cases hf ha
    have := setBytes_rng (w := Fab.word d (addr % 16 / 4)) (v := v) (sh := (addr % 4).toNat) (sz := size.toNat) (word_rng hd _) hv (by omega)
    rw [show (((addr % 4).toNat : Nat) : Int) = addr % 4 by omega, show ((size.toNat : Nat) : Int) = size by omega] at this
    exact this
  · exact hd
theorem FabOk.write {f : Fab} (ok : FabOk f) (h addr size v : Int) (ha : 0 ≤ addr) (hv : U32 v) : FabOk (f.write h addr size v).1 := by
  unfold Fab.write
  cases hc : f.can h addr size true with
  | none => exact ok
  | some l =>
    obtain ⟨ht, hl, hcan, _⟩ := can_there hc
    obtain ⟨p, hp, g0, g1, g2, g3⟩ := there_of ht
    have ok1 := ok.used ht
    have hp1 : (f.used h addr).parts[h.toNat]? = some { f.part h with cache := (f.part h).cache.use (addr / 16) } := set_get hp
    have po1 := ok1.pOf hp1
    have hl1 : ({ f.part h with cache := (f.part h).cache.use (addr / 16) } : Part).line (addr / 16) = some l := hl
    obtain ⟨c1, c2, c3⟩ := po1.lines _ _ hl1 g2
    simp only [Fab.setPart, part_of hp1]
    refine ok1.setPart ?_
    have hset : l.set (Fab.wrW l.data addr size v) = ({ l with data := Fab.wrW l.data addr size v, state := 4 }, true) := by unfold Lone.set; rw [if_pos hcan]
    rw [hset]
    exact part_lines po1 ⟨g2, g3⟩ c1 c2 (wrW_rng c3 ha hv)
end YtacidjifocfhkaaGreatDoor
end Go.Proofs
namespace Go.Proofs
open Go Go.NW Go.Pm
set_option maxRecDepth 20000
set_option linter.unusedSimpArgs false
set_option linter.unusedVariables false
namespace YtacidjifocfhkaaGreatDoor
theorem exists_least {P : Nat → Prop} (h : ∃ n, P n) : ∃ n, P n ∧ ∀ m, P m → n ≤ m := by
  obtain ⟨n, hn⟩ := h
  induction n using Nat.strongRecOn with
  | _ n ih =>
    by_cases c : ∃ m, m < n ∧ P m
    · obtain ⟨m, hm, hp⟩ := c; exact ih m hm hp
    · exact ⟨n, hn, fun m hm => by
        apply Classical.byContradiction; intro h2; exact c ⟨m, by omega, hm⟩⟩
open Classical in
noncomputable def least (P : Nat → Prop) : Nat := if h : ∃ n, P n then Classical.choose (exists_least h) else 0
theorem least_spec {P : Nat → Prop} (h : ∃ n, P n) : P (least P) := by
  unfold least; rw [dif_pos h]; exact (Classical.choose_spec (exists_least h)).1
theorem least_le {P : Nat → Prop} {n : Nat} (h : P n) : least P ≤ n := by
  unfold least; rw [dif_pos ⟨n, h⟩]; exact (Classical.choose_spec (exists_least ⟨n, h⟩)).2 n h
theorem deliver_next {f f' : Fab} {id : Int} (ok : FabOk f) (h : f.deliver? id = some f') : f'.net.next ≤ f.net.next + 9 := by
  unfold Fab.deliver? at h
  split at h
  · cases h
  · rename_i m hm
    obtain ⟨x, hx, rfl, _⟩ := head_mem hm
    have km := ok.msgs x hx
    split at h
    · cases h
    · rename_i hl
      obtain ⟨a1, a2, a3, a4⟩ := take_net (n := f.net) (id := id)
      split at h
      · unfold Fab.atHome at h
        obtain ⟨hm0, hh⟩ : ∃ y, f.homes[x.msg.line.toNat]? = some y := ⟨_, List.getElem?_eq_getElem (by have := km.line; omega)⟩
        have hgetD : f.homes.getD x.msg.line.toNat (Home.new 0 0 .zero) = hm0 := by rw [List.getD_eq_getElem?_getD, hh]; rfl
        have hok : HomeOk f.parts.length x.msg.line.toNat hm0 := by
          obtain ⟨a, rfl⟩ := List.getElem?_eq_some_iff.1 hh; exact ok.homes _ a
        rw [hgetD] at h
        simp only [] at h
        split at h
        · cases h
        split at h
        · cases h
        simp at h
        subst h
        obtain ⟨q1, q2, q3, q4, q5⟩ := send_next (n := f.net.take id) (ms := (hm0.take x.msg).2)
        have := take_len (h := hm0) x.msg
        have := hok.wf.iv
        have := hok.harts
        have := ok.h1
        show (Net.send _ _).next ≤ _
        omega
      · rename_i ht
        obtain ⟨p, hp⟩ : ∃ p, f.parts[x.msg.to.toNat]? = some p := ⟨_, List.getElem?_eq_getElem (by have := to_rng ok km (by omega); omega)⟩
        rw [atHart_eq hp] at h
        split at h
        · cases h
        split at h
        · cases h
        simp at h
        subst h
        obtain ⟨q1, q2, q3, q4, q5⟩ := send_next (n := f.net.take id) (ms := ((loneOf p x.msg).take x.msg).2.1)
        have := take1_len (loneOf p x.msg) x.msg
        show (Net.send _ _).next ≤ _
        omega
theorem step_none {f : Fab} : f.step = none ↔ ∀ x ∈ f.net.l, f.deliver? x.id = none := by unfold Fab.step; exact List.findSome?_eq_none_iff
theorem step_some {f f' : Fab} {j : Nat} (hj : j < f.net.l.length) (h1 : ∀ i x, i < j → f.net.l[i]? = some x → f.deliver? x.id = none) (h2 : f.deliver? (f.net.l[j]).id = some f') : f.step = some f' := by
  unfold Fab.step
  have : ∀ (l : List Flight) (j : Nat) (hj : j < l.length), (∀ i x, i < j → l[i]? = some x → f.deliver? x.id = none) → f.deliver? (l[j]).id = some f' → l.findSome? (fun x => f.deliver? x.id) = some f' := by
    intro l
    induction l with
    | nil => intro j hj; simp at hj
    | cons y ys ih =>
      intro j hj h1 h2
      rw [List.findSome?_cons]
      cases j with
      | zero => simp at h2; rw [h2]
      | succ j =>
        rw [h1 0 y (by omega) (by simp)]
        exact ih j (by simpa using hj) (fun i x hi hx => h1 (i + 1) x (by omega) (by simpa using hx)) (by simpa using h2)
  exact this _ j hj h1 h2
theorem fls_at {H : Hp} {v : Value} {xs : List Flight} {b i : Nat} (hs : Slc H 12 v (flsC xs) b) (hi : i < xs.length) :
    ∃ o, (∀ k, Ix 12 v (.int k i) = some (.pointer (some ⟨b, o, none⟩))) ∧ cellsAt H ⟨b, o, none⟩ 12 = some (flightC xs[i]) := by
  have hll := flsC_len xs
  obtain ⟨o, hix, _, hcs⟩ := hs.at (i := i) (by omega)
  refine ⟨o, hix, ?_⟩
  rw [hcs]; simp [flsC]
theorem Settle_19 {H : Hp} {col : Nat → Rl} {bf N : Nat} {s : Sk} {f g : Fab} {r : Bool} {Q : RT1} (fa : FabAt H col bf s f) (ok : FabOk f) (hset : f.settle N = some (g, r)) (hx : f.net.next + 9 * N ≤ 2 ^ 18)
    (hq : ∀ H' col', Mod Rl.mine H col H' → Same H col col' → FabAt H' col' bf s g → FabOk g → g.net.next ≤ f.net.next + 9 * N → Q (.bool r) H') :
    NCalls Tryz.prog 19 #[at0 bf] H Q := by
  refine E19 ?_
  unfold F19_0 F19_17 F19_1 F19_3 F19_16 F19_4 F19_5
  let J : Nat → Value → Hp → Prop := fun n v3 H' => ∃ (col' : Nat → Rl) (f' : Fab), Mod Rl.mine H col H' ∧ Same H col col' ∧ FabAt H' col' bf s f' ∧ FabOk f' ∧ f'.net.next + 9 * (n - 1) ≤ f.net.next + 9 * N ∧
    ((v3 = .bool true ∧ 1 ≤ n ∧ f'.settle (n - 1) = some (g, r)) ∨ (v3 = .bool false ∧ n = 0 ∧ f' = g ∧ r = false ∧ g.net.l ≠ []))
  refine ⟨fun v3 H' => ∃ n, J n v3 H', fun v3 H' => least fun n => J n v3 H', ⟨N + 1, col, f, Mod.refl _ _ _, Same.refl _ _, fa, ok, by simp, .inl ⟨rfl, by omega, by simpa using hset⟩⟩, ?_⟩
  intro v3 H1 hJ
  have hJ0 := least_spec hJ
  generalize hn0 : (least fun n => J n v3 H1) = n0 at hJ0
  obtain ⟨col1, f1, M1, S1, fa1, ok1, hx1, hcase⟩ := hJ0
  have hnl := ok1.nl
  have z1 := M1.size
  unfold F19_6 F19_15
  -- the end
  have fin2 : f1 = g → (r = decide (g.net.l = [])) → F19_2 (at0 bf) H1 Q := by
    intro e1 e2
    subst e1
    unfold F19_2
    simp -implicitDefEqProofs only [Nz_some, q_some, Fa_some, add_mk, Nat.zero_add, Ld_some, fa1.cBn]
    refine Len_58 fa1.net ?_
    simp -implicitDefEqProofs only [Bin_eql_3, q_some]
    refine fin (hq H1 col1 M1 S1 fa1 ok1 (by omega)) ?_
    rw [e2]
    congr 1
    rw [Bool.eq_iff_iff]
    simp
  rcases hcase with ⟨rfl, hn1, hset1⟩ | ⟨rfl, hn1, hfg, hr, hne⟩
  · simp -implicitDefEqProofs only [gd_bool, gl_bool, if_true, Nz_some, q_some, Fa_some, add_mk, Nat.zero_add, Ld_some, fa1.cBn]
    refine Len_58 fa1.net ?_
    obtain ⟨k, hk⟩ : ∃ k, n0 - 1 = k + 1 := by
      cases hk : n0 - 1 with
      | zero => rw [hk] at hset1; simp [Fab.settle] at hset1
      | succ k => exact ⟨k, rfl⟩
    rw [hk] at hset1
    simp only [Fab.settle] at hset1
    by_cases hemp : f1.net.l = []
    · rw [if_pos hemp] at hset1
      simp at hset1
      obtain ⟨e1, e2⟩ := hset1
      have h0 : decide ((f1.net.l.length : Int) > 0) = false := by rw [hemp]; rfl
      simp -implicitDefEqProofs only [Bin_gtr_3, h0, q_some, Pk_bool, if_true, condV_bool, Bool.false_eq_true, if_false]
      exact fin2 e1 (by rw [← e1]; simp [hemp, e2])
    · rw [if_neg hemp] at hset1
      have hpos : 0 < f1.net.l.length := List.length_pos_iff.2 hemp
      have h0 : decide ((f1.net.l.length : Int) > 0) = true := by simp; omega
      simp -implicitDefEqProofs only [Bin_gtr_3, h0, q_some, Pk_bool, if_true, condV_bool]
      unfold F19_7 F19_8 F19_14 F19_9 F19_13
      simp -implicitDefEqProofs only [Nz_some, q_some, Fa_some, add_mk, Nat.zero_add, Ld_some, fa1.cBn]
      refine All_54 fa1.net (by omega) fun H2 v2 b2 e2 k2 hb2 => ?_
      obtain ⟨a, cap, hv2, _, _⟩ := k2.shape
      have hlv : pv Tryz.prog (Builtin.len_ #[38] 0 #[v2]) = some (.int .i64 f1.net.l.length) := by rw [hv2]; simp -implicitDefEqProofs [flsC_len]
      simp -implicitDefEqProofs only [hlv, q_some]
      unfold F19_10 F19_11
      refine ⟨fun v3 v21 H' => ∃ j : Nat, v3 = .bool false ∧ v21 = .int .i64 j ∧ j ≤ f1.net.l.length ∧ Ext [] H2 H' ∧ ∀ i x, i < j → f1.net.l[i]? = some x → f1.deliver? x.id = none, fun v3 v21 _ => f1.net.l.length - (iv v21).toNat,
        ⟨0, rfl, rfl, by omega, .refl _ _, by intro i x hi; omega⟩, ?_⟩
      rintro v3 v21 H3 ⟨j, rfl, rfl, hj, e3, hno⟩
      unfold F19_12
      have E3 : Ext [] H1 H3 := e2.trans e3
      have fa3 := fa1.ext0 E3
      have M3 : Mod Rl.mine H col H3 := M1.trans S1 (Mod.of E3 (by simp))
      by_cases hlt : j < f1.net.l.length
      · have hlt' : (j : Int) < f1.net.l.length := by omega
        obtain ⟨o, hix, hcs⟩ := fls_at (k2.ext e3 (by simp)) hlt
        simp -implicitDefEqProofs only [Bin_lss_3, hlt', decide_true, q_some, condV_bool, if_true, hix, LdA_some, hcs, Option.map_some]
        refine New_i fun H4 b4 hb4 e4 s4 k4 => ?_
        refine St_i k4 (by simp [flightC]) (by simp) (by simp [flightC]) fun H5 e5 s5 k5 => ?_
        have k5' : blk H5 b4 (flightC f1.net.l[j]) := by simpa [wrL, flightC] using k5
        have e35 : Ext [] H3 H5 := e4.fresh e5 (by simp; omega)
        have E5 := E3.trans e35
        have fa5 := fa1.ext0 E5
        have c0 : cellAt H5 ⟨b4, 0, none⟩ = some (.int .i64 (f1.net.l[j]).id) := by rw [k5'.cell]; rfl
        simp -implicitDefEqProofs only [Fa_some, add_mk, Nat.zero_add, q_some, Ld_some, c0]
        refine Deliver_25 fa5 ok1 (by omega) (fun hn H6 e6 => ?_) (fun f' hf' H6 col6 m6 sm6 fa6 => ?_)
        · have wj : IntKind.wrap .i64 ((j : Int) + 1) = ((j + 1 : Nat) : Int) := by rw [w64 (by omega) (by omega)]; simp
          simp -implicitDefEqProofs only [condV_bool, Bool.false_eq_true, if_false, Bin_add_3, q_some, wj]
          refine ⟨trivial, trivial, trivial, ⟨j + 1, trivial, rfl, by omega, (e3.trans e35).trans e6, ?_⟩, by simp; omega⟩
          intro i x hi hxx
          rcases Nat.lt_or_eq_of_le (Nat.le_of_lt_succ hi) with h | h
          · exact hno i x h hxx
          · subst h; rw [List.getElem?_eq_getElem hlt] at hxx; simp at hxx; subst hxx; exact hn
        · simp -implicitDefEqProofs only [condV_bool, if_true]
          have hstep := step_some hlt hno hf'
          rw [hstep] at hset1
          simp only [] at hset1
          have hdn := deliver_next ok1 hf'
          have z5 := E5.size
          have hJ' : J (k + 1) (.bool true) H6 := ⟨col6, f', (M1.trans S1 (Mod.of E5 (by simp))).trans S1 m6, S1.trans (H' := H1) (fun x hx => sm6 x (by omega)) z1, fa6, ok1.deliver hf', by simp; omega, .inl ⟨rfl, by omega, by simpa using hset1⟩⟩
          refine ⟨trivial, ⟨k + 1, hJ'⟩, ?_⟩
          have := least_le (P := fun n => J n (.bool true) H6) hJ'
          omega
      · have hjl : j = f1.net.l.length := by omega
        subst hjl
        have hlt' : ¬ ((f1.net.l.length : Int) < f1.net.l.length) := by omega
        simp -implicitDefEqProofs only [Bin_lss_3, hlt', decide_false, q_some, condV_bool, Bool.false_eq_true, if_false]
        have hstep : f1.step = none := by
          rw [step_none]
          intro x hxm
          obtain ⟨i, hi, rfl⟩ := List.getElem_of_mem hxm
          exact hno i _ hi (List.getElem?_eq_getElem hi)
        rw [hstep] at hset1
        simp at hset1
        obtain ⟨e1, e2'⟩ := hset1
        have hJ' : J 0 (.bool false) H3 := ⟨col1, f1, M3, S1, fa3, ok1, by omega, .inr ⟨rfl, rfl, e1, e2', by rw [← e1]; exact hemp⟩⟩
        refine ⟨trivial, ⟨0, hJ'⟩, ?_⟩
        have := least_le (P := fun n => J n (.bool false) H3) hJ'
        omega
  · simp -implicitDefEqProofs
    exact fin2 hfg (by rw [hr]; simp [hne])
end YtacidjifocfhkaaGreatDoor
end Go.Proofs
namespace Go.Proofs
open Go Go.NW
set_option linter.unusedVariables false
set_option maxRecDepth 100000
namespace YtacidjifocfhkaaGreatDoor
def F6_9 (t9 t11 : Value) (H : Hp) (Q : RT1) : Prop :=
  NCalls Tryz.prog 27 #[t9] H (fun t109_1 H_1 =>
  NCalls Tryz.prog 28 #[t109_1, (Value.int IntKind.u32 4), (Value.int IntKind.i64 4)] H_1 (fun t110_2 H_2 =>
  q (Ex 0 t110_2) fun t111_3 =>
  q (Ex 1 t110_2) fun t112_4 =>
  q (Bin Tryz.prog H_2 .eql 40 false t111_3 t11) fun t115_5 =>
  Q t115_5 H_2))
def F6_15 (t2 t8 t9 t11 t12 : Value) (H : Hp) (R12 : RT5) (Q : RT1) : Prop :=
  q (Bin Tryz.prog H .add 3 true t12 (Value.int IntKind.i64 1)) fun t47_6 =>
  R12 t2 t8 t9 t11 t47_6 H
def F6_26 (t2 t8 t9 t11 t12 t13 t16 : Value) (H : Hp) (R12 : RT5) (R25 : RT7) (Q : RT1) : Prop :=
  q (Fa 0 t8) fun t91_7 =>
  q (Ld H t91_7) fun t92_8 =>
  q (Bin Tryz.prog H .lss 3 false t16 t92_8) fun t93_9 =>
  condV t93_9 (
    NCalls Tryz.prog 18 #[t9, t16, (Value.int IntKind.u32 4), (Value.int IntKind.i64 4)] H (fun t99_10 H_10 =>
    q (Ex 0 t99_10) fun t100_11 =>
    q (Ex 1 t99_10) fun t101_12 =>
    q (Bin Tryz.prog H_10 .eql 3 false t16 t13) fun t105_13 =>
    q (Bin Tryz.prog H_10 .neq 4 false t101_12 t105_13) fun t106_14 =>
    condV t106_14 (
      Q (Value.bool false) H_10) (
      q (Bin Tryz.prog H_10 .add 3 true t16 (Value.int IntKind.i64 1)) fun t95_15 =>
      R25 t2 t8 t9 t11 t12 t13 t95_15 H_10))) (
    F6_15 t2 t8 t9 t11 t12 H R12 Q)
def F6_25 (t2 t8 t9 t11 t12 t13 t16 : Value) (H : Hp) (R12 : RT5) (Q : RT1) : Prop :=
  ∃ (I : RT1) (μ : Value → Hp → Nat), I t16 H ∧ ∀ n16 H1, I n16 H1 → F6_26 t2 t8 t9 t11 t12 t13 n16 H1 R12 (fun m2 m8 m9 m11 m12 m13 m16 H2 => m2 = t2 ∧ m8 = t8 ∧ m9 = t9 ∧ m11 = t11 ∧ m12 = t12 ∧ m13 = t13 ∧ (I m16 H2 ∧ μ m16 H2 < μ n16 H1)) Q
def F6_24 (t2 t8 t9 t11 t12 t13 t16 : Value) (H : Hp) (R12 : RT5) (Q : RT1) : Prop := F6_25 t2 t8 t9 t11 t12 t13 t16 H R12 Q
def F6_27 (t2 t8 t9 t11 t12 t13 : Value) (H : Hp) (R12 : RT5) (Q : RT1) : Prop :=
  F6_24 t2 t8 t9 t11 t12 t13 (Value.int IntKind.i64 0) H R12 Q
def F6_23 (t2 t8 t9 t11 t12 t13 : Value) (H : Hp) (R12 : RT5) (Q : RT1) : Prop := F6_27 t2 t8 t9 t11 t12 t13 H R12 Q
def F6_28 (t2 t8 t9 t12 t13 t14 : Value) (H : Hp) (R12 : RT5) (Q : RT1) : Prop :=
  q (pv Tryz.prog (convert 3 40 t12)) fun t87_16 =>
  q (Bin Tryz.prog H .add 40 false t14 t87_16) fun t88_17 =>
  q (Bin Tryz.prog H .add 40 true t88_17 (Value.int IntKind.u32 1)) fun t89_18 =>
  F6_23 t2 t8 t9 t89_18 t12 t13 H R12 Q
def F6_22 (t2 t8 t9 t12 t13 t14 : Value) (H : Hp) (R12 : RT5) (Q : RT1) : Prop := F6_28 t2 t8 t9 t12 t13 t14 H R12 Q
def F6_29 (t2 t8 t9 t11 t12 t13 t14 t15 : Value) (H : Hp) (R12 : RT5) (Q : RT1) : Prop :=
  q (pv Tryz.prog (Op.unary .not t15)) fun t68_19 =>
  q (gd t68_19 false (some t14)) fun t70_20 =>
  q (gd t68_19 false (some t11)) fun t71_21 =>
  q (gd t68_19 false (Bin Tryz.prog H .neq 40 false t70_20 t71_21)) fun t72_22 =>
  q (Pk t68_19 (Value.bool true) t72_22) fun t73_23 =>
  q (gd t73_23 false (some t9)) fun t75_24 =>
  q (gd t73_23 false (some t13)) fun t76_25 =>
  q (gd t73_23 false (some t14)) fun t77_26 =>
  q (gd t73_23 false (some t12)) fun t78_27 =>
  q (gd t73_23 false (pv Tryz.prog (convert 3 40 t78_27))) fun t79_28 =>
  q (gd t73_23 false (Bin Tryz.prog H .add 40 false t77_26 t79_28)) fun t80_29 =>
  q (gd t73_23 false (Bin Tryz.prog H .add 40 true t80_29 (Value.int IntKind.u32 1))) fun t81_30 =>
  gl t73_23 false (fun K => NCalls Tryz.prog 20 #[t75_24, t76_25, (Value.int IntKind.u32 4), (Value.int IntKind.i64 4), t81_30] H K) H fun t82_31 H_31 =>
  q (gd t73_23 false (pv Tryz.prog (Op.unary .not t82_31))) fun t83_32 =>
  q (Pk t73_23 (Value.bool true) t83_32) fun t84_33 =>
  condV t84_33 (
    Q (Value.bool false) H_31) (
    F6_22 t2 t8 t9 t12 t13 t14 H_31 R12 Q)
def F6_21 (t2 t8 t9 t11 t12 t13 t14 t15 : Value) (H : Hp) (R12 : RT5) (Q : RT1) : Prop := F6_29 t2 t8 t9 t11 t12 t13 t14 t15 H R12 Q
def F6_30 (t2 t8 t9 t11 t12 t13 : Value) (H : Hp) (R12 : RT5) (Q : RT1) : Prop :=
  NCalls Tryz.prog 18 #[t9, t13, (Value.int IntKind.u32 4), (Value.int IntKind.i64 4)] H (fun t64_34 H_34 =>
  q (Ex 0 t64_34) fun t65_35 =>
  q (Ex 1 t64_34) fun t66_36 =>
  F6_21 t2 t8 t9 t11 t12 t13 t65_35 t66_36 H_34 R12 Q)
def F6_20 (t2 t8 t9 t11 t12 t13 : Value) (H : Hp) (R12 : RT5) (Q : RT1) : Prop := F6_30 t2 t8 t9 t11 t12 t13 H R12 Q
def F6_31 (t2 t8 t9 t11 t12 t13 : Value) (H : Hp) (R12 : RT5) (Q : RT1) : Prop :=
  NCalls Tryz.prog 19 #[t9] H (fun t59_37 H_37 =>
  q (pv Tryz.prog (Op.unary .not t59_37)) fun t60_38 =>
  condV t60_38 (
    Q (Value.bool false) H_37) (
    F6_20 t2 t8 t9 t11 t12 t13 H_37 R12 Q))
def F6_19 (t2 t8 t9 t11 t12 t13 : Value) (H : Hp) (R12 : RT5) (Q : RT1) : Prop := F6_31 t2 t8 t9 t11 t12 t13 H R12 Q
def F6_32 (t2 t8 t9 t11 t12 t13 : Value) (H : Hp) (R12 : RT5) (Q : RT1) : Prop :=
  NCalls Tryz.prog 16 #[t9, t13, (Value.int IntKind.i64 0), (Value.bool true)] H (fun t57_39 H_39 =>
  F6_19 t2 t8 t9 t11 t12 t13 H_39 R12 Q)
def F6_18 (t2 t8 t9 t11 t12 t13 : Value) (H : Hp) (R12 : RT5) (Q : RT1) : Prop := F6_32 t2 t8 t9 t11 t12 t13 H R12 Q
def F6_33 (t2 t8 t9 t11 t12 : Value) (H : Hp) (R12 : RT5) (Q : RT1) : Prop :=
  q (Ix 1 t2 t12) fun t50_40 =>
  q (Ld H t50_40) fun t51_41 =>
  q (Fa 0 t8) fun t52_42 =>
  q (Ld H t52_42) fun t53_43 =>
  NCalls Tryz.prog 12 #[t51_41, t53_43] H (fun t54_44 H_44 =>
  F6_18 t2 t8 t9 t11 t12 t54_44 H_44 R12 Q)
def F6_17 (t2 t8 t9 t11 t12 : Value) (H : Hp) (R12 : RT5) (Q : RT1) : Prop := F6_33 t2 t8 t9 t11 t12 H R12 Q
def F6_16 (t2 t8 t9 t11 t12 : Value) (H : Hp) (R12 : RT5) (Q : RT1) : Prop := F6_17 t2 t8 t9 t11 t12 H R12 Q
def F6_14 (t2 t8 t9 t11 t12 : Value) (H : Hp) (R12 : RT5) (Q : RT1) : Prop := F6_16 t2 t8 t9 t11 t12 H R12 Q
def F6_34 (t2 t8 t9 t11 t12 : Value) (H : Hp) (R12 : RT5) (Q : RT1) : Prop :=
  q (pv Tryz.prog (Builtin.len_ #[49] 0 #[t2])) fun t44_45 =>
  q (Bin Tryz.prog H .lss 3 false t12 t44_45) fun t45_46 =>
  condV t45_46 (
    F6_14 t2 t8 t9 t11 t12 H R12 Q) (
    F6_9 t9 t11 H Q)
def F6_13 (t2 t8 t9 t11 t12 : Value) (H : Hp) (R12 : RT5) (Q : RT1) : Prop := F6_34 t2 t8 t9 t11 t12 H R12 Q
def F6_12 (t2 t8 t9 t11 t12 : Value) (H : Hp) (Q : RT1) : Prop :=
  ∃ (I : RT2) (μ : Value → Value → Hp → Nat), I t11 t12 H ∧ ∀ n11 n12 H1, I n11 n12 H1 → F6_13 t2 t8 t9 n11 n12 H1 (fun m2 m8 m9 m11 m12 H2 => m2 = t2 ∧ m8 = t8 ∧ m9 = t9 ∧ (I m11 m12 H2 ∧ μ m11 m12 H2 < μ n11 n12 H1)) Q
def F6_11 (t2 t8 t9 t11 t12 : Value) (H : Hp) (Q : RT1) : Prop := F6_12 t2 t8 t9 t11 t12 H Q
def F6_35 (t2 t8 t9 t11 : Value) (H : Hp) (Q : RT1) : Prop :=
  F6_11 t2 t8 t9 t11 (Value.int IntKind.i64 0) H Q
def F6_10 (t2 t8 t9 t11 : Value) (H : Hp) (Q : RT1) : Prop := F6_35 t2 t8 t9 t11 H Q
def F6_8 (t2 t8 t9 t11 : Value) (H : Hp) (Q : RT1) : Prop := F6_10 t2 t8 t9 t11 H Q
def F6_36 (t2 t8 t9 : Value) (H : Hp) (Q : RT1) : Prop :=
  F6_8 t2 t8 t9 (Value.int IntKind.u32 0) H Q
def F6_7 (t2 t8 t9 : Value) (H : Hp) (Q : RT1) : Prop := F6_36 t2 t8 t9 H Q
def F6_37 (t2 t8 t9 t10 : Value) (H : Hp) (Q : RT1) : Prop :=
  q (pv Tryz.prog (Op.unary .not t10)) fun t41_47 =>
  condV t41_47 (
    Q (Value.bool false) H) (
    F6_7 t2 t8 t9 H Q)
def F6_6 (t2 t8 t9 t10 : Value) (H : Hp) (Q : RT1) : Prop := F6_37 t2 t8 t9 t10 H Q
def F6_38 (t2 t8 : Value) (H : Hp) (Q : RT1) : Prop :=
  q (LdA 4 H t8) fun t36_48 =>
  NCalls Tryz.prog 22 #[t36_48, (Value.int IntKind.i64 64), (Value.slice none 0 0)] H (fun t37_49 H_49 =>
  q (Ex 0 t37_49) fun t38_50 =>
  q (Ex 1 t37_49) fun t39_51 =>
  F6_6 t2 t8 t38_50 t39_51 H_49 Q)
def F6_5 (t2 t8 : Value) (H : Hp) (Q : RT1) : Prop := F6_38 t2 t8 H Q
def F6_39 (t0 t1 t2 : Value) (H : Hp) (Q : RT1) : Prop :=
  NCalls Tryz.prog 21 #[t0, (Value.int IntKind.i64 0), t1] H (fun t34_52 H_52 =>
  New #[Value.int IntKind.i64 0, Value.int IntKind.i64 0, Value.int IntKind.i64 0, Value.int IntKind.i64 0] 23 H_52 (fun t8_53 H_53 =>
  St 4 H_53 t8_53 t34_52 ((fun u_54 H_54 =>
  F6_5 t2 t8_53 H_54 Q) undef)))
def F6_4 (t0 t1 t2 : Value) (H : Hp) (Q : RT1) : Prop := F6_39 t0 t1 t2 H Q
def F6_40 (t0 t1 t2 t7 : Value) (H : Hp) (Q : RT1) : Prop :=
  q (pv Tryz.prog (Builtin.len_ #[49] 0 #[t2])) fun t25_55 =>
  q (Bin Tryz.prog H .gtr 3 true t25_55 (Value.int IntKind.i64 40)) fun t26_56 =>
  q (gd t26_56 false (some t7)) fun t28_57 =>
  q (gd t26_56 false (pv Tryz.prog (Op.unary .not t28_57))) fun t29_58 =>
  q (Pk t26_56 (Value.bool true) t29_58) fun t30_59 =>
  condV t30_59 (
    Q t7 H) (
    F6_4 t0 t1 t2 H Q)
def F6_3 (t0 t1 t2 t7 : Value) (H : Hp) (Q : RT1) : Prop := F6_40 t0 t1 t2 t7 H Q
def F6_41 (t0 t1 t2 t7 : Value) (H : Hp) (Q : RT1) : Prop :=
  q (pv Tryz.prog (Op.unary .not t7)) fun t23_60 =>
  condV t23_60 (
    Q (Value.bool false) H) (
    F6_3 t0 t1 t2 t7 H Q)
def F6_2 (t0 t1 t2 t7 : Value) (H : Hp) (Q : RT1) : Prop := F6_41 t0 t1 t2 t7 H Q
def F6_42 (t0 t1 t2 : Value) (H : Hp) (Q : RT1) : Prop :=
  NCalls Tryz.prog 9 #[] H (fun t21_61 H_61 =>
  F6_2 t0 t1 t2 t21_61 H_61 Q)
def F6_1 (t0 t1 t2 : Value) (H : Hp) (Q : RT1) : Prop := F6_42 t0 t1 t2 H Q
def F6_43 (t0 t1 t2 : Value) (H : Hp) (Q : RT1) : Prop :=
  F6_1 t0 t1 t2 H Q
def F6_0 (t0 t1 t2 : Value) (H : Hp) (Q : RT1) : Prop := F6_43 t0 t1 t2 H Q
theorem A6_9 {fr : Fr} {H : Hp} {Q : RT1} (h : F6_9 (fr 9) (fr 11) H Q) : xCode Tryz.prog 116 (Code.r (Code.r (Code.r (Code.r (Code.r (Code.r (Code.r (Code.r (Code.r (bodyOf Tryz.f6)))))))))) (xRet Tryz.prog [.tmp 6] Q) fr H :=
  Eq.mp (by kernel_rfl) h
abbrev K6_16 (Q : RT1) : QT := thenK (fun fr H => F6_9 (fr 9) (fr 11) H Q) (xRet Tryz.prog [.tmp 6] Q)
abbrev K6_17 (R12 : RT5) (Q : RT1) : QT := thenK (fun fr H => R12 (fr 2) (fr 8) (fr 9) (fr 11) (fr 12) H) (blockK 0 (K6_16 Q))
theorem A6_15 {fr : Fr} {H : Hp} {R12 : RT5} {Q : RT1} (h : F6_15 (fr 2) (fr 8) (fr 9) (fr 11) (fr 12) H R12 Q) : xCode Tryz.prog 116 (Code.r (Code.r (Code.l (Code.l (Code.r (Code.l (Code.r (Code.r (Code.r (Code.r (Code.r (Code.r (Code.r (Code.r (bodyOf Tryz.f6))))))))))))))) (K6_17 R12 Q) fr H :=
  Eq.mp (by kernel_rfl) h
abbrev K6_18 (R12 : RT5) (Q : RT1) : QT := thenK (fun fr H => F6_15 (fr 2) (fr 8) (fr 9) (fr 11) (fr 12) H R12 Q) (K6_17 R12 Q)
theorem A6_26 {fr : Fr} {H : Hp} {R12 : RT5} {R25 : RT7} {Q : RT1} (h : F6_26 (fr 2) (fr 8) (fr 9) (fr 11) (fr 12) (fr 13) (fr 16) H R12 R25 Q) : xCode Tryz.prog 116 (Code.l (Code.l (Code.r (Code.r (Code.r (Code.r (Code.r (Code.r (Code.r (Code.l (Code.l (Code.r (Code.l (Code.l (Code.r (Code.l (Code.r (Code.r (Code.r (Code.r (Code.r (Code.r (Code.r (Code.r (bodyOf Tryz.f6))))))))))))))))))))))))) (thenK (fun fr H => R25 (fr 2) (fr 8) (fr 9) (fr 11) (fr 12) (fr 13) (fr 16) H) (blockK 2 (blockK 1 (K6_18 R12 Q)))) fr H :=
  Eq.mp (by kernel_rfl) h
theorem A6_25 {fr : Fr} {H : Hp} {R12 : RT5} {Q : RT1} (h : F6_25 (fr 2) (fr 8) (fr 9) (fr 11) (fr 12) (fr 13) (fr 16) H R12 Q) : xCode Tryz.prog 116 (Code.l (Code.r (Code.r (Code.r (Code.r (Code.r (Code.r (Code.r (Code.l (Code.l (Code.r (Code.l (Code.l (Code.r (Code.l (Code.r (Code.r (Code.r (Code.r (Code.r (Code.r (Code.r (Code.r (bodyOf Tryz.f6)))))))))))))))))))))))) (blockK 2 (blockK 1 (K6_18 R12 Q))) fr H := by
  obtain ⟨I, μ, h0, hr⟩ := h
  refine loop_cut (a := (Code.l (Code.l (Code.r (Code.r (Code.r (Code.r (Code.r (Code.r (Code.r (Code.l (Code.l (Code.r (Code.l (Code.l (Code.r (Code.l (Code.r (Code.r (Code.r (Code.r (Code.r (Code.r (Code.r (Code.r (bodyOf Tryz.f6)))))))))))))))))))))))))) (by kernel_rfl) (fun fr1 H1 => fr1 2 = fr 2 ∧ fr1 8 = fr 8 ∧ fr1 9 = fr 9 ∧ fr1 11 = fr 11 ∧ fr1 12 = fr 12 ∧ fr1 13 = fr 13 ∧ I (fr1 16) H1) (fun fr1 H1 => μ (fr1 16) H1) (by exact ⟨rfl, rfl, rfl, rfl, rfl, rfl, h0⟩) ?_
  intro fr1 H1 hI
  obtain ⟨hu2, hu8, hu9, hu11, hu12, hu13, hI⟩ := hI
  have hb := hr (fr1 16) H1 hI
  rw [← hu2] at hb; rw [← hu8] at hb; rw [← hu9] at hb; rw [← hu11] at hb; rw [← hu12] at hb; rw [← hu13] at hb
  refine ⟨_, ?_, A6_26 hb⟩
  intro fr2 H2 hj
  obtain ⟨ku2, ku8, ku9, ku11, ku12, ku13, hI2, hlt⟩ := hj
  exact ⟨⟨(ku2.trans hu2), (ku8.trans hu8), (ku9.trans hu9), (ku11.trans hu11), (ku12.trans hu12), (ku13.trans hu13), hI2⟩, hlt⟩
theorem A6_24 {fr : Fr} {H : Hp} {R12 : RT5} {Q : RT1} (h : F6_24 (fr 2) (fr 8) (fr 9) (fr 11) (fr 12) (fr 13) (fr 16) H R12 Q) : xCode Tryz.prog 116 (Code.r (Code.r (Code.r (Code.r (Code.r (Code.r (Code.r (Code.l (Code.l (Code.r (Code.l (Code.l (Code.r (Code.l (Code.r (Code.r (Code.r (Code.r (Code.r (Code.r (Code.r (Code.r (bodyOf Tryz.f6))))))))))))))))))))))) (blockK 1 (K6_18 R12 Q)) fr H :=
  block_cut (by kernel_rfl) (A6_25 h)
theorem A6_27 {fr : Fr} {H : Hp} {R12 : RT5} {Q : RT1} (h : F6_27 (fr 2) (fr 8) (fr 9) (fr 11) (fr 12) (fr 13) H R12 Q) : xCode Tryz.prog 116 (Code.l (Code.r (Code.r (Code.r (Code.r (Code.r (Code.r (Code.l (Code.l (Code.r (Code.l (Code.l (Code.r (Code.l (Code.r (Code.r (Code.r (Code.r (Code.r (Code.r (Code.r (Code.r (bodyOf Tryz.f6))))))))))))))))))))))) (thenK (fun fr H => F6_24 (fr 2) (fr 8) (fr 9) (fr 11) (fr 12) (fr 13) (fr 16) H R12 Q) (blockK 1 (K6_18 R12 Q))) fr H :=
  Eq.mp (by kernel_rfl) h
theorem A6_23 {fr : Fr} {H : Hp} {R12 : RT5} {Q : RT1} (h : F6_23 (fr 2) (fr 8) (fr 9) (fr 11) (fr 12) (fr 13) H R12 Q) : xCode Tryz.prog 116 (Code.r (Code.r (Code.r (Code.r (Code.r (Code.r (Code.l (Code.l (Code.r (Code.l (Code.l (Code.r (Code.l (Code.r (Code.r (Code.r (Code.r (Code.r (Code.r (Code.r (Code.r (bodyOf Tryz.f6)))))))))))))))))))))) (blockK 1 (K6_18 R12 Q)) fr H :=
  seq_cut (by kernel_rfl) (fun _ _ h => A6_24 h) (A6_27 h)
theorem A6_28 {fr : Fr} {H : Hp} {R12 : RT5} {Q : RT1} (h : F6_28 (fr 2) (fr 8) (fr 9) (fr 12) (fr 13) (fr 14) H R12 Q) : xCode Tryz.prog 116 (Code.l (Code.r (Code.r (Code.r (Code.r (Code.r (Code.l (Code.l (Code.r (Code.l (Code.l (Code.r (Code.l (Code.r (Code.r (Code.r (Code.r (Code.r (Code.r (Code.r (Code.r (bodyOf Tryz.f6)))))))))))))))))))))) (thenK (fun fr H => F6_23 (fr 2) (fr 8) (fr 9) (fr 11) (fr 12) (fr 13) H R12 Q) (blockK 1 (K6_18 R12 Q))) fr H :=
  Eq.mp (by kernel_rfl) h
theorem A6_22 {fr : Fr} {H : Hp} {R12 : RT5} {Q : RT1} (h : F6_22 (fr 2) (fr 8) (fr 9) (fr 12) (fr 13) (fr 14) H R12 Q) : xCode Tryz.prog 116 (Code.r (Code.r (Code.r (Code.r (Code.r (Code.l (Code.l (Code.r (Code.l (Code.l (Code.r (Code.l (Code.r (Code.r (Code.r (Code.r (Code.r (Code.r (Code.r (Code.r (bodyOf Tryz.f6))))))))))))))))))))) (blockK 1 (K6_18 R12 Q)) fr H :=
  seq_cut (by kernel_rfl) (fun _ _ h => A6_23 h) (A6_28 h)
theorem A6_29 {fr : Fr} {H : Hp} {R12 : RT5} {Q : RT1} (h : F6_29 (fr 2) (fr 8) (fr 9) (fr 11) (fr 12) (fr 13) (fr 14) (fr 15) H R12 Q) : xCode Tryz.prog 116 (Code.l (Code.r (Code.r (Code.r (Code.r (Code.l (Code.l (Code.r (Code.l (Code.l (Code.r (Code.l (Code.r (Code.r (Code.r (Code.r (Code.r (Code.r (Code.r (Code.r (bodyOf Tryz.f6))))))))))))))))))))) (thenK (fun fr H => F6_22 (fr 2) (fr 8) (fr 9) (fr 12) (fr 13) (fr 14) H R12 Q) (blockK 1 (K6_18 R12 Q))) fr H :=
  Eq.mp (by kernel_rfl) h
theorem A6_21 {fr : Fr} {H : Hp} {R12 : RT5} {Q : RT1} (h : F6_21 (fr 2) (fr 8) (fr 9) (fr 11) (fr 12) (fr 13) (fr 14) (fr 15) H R12 Q) : xCode Tryz.prog 116 (Code.r (Code.r (Code.r (Code.r (Code.l (Code.l (Code.r (Code.l (Code.l (Code.r (Code.l (Code.r (Code.r (Code.r (Code.r (Code.r (Code.r (Code.r (Code.r (bodyOf Tryz.f6)))))))))))))))))))) (blockK 1 (K6_18 R12 Q)) fr H :=
  seq_cut (by kernel_rfl) (fun _ _ h => A6_22 h) (A6_29 h)
theorem A6_30 {fr : Fr} {H : Hp} {R12 : RT5} {Q : RT1} (h : F6_30 (fr 2) (fr 8) (fr 9) (fr 11) (fr 12) (fr 13) H R12 Q) : xCode Tryz.prog 116 (Code.l (Code.r (Code.r (Code.r (Code.l (Code.l (Code.r (Code.l (Code.l (Code.r (Code.l (Code.r (Code.r (Code.r (Code.r (Code.r (Code.r (Code.r (Code.r (bodyOf Tryz.f6)))))))))))))))))))) (thenK (fun fr H => F6_21 (fr 2) (fr 8) (fr 9) (fr 11) (fr 12) (fr 13) (fr 14) (fr 15) H R12 Q) (blockK 1 (K6_18 R12 Q))) fr H :=
  Eq.mp (by kernel_rfl) h
theorem A6_20 {fr : Fr} {H : Hp} {R12 : RT5} {Q : RT1} (h : F6_20 (fr 2) (fr 8) (fr 9) (fr 11) (fr 12) (fr 13) H R12 Q) : xCode Tryz.prog 116 (Code.r (Code.r (Code.r (Code.l (Code.l (Code.r (Code.l (Code.l (Code.r (Code.l (Code.r (Code.r (Code.r (Code.r (Code.r (Code.r (Code.r (Code.r (bodyOf Tryz.f6))))))))))))))))))) (blockK 1 (K6_18 R12 Q)) fr H :=
  seq_cut (by kernel_rfl) (fun _ _ h => A6_21 h) (A6_30 h)
theorem A6_31 {fr : Fr} {H : Hp} {R12 : RT5} {Q : RT1} (h : F6_31 (fr 2) (fr 8) (fr 9) (fr 11) (fr 12) (fr 13) H R12 Q) : xCode Tryz.prog 116 (Code.l (Code.r (Code.r (Code.l (Code.l (Code.r (Code.l (Code.l (Code.r (Code.l (Code.r (Code.r (Code.r (Code.r (Code.r (Code.r (Code.r (Code.r (bodyOf Tryz.f6))))))))))))))))))) (thenK (fun fr H => F6_20 (fr 2) (fr 8) (fr 9) (fr 11) (fr 12) (fr 13) H R12 Q) (blockK 1 (K6_18 R12 Q))) fr H :=
  Eq.mp (by kernel_rfl) h
theorem A6_19 {fr : Fr} {H : Hp} {R12 : RT5} {Q : RT1} (h : F6_19 (fr 2) (fr 8) (fr 9) (fr 11) (fr 12) (fr 13) H R12 Q) : xCode Tryz.prog 116 (Code.r (Code.r (Code.l (Code.l (Code.r (Code.l (Code.l (Code.r (Code.l (Code.r (Code.r (Code.r (Code.r (Code.r (Code.r (Code.r (Code.r (bodyOf Tryz.f6)))))))))))))))))) (blockK 1 (K6_18 R12 Q)) fr H :=
  seq_cut (by kernel_rfl) (fun _ _ h => A6_20 h) (A6_31 h)
theorem A6_32 {fr : Fr} {H : Hp} {R12 : RT5} {Q : RT1} (h : F6_32 (fr 2) (fr 8) (fr 9) (fr 11) (fr 12) (fr 13) H R12 Q) : xCode Tryz.prog 116 (Code.l (Code.r (Code.l (Code.l (Code.r (Code.l (Code.l (Code.r (Code.l (Code.r (Code.r (Code.r (Code.r (Code.r (Code.r (Code.r (Code.r (bodyOf Tryz.f6)))))))))))))))))) (thenK (fun fr H => F6_19 (fr 2) (fr 8) (fr 9) (fr 11) (fr 12) (fr 13) H R12 Q) (blockK 1 (K6_18 R12 Q))) fr H :=
  Eq.mp (by kernel_rfl) h
theorem A6_18 {fr : Fr} {H : Hp} {R12 : RT5} {Q : RT1} (h : F6_18 (fr 2) (fr 8) (fr 9) (fr 11) (fr 12) (fr 13) H R12 Q) : xCode Tryz.prog 116 (Code.r (Code.l (Code.l (Code.r (Code.l (Code.l (Code.r (Code.l (Code.r (Code.r (Code.r (Code.r (Code.r (Code.r (Code.r (Code.r (bodyOf Tryz.f6))))))))))))))))) (blockK 1 (K6_18 R12 Q)) fr H :=
  seq_cut (by kernel_rfl) (fun _ _ h => A6_19 h) (A6_32 h)
theorem A6_33 {fr : Fr} {H : Hp} {R12 : RT5} {Q : RT1} (h : F6_33 (fr 2) (fr 8) (fr 9) (fr 11) (fr 12) H R12 Q) : xCode Tryz.prog 116 (Code.l (Code.l (Code.l (Code.r (Code.l (Code.l (Code.r (Code.l (Code.r (Code.r (Code.r (Code.r (Code.r (Code.r (Code.r (Code.r (bodyOf Tryz.f6))))))))))))))))) (thenK (fun fr H => F6_18 (fr 2) (fr 8) (fr 9) (fr 11) (fr 12) (fr 13) H R12 Q) (blockK 1 (K6_18 R12 Q))) fr H :=
  Eq.mp (by kernel_rfl) h
theorem A6_17 {fr : Fr} {H : Hp} {R12 : RT5} {Q : RT1} (h : F6_17 (fr 2) (fr 8) (fr 9) (fr 11) (fr 12) H R12 Q) : xCode Tryz.prog 116 (Code.l (Code.l (Code.r (Code.l (Code.l (Code.r (Code.l (Code.r (Code.r (Code.r (Code.r (Code.r (Code.r (Code.r (Code.r (bodyOf Tryz.f6)))))))))))))))) (blockK 1 (K6_18 R12 Q)) fr H :=
  seq_cut (by kernel_rfl) (fun _ _ h => A6_18 h) (A6_33 h)
theorem A6_16 {fr : Fr} {H : Hp} {R12 : RT5} {Q : RT1} (h : F6_16 (fr 2) (fr 8) (fr 9) (fr 11) (fr 12) H R12 Q) : xCode Tryz.prog 116 (Code.l (Code.r (Code.l (Code.l (Code.r (Code.l (Code.r (Code.r (Code.r (Code.r (Code.r (Code.r (Code.r (Code.r (bodyOf Tryz.f6))))))))))))))) (K6_18 R12 Q) fr H :=
  block_cut (by kernel_rfl) (A6_17 h)
theorem A6_14 {fr : Fr} {H : Hp} {R12 : RT5} {Q : RT1} (h : F6_14 (fr 2) (fr 8) (fr 9) (fr 11) (fr 12) H R12 Q) : xCode Tryz.prog 116 (Code.r (Code.l (Code.l (Code.r (Code.l (Code.r (Code.r (Code.r (Code.r (Code.r (Code.r (Code.r (Code.r (bodyOf Tryz.f6)))))))))))))) (K6_17 R12 Q) fr H :=
  seq_cut (by kernel_rfl) (fun _ _ h => A6_15 h) (A6_16 h)
theorem A6_34 {fr : Fr} {H : Hp} {R12 : RT5} {Q : RT1} (h : F6_34 (fr 2) (fr 8) (fr 9) (fr 11) (fr 12) H R12 Q) : xCode Tryz.prog 116 (Code.l (Code.l (Code.l (Code.r (Code.l (Code.r (Code.r (Code.r (Code.r (Code.r (Code.r (Code.r (Code.r (bodyOf Tryz.f6)))))))))))))) (thenK (fun fr H => F6_14 (fr 2) (fr 8) (fr 9) (fr 11) (fr 12) H R12 Q) (K6_17 R12 Q)) fr H :=
  Eq.mp (by kernel_rfl) h
theorem A6_13 {fr : Fr} {H : Hp} {R12 : RT5} {Q : RT1} (h : F6_13 (fr 2) (fr 8) (fr 9) (fr 11) (fr 12) H R12 Q) : xCode Tryz.prog 116 (Code.l (Code.l (Code.r (Code.l (Code.r (Code.r (Code.r (Code.r (Code.r (Code.r (Code.r (Code.r (bodyOf Tryz.f6))))))))))))) (K6_17 R12 Q) fr H :=
  seq_cut (by kernel_rfl) (fun _ _ h => A6_14 h) (A6_34 h)
theorem A6_12 {fr : Fr} {H : Hp} {Q : RT1} (h : F6_12 (fr 2) (fr 8) (fr 9) (fr 11) (fr 12) H Q) : xCode Tryz.prog 116 (Code.l (Code.r (Code.l (Code.r (Code.r (Code.r (Code.r (Code.r (Code.r (Code.r (Code.r (bodyOf Tryz.f6)))))))))))) (blockK 0 (K6_16 Q)) fr H := by
  obtain ⟨I, μ, h0, hr⟩ := h
  refine loop_cut (a := (Code.l (Code.l (Code.r (Code.l (Code.r (Code.r (Code.r (Code.r (Code.r (Code.r (Code.r (Code.r (bodyOf Tryz.f6)))))))))))))) (by kernel_rfl) (fun fr1 H1 => fr1 2 = fr 2 ∧ fr1 8 = fr 8 ∧ fr1 9 = fr 9 ∧ I (fr1 11) (fr1 12) H1) (fun fr1 H1 => μ (fr1 11) (fr1 12) H1) (by exact ⟨rfl, rfl, rfl, h0⟩) ?_
  intro fr1 H1 hI
  obtain ⟨hu2, hu8, hu9, hI⟩ := hI
  have hb := hr (fr1 11) (fr1 12) H1 hI
  rw [← hu2] at hb; rw [← hu8] at hb; rw [← hu9] at hb
  refine ⟨_, ?_, A6_13 hb⟩
  intro fr2 H2 hj
  obtain ⟨ku2, ku8, ku9, hI2, hlt⟩ := hj
  exact ⟨⟨(ku2.trans hu2), (ku8.trans hu8), (ku9.trans hu9), hI2⟩, hlt⟩
theorem A6_11 {fr : Fr} {H : Hp} {Q : RT1} (h : F6_11 (fr 2) (fr 8) (fr 9) (fr 11) (fr 12) H Q) : xCode Tryz.prog 116 (Code.r (Code.l (Code.r (Code.r (Code.r (Code.r (Code.r (Code.r (Code.r (Code.r (bodyOf Tryz.f6))))))))))) (K6_16 Q) fr H :=
  block_cut (by kernel_rfl) (A6_12 h)
theorem A6_35 {fr : Fr} {H : Hp} {Q : RT1} (h : F6_35 (fr 2) (fr 8) (fr 9) (fr 11) H Q) : xCode Tryz.prog 116 (Code.l (Code.l (Code.r (Code.r (Code.r (Code.r (Code.r (Code.r (Code.r (Code.r (bodyOf Tryz.f6))))))))))) (thenK (fun fr H => F6_11 (fr 2) (fr 8) (fr 9) (fr 11) (fr 12) H Q) (K6_16 Q)) fr H :=
  Eq.mp (by kernel_rfl) h
theorem A6_10 {fr : Fr} {H : Hp} {Q : RT1} (h : F6_10 (fr 2) (fr 8) (fr 9) (fr 11) H Q) : xCode Tryz.prog 116 (Code.l (Code.r (Code.r (Code.r (Code.r (Code.r (Code.r (Code.r (Code.r (bodyOf Tryz.f6)))))))))) (K6_16 Q) fr H :=
  seq_cut (by kernel_rfl) (fun _ _ h => A6_11 h) (A6_35 h)
theorem A6_8 {fr : Fr} {H : Hp} {Q : RT1} (h : F6_8 (fr 2) (fr 8) (fr 9) (fr 11) H Q) : xCode Tryz.prog 116 (Code.r (Code.r (Code.r (Code.r (Code.r (Code.r (Code.r (Code.r (bodyOf Tryz.f6))))))))) (xRet Tryz.prog [.tmp 6] Q) fr H :=
  seq_cut (by kernel_rfl) (fun _ _ h => A6_9 h) (A6_10 h)
theorem A6_36 {fr : Fr} {H : Hp} {Q : RT1} (h : F6_36 (fr 2) (fr 8) (fr 9) H Q) : xCode Tryz.prog 116 (Code.l (Code.r (Code.r (Code.r (Code.r (Code.r (Code.r (Code.r (bodyOf Tryz.f6))))))))) (thenK (fun fr H => F6_8 (fr 2) (fr 8) (fr 9) (fr 11) H Q) (xRet Tryz.prog [.tmp 6] Q)) fr H :=
  Eq.mp (by kernel_rfl) h
theorem A6_7 {fr : Fr} {H : Hp} {Q : RT1} (h : F6_7 (fr 2) (fr 8) (fr 9) H Q) : xCode Tryz.prog 116 (Code.r (Code.r (Code.r (Code.r (Code.r (Code.r (Code.r (bodyOf Tryz.f6)))))))) (xRet Tryz.prog [.tmp 6] Q) fr H :=
  seq_cut (by kernel_rfl) (fun _ _ h => A6_8 h) (A6_36 h)
theorem A6_37 {fr : Fr} {H : Hp} {Q : RT1} (h : F6_37 (fr 2) (fr 8) (fr 9) (fr 10) H Q) : xCode Tryz.prog 116 (Code.l (Code.r (Code.r (Code.r (Code.r (Code.r (Code.r (bodyOf Tryz.f6)))))))) (thenK (fun fr H => F6_7 (fr 2) (fr 8) (fr 9) H Q) (xRet Tryz.prog [.tmp 6] Q)) fr H :=
  Eq.mp (by kernel_rfl) h
theorem A6_6 {fr : Fr} {H : Hp} {Q : RT1} (h : F6_6 (fr 2) (fr 8) (fr 9) (fr 10) H Q) : xCode Tryz.prog 116 (Code.r (Code.r (Code.r (Code.r (Code.r (Code.r (bodyOf Tryz.f6))))))) (xRet Tryz.prog [.tmp 6] Q) fr H :=
  seq_cut (by kernel_rfl) (fun _ _ h => A6_7 h) (A6_37 h)
theorem A6_38 {fr : Fr} {H : Hp} {Q : RT1} (h : F6_38 (fr 2) (fr 8) H Q) : xCode Tryz.prog 116 (Code.l (Code.r (Code.r (Code.r (Code.r (Code.r (bodyOf Tryz.f6))))))) (thenK (fun fr H => F6_6 (fr 2) (fr 8) (fr 9) (fr 10) H Q) (xRet Tryz.prog [.tmp 6] Q)) fr H :=
  Eq.mp (by kernel_rfl) h
theorem A6_5 {fr : Fr} {H : Hp} {Q : RT1} (h : F6_5 (fr 2) (fr 8) H Q) : xCode Tryz.prog 116 (Code.r (Code.r (Code.r (Code.r (Code.r (bodyOf Tryz.f6)))))) (xRet Tryz.prog [.tmp 6] Q) fr H :=
  seq_cut (by kernel_rfl) (fun _ _ h => A6_6 h) (A6_38 h)
theorem A6_39 {fr : Fr} {H : Hp} {Q : RT1} (h : F6_39 (fr 0) (fr 1) (fr 2) H Q) : xCode Tryz.prog 116 (Code.l (Code.r (Code.r (Code.r (Code.r (bodyOf Tryz.f6)))))) (thenK (fun fr H => F6_5 (fr 2) (fr 8) H Q) (xRet Tryz.prog [.tmp 6] Q)) fr H :=
  Eq.mp (by kernel_rfl) h
theorem A6_4 {fr : Fr} {H : Hp} {Q : RT1} (h : F6_4 (fr 0) (fr 1) (fr 2) H Q) : xCode Tryz.prog 116 (Code.r (Code.r (Code.r (Code.r (bodyOf Tryz.f6))))) (xRet Tryz.prog [.tmp 6] Q) fr H :=
  seq_cut (by kernel_rfl) (fun _ _ h => A6_5 h) (A6_39 h)
theorem A6_40 {fr : Fr} {H : Hp} {Q : RT1} (h : F6_40 (fr 0) (fr 1) (fr 2) (fr 7) H Q) : xCode Tryz.prog 116 (Code.l (Code.r (Code.r (Code.r (bodyOf Tryz.f6))))) (thenK (fun fr H => F6_4 (fr 0) (fr 1) (fr 2) H Q) (xRet Tryz.prog [.tmp 6] Q)) fr H :=
  Eq.mp (by kernel_rfl) h
theorem A6_3 {fr : Fr} {H : Hp} {Q : RT1} (h : F6_3 (fr 0) (fr 1) (fr 2) (fr 7) H Q) : xCode Tryz.prog 116 (Code.r (Code.r (Code.r (bodyOf Tryz.f6)))) (xRet Tryz.prog [.tmp 6] Q) fr H :=
  seq_cut (by kernel_rfl) (fun _ _ h => A6_4 h) (A6_40 h)
theorem A6_41 {fr : Fr} {H : Hp} {Q : RT1} (h : F6_41 (fr 0) (fr 1) (fr 2) (fr 7) H Q) : xCode Tryz.prog 116 (Code.l (Code.r (Code.r (bodyOf Tryz.f6)))) (thenK (fun fr H => F6_3 (fr 0) (fr 1) (fr 2) (fr 7) H Q) (xRet Tryz.prog [.tmp 6] Q)) fr H :=
  Eq.mp (by kernel_rfl) h
theorem A6_2 {fr : Fr} {H : Hp} {Q : RT1} (h : F6_2 (fr 0) (fr 1) (fr 2) (fr 7) H Q) : xCode Tryz.prog 116 (Code.r (Code.r (bodyOf Tryz.f6))) (xRet Tryz.prog [.tmp 6] Q) fr H :=
  seq_cut (by kernel_rfl) (fun _ _ h => A6_3 h) (A6_41 h)
theorem A6_42 {fr : Fr} {H : Hp} {Q : RT1} (h : F6_42 (fr 0) (fr 1) (fr 2) H Q) : xCode Tryz.prog 116 (Code.l (Code.r (bodyOf Tryz.f6))) (thenK (fun fr H => F6_2 (fr 0) (fr 1) (fr 2) (fr 7) H Q) (xRet Tryz.prog [.tmp 6] Q)) fr H :=
  Eq.mp (by kernel_rfl) h
theorem A6_1 {fr : Fr} {H : Hp} {Q : RT1} (h : F6_1 (fr 0) (fr 1) (fr 2) H Q) : xCode Tryz.prog 116 (Code.r (bodyOf Tryz.f6)) (xRet Tryz.prog [.tmp 6] Q) fr H :=
  seq_cut (by kernel_rfl) (fun _ _ h => A6_2 h) (A6_42 h)
theorem A6_43 {fr : Fr} {H : Hp} {Q : RT1} (h : F6_43 (fr 0) (fr 1) (fr 2) H Q) : xCode Tryz.prog 116 (Code.l (bodyOf Tryz.f6)) (thenK (fun fr H => F6_1 (fr 0) (fr 1) (fr 2) H Q) (xRet Tryz.prog [.tmp 6] Q)) fr H :=
  Eq.mp (by kernel_rfl) h
theorem A6_0 {fr : Fr} {H : Hp} {Q : RT1} (h : F6_0 (fr 0) (fr 1) (fr 2) H Q) : xCode Tryz.prog 116 (bodyOf Tryz.f6) (xRet Tryz.prog [.tmp 6] Q) fr H :=
  seq_cut (by kernel_rfl) (fun _ _ h => A6_1 h) (A6_43 h)
theorem E6 {t0 t1 t2 : Value} {H : Hp} {Q : RT1} (h : F6_0 t0 t1 t2 H Q) : NCalls Tryz.prog 6 #[t0, t1, t2] H Q :=
  NCalls.ofBody (by kernel_rfl) Tryz.func6 (by kernel_rfl) (by kernel_rfl) (Eq.mp (by kernel_rfl) (A6_0 (fr := fun i => (#[t0, t1, t2] : Array Value).getD i undef) (H := H) (Q := Q) (Eq.mp (by kernel_rfl) h)))
def F9_0 (H : Hp) (Q : RT1) : Prop :=
  q (pv Tryz.prog (Instr.build 23 #[(0, (Value.int IntKind.i64 2)), (1, (Value.int IntKind.i64 1)), (2, (Value.int IntKind.i64 1)), (3, (Value.int IntKind.i64 12))])) fun t12_1 =>
  NCalls Tryz.prog 22 #[t12_1, (Value.int IntKind.i64 64), (Value.slice none 0 0)] H (fun t13_2 H_2 =>
  q (Ex 0 t13_2) fun t14_3 =>
  q (Ex 1 t13_2) fun t15_4 =>
  q (pv Tryz.prog (Op.unary .not t15_4)) fun t17_5 =>
  condV t17_5 (
    Q (Value.bool false) H_2) (
    NCalls Tryz.prog 16 #[t14_3, (Value.int IntKind.i64 0), (Value.int IntKind.i64 0), (Value.bool true)] H_2 (fun t19_6 H_6 =>
    NCalls Tryz.prog 19 #[t14_3] H_6 (fun t21_7 H_7 =>
    NCalls Tryz.prog 20 #[t14_3, (Value.int IntKind.i64 0), (Value.int IntKind.u32 0), (Value.int IntKind.i64 4), (Value.int IntKind.u32 7)] H_7 (fun t23_8 H_8 =>
    NCalls Tryz.prog 18 #[t14_3, (Value.int IntKind.i64 1), (Value.int IntKind.u32 0), (Value.int IntKind.i64 4)] H_8 (fun t26_9 H_9 =>
    q (Ex 0 t26_9) fun t27_10 =>
    q (Ex 1 t26_9) fun t28_11 =>
    NCalls Tryz.prog 16 #[t14_3, (Value.int IntKind.i64 1), (Value.int IntKind.i64 0), (Value.bool false)] H_9 (fun t30_12 H_12 =>
    NCalls Tryz.prog 19 #[t14_3] H_12 (fun t32_13 H_13 =>
    NCalls Tryz.prog 18 #[t14_3, (Value.int IntKind.i64 1), (Value.int IntKind.u32 0), (Value.int IntKind.i64 4)] H_13 (fun t35_14 H_14 =>
    q (Ex 0 t35_14) fun t36_15 =>
    q (Ex 1 t35_14) fun t37_16 =>
    q (gd t19_6 true (some t21_7)) fun t40_17 =>
    q (Pk t19_6 t40_17 (Value.bool false)) fun t41_18 =>
    q (gd t41_18 true (some t23_8)) fun t43_19 =>
    q (Pk t41_18 t43_19 (Value.bool false)) fun t44_20 =>
    q (gd t44_20 true (some t28_11)) fun t46_21 =>
    q (gd t44_20 true (pv Tryz.prog (Op.unary .not t46_21))) fun t47_22 =>
    q (Pk t44_20 t47_22 (Value.bool false)) fun t48_23 =>
    q (gd t48_23 true (some t30_12)) fun t50_24 =>
    q (Pk t48_23 t50_24 (Value.bool false)) fun t51_25 =>
    q (gd t51_25 true (some t37_16)) fun t53_26 =>
    q (Pk t51_25 t53_26 (Value.bool false)) fun t54_27 =>
    q (gd t54_27 true (some t36_15)) fun t56_28 =>
    q (gd t54_27 true (Bin Tryz.prog H_14 .eql 40 true t56_28 (Value.int IntKind.u32 7))) fun t57_29 =>
    q (Pk t54_27 t57_29 (Value.bool false)) fun t58_30 =>
    Q t58_30 H_14)))))))))
theorem A9_0 {fr : Fr} {H : Hp} {Q : RT1} (h : F9_0 H Q) : xCode Tryz.prog 59 (bodyOf Tryz.f9) (xRet Tryz.prog [.tmp 0] Q) fr H :=
  Eq.mp (by kernel_rfl) h
theorem E9 {H : Hp} {Q : RT1} (h : F9_0 H Q) : NCalls Tryz.prog 9 #[] H Q :=
  NCalls.ofBody (by kernel_rfl) Tryz.func9 (by kernel_rfl) (by kernel_rfl) (Eq.mp (by kernel_rfl) (A9_0 (fr := fun i => (#[] : Array Value).getD i undef) (H := H) (Q := Q) (Eq.mp (by kernel_rfl) h)))
def F10_0 (t0 : Value) (H : Hp) (Q : RT1) : Prop :=
  New (Value.cells t0) 23 H (fun t1_1 H_1 =>
  q (Fa 1 t1_1) fun t6_2 =>
  q (Ld H_1 t6_2) fun t7_3 =>
  q (Fa 2 t1_1) fun t8_4 =>
  q (Ld H_1 t8_4) fun t9_5 =>
  NCalls Tryz.prog 35 #[t7_3, t9_5] H_1 (fun t10_6 H_6 =>
  q (Ex 0 t10_6) fun t11_7 =>
  q (Ex 1 t10_6) fun t12_8 =>
  q (Fa 0 t1_1) fun t13_9 =>
  q (Ld H_6 t13_9) fun t14_10 =>
  q (Bin Tryz.prog H_6 .lss 3 true t14_10 (Value.int IntKind.i64 1)) fun t15_11 =>
  q (gd t15_11 false (Fa 0 t1_1)) fun t17_12 =>
  q (gd t15_11 false (Ld H_6 t17_12)) fun t18_13 =>
  q (gd t15_11 false (Bin Tryz.prog H_6 .gtr 3 true t18_13 (Value.int IntKind.i64 4))) fun t19_14 =>
  q (Pk t15_11 (Value.bool true) t19_14) fun t20_15 =>
  q (gd t20_15 false (some t12_8)) fun t22_16 =>
  q (gd t20_15 false (Bin Tryz.prog H_6 .neq 26 true t22_16 Value.nilIface)) fun t23_17 =>
  q (Pk t20_15 (Value.bool true) t23_17) fun t24_18 =>
  q (gd t24_18 false (Fa 3 t1_1)) fun t26_19 =>
  q (gd t24_18 false (Ld H_6 t26_19)) fun t27_20 =>
  q (gd t24_18 false (Fa 0 t1_1)) fun t28_21 =>
  q (gd t24_18 false (Ld H_6 t28_21)) fun t29_22 =>
  q (gd t24_18 false (Bin Tryz.prog H_6 .mul 3 true (Value.int IntKind.i64 6) t29_22)) fun t30_23 =>
  q (gd t24_18 false (Bin Tryz.prog H_6 .lss 3 false t27_20 t30_23)) fun t31_24 =>
  q (Pk t24_18 (Value.bool true) t31_24) fun t32_25 =>
  q (gd t32_25 false (Fa 3 t1_1)) fun t34_26 =>
  q (gd t32_25 false (Ld H_6 t34_26)) fun t35_27 =>
  q (gd t32_25 false (Bin Tryz.prog H_6 .gtr 3 true t35_27 (Value.int IntKind.i64 64))) fun t36_28 =>
  q (Pk t32_25 (Value.bool true) t36_28) fun t37_29 =>
  condV t37_29 (
    q (Ld H_6 (Value.pointer (some ⟨0, 0, none⟩))) fun t38_30 =>
    Q t38_30 H_6) (
    Q Value.nilIface H_6)))
theorem A10_0 {fr : Fr} {H : Hp} {Q : RT1} (h : F10_0 (fr 0) H Q) : xCode Tryz.prog 39 (bodyOf Tryz.f10) (xRet Tryz.prog [.tmp 2] Q) fr H :=
  Eq.mp (by kernel_rfl) h
theorem E10 {t0 : Value} {H : Hp} {Q : RT1} (h : F10_0 t0 H Q) : NCalls Tryz.prog 10 #[t0] H Q :=
  NCalls.ofBody (by kernel_rfl) Tryz.func10 (by kernel_rfl) (by kernel_rfl) (Eq.mp (by kernel_rfl) (A10_0 (fr := fun i => (#[t0] : Array Value).getD i undef) (H := H) (Q := Q) (Eq.mp (by kernel_rfl) h)))
def F12_0 (t0 t1 : Value) (H : Hp) (Q : RT1) : Prop :=
  q (Bin Tryz.prog H .rem 3 false t0 t1) fun t7_1 =>
  q (Bin Tryz.prog H .add 3 false t7_1 t1) fun t9_2 =>
  q (Bin Tryz.prog H .rem 3 false t9_2 t1) fun t11_3 =>
  Q t11_3 H
theorem A12_0 {fr : Fr} {H : Hp} {Q : RT1} (h : F12_0 (fr 0) (fr 1) H Q) : xCode Tryz.prog 12 (bodyOf Tryz.f12) (xRet Tryz.prog [.tmp 4] Q) fr H :=
  Eq.mp (by kernel_rfl) h
theorem E12 {t0 t1 : Value} {H : Hp} {Q : RT1} (h : F12_0 t0 t1 H Q) : NCalls Tryz.prog 12 #[t0, t1] H Q :=
  NCalls.ofBody (by kernel_rfl) Tryz.func12 (by kernel_rfl) (by kernel_rfl) (Eq.mp (by kernel_rfl) (A12_0 (fr := fun i => (#[t0, t1] : Array Value).getD i undef) (H := H) (Q := Q) (Eq.mp (by kernel_rfl) h)))
end YtacidjifocfhkaaGreatDoor
end Go.Proofs
namespace Go.Proofs
open Go Go.NW Go.Pm
set_option maxRecDepth 20000
set_option linter.unusedSimpArgs false
set_option linter.unusedVariables false
namespace YtacidjifocfhkaaGreatDoor
def confC (h s w r : Int) : Array Value := #[.int .i64 h, .int .i64 s, .int .i64 w, .int .i64 r]
def confOk (h s w r : Int) : Bool := decide (1 ≤ h ∧ h ≤ 4) && shapeOk s w && decide (6 * h ≤ r ∧ r ≤ 64)
theorem Valid_10 {H : Hp} {h s w r : Int} {ev : Value} {Q : RT1} (he : ∃ t v, ev = .iface t v) (hg : cellAt H ⟨0, 0, none⟩ = some ev)
    (hq : ∀ H', Ext [] H H' → Q (if confOk h s w r then .nilIface else ev) H') : NCalls Tryz.prog 10 #[.agg (confC h s w r)] H Q := by
  obtain ⟨t, v, rfl⟩ := he
  refine E10 ?_
  unfold F10_0
  refine New_i fun H1 b1 hb1 e1 s1 k1 => ?_
  replace k1 : blk H1 b1 (confC h s w r) := by simpa using k1
  have hg1 : cellAt H1 ⟨0, 0, none⟩ = some (.iface t v) := by
    unfold cellAt at hg ⊢
    cases hh : H[0]? with
    | none => simp [hh] at hg
    | some o => rw [e1.same 0 (get_lt hh) (by simp)]; exact hg
  have c : ∀ {G : Hp}, blk G b1 (confC h s w r) → cellAt G ⟨b1, 0, none⟩ = some (.int .i64 h) ∧ cellAt G ⟨b1, 1, none⟩ = some (.int .i64 s) ∧ cellAt G ⟨b1, 2, none⟩ = some (.int .i64 w) ∧ cellAt G ⟨b1, 3, none⟩ = some (.int .i64 r) := fun k => ⟨by rw [k.cell]; rfl, by rw [k.cell]; rfl, by rw [k.cell]; rfl, by rw [k.cell]; rfl⟩
  obtain ⟨c0, c1, c2, c3⟩ := c k1
  simp -implicitDefEqProofs only [Fa_some, add_mk, Nat.zero_add, q_some, Ld_some, c1, c2]
  refine New_35 (col := fun _ => .other) 0 hg1 (fun hs => ?_) (fun hs H2 col2 bc bs e2 _ _ _ _ => ?_)
  · by_cases h1 : h < 1
    · simp -implicitDefEqProofs [c0, h1, hg1]
      exact fin (hq H1 e1) (by rw [if_neg (by simp [confOk, hs])])
    · by_cases h4 : 4 < h
      · simp -implicitDefEqProofs [c0, h1, h4, hg1]
        exact fin (hq H1 e1) (by rw [if_neg (by simp [confOk, hs])])
      · simp -implicitDefEqProofs [c0, h1, h4, hg1]
        exact fin (hq H1 e1) (by rw [if_neg (by simp [confOk, hs])])
  · obtain ⟨d0, d1, d2, d3⟩ := c (k1.ext e2 (by simp))
    have hg2 : cellAt H2 ⟨0, 0, none⟩ = some (.iface t v) := by
      unfold cellAt at hg1 ⊢
      cases hh : H1[0]? with
      | none => simp [hh] at hg1
      | some o => rw [e2.same 0 (get_lt hh) (by simp)]; exact hg1
    have E2 := e1.trans e2
    by_cases h1 : h < 1
    · simp -implicitDefEqProofs [d0, h1, hg2]
      exact fin (hq H2 E2) (by rw [if_neg (by simp [confOk]; omega)])
    by_cases h4 : 4 < h
    · simp -implicitDefEqProofs [d0, h1, h4, hg2]
      exact fin (hq H2 E2) (by rw [if_neg (by simp [confOk]; omega)])
    have w6 : IntKind.wrap .i64 (6 * h) = 6 * h := w64 (by omega) (by omega)
    by_cases h6 : r < 6 * h
    · simp -implicitDefEqProofs [d0, d3, h1, h4, hg2, w6, h6]
      exact fin (hq H2 E2) (by rw [if_neg (by simp [confOk]; omega)])
    by_cases h7 : 64 < r
    · simp -implicitDefEqProofs [d0, d3, h1, h4, hg2, w6, h6, h7]
      exact fin (hq H2 E2) (by rw [if_neg (by simp [confOk]; omega)])
    simp -implicitDefEqProofs [d0, d3, h1, h4, hg2, w6, h6, h7]
    exact fin (hq H2 E2) (by rw [if_pos (by simp [confOk, hs]; omega)])
theorem PartAt.fresh {H : Hp} {col : Nat → Rl} {i bp bc bs bm n : Nat} {c : Cache} (cb : col bp = .part i) (kb : blk H bp #[at0 bc, .map (some bm), .slice none 0 0]) (kc : CacheAt H col i bc bs c) (cm : col bm = .map i) (ob : H[bm]? = some (.map #[] 0)) :
    PartAt H col i bp { cache := c, lines := List.replicate n none } := by
  refine ⟨cb, bc, bs, bm, _, [], fun _ => 0, kb, kc, ⟨cm, by rw [ob]; rfl, List.nodup_nil, fun k => ?_, fun k l hk hl => ?_⟩, .inl ⟨rfl, rfl⟩⟩
  · constructor
    · intro h; simp at h
    · rintro ⟨_, l, hl⟩
      rw [List.getElem?_replicate] at hl
      split at hl <;> simp at hl
  · rw [List.getElem?_replicate] at hl
    split at hl <;> simp at hl
/-- what was made so far -/
structure Made (H0 H : Hp) (col0 col : Nat → Rl) (bf : Nat) (s : Sk) (net : Net) (bs : List Int) (ps : List Part) (hs : List Home) : Prop where
  ext : Ext [] H0 H
  same : Same H0 col0 col
  fresh : H0.size ≤ bf ∧ H0.size ≤ s.bm ∧ H0.size ≤ s.bb ∧ H0.size ≤ s.bn
  cb : col bf = .fab
  kb : blk H bf #[at0 s.bm, s.pv, at0 s.bn, s.hv]
  mem : MemC H s.bm s.bb bs
  cm : col s.bm = .mem
  cbb : col s.bb = .bytes
  net : NetAt H col s.bn net
  pl : SlR H col .parts 1 s.pv (s.bps.map fun b => [at0 b])
  pn : s.bps.length = ps.length
  pt : ∀ i (h1 : i < s.bps.length) (h2 : i < ps.length), PartAt H col i s.bps[i] ps[i]
  hm : ∃ bhs : List Nat, SlR H col .homes 1 s.hv (bhs.map fun b => [at0 b]) ∧ bhs.length = hs.length ∧ ∀ i (h1 : i < bhs.length) (h2 : i < hs.length), HomeR H col bhs[i] hs[i]
theorem Made.step {R : Rl → Bool} {H0 H H' : Hp} {col0 col col' : Nat → Rl} {bf : Nat} {s : Sk} {net : Net} {bs : List Int} {ps : List Part} {hs : List Home} (m : Made H0 H col0 col bf s net bs ps hs) (e : Mod R H col H') (e0 : Ext [] H0 H') (hc : Same H col col') (hR : ∀ r, R r = true → r = .other) :
    Made H0 H' col0 col' bf s net bs ps hs := by
  have hf : ∀ r, r ≠ .other → R r = false := fun r hr => by cases h : R r with | false => rfl | true => exact (hr (hR r h)).elim
  have nm : ∀ {r : Rl}, r ≠ .other → ∀ x ∈ setOf R H col, x < H.size → col x ≠ r := fun hr x hx _ => nm_of (hf _ hr) hx
  have l0 := m.kb.lt
  obtain ⟨bhs, h1, h2, h3⟩ := m.hm
  refine ⟨e0, m.same.trans (H' := H) hc m.ext.size, m.fresh, (hc _ l0).trans m.cb, m.kb.ext e.ext fun hm => nm (by simp) _ hm l0 m.cb, m.mem.ext e.ext (fun hm => nm (by simp) _ hm m.mem.lm m.cm) (fun hm => nm (by simp) _ hm m.mem.lb m.cbb), (hc _ m.mem.lm).trans m.cm, (hc _ m.mem.lb).trans m.cbb, m.net.ext e.ext hc fun x hx hl => ⟨nm (by simp) x hx hl, nm (by simp) x hx hl⟩, m.pl.ext e.ext hc (nm (by simp)), m.pn, fun i a b => (m.pt i a b).mod e hc fun r hr => by rw [hR r hr]; rfl, bhs, h1.ext e.ext hc (nm (by simp)), h2, fun i a b => (h3 i a b).ext e.ext hc (nm (by simp))⟩
end YtacidjifocfhkaaGreatDoor
end Go.Proofs
namespace Go.Proofs
open Go Go.NW Go.Pm
set_option maxRecDepth 20000
set_option linter.unusedSimpArgs false
set_option linter.unusedVariables false
namespace YtacidjifocfhkaaGreatDoor
def ptrsC (l : List Nat) : List (List Value) := l.map fun b => [at0 b]
theorem ptrsC_len (l : List Nat) : (ptrsC l).length = l.length := by simp [ptrsC]
theorem ptrsC_one {l : List Nat} : ∀ x ∈ ptrsC l, x.all one = true := by
  intro x hx
  simp only [ptrsC, List.mem_map] at hx
  obtain ⟨y, _, rfl⟩ := hx
  rfl
/-- one pointer more in a row of them -/
theorem append_ptr {T E : Nat} (ty : SlTy Tryz.prog T E 1) {H : Hp} {col : Nat → Rl} {r : Rl} {v : Value} {l : List Nat} {b b1 : Nat} {K : RT1} (hs : SlR H col r 1 v (ptrsC l)) (kb : blk H b1 #[at0 b]) (hl : l.length ≤ 2 ^ 20)
    (hK : ∀ H' v' col', (∃ S, (∀ x ∈ S, x < H.size ∧ col x = r) ∧ Ext S H H') → Same H col col' → SlR H' col' r 1 v' (ptrsC (l ++ [b])) → K v' H') :
    dm Tryz.prog (Builtin.append_ #[T, T] 0 #[v, .slice (some ⟨b1, 0, none⟩) 1 1]) H K := by
  obtain ⟨bo, hsl, hbo⟩ := hs.blk1 H.size
  have hx : Slc H 1 (.slice (some ⟨b1, 0, none⟩) 1 1) (ptrsC [b]) b1 := Slc.of (xs := ptrsC [b]) (c := _) (by simp [ptrsC]) kb (by simp [ptrsC]) (by simp) (by simp [ptrsC])
  refine append_i ty hsl hx ptrsC_one (by rw [ptrsC_len, ptrsC_len]; simp; omega) fun H1 v1 b2 e1 k1 hb2 => ?_
  have ek : ptrsC l ++ ptrsC [b] = ptrsC (l ++ [b]) := by simp [ptrsC]
  rw [ek] at k1
  have hlt := k1.lt (by simp [ptrsC])
  have hE : ∃ S, (∀ x ∈ S, x < H.size ∧ col x = r) ∧ Ext S H H1 := by
    rcases hbo with ⟨h1, h2⟩ | ⟨h1, _⟩
    · exact ⟨[bo], by intro x hx; simp at hx; subst hx; exact ⟨h1, h2⟩, e1⟩
    · refine ⟨[], by simp, ?_⟩
      exact ((Ext.refl [] H).fresh e1 (by simp; omega))
  by_cases hf : b2 < H.size
  · have : b2 = bo := by omega
    subst this
    have hc : col b2 = r := by rcases hbo with h | h; exact h.2; omega
    exact hK H1 v1 col hE (Same.refl _ _) (.inr ⟨b2, hlt, hc, k1⟩)
  · exact hK H1 v1 (recol col b2 r) hE (Same.recol (by omega)) (.inr ⟨b2, hlt, by simp [recol], k1⟩)
theorem Made.upd {H0 H H' : Hp} {col0 col col' : Nat → Rl} {bf : Nat} {s : Sk} {net : Net} {bs : List Int} {ps ps' : List Part} {hs hs' : List Home} {S : List Nat} {pv hv : Value} {bps : List Nat} (m : Made H0 H col0 col bf s net bs ps hs) (h0 : ∀ x, col0 x = .other ∨ col0 x = .glob) (e : Ext S H H') (hc : Same H col col')
    (hS : ∀ x ∈ S, x < H.size ∧ (col x = .homes ∨ col x = .parts ∨ col x = .fab)) (kb : blk H' bf #[at0 s.bm, pv, at0 s.bn, hv]) (pl : SlR H' col' .parts 1 pv (bps.map fun b => [at0 b])) (pn : bps.length = ps'.length)
    (pt : ∀ i (h1 : i < bps.length) (h2 : i < ps'.length), PartAt H' col' i bps[i] ps'[i]) (hm : ∃ bhs : List Nat, SlR H' col' .homes 1 hv (bhs.map fun b => [at0 b]) ∧ bhs.length = hs'.length ∧ ∀ i (h1 : i < bhs.length) (h2 : i < hs'.length), HomeR H' col' bhs[i] hs'[i]) :
    Made H0 H' col0 col' bf { s with pv := pv, hv := hv, bps := bps } net bs ps' hs' := by
  have ne : ∀ {r : Rl}, r ≠ .homes → r ≠ .parts → r ≠ .fab → ∀ x ∈ S, x < H.size → col x ≠ r := by
    intro r h1 h2 h3 x hx _ h
    rcases (hS x hx).2 with h4 | h4 | h4 <;> rw [h4] at h
    · exact h1 h.symm
    · exact h2 h.symm
    · exact h3 h.symm
  have E : Ext [] H0 H' := by
    refine m.ext.fresh e fun x hx => .inr ?_
    apply Classical.byContradiction; intro hlt
    have h2 := m.same x (by omega)
    rcases (hS x hx).2 with h4 | h4 | h4 <;> rw [h4] at h2 <;> rcases h0 x with h5 | h5 <;> rw [h5] at h2 <;> cases h2
  exact ⟨E, m.same.trans (H' := H) hc m.ext.size, m.fresh, (hc _ m.kb.lt).trans m.cb, kb, m.mem.ext e (fun h => ne (by simp) (by simp) (by simp) _ h m.mem.lm m.cm) (fun h => ne (by simp) (by simp) (by simp) _ h m.mem.lb m.cbb), (hc _ m.mem.lm).trans m.cm, (hc _ m.mem.lb).trans m.cbb,
    m.net.ext e hc fun x hx hl => ⟨ne (by simp) (by simp) (by simp) x hx hl, ne (by simp) (by simp) (by simp) x hx hl⟩, pl, pn, pt, hm⟩
theorem bld_105 (bc x : Nat) : pv Tryz.prog (Instr.build 105 #[(0, at0 bc), (1, .map (some x))]) = some (.agg #[at0 bc, .map (some x), .slice none 0 0]) := by kernel_rfl
theorem New_14 {H : Hp} {col : Nat → Rl} {h s w r : Int} {bm bb : Nat} {bs : List Int} {ev : Value} {Q : RT1} (gl : ∀ b, b < 5 → GlobR H col b) (hg : cellAt H ⟨0, 0, none⟩ = some ev) (m : MemC H bm bb bs) (h16 : bs.length % 16 = 0) (hcol : ∀ x, col x = .other ∨ col x = .glob)
    (h0 : confOk h s w r = false → ∀ H', Ext [] H H' → Q (.tuple #[.pointer none, ev]) H')
    (h1 : confOk h s w r = true → ∀ H' col' bf sk, Ext [] H H' → Same H col col' → FabAt H' col' bf sk (Fab.new h.toNat s.toNat w.toNat r.toNat ((List.range (bs.length / 16)).map (lineOf bs))) → Q (.tuple #[at0 bf, .nilIface]) H') :
    NCalls Tryz.prog 14 #[.agg (confC h s w r), at0 bm] H Q := by
  have he : ∃ t v, ev = .iface t v := by
    obtain ⟨_, c, t, v, kb, hc⟩ := gl 0 (by omega)
    rw [kb.cell, hc] at hg
    exact ⟨t, v, by simpa using hg.symm⟩
  have hl0 := m.l0
  have hl1 := m.l1
  refine E14 ?_
  unfold F14_0 F14_20
  refine New_i fun H1 b2 hb1 e1 s1 k1 => ?_
  replace k1 : blk H1 b2 (confC h s w r) := by simpa using k1
  unfold F14_1 F14_19
  have hg1 : cellAt H1 ⟨0, 0, none⟩ = some ev := by
    unfold cellAt at hg ⊢
    cases hh : H[0]? with
    | none => simp [hh] at hg
    | some o => rw [e1.same 0 (get_lt hh) (by simp)]; exact hg
  simp -implicitDefEqProofs only [LdA_some, k1.cells, show (confC h s w r).size = 4 from rfl, show (confC h s w r).extract 0 (0 + 4) = confC h s w r by simp [confC], Nat.zero_add, Nat.le_refl, if_true, Option.map_some, q_some]
  refine Valid_10 he hg1 fun H2 e2 => ?_
  have E2 := e1.trans e2
  cases hc : confOk h s w r with
  | false =>
    obtain ⟨t, v, rfl⟩ := he
    simp -implicitDefEqProofs
    exact h0 hc H2 E2
  | true =>
    simp -implicitDefEqProofs only [if_true, Bin_neq_26_nil, q_some, condV_bool, Bool.false_eq_true, if_false]
    have hcc := hc
    simp [confOk] at hcc
    obtain ⟨⟨⟨hh1, hh4⟩, hsh⟩, hr6, hr64⟩ := hcc
    have hso := hsh
    simp [shapeOk] at hso
    obtain ⟨hn, rfl⟩ := Int.eq_ofNat_of_zero_le (show 0 ≤ h by omega)
    obtain ⟨rn, rfl⟩ := Int.eq_ofNat_of_zero_le (show 0 ≤ r by omega)
    have k2 := k1.ext e2 (by simp)
    have m2 := m.ext0 E2
    have cc : ∀ {G : Hp}, blk G b2 (confC hn s w rn) → cellAt G ⟨b2, 0, none⟩ = some (.int .i64 hn) ∧ cellAt G ⟨b2, 1, none⟩ = some (.int .i64 s) ∧ cellAt G ⟨b2, 2, none⟩ = some (.int .i64 w) ∧ cellAt G ⟨b2, 3, none⟩ = some (.int .i64 rn) := fun k => ⟨by rw [k.cell]; rfl, by rw [k.cell]; rfl, by rw [k.cell]; rfl, by rw [k.cell]; rfl⟩
    unfold F14_2 F14_18
    refine Clone_39 m2 fun H3 cm cb e3 m3 g1 g2 => ?_
    simp -implicitDefEqProofs
    refine New_i fun H4 bf hbf e4 s4 k4 => ?_
    replace k4 : blk H4 bf #[at0 cm, .slice none 0 0, .pointer none, .slice none 0 0] := by simpa using k4
    unfold F14_3 F14_17
    have k24 := (k2.ext e3 (by simp)).ext e4 (by simp)
    obtain ⟨c0, c1, c2, c3⟩ := cc k24
    simp -implicitDefEqProofs only [Fa_some, add_mk, Nat.zero_add, q_some, Ld_some, c0, c3]
    refine New_40 (col := col) (by omega) (by omega) fun H5 bn e5 kn5 kbn hbn => ?_
    have z3 := e3.size
    have z4 := e4.size
    have z5 := e5.size
    have z2 := E2.size
    have k5 := k4.ext e5 (by simp)
    simp -implicitDefEqProofs only [Ex_tuple, List.getElem?_toArray, List.getElem?_cons_zero, List.getElem?_cons_succ, q_some, Nz_some, Fa_some, add_mk, Nat.zero_add]
    refine St_i k5 (by simp) (by simp) (by simp) fun H6 e6 s6 k6 => ?_
    replace k6 : blk H6 bf #[at0 cm, .slice none 0 0, at0 bn, .slice none 0 0] := by simpa [wrL] using k6
    have E26 : Ext [] H2 H6 := ((e3.trans e4).trans e5).fresh e6 (by simp; omega)
    have lcm := m3.lm
    have lcb := m3.lb
    obtain ⟨col6, hcol6⟩ : ∃ c : Nat → Rl, c = recol (recol (recol (recol col cm .mem) cb .bytes) bf .fab) bn .net := ⟨_, rfl⟩
    have S6 : Same H2 col col6 := by
      intro x hx; subst hcol6; simp only [recol]
      rw [if_neg (by omega), if_neg (by omega), if_neg (by omega), if_neg (by omega)]
    have mne := m3.ne
    have made0 : Made H2 H6 col col6 bf ⟨cm, cb, bn, .slice none 0 0, .slice none 0 0, []⟩ { harts := hn, room := rn } bs [] [] := by
      refine ⟨E26, S6, ⟨by omega, by show _ ≤ cm; omega, by show _ ≤ cb; omega, by show _ ≤ bn; omega⟩, ?_, k6, ((m3.ext0 e4).ext0 e5).ext e6 (by simp; omega) (by simp; omega), ?_, ?_, ?_, .inl ⟨rfl, rfl⟩, rfl, by simp, [], .inl ⟨rfl, rfl⟩, rfl, by simp⟩
      · subst hcol6; simp [recol, show ¬ bf = bn by omega]
      · subst hcol6; simp [recol, show ¬ cm = bn by omega, show ¬ cm = bf by omega, mne]
      · subst hcol6; simp [recol, show ¬ cb = bn by omega, show ¬ cb = bf by omega]
      · have hcb : col6 bn = .net := by subst hcol6; simp [recol]
        exact ⟨hcb, _, by simpa using kbn.ext e6 (by simp; omega), .inl ⟨rfl, by simp [flsC]⟩⟩
    generalize hL : bs.length / 16 = L at *
    have hbl : bs.length = 16 * L := by omega
    -- the homes
    have loop2 : ∀ (H7 : Hp) (col7 : Nat → Rl) (pv : Value) (bps : List Nat) (ps : List Part), Made H2 H7 col col7 bf ⟨cm, cb, bn, pv, .slice none 0 0, bps⟩ { harts := hn, room := rn } bs ps [] →
        ps = List.replicate hn { cache := Cache.new s.toNat w.toNat, lines := List.replicate L none } → F14_5 (at0 bm) (at0 b2) (at0 bf) H7 Q := by
      intro H7 col7 pv bps ps made7 hps
      unfold F14_5 F14_7 F14_11
      have m7 := m2.ext0 made7.ext
      have q1 : IntKind.wrap .i64 ((bs.length : Int).tdiv 16) = (L : Int) := by rw [Int.tdiv_eq_ediv_of_nonneg (by omega), w64 (by omega) (by omega)]; omega
      refine Bytes_41 m7 ?_
      simp -implicitDefEqProofs only [Bin_quo_3 _ _ _ _ (show (16 : Int) ≠ 0 by omega), q1, q_some]
      unfold F14_8 F14_9
      refine ⟨fun v62 H' => ∃ (i : Nat) (col' : Nat → Rl) (hv : Value), v62 = .int .i64 i ∧ i ≤ L ∧ Made H2 H' col col' bf ⟨cm, cb, bn, pv, hv, bps⟩ { harts := hn, room := rn } bs ps ((List.range i).map fun (j : Nat) => Home.new j hn (lineOf bs j)), fun v62 _ => L - (iv v62).toNat, ⟨0, col7, _, rfl, by omega, made7⟩, ?_⟩
      rintro v62 H8 ⟨i, col8, hv, rfl, hi, made8⟩
      unfold F14_10
      have m8 := m2.ext0 made8.ext
      have k8 := k2.ext made8.ext (by simp)
      by_cases hlt : i < L
      · have hlt' : (i : Int) < L := by omega
        simp -implicitDefEqProofs only [Bin_lss_3, hlt', decide_true, q_some, condV_bool, if_true]
        refine Line_42 m8 (by omega) fun H9 e9 => ?_
        simp -implicitDefEqProofs only [Ex_tuple, List.getElem?_toArray, List.getElem?_cons_zero, List.getElem?_cons_succ, q_some]
        refine New_i fun H10 b10 hb10 e10 s10 k10 => ?_
        refine St_i k10 (by simp [wordsC]) (by simp) (by simp [wordsC]) fun H11 e11 s11 k11 => ?_
        have k11' : blk H11 b10 (wordsC (lineOf bs i)) := by simpa [wrL, wordsC] using k11
        have z9 := e9.size
        have e8a : Ext [] H8 H11 := (e9.trans e10).fresh e11 (by simp; omega)
        have k811 := k8.ext e8a (by simp)
        have made11 := made8.step (R := fun _ => false) (Mod.of e8a (by simp)) (made8.ext.trans e8a) (Same.refl _ _) (by simp)
        have hc3 : ∀ {G : Hp}, blk G bf #[at0 cm, pv, at0 bn, hv] → cellAt G ⟨bf, 3, none⟩ = some hv := fun k => by rw [k.cell]; rfl
        obtain ⟨d0, _, _, _⟩ := cc k811
        simp -implicitDefEqProofs only [Nz_some, Fa_some, add_mk, Nat.zero_add, q_some, Ld_some, hc3 made11.kb, d0, LdA_some, k11'.cells, show (wordsC (lineOf bs i)).size = 4 from rfl, Nat.le_refl, if_true, show (wordsC (lineOf bs i)).extract 0 4 = wordsC (lineOf bs i) by simp [wordsC], Option.map_some]
        refine New_home (by omega) fun H12 hb hbs hbi e12 ha12 y1 y2 y3 => ?_
        have made12a := made11.step (R := fun _ => false) (Mod.of e12 (by simp)) (made11.ext.trans e12) (Same.refl _ _) (by simp)
        refine ⟨hc3 made12a.kb, ?_⟩
        refine Bsl_i (cells := #[at0 hb]) (by kernel_rfl) fun H13 b13 hb13 e13 s13 k13 => ?_
        have z11 := e8a.size
        have z12 := e12.size
        have z13 := e13.size
        obtain ⟨col13, hcol13⟩ : ∃ c : Nat → Rl, c = recol (recol (recol col8 hb .home) hbs .home) hbi .home := ⟨_, rfl⟩
        have S13 : Same H11 col8 col13 := by
          intro x hx; subst hcol13; simp only [recol]
          rw [if_neg (by omega), if_neg (by omega), if_neg (by omega)]
        have e1113 := e12.trans e13
        have made13 := made11.step (R := fun _ => false) (col' := col13) (Mod.of e1113 (by simp)) (made11.ext.trans e1113) S13 (by simp)
        have hr13 : HomeR H13 col13 hb (Home.new i hn (lineOf bs i)) := by
          refine ⟨hbs, hbi, ha12.ext0 e13, ?_, ?_, ?_⟩
          · subst hcol13; simp [recol, ha12.d2, ha12.d1]
          · subst hcol13; simp [recol, ha12.d3]
          · subst hcol13; simp [recol]
        refine ⟨hc3 made13.kb, ?_⟩
        obtain ⟨bhs, x1, x2, x3⟩ := made13.hm
        have hbl8 : bhs.length = i := by rw [x2]; simp
        refine append_ptr ty_97 (col := col13) (r := .homes) (l := bhs) x1 k13 (by omega) fun H14 v14 col14 hE S14 x14 => ?_
        obtain ⟨S, hS, eS⟩ := hE
        have l13 := made13.kb.lt
        have hbf : bf ∉ S := by intro hx; have := (hS bf hx).2; rw [made13.cb] at this; cases this
        have k14 := made13.kb.ext eS hbf
        obtain ⟨bx, hbx⟩ := x14.slc
        obtain ⟨ax, capx, hv14, _, _⟩ := hbx.shape
        have hcv : v14.cells = #[v14] := by rw [hv14]; rfl
        refine St_i k14 (by rw [hcv]; rfl) (by simp) (by rw [hcv, hv14]; rfl) fun H15 e15 s15 k15 => ?_
        have k15' : blk H15 bf #[at0 cm, pv, at0 bn, v14] := by rw [hcv] at k15; simpa [wrL] using k15
        have eA : Ext (bf :: S) H13 H15 := (eS.mono (by simp; intro a ha; exact .inr ha)).trans (e15.mono (by simp))
        have hSA : ∀ x ∈ bf :: S, x < H13.size ∧ (col13 x = .homes ∨ col13 x = .parts ∨ col13 x = .fab) := by
          intro x hx
          rcases List.mem_cons.1 hx with rfl | hx
          · exact ⟨l13, .inr (.inr made13.cb)⟩
          · exact ⟨(hS x hx).1, .inl (hS x hx).2⟩
        have neA : ∀ x ∈ bf :: S, x < H13.size → col13 x ≠ .home := by
          intro x hx _ h
          rcases (hSA x hx).2 with h4 | h4 | h4 <;> rw [h4] at h <;> cases h
        have c14f : col14 bf = .fab := (S14 _ l13).trans made13.cb
        have made15 := made13.upd (ps' := ps) (hs' := (List.range (i + 1)).map fun (j : Nat) => Home.new j hn (lineOf bs j)) hcol eA S14 hSA k15'
          (made13.pl.ext eA S14 (by
            intro x hx hl h
            rcases List.mem_cons.1 hx with rfl | hx
            · rw [made13.cb] at h; cases h
            · rw [(hS x hx).2] at h; cases h))
          made13.pn
          (fun j a b => (made13.pt j a b).ext eA S14 (by
            intro x hx hl
            rcases (hSA x hx).2 with h4 | h4 | h4 <;> rw [h4] <;> rfl))
          ⟨bhs ++ [hb], x14.ext e15 (Same.refl _ _) (by
            intro x hx _; simp at hx; subst hx; rw [c14f]; simp), by simp [hbl8], by
            intro j a b
            by_cases hj : j < i
            · have := (x3 j (by omega) (by simp; omega)).ext eA S14 neA
              rw [List.getElem_append_left (by omega)]
              simpa using this
            · have hji : j = i := by simp [hbl8] at a; omega
              subst hji
              rw [List.getElem_append_right (by omega)]
              simpa using hr13.ext eA S14 neA⟩
        have wi : IntKind.wrap .i64 ((i : Int) + 1) = ((i + 1 : Nat) : Int) := by rw [w64 (by omega) (by omega)]; simp
        simp -implicitDefEqProofs only [Bin_add_3, q_some, wi]
        exact ⟨trivial, trivial, trivial, trivial, ⟨i + 1, col14, v14, rfl, by omega, made15⟩, by simp; omega⟩
      · have hil : i = L := by omega
        subst hil
        have hlt' : ¬ ((i : Int) < i) := by omega
        simp -implicitDefEqProofs only [Bin_lss_3, hlt', decide_false, q_some, condV_bool, Bool.false_eq_true, if_false]
        unfold F14_6
        refine h1 hc H8 col8 bf ⟨cm, cb, bn, pv, hv, bps⟩ (E2.trans made8.ext) (Same.trans (H' := H2) (Same.refl _ _) made8.same z2) ⟨?_, made8.cb, made8.kb, ⟨bs, made8.mem, ?_⟩, made8.cm, made8.cbb, made8.net, made8.pl, ?_, ?_, ?_⟩
        · intro b hb5
          have := (gl b hb5).ext E2 (Same.refl _ _) (by simp)
          exact this.ext made8.ext made8.same (by simp)
        · simp [Fab.new]; omega
        · have := made8.pn; rw [this, hps]; simp [Fab.new]
        · intro j a b
          have hj : j < ps.length := by have := made8.pn; show j < _; omega
          have := made8.pt j a hj
          subst hps
          simpa [Fab.new] using this
        · obtain ⟨bhs, x1, x2, x3⟩ := made8.hm
          refine ⟨bhs, x1, by simpa [Fab.new] using x2, fun j a b => ?_⟩
          have := x3 j a (by rw [← x2]; exact a)
          simpa [Fab.new] using this
    unfold F14_4 F14_12 F14_16
    obtain ⟨c0', _, _, _⟩ := cc ((k24.ext e5 (by simp)).ext e6 (by simp; omega))
    simp -implicitDefEqProofs only [Fa_some, add_mk, Nat.zero_add, q_some, Ld_some, c0']
    unfold F14_13 F14_14
    refine ⟨fun v35 H' => ∃ (i : Nat) (col' : Nat → Rl) (pv : Value) (bps : List Nat), v35 = .int .i64 i ∧ i ≤ hn ∧ Made H2 H' col col' bf ⟨cm, cb, bn, pv, .slice none 0 0, bps⟩ { harts := hn, room := rn } bs (List.replicate i { cache := Cache.new s.toNat w.toNat, lines := List.replicate L none }) [], fun v35 _ => hn - (iv v35).toNat,
      ⟨0, col6, _, [], rfl, by omega, made0⟩, ?_⟩
    rintro v35 H7 ⟨i, col7, pv, bps, rfl, hi, made7⟩
    unfold F14_15
    have k7 := k2.ext made7.ext (by simp)
    obtain ⟨_, d1, d2, _⟩ := cc k7
    by_cases hlt : i < hn
    · have hlt' : (i : Int) < hn := by omega
      simp -implicitDefEqProofs only [Bin_lss_3, hlt', decide_true, q_some, condV_bool, if_true, Fa_some, add_mk, Nat.zero_add, Ld_some, d1, d2]
      have hg7 : cellAt H7 ⟨0, 0, none⟩ = some ev := by
        have e07 := E2.trans made7.ext
        unfold cellAt at hg ⊢
        cases hh : H[0]? with
        | none => simp [hh] at hg
        | some o => rw [e07.same 0 (get_lt hh) (by simp)]; exact hg
      refine New_35 (col := col7) i hg7 (fun hs => by rw [hsh] at hs; cases hs) (fun _ H8 col8 bc bsx e8 S8 ca8 y1 y2 => ?_)
      have made8 := made7.step (R := fun _ => false) (Mod.of e8 (by simp)) (made7.ext.trans e8) S8 (by simp)
      have hc1 : ∀ {G : Hp}, blk G bf #[at0 cm, pv, at0 bn, .slice none 0 0] → cellAt G ⟨bf, 1, none⟩ = some pv := fun k => by rw [k.cell]; rfl
      simp -implicitDefEqProofs only [Ex_tuple, List.getElem?_toArray, List.getElem?_cons_zero, List.getElem?_cons_succ, q_some, Nz_some, Fa_some, add_mk, Nat.zero_add, Ld_some, hc1 made8.kb]
      have e89 : Ext [] H8 (H8.push (Obj.map #[] 0)) := Ext.push _ _
      have om9 : (H8.push (Obj.map #[] 0))[H8.size]? = some (.map #[] 0) := by simp
      have sz9 : (H8.push (Obj.map #[] 0)).size = H8.size + 1 := by simp
      generalize H8.push (Obj.map #[] 0) = H9 at e89 om9 sz9
      simp -implicitDefEqProofs only [bld_105, q_some]
      refine New_i fun H10 b10 hb10 e10 s10 k10 => ?_
      replace k10 : blk H10 b10 #[at0 bc, .map (some H8.size), .slice none 0 0] := by simpa using k10
      refine Bsl_i (cells := #[at0 b10]) (by kernel_rfl) fun H11 b11 hb11 e11 s11 k11 => ?_
      have z8 := e8.size
      have z9 := e89.size
      have z10 := e10.size
      have z11 := e11.size
      have e811 : Ext [] H8 H11 := (e89.trans e10).trans e11
      obtain ⟨col11, hcol11⟩ : ∃ c : Nat → Rl, c = recol (recol col8 H8.size (.map i)) b10 (.part i) := ⟨_, rfl⟩
      have S11 : Same H8 col8 col11 := by
        intro x hx; subst hcol11; simp only [recol]
        rw [if_neg (by omega), if_neg (by omega)]
      have made11 := made8.step (R := fun _ => false) (col' := col11) (Mod.of e811 (by simp)) (made8.ext.trans e811) S11 (by simp)
      have hcp : col11 b10 = .part i := by subst hcol11; simp [recol]
      have hcmp : col11 H8.size = .map i := by subst hcol11; simp [recol, show ¬ H8.size = b10 by omega]
      have pt11 : PartAt H11 col11 i b10 { cache := Cache.new s.toNat w.toNat, lines := List.replicate L none } :=
        PartAt.fresh hcp (k10.ext e11 (by simp)) (ca8.ext0 e811 S11) hcmp (by
          rw [e11.same _ (by omega) (by simp), e10.same _ (by omega) (by simp)]; exact om9)
      have hlb : bps.length = i := by have := made11.pn; simpa using this
      refine append_ptr ty_95 (col := col11) (r := .parts) (l := bps) made11.pl k11 (by omega) fun H12 v12 col12 hE S12 x12 => ?_
      obtain ⟨S, hS, eS⟩ := hE
      have l11 := made11.kb.lt
      have hbf2 : bf ∉ S := by intro hx; have := (hS bf hx).2; rw [made11.cb] at this; cases this
      have k12 := made11.kb.ext eS hbf2
      obtain ⟨bx, hbx⟩ := x12.slc
      obtain ⟨ax, capx, hv12, _, _⟩ := hbx.shape
      have hcv : v12.cells = #[v12] := by rw [hv12]; rfl
      refine St_i k12 (by rw [hcv]; rfl) (by simp) (by rw [hcv, hv12]; rfl) fun H13 e13 s13 k13 => ?_
      have k13' : blk H13 bf #[at0 cm, v12, at0 bn, .slice none 0 0] := by rw [hcv] at k13; simpa [wrL] using k13
      have eA : Ext (bf :: S) H11 H13 := (eS.mono (by simp; intro a ha; exact .inr ha)).trans (e13.mono (by simp))
      have hSA : ∀ x ∈ bf :: S, x < H11.size ∧ (col11 x = .homes ∨ col11 x = .parts ∨ col11 x = .fab) := by
        intro x hx
        rcases List.mem_cons.1 hx with rfl | hx
        · exact ⟨l11, .inr (.inr made11.cb)⟩
        · exact ⟨(hS x hx).1, .inr (.inl (hS x hx).2)⟩
      have hSP : ∀ j, ∀ x ∈ bf :: S, x < H11.size → (col11 x).isPart j = false := by
        intro j x hx hl
        rcases (hSA x hx).2 with h4 | h4 | h4 <;> rw [h4] <;> rfl
      have c12f : col12 bf = .fab := (S12 _ l11).trans made11.cb
      have made13 := made11.upd (pv := v12) (hv := .slice none 0 0) (bps := bps ++ [b10]) (ps' := List.replicate (i + 1) { cache := Cache.new s.toNat w.toNat, lines := List.replicate L none }) (hs' := []) hcol eA S12 hSA k13'
        (x12.ext e13 (Same.refl _ _) (by intro x hx _; simp at hx; subst hx; rw [c12f]; simp))
        (by simp [hlb])
        (by
          intro j a b
          by_cases hj : j < i
          · have := (made11.pt j (by show j < bps.length; omega) (by simp; omega)).ext eA S12 (hSP j)
            rw [List.getElem_append_left (by omega)]
            simpa using this
          · have hji : j = i := by simp [hlb] at a; omega
            subst hji
            rw [List.getElem_append_right (by omega)]
            simpa using pt11.ext eA S12 (hSP j))
        ⟨[], .inl ⟨rfl, rfl⟩, rfl, by simp⟩
      have wi : IntKind.wrap .i64 ((i : Int) + 1) = ((i + 1 : Nat) : Int) := by rw [w64 (by omega) (by omega)]; simp
      simp -implicitDefEqProofs only [Bin_add_3, q_some, wi]
      exact ⟨trivial, trivial, trivial, trivial, ⟨i + 1, col12, v12, bps ++ [b10], rfl, by omega, made13⟩, by simp; omega⟩
    · have hil : i = hn := by omega
      subst hil
      have hlt' : ¬ ((i : Int) < i) := by omega
      simp -implicitDefEqProofs only [Bin_lss_3, hlt', decide_false, q_some, condV_bool, Bool.false_eq_true, if_false]
      exact loop2 H7 col7 pv bps _ made7 rfl
end YtacidjifocfhkaaGreatDoor
end Go.Proofs
namespace Go.Proofs
open Go Go.NW Go.Pm
set_option maxRecDepth 20000
set_option linter.unusedSimpArgs false
set_option linter.unusedVariables false
namespace YtacidjifocfhkaaGreatDoor
theorem Number_12 {H : Hp} {n b : Int} {Q : RT1} (hb : 0 < b ∧ b < 1000) (hq : Q (.int .i64 (n % b)) H) : NCalls Tryz.prog 12 #[.int .i64 n, .int .i64 b] H Q := by
  refine E12 ?_
  unfold F12_0
  have h1 : -b < n.tmod b ∧ n.tmod b < b := by
    constructor
    · exact Int.lt_tmod_of_pos _ hb.1
    · exact Int.tmod_lt_of_pos _ hb.1
  have w1 : IntKind.wrap .i64 (n.tmod b + b) = n.tmod b + b := w64 (by omega) (by omega)
  have h2 : (n.tmod b + b).tmod b = n % b := by
    rw [Int.tmod_eq_emod_of_nonneg (by omega), Int.add_emod_right]
    have := Int.tmod_add_mul_tdiv n b
    have h3 : n = n.tmod b + b * n.tdiv b := by omega
    conv => rhs; rw [h3]
    rw [Int.add_mul_emod_self_left]
  simp -implicitDefEqProofs only [Bin_rem_3 _ _ _ _ (show b ≠ 0 by omega), q_some, Bin_add_3, w1, h2]
  exact hq
theorem new_good {s w : Nat} (hs : 1 ≤ s ∧ s ≤ 64) (hw : 1 ≤ w ∧ w ≤ 8) : CacheOk (Cache.new s w) ∧ CacheGood (Cache.new s w) ∧ (Cache.new s w).all = [] := by
  refine ⟨⟨by simp [Cache.new]; omega, by simp [Cache.new]; omega, hw.2, ?_⟩, ⟨?_, ?_, ?_, hw.1⟩, ?_⟩
  · intro l hl; simp [Cache.new] at hl; rw [hl.2]; simp
  · intro j row hj e he; simp [Cache.new, List.getElem?_replicate] at hj; rw [hj.2] at he; simp at he
  · intro j row hj; simp [Cache.new, List.getElem?_replicate] at hj; rw [hj.2]; simp
  · intro l hl; simp [Cache.new] at hl; rw [hl.2]; simp
  · simp [Cache.new, Cache.all]
theorem FabOk.new {h s w r : Nat} {data : List Words} (hh : 1 ≤ h ∧ h ≤ 4) (hs : 1 ≤ s ∧ s ≤ 64) (hw : 1 ≤ w ∧ w ≤ 8) (hr : r ≤ 64) (hd : 1 ≤ data.length ∧ data.length ≤ 4096) (hu : ∀ d ∈ data, U32s d) : FabOk (Fab.new h s w r data) := by
  obtain ⟨c1, c2, c3⟩ := new_good hs hw
  refine ⟨by simp [Fab.new]; omega, by simp [Fab.new]; omega, by simp [Fab.new], by simp [Fab.new]; omega, by simp [Fab.new]; omega, fun i hi => ?_, by simp [Fab.new], by simpa [Fab.new] using hr, by simp [Fab.new], by simp [Fab.new], fun i hi => ?_⟩
  · simp only [Fab.new, List.length_mapIdx, List.getElem_replicate]
    refine ⟨hd.2, c1, c2, by simp, ?_, by rw [c3]; simp, List.Pairwise.nil, by simp, ?_⟩
    · intro e he; rw [c3] at he; simp at he
    · intro k l hl; simp [Part.line, List.getD_eq_getElem?_getD, List.getElem?_replicate] at hl
      split at hl <;> simp at hl
  · simp only [Fab.new, List.getElem_mapIdx, List.length_replicate]
    refine ⟨⟨by show h ≤ 1000; omega, by simp [Home.new], by simp [Home.new], ⟨Int.le_refl _, by show (-1 : Int) < h; omega⟩, fun hb => (by cases hb), fun ha => (ha rfl).elim⟩, rfl, rfl, hu _ (List.getElem_mem _), U32s.zero, fun _ => ⟨rfl, by simp [Home.new]⟩⟩
theorem lineOf_u32 {bs : List Int} (h : Bytes bs) (i : Nat) : U32s (lineOf bs i) := by
  have g : ∀ o, U32 (getL bs o 4) := fun o => by have := getL_rng h o 4; exact ⟨this.1, by simpa using this.2⟩
  exact ⟨g _, g _, g _, g _⟩
theorem confOk_cases {h s w r : Int} (hc : confOk h s w r = true) : 1 ≤ h.toNat ∧ h.toNat ≤ 4 ∧ 1 ≤ s.toNat ∧ s.toNat ≤ 64 ∧ 1 ≤ w.toNat ∧ w.toNat ≤ 8 ∧ r.toNat ≤ 64 ∧ 6 * h.toNat ≤ r.toNat := by
  simp [confOk, shapeOk] at hc
  omega
/-- where the statements begin: no memory but errors and arguments -/
structure Start (H : Hp) (col : Nat → Rl) : Prop where
  gl : ∀ b, b < 5 → GlobR H col b
  col : ∀ x, col x = .other ∨ col x = .glob
theorem Start.ev {H : Hp} {col : Nat → Rl} (s : Start H col) : ∃ ev, cellAt H ⟨0, 0, none⟩ = some ev := by
  obtain ⟨_, c, t, v, kb, hc⟩ := s.gl 0 (by omega)
  exact ⟨_, by rw [kb.cell]; exact hc⟩
theorem Start.ext {H H' : Hp} {col : Nat → Rl} (s : Start H col) (e : Ext [] H H') : Start H' col := ⟨fun b hb => (s.gl b hb).ext e (Same.refl _ _) (by simp), s.col⟩
/-- what is not the fabric's, stays -/
theorem Start.stay {H H' : Hp} {col : Nat → Rl} (s : Start H col) (m : Mod Rl.mine H col H') : Ext [] H H' :=
  ⟨m.size, fun x hx _ => m.same x hx (by rcases s.col x with h | h <;> rw [h] <;> rfl)⟩
theorem made_22 {H : Hp} {col : Nat → Rl} {h s w r : Int} {n bw : Nat} {wv : Value} {ws : List Int} {Q : RT1} (st : Start H col) (hc : confOk h s w r = true) (hn : 16 ≤ n ∧ n ≤ 65536 ∧ n % 16 = 0) (hs : Slc H 1 wv (u32sC ws) bw) (hl : 4 * ws.length ≤ n) (hw : ∀ w ∈ ws, U32 w)
    (hq : ∀ H' col' bf sk, Ext [] H H' → Same H col col' → FabAt H' col' bf sk (Fab.new h.toNat s.toNat w.toNat r.toNat ((List.range (n / 16)).map (lineOf (memNew n ws)))) → FabOk (Fab.new h.toNat s.toNat w.toNat r.toNat ((List.range (n / 16)).map (lineOf (memNew n ws)))) → Q (.tuple #[at0 bf, .bool true]) H') :
    NCalls Tryz.prog 22 #[.agg (confC h s w r), .int .i64 n, wv] H Q := by
  refine E22 ?_
  unfold F22_0
  refine New_i fun H1 b1 hb1 e1 s1 k1 => ?_
  replace k1 : blk H1 b1 (confC h s w r) := by simpa using k1
  refine New_13 hn (hs.ext e1 (by simp)) hl hw fun H2 bm bb e2 m2 g1 g2 => ?_
  have k2 := k1.ext e2 (by simp)
  have E2 := e1.trans e2
  have st2 := st.ext E2
  obtain ⟨ev, hev⟩ := st2.ev
  have hml := memNew_len n ws
  have he30 : Bin Tryz.prog H2 .eql 30 true (at0 bm) (.pointer none) = some (.bool false) := by kernel_rfl
  simp -implicitDefEqProofs only [Ex_tuple, List.getElem?_toArray, List.getElem?_cons_zero, List.getElem?_cons_succ, q_some, he30, gd_bool, if_true, Bin_neq_26_nil, Pk_bool, Bool.false_eq_true, if_false, condV_bool, LdA_some, k2.cells, show (confC h s w r).size = 4 from rfl, show (confC h s w r).extract 0 (0 + 4) = confC h s w r by simp [confC], Nat.zero_add, Nat.le_refl, Option.map_some]
  have hcf := confOk_cases hc
  refine New_14 st2.gl hev m2 (by rw [hml]; omega) st2.col (fun hf => by rw [hc] at hf; cases hf) (fun _ H3 col3 bf sk e3 S3 fa3 => ?_)
  have he33 : ∀ G, Bin Tryz.prog G .neq 33 true (at0 bf) (.pointer none) = some (.bool true) := by intro G; kernel_rfl
  simp -implicitDefEqProofs only [Ex_tuple, List.getElem?_toArray, List.getElem?_cons_zero, List.getElem?_cons_succ, q_some, he33, gd_bool, if_true, Bin_eql_26_nil, Pk_bool]
  rw [hml] at fa3
  have z2 := E2.size
  refine hq H3 col3 bf sk (E2.trans e3) (fun x hx => S3 x (by omega)) fa3 (FabOk.new ⟨hcf.1, hcf.2.1⟩ ⟨hcf.2.2.1, hcf.2.2.2.1⟩ ⟨hcf.2.2.2.2.1, hcf.2.2.2.2.2.1⟩ hcf.2.2.2.2.2.2.1 (by simp; omega) ?_)
  intro d hd
  simp only [List.mem_map] at hd
  obtain ⟨i, _, rfl⟩ := hd
  exact lineOf_u32 (memNew_bytes n ws) i
end YtacidjifocfhkaaGreatDoor
end Go.Proofs
namespace Go.Pm
set_option maxRecDepth 100000
set_option linter.unusedVariables false
def stl (f : Fab) : Fab := match f.settle 60 with | some g => g.1 | none => f
def stlOk (f : Fab) : Bool := match f.settle 60 with | some g => g.2 | none => false
def stlIs (f : Fab) : Bool := (f.settle 60).isSome
theorem stl_eq {f : Fab} (h : stlIs f = true) : f.settle 60 = some (stl f, stlOk f) := by
  unfold stlIs at h
  unfold stl stlOk
  cases hs : f.settle 60 with
  | none => rw [hs] at h; cases h
  | some g => rfl
def askTo (w : Bool) (f : Fab) : Nat → Fab
  | 0 => f
  | k + 1 => ((askTo w f k).ask k 0 w).1
def readTo (f : Fab) : Nat → Fab
  | 0 => f
  | k + 1 => ((readTo f k).read k 0 4).1
def data64 (ws : List Int) : List Words := (List.range 4).map (lineOf (memNew 64 ws))
namespace First
def g0 : Fab := Fab.new 2 1 1 12 (data64 [])
def g1 : Fab := (g0.ask 0 0 true).1
def g2 : Fab := stl g1
def g3 : Fab := (g2.write 0 0 4 7).1
def g4 : Fab := (g3.read 1 0 4).1
def g5 : Fab := (g4.ask 1 0 false).1
def g6 : Fab := stl g5
theorem a0 : (g0.ask 0 0 true).2 = true := by kernel_rfl
theorem s1 : stlIs g1 = true := by kernel_rfl
theorem o1 : stlOk g1 = true := by kernel_rfl
theorem w2 : (g2.write 0 0 4 7).2 = true := by kernel_rfl
theorem r3 : (g3.read 1 0 4).2.2 = false := by kernel_rfl
theorem a4 : (g4.ask 1 0 false).2 = true := by kernel_rfl
theorem s5 : stlIs g5 = true := by kernel_rfl
theorem r6 : (g6.read 1 0 4).2 = (7, true) := by kernel_rfl
end First
namespace Rd
def f0 (n : Nat) : Fab := Fab.new n 2 2 (6 * n) (data64 [5])
def f1 (n : Nat) : Fab := stl (askTo false (f0 n) n)
def f2 (n : Nat) : Fab := readTo (f1 n) n
def f3 (n : Nat) (v : Int) : Fab := ((f2 n).write ((n : Int) - 1) 0 4 v).1
def f4 (n : Nat) (v : Int) : Fab := ((f3 n v).ask ((n : Int) - 1) 0 true).1
def f5 (n : Nat) (v : Int) : Fab := ((stl (f4 n v)).write ((n : Int) - 1) 0 4 v).1
def f6 (n : Nat) (v : Int) : Fab := if n = 1 then f3 n v else f5 n v
end Rd
end Go.Pm
