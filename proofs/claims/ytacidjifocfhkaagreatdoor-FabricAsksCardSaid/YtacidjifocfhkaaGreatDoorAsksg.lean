/-
  PROVED: for every config, every number of bytes, hart and line, and either way of asking, FabricAsks returns true, and all arguments read afterwards as they read before. CONDITIONS: the eleven errors of package api that the row lists read, when the call begins, as the program's text lays them (the card ties them); nothing else is asked.
-/
import Derived.Test.YtacidjifocfhkaaGreatDoorAsksf
import Derived.KernelRfl
import Derived.Test.YtacidjifocfhkaaGreatDoorRows
import Derived.ProofKit
import Derived.LaidMore
import Derived.LaidLaws
import Derived.OpenShut
import Derived.Stop.Joined
import Derived.Stop.LaidErr
import Derived.Carry
import Derived.Lib.SmallJoins
import Derived.Test.YtacidjifocfhkaaGreatDoorTie
import Derived.Test.YtacidjifocfhkaaGreatDoorCards
import Derived.SevenTiedAt
namespace Go.Proofs
open Go Go.NW Go.Pm
set_option maxRecDepth 20000
set_option linter.unusedSimpArgs false
set_option linter.unusedVariables false
namespace YtacidjifocfhkaaGreatDoor
def confC (h s w r : Int) : Array Value := #[.int .i64 h, .int .i64 s, .int .i64 w, .int .i64 r]
def confOk (h s w r : Int) : Bool := decide (1 ≤ h ∧ h ≤ 4) && shapeOk s w && decide (6 * h ≤ r ∧ r ≤ 64)
theorem Valid_10 {H : Hp} {h s w r : Int} {ev : Value} {Q : Value → Hp → Prop} (he : ∃ t v, ev = .iface t v) (hg : cellAt H ⟨0, 0, none⟩ = some ev)
    (hq : ∀ H', Ext [] H H' → Q (if confOk h s w r then .nilIface else ev) H') : NCalls Tryz.prog 10 #[.agg (confC h s w r)] H Q := by
  obtain ⟨t, v, rfl⟩ := he
  refine E10 ?_
  unfold F10_0
  refine New_i fun H1 b1 hb1 e1 s1 k1 => ?_
  replace k1 : blk H1 b1 (confC h s w r) := by simpa using k1
  have hg1 : cellAt H1 ⟨0, 0, none⟩ = some (.iface t v) := by
    unfold cellAt at hg ⊢
    cases hh : H[0]? with
    | none => simp [hh] at hg
    | some o => rw [e1.same 0 (get_lt hh) (by simp)]; exact hg
  have c : ∀ {G : Hp}, blk G b1 (confC h s w r) → cellAt G ⟨b1, 0, none⟩ = some (.int .i64 h) ∧ cellAt G ⟨b1, 1, none⟩ = some (.int .i64 s) ∧ cellAt G ⟨b1, 2, none⟩ = some (.int .i64 w) ∧ cellAt G ⟨b1, 3, none⟩ = some (.int .i64 r) := fun k => ⟨by rw [k.cell]; rfl, by rw [k.cell]; rfl, by rw [k.cell]; rfl, by rw [k.cell]; rfl⟩
  obtain ⟨c0, c1, c2, c3⟩ := c k1
  simp -implicitDefEqProofs only [Fa_some, add_mk, Nat.zero_add, q_some, Ld_some, c1, c2]
  refine New_35 (col := fun _ => .other) 0 hg1 (fun hs => ?_) (fun hs H2 col2 bc bs e2 _ _ _ _ => ?_)
  · by_cases h1 : h < 1
    · simp -implicitDefEqProofs [c0, h1, hg1]
      exact fin (hq H1 e1) (by rw [if_neg (by simp [confOk, hs])])
    · by_cases h4 : 4 < h
      · simp -implicitDefEqProofs [c0, h1, h4, hg1]
        exact fin (hq H1 e1) (by rw [if_neg (by simp [confOk, hs])])
      · simp -implicitDefEqProofs [c0, h1, h4, hg1]
        exact fin (hq H1 e1) (by rw [if_neg (by simp [confOk, hs])])
  · obtain ⟨d0, d1, d2, d3⟩ := c (k1.ext e2 (by simp))
    have hg2 : cellAt H2 ⟨0, 0, none⟩ = some (.iface t v) := by
      unfold cellAt at hg1 ⊢
      cases hh : H1[0]? with
      | none => simp [hh] at hg1
      | some o => rw [e2.same 0 (get_lt hh) (by simp)]; exact hg1
    have E2 := e1.trans e2
    by_cases h1 : h < 1
    · simp -implicitDefEqProofs [d0, h1, hg2]
      exact fin (hq H2 E2) (by rw [if_neg (by simp [confOk]; omega)])
    by_cases h4 : 4 < h
    · simp -implicitDefEqProofs [d0, h1, h4, hg2]
      exact fin (hq H2 E2) (by rw [if_neg (by simp [confOk]; omega)])
    have w6 : IntKind.wrap .i64 (6 * h) = 6 * h := w64 (by omega) (by omega)
    by_cases h6 : r < 6 * h
    · simp -implicitDefEqProofs [d0, d3, h1, h4, hg2, w6, h6]
      exact fin (hq H2 E2) (by rw [if_neg (by simp [confOk]; omega)])
    by_cases h7 : 64 < r
    · simp -implicitDefEqProofs [d0, d3, h1, h4, hg2, w6, h6, h7]
      exact fin (hq H2 E2) (by rw [if_neg (by simp [confOk]; omega)])
    simp -implicitDefEqProofs [d0, d3, h1, h4, hg2, w6, h6, h7]
    exact fin (hq H2 E2) (by rw [if_pos (by simp [confOk, hs]; omega)])
theorem PartAt.fresh {H : Hp} {col : Nat → Rl} {i bp bc bs bm n : Nat} {c : Cache} (cb : col bp = .part i) (kb : blk H bp #[at0 bc, .map (some bm), .slice none 0 0]) (kc : CacheAt H col i bc bs c) (cm : col bm = .map i) (ob : H[bm]? = some (.map #[] 0)) :
    PartAt H col i bp { cache := c, lines := List.replicate n none } := by
  refine ⟨cb, bc, bs, bm, _, [], fun _ => 0, kb, kc, ⟨cm, by rw [ob]; rfl, List.nodup_nil, fun k => ?_, fun k l hk hl => ?_⟩, .inl ⟨rfl, rfl⟩⟩
  · constructor
    · intro h; simp at h
    · rintro ⟨_, l, hl⟩
      rw [List.getElem?_replicate] at hl
      split at hl <;> simp at hl
  · rw [List.getElem?_replicate] at hl
    split at hl <;> simp at hl
/-- what was made so far -/
structure Made (H0 H : Hp) (col0 col : Nat → Rl) (bf : Nat) (s : Sk) (net : Net) (bs : List Int) (ps : List Part) (hs : List Home) : Prop where
  ext : Ext [] H0 H
  same : Same H0 col0 col
  fresh : H0.size ≤ bf ∧ H0.size ≤ s.bm ∧ H0.size ≤ s.bb ∧ H0.size ≤ s.bn
  cb : col bf = .fab
  kb : blk H bf #[at0 s.bm, s.pv, at0 s.bn, s.hv]
  mem : MemC H s.bm s.bb bs
  cm : col s.bm = .mem
  cbb : col s.bb = .bytes
  net : NetAt H col s.bn net
  pl : SlR H col .parts 1 s.pv (s.bps.map fun b => [at0 b])
  pn : s.bps.length = ps.length
  pt : ∀ i (h1 : i < s.bps.length) (h2 : i < ps.length), PartAt H col i s.bps[i] ps[i]
  hm : ∃ bhs : List Nat, SlR H col .homes 1 s.hv (bhs.map fun b => [at0 b]) ∧ bhs.length = hs.length ∧ ∀ i (h1 : i < bhs.length) (h2 : i < hs.length), HomeR H col bhs[i] hs[i]
theorem Made.step {R : Rl → Bool} {H0 H H' : Hp} {col0 col col' : Nat → Rl} {bf : Nat} {s : Sk} {net : Net} {bs : List Int} {ps : List Part} {hs : List Home} (m : Made H0 H col0 col bf s net bs ps hs) (e : Mod R H col H') (e0 : Ext [] H0 H') (hc : Same H col col') (hR : ∀ r, R r = true → r = .other) :
    Made H0 H' col0 col' bf s net bs ps hs := by
  have hf : ∀ r, r ≠ .other → R r = false := fun r hr => by cases h : R r with | false => rfl | true => exact (hr (hR r h)).elim
  have nm : ∀ {r : Rl}, r ≠ .other → ∀ x ∈ setOf R H col, x < H.size → col x ≠ r := fun hr x hx _ => nm_of (hf _ hr) hx
  have l0 := m.kb.lt
  obtain ⟨bhs, h1, h2, h3⟩ := m.hm
  refine ⟨e0, m.same.trans (H' := H) hc m.ext.size, m.fresh, (hc _ l0).trans m.cb, m.kb.ext e.ext fun hm => nm (by simp) _ hm l0 m.cb, m.mem.ext e.ext (fun hm => nm (by simp) _ hm m.mem.lm m.cm) (fun hm => nm (by simp) _ hm m.mem.lb m.cbb), (hc _ m.mem.lm).trans m.cm, (hc _ m.mem.lb).trans m.cbb, m.net.ext e.ext hc fun x hx hl => ⟨nm (by simp) x hx hl, nm (by simp) x hx hl⟩, m.pl.ext e.ext hc (nm (by simp)), m.pn, fun i a b => (m.pt i a b).mod e hc fun r hr => by rw [hR r hr]; rfl, bhs, h1.ext e.ext hc (nm (by simp)), h2, fun i a b => (h3 i a b).ext e.ext hc (nm (by simp))⟩
end YtacidjifocfhkaaGreatDoor
end Go.Proofs
namespace Go.Proofs
open Go Go.NW Go.Pm
set_option maxRecDepth 20000
set_option linter.unusedSimpArgs false
set_option linter.unusedVariables false
namespace YtacidjifocfhkaaGreatDoor
def ptrsC (l : List Nat) : List (List Value) := l.map fun b => [at0 b]
theorem ptrsC_len (l : List Nat) : (ptrsC l).length = l.length := by simp [ptrsC]
theorem ptrsC_one {l : List Nat} : ∀ x ∈ ptrsC l, x.all one = true := by
  intro x hx
  simp only [ptrsC, List.mem_map] at hx
  obtain ⟨y, _, rfl⟩ := hx
  rfl
/-- one pointer more in a row of them -/
theorem append_ptr {T E : Nat} (ty : SlTy Tryz.prog T E 1) {H : Hp} {col : Nat → Rl} {r : Rl} {v : Value} {l : List Nat} {b b1 : Nat} {K : Value → Hp → Prop} (hs : SlR H col r 1 v (ptrsC l)) (kb : blk H b1 #[at0 b]) (hl : l.length ≤ 2 ^ 20)
    (hK : ∀ H' v' col', (∃ S, (∀ x ∈ S, x < H.size ∧ col x = r) ∧ Ext S H H') → Same H col col' → SlR H' col' r 1 v' (ptrsC (l ++ [b])) → K v' H') :
    dm Tryz.prog (Builtin.append_ #[T, T] 0 #[v, .slice (some ⟨b1, 0, none⟩) 1 1]) H K := by
  obtain ⟨bo, hsl, hbo⟩ := hs.blk1 H.size
  have hx : Slc H 1 (.slice (some ⟨b1, 0, none⟩) 1 1) (ptrsC [b]) b1 := Slc.of (xs := ptrsC [b]) (c := _) (by simp [ptrsC]) kb (by simp [ptrsC]) (by simp) (by simp [ptrsC])
  refine append_i ty hsl hx ptrsC_one (by rw [ptrsC_len, ptrsC_len]; simp; omega) fun H1 v1 b2 e1 k1 hb2 => ?_
  have ek : ptrsC l ++ ptrsC [b] = ptrsC (l ++ [b]) := by simp [ptrsC]
  rw [ek] at k1
  have hlt := k1.lt (by simp [ptrsC])
  have hE : ∃ S, (∀ x ∈ S, x < H.size ∧ col x = r) ∧ Ext S H H1 := by
    rcases hbo with ⟨h1, h2⟩ | ⟨h1, _⟩
    · exact ⟨[bo], by intro x hx; simp at hx; subst hx; exact ⟨h1, h2⟩, e1⟩
    · refine ⟨[], by simp, ?_⟩
      exact ((Ext.refl [] H).fresh e1 (by simp; omega))
  by_cases hf : b2 < H.size
  · have : b2 = bo := by omega
    subst this
    have hc : col b2 = r := by rcases hbo with h | h; exact h.2; omega
    exact hK H1 v1 col hE (Same.refl _ _) (.inr ⟨b2, hlt, hc, k1⟩)
  · exact hK H1 v1 (recol col b2 r) hE (Same.recol (by omega)) (.inr ⟨b2, hlt, by simp [recol], k1⟩)
theorem Made.upd {H0 H H' : Hp} {col0 col col' : Nat → Rl} {bf : Nat} {s : Sk} {net : Net} {bs : List Int} {ps ps' : List Part} {hs hs' : List Home} {S : List Nat} {pv hv : Value} {bps : List Nat} (m : Made H0 H col0 col bf s net bs ps hs) (h0 : ∀ x, col0 x = .other ∨ col0 x = .glob) (e : Ext S H H') (hc : Same H col col')
    (hS : ∀ x ∈ S, x < H.size ∧ (col x = .homes ∨ col x = .parts ∨ col x = .fab)) (kb : blk H' bf #[at0 s.bm, pv, at0 s.bn, hv]) (pl : SlR H' col' .parts 1 pv (bps.map fun b => [at0 b])) (pn : bps.length = ps'.length)
    (pt : ∀ i (h1 : i < bps.length) (h2 : i < ps'.length), PartAt H' col' i bps[i] ps'[i]) (hm : ∃ bhs : List Nat, SlR H' col' .homes 1 hv (bhs.map fun b => [at0 b]) ∧ bhs.length = hs'.length ∧ ∀ i (h1 : i < bhs.length) (h2 : i < hs'.length), HomeR H' col' bhs[i] hs'[i]) :
    Made H0 H' col0 col' bf { s with pv := pv, hv := hv, bps := bps } net bs ps' hs' := by
  have ne : ∀ {r : Rl}, r ≠ .homes → r ≠ .parts → r ≠ .fab → ∀ x ∈ S, x < H.size → col x ≠ r := by
    intro r h1 h2 h3 x hx _ h
    rcases (hS x hx).2 with h4 | h4 | h4 <;> rw [h4] at h
    · exact h1 h.symm
    · exact h2 h.symm
    · exact h3 h.symm
  have E : Ext [] H0 H' := by
    refine m.ext.fresh e fun x hx => .inr ?_
    apply Classical.byContradiction; intro hlt
    have h2 := m.same x (by omega)
    rcases (hS x hx).2 with h4 | h4 | h4 <;> rw [h4] at h2 <;> rcases h0 x with h5 | h5 <;> rw [h5] at h2 <;> cases h2
  exact ⟨E, m.same.trans (H' := H) hc m.ext.size, m.fresh, (hc _ m.kb.lt).trans m.cb, kb, m.mem.ext e (fun h => ne (by simp) (by simp) (by simp) _ h m.mem.lm m.cm) (fun h => ne (by simp) (by simp) (by simp) _ h m.mem.lb m.cbb), (hc _ m.mem.lm).trans m.cm, (hc _ m.mem.lb).trans m.cbb,
    m.net.ext e hc fun x hx hl => ⟨ne (by simp) (by simp) (by simp) x hx hl, ne (by simp) (by simp) (by simp) x hx hl⟩, pl, pn, pt, hm⟩
theorem bld_105 (bc x : Nat) : pv Tryz.prog (Instr.build 105 #[(0, at0 bc), (1, .map (some x))]) = some (.agg #[at0 bc, .map (some x), .slice none 0 0]) := by kernel_rfl
theorem New_14 {H : Hp} {col : Nat → Rl} {h s w r : Int} {bm bb : Nat} {bs : List Int} {ev : Value} {Q : Value → Hp → Prop} (gl : ∀ b, b < 5 → GlobR H col b) (hg : cellAt H ⟨0, 0, none⟩ = some ev) (m : MemC H bm bb bs) (h16 : bs.length % 16 = 0) (hcol : ∀ x, col x = .other ∨ col x = .glob)
    (h0 : confOk h s w r = false → ∀ H', Ext [] H H' → Q (.tuple #[.pointer none, ev]) H')
    (h1 : confOk h s w r = true → ∀ H' col' bf sk, Ext [] H H' → Same H col col' → FabAt H' col' bf sk (Fab.new h.toNat s.toNat w.toNat r.toNat ((List.range (bs.length / 16)).map (lineOf bs))) → Q (.tuple #[at0 bf, .nilIface]) H') :
    NCalls Tryz.prog 14 #[.agg (confC h s w r), at0 bm] H Q := by
  have he : ∃ t v, ev = .iface t v := by
    obtain ⟨_, c, t, v, kb, hc⟩ := gl 0 (by omega)
    rw [kb.cell, hc] at hg
    exact ⟨t, v, by simpa using hg.symm⟩
  have hl0 := m.l0
  have hl1 := m.l1
  refine E14 ?_
  unfold F14_0 F14_20
  refine New_i fun H1 b2 hb1 e1 s1 k1 => ?_
  replace k1 : blk H1 b2 (confC h s w r) := by simpa using k1
  unfold F14_1 F14_19
  have hg1 : cellAt H1 ⟨0, 0, none⟩ = some ev := by
    unfold cellAt at hg ⊢
    cases hh : H[0]? with
    | none => simp [hh] at hg
    | some o => rw [e1.same 0 (get_lt hh) (by simp)]; exact hg
  simp -implicitDefEqProofs only [LdA_some, k1.cells, show (confC h s w r).size = 4 from rfl, show (confC h s w r).extract 0 (0 + 4) = confC h s w r by simp [confC], Nat.zero_add, Nat.le_refl, if_true, Option.map_some, q_some]
  refine Valid_10 he hg1 fun H2 e2 => ?_
  have E2 := e1.trans e2
  cases hc : confOk h s w r with
  | false =>
    obtain ⟨t, v, rfl⟩ := he
    simp -implicitDefEqProofs
    exact h0 hc H2 E2
  | true =>
    simp -implicitDefEqProofs only [if_true, Bin_neq_26_nil, q_some, condV_bool, Bool.false_eq_true, if_false]
    have hcc := hc
    simp [confOk] at hcc
    obtain ⟨⟨⟨hh1, hh4⟩, hsh⟩, hr6, hr64⟩ := hcc
    have hso := hsh
    simp [shapeOk] at hso
    obtain ⟨hn, rfl⟩ := Int.eq_ofNat_of_zero_le (show 0 ≤ h by omega)
    obtain ⟨rn, rfl⟩ := Int.eq_ofNat_of_zero_le (show 0 ≤ r by omega)
    have k2 := k1.ext e2 (by simp)
    have m2 := m.ext0 E2
    have cc : ∀ {G : Hp}, blk G b2 (confC hn s w rn) → cellAt G ⟨b2, 0, none⟩ = some (.int .i64 hn) ∧ cellAt G ⟨b2, 1, none⟩ = some (.int .i64 s) ∧ cellAt G ⟨b2, 2, none⟩ = some (.int .i64 w) ∧ cellAt G ⟨b2, 3, none⟩ = some (.int .i64 rn) := fun k => ⟨by rw [k.cell]; rfl, by rw [k.cell]; rfl, by rw [k.cell]; rfl, by rw [k.cell]; rfl⟩
    unfold F14_2 F14_18
    refine Clone_39 m2 fun H3 cm cb e3 m3 g1 g2 => ?_
    simp -implicitDefEqProofs
    refine New_i fun H4 bf hbf e4 s4 k4 => ?_
    replace k4 : blk H4 bf #[at0 cm, .slice none 0 0, .pointer none, .slice none 0 0] := by simpa using k4
    unfold F14_3 F14_17
    have k24 := (k2.ext e3 (by simp)).ext e4 (by simp)
    obtain ⟨c0, c1, c2, c3⟩ := cc k24
    simp -implicitDefEqProofs only [Fa_some, add_mk, Nat.zero_add, q_some, Ld_some, c0, c3]
    refine New_40 (col := col) (by omega) (by omega) fun H5 bn e5 kn5 kbn hbn => ?_
    have z3 := e3.size
    have z4 := e4.size
    have z5 := e5.size
    have z2 := E2.size
    have k5 := k4.ext e5 (by simp)
    simp -implicitDefEqProofs only [Ex_tuple, List.getElem?_toArray, List.getElem?_cons_zero, List.getElem?_cons_succ, q_some, Nz_some, Fa_some, add_mk, Nat.zero_add]
    refine St_i k5 (by simp) (by simp) (by simp) fun H6 e6 s6 k6 => ?_
    replace k6 : blk H6 bf #[at0 cm, .slice none 0 0, at0 bn, .slice none 0 0] := by simpa [wrL] using k6
    have E26 : Ext [] H2 H6 := ((e3.trans e4).trans e5).fresh e6 (by simp; omega)
    have lcm := m3.lm
    have lcb := m3.lb
    obtain ⟨col6, hcol6⟩ : ∃ c : Nat → Rl, c = recol (recol (recol (recol col cm .mem) cb .bytes) bf .fab) bn .net := ⟨_, rfl⟩
    have S6 : Same H2 col col6 := by
      intro x hx; subst hcol6; simp only [recol]
      rw [if_neg (by omega), if_neg (by omega), if_neg (by omega), if_neg (by omega)]
    have mne := m3.ne
    have made0 : Made H2 H6 col col6 bf ⟨cm, cb, bn, .slice none 0 0, .slice none 0 0, []⟩ { harts := hn, room := rn } bs [] [] := by
      refine ⟨E26, S6, ⟨by omega, by show _ ≤ cm; omega, by show _ ≤ cb; omega, by show _ ≤ bn; omega⟩, ?_, k6, ((m3.ext0 e4).ext0 e5).ext e6 (by simp; omega) (by simp; omega), ?_, ?_, ?_, .inl ⟨rfl, rfl⟩, rfl, by simp, [], .inl ⟨rfl, rfl⟩, rfl, by simp⟩
      · subst hcol6; simp [recol, show ¬ bf = bn by omega]
      · subst hcol6; simp [recol, show ¬ cm = bn by omega, show ¬ cm = bf by omega, mne]
      · subst hcol6; simp [recol, show ¬ cb = bn by omega, show ¬ cb = bf by omega]
      · have hcb : col6 bn = .net := by subst hcol6; simp [recol]
        exact ⟨hcb, _, by simpa using kbn.ext e6 (by simp; omega), .inl ⟨rfl, by simp [flsC]⟩⟩
    generalize hL : bs.length / 16 = L at *
    have hbl : bs.length = 16 * L := by omega
    -- the homes
    have loop2 : ∀ (H7 : Hp) (col7 : Nat → Rl) (pv : Value) (bps : List Nat) (ps : List Part), Made H2 H7 col col7 bf ⟨cm, cb, bn, pv, .slice none 0 0, bps⟩ { harts := hn, room := rn } bs ps [] →
        ps = List.replicate hn { cache := Cache.new s.toNat w.toNat, lines := List.replicate L none } → F14_5 (at0 bm) (at0 b2) (at0 bf) H7 Q := by
      intro H7 col7 pv bps ps made7 hps
      unfold F14_5 F14_7 F14_11
      have m7 := m2.ext0 made7.ext
      have q1 : IntKind.wrap .i64 ((bs.length : Int).tdiv 16) = (L : Int) := by rw [Int.tdiv_eq_ediv_of_nonneg (by omega), w64 (by omega) (by omega)]; omega
      refine Bytes_41 m7 ?_
      simp -implicitDefEqProofs only [Bin_quo_3 _ _ _ _ (show (16 : Int) ≠ 0 by omega), q1, q_some]
      unfold F14_8 F14_9
      refine ⟨fun v62 H' => ∃ (i : Nat) (col' : Nat → Rl) (hv : Value), v62 = .int .i64 i ∧ i ≤ L ∧ Made H2 H' col col' bf ⟨cm, cb, bn, pv, hv, bps⟩ { harts := hn, room := rn } bs ps ((List.range i).map fun (j : Nat) => Home.new j hn (lineOf bs j)), fun v62 _ => L - (iv v62).toNat, ⟨0, col7, _, rfl, by omega, made7⟩, ?_⟩
      rintro v62 H8 ⟨i, col8, hv, rfl, hi, made8⟩
      unfold F14_10
      have m8 := m2.ext0 made8.ext
      have k8 := k2.ext made8.ext (by simp)
      by_cases hlt : i < L
      · have hlt' : (i : Int) < L := by omega
        simp -implicitDefEqProofs only [Bin_lss_3, hlt', decide_true, q_some, condV_bool, if_true]
        refine Line_42 m8 (by omega) fun H9 e9 => ?_
        simp -implicitDefEqProofs only [Ex_tuple, List.getElem?_toArray, List.getElem?_cons_zero, List.getElem?_cons_succ, q_some]
        refine New_i fun H10 b10 hb10 e10 s10 k10 => ?_
        refine St_i k10 (by simp [wordsC]) (by simp) (by simp [wordsC]) fun H11 e11 s11 k11 => ?_
        have k11' : blk H11 b10 (wordsC (lineOf bs i)) := by simpa [wrL, wordsC] using k11
        have z9 := e9.size
        have e8a : Ext [] H8 H11 := (e9.trans e10).fresh e11 (by simp; omega)
        have k811 := k8.ext e8a (by simp)
        have made11 := made8.step (R := fun _ => false) (Mod.of e8a (by simp)) (made8.ext.trans e8a) (Same.refl _ _) (by simp)
        have hc3 : ∀ {G : Hp}, blk G bf #[at0 cm, pv, at0 bn, hv] → cellAt G ⟨bf, 3, none⟩ = some hv := fun k => by rw [k.cell]; rfl
        obtain ⟨d0, _, _, _⟩ := cc k811
        simp -implicitDefEqProofs only [Nz_some, Fa_some, add_mk, Nat.zero_add, q_some, Ld_some, hc3 made11.kb, d0, LdA_some, k11'.cells, show (wordsC (lineOf bs i)).size = 4 from rfl, Nat.le_refl, if_true, show (wordsC (lineOf bs i)).extract 0 4 = wordsC (lineOf bs i) by simp [wordsC], Option.map_some]
        refine New_home (by omega) fun H12 hb hbs hbi e12 ha12 y1 y2 y3 => ?_
        have made12a := made11.step (R := fun _ => false) (Mod.of e12 (by simp)) (made11.ext.trans e12) (Same.refl _ _) (by simp)
        refine ⟨hc3 made12a.kb, ?_⟩
        refine Bsl_i (cells := #[at0 hb]) (by kernel_rfl) fun H13 b13 hb13 e13 s13 k13 => ?_
        have z11 := e8a.size
        have z12 := e12.size
        have z13 := e13.size
        obtain ⟨col13, hcol13⟩ : ∃ c : Nat → Rl, c = recol (recol (recol col8 hb .home) hbs .home) hbi .home := ⟨_, rfl⟩
        have S13 : Same H11 col8 col13 := by
          intro x hx; subst hcol13; simp only [recol]
          rw [if_neg (by omega), if_neg (by omega), if_neg (by omega)]
        have e1113 := e12.trans e13
        have made13 := made11.step (R := fun _ => false) (col' := col13) (Mod.of e1113 (by simp)) (made11.ext.trans e1113) S13 (by simp)
        have hr13 : HomeR H13 col13 hb (Home.new i hn (lineOf bs i)) := by
          refine ⟨hbs, hbi, ha12.ext0 e13, ?_, ?_, ?_⟩
          · subst hcol13; simp [recol, ha12.d2, ha12.d1]
          · subst hcol13; simp [recol, ha12.d3]
          · subst hcol13; simp [recol]
        refine ⟨hc3 made13.kb, ?_⟩
        obtain ⟨bhs, x1, x2, x3⟩ := made13.hm
        have hbl8 : bhs.length = i := by rw [x2]; simp
        refine append_ptr ty_97 (col := col13) (r := .homes) (l := bhs) x1 k13 (by omega) fun H14 v14 col14 hE S14 x14 => ?_
        obtain ⟨S, hS, eS⟩ := hE
        have l13 := made13.kb.lt
        have hbf : bf ∉ S := by intro hx; have := (hS bf hx).2; rw [made13.cb] at this; cases this
        have k14 := made13.kb.ext eS hbf
        obtain ⟨bx, hbx⟩ := x14.slc
        obtain ⟨ax, capx, hv14, _, _⟩ := hbx.shape
        have hcv : v14.cells = #[v14] := by rw [hv14]; rfl
        refine St_i k14 (by rw [hcv]; rfl) (by simp) (by rw [hcv, hv14]; rfl) fun H15 e15 s15 k15 => ?_
        have k15' : blk H15 bf #[at0 cm, pv, at0 bn, v14] := by rw [hcv] at k15; simpa [wrL] using k15
        have eA : Ext (bf :: S) H13 H15 := (eS.mono (by simp; intro a ha; exact .inr ha)).trans (e15.mono (by simp))
        have hSA : ∀ x ∈ bf :: S, x < H13.size ∧ (col13 x = .homes ∨ col13 x = .parts ∨ col13 x = .fab) := by
          intro x hx
          rcases List.mem_cons.1 hx with rfl | hx
          · exact ⟨l13, .inr (.inr made13.cb)⟩
          · exact ⟨(hS x hx).1, .inl (hS x hx).2⟩
        have neA : ∀ x ∈ bf :: S, x < H13.size → col13 x ≠ .home := by
          intro x hx _ h
          rcases (hSA x hx).2 with h4 | h4 | h4 <;> rw [h4] at h <;> cases h
        have c14f : col14 bf = .fab := (S14 _ l13).trans made13.cb
        have made15 := made13.upd (ps' := ps) (hs' := (List.range (i + 1)).map fun (j : Nat) => Home.new j hn (lineOf bs j)) hcol eA S14 hSA k15'
          (made13.pl.ext eA S14 (by
            intro x hx hl h
            rcases List.mem_cons.1 hx with rfl | hx
            · rw [made13.cb] at h; cases h
            · rw [(hS x hx).2] at h; cases h))
          made13.pn
          (fun j a b => (made13.pt j a b).ext eA S14 (by
            intro x hx hl
            rcases (hSA x hx).2 with h4 | h4 | h4 <;> rw [h4] <;> rfl))
          ⟨bhs ++ [hb], x14.ext e15 (Same.refl _ _) (by
            intro x hx _; simp at hx; subst hx; rw [c14f]; simp), by simp [hbl8], by
            intro j a b
            by_cases hj : j < i
            · have := (x3 j (by omega) (by simp; omega)).ext eA S14 neA
              rw [List.getElem_append_left (by omega)]
              simpa using this
            · have hji : j = i := by simp [hbl8] at a; omega
              subst hji
              rw [List.getElem_append_right (by omega)]
              simpa using hr13.ext eA S14 neA⟩
        have wi : IntKind.wrap .i64 ((i : Int) + 1) = ((i + 1 : Nat) : Int) := by rw [w64 (by omega) (by omega)]; simp
        simp -implicitDefEqProofs only [Bin_add_3, q_some, wi]
        exact ⟨trivial, trivial, trivial, trivial, ⟨i + 1, col14, v14, rfl, by omega, made15⟩, by simp; omega⟩
      · have hil : i = L := by omega
        subst hil
        have hlt' : ¬ ((i : Int) < i) := by omega
        simp -implicitDefEqProofs only [Bin_lss_3, hlt', decide_false, q_some, condV_bool, Bool.false_eq_true, if_false]
        unfold F14_6
        refine h1 hc H8 col8 bf ⟨cm, cb, bn, pv, hv, bps⟩ (E2.trans made8.ext) (Same.trans (H' := H2) (Same.refl _ _) made8.same z2) ⟨?_, made8.cb, made8.kb, ⟨bs, made8.mem, ?_⟩, made8.cm, made8.cbb, made8.net, made8.pl, ?_, ?_, ?_⟩
        · intro b hb5
          have := (gl b hb5).ext E2 (Same.refl _ _) (by simp)
          exact this.ext made8.ext made8.same (by simp)
        · simp [Fab.new]; omega
        · have := made8.pn; rw [this, hps]; simp [Fab.new]
        · intro j a b
          have hj : j < ps.length := by have := made8.pn; show j < _; omega
          have := made8.pt j a hj
          subst hps
          simpa [Fab.new] using this
        · obtain ⟨bhs, x1, x2, x3⟩ := made8.hm
          refine ⟨bhs, x1, by simpa [Fab.new] using x2, fun j a b => ?_⟩
          have := x3 j a (by rw [← x2]; exact a)
          simpa [Fab.new] using this
    unfold F14_4 F14_12 F14_16
    obtain ⟨c0', _, _, _⟩ := cc ((k24.ext e5 (by simp)).ext e6 (by simp; omega))
    simp -implicitDefEqProofs only [Fa_some, add_mk, Nat.zero_add, q_some, Ld_some, c0']
    unfold F14_13 F14_14
    refine ⟨fun v35 H' => ∃ (i : Nat) (col' : Nat → Rl) (pv : Value) (bps : List Nat), v35 = .int .i64 i ∧ i ≤ hn ∧ Made H2 H' col col' bf ⟨cm, cb, bn, pv, .slice none 0 0, bps⟩ { harts := hn, room := rn } bs (List.replicate i { cache := Cache.new s.toNat w.toNat, lines := List.replicate L none }) [], fun v35 _ => hn - (iv v35).toNat,
      ⟨0, col6, _, [], rfl, by omega, made0⟩, ?_⟩
    rintro v35 H7 ⟨i, col7, pv, bps, rfl, hi, made7⟩
    unfold F14_15
    have k7 := k2.ext made7.ext (by simp)
    obtain ⟨_, d1, d2, _⟩ := cc k7
    by_cases hlt : i < hn
    · have hlt' : (i : Int) < hn := by omega
      simp -implicitDefEqProofs only [Bin_lss_3, hlt', decide_true, q_some, condV_bool, if_true, Fa_some, add_mk, Nat.zero_add, Ld_some, d1, d2]
      have hg7 : cellAt H7 ⟨0, 0, none⟩ = some ev := by
        have e07 := E2.trans made7.ext
        unfold cellAt at hg ⊢
        cases hh : H[0]? with
        | none => simp [hh] at hg
        | some o => rw [e07.same 0 (get_lt hh) (by simp)]; exact hg
      refine New_35 (col := col7) i hg7 (fun hs => by rw [hsh] at hs; cases hs) (fun _ H8 col8 bc bsx e8 S8 ca8 y1 y2 => ?_)
      have made8 := made7.step (R := fun _ => false) (Mod.of e8 (by simp)) (made7.ext.trans e8) S8 (by simp)
      have hc1 : ∀ {G : Hp}, blk G bf #[at0 cm, pv, at0 bn, .slice none 0 0] → cellAt G ⟨bf, 1, none⟩ = some pv := fun k => by rw [k.cell]; rfl
      simp -implicitDefEqProofs only [Ex_tuple, List.getElem?_toArray, List.getElem?_cons_zero, List.getElem?_cons_succ, q_some, Nz_some, Fa_some, add_mk, Nat.zero_add, Ld_some, hc1 made8.kb]
      have e89 : Ext [] H8 (H8.push (Obj.map #[] 0)) := Ext.push _ _
      have om9 : (H8.push (Obj.map #[] 0))[H8.size]? = some (.map #[] 0) := by simp
      have sz9 : (H8.push (Obj.map #[] 0)).size = H8.size + 1 := by simp
      generalize H8.push (Obj.map #[] 0) = H9 at e89 om9 sz9
      simp -implicitDefEqProofs only [bld_105, q_some]
      refine New_i fun H10 b10 hb10 e10 s10 k10 => ?_
      replace k10 : blk H10 b10 #[at0 bc, .map (some H8.size), .slice none 0 0] := by simpa using k10
      refine Bsl_i (cells := #[at0 b10]) (by kernel_rfl) fun H11 b11 hb11 e11 s11 k11 => ?_
      have z8 := e8.size
      have z9 := e89.size
      have z10 := e10.size
      have z11 := e11.size
      have e811 : Ext [] H8 H11 := (e89.trans e10).trans e11
      obtain ⟨col11, hcol11⟩ : ∃ c : Nat → Rl, c = recol (recol col8 H8.size (.map i)) b10 (.part i) := ⟨_, rfl⟩
      have S11 : Same H8 col8 col11 := by
        intro x hx; subst hcol11; simp only [recol]
        rw [if_neg (by omega), if_neg (by omega)]
      have made11 := made8.step (R := fun _ => false) (col' := col11) (Mod.of e811 (by simp)) (made8.ext.trans e811) S11 (by simp)
      have hcp : col11 b10 = .part i := by subst hcol11; simp [recol]
      have hcmp : col11 H8.size = .map i := by subst hcol11; simp [recol, show ¬ H8.size = b10 by omega]
      have pt11 : PartAt H11 col11 i b10 { cache := Cache.new s.toNat w.toNat, lines := List.replicate L none } :=
        PartAt.fresh hcp (k10.ext e11 (by simp)) (ca8.ext0 e811 S11) hcmp (by
          rw [e11.same _ (by omega) (by simp), e10.same _ (by omega) (by simp)]; exact om9)
      have hlb : bps.length = i := by have := made11.pn; simpa using this
      refine append_ptr ty_95 (col := col11) (r := .parts) (l := bps) made11.pl k11 (by omega) fun H12 v12 col12 hE S12 x12 => ?_
      obtain ⟨S, hS, eS⟩ := hE
      have l11 := made11.kb.lt
      have hbf2 : bf ∉ S := by intro hx; have := (hS bf hx).2; rw [made11.cb] at this; cases this
      have k12 := made11.kb.ext eS hbf2
      obtain ⟨bx, hbx⟩ := x12.slc
      obtain ⟨ax, capx, hv12, _, _⟩ := hbx.shape
      have hcv : v12.cells = #[v12] := by rw [hv12]; rfl
      refine St_i k12 (by rw [hcv]; rfl) (by simp) (by rw [hcv, hv12]; rfl) fun H13 e13 s13 k13 => ?_
      have k13' : blk H13 bf #[at0 cm, v12, at0 bn, .slice none 0 0] := by rw [hcv] at k13; simpa [wrL] using k13
      have eA : Ext (bf :: S) H11 H13 := (eS.mono (by simp; intro a ha; exact .inr ha)).trans (e13.mono (by simp))
      have hSA : ∀ x ∈ bf :: S, x < H11.size ∧ (col11 x = .homes ∨ col11 x = .parts ∨ col11 x = .fab) := by
        intro x hx
        rcases List.mem_cons.1 hx with rfl | hx
        · exact ⟨l11, .inr (.inr made11.cb)⟩
        · exact ⟨(hS x hx).1, .inr (.inl (hS x hx).2)⟩
      have hSP : ∀ j, ∀ x ∈ bf :: S, x < H11.size → (col11 x).isPart j = false := by
        intro j x hx hl
        rcases (hSA x hx).2 with h4 | h4 | h4 <;> rw [h4] <;> rfl
      have c12f : col12 bf = .fab := (S12 _ l11).trans made11.cb
      have made13 := made11.upd (pv := v12) (hv := .slice none 0 0) (bps := bps ++ [b10]) (ps' := List.replicate (i + 1) { cache := Cache.new s.toNat w.toNat, lines := List.replicate L none }) (hs' := []) hcol eA S12 hSA k13'
        (x12.ext e13 (Same.refl _ _) (by intro x hx _; simp at hx; subst hx; rw [c12f]; simp))
        (by simp [hlb])
        (by
          intro j a b
          by_cases hj : j < i
          · have := (made11.pt j (by show j < bps.length; omega) (by simp; omega)).ext eA S12 (hSP j)
            rw [List.getElem_append_left (by omega)]
            simpa using this
          · have hji : j = i := by simp [hlb] at a; omega
            subst hji
            rw [List.getElem_append_right (by omega)]
            simpa using pt11.ext eA S12 (hSP j))
        ⟨[], .inl ⟨rfl, rfl⟩, rfl, by simp⟩
      have wi : IntKind.wrap .i64 ((i : Int) + 1) = ((i + 1 : Nat) : Int) := by rw [w64 (by omega) (by omega)]; simp
      simp -implicitDefEqProofs only [Bin_add_3, q_some, wi]
      exact ⟨trivial, trivial, trivial, trivial, ⟨i + 1, col12, v12, bps ++ [b10], rfl, by omega, made13⟩, by simp; omega⟩
    · have hil : i = hn := by omega
      subst hil
      have hlt' : ¬ ((i : Int) < i) := by omega
      simp -implicitDefEqProofs only [Bin_lss_3, hlt', decide_false, q_some, condV_bool, Bool.false_eq_true, if_false]
      exact loop2 H7 col7 pv bps _ made7 rfl
end YtacidjifocfhkaaGreatDoor
end Go.Proofs
namespace Go.Proofs
open Go Go.NW Go.Pm
set_option maxRecDepth 20000
set_option linter.unusedSimpArgs false
set_option linter.unusedVariables false
namespace YtacidjifocfhkaaGreatDoor
theorem Number_12 {H : Hp} {n b : Int} {Q : Value → Hp → Prop} (hb : 0 < b ∧ b < 1000) (hq : Q (.int .i64 (n % b)) H) : NCalls Tryz.prog 12 #[.int .i64 n, .int .i64 b] H Q := by
  refine E12 ?_
  unfold F12_0
  have h1 : -b < n.tmod b ∧ n.tmod b < b := by
    constructor
    · exact Int.lt_tmod_of_pos _ hb.1
    · exact Int.tmod_lt_of_pos _ hb.1
  have w1 : IntKind.wrap .i64 (n.tmod b + b) = n.tmod b + b := w64 (by omega) (by omega)
  have h2 : (n.tmod b + b).tmod b = n % b := by
    rw [Int.tmod_eq_emod_of_nonneg (by omega), Int.add_emod_right]
    have := Int.tmod_add_mul_tdiv n b
    have h3 : n = n.tmod b + b * n.tdiv b := by omega
    conv => rhs; rw [h3]
    rw [Int.add_mul_emod_self_left]
  simp -implicitDefEqProofs only [Bin_rem_3 _ _ _ _ (show b ≠ 0 by omega), q_some, Bin_add_3, w1, h2]
  exact hq
theorem new_good {s w : Nat} (hs : 1 ≤ s ∧ s ≤ 64) (hw : 1 ≤ w ∧ w ≤ 8) : CacheOk (Cache.new s w) ∧ CacheGood (Cache.new s w) ∧ (Cache.new s w).all = [] := by
  refine ⟨⟨by simp [Cache.new]; omega, by simp [Cache.new]; omega, hw.2, ?_⟩, ⟨?_, ?_, ?_, hw.1⟩, ?_⟩
  · intro l hl; simp [Cache.new] at hl; rw [hl.2]; simp
  · intro j row hj e he; simp [Cache.new, List.getElem?_replicate] at hj; rw [hj.2] at he; simp at he
  · intro j row hj; simp [Cache.new, List.getElem?_replicate] at hj; rw [hj.2]; simp
  · intro l hl; simp [Cache.new] at hl; rw [hl.2]; simp
  · simp [Cache.new, Cache.all]
theorem FabOk.new {h s w r : Nat} {data : List Words} (hh : 1 ≤ h ∧ h ≤ 4) (hs : 1 ≤ s ∧ s ≤ 64) (hw : 1 ≤ w ∧ w ≤ 8) (hr : r ≤ 64) (hd : 1 ≤ data.length ∧ data.length ≤ 4096) (hu : ∀ d ∈ data, U32s d) : FabOk (Fab.new h s w r data) := by
  obtain ⟨c1, c2, c3⟩ := new_good hs hw
  refine ⟨by simp [Fab.new]; omega, by simp [Fab.new]; omega, by simp [Fab.new], by simp [Fab.new]; omega, by simp [Fab.new]; omega, fun i hi => ?_, by simp [Fab.new], by simpa [Fab.new] using hr, by simp [Fab.new], by simp [Fab.new], fun i hi => ?_⟩
  · simp only [Fab.new, List.length_mapIdx, List.getElem_replicate]
    refine ⟨hd.2, c1, c2, by simp, ?_, by rw [c3]; simp, List.Pairwise.nil, by simp, ?_⟩
    · intro e he; rw [c3] at he; simp at he
    · intro k l hl; simp [Part.line, List.getD_eq_getElem?_getD, List.getElem?_replicate] at hl
      split at hl <;> simp at hl
  · simp only [Fab.new, List.getElem_mapIdx, List.length_replicate]
    refine ⟨⟨by show h ≤ 1000; omega, by simp [Home.new], by simp [Home.new], ⟨Int.le_refl _, by show (-1 : Int) < h; omega⟩, fun hb => (by cases hb), fun ha => (ha rfl).elim⟩, rfl, rfl, hu _ (List.getElem_mem _), U32s.zero, fun _ => ⟨rfl, by simp [Home.new]⟩⟩
theorem lineOf_u32 {bs : List Int} (h : Bytes bs) (i : Nat) : U32s (lineOf bs i) := by
  have g : ∀ o, U32 (getL bs o 4) := fun o => by have := getL_rng h o 4; exact ⟨this.1, by simpa using this.2⟩
  exact ⟨g _, g _, g _, g _⟩
theorem confOk_cases {h s w r : Int} (hc : confOk h s w r = true) : 1 ≤ h.toNat ∧ h.toNat ≤ 4 ∧ 1 ≤ s.toNat ∧ s.toNat ≤ 64 ∧ 1 ≤ w.toNat ∧ w.toNat ≤ 8 ∧ r.toNat ≤ 64 ∧ 6 * h.toNat ≤ r.toNat := by
  simp [confOk, shapeOk] at hc
  omega
/-- where the statements begin: no memory but errors and arguments -/
structure Start (H : Hp) (col : Nat → Rl) : Prop where
  gl : ∀ b, b < 5 → GlobR H col b
  col : ∀ x, col x = .other ∨ col x = .glob
theorem Start.ev {H : Hp} {col : Nat → Rl} (s : Start H col) : ∃ ev, cellAt H ⟨0, 0, none⟩ = some ev := by
  obtain ⟨_, c, t, v, kb, hc⟩ := s.gl 0 (by omega)
  exact ⟨_, by rw [kb.cell]; exact hc⟩
theorem Start.ext {H H' : Hp} {col : Nat → Rl} (s : Start H col) (e : Ext [] H H') : Start H' col := ⟨fun b hb => (s.gl b hb).ext e (Same.refl _ _) (by simp), s.col⟩
/-- what is not the fabric's, stays -/
theorem Start.stay {H H' : Hp} {col : Nat → Rl} (s : Start H col) (m : Mod Rl.mine H col H') : Ext [] H H' :=
  ⟨m.size, fun x hx _ => m.same x hx (by rcases s.col x with h | h <;> rw [h] <;> rfl)⟩
theorem made_22 {H : Hp} {col : Nat → Rl} {h s w r : Int} {n bw : Nat} {wv : Value} {ws : List Int} {Q : Value → Hp → Prop} (st : Start H col) (hc : confOk h s w r = true) (hn : 16 ≤ n ∧ n ≤ 65536 ∧ n % 16 = 0) (hs : Slc H 1 wv (u32sC ws) bw) (hl : 4 * ws.length ≤ n) (hw : ∀ w ∈ ws, U32 w)
    (hq : ∀ H' col' bf sk, Ext [] H H' → Same H col col' → FabAt H' col' bf sk (Fab.new h.toNat s.toNat w.toNat r.toNat ((List.range (n / 16)).map (lineOf (memNew n ws)))) → FabOk (Fab.new h.toNat s.toNat w.toNat r.toNat ((List.range (n / 16)).map (lineOf (memNew n ws)))) → Q (.tuple #[at0 bf, .bool true]) H') :
    NCalls Tryz.prog 22 #[.agg (confC h s w r), .int .i64 n, wv] H Q := by
  refine E22 ?_
  unfold F22_0
  refine New_i fun H1 b1 hb1 e1 s1 k1 => ?_
  replace k1 : blk H1 b1 (confC h s w r) := by simpa using k1
  refine New_13 hn (hs.ext e1 (by simp)) hl hw fun H2 bm bb e2 m2 g1 g2 => ?_
  have k2 := k1.ext e2 (by simp)
  have E2 := e1.trans e2
  have st2 := st.ext E2
  obtain ⟨ev, hev⟩ := st2.ev
  have hml := memNew_len n ws
  have he30 : Bin Tryz.prog H2 .eql 30 true (at0 bm) (.pointer none) = some (.bool false) := by kernel_rfl
  simp -implicitDefEqProofs only [Ex_tuple, List.getElem?_toArray, List.getElem?_cons_zero, List.getElem?_cons_succ, q_some, he30, gd_bool, if_true, Bin_neq_26_nil, Pk_bool, Bool.false_eq_true, if_false, condV_bool, LdA_some, k2.cells, show (confC h s w r).size = 4 from rfl, show (confC h s w r).extract 0 (0 + 4) = confC h s w r by simp [confC], Nat.zero_add, Nat.le_refl, Option.map_some]
  have hcf := confOk_cases hc
  refine New_14 st2.gl hev m2 (by rw [hml]; omega) st2.col (fun hf => by rw [hc] at hf; cases hf) (fun _ H3 col3 bf sk e3 S3 fa3 => ?_)
  have he33 : ∀ G, Bin Tryz.prog G .neq 33 true (at0 bf) (.pointer none) = some (.bool true) := by intro G; kernel_rfl
  simp -implicitDefEqProofs only [Ex_tuple, List.getElem?_toArray, List.getElem?_cons_zero, List.getElem?_cons_succ, q_some, he33, gd_bool, if_true, Bin_eql_26_nil, Pk_bool]
  rw [hml] at fa3
  have z2 := E2.size
  refine hq H3 col3 bf sk (E2.trans e3) (fun x hx => S3 x (by omega)) fa3 (FabOk.new ⟨hcf.1, hcf.2.1⟩ ⟨hcf.2.2.1, hcf.2.2.2.1⟩ ⟨hcf.2.2.2.2.1, hcf.2.2.2.2.2.1⟩ hcf.2.2.2.2.2.2.1 (by simp; omega) ?_)
  intro d hd
  simp only [List.mem_map] at hd
  obtain ⟨i, _, rfl⟩ := hd
  exact lineOf_u32 (memNew_bytes n ws) i
end YtacidjifocfhkaaGreatDoor
end Go.Proofs
namespace Go.Pm
set_option maxRecDepth 100000
set_option linter.unusedVariables false
def stl (f : Fab) : Fab := match f.settle 60 with | some g => g.1 | none => f
def stlOk (f : Fab) : Bool := match f.settle 60 with | some g => g.2 | none => false
def stlIs (f : Fab) : Bool := (f.settle 60).isSome
theorem stl_eq {f : Fab} (h : stlIs f = true) : f.settle 60 = some (stl f, stlOk f) := by
  unfold stlIs at h
  unfold stl stlOk
  cases hs : f.settle 60 with
  | none => rw [hs] at h; cases h
  | some g => rfl
def askTo (w : Bool) (f : Fab) : Nat → Fab
  | 0 => f
  | k + 1 => ((askTo w f k).ask k 0 w).1
def readTo (f : Fab) : Nat → Fab
  | 0 => f
  | k + 1 => ((readTo f k).read k 0 4).1
def data64 (ws : List Int) : List Words := (List.range 4).map (lineOf (memNew 64 ws))
namespace First
def g0 : Fab := Fab.new 2 1 1 12 (data64 [])
def g1 : Fab := (g0.ask 0 0 true).1
def g2 : Fab := stl g1
def g3 : Fab := (g2.write 0 0 4 7).1
def g4 : Fab := (g3.read 1 0 4).1
def g5 : Fab := (g4.ask 1 0 false).1
def g6 : Fab := stl g5
theorem a0 : (g0.ask 0 0 true).2 = true := by kernel_rfl
theorem s1 : stlIs g1 = true := by kernel_rfl
theorem o1 : stlOk g1 = true := by kernel_rfl
theorem w2 : (g2.write 0 0 4 7).2 = true := by kernel_rfl
theorem r3 : (g3.read 1 0 4).2.2 = false := by kernel_rfl
theorem a4 : (g4.ask 1 0 false).2 = true := by kernel_rfl
theorem s5 : stlIs g5 = true := by kernel_rfl
theorem r6 : (g6.read 1 0 4).2 = (7, true) := by kernel_rfl
end First
namespace Rd
def f0 (n : Nat) : Fab := Fab.new n 2 2 (6 * n) (data64 [5])
def f1 (n : Nat) : Fab := stl (askTo false (f0 n) n)
def f2 (n : Nat) : Fab := readTo (f1 n) n
def f3 (n : Nat) (v : Int) : Fab := ((f2 n).write ((n : Int) - 1) 0 4 v).1
def f4 (n : Nat) (v : Int) : Fab := ((f3 n v).ask ((n : Int) - 1) 0 true).1
end Rd
end Go.Pm
namespace Go.Proofs
open Go Go.NW Go.Pm
set_option maxRecDepth 20000
set_option linter.unusedSimpArgs false
set_option linter.unusedVariables false
namespace YtacidjifocfhkaaGreatDoor
structure Like (f g : Fab) (k : Nat) : Prop where
  h : g.homes.length = f.homes.length
  p : g.parts.length = f.parts.length
  n : g.net.next ≤ f.net.next + k
theorem Like.refl (f : Fab) : Like f f 0 := ⟨rfl, rfl, Nat.le_refl _⟩
theorem Like.trans {f g h : Fab} {a b : Nat} (x : Like f g a) (y : Like g h b) : Like f h (a + b) := ⟨y.h.trans x.h, y.p.trans x.p, by have := x.n; have := y.n; omega⟩
theorem Like.mono {f g : Fab} {a b : Nat} (x : Like f g a) (h : a ≤ b) : Like f g b := ⟨x.h, x.p, by have := x.n; omega⟩
theorem like_used (f : Fab) (h addr : Int) : Like f (f.used h addr) 0 := ⟨rfl, by simp [Fab.used, Fab.setPart], Nat.le_refl _⟩
theorem like_read (f : Fab) (h addr size : Int) : Like f (f.read h addr size).1 0 := by
  unfold Fab.read; split
  · exact Like.refl f
  · exact like_used f h addr
theorem like_write (f : Fab) (h addr size v : Int) : Like f (f.write h addr size v).1 0 := by
  unfold Fab.write; split
  · exact Like.refl f
  · exact ⟨rfl, by simp [Fab.used, Fab.setPart], Nat.le_refl _⟩
theorem like_ask {f : Fab} (ok : FabOk f) (h line : Int) (w : Bool) : Like f (f.ask h line w).1 2 := by
  have r0 : Like f f 2 := (Like.refl f).mono (by omega)
  cases ht : f.there h line with
  | false => rw [show f.ask h line w = (f, false) by simp [Fab.ask, ht]]; exact r0
  | true =>
    obtain ⟨p, hp, _⟩ := there_of ht
    rw [ask_eq ht hp]
    split
    · exact r0
    split
    · exact r0
    cases hf : p.fit f.net line with
    | none => exact r0
    | some r =>
      obtain ⟨p', n'⟩ := r
      obtain ⟨_, _, hn⟩ := fit_keeps hf (ok.pOf hp).cache
      have hn' : n'.next ≤ f.net.next + 1 := by
        rcases hn with rfl | ⟨ms, hms, rfl⟩
        · omega
        · obtain ⟨_, _, _, q4, _⟩ := send_next (n := f.net) (ms := ms); omega
      simp only []
      generalize (p'.line line).getD { line := line, hart := h } = l
      unfold asked
      have ha := ask_len l w
      split
      · obtain ⟨_, _, _, q4, _⟩ := send_next (n := n') (ms := (l.ask w).2.1)
        exact ⟨rfl, by simp [Fab.setPart], by show (Net.send _ _).next ≤ _; omega⟩
      · exact ⟨rfl, by simp [Fab.setPart], by show n'.next ≤ _; omega⟩
theorem like_deliver {f g : Fab} {id : Int} (ok : FabOk f) (h : f.deliver? id = some g) : Like f g 9 := by
  refine ⟨?_, ?_, deliver_next ok h⟩ <;>
  · unfold Fab.deliver? at h
    split at h
    · cases h
    · split at h
      · cases h
      · split at h
        · unfold Fab.atHome at h
          simp only [] at h
          split at h
          · cases h
          split at h
          · cases h
          simp at h; subst h; simp
        · unfold Fab.atHart at h
          simp only [] at h
          split at h
          · cases h
          split at h
          · cases h
          simp only [Option.some.injEq] at h
          subst h
          simp [Fab.setPart]
theorem step_deliver {f g : Fab} (h : f.step = some g) : ∃ id, f.deliver? id = some g := by
  unfold Fab.step at h
  obtain ⟨x, _, hx⟩ := List.exists_of_findSome?_eq_some h
  exact ⟨x.id, hx⟩
theorem like_settle : ∀ {n : Nat} {f g : Fab} {r : Bool}, FabOk f → f.settle n = some (g, r) → Like f g (9 * n) ∧ FabOk g
  | 0, f, g, r, _, h => by simp [Fab.settle] at h
  | n + 1, f, g, r, ok, h => by
    simp only [Fab.settle] at h
    split at h
    · simp at h; obtain ⟨rfl, _⟩ := h; exact ⟨(Like.refl _).mono (by omega), ok⟩
    · split at h
      · rename_i g' hg
        obtain ⟨id, hid⟩ := step_deliver hg
        obtain ⟨a, b⟩ := like_settle (ok.deliver hid) h
        exact ⟨((like_deliver ok hid).trans a).mono (by omega), b⟩
      · simp at h; obtain ⟨rfl, _⟩ := h; exact ⟨(Like.refl _).mono (by omega), ok⟩
theorem first_9 {H : Hp} {col : Nat → Rl} {Q : Value → Hp → Prop} (st : Start H col) (hq : ∀ H', Ext [] H H' → Q (.bool true) H') : NCalls Tryz.prog 9 #[] H Q := by
  refine E9 ?_
  unfold F9_0
  have hb : pv Tryz.prog (Instr.build 23 #[(0, .int .i64 2), (1, .int .i64 1), (2, .int .i64 1), (3, .int .i64 12)]) = some (.agg (confC 2 1 1 12)) := by kernel_rfl
  simp -implicitDefEqProofs only [hb, q_some]
  refine made_22 (n := 64) (ws := []) (bw := 0) st (by decide) (by omega) (Slc.nil _ _ _) (by simp) (by simp) fun H1 col1 bf sk e1 S1 fa1 ok1 => ?_
  have fa1' : FabAt H1 col1 bf sk First.g0 := fa1
  have ok1' : FabOk First.g0 := ok1
  have hh0 : First.g0.homes.length = 4 := by kernel_rfl
  have hn0 : First.g0.net.next = 0 := by kernel_rfl
  simp -implicitDefEqProofs only [Ex_tuple, List.getElem?_toArray, List.getElem?_cons_zero, List.getElem?_cons_succ, q_some, un_not, Bool.not_true, condV_bool, Bool.false_eq_true, if_false]
  refine Ask_16 fa1' ok1' (by omega) fun H2 col2 m2 S2 fa2 => ?_
  rw [First.a0]
  have l1 := like_ask ok1' 0 0 true
  have ok2 : FabOk First.g1 := ok1'.ask (.inl (by omega)) 0 0 true
  have l1n := l1.n
  have fa2' : FabAt H2 col2 bf sk First.g1 := fa2
  refine Settle_19 (N := 60) fa2' ok2 (stl_eq First.s1) (by show First.g1.net.next + _ ≤ _; have : First.g1.net.next ≤ First.g0.net.next + 2 := l1n; omega) fun H3 col3 m3 S3 fa3 ok3 hx3 => ?_
  rw [First.o1]
  have fa3' : FabAt H3 col3 bf sk First.g2 := fa3
  have ok3' : FabOk First.g2 := ok3
  refine Write_20 fa3' ok3' (by unfold U32; omega) (by unfold U32; omega) fun H4 col4 m4 S4 fa4 => ?_
  rw [First.w2]
  have fa4' : FabAt H4 col4 bf sk First.g3 := fa4
  have ok4 : FabOk First.g3 := ok3'.write 0 0 4 7 (by omega) (by unfold U32; omega)
  refine Read_18 fa4' ok4 (by unfold U32; omega) fun H5 col5 m5 S5 fa5 => ?_
  have ok5 : FabOk First.g4 := ok4.read 1 0 4
  have l2 := (like_settle ok2 (stl_eq First.s1)).1
  have l3 := like_write First.g2 0 0 4 7
  have l4 := like_read First.g3 1 0 4
  have L4 : Like First.g0 First.g4 (2 + 9 * 60 + 0 + 0) := ((l1.trans l2).trans l3).trans l4
  have L4h := L4.h
  have L4n := L4.n
  simp -implicitDefEqProofs only [Ex_tuple, List.getElem?_toArray, List.getElem?_cons_zero, List.getElem?_cons_succ, q_some]
  have fa5' : FabAt H5 col5 bf sk First.g4 := fa5
  refine Ask_16 fa5' ok5 (by show First.g4.net.next ≤ _; omega) fun H6 col6 m6 S6 fa6 => ?_
  rw [First.a4]
  have fa6' : FabAt H6 col6 bf sk First.g5 := fa6
  have ok6 : FabOk First.g5 := ok5.ask (.inl (by omega)) 1 0 false
  have l5 := like_ask ok5 1 0 false
  have l5n := l5.n
  refine Settle_19 (N := 60) fa6' ok6 (stl_eq First.s5) (by show First.g5.net.next + _ ≤ _; have : First.g5.net.next ≤ First.g4.net.next + 2 := l5n; omega) fun H7 col7 m7 S7 fa7 ok7 hx7 => ?_
  have fa7' : FabAt H7 col7 bf sk First.g6 := fa7
  have ok7' : FabOk First.g6 := ok7
  refine Read_18 fa7' ok7' (by unfold U32; omega) fun H8 col8 m8 S8 fa8 => ?_
  rw [First.r3, First.r6]
  simp -implicitDefEqProofs
  refine hq H8 ?_
  have z1 := m2.size
  have z2 := m3.size
  have z3 := m4.size
  have z4 := m5.size
  have z5 := m6.size
  have z6 := m7.size
  have T2 : Same H1 col1 col2 := S2
  have T3 := T2.trans (H' := H2) S3 (by omega)
  have T4 := T3.trans (H' := H3) S4 (by omega)
  have T5 := T4.trans (H' := H4) S5 (by omega)
  have T6 := T5.trans (H' := H5) S6 (by omega)
  have T7 := T6.trans (H' := H6) S7 (by omega)
  have M := (((((m2.trans T2 m3).trans T3 m4).trans T4 m5).trans T5 m6).trans T6 m7).trans T7 m8
  have M0 : Mod Rl.mine H col H8 := (Mod.of (R := Rl.mine) e1 (by simp)).trans S1 M
  exact st.stay M0
end YtacidjifocfhkaaGreatDoor
end Go.Proofs
namespace Go.Proofs
open Go Go.NW Go.Pm
set_option maxRecDepth 20000
set_option linter.unusedSimpArgs false
set_option linter.unusedVariables false
namespace YtacidjifocfhkaaGreatDoor
/-- a statement under way: where it began, its fabric -/
structure Law (H0 : Hp) (col0 : Nat → Rl) (H : Hp) (col : Nat → Rl) (bf : Nat) (sk : Sk) (f : Fab) : Prop where
  st : Start H0 col0
  e : Ext [] H0 H
  s : Same H0 col0 col
  fa : FabAt H col bf sk f
  ok : FabOk f
section law
variable {H0 H H' : Hp} {col0 col col' : Nat → Rl} {bf : Nat} {sk : Sk} {f f' : Fab}
theorem Law.step (l : Law H0 col0 H col bf sk f) (m : Mod Rl.mine H col H') (s : Same H col col') (fa : FabAt H' col' bf sk f') (ok : FabOk f') : Law H0 col0 H' col' bf sk f' := by
  have z := l.e.size
  refine ⟨l.st, ⟨Nat.le_trans z m.size, fun x hx _ => ?_⟩, l.s.trans (H' := H) s z, fa, ok⟩
  rw [m.same x (by omega) (by rw [l.s x hx]; rcases l.st.col x with h | h <;> rw [h] <;> rfl)]
  exact l.e.same x hx (by simp)
theorem Law.alloc (l : Law H0 col0 H col bf sk f) (e : Ext [] H H') : Law H0 col0 H' col bf sk f := ⟨l.st, l.e.trans e, l.s, l.fa.ext0 e, l.ok⟩
end law
end YtacidjifocfhkaaGreatDoor
end Go.Proofs
namespace Go.Proofs
open Go Go.NW Go.Pm
set_option maxRecDepth 20000
set_option linter.unusedSimpArgs false
set_option linter.unusedVariables false
namespace YtacidjifocfhkaaGreatDoor
theorem SameInts_26 {H : Hp} {v w : Value} {xs ys : List Int} {b c : Nat} {Q : Value → Hp → Prop} (hs : Slc H 1 v (intsC xs) b) (ht : Slc H 1 w (intsC ys) c) (hl : xs.length ≤ 2 ^ 20)
    (hq : Q (.bool (decide (xs = ys))) H) : NCalls Tryz.prog 26 #[v, w] H Q := by
  refine E26 ?_
  unfold F26_0 F26_10 F26_1 F26_9
  obtain ⟨a, cap, hv, hcap, hn⟩ := hs.shape
  obtain ⟨a2, cap2, hv2, hcap2, hn2⟩ := ht.shape
  have hlen := intsC_len xs
  have hlen2 := intsC_len ys
  have hlv : pv Tryz.prog (Builtin.len_ #[49] 0 #[v]) = some (.int .i64 xs.length) := by rw [hv]; simp -implicitDefEqProofs [hlen]
  have hlw : pv Tryz.prog (Builtin.len_ #[49] 0 #[w]) = some (.int .i64 ys.length) := by rw [hv2]; simp -implicitDefEqProofs [hlen2]
  simp -implicitDefEqProofs only [hlv, hlw, q_some, Bin_neq_3, condV_bool]
  by_cases he : xs.length = ys.length
  · have e1 : ((xs.length : Int) != (ys.length : Int)) = false := by simp [he]
    rw [e1]
    simp -implicitDefEqProofs only [Bool.false_eq_true, if_false]
    unfold F26_2 F26_4 F26_8 F26_5 F26_6
    refine ⟨fun v5 H' => H' = H ∧ ∃ i : Nat, v5 = .int .i64 i ∧ i ≤ xs.length ∧ xs.take i = ys.take i, fun v5 _ => xs.length - (iv v5).toNat, ⟨rfl, 0, rfl, by omega, by simp⟩, ?_⟩
    rintro v5 H1 ⟨rfl, i, rfl, hi, hp⟩
    unfold F26_7
    simp -implicitDefEqProofs only [hlv, q_some, Bin_lss_3, condV_bool]
    by_cases hlt : i < xs.length
    · have hlt' : (i : Int) < xs.length := by omega
      have hlt2 : i < ys.length := by omega
      obtain ⟨o, hix, hc⟩ := ints_at hs hlt
      obtain ⟨o2, hix2, hc2⟩ := ints_at ht hlt2
      simp -implicitDefEqProofs only [hlt', decide_true, if_true, hix, hix2, q_some, Ld_some, hc, hc2, Bin_eql_3, un_not, condV_bool]
      by_cases hx : xs[i] = ys[i]
      · have e2 : (xs[i] == ys[i]) = true := by simp [hx]
        have wk : IntKind.wrap .i64 ((i : Int) + 1) = ((i + 1 : Nat) : Int) := by rw [w64 (by omega) (by omega)]; simp
        rw [e2]
        simp -implicitDefEqProofs only [Bool.not_true, Bool.false_eq_true, if_false, Bin_add_3, wk, q_some]
        refine ⟨trivial, trivial, ⟨trivial, i + 1, rfl, by omega, ?_⟩, by simp; omega⟩
        rw [List.take_add_one, List.take_add_one, hp, List.getElem?_eq_getElem hlt, List.getElem?_eq_getElem hlt2, hx]
      · have e2 : (xs[i] == ys[i]) = false := by simp [hx]
        rw [e2]
        simp -implicitDefEqProofs only [Bool.not_false, if_true]
        have : decide (xs = ys) = false := by
          apply decide_eq_false
          intro h
          apply hx
          simp [h]
        rw [this] at hq
        exact hq
    · have hlt' : ¬ (i : Int) < xs.length := by omega
      have hie : i = xs.length := by omega
      simp -implicitDefEqProofs only [hlt', decide_false, Bool.false_eq_true, if_false]
      unfold F26_3
      have : decide (xs = ys) = true := by
        apply decide_eq_true
        rw [hie, List.take_length, he, List.take_length] at hp
        exact hp
      rw [this] at hq
      exact hq
  · have e1 : ((xs.length : Int) != (ys.length : Int)) = true := by simp; omega
    rw [e1]
    simp -implicitDefEqProofs only [if_true]
    have : decide (xs = ys) = false := decide_eq_false fun h => he (by rw [h])
    rw [this] at hq
    exact hq
def errV (a : Addr) : Value := .iface 236 (.pointer (some a))
structure Errs (H : Hp) (a : Nat → Addr) : Prop where
  c : ∀ k, k < 11 → blk H k #[errV (a k)]
  d : ∀ k, k < 11 → ∃ cs, blk H (a k).block cs
  ne : ∀ k, k = 1 ∨ k = 2 ∨ k = 4 ∨ k = 5 ∨ k = 6 → a 0 ≠ a k
theorem Errs.ext {H H' : Hp} {a : Nat → Addr} (k : Errs H a) (e : Ext [] H H') : Errs H' a :=
  ⟨fun i hi => (k.c i hi).ext e (by simp), fun i hi => (k.d i hi).imp fun cs h => h.ext e (by simp), k.ne⟩
theorem info236 : ∃ i, Tryz.prog.info? 236 = some i ∧ i.comparable = true := by
  have h : (Tryz.prog.info? 236).map (·.comparable) = some true := by kernel_rfl
  cases hi : Tryz.prog.info? 236 with
  | none => rw [hi] at h; cases h
  | some i => rw [hi] at h; exact ⟨i, rfl, by simpa using h⟩
theorem info252 : ∃ j, Tryz.prog.info? 252 = some j ∧ j.size = 1 := by
  have h : (Tryz.prog.info? 252).map (·.size) = some 1 := by kernel_rfl
  cases hi : Tryz.prog.info? 252 with
  | none => rw [hi] at h; cases h
  | some i => rw [hi] at h; exact ⟨i, rfl, by simpa using h⟩
theorem eql_err {H : Hp} {a b : Addr} {ca cb : Array Value} (ha : blk H a.block ca) (hb : blk H b.block cb) : Bin Tryz.prog H .eql 26 false (errV a) (errV b) = some (.bool (decide (a = b))) := by
  obtain ⟨i, hi, hcomp⟩ := info236
  obtain ⟨j, hj, hsz⟩ := info252
  have hh : binHeapy Tryz.prog .eql 26 = true := by kernel_rfl
  have h26 := Tryz.underlying26
  have h236 := Tryz.underlying236
  obtain ⟨TA, hA⟩ := ha
  obtain ⟨TB, hB⟩ := hb
  have key : ∀ d, rd Tryz.prog H (Op.equalIn (d + 2) 26 (errV a) (errV b)) = some (decide (a = b)) := by
    intro d
    unfold errV
    unfold Op.equalIn
    show rd Tryz.prog H (underlying 26 >>= _) = _
    rw [rd_b, rd_underlying h26]
    show rd Tryz.prog H (typeInfo 236 >>= _) = _
    rw [rd_b, rd_typeInfo hi]
    simp only [Option.bind_some]
    rw [hcomp]
    show rd Tryz.prog H (Op.equalIn (d + 1) 236 _ _) = _
    unfold Op.equalIn
    show rd Tryz.prog H (underlying 236 >>= _) = _
    rw [rd_b, rd_underlying h236]
    show rd Tryz.prog H (sizeOf 252 >>= _) = _
    have hsz' : elemSize Tryz.prog 252 = some 1 := by simp [elemSize, hj, hsz]
    rw [rd_b, rd_sizeOf hsz']
    show rd Tryz.prog H (sameAddr a b) = _
    unfold sameAddr
    have fa : ∀ o s, frozenAt H ⟨a.block, o, s⟩ = false := by intro o s; simp [frozenAt, hA]
    have fb : ∀ o s, frozenAt H ⟨b.block, o, s⟩ = false := by intro o s; simp [frozenAt, hB]
    have fa' : frozenAt H a = false := fa a.off a.spot
    have fb' : frozenAt H b = false := fb b.off b.spot
    have sa : shapeAt H a.block = some (TA, ca.size) := by simp [shapeAt, hA]
    have sb : shapeAt H b.block = some (TB, cb.size) := by simp [shapeAt, hB]
    by_cases hbl : a.block = b.block
    · have e1 : (a.block == b.block) = true := by simpa using hbl
      simp [rd_b, rd, e1, rd_p]
      rfl
    · have e1 : (a.block == b.block) = false := by simpa using hbl
      have hne : a ≠ b := fun h => hbl (by rw [h])
      simp [rd_b, rd, frozen, fa', fb', fa, fb, noView, viewAt, shape, sa, sb, mayBeOne, stringish, e1, rd_p, hne]
  unfold Bin errV
  simp only [hh, cond_true]
  show rd Tryz.prog H (Op.equal 26 _ _ >>= _) = _
  rw [rd_b]
  have := key 9998
  unfold errV at this
  rw [show Op.equal 26 (.iface 236 (.pointer (some a))) (.iface 236 (.pointer (some b))) = Op.equalIn (9998 + 2) 26 (.iface 236 (.pointer (some a))) (.iface 236 (.pointer (some b))) from rfl, this]
  rfl
end YtacidjifocfhkaaGreatDoor
end Go.Proofs
namespace Go.Proofs
open Go Go.NW Go.Pm
set_option maxRecDepth 20000
set_option linter.unusedSimpArgs false
set_option linter.unusedVariables false
namespace YtacidjifocfhkaaGreatDoor
def faultC (n : Int) : Array Value := #[.int .i64 n, .slice none 0 0]
theorem Bare_37 {H : Hp} {n : Int} {Q : Value → Hp → Prop} (hq : ∀ H', Ext [] H H' → Q (.agg (faultC n)) H') : NCalls Tryz.prog 37 #[.int .i64 n] H Q := by
  refine E37 ?_
  unfold F37_0
  refine New_i fun H1 b1 hb1 e1 s1 k1 => ?_
  have hb : pv Tryz.prog (Instr.build 90 #[(0, .int .i64 n)]) = some (.agg (faultC n)) := by kernel_rfl
  simp -implicitDefEqProofs only [hb, q_some]
  refine St_i k1 (by rfl) (by simp) (by rfl) fun H2 e2 s2 k2 => ?_
  have k2' : blk H2 b1 (faultC n) := k2
  simp -implicitDefEqProofs only [LdA_some, k2'.cells, show (faultC n).size = 2 from rfl, show (faultC n).extract 0 (0 + 2) = faultC n by simp [faultC], Nat.zero_add, Nat.le_refl, if_true, Option.map_some, q_some]
  exact hq H2 (e1.fresh e2 (by simp; omega))
theorem Alike_149 {H : Hp} {a b : Addr} {ca cb : Array Value} {Q : Value → Hp → Prop} (ha : blk H a.block ca) (hb : blk H b.block cb) (hq : Q (.bool (decide (a = b))) H) : NCalls Tryz.prog 149 #[errV a, errV b] H Q := by
  refine E149 ?_
  unfold F149_0
  have e := eql_err ha hb
  have n1 : ∀ l (x : Addr), Bin Tryz.prog H .eql 26 l (errV x) .nilIface = some (.bool false) := fun l x => Bin_eql_26_some H l _ _
  simp -implicitDefEqProofs only [n1, q_some, gd_bool, if_true, Pk_bool, Bool.false_eq_true, if_false, condV_bool, e]
  exact hq
def errL (a : Nat → Addr) : List Addr := [a 1, a 2, a 4, a 5, a 6, a 0, a 3, a 7, a 8, a 9, a 10]
theorem sentinels_148 {H : Hp} {a : Nat → Addr} {Q : Value → Hp → Prop} (k : Errs H a)
    (hq : ∀ H' b, Ext [] H H' → blk H' b ((errL a).map errV).toArray → Q (.slice (some ⟨b, 0, none⟩) 11 11) H') : NCalls Tryz.prog 148 #[] H Q := by
  refine E148 ?_
  unfold F148_0
  have c : ∀ i, i < 11 → cellAt H ⟨i, 0, none⟩ = some (errV (a i)) := fun i hi => by rw [(k.c i hi).cell]; rfl
  simp -implicitDefEqProofs only [Ld_some, c 0 (by omega), c 1 (by omega), c 2 (by omega), c 3 (by omega), c 4 (by omega), c 5 (by omega), c 6 (by omega), c 7 (by omega), c 8 (by omega), c 9 (by omega), c 10 (by omega), q_some]
  have hb : bslCells #[Value.nilIface] 1 11 [(0, errV (a 1)), (1, errV (a 2)), (2, errV (a 4)), (3, errV (a 5)), (4, errV (a 6)), (5, errV (a 0)), (6, errV (a 3)), (7, errV (a 7)), (8, errV (a 8)), (9, errV (a 9)), (10, errV (a 10))] = some ((errL a).map errV).toArray := by kernel_rfl
  refine Bsl_i hb fun H1 b1 hb1 e1 s1 k1 => ?_
  exact hq H1 b1 e1 k1
theorem sentinel_134 {H : Hp} {a : Nat → Addr} {Q : Value → Hp → Prop} (k : Errs H a) (hq : ∀ H', Ext [] H H' → Q (.int .i64 106) H') : NCalls Tryz.prog 134 #[errV (a 0)] H Q := by
  refine E134 ?_
  unfold F134_0 F134_10 F134_1 F134_9
  refine sentinels_148 k fun H1 b e1 kb => ?_
  have k1 := k.ext e1
  unfold F134_2 F134_4 F134_8 F134_5 F134_6
  refine ⟨fun v4 H' => H' = H1 ∧ ∃ i : Nat, v4 = .int .i64 i ∧ i ≤ 5, fun v4 _ => 11 - (iv v4).toNat, ⟨rfl, 0, rfl, by omega⟩, ?_⟩
  rintro v4 H2 ⟨rfl, i, rfl, hi⟩
  unfold F134_7
  have hlv : pv Tryz.prog (Builtin.len_ #[212] 0 #[.slice (some ⟨b, 0, none⟩) 11 11]) = some (.int .i64 11) := by kernel_rfl
  have hlt : (i : Int) < 11 := by omega
  have hix : Ix 1 (.slice (some ⟨b, 0, none⟩) 11 11) (.int .i64 i) = some (.pointer (some ⟨b, i, none⟩)) := by
    show (if (0 : Int) ≤ i ∧ (i : Int) < ((11 : Nat) : Int) then some (Value.pointer (some (Addr.add ⟨b, 0, none⟩ ((i : Int).toNat * 1)))) else none) = _
    rw [if_pos ⟨by omega, by omega⟩]
    simp only [add_mk, Int.toNat_natCast, Nat.mul_one, Nat.zero_add]
  simp -implicitDefEqProofs only [hlv, q_some, Bin_lss_3, hlt, decide_true, condV_bool, if_true, hix, Ld_some, kb.cell]
  obtain ⟨c0, d0⟩ := k1.d 0 (by omega)
  have wk : IntKind.wrap .i64 ((i : Int) + 1) = ((i + 1 : Nat) : Int) := by rw [w64 (by omega) (by omega)]; simp
  have go : ∀ j, (j = 1 ∨ j = 2 ∨ j = 4 ∨ j = 5 ∨ j = 6) → i < 5 → ((errL a).map errV).toArray[i]? = some (errV (a j)) → q (((errL a).map errV).toArray[i]?) fun t16 => NCalls Tryz.prog 149 #[errV (a 0), t16] H2 (fun t17 H_5 => condV t17 (q (Bin Tryz.prog H_5 .add 3 true (.int .i64 101) (.int .i64 i)) fun t19 => Q t19 H_5) (q (Bin Tryz.prog H_5 .add 3 true (.int .i64 i) (.int .i64 1)) fun t11 => True ∧ True ∧ (H_5 = H2 ∧ ∃ i : Nat, t11 = .int .i64 i ∧ i ≤ 5) ∧ 11 - (iv t11).toNat < 11 - (iv (.int .i64 i)).toNat)) := by
    intro j hj hi5 he
    rw [he, q_some]
    obtain ⟨cj, dj⟩ := k1.d j (by omega)
    refine Alike_149 d0 dj ?_
    have hne := k1.ne j hj
    simp -implicitDefEqProofs only [hne, decide_false, condV_bool, Bool.false_eq_true, if_false, Bin_add_3, wk, q_some]
    exact ⟨trivial, trivial, ⟨trivial, i + 1, rfl, by omega⟩, by simp; omega⟩
  match i, hi, go with
  | 0, _, go => exact go 1 (by simp) (by omega) rfl
  | 1, _, go => exact go 2 (by simp) (by omega) rfl
  | 2, _, go => exact go 4 (by simp) (by omega) rfl
  | 3, _, go => exact go 5 (by simp) (by omega) rfl
  | 4, _, go => exact go 6 (by simp) (by omega) rfl
  | 5, _, _ =>
    have he : ((errL a).map errV).toArray[5]? = some (errV (a 0)) := rfl
    rw [he, q_some]
    refine Alike_149 d0 d0 ?_
    have w : IntKind.wrap .i64 (101 + ((5 : Nat) : Int)) = 106 := by rw [w64 (by omega) (by omega)]; rfl
    simp -implicitDefEqProofs only [decide_true, condV_bool, if_true, Bin_add_3, w, q_some]
    exact hq H2 e1
theorem fault_108 {H : Hp} {a : Nat → Addr} {Q : Value → Hp → Prop} (k : Errs H a) (hq : ∀ H', Ext [] H H' → Q (.agg (faultC 106)) H') : NCalls Tryz.prog 108 #[errV (a 0), .int .i64 9] H Q := by
  refine E108 ?_
  unfold F108_0
  refine New_i fun H1 b1 hb1 e1 s1 k1 => ?_
  have n1 : ∀ l (x : Addr), Bin Tryz.prog H1 .eql 26 l (errV x) .nilIface = some (.bool false) := fun l x => Bin_eql_26_some H1 l _ _
  have ta : pv Tryz.prog (Instr.typeAssert (errV (a 0)) 26 168 true) = some (.tuple #[.pointer none, .bool false]) := by kernel_rfl
  have e9 : ((9 : Int) == 0) = false := by decide
  simp -implicitDefEqProofs only [n1, q_some, gd_bool, if_true, Bin_eql_3, e9, Pk_bool, Bool.false_eq_true, if_false, condV_bool, ta, Ex_tuple, List.getElem?_toArray, List.getElem?_cons_zero, List.getElem?_cons_succ]
  refine sentinel_134 (k.ext e1) fun H2 e2 => ?_
  refine Bare_37 fun H3 e3 => ?_
  refine St_i (k1.ext (e2.trans e3) (by simp)) (by rfl) (by simp) (by rfl) fun H4 e4 s4 k4 => ?_
  have k4' : blk H4 b1 (faultC 106) := k4
  simp -implicitDefEqProofs only [LdA_some, k4'.cells, show (faultC 106).size = 2 from rfl, show (faultC 106).extract 0 (0 + 2) = faultC 106 by simp [faultC], Nat.zero_add, Nat.le_refl, if_true, Option.map_some, q_some]
  exact hq H4 (((e1.trans e2).trans e3).fresh e4 (by simp; omega))
theorem Fault_74 {H : Hp} {a : Nat → Addr} {Q : Value → Hp → Prop} (k : Errs H a) (hq : ∀ H', Ext [] H H' → Q (.agg (faultC 106)) H') : NCalls Tryz.prog 74 #[errV (a 0)] H Q := by
  refine E74 ?_
  unfold F74_0
  refine New_i fun H1 b1 hb1 e1 s1 k1 => ?_
  have n1 : ∀ l (x : Addr), Bin Tryz.prog H1 .eql 26 l (errV x) .nilIface = some (.bool false) := fun l x => Bin_eql_26_some H1 l _ _
  simp -implicitDefEqProofs only [n1, q_some, condV_bool, Bool.false_eq_true, if_false]
  refine fault_108 (k.ext e1) fun H2 e2 => ?_
  refine St_i (k1.ext e2 (by simp)) (by rfl) (by simp) (by rfl) fun H4 e4 s4 k4 => ?_
  have k4' : blk H4 b1 (faultC 106) := k4
  simp -implicitDefEqProofs only [LdA_some, k4'.cells, show (faultC 106).size = 2 from rfl, show (faultC 106).extract 0 (0 + 2) = faultC 106 by simp [faultC], Nat.zero_add, Nat.le_refl, if_true, Option.map_some, q_some]
  exact hq H4 ((e1.trans e2).fresh e4 (by simp; omega))
theorem SameFault_75 {H : Hp} {m n : Int} {Q : Value → Hp → Prop} (hq : ∀ H', Ext [] H H' → Q (.bool (m == n)) H') : NCalls Tryz.prog 75 #[.agg (faultC m), .agg (faultC n)] H Q := by
  refine E75 ?_
  unfold F75_0
  refine New_i fun H1 b1 hb1 e1 s1 k1 => ?_
  refine New_i fun H2 b2 hb2 e2 s2 k2 => ?_
  have k1' : blk H2 b1 (faultC m) := k1.ext e2 (by simp)
  have k2' : blk H2 b2 (faultC n) := k2
  have c1 : cellAt H2 ⟨b1, 1, none⟩ = some (.slice none 0 0) := by rw [k1'.cell]; rfl
  have c2 : cellAt H2 ⟨b2, 1, none⟩ = some (.slice none 0 0) := by rw [k2'.cell]; rfl
  have d1 : cellAt H2 ⟨b1, 0, none⟩ = some (.int .i64 m) := by rw [k1'.cell]; rfl
  have d2 : cellAt H2 ⟨b2, 0, none⟩ = some (.int .i64 n) := by rw [k2'.cell]; rfl
  simp -implicitDefEqProofs only [Fa_some, add_mk, Nat.zero_add, q_some, Ld_some, c1, c2]
  refine SameInts_26 (xs := []) (ys := []) (Slc.nil H2 1 0) (Slc.nil H2 1 0) (by simp) ?_
  simp -implicitDefEqProofs only [Fa_some, add_mk, Nat.zero_add, q_some, Ld_some, d1, d2, Bin_eql_3, gd_bool]
  have hr := hq H2 (e1.trans e2)
  cases hmn : (m == n) <;> rw [hmn] at hr <;> simp -implicitDefEqProofs <;> exact hr
theorem Is_11 {H : Hp} {a : Nat → Addr} {Q : Value → Hp → Prop} (k : Errs H a) (hq : ∀ H', Ext [] H H' → Q (.bool true) H') : NCalls Tryz.prog 11 #[errV (a 0), .int .i64 106] H Q := by
  refine E11 ?_
  unfold F11_0
  refine Bare_37 fun H0 e0 => ?_
  refine E36 ?_
  unfold F36_0
  refine New_i fun H1 b1 hb1 e1 s1 k1 => ?_
  have k1' : blk H1 b1 (faultC 106) := k1
  refine Fault_74 (k.ext (e0.trans e1)) fun H2 e2 => ?_
  refine New_i fun H3 b3 hb3 e3 s3 k3 => ?_
  refine St_i k3 (by rfl) (by simp) (by rfl) fun H4 e4 s4 k4 => ?_
  have k4' : blk H4 b3 (faultC 106) := k4
  have k5 : blk H4 b1 (faultC 106) := (k1'.ext (e2.trans e3) (by simp)).ext e4 (by simp; have := e2.size; omega)
  simp -implicitDefEqProofs only [LdA_some, k4'.cells, k5.cells, show (faultC 106).size = 2 from rfl, show (faultC 106).extract 0 (0 + 2) = faultC 106 by simp [faultC], Nat.zero_add, Nat.le_refl, if_true, Option.map_some, q_some]
  refine SameFault_75 fun H5 e5 => ?_
  have z1 := e0.size; have z2 := e1.size; have z3 := e2.size
  have e03 := ((e0.trans e1).trans e2).trans e3
  exact hq H5 ((e03.fresh e4 (by simp; omega)).trans e5)
end YtacidjifocfhkaaGreatDoor
end Go.Proofs
namespace Go.Pm
set_option linter.unusedSimpArgs false
set_option linter.unusedVariables false
set_option linter.unusedSectionVars false
namespace Alone
variable (H S W R : Nat) (data : List Words) (h line : Nat) (w : Bool)
def kd : Int := if w then 2 else 1
def lone1 : Lone := { line := line, hart := h, waits := kd w }
def lone2 : Lone := { line := line, hart := h, state := 2, data := data.getD line .zero }
def part1 (l : Lone) : Part := { cache := (Cache.new S W).put { line := line, state := 1 }, lines := (List.replicate data.length none).set line (some l) }
def parts1 (l : Lone) : List Part := (List.replicate H ({ cache := Cache.new S W, lines := List.replicate data.length none } : Part)).set h (part1 S W data line l)
def home1 (busy : Bool) : Home := { line := line, harts := H, data := data.getD line .zero, owner := h, sharers := List.replicate H false, busy := busy, serves := h, by_ := kd w, inv := List.replicate H false }
def homes1 (busy : Bool) : List Home := (data.mapIdx fun i d => Home.new i H d).set line (home1 H data h line w busy)
def m0 : Msg := { kind := kd w, line := line, frm := h, to := -1 }
def m1 : Msg := { kind := 7, line := line, frm := -1, to := h, data := data.getD line .zero, has := true, alone := true }
def m2 : Msg := { kind := 12, line := line, frm := h, to := -1 }
def f1 : Fab := { bytes := 16 * data.length, parts := parts1 H S W data h line (lone1 h line w), net := { harts := H, room := R, next := 1, l := [⟨0, m0 h line w⟩] }, homes := data.mapIdx fun i d => Home.new i H d }
def f2 : Fab := { bytes := 16 * data.length, parts := parts1 H S W data h line (lone1 h line w), net := { harts := H, room := R, next := 2, l := [⟨1, m1 data h line⟩] }, homes := homes1 H data h line w true }
def f3 : Fab := { bytes := 16 * data.length, parts := parts1 H S W data h line (lone2 data h line), net := { harts := H, room := R, next := 3, l := [⟨2, m2 h line⟩] }, homes := homes1 H data h line w true }
def f4 : Fab := { bytes := 16 * data.length, parts := parts1 H S W data h line (lone2 data h line), net := { harts := H, room := R, next := 3, l := [] }, homes := homes1 H data h line w false }
variable {H S W R : Nat} {data : List Words} {h line : Nat} {w : Bool} (hh : h < H) (hl : line < data.length) (hw : 1 ≤ W) (hr : 1 ≤ R)
theorem aloneF (r : Int) : ∀ (n i : Nat), Home.aloneFrom r (List.replicate n false) i = true
  | 0, _ => rfl
  | n + 1, i => by rw [List.replicate_succ, Home.aloneFrom, aloneF r n]; rfl
theorem invF (r : Int) : ∀ (n i : Nat), Home.invFrom r (List.replicate n false) (List.replicate n false) i = List.replicate n false
  | 0, _ => rfl
  | n + 1, i => by rw [List.replicate_succ, Home.invFrom, invF r n]; simp
theorem askF {g : Home} (hg : g.asked = -1) : ∀ (n i : Nat), Home.askL g (List.replicate n false) i = []
  | 0, _ => rfl
  | n + 1, i => by
    rw [List.replicate_succ, Home.askL, askF hg n, hg]
    have : ¬ ((-1 : Int) = (i : Int)) := by omega
    simp [this]
theorem setF (n k : Nat) : (List.replicate n false).set k false = List.replicate n false := by
  apply List.ext_getElem?
  intro i
  rw [List.getElem?_set]
  split
  · rename_i e; subst e
    simp only [List.length_replicate, List.getElem?_replicate]
  · rfl
include hh hl hw hr
omit hw hr in
theorem there : (Fab.new H S W R data).there h line = true := by
  simp [Fab.there, Fab.new]
  omega
theorem ask_eq : (Fab.new H S W R data).ask h line w = (f1 H S W R data h line w, true) := by
  have ht := there (S := S) (W := W) (R := R) hh hl
  have hp : (Fab.new H S W R data).part h = { cache := Cache.new S W, lines := List.replicate data.length none } := by
    simp [Fab.part, Fab.new, List.getD_eq_getElem?_getD, hh]
  have hn : (Part.line { cache := Cache.new S W, lines := List.replicate data.length none } (line : Int)) = none := by
    simp [Part.line, List.getD_eq_getElem?_getD, hl]
  have hc : (Part.count { cache := Cache.new S W, lines := List.replicate data.length none }) = 0 := by
    simp [Part.count]
  have hroom : (Cache.new S W).room line = true := by
    have : (Cache.new S W).row line = [] := by
      simp only [Cache.row, Cache.new, List.getD_eq_getElem?_getD, List.getElem?_replicate]
      split <;> rfl
    have h2 : decide (([] : List Entry).length < (Cache.new S W).ways) = true := decide_eq_true (by show 0 < W; omega)
    unfold Cache.room
    rw [this, h2]
    simp
  unfold Fab.ask
  simp only [ht, hp]
  simp only [hn, hc, Part.fit, hroom]
  simp only [if_true, hn, Option.getD_none]
  have hr0 : 0 < R := by omega
  cases w <;>
  simp [hr0, Lone.ask, Lone.can, Lone.msg, Net.send, Net.sendL, Net.may, classOf, Net.link, Net.used, Fab.new, hh, Fab.setPart, f1, parts1, part1, lone1, m0, kd, Part.setLine]
omit hw hr in
theorem part1_at {l : Lone} {net : Net} {homes : List Home} {b : Nat} : ({ bytes := b, parts := parts1 H S W data h line l, net := net, homes := homes } : Fab).part h = part1 S W data line l := by
  simp [Fab.part, parts1, List.getD_eq_getElem?_getD, List.getElem?_set, hh]
omit hw hr in
theorem line1_at {l : Lone} : (part1 S W data line l).line line = some l := by
  simp [Part.line, part1, List.getD_eq_getElem?_getD, List.getElem?_set, hl]
omit hw hr in
theorem there1 {l : Lone} {net : Net} {homes : List Home} {b : Nat} (hn : homes.length = data.length) : ({ bytes := b, parts := parts1 H S W data h line l, net := net, homes := homes } : Fab).there h line = true := by
  simp [Fab.there, parts1, hn]
  omega
omit hw hr in
theorem has1 {f : Fab} (hb : f.bytes = 16 * data.length) : f.has (16 * (line : Int)) 4 = true := by
  have h1 : (16 * (line : Int)) % 4 = 0 := by omega
  have h2 : 16 * (line : Int) ≤ (f.bytes : Int) - 4 := by omega
  simp [Fab.has, Fab.fair, h1, h2]
omit hh hl hw hr in
theorem div16 : 16 * (line : Int) / 16 = line := by omega
theorem read_f1 : (f1 H S W R data h line w).read h (16 * (line : Int)) 4 = (f1 H S W R data h line w, 0, false) := by
  have hc : (f1 H S W R data h line w).can h (16 * (line : Int)) 4 false = none := by
    unfold Fab.can
    rw [has1 hh hl rfl, div16]
    unfold f1
    rw [there1 hh hl (by simp)]
    simp only [Fab.line, part1_at hh hl, line1_at hh hl]
    cases w <;> simp [lone1, kd, Lone.can]
  unfold Fab.read
  rw [hc]
theorem ask_f1 (w' : Bool) : (f1 H S W R data h line w).ask h line w' = (f1 H S W R data h line w, false) := by
  unfold Fab.ask
  have ht : (f1 H S W R data h line w).there h line = true := by unfold f1; exact there1 hh hl (by simp)
  have hp : (f1 H S W R data h line w).part h = part1 S W data line (lone1 h line w) := by unfold f1; exact part1_at hh hl
  simp only [ht, hp]
  simp only [line1_at hh hl]
  cases w <;> simp [lone1, kd]
theorem home_at {net : Net} {ps : List Part} {b : Nat} : (({ bytes := b, parts := ps, net := net, homes := data.mapIdx fun i d => Home.new i H d } : Fab).homes.getD line (Home.new 0 0 .zero)) = Home.new line H (data.getD line .zero) := by
  simp [List.getD_eq_getElem?_getD, hl]
theorem home_take : (Home.new line H (data.getD line .zero)).takes (m0 h line w) = true ∧ (Home.new line H (data.getD line .zero)).take (m0 h line w) = (home1 H data h line w true, [m1 data h line]) := by
  have hi : (h : Int) < H := by omega
  have t : (Home.new line H (data.getD line .zero)).takes (m0 h line w) = true := by
    cases w <;> simp [Home.takes, m0, kd, Home.new, hh]
  refine ⟨t, ?_⟩
  unfold Home.take
  rw [t]
  cases w
  · simp [m0, kd, Home.new, Home.share, aloneF, home1, setF, Home.hand, Home.to, m1]
  · simp [m0, kd, Home.new, Home.own, invF, home1, Home.owned, Home.hand, Home.to, m1, Home.waits, Msg.zero]
    rw [askF (by rfl)]
theorem dl1 : (f1 H S W R data h line w).deliver? 0 = some (f2 H S W R data h line w) := by
  obtain ⟨t1, t2⟩ := home_take (W := W) (R := R) (w := w) hh hl hw hr
  have hd : (f1 H S W R data h line w).net.head 0 = some (m0 h line w) := by simp [f1, Net.head, Net.at?]
  have c1 : ¬ ((line : Int) ≥ (f1 H S W R data h line w).homes.length) := by simp [f1]; omega
  have hr0 : 0 < R := by omega
  unfold Fab.deliver?
  rw [hd]
  simp only [show (m0 h line w).line = (line : Int) from rfl, c1, if_false, show (m0 h line w).to = -1 from rfl, show (-1 : Int) < 0 by omega, if_true]
  unfold Fab.atHome
  rw [show (m0 h line w).line = (line : Int) from rfl, Int.toNat_natCast]
  simp only [show (f1 H S W R data h line w).homes.getD line (Home.new 0 0 .zero) = Home.new line H (data.getD line .zero) from home_at hh hl hw hr, t1, t2]
  have e2 : ((f1 H S W R data h line w).net.take 0).send [m1 data h line] = { harts := H, room := R, next := 2, l := [⟨1, m1 data h line⟩] } := by
    simp [f1, Net.take, Net.at?, Net.send, Net.sendL, Net.may, classOf, Net.link, Net.used, m1, hh, hr0]
  have e1 : (f1 H S W R data h line w).net.fits [m1 data h line] = true := by
    cases w <;> simp [f1, Net.fits, Net.free, classOf, Net.link, Net.used, m1, m0, kd, hh]
    all_goals omega
  rw [e1, e2]
  simp [f1, f2, homes1]
theorem dl2 : (f2 H S W R data h line w).deliver? 1 = some (f3 H S W R data h line w) := by
  have hd : (f2 H S W R data h line w).net.head 1 = some (m1 data h line) := by simp [f2, Net.head, Net.at?]
  have c1 : ¬ ((line : Int) ≥ (f2 H S W R data h line w).homes.length) := by simp [f2, homes1]; omega
  have hr0 : 0 < R := by omega
  unfold Fab.deliver?
  rw [hd]
  simp only [show (m1 data h line).line = (line : Int) from rfl, c1, if_false, show (m1 data h line).to = (h : Int) from rfl, show ¬ (h : Int) < 0 by omega]
  unfold Fab.atHart
  rw [show (m1 data h line).line = (line : Int) from rfl, show (m1 data h line).to = (h : Int) from rfl]
  have hp : (f2 H S W R data h line w).part h = part1 S W data line (lone1 h line w) := by unfold f2; exact part1_at hh hl
  simp only [hp]
  simp only [line1_at hh hl, Option.getD_some]
  have t1 : (lone1 h line w).takes (m1 data h line) = true := by cases w <;> simp [lone1, m1, kd, Lone.takes]
  have t2 : (lone1 h line w).take (m1 data h line) = (lone2 data h line, [m2 h line], false) := by
    unfold Lone.take
    rw [t1]
    cases w <;> simp [Lone.take1, lone1, m1, kd, lone2, m2, Lone.msg]
  have e2 : ((f2 H S W R data h line w).net.take 1).send [m2 h line] = { harts := H, room := R, next := 3, l := [⟨2, m2 h line⟩] } := by
    simp [f2, Net.take, Net.at?, Net.send, Net.sendL, Net.may, classOf, Net.link, Net.used, m2, hh, hr0]
  have e1 : (f2 H S W R data h line w).net.fits [m2 h line] = true := by
    simp [f2, Net.fits, Net.free, classOf, Net.link, Net.used, m1, m2, hh]
    omega
  simp only [t1, t2]
  rw [e1, e2]
  simp [Fab.setPart, f2, f3, lone2, Part.setLine, parts1, part1]
theorem dl3 : (f3 H S W R data h line w).deliver? 2 = some (f4 H S W R data h line w) := by
  have hd : (f3 H S W R data h line w).net.head 2 = some (m2 h line) := by simp [f3, Net.head, Net.at?]
  have c1 : ¬ ((line : Int) ≥ (f3 H S W R data h line w).homes.length) := by simp [f3, homes1]; omega
  have hr0 : 0 < R := by omega
  unfold Fab.deliver?
  rw [hd]
  simp only [show (m2 h line).line = (line : Int) from rfl, c1, if_false, show (m2 h line).to = -1 from rfl, show (-1 : Int) < 0 by omega, if_true]
  unfold Fab.atHome
  rw [show (m2 h line).line = (line : Int) from rfl, Int.toNat_natCast]
  have hm : (f3 H S W R data h line w).homes.getD line (Home.new 0 0 .zero) = home1 H data h line w true := by
    simp [f3, homes1, List.getD_eq_getElem?_getD, List.getElem?_set, hl]
  have t1 : (home1 H data h line w true).takes (m2 h line) = true := by
    simp [Home.takes, home1, m2, hh, Home.waits]
  have t2 : (home1 H data h line w true).take (m2 h line) = (home1 H data h line w false, []) := by
    unfold Home.take
    rw [t1]
    simp [m2, home1]
  simp only [hm]
  rw [t1, t2]
  simp [f3, Net.fits, Net.take, Net.at?, Net.send, Net.sendL, f4, homes1]
theorem settle_eq : (f1 H S W R data h line w).settle 60 = some (f4 H S W R data h line w, true) := by
  have s1 : (f1 H S W R data h line w).step = some (f2 H S W R data h line w) := by
    show ([⟨0, m0 h line w⟩] : List Flight).findSome? (fun x => (f1 H S W R data h line w).deliver? x.id) = _
    simp [dl1 hh hl hw hr]
  have s2 : (f2 H S W R data h line w).step = some (f3 H S W R data h line w) := by
    show ([⟨1, m1 data h line⟩] : List Flight).findSome? (fun x => (f2 H S W R data h line w).deliver? x.id) = _
    simp [dl2 hh hl hw hr]
  have s3 : (f3 H S W R data h line w).step = some (f4 H S W R data h line w) := by
    show ([⟨2, m2 h line⟩] : List Flight).findSome? (fun x => (f3 H S W R data h line w).deliver? x.id) = _
    simp [dl3 hh hl hw hr]
  rw [show (60 : Nat) = 59 + 1 from rfl, Fab.settle, s1, if_neg (by simp [f1]), show (59 : Nat) = 58 + 1 from rfl]
  simp only []
  rw [Fab.settle, s2, if_neg (by simp [f2]), show (58 : Nat) = 57 + 1 from rfl]
  simp only []
  rw [Fab.settle, s3, if_neg (by simp [f3]), show (57 : Nat) = 56 + 1 from rfl]
  simp only []
  rw [Fab.settle, if_pos (by simp [f4])]
omit hh hl hw hr in
theorem setPart_part {f : Fab} {p : Part} (hi : h < f.parts.length) : (f.setPart h p).part h = p := by
  simp [Fab.part, Fab.setPart, List.getD_eq_getElem?_getD, List.getElem?_set, hi]
structure Has (f : Fab) (l : Lone) : Prop where
  b : f.bytes = 16 * data.length
  n : f.homes.length = data.length
  p : h < f.parts.length
  l : (f.part h).line line = some l
omit hh hl hw hr in
theorem Has.can {f : Fab} {l : Lone} (k : Has (data := data) (h := h) (line := line) f l) (hl : line < data.length) (w : Bool) : f.can h (16 * (line : Int)) 4 w = if l.can w then some l else none := by
  have h1 : (16 * (line : Int)) % 4 = 0 := by omega
  have h2 : 16 * (line : Int) ≤ (f.bytes : Int) - 4 := by have := k.b; omega
  have h3 : f.has (16 * (line : Int)) 4 = true := by simp [Fab.has, Fab.fair, h1, h2]
  have h4 : f.there h line = true := by
    have := k.n; have := k.p
    simp [Fab.there]; omega
  unfold Fab.can
  rw [h3, div16, h4]
  simp only [Fab.line, k.l]
  rfl
omit hh hl hw hr in
theorem Has.used {f : Fab} {l : Lone} (k : Has (data := data) (h := h) (line := line) f l) (a : Int) : Has (data := data) (h := h) (line := line) (f.used h a) l := by
  refine ⟨k.b, k.n, ?_, ?_⟩
  · simp [Fab.used, Fab.setPart]; exact k.p
  · unfold Fab.used; rw [setPart_part k.p]; exact k.l
theorem has_f4 : Has (data := data) (h := h) (line := line) (f4 H S W R data h line w) (lone2 data h line) := by
  refine ⟨rfl, by simp [f4, homes1], by simp [f4, parts1]; exact hh, ?_⟩
  have : (f4 H S W R data h line w).part h = part1 S W data line (lone2 data h line) := by unfold f4; exact part1_at hh hl
  rw [this, line1_at hh hl]
theorem read_f4 : ((f4 H S W R data h line w).read h (16 * (line : Int)) 4).2.2 = true ∧ Has (data := data) (h := h) (line := line) ((f4 H S W R data h line w).read h (16 * (line : Int)) 4).1 (lone2 data h line) := by
  have k := has_f4 (S := S) (R := R) (w := w) hh hl hw hr
  have c := k.can hl false
  rw [show (lone2 data h line).can false = true by simp [lone2, Lone.can], if_pos rfl] at c
  unfold Fab.read
  rw [c]
  exact ⟨rfl, k.used _⟩
omit hh hw hr in
theorem write_f5 {f : Fab} (k : Has (data := data) (h := h) (line := line) f (lone2 data h line)) : (f.write h (16 * (line : Int)) 4 5).2 = true ∧ ∃ l, l.state = 4 ∧ l.waits = 0 ∧ Has (data := data) (h := h) (line := line) (f.write h (16 * (line : Int)) 4 5).1 l := by
  have c := k.can hl true
  have c2 : (lone2 data h line).can true = true := by simp [lone2, Lone.can]
  rw [c2, if_pos rfl] at c
  have k2 := k.used (16 * (line : Int))
  unfold Fab.write
  rw [c]
  refine ⟨by simp [Lone.set, c2], ((lone2 data h line).set (Fab.wrW (lone2 data h line).data (16 * (line : Int)) 4 5)).1, by simp [Lone.set, c2], by simp only [Lone.set, c2, if_true]; rfl, k2.b, k2.n, ?_, ?_⟩
  · simp only [Fab.setPart, List.length_set]; exact k2.p
  · simp only []
    rw [setPart_part k2.p]
    have hx := k2.l
    unfold Part.line at hx
    have hlen : line < ((f.used h (16 * (line : Int))).part h).lines.length := by
      rcases Nat.lt_or_ge line ((f.used h (16 * (line : Int))).part h).lines.length with g | g
      · exact g
      · rw [List.getD_eq_getElem?_getD, Int.toNat_natCast, List.getElem?_eq_none g] at hx
        simp at hx
    simp [Part.line, Part.setLine, div16, List.getD_eq_getElem?_getD, List.getElem?_set, hlen]
omit hh hw hr in
theorem ask_f6 {f : Fab} {l : Lone} (k : Has (data := data) (h := h) (line := line) f l) (h1 : l.state = 4) (h2 : l.waits = 0) : f.ask h line true = (f, false) := by
  have h4 : f.there h line = true := by
    have := k.n; have := k.p
    simp [Fab.there]; omega
  unfold Fab.ask
  rw [h4]
  simp only [k.l]
  simp [Lone.can, h1, h2]
omit hh hw hr hl in
theorem write_f7 {f : Fab} (hb : f.bytes = 16 * data.length) (v : Int) : f.write h (16 * (data.length : Int)) 4 v = (f, false) := by
  have h2 : ¬ 16 * (data.length : Int) ≤ (f.bytes : Int) - 4 := by omega
  have h3 : f.has (16 * (data.length : Int)) 4 = false := by simp [Fab.has, h2]
  unfold Fab.write Fab.can
  rw [h3]
  rfl
omit hh hw hr hl in
theorem ask_out {hx lx : Int} (g : ¬ (0 ≤ hx ∧ hx < (H : Int) ∧ 0 ≤ lx ∧ lx < (data.length : Int))) : (Fab.new H S W R data).ask hx lx w = (Fab.new H S W R data, false) := by
  have : (Fab.new H S W R data).there hx lx = false := by
    simp [Fab.there, Fab.new]
    intro a b c
    omega
  unfold Fab.ask
  rw [this]
  rfl
end Alone
end Go.Pm
namespace Go.Proofs
open Go Go.NW Go.Pm
set_option maxRecDepth 20000
set_option linter.unusedSimpArgs false
set_option linter.unusedVariables false
namespace YtacidjifocfhkaaGreatDoor
/-- is the config good? -/
theorem good_3 {H : Hp} {b : Nat} {h s w r : Int} {K : Value → Prop} (k : blk H b (confC h s w r)) (hk : K (.bool (confOk h s w r))) :
    q (Fa 1 (at0 b)) fun t30_6 =>
    q (Ld H t30_6) fun t31_7 =>
    q (Bin Tryz.prog H .geq 3 true t31_7 (Value.int IntKind.i64 1)) fun t32_8 =>
    q (gd t32_8 true (Fa 1 (at0 b))) fun t34_9 =>
    q (gd t32_8 true (Ld H t34_9)) fun t35_10 =>
    q (gd t32_8 true (Bin Tryz.prog H .leq 3 true t35_10 (Value.int IntKind.i64 64))) fun t36_11 =>
    q (Pk t32_8 t36_11 (Value.bool false)) fun t37_12 =>
    q (gd t37_12 true (Fa 1 (at0 b))) fun t39_13 =>
    q (gd t37_12 true (Ld H t39_13)) fun t40_14 =>
    q (gd t37_12 true (Fa 1 (at0 b))) fun t41_15 =>
    q (gd t37_12 true (Ld H t41_15)) fun t42_16 =>
    q (gd t37_12 true (Bin Tryz.prog H .sub 3 true t42_16 (Value.int IntKind.i64 1))) fun t43_17 =>
    q (gd t37_12 true (Bin Tryz.prog H .and 3 false t40_14 t43_17)) fun t44_18 =>
    q (gd t37_12 true (Bin Tryz.prog H .eql 3 true t44_18 (Value.int IntKind.i64 0))) fun t45_19 =>
    q (Pk t37_12 t45_19 (Value.bool false)) fun t46_20 =>
    q (Fa 0 (at0 b)) fun t47_21 =>
    q (Ld H t47_21) fun t48_22 =>
    q (Bin Tryz.prog H .geq 3 true t48_22 (Value.int IntKind.i64 1)) fun t49_23 =>
    q (gd t49_23 true (Fa 0 (at0 b))) fun t51_24 =>
    q (gd t49_23 true (Ld H t51_24)) fun t52_25 =>
    q (gd t49_23 true (Bin Tryz.prog H .leq 3 true t52_25 (Value.int IntKind.i64 4))) fun t53_26 =>
    q (Pk t49_23 t53_26 (Value.bool false)) fun t54_27 =>
    q (gd t54_27 true (some t46_20)) fun t56_28 =>
    q (Pk t54_27 t56_28 (Value.bool false)) fun t57_29 =>
    q (gd t57_29 true (Fa 2 (at0 b))) fun t59_30 =>
    q (gd t57_29 true (Ld H t59_30)) fun t60_31 =>
    q (gd t57_29 true (Bin Tryz.prog H .geq 3 true t60_31 (Value.int IntKind.i64 1))) fun t61_32 =>
    q (Pk t57_29 t61_32 (Value.bool false)) fun t62_33 =>
    q (gd t62_33 true (Fa 2 (at0 b))) fun t64_34 =>
    q (gd t62_33 true (Ld H t64_34)) fun t65_35 =>
    q (gd t62_33 true (Bin Tryz.prog H .leq 3 true t65_35 (Value.int IntKind.i64 8))) fun t66_36 =>
    q (Pk t62_33 t66_36 (Value.bool false)) fun t67_37 =>
    q (gd t67_37 true (Fa 3 (at0 b))) fun t69_38 =>
    q (gd t67_37 true (Ld H t69_38)) fun t70_39 =>
    q (gd t67_37 true (Fa 0 (at0 b))) fun t71_40 =>
    q (gd t67_37 true (Ld H t71_40)) fun t72_41 =>
    q (gd t67_37 true (Bin Tryz.prog H .mul 3 true (Value.int IntKind.i64 6) t72_41)) fun t73_42 =>
    q (gd t67_37 true (Bin Tryz.prog H .geq 3 false t70_39 t73_42)) fun t74_43 =>
    q (Pk t67_37 t74_43 (Value.bool false)) fun t75_44 =>
    q (gd t75_44 true (Fa 3 (at0 b))) fun t77_45 =>
    q (gd t75_44 true (Ld H t77_45)) fun t78_46 =>
    q (gd t75_44 true (Bin Tryz.prog H .leq 3 true t78_46 (Value.int IntKind.i64 64))) fun t79_47 =>
    q (Pk t75_44 t79_47 (Value.bool false)) fun t80_48 => K t80_48 := by
  have c0 : cellAt H ⟨b, 0, none⟩ = some (.int .i64 h) := by rw [k.cell]; rfl
  have c1 : cellAt H ⟨b, 1, none⟩ = some (.int .i64 s) := by rw [k.cell]; rfl
  have c2 : cellAt H ⟨b, 2, none⟩ = some (.int .i64 w) := by rw [k.cell]; rfl
  have c3 : cellAt H ⟨b, 3, none⟩ = some (.int .i64 r) := by rw [k.cell]; rfl
  simp -implicitDefEqProofs only [Fa_some, add_mk, Nat.zero_add, q_some, Ld_some, c0, c1, c2, c3, Bin_geq_3, Bin_leq_3, Bin_mul_3, Bin_sub_3, Bin_eql_3, Bin_band, gd_bool, ge_iff_le]
  have P : (band s (IntKind.wrap .i64 (s - 1)) == 0) = pow2 s := rfl
  by_cases a1 : 1 ≤ s
  case neg =>
    have : confOk h s w r = false := by simp [confOk, shapeOk, a1]
    rw [this] at hk
    by_cases a4 : 1 ≤ h <;> by_cases a5 : h ≤ 4 <;> simp -implicitDefEqProofs [a1, a4, a5, c0, c1, c2, c3] <;> exact hk
  by_cases a2 : s ≤ 64
  case neg =>
    have : confOk h s w r = false := by simp [confOk, shapeOk, a2]
    rw [this] at hk
    by_cases a4 : 1 ≤ h <;> by_cases a5 : h ≤ 4 <;> simp -implicitDefEqProofs [a1, a2, a4, a5, c0, c1, c2, c3, -Bin_and_3, Bin_band] <;> exact hk
  by_cases a4 : 1 ≤ h
  case neg =>
    have : confOk h s w r = false := by simp [confOk, shapeOk, a4]
    rw [this] at hk
    simp -implicitDefEqProofs [a1, a2, a4, c0, c1, c2, c3, -Bin_and_3, Bin_band]
    exact hk
  by_cases a5 : h ≤ 4
  case neg =>
    have : confOk h s w r = false := by simp [confOk, shapeOk, a5]
    rw [this] at hk
    simp -implicitDefEqProofs [a1, a2, a4, a5, c0, c1, c2, c3, -Bin_and_3, Bin_band]
    exact hk
  have w6 : IntKind.wrap .i64 (6 * h) = 6 * h := w64 (by omega) (by omega)
  simp -implicitDefEqProofs only [a1, a2, a4, a5, c0, c1, c2, c3, Ld_some, decide_true, if_true, Pk_bool, q_some, gd_bool, Bin_geq_3, Bin_leq_3, Bin_mul_3, Bin_sub_3, Bin_eql_3, Bin_band, P, w6, ge_iff_le]
  by_cases a3 : pow2 s = true
  case neg =>
    have a3' : pow2 s = false := by simpa using a3
    have : confOk h s w r = false := by simp [confOk, shapeOk, a3']
    rw [this] at hk
    simp -implicitDefEqProofs [a3', c0, c1, c2, c3, w6]
    exact hk
  by_cases a6 : 1 ≤ w
  case neg =>
    have : confOk h s w r = false := by simp [confOk, shapeOk, a6]
    rw [this] at hk
    simp -implicitDefEqProofs [a3, a6, c0, c1, c2, c3, w6]
    exact hk
  by_cases a7 : w ≤ 8
  case neg =>
    have : confOk h s w r = false := by simp [confOk, shapeOk, a7]
    rw [this] at hk
    simp -implicitDefEqProofs [a3, a6, a7, c0, c1, c2, c3, w6]
    exact hk
  by_cases a8 : 6 * h ≤ r
  case neg =>
    have : confOk h s w r = false := by simp [confOk, shapeOk, a8]
    rw [this] at hk
    simp -implicitDefEqProofs [a3, a6, a7, a8, c0, c1, c2, c3, w6]
    exact hk
  have : confOk h s w r = decide (r ≤ 64) := by simp [confOk, shapeOk, a1, a2, a3, a4, a5, a6, a7, a8]
  rw [this] at hk
  simp -implicitDefEqProofs [a3, a6, a7, a8, c0, c1, c2, c3, w6]
  exact hk
/-- is the place there? -/
theorem in_3 {H : Hp} {col : Nat → Rl} {b bf : Nat} {sk : Sk} {f : Fab} {h s w r hx lx : Int} {K : Value → Hp → Prop} (k : blk H b (confC h s w r)) (fa : FabAt H col bf sk f) (hk : K (.bool (decide (0 ≤ hx ∧ hx < h ∧ 0 ≤ lx ∧ lx < f.homes.length))) H) :
    q (Bin Tryz.prog H .geq 3 true (.int .i64 hx) (Value.int IntKind.i64 0)) fun t140_90 =>
    q (gd t140_90 true (some (.int .i64 hx))) fun t142_91 =>
    q (gd t140_90 true (Fa 0 (at0 b))) fun t143_92 =>
    q (gd t140_90 true (Ld H t143_92)) fun t144_93 =>
    q (gd t140_90 true (Bin Tryz.prog H .lss 3 false t142_91 t144_93)) fun t145_94 =>
    q (Pk t140_90 t145_94 (Value.bool false)) fun t146_95 =>
    q (gd t146_95 true (some (.int .i64 lx))) fun t148_96 =>
    q (gd t146_95 true (Bin Tryz.prog H .geq 3 true t148_96 (Value.int IntKind.i64 0))) fun t149_97 =>
    q (Pk t146_95 t149_97 (Value.bool false)) fun t150_98 =>
    q (gd t150_98 true (some (.int .i64 lx))) fun t152_99 =>
    q (gd t150_98 true (some (at0 bf))) fun t153_100 =>
    gl t150_98 true (fun K => NCalls Tryz.prog 15 #[t153_100] H K) H fun t154_101 H_101 =>
    q (gd t150_98 true (Bin Tryz.prog H_101 .lss 3 false t152_99 t154_101)) fun t155_102 =>
    q (Pk t150_98 t155_102 (Value.bool false)) fun t156_103 => K t156_103 H_101 := by
  have c0 : cellAt H ⟨b, 0, none⟩ = some (.int .i64 h) := by rw [k.cell]; rfl
  simp -implicitDefEqProofs only [Fa_some, add_mk, Nat.zero_add, q_some, Ld_some, c0, Bin_geq_3, Bin_lss_3, gd_bool, ge_iff_le]
  by_cases a1 : 0 ≤ hx
  case neg =>
    have : decide (0 ≤ hx ∧ hx < h ∧ 0 ≤ lx ∧ lx < f.homes.length) = false := by simp [a1]
    rw [this] at hk
    simp -implicitDefEqProofs [a1, c0]
    exact hk
  by_cases a2 : hx < h
  case neg =>
    have : decide (0 ≤ hx ∧ hx < h ∧ 0 ≤ lx ∧ lx < f.homes.length) = false := by simp [a2]
    rw [this] at hk
    simp -implicitDefEqProofs [a1, a2, c0]
    exact hk
  by_cases a3 : 0 ≤ lx
  case neg =>
    have : decide (0 ≤ hx ∧ hx < h ∧ 0 ≤ lx ∧ lx < f.homes.length) = false := by simp [a3]
    rw [this] at hk
    simp -implicitDefEqProofs [a1, a2, a3, c0]
    exact hk
  simp -implicitDefEqProofs only [a1, a2, a3, c0, Ld_some, Bin_lss_3, Bin_geq_3, ge_iff_le, decide_true, if_true, Pk_bool, q_some, gd_bool, gl_bool]
  refine Lines_15 fa ?_
  have : decide (0 ≤ hx ∧ hx < h ∧ 0 ≤ lx ∧ lx < f.homes.length) = decide (lx < f.homes.length) := by simp [a1, a2, a3]
  rw [this] at hk
  simp -implicitDefEqProofs only [Bin_lss_3, q_some, if_true, Pk_bool]
  exact hk
theorem few_new (h s w r : Nat) (data : List Words) : Few (Fab.new h s w r data) := by
  refine .inr fun p hp => ?_
  simp only [Fab.new] at hp
  rw [List.eq_of_mem_replicate hp]
  simp [Cache.all, Cache.new]
theorem Asks_3 {H : Hp} {col : Nat → Rl} {a : Nat → Addr} {h s w r by_ hx lx : Int} {wr : Bool} {Q : Value → Hp → Prop} (st : Start H col) (er : Errs H a) (hq : ∀ H', Ext [] H H' → Q (.bool true) H') :
    NCalls Tryz.prog 3 #[.agg (confC h s w r), .int .i64 by_, .int .i64 hx, .int .i64 lx, .bool wr] H Q := by
  refine E3 ?_
  unfold F3_0
  refine New_i fun H1 b hb1 e1 s1 k1 => ?_
  replace k1 : blk H1 b (confC h s w r) := by simpa using k1
  refine first_9 (st.ext e1) fun H2 e2 => ?_
  have k2 := k1.ext e2 (by simp)
  have E2 := e1.trans e2
  have cf : ∀ {G : Hp}, blk G b (confC h s w r) → cellsAt G ⟨b, 0, none⟩ 4 = some (confC h s w r) := fun k => by rw [k.cells]; simp [confC]
  simp -implicitDefEqProofs only [un_not, Bool.not_true, q_some, condV_bool, Bool.false_eq_true, if_false, LdA_some, cf k2, Option.map_some]
  have ev : ∀ {G : Hp}, Ext [] H G → cellAt G ⟨0, 0, none⟩ = some (errV (a 0)) := fun e => by rw [((er.ext e).c 0 (by omega)).cell]; rfl
  refine Valid_10 ⟨_, _, rfl⟩ (ev E2) fun H3 e3 => ?_
  have E3 := E2.trans e3
  have k3 := k2.ext e3 (by simp)
  refine good_3 k3 ?_
  -- the memory
  obtain ⟨B, hB⟩ : ∃ B : Nat, by_ % 64 = B := ⟨(by_ % 64).toNat, by omega⟩
  have hB6 : B < 64 := by omega
  have wb1 : IntKind.wrap .i64 ((B : Int) + 1) = ((B + 1 : Nat) : Int) := by rw [w64 (by omega) (by omega)]; simp
  have wb2 : IntKind.wrap .i64 (((B + 1 : Nat) : Int) * 16) = ((16 * (B + 1) : Nat) : Int) := by rw [w64 (by omega) (by omega)]; omega
  cases hc : confOk h s w r with
  | false =>
    have eql : Bin Tryz.prog H3 .eql 26 true (errV (a 0)) .nilIface = some (.bool false) := Bin_eql_26_some H3 true _ _
    simp -implicitDefEqProofs only [Bool.false_eq_true, if_false, eql, q_some, Bin_neq_4, beq_self_eq_true, Bool.not_true, gd_bool, if_true, un_not, Bool.not_false, gl_bool]
    refine Is_11 (er.ext E3) fun H4 e4 => ?_
    have E4 := E3.trans e4
    have k4 := k3.ext e4 (by simp)
    simp -implicitDefEqProofs only [un_not, Bool.not_true, q_some, Pk_bool, if_true, Bool.false_eq_true, if_false, condV_bool]
    refine Number_12 (by omega) ?_
    simp -implicitDefEqProofs only [hB, Bin_add_3, wb1, q_some, Bin_mul_3, wb2]
    refine New_13 (ws := []) (bw := 0) ⟨by omega, by omega, by omega⟩ (Slc.nil _ _ _) (by simp) (by simp) fun H5 bm bb e5 m5 g1 g2 => ?_
    have E5 := E4.trans e5
    have k5 := k4.ext e5 (by simp)
    have st5 := st.ext E5
    simp -implicitDefEqProofs only [Ex_tuple, List.getElem?_toArray, List.getElem?_cons_zero, List.getElem?_cons_succ, q_some, Bin_eql_30, Option.isNone_some, gd_bool, if_true, Bin_neq_26_nil, Pk_bool, Bool.false_eq_true, if_false, condV_bool, LdA_some, cf k5, Option.map_some]
    refine New_14 st5.gl (ev E5) m5 (by rw [memNew_len]; omega) st5.col (fun _ H6 e6 => ?_) (fun hf => by rw [hc] at hf; cases hf)
    have E6 := E5.trans e6
    simp -implicitDefEqProofs only [Ex_tuple, List.getElem?_toArray, List.getElem?_cons_zero, List.getElem?_cons_succ, q_some, un_not, Bool.not_false, condV_bool, if_true, gd_bool, Bin_eql_33, Option.isNone_none, Pk_bool, gl_bool]
    refine Is_11 (er.ext E6) fun H7 e7 => ?_
    exact hq H7 (E6.trans e7)
  | true =>
    have eql : Bin Tryz.prog H3 .eql 26 true .nilIface .nilIface = some (.bool true) := Bin_eql_26_nil H3
    simp -implicitDefEqProofs only [if_true, eql, q_some, Bin_neq_4, beq_self_eq_true, Bool.not_true, gd_bool, un_not, Bool.not_false, gl_bool, Bool.false_eq_true, if_false, gd_undef, Pk_bool, condV_bool]
    refine Number_12 (by omega) ?_
    simp -implicitDefEqProofs only [hB, Bin_add_3, wb1, q_some, Bin_mul_3, wb2]
    refine New_13 (ws := []) (bw := 0) ⟨by omega, by omega, by omega⟩ (Slc.nil _ _ _) (by simp) (by simp) fun H5 bm bb e5 m5 g1 g2 => ?_
    have E5 := E3.trans e5
    have k5 := k3.ext e5 (by simp)
    have st5 := st.ext E5
    simp -implicitDefEqProofs only [Ex_tuple, List.getElem?_toArray, List.getElem?_cons_zero, List.getElem?_cons_succ, q_some, Bin_eql_30, Option.isNone_some, gd_bool, if_true, Bin_neq_26_nil, Pk_bool, Bool.false_eq_true, if_false, condV_bool, LdA_some, cf k5, Option.map_some]
    refine New_14 st5.gl (ev E5) m5 (by rw [memNew_len]; omega) st5.col (fun hf => by rw [hc] at hf; cases hf) (fun _ H6 col6 bf sk e6 S6 fa6 => ?_)
    have E6 := E5.trans e6
    have k6 := k5.ext e6 (by simp)
    rw [memNew_len, show 16 * (B + 1) / 16 = B + 1 by omega] at fa6
    generalize hdt : (List.range (B + 1)).map (lineOf (memNew (16 * (B + 1)) [])) = data at fa6
    have hdl : data.length = B + 1 := by rw [← hdt]; simp
    have hcf := confOk_cases hc
    have ok6 : FabOk (Fab.new h.toNat s.toNat w.toNat r.toNat data) := by
      refine FabOk.new ⟨hcf.1, hcf.2.1⟩ ⟨hcf.2.2.1, hcf.2.2.2.1⟩ ⟨hcf.2.2.2.2.1, hcf.2.2.2.2.2.1⟩ hcf.2.2.2.2.2.2.1 (by omega) ?_
      intro d hd
      rw [← hdt] at hd
      simp only [List.mem_map] at hd
      obtain ⟨i, _, rfl⟩ := hd
      exact lineOf_u32 (memNew_bytes _ _) i
    have L6 : Law H col H6 col6 bf sk (Fab.new h.toNat s.toNat w.toNat r.toNat data) := ⟨st, E6, fun x hx => S6 x (by have := E5.size; omega), fa6, ok6⟩
    have hhl : (Fab.new h.toNat s.toNat w.toNat r.toNat data).homes.length = B + 1 := by simp [Fab.new, hdl]
    simp -implicitDefEqProofs only [Ex_tuple, List.getElem?_toArray, List.getElem?_cons_zero, List.getElem?_cons_succ, q_some, un_not, Bool.not_true, condV_bool, Bool.false_eq_true, if_false, gd_bool, Bin_eql_33, Option.isNone_some, if_true, Bin_neq_26_nil, Pk_bool, gl_bool]
    refine Lines_15 fa6 ?_
    have hq16 : IntKind.wrap .i64 (Int.tdiv ((16 * (B + 1) : Nat) : Int) 16) = ((B + 1 : Nat) : Int) := by
      rw [Int.tdiv_eq_ediv_of_nonneg (by omega), w64 (by omega) (by omega)]; omega
    have hne : (((B + 1 : Nat) : Int) != ((B + 1 : Nat) : Int)) = false := by simp
    rw [hhl]
    simp -implicitDefEqProofs only [q_some, Bin_quo_3 _ _ _ (16 : Int) (by omega), hq16, Bin_neq_3, hne, gd_bool, if_true, Pk_bool, Bool.false_eq_true, if_false, condV_bool]
    refine in_3 k6 fa6 ?_
    by_cases hin : 0 ≤ hx ∧ hx < h ∧ 0 ≤ lx ∧ lx < ((Fab.new h.toNat s.toNat w.toNat r.toNat data).homes.length : Int)
    · rw [decide_eq_true hin]
      rw [hhl] at hin
      obtain ⟨i1, i2, i3, i4⟩ := hin
      obtain ⟨hn, rfl⟩ := Int.eq_ofNat_of_zero_le i1
      obtain ⟨ln, rfl⟩ := Int.eq_ofNat_of_zero_le i3
      have hh : hn < h.toNat := by omega
      have hl : ln < data.length := by omega
      have hw1 : 1 ≤ w.toNat := by omega
      have hr1 : 1 ≤ r.toNat := by omega
      have A1 := Alone.ask_eq (S := s.toNat) (w := wr) hh hl hw1 hr1
      have wl : IntKind.wrap .i64 (16 * (ln : Int)) = 16 * (ln : Int) := by rw [w64 (by omega) (by omega)]
      have wu : IntKind.wrap .u32 (16 * (ln : Int)) = 16 * (ln : Int) := by rw [wu32 (by omega) (by omega)]
      have wn : IntKind.wrap .u32 ((16 * (B + 1) : Nat) : Int) = 16 * (data.length : Int) := by rw [wu32 (by omega) (by omega), hdl]; omega
      refine Ask_16 fa6 ok6 (by simp [Fab.new]) fun H7 col7 m7 S7 fa7 => ?_
      have ok7 := ok6.ask (few_new _ _ _ _ _) (hn : Int) (ln : Int) wr
      rw [A1] at fa7 ok7 ⊢
      have L7 := L6.step m7 S7 fa7 ok7
      simp -implicitDefEqProofs only [Bin_neq_4, beq_self_eq_true, Bool.not_true, q_some, condV_bool, Bool.false_eq_true, if_false, un_not, Bin_mul_3, wl, cv_3_40, wu]
      -- read, in vain
      refine Read_18 L7.fa L7.ok (by unfold U32; omega) fun H8 col8 m8 S8 fa8 => ?_
      have ok8 := L7.ok.read (hn : Int) (16 * (ln : Int)) 4
      rw [Alone.read_f1 hh hl hw1 hr1] at fa8 ok8 ⊢
      have L8 := L7.step m8 S8 fa8 ok8
      simp -implicitDefEqProofs only [Ex_tuple, List.getElem?_toArray, List.getElem?_cons_zero, List.getElem?_cons_succ, q_some, gd_bool, if_true, gl_bool]
      refine Ask_16 L8.fa L8.ok (by simp [Alone.f1]) fun H9 col9 m9 S9 fa9 => ?_
      rw [Alone.ask_f1 hh hl hw1 hr1] at fa9 ⊢
      have L9 := L8.step m9 S9 fa9 ok8
      simp -implicitDefEqProofs only [Pk_bool, Bool.false_eq_true, if_false, q_some, gd_bool, if_true, un_not, gl_bool]
      refine Ask_16 L9.fa L9.ok (by simp [Alone.f1]) fun Ha cola ma Sa faa => ?_
      rw [Alone.ask_f1 hh hl hw1 hr1] at faa ⊢
      have La := L9.step ma Sa faa ok8
      simp -implicitDefEqProofs only [Pk_bool, Bool.false_eq_true, if_false, q_some, gd_bool, if_true, un_not, gl_bool]
      refine Settle_19 (N := 60) La.fa La.ok (Alone.settle_eq hh hl hw1 hr1) (by simp [Alone.f1]) fun Hb colb mb Sb fab okb _ => ?_
      have Lb := La.step mb Sb fab okb
      simp -implicitDefEqProofs only [Pk_bool, Bool.false_eq_true, if_false, q_some, gd_bool, if_true, un_not, Bool.not_true, condV_bool]
      -- now it has it
      refine Read_18 Lb.fa Lb.ok (by unfold U32; omega) fun Hc colc mc Sc fac => ?_
      obtain ⟨rd1, rd2⟩ := Alone.read_f4 (S := s.toNat) (w := wr) hh hl hw1 hr1
      have Lc := Lb.step mc Sc fac (Lb.ok.read (hn : Int) (16 * (ln : Int)) 4)
      rw [rd1]
      simp -implicitDefEqProofs only [Ex_tuple, List.getElem?_toArray, List.getElem?_cons_zero, List.getElem?_cons_succ, q_some, gd_bool, if_true, Pk_bool, gl_bool]
      refine Write_20 Lc.fa Lc.ok (by unfold U32; omega) (by unfold U32; omega) fun Hd cold md Sd fad => ?_
      obtain ⟨wr1, l, ls, lw, wr2⟩ := Alone.write_f5 hl rd2
      have Ld := Lc.step md Sd fad (Lc.ok.write (hn : Int) (16 * (ln : Int)) 4 5 (by omega) (by unfold U32; omega))
      rw [wr1]
      simp -implicitDefEqProofs only [Pk_bool, q_some, gd_bool, if_true, gl_bool]
      have hnx : ∀ {f f' : Fab} {k : Nat}, f'.net.next ≤ f.net.next + k → f.net.next ≤ 100 → k ≤ 100 → f'.net.next ≤ 2 ^ 18 := by intro f f' k h1 h2 h3; omega
      have hx4 : (Alone.f4 h.toNat s.toNat w.toNat r.toNat data hn ln wr).net.next = 3 := rfl
      have lk1 := (like_read (Alone.f4 h.toNat s.toNat w.toNat r.toNat data hn ln wr) (hn : Int) (16 * (ln : Int)) 4).n
      have lk2 := (like_write ((Alone.f4 h.toNat s.toNat w.toNat r.toNat data hn ln wr).read (hn : Int) (16 * (ln : Int)) 4).1 (hn : Int) (16 * (ln : Int)) 4 5).n
      refine Ask_16 Ld.fa Ld.ok (by omega) fun He cole me Se fae => ?_
      rw [Alone.ask_f6 hl wr2 ls lw] at fae ⊢
      have Le := Ld.step me Se fae Ld.ok
      simp -implicitDefEqProofs only [un_not, Bool.not_false, Pk_bool, q_some, gd_bool, if_true, gl_bool, cv_3_40, wn]
      refine Write_20 Le.fa Le.ok (by unfold U32; omega) (by unfold U32; omega) fun Hf colf mf Sf faf => ?_
      rw [Alone.write_f7 wr2.b] at faf ⊢
      have Lf := Le.step mf Sf faf Ld.ok
      simp -implicitDefEqProofs only [un_not, Bool.not_false, Pk_bool, q_some, gd_bool, if_true]
      exact hq Hf Lf.e
    · rw [decide_eq_false hin]
      rw [hhl] at hin
      have A0 : (Fab.new h.toNat s.toNat w.toNat r.toNat data).ask hx lx wr = (Fab.new h.toNat s.toNat w.toNat r.toNat data, false) := Alone.ask_out (by rintro ⟨j1, j2, j3, j4⟩; apply hin; omega)
      refine Ask_16 fa6 ok6 (by simp [Fab.new]) fun H7 col7 m7 S7 fa7 => ?_
      rw [A0] at fa7 ⊢
      have L7 := L6.step m7 S7 fa7 ok6
      simp -implicitDefEqProofs only [Bin_neq_4, beq_self_eq_true, Bool.not_true, q_some, condV_bool, Bool.false_eq_true, if_false, un_not, Bool.not_false, if_true, gd_bool, gl_bool]
      refine Flights_17 L7.fa (by simp [Fab.new]) fun H8 v b8 e8 hs8 _ => ?_
      obtain ⟨a8, c8, hv8, _, _⟩ := hs8.shape
      have hz : (flsC (Fab.new h.toNat s.toNat w.toNat r.toNat data).net.l).length = 0 := rfl
      rw [hz] at hv8
      rw [hv8]
      simp -implicitDefEqProofs only [len_38, q_some, Bin_eql_3, Pk_bool]
      exact hq H8 (L7.alloc e8).e
end YtacidjifocfhkaaGreatDoor
end Go.Proofs
namespace Go.Proofs
namespace YtacidjifocfhkaaGreatDoor
open Go Go.NW Go.Pm
open Go.ChangeShapes Go.WideShapes Go.ChangeAt Go.WideMaps Go.WideElems Go.RowKit
/-- the errors' colours -/
def gcol (b : Nat) : Rl := if b < 5 then .glob else .other
theorem kept_of_ext {w w' : World} (e : Ext [] w.heap w'.heap) (s : SameW w w') (may : MemPlace → Prop) : w.keptBut w' may := by
  refine ⟨s.os, s.output, fun i hi => ?_⟩
  rw [e.same i hi (by simp)]
  exact (World.keptBut_refl w may).2.2 i hi
end YtacidjifocfhkaaGreatDoor
end Go.Proofs
namespace Go.Proofs
namespace YtacidjifocfhkaaGreatDoor
open Go Go.NW Go.Pm
open Go.ChangeShapes Go.WideShapes Go.ChangeAt Go.WideMaps Go.WideElems Go.RowKit
theorem own0 : ownKnob Tryz.prog.godebug = none := by kernel_rfl
theorem gn0 : Tryz.prog.globalNamed "corral/api.ErrRange" = some 0 := by kernel_rfl
theorem gn1 : Tryz.prog.globalNamed "corral/api.ErrMany" = some 1 := by kernel_rfl
theorem gn2 : Tryz.prog.globalNamed "corral/api.ErrKind" = some 2 := by kernel_rfl
theorem gn3 : Tryz.prog.globalNamed "corral/api.ErrFull" = some 3 := by kernel_rfl
theorem gn4 : Tryz.prog.globalNamed "corral/api.ErrPlace" = some 4 := by kernel_rfl
theorem gt0 : (Tryz.prog.globals[0]?).map (·.type) = some 26 := by kernel_rfl
theorem gt1 : (Tryz.prog.globals[1]?).map (·.type) = some 26 := by kernel_rfl
theorem gt2 : (Tryz.prog.globals[2]?).map (·.type) = some 26 := by kernel_rfl
theorem gt3 : (Tryz.prog.globals[3]?).map (·.type) = some 26 := by kernel_rfl
theorem gt4 : (Tryz.prog.globals[4]?).map (·.type) = some 26 := by kernel_rfl
end YtacidjifocfhkaaGreatDoor
end Go.Proofs
namespace Go.Proofs
namespace YtacidjifocfhkaaGreatDoor
open Go Go.NW Go.Pm
open Go.ChangeShapes Go.WideShapes Go.ChangeAt Go.WideMaps Go.WideElems Go.RowKit
theorem laidOut0 : laidOutB Tryz.prog = true := by kernel_rfl
theorem below_of {W W' : World} (e : Ext [] W.heap W'.heap) (s : SameW W W') : Below W.heap.size W W' :=
  ⟨s.os, s.tape, s.output, e.size, fun k hk => e.same k hk (by simp)⟩
/-- arguments read as before -/
theorem carry_all {H : Type} {enc : TypeId × Value → H} {P : Program} {W W' : World} (hl : laidOutB P = true) (hb : Below W.heap.size W W') :
    ∀ {ts : List TypeId} {vs : List Value} {ds : List (DataW H)} {p : List MemPlace}, ts.all (fun t => P.readableRec t && decide (t < P.types.size)) = true → (∀ x ∈ p, x.block < W.heap.size) →
      DataW.TrodAll enc P W 0 (fun _ => true) true ts vs ds p → DataW.TrodAll enc P W' 0 (fun b => decide (b < W.heap.size)) true ts vs ds p
  | [], vs, ds, p, _, _, h => by
    obtain ⟨rfl, rfl, rfl⟩ := trodAll_nil h
    exact rfl
  | t :: ts, vs, ds, p, hr, hlt, h => by
    obtain ⟨v, vs', d, ds', p1, p2, rfl, rfl, rfl, h1, h2⟩ := trodAll_cons h
    simp only [List.all_cons, Bool.and_eq_true, decide_eq_true_eq] at hr
    exact ⟨p1, p2, Below.trod hl hr.1.1 hr.1.2 h1 hb fun x hx => hlt x (List.mem_append_left _ hx), carry_all hl hb (by simpa using hr.2) (fun x hx => hlt x (List.mem_append_right _ hx)) h2, rfl⟩
abbrev errD (text : List UInt8) : DataW Unit := .iface "*errors.errorString" (.ptr (.agg [.lit (.string text)]))
def addrOf : Option Value → Addr
  | some (.iface _ (.pointer (some a))) => a
  | _ => ⟨0, 0, none⟩
def addrAt (H : Hp) (k : Nat) : Addr := addrOf (cellAt H ⟨k, 0, none⟩)
theorem addrAt_of {H : Hp} {k : Nat} {a : Addr} (h : blk H k #[errV a]) : addrAt H k = a := by
  unfold addrAt
  rw [h.cell]
  rfl
theorem drop2 {P : Program} {x y : String × DataW Unit} {r : List (String × DataW Unit)} {w : World} (h : laidMet P (x :: y :: r) w) : laidMet P (x :: r) w := by
  obtain ⟨ps, hv, hnd, hrows⟩ := h
  obtain ⟨n, d⟩ := x
  obtain ⟨n2, d2⟩ := y
  obtain ⟨g, t, cs, fuel, p, q, h1, h2, h3, h4, ⟨g2, t2, cs2, fuel2, p2, q2, k1, k2, k3, k4, k5, rfl⟩, rfl⟩ := hv
  have sub : ((MemPlace.row ⟨g, 0, none⟩ cs.size ++ p) ++ q2).Sublist ((MemPlace.row ⟨g, 0, none⟩ cs.size ++ p) ++ ((MemPlace.row ⟨g2, 0, none⟩ cs2.size ++ p2) ++ q2)) :=
    List.Sublist.append (List.Sublist.refl _) (List.sublist_append_right _ _)
  exact ⟨_, ⟨g, t, cs, fuel, p, q2, h1, h2, h3, h4, k5, rfl⟩, List.Nodup.sublist sub hnd, fun b off hm => hrows b off (sub.subset hm)⟩
theorem row236 (u : TypeId) (h : Tryz.prog.typeName? 3 u = some "*errors.errorString") : u = 236 :=
  typeName_ptr_named (nm := "errors.errorString") (by rw [show "*" ++ "errors.errorString" = "*errors.errorString" by decide]; kernel_rfl) (by kernel_rfl) (by decide) u (by rw [show "*" ++ "errors.errorString" = "*errors.errorString" by decide]; exact h)
theorem cells252 : Tryz.prog.cellsOf 252 = 1 := by kernel_rfl
theorem cells9 : Tryz.prog.cellsOf 9 = 1 := by kernel_rfl
theorem laid_pair0 {P : Program} {n1 n2 : String} {t1 t2 : List UInt8} {r : List (String × DataW Unit)} {W : World} {g1 g2 : Nat} {ti ts : TypeId} {ms : Array (String × TypeId)} {f : Field} (h : laidMet P ((n1, errD t1) :: (n2, errD t2) :: r) W)
    (hg1 : P.globalNamed n1 = some g1) (ht1 : (P.globals[g1]?).map (·.type) = some ti) (hg2 : P.globalNamed n2 = some g2) (ht2 : (P.globals[g2]?).map (·.type) = some ti)
    (hi : P.underlying ti = some (.interface ms)) (hrow : ∀ u, P.typeName? 3 u = some "*errors.errorString" → u = 236)
    (hp : P.underlying 236 = some (.pointer 252)) (he : P.underlying 252 = some (.struct #[f])) (hft : f.type = ts) (hfo : f.offset = 0) (hs : P.underlying ts = some .string) (hc : P.cellsOf 252 = 1) (hcs : P.cellsOf ts = 1) :
    ∃ a1 a2, (blk W.heap g1 #[errV a1] ∧ ∃ cs, blk W.heap a1.block cs) ∧ (blk W.heap g2 #[errV a2] ∧ ∃ cs, blk W.heap a2.block cs) ∧ a1 ≠ a2 := by
  obtain ⟨ps, ⟨g0, t0, cs0, f0, p0, q0, hg0, ht0, hv0, hd0, ⟨g1', t1', cs1, f1, p1, q1, hg1', ht1', hv1, hd1, hq1, rfl⟩, rfl⟩, hnd, hrows⟩ := h
  obtain rfl := Option.some.inj (hg1.symm.trans hg0)
  obtain rfl := Option.some.inj (hg2.symm.trans hg1')
  obtain rfl := Option.some.inj (ht1.symm.trans ht0)
  obtain rfl := Option.some.inj (ht2.symm.trans ht1')
  obtain ⟨l0⟩ := cs0
  obtain ⟨l1⟩ := cs1
  have ok0 : ∀ u v, l0 = [.iface u v] → Value.okWide P W .any 0 u v := fun u v e => by
    subst e
    exact (hrows g1 0 (by simp [MemPlace.row])).2 u v (by simpa using World.var?_cell hg0 hv0 0)
  have ok1 : ∀ u v, l1 = [.iface u v] → Value.okWide P W .any 0 u v := fun u v e => by
    subst e
    exact (hrows g2 0 (by simp [MemPlace.row])).2 u v (by simpa using World.var?_cell hg1' hv1 0)
  obtain ⟨a0, s0, rfl, hc0, hs0, hz0, rfl⟩ := errorString_of_trod hi hrow hp he hft hfo hs hc hcs hd0 ok0
  obtain ⟨a1, s1, rfl, hc1, hs1, hz1, rfl⟩ := errorString_of_trod hi hrow hp he hft hfo hs hc hcs hd1 ok1
  have look : ∀ {n : String} {g : Nat} {c : Value}, P.globalNamed n = some g → W.var? P n = some ⟨[c]⟩ → (∃ cs t, W.heap[g]? = some (.cells cs t (0, 0))) → blk W.heap g #[c] := by
    intro n g c hg hv ⟨cs, t, hb⟩
    unfold World.var? at hv
    rw [hg] at hv
    simp only [Option.bind_some, hb, Option.some.injEq] at hv
    subst hv
    exact ⟨t, hb⟩
  obtain ⟨c0, u0, hb0⟩ := (hrows a0.block a0.off (by simp [MemPlace.row])).1
  obtain ⟨c1, u1, hb1⟩ := (hrows a1.block a1.off (by simp [MemPlace.row])).1
  refine ⟨a0, a1, ⟨look hg0 hv0 (hrows g1 0 (by simp [MemPlace.row])).1, c0, u0, hb0⟩, ⟨look hg1' hv1 (hrows g2 0 (by simp [MemPlace.row])).1, c1, u1, hb1⟩, ?_⟩
  rintro rfl
  simp [MemPlace.row] at hnd
theorem laid_pair {n1 n2 : String} {t1 t2 : List UInt8} {r : List (String × DataW Unit)} {W : World} {g1 g2 : Nat} (h : laidMet Tryz.prog ((n1, errD t1) :: (n2, errD t2) :: r) W)
    (hg1 : Tryz.prog.globalNamed n1 = some g1) (ht1 : (Tryz.prog.globals[g1]?).map (·.type) = some 26) (hg2 : Tryz.prog.globalNamed n2 = some g2) (ht2 : (Tryz.prog.globals[g2]?).map (·.type) = some 26) :
    (blk W.heap g1 #[errV (addrAt W.heap g1)] ∧ ∃ cs, blk W.heap (addrAt W.heap g1).block cs) ∧ (blk W.heap g2 #[errV (addrAt W.heap g2)] ∧ ∃ cs, blk W.heap (addrAt W.heap g2).block cs) ∧ addrAt W.heap g1 ≠ addrAt W.heap g2 := by
  obtain ⟨a1, a2, h1, h2, h3⟩ := laid_pair0 h hg1 ht1 hg2 ht2 Tryz.underlying26 row236 Tryz.underlying236 Tryz.underlying252 rfl rfl Tryz.underlying9 cells252 cells9
  rw [addrAt_of h1.1, addrAt_of h2.1]
  exact ⟨h1, h2, h3⟩
theorem gn5 : Tryz.prog.globalNamed "corral/api.ErrShape" = some 5 := by kernel_rfl
theorem gn6 : Tryz.prog.globalNamed "corral/api.ErrWord" = some 6 := by kernel_rfl
theorem gn7 : Tryz.prog.globalNamed "corral/api.ErrNone" = some 7 := by kernel_rfl
theorem gn8 : Tryz.prog.globalNamed "corral/api.ErrTrace" = some 8 := by kernel_rfl
theorem gn9 : Tryz.prog.globalNamed "corral/api.ErrOrder" = some 9 := by kernel_rfl
theorem gna : Tryz.prog.globalNamed "corral/api.ErrValue" = some 10 := by kernel_rfl
theorem gt5 : (Tryz.prog.globals[5]?).map (·.type) = some 26 := by kernel_rfl
theorem gt6 : (Tryz.prog.globals[6]?).map (·.type) = some 26 := by kernel_rfl
theorem gt7 : (Tryz.prog.globals[7]?).map (·.type) = some 26 := by kernel_rfl
theorem gt8 : (Tryz.prog.globals[8]?).map (·.type) = some 26 := by kernel_rfl
theorem gt9 : (Tryz.prog.globals[9]?).map (·.type) = some 26 := by kernel_rfl
theorem gta : (Tryz.prog.globals[10]?).map (·.type) = some 26 := by kernel_rfl
/-- the listed eleven, in the rows' order -/
def laid11 : List (String × DataW Unit) := [("corral/api.ErrMany", Rows.laid_corral_api_ErrMany), ("corral/api.ErrKind", Rows.laid_corral_api_ErrKind), ("corral/api.ErrPlace", Rows.laid_corral_api_ErrPlace), ("corral/api.ErrShape", Rows.laid_corral_api_ErrShape), ("corral/api.ErrWord", Rows.laid_corral_api_ErrWord), ("corral/api.ErrRange", Rows.laid_corral_api_ErrRange), ("corral/api.ErrFull", Rows.laid_corral_api_ErrFull), ("corral/api.ErrNone", Rows.laid_corral_api_ErrNone), ("corral/api.ErrTrace", Rows.laid_corral_api_ErrTrace), ("corral/api.ErrOrder", Rows.laid_corral_api_ErrOrder), ("corral/api.ErrValue", Rows.laid_corral_api_ErrValue)]
theorem laid11_door (os : Os) (args : Array Value) : laidMetH Tryz.prog laid11 ((World.doorLaid Tryz.prog 400 os).forCall (fun _ _ => 0) ⟨#[], args, []⟩).memory :=
  laidMetH_of_parts3 (fuel := 8) (laidMet_of_run' 8 (by kernel_rfl) (by kernel_rfl)) (by kernel_rfl) (by kernel_rfl)
theorem laid11_errs {W : World} (h : laidMetH Tryz.prog laid11 W) : Errs W.heap (addrAt W.heap) := by
  rw [MakeChecks.laidMetH_plain _ _ _ (by kernel_rfl)] at h
  have p1 := laid_pair (drop2 (drop2 (drop2 (drop2 h)))) gn1 gt1 gn0 gt0
  have p2 := laid_pair (drop2 (drop2 (drop2 h.tail))) gn2 gt2 gn0 gt0
  have p4 := laid_pair (drop2 (drop2 h.tail.tail)) gn4 gt4 gn0 gt0
  have p5 := laid_pair (drop2 h.tail.tail.tail) gn5 gt5 gn0 gt0
  have p6 := laid_pair h.tail.tail.tail.tail gn6 gt6 gn0 gt0
  have h6 := h.tail.tail.tail.tail.tail.tail
  have p3 := laid_pair h6 gn3 gt3 gn7 gt7
  have p8 := laid_pair h6.tail.tail gn8 gt8 gn9 gt9
  have p9 := laid_pair h6.tail.tail.tail gn9 gt9 gna gta
  have all : ∀ k, k < 11 → blk W.heap k #[errV (addrAt W.heap k)] ∧ ∃ cs, blk W.heap (addrAt W.heap k).block cs := by
    intro k hk
    match k, hk with
    | 0, _ => exact p1.2.1
    | 1, _ => exact p1.1
    | 2, _ => exact p2.1
    | 3, _ => exact p3.1
    | 4, _ => exact p4.1
    | 5, _ => exact p5.1
    | 6, _ => exact p6.1
    | 7, _ => exact p3.2.1
    | 8, _ => exact p8.1
    | 9, _ => exact p8.2.1
    | 10, _ => exact p9.2.1
  refine ⟨fun k hk => (all k hk).1, fun k hk => (all k hk).2, fun k hk => ?_⟩
  rcases hk with rfl | rfl | rfl | rfl | rfl
  · exact p1.2.2.symm
  · exact p2.2.2.symm
  · exact p4.2.2.symm
  · exact p5.2.2.symm
  · exact p6.2.2.symm
theorem errs_start {H : Hp} {a : Nat → Addr} (e : Errs H a) : Start H gcol :=
  ⟨fun b hb => ⟨by simp [gcol, hb], _, _, _, e.c b (by omega), rfl⟩, fun x => by unfold gcol; split <;> simp⟩
set_option maxRecDepth 100000 in
theorem lifted_3 (os : Os) (started : os.Started) (H : Type) (enc : TypeId × Value → H) :
    ReturnsInHanded {} Tryz.checked os 3 .any (fun w args => (Rows.fabricAsksSpec.pre enc Tryz.prog Tryz.f3 [] false w args ∧ laidMetH Tryz.prog laid11 w) ∧ sizedMet enc Tryz.prog Tryz.f3 (OpenSpec.ofChange Rows.fabricAsksSpec) false w args)
      (Rows.fabricAsksSpec.post enc Tryz.prog Tryz.f3 false true false false) := by
  refine returnsInHanded_of_change_and (C := Tryz.checked) (X := fun w _ => laidMetH Tryz.prog laid11 w) (fun _ _ _ hh h => h.of_heap hh) own0 started (by kernel_rfl) Tryz.func3
    (ChangeSpec.witness_shaped (enc := enc) (C := Tryz.checked) (os := os) (X := fun w _ => laidMetH Tryz.prog laid11 w) false (World.doorLaid Tryz.prog 400 os) #[.agg #[.int .i64 0, .int .i64 0, .int .i64 0, .int .i64 0], .int .i64 0, .int .i64 0, .int .i64 0, .bool false] 8 rfl (World.shaped_of_RefB (by kernel_rfl) (by kernel_rfl)) (by kernel_rfl) (by kernel_rfl) (by kernel_rfl) (laid11_door os _)) ?_
  intro W base args ds gs before hval0 hW _ _ hL _
  have hval : ∀ (j : Nat) t v, Tryz.f3.params[j]? = some t → args[j]? = some v → Value.okWide Tryz.prog W .any base t v := hval0
  have hW' := hW
  have hlt : ∀ x ∈ before, x.block < W.heap.size := fun x hx => by simpa using hW'.lt x hx
  obtain ⟨p, q, hA0, hV, rfl, hfz, hnd⟩ := hW
  have hA : DataW.TrodAll enc Tryz.prog W 0 (fun _ => true) true Tryz.f3.params.toList args.toList ds p := hA0
  rw [Tryz.params3] at hA hval
  have hA1 := hA
  obtain ⟨rfl, rfl⟩ := trodVars_none hV
  obtain ⟨v0, vs0, d0, ds0, p0, q0, hargs, rfl, rfl, h0, r0⟩ := trodAll_cons hA
  obtain ⟨v1, vs1, d1, ds1, p1, q1, rfl, rfl, rfl, h1, r1⟩ := trodAll_cons r0
  obtain ⟨v2, vs2, d2, ds2, p2, q2, rfl, rfl, rfl, h2, r2⟩ := trodAll_cons r1
  obtain ⟨v3, vs3, d3, ds3, p3, q3, rfl, rfl, rfl, h3, r3⟩ := trodAll_cons r2
  obtain ⟨v4, vs4, d4, ds4, p4, q4, rfl, rfl, rfl, h4, r4⟩ := trodAll_cons r3
  obtain ⟨rfl, rfl, rfl⟩ := trodAll_nil r4
  obtain rfl : args = #[v0, v1, v2, v3, v4] := by cases args; simp_all
  obtain ⟨x0, x1, x2, x3, y0, y1, y2, y3, n, rfl, rfl, rfl, t0, t1, t2, t3⟩ := Go.Joins.open_agg4 Tryz.underlying23 (by kernel_rfl) (by kernel_rfl) (hval 0 23 v0 rfl rfl) h0
  obtain ⟨c0, e0, _, _⟩ := DataW.trod_int Tryz.underlying3 t0
  obtain ⟨c1, e1, _, _⟩ := DataW.trod_int Tryz.underlying3 t1
  obtain ⟨c2, e2, _, _⟩ := DataW.trod_int Tryz.underlying3 t2
  obtain ⟨c3, e3, _, _⟩ := DataW.trod_int Tryz.underlying3 t3
  obtain rfl := List.head_eq_of_cons_eq e0
  obtain rfl := List.head_eq_of_cons_eq e1
  obtain rfl := List.head_eq_of_cons_eq e2
  obtain rfl := List.head_eq_of_cons_eq e3
  obtain ⟨b1, rfl, rfl, rfl, w1⟩ := open_int Tryz.underlying3 (hval 1 3 v1 rfl rfl) h1
  obtain ⟨b2, rfl, rfl, rfl, w2⟩ := open_int Tryz.underlying3 (hval 2 3 v2 rfl rfl) h2
  obtain ⟨b3, rfl, rfl, rfl, w3⟩ := open_int Tryz.underlying3 (hval 3 3 v3 rfl rfl) h3
  obtain ⟨b4, rfl, rfl, rfl⟩ := open_bool Tryz.underlying4 (hval 4 4 v4 rfl rfl) h4
  have er := laid11_errs hL
  have hc := (Asks_3 (h := c0) (s := c1) (w := c2) (r := c3) (by_ := b1) (hx := b2) (lx := b3) (wr := b4) (Q := fun r H' => r = .bool true ∧ Ext [] W.heap H') (errs_start er) er fun H' e => ⟨rfl, e⟩).body (by kernel_rfl)
  refine (hc.2 W rfl).mono fun e W2 ⟨r, he, ⟨hr, hx⟩, hs⟩ => ?_
  subst he; subst hr
  refine ⟨_, rfl, ?_⟩
  have hps := carry_all laidOut0 (below_of hx hs) (by kernel_rfl) (fun x hx => hlt x (List.mem_append_left _ hx)) hA1
  exact ⟨_, _, _, [], _, [], hW', trodAll_mk1 (shut_bool Tryz.underlying4 _), hps, rfl, kept_of_ext hx hs _, fun h => by cases h⟩
theorem fabricAsks_row : Rows.FabricAsksSaid :=
  OpenClaim.holds_of_wide 3 Tryz.f3 rfl rfl rfl rfl rfl rfl rfl ⟨rfl, rfl, rfl, rfl, rfl⟩ rfl rfl rfl rfl rfl (by kernel_rfl) Tryz.func3 (by kernel_rfl)
    (of_decide_eq_true (by kernel_rfl)) (by unfold Func.isWrapper; first | (rw [if_pos (by decide +kernel)]; kernel_rfl) | (rw [if_neg (by decide +kernel)]; exact ⟨rfl, rfl⟩))
    (fun os started H enc _ => lifted_3 os started H enc)
end YtacidjifocfhkaaGreatDoor
end Go.Proofs
namespace Go.Proofs
namespace YtacidjifocfhkaaGreatDoor
open Go
theorem fabricAsks_holds : Rows.FabricAsksCardSaid :=
  Claim7.holds_tied_plain_at .later [] [.sentinel, .sentinel, .sentinel, .sentinel, .sentinel, .sentinel, .sentinel, .sentinel, .sentinel, .sentinel, .sentinel] true (true, "beaddecdb8a3510ccd37603628731803452b6c12f03e012ac52c753f3fbf71ac") true
    fabricAsks_row (fun _ h => by cases h) (by kernel_rfl) (fun _ h => by cases h) fabricAsks_row_tie rfl ⟨rfl, rfl⟩ (by kernel_rfl) rfl
    (fun f fn hf hfn => by
      obtain rfl : f = 3 := Option.some.inj ((show Tryz.prog.funcNamed "corral/corrallaw20.FabricAsks" = some 3 by kernel_rfl).symm.trans hf) |>.symm
      obtain rfl : fn = Tryz.f3 := (Option.some.inj (Tryz.func3.symm.trans hfn)).symm
      exact ⟨by kernel_rfl, fun j t ht => by
        rw [Tryz.params3] at ht
        have hm : t ∈ [23, 3, 3, 3, 4] := by simpa using Array.mem_of_getElem? ht
        have hall : ([23, 3, 3, 3, 4].all fun u => !Tryz.prog.wantsStandIn u) = true := by kernel_rfl
        exact (show Tryz.prog.wantsStandIn t = false by simpa using List.all_eq_true.1 hall t hm)⟩)
    (by kernel_rfl)
end YtacidjifocfhkaaGreatDoor
end Go.Proofs
#print axioms Go.Proofs.YtacidjifocfhkaaGreatDoor.fabricAsks_holds
