/-
  Part 5 of the proof of: PROVED: for every number of harts and ways and every list of turns, FabricTurns returns true, and all arguments read afterwards as they read before. CONDITIONS: the five errors of package api that the row lists read, when the call begins, as the program's text lays them (the card ties them); nothing else is asked.
-/
import Derived.Test.YtacidjifocfhkaaGreatDoorTurnd
namespace Go.NW
open Go
set_option linter.unusedSimpArgs false
set_option linter.unusedVariables false
theorem append_raw {P : Program} {T E n : Nat} (ty : SlTy P T E n) {H : Hp} {x : Value} {ys : List (List Value)} {b b2 o l cap : Nat} {c : Array Value} {K : RT1} (hb : blk H b c) (hsize : o + cap * n ≤ c.size) (hx : Slc H n x ys b2)
    (h1 : ∀ y ∈ ys, y.all one = true) (hfit : l + ys.length ≤ cap)
    (h : ∀ H', Ext [b] H H' → H'.size = H.size → blk H' b (wrL c (o + l * n) ys.flatten) → K (.slice (some ⟨b, o, none⟩) (l + ys.length) cap) H') :
    dm P (Builtin.append_ #[T, T] 0 #[.slice (some ⟨b, o, none⟩) l cap, x]) H K := by
  obtain ⟨inf, z, hi, hn, hz, hzs, hby, hz1⟩ := ty.i
  have hsz : elemSize P E = some n := by simp [elemSize, hi, hn]
  obtain ⟨a2, cap2, hv2, hcap2, hnone2⟩ := hx.shape
  have f2 := rd_firstCells (P := P) hx
  subst hv2
  unfold Builtin.append_
  refine (dm_b (underlying T) _ _ _).2 ((rd_dm _ (rd_underlying ty.u) _).2 ?_)
  refine (dm_b (sizeOf E) _ _ _).2 ((rd_dm _ (rd_sizeOf hsz) _).2 ?_)
  refine (dm_b (underlying T) _ _ _).2 ((rd_dm _ (rd_underlying ty.u) _).2 ?_)
  show dm P (ite (l + ys.length ≤ cap) _ _) H K
  rw [if_pos hfit]
  refine (dm_b (Builtin.firstCells n ys.length (.slice a2 ys.length cap2)) _ _ _).2 ((rd_dm _ f2 _).2 ?_)
  simp only
  have hyl := flatten_len (n := n) (xs := ys) hx.1
  have hmul : l * n + ys.length * n ≤ cap * n := by rw [← Nat.add_mul]; exact Nat.mul_le_mul_right n hfit
  refine (dm_b _ _ _ _).2 ?_
  obtain ⟨T0, hb0⟩ := hb
  refine dm_storeCells (T := T0) (a := Addr.add ⟨b, o, none⟩ (l * n)) (by simp) ys.flatten H c 0 _ (by simpa using hb0) (by simp only [add_mk, Nat.add_zero]; rw [hyl]; omega) ?_ ?_
  · simp only [List.all_flatten, List.all_eq_true]
    intro y hy; exact List.all_eq_true.1 (h1 y hy)
  · simp only [add_mk, Nat.add_zero]
    have hlt := get_lt hb0
    refine h _ ⟨by simp, fun i hi hni => ?_⟩ (by simp) ⟨T0, by rw [Array.getElem?_setIfInBounds]; simp [hlt]⟩
    simp only [List.mem_cons, List.not_mem_nil, or_false] at hni
    rw [Array.getElem?_setIfInBounds, if_neg (fun e => hni e.symm)]
theorem clear_raw {P : Program} {T E n : Nat} (ty : SlTy P T E n) {z : Value} (hz : (P.info? E).bind (·.zero) = some z) {H : Hp} {b o l cap : Nat} {c : Array Value} {K : RT1} (hb : blk H b c) (hl : 0 < l) (hsz : o + l * n ≤ c.size)
    (h : ∀ H', Ext [b] H H' → H'.size = H.size → blk H' b (wrL c o (List.replicate l z.cells.toList).flatten) → K (.tuple #[]) H') : dm P (Builtin.clear_ #[T] 0 #[.slice (some ⟨b, o, none⟩) l cap]) H K := by
  obtain ⟨inf, z', hi, hn, hz', hzs, hby, hz1⟩ := ty.i
  have hzz : z' = z := by simp [hi, hz'] at hz; exact hz
  subst hzz
  have hzv : rd P H (zeroValue E) = some z' := by simp only [zeroValue, rd_b, rd_typeInfo hi, Option.bind_some, hz']; rfl
  unfold Builtin.clear_
  refine (dm_b (underlying T) _ _ _).2 ((rd_dm _ (rd_underlying ty.u) _).2 ?_)
  obtain ⟨m, hm⟩ : ∃ m, l = m + 1 := ⟨l - 1, by omega⟩
  have hrl : (List.replicate l z'.cells.toList).flatten.length = l * n := by
    have := flatten_len (n := n) (xs := List.replicate l z'.cells.toList) (by intro x hx; rw [List.eq_of_mem_replicate hx]; simpa using hzs)
    simpa using this
  have ez : Builtin.zeroCells z'.cells l = ((List.replicate l z'.cells.toList).flatten).toArray := by
    unfold Builtin.zeroCells
    apply Array.ext'
    apply List.ext_getElem?
    intro i
    by_cases hik : i < l * n
    · have hn0 : 0 < n := by
        rcases Nat.eq_zero_or_pos n with h0 | h0
        · subst h0; simp at hik
        · exact h0
      have hq : i / n < l := by rw [Nat.div_lt_iff_lt_mul hn0]; exact hik
      have hmn : i % n < n := Nat.mod_lt _ hn0
      have e := flatten_get (n := n) (xs := List.replicate l z'.cells.toList) (by intro x hx; rw [List.eq_of_mem_replicate hx]; simpa using hzs) (i := i / n) (by simpa using hq) (i % n) hmn
      rw [show i / n * n + i % n = i by rw [Nat.mul_comm]; exact Nat.div_add_mod i n] at e
      rw [List.toList_toArray, e]
      simp [hzs, hik, hmn]
    · rw [List.getElem?_eq_none (by simp [hzs]; omega), List.toList_toArray, List.getElem?_eq_none (by omega)]
  have goal : dm P (do storeCells ⟨b, o, none⟩ (Builtin.zeroCells z'.cells l).toList; pure (Value.tuple #[])) H K := by
    refine (dm_b _ _ _ _).2 ?_
    obtain ⟨T0, hb0⟩ := hb
    have hlt := get_lt hb0
    rw [ez, List.toList_toArray]
    refine dm_storeCells (T := T0) rfl _ H c 0 _ hb0 (by rw [hrl]; simp only [Nat.add_zero]; omega) ?_ ?_
    · rw [List.all_flatten, List.all_eq_true]
      intro x hx'
      rw [List.eq_of_mem_replicate hx']; exact hz1
    · refine h _ ⟨by simp, fun i hi hni => ?_⟩ (by simp) ⟨T0, by rw [Array.getElem?_setIfInBounds]; simp [hlt]⟩
      simp only [List.mem_cons, List.not_mem_nil, or_false] at hni
      rw [Array.getElem?_setIfInBounds, if_neg (fun e => hni e.symm)]
  rw [hm] at goal ⊢
  refine (dm_b (zeroValue E) _ _ _).2 ((rd_dm _ hzv _).2 ?_)
  exact goal
/-- a list with one taken out, in the cells of the old one -/
theorem erase_cells {n o k cap : Nat} {c : Array Value} {xs : List (List Value)} {w : List Value} (g1 : ∀ x ∈ xs, x.length = n) (hk : k < xs.length) (hl : xs.length ≤ cap) (hs : o + cap * n ≤ c.size) (hw : w.length = n)
    (hflat : (c.toList.drop o).take (xs.length * n) = xs.flatten) :
    (((wrL (wrL c (o + k * n) (xs.drop (k + 1)).flatten) (o + (xs.length - 1) * n) w).toList.drop o).take ((xs.eraseIdx k).length * n)) = (xs.eraseIdx k).flatten := by
  have hx := flatten_len (n := n) (xs := xs) g1
  have ht := flatten_len (n := n) (xs := xs.take k) (fun x hx => g1 x (List.mem_of_mem_take hx))
  have hd := flatten_len (n := n) (xs := xs.drop (k + 1)) (fun x hx => g1 x (List.mem_of_mem_drop hx))
  have htl : (xs.take k).length = k := by simp; omega
  have hdl : (xs.drop (k + 1)).length = xs.length - (k + 1) := by simp
  rw [htl] at ht
  rw [hdl] at hd
  have hel : (xs.eraseIdx k).length = xs.length - 1 := by rw [List.length_eraseIdx_of_lt hk]
  have e0 : xs.eraseIdx k = xs.take k ++ xs.drop (k + 1) := List.eraseIdx_eq_take_drop_succ xs k
  have m1 : k * n + (xs.length - (k + 1)) * n = (xs.length - 1) * n := by rw [← Nat.add_mul]; congr 1; omega
  have m2 : (xs.length - 1) * n + n = xs.length * n := by conv => lhs; rhs; rw [← Nat.one_mul n]
                                                          rw [← Nat.add_mul]; congr 1; omega
  have m3 : xs.length * n ≤ cap * n := Nat.mul_le_mul_right n hl
  have m4 : (k + 1) * n = k * n + n := by rw [Nat.add_mul, Nat.one_mul]
  have m5 : (k + 1) * n + (xs.length - (k + 1)) * n = xs.length * n := by rw [← Nat.add_mul]; congr 1; omega
  have fl : ∀ j, j < xs.length * n → c[o + j]? = xs.flatten[j]? := by
    intro j hj
    rw [← hflat, List.getElem?_take, if_pos hj, List.getElem?_drop, Array.getElem?_toList]
  have ef : xs.flatten = (xs.take k).flatten ++ (xs.drop k).flatten := by rw [← List.flatten_append, List.take_append_drop]
  rw [hel]
  apply List.ext_getElem?
  intro j
  rw [List.getElem?_take, List.getElem?_drop, Array.getElem?_toList, e0, List.flatten_append]
  have hsz1 : (wrL c (o + k * n) (xs.drop (k + 1)).flatten).size = c.size := by rw [wrL_size]
  by_cases hj : j < (xs.length - 1) * n
  · rw [if_pos hj, wrL_get _ _ _ _ (by rw [hsz1]; omega), if_neg (by omega), wrL_get _ _ _ _ (by omega)]
    by_cases hj2 : j < k * n
    · rw [if_neg (by omega), List.getElem?_append_left (by omega), fl j (by omega), ef, List.getElem?_append_left (by omega)]
    · rw [if_pos (by omega), List.getElem?_append_right (by omega), ht]
      congr 1; omega
  · rw [if_neg hj, List.getElem?_eq_none (by rw [List.length_append]; omega)]
/-- append to nothing of so many zeros -/
theorem append_make_nil {P : Program} {T E I n : Nat} (ty : SlTy P T E n) (ht : P.underlying I = some (.int .i64)) {H : Hp} {k : Nat} {K : RT1} (hk : 0 < k) (hk2 : k ≤ 2 ^ 20)
    (h : ∀ H' nc c, k ≤ nc → Ext [] H H' → blk H' H.size c → nc * n ≤ c.size → K (.slice (some ⟨H.size, 0, none⟩) k nc) H') :
    dm P (Builtin.append_ #[T, I] 0 #[.slice none 0 0, .int .i64 k]) H K := by
  obtain ⟨inf, z, hi, hn, hz, hzs, hby, hz1⟩ := ty.i
  have hsz : elemSize P E = some n := by simp [elemSize, hi, hn]
  have hzv : ∀ H, rd P H (zeroValue E) = some z := fun H => by simp only [zeroValue, rd_b, rd_typeInfo hi, Option.bind_some, hz]; rfl
  have hw : IntKind.i64.wrap (k : Int) = k := by
    unfold IntKind.wrap; simp [IntKind.bits, IntKind.signed]; omega
  unfold Builtin.append_
  refine (dm_b (underlying T) _ _ _).2 ((rd_dm _ (rd_underlying ty.u) _).2 ?_)
  refine (dm_b (sizeOf E) _ _ _).2 ((rd_dm _ (rd_sizeOf hsz) _).2 ?_)
  refine (dm_b (underlying I) _ _ _).2 ((rd_dm _ (rd_underlying ht) _).2 ?_)
  refine (dm_b (pure true) _ _ _).2 ((rd_dm (pure true) rfl _).2 ?_)
  dsimp only
  rw [if_pos rfl]
  refine (dm_b (asInt (.int .i64 (k : Int))) _ _ _).2 ?_
  rw [rd_dm _ (rfl : rd P H (asInt (.int .i64 (k : Int))) = some (k : Int))]
  show dm P (ite (IntKind.i64.wrap (k : Int) < 0) _ _) H K
  rw [if_neg (by rw [hw]; omega)]
  show dm P (Sem.bind (typeInfo E) _) H K
  rw [dm_bind, rd_dm _ (rd_typeInfo hi)]
  have hb48 : ¬ (IntKind.i64.wrap (k : Int) * (inf.bytes : Int) > 2 ^ 48) := by
    rw [hw]
    have : k * inf.bytes ≤ 2 ^ 20 * 4096 := Nat.mul_le_mul hk2 hby
    have h2 : ((k : Int) * inf.bytes) = ((k * inf.bytes : Nat) : Int) := by simp
    rw [h2]; omega
  show dm P (ite (IntKind.i64.wrap (k : Int) * (inf.bytes : Int) > 2 ^ 48) _ _) H K
  rw [if_neg hb48]
  have htn : (IntKind.i64.wrap (k : Int)).toNat = k := by rw [hw]; simp
  show dm P (ite (0 + (IntKind.i64.wrap (k : Int)).toNat ≤ 0) _ _) H K
  rw [if_neg (by rw [htn]; omega), htn]
  simp only [Nat.zero_add]
  refine (dm_b (typeInfo E) _ _ _).2 ((rd_dm _ (rd_typeInfo hi) _).2 ?_)
  have hmax : ¬ ((k : Int) > IntKind.i64.max ∧ (True ∨ inf.bytes = 0)) := by
    have : IntKind.i64.max = 9223372036854775807 := by rfl
    rw [this]; omega
  show dm P (ite ((k : Int) > IntKind.i64.max ∧ (True ∨ inf.bytes = 0)) _ _) H K
  rw [if_neg hmax]
  refine (dm_b (typeInfo E) _ _ _).2 ((rd_dm _ (rd_typeInfo hi) _).2 ?_)
  have hnext := nextcap_le k 0 (by omega)
  have hmulb : Builtin.nextslicecap k 0 * inf.bytes ≤ (2 * k + 192) * 4096 := Nat.mul_le_mul hnext hby
  show dm P (ite (Builtin.nextslicecap k 0 * inf.bytes > 2 ^ 48) _ _) H K
  rw [if_neg (by omega)]
  refine (dm_b (choose (.appendCap k 0 E)) _ _ _).2 ?_
  intro t
  refine (dm_b (typeInfo E) _ _ _).2 ((rd_dm _ (rd_typeInfo hi) _).2 ?_)
  refine (dm_b (askRoom _) _ _ _).2 ?_
  have hask : ∀ (m : Nat) (K : Unit → Hp → Prop), K () H → dm P (askRoom m) H K := by
    intro m K hk; unfold askRoom; split
    · exact hk
    · exact hk
  refine hask _ _ ?_
  refine (dm_b (Builtin.firstCells n 0 (.slice none 0 0)) _ _ _).2 ?_
  show dm P (Sem.bind (ite (k * n = 0) _ _) _) H K
  have hq : k ≤ Question.cut (.appendCap k 0 E) t := by simp [Question.cut]
  generalize Question.cut (.appendCap k 0 E) t = nc at hq
  have last : ∀ (nw : Array Value), k * n ≤ nw.size → K (.slice (some ⟨H.size, 0, none⟩) k nc) (H.push (.cells (#[] ++ nw ++ Builtin.zeroCells z.cells (nc - k)) E)) := by
    intro nw hnw
    refine h _ nc _ hq (Ext.push H _) ⟨E, by simp; rfl⟩ ?_
    have : nc * n = k * n + (nc - k) * n := by rw [← Nat.add_mul]; congr 1; omega
    simp [Builtin.zeroCells, hzs]; omega
  by_cases h0 : k * n = 0
  · rw [if_pos h0]
    show dm P (Sem.bind (zeroValue E) _) H K
    rw [dm_bind, rd_dm _ (hzv H)]
    exact last #[] (by simp [h0])
  · rw [if_neg h0, dm_bind]
    refine (dm_b (zeroValue E) _ _ _).2 ((rd_dm _ (hzv H) _).2 ?_)
    show dm P (Sem.bind (zeroValue E) _) H K
    rw [dm_bind, rd_dm _ (hzv H)]
    exact last (Builtin.zeroCells z.cells k) (by simp [Builtin.zeroCells, hzs])
end Go.NW
namespace Go.Pm
structure Entry where
  line : Int
  state : Int
  data : Words := .zero
  deriving DecidableEq
structure Cache where
  ways : Nat
  sets : List (List Entry)
  deriving DecidableEq
namespace Cache
def new (sets ways : Nat) : Cache := { ways := ways, sets := List.replicate sets [] }
def idx (c : Cache) (line : Int) : Nat := line.toNat % c.sets.length
def row (c : Cache) (line : Int) : List Entry := c.sets.getD (c.idx line) []
def at? (c : Cache) (line : Int) : Option Nat := if line < 0 then none else (c.row line).findIdx? fun e => e.line == line
def last (l : List Entry) (k : Option Nat) (e : Entry) : List Entry := (match k with | some k => l.eraseIdx k | none => l) ++ [e]
def setRow (c : Cache) (line : Int) (l : List Entry) : Cache := { c with sets := c.sets.set (c.idx line) l }
def use (c : Cache) (line : Int) : Cache := match c.at? line with
  | none => c
  | some k => c.setRow line (last (c.row line) (some k) ((c.row line).getD k { line := 0, state := 0 }))
def put (c : Cache) (e : Entry) : Cache :=
  if e.line < 0 ∨ e.state < 1 ∨ e.state > 4 then c else
  if (c.at? e.line).isNone ∧ c.ways ≤ (c.row e.line).length then c else c.setRow e.line (last (c.row e.line) (c.at? e.line) e)
def drop (c : Cache) (line : Int) : Cache := match c.at? line with
  | none => c
  | some k => c.setRow line ((c.row line).eraseIdx k)
def victim (c : Cache) (line : Int) (no : List Int) : Option Entry := if line < 0 then none else (c.row line).find? fun e => !no.contains e.line
def room (c : Cache) (line : Int) : Bool := decide (0 ≤ line) && ((c.at? line).isSome || decide ((c.row line).length < c.ways))
def all (c : Cache) : List Entry := c.sets.flatten
end Cache
structure Flight where
  id : Int
  msg : Msg
  deriving DecidableEq
structure Net where
  harts : Nat
  room : Nat
  next : Nat := 0
  l : List Flight := []
  deriving DecidableEq
def classOf (kind : Int) : Int :=
  if kind = 1 ∨ kind = 2 ∨ kind = 3 then 0 else
  if kind = 4 ∨ kind = 5 ∨ kind = 6 ∨ kind = 7 ∨ kind = 8 ∨ kind = 9 then 1 else
  if kind = 10 ∨ kind = 11 ∨ kind = 12 then 2 else -1
namespace Net
def link (n : Net) (frm to c : Int) : Bool :=
  if c = 0 ∨ c = 2 then decide (0 ≤ frm) && decide (frm < n.harts) && to == -1 else
  if c = 1 then frm == -1 && (decide (0 ≤ to) && decide (to < n.harts)) else false
def used (l : List Flight) (frm to c : Int) : Nat := l.countP fun f => f.msg.frm == frm && f.msg.to == to && classOf f.msg.kind == c
def may (n : Net) (all : List Flight) (m : Msg) : Bool :=
  classOf m.kind != -1 && n.link m.frm m.to (classOf m.kind) && decide (0 ≤ m.line) && decide (used all m.frm m.to (classOf m.kind) < n.room)
def sendL (n : Net) : List Flight → Nat → List Msg → Option (List Flight)
  | all, _, [] => some all
  | all, i, m :: ms => if n.may all m then n.sendL (all ++ [{ id := n.next + i, msg := m }]) (i + 1) ms else none
def send (n : Net) (ms : List Msg) : Net := match n.sendL n.l 0 ms with
  | some l => { n with l := l, next := n.next + ms.length }
  | none => n
def free (n : Net) (frm to c : Int) : Int := if n.link frm to c then n.room - used n.l frm to c else 0
def at? (n : Net) (id : Int) : Option Nat := n.l.findIdx? fun f => f.id == id
def head (n : Net) (id : Int) : Option Msg := (n.at? id).bind fun k => (n.l[k]?).map (·.msg)
def take (n : Net) (id : Int) : Net := match n.at? id with
  | none => n
  | some k => { n with l := n.l.eraseIdx k }
/-- is there room for all of these? -/
def fits (n : Net) (ms : List Msg) : Bool :=
  ms.all fun m => decide ((ms.countP fun o => o.frm == m.frm && o.to == m.to && classOf o.kind == classOf m.kind : Nat) ≤ n.free m.frm m.to (classOf m.kind))
end Net
/-- a hart's cache -/
structure Part where
  cache : Cache
  lines : List (Option Lone)
  lost : List Int := []
  deriving DecidableEq
namespace Part
def line (p : Part) (i : Int) : Option Lone := p.lines.getD i.toNat none
def setLine (p : Part) (i : Int) (l : Lone) : Part := { p with lines := p.lines.set i.toNat (some l) }
def busy (p : Part) (i : Int) : Bool := match p.line i with | some l => l.waits != 0 | none => false
def count (p : Part) : Nat := p.lines.countP fun l => match l with | some l => l.waits != 0 | none => false
def places (p : Part) : List Int := (p.cache.all.map (·.line)).filter p.busy
def lose (p : Part) (i : Int) : Part := if i ∈ p.lost then p else { p with lost := (p.lost.takeWhile (· < i)) ++ i :: p.lost.dropWhile (· < i) }
def fit (p : Part) (n : Net) (line : Int) : Option (Part × Net) :=
  if p.cache.room line then some (p, n) else
  match p.cache.victim line p.places with
  | none => none
  | some e => match p.line e.line with
    | none => none
    | some l => some (({ p.setLine e.line l.evict.1 with cache := p.cache.drop e.line } : Part).lose e.line, n.send l.evict.2.1)
end Part
structure Fab where
  bytes : Nat
  parts : List Part
  net : Net
  homes : List Home
  deriving DecidableEq
namespace Fab
def new (harts sets ways room : Nat) (data : List Words) : Fab :=
  { bytes := 16 * data.length, parts := List.replicate harts { cache := Cache.new sets ways, lines := List.replicate data.length none },
    net := { harts := harts, room := room }, homes := data.mapIdx fun i d => Home.new i harts d }
def there (f : Fab) (h line : Int) : Bool := decide (0 ≤ h) && decide (h < f.parts.length) && (decide (0 ≤ line) && decide (line < f.homes.length))
def part (f : Fab) (h : Int) : Part := f.parts.getD h.toNat { cache := { ways := 0, sets := [] }, lines := [] }
def setPart (f : Fab) (h : Int) (p : Part) : Fab := { f with parts := f.parts.set h.toNat p }
def line (f : Fab) (h i : Int) : Option Lone := (f.part h).line i
def fair (addr size : Int) : Bool := (size == 1 || size == 2 || size == 4) && addr % size == 0
def has (f : Fab) (addr size : Int) : Bool := fair addr size && decide (addr ≤ f.bytes - size)
def can (f : Fab) (h addr size : Int) (w : Bool) : Option Lone :=
  if !f.has addr size || !f.there h (addr / 16) then none else
  match f.line h (addr / 16) with
  | none => none
  | some l => if l.can w then some l else none
def used (f : Fab) (h addr : Int) : Fab := f.setPart h { f.part h with cache := (f.part h).cache.use (addr / 16) }
def word (d : Words) (i : Int) : Int := if i = 0 then d.a else if i = 1 then d.b else if i = 2 then d.c else d.d
def setWord (d : Words) (i v : Int) : Words := if i = 0 then { d with a := v } else if i = 1 then { d with b := v } else if i = 2 then { d with c := v } else { d with d := v }
/-- some bytes of a word -/
def bytesAt (w sh size : Int) : Int := if size = 4 then w else (w / 2 ^ (8 * sh).toNat) % 2 ^ (8 * size).toNat
def setBytes (w sh size v : Int) : Int := if size = 4 then v else
  w - (bytesAt w sh size) * 2 ^ (8 * sh).toNat + (v % 2 ^ (8 * size).toNat) * 2 ^ (8 * sh).toNat
def rdW (d : Words) (addr size : Int) : Int := if fair addr size then bytesAt (word d (addr % 16 / 4)) (addr % 4) size else 0
def wrW (d : Words) (addr size v : Int) : Words := if fair addr size then setWord d (addr % 16 / 4) (setBytes (word d (addr % 16 / 4)) (addr % 4) size v) else d
def read (f : Fab) (h addr size : Int) : Fab × Int × Bool := match f.can h addr size false with
  | none => (f, 0, false)
  | some l => (f.used h addr, rdW l.data addr size, true)
def write (f : Fab) (h addr size v : Int) : Fab × Bool := match f.can h addr size true with
  | none => (f, false)
  | some l => let f := f.used h addr
    (f.setPart h ((f.part h).setLine (addr / 16) (l.set (wrW l.data addr size v)).1), (l.set (wrW l.data addr size v)).2)
def ask (f : Fab) (h line : Int) (w : Bool) : Fab × Bool :=
  if !f.there h line then (f, false) else
  let p := f.part h
  if (match p.line line with | some l => l.can w || l.waits != 0 | none => false) then (f, false) else
  if p.count ≥ 4 then (f, false) else
  match p.fit f.net line with
  | none => (f, false)
  | some (p, n) =>
    let l := (p.line line).getD { line := line, hart := h }
    let a := l.ask w
    let p := p.setLine line a.1
    if a.2.2 then ({ f with net := n.send a.2.1 }.setPart h { p with cache := p.cache.put { line := line, state := 1 } }, true)
    else ({ f with net := n }.setPart h p, false)
def atHome (f : Fab) (id : Int) (m : Msg) : Option Fab :=
  let h := f.homes.getD m.line.toNat (Home.new 0 0 .zero)
  if !h.takes m then none else
  if !f.net.fits (h.take m).2 then none else
  some { f with homes := f.homes.set m.line.toNat (h.take m).1, net := (f.net.take id).send (h.take m).2 }
def atHart (f : Fab) (id : Int) (m : Msg) : Option Fab :=
  let p := f.part m.to
  let l := (p.line m.line).getD { line := m.line, hart := m.to }
  if !l.takes m then none else
  let t := l.take m
  if !f.net.fits t.2.1 then none else
  let p := p.setLine m.line t.1
  let p := if t.2.2 then p.lose m.line else p
  let p := if t.1.state = 0 ∧ t.1.waits = 0 then { p with cache := p.cache.drop m.line } else p
  some ({ f with net := (f.net.take id).send t.2.1 }.setPart m.to p)
def deliver? (f : Fab) (id : Int) : Option Fab := match f.net.head id with
  | none => none
  | some m => if m.line ≥ f.homes.length then none else if m.to < 0 then f.atHome id m else f.atHart id m
def deliver (f : Fab) (id : Int) : Fab × Bool := match f.deliver? id with | some g => (g, true) | none => (f, false)
/-- the first message that can come, comes -/
def step (f : Fab) : Option Fab := f.net.l.findSome? fun x => f.deliver? x.id
def settle : Nat → Fab → Option (Fab × Bool)
  | 0, _ => none
  | n + 1, f => if f.net.l = [] then some (f, true) else match f.step with
    | some g => settle n g
    | none => some (f, false)
end Fab
end Go.Pm
namespace Go.NW
open Go
/-- a slice whose cells stood there already, or nothing -/
def Row (H : Hp) (n : Nat) (s : Value) (xs : List (List Value)) : Prop := (s = .slice none 0 0 ∧ xs = []) ∨ ∃ e, e < H.size ∧ Slc H n s xs e
theorem Row.ext0 {H H' : Hp} {n : Nat} {s : Value} {xs : List (List Value)} (h : Row H n s xs) (e : Ext [] H H') : Row H' n s xs := by
  rcases h with h | ⟨b, hb, h⟩
  · exact .inl h
  · exact .inr ⟨b, Nat.lt_of_lt_of_le hb e.size, h.ext e (by simp)⟩
theorem Row.slc {H : Hp} {n : Nat} {s : Value} {xs : List (List Value)} (h : Row H n s xs) : ∃ b, Slc H n s xs b := by
  rcases h with ⟨rfl, rfl⟩ | ⟨b, hb, h⟩
  · exact ⟨0, Slc.nil H n 0⟩
  · exact ⟨b, h⟩
theorem Slc.row {H : Hp} {n : Nat} {s : Value} {xs : List (List Value)} {b : Nat} (h : Slc H n s xs b) : Row H n s xs := by
  rcases h.2 with h2 | ⟨o, cap, c, hv, hl, hb, hs, hx⟩
  · exact .inl h2
  · exact .inr ⟨b, hb.lt, h⟩
end Go.NW
namespace Go.Proofs
open Go Go.NW Go.Pm
set_option maxRecDepth 20000
set_option linter.unusedSimpArgs false
set_option linter.unusedVariables false
namespace YtacidjifocfhkaaGreatDoor
def entryC (e : Entry) : Array Value := #[.int .i64 e.line, .int .i64 e.state, .int .u32 e.data.a, .int .u32 e.data.b, .int .u32 e.data.c, .int .u32 e.data.d]
def entsC (l : List Entry) : List (List Value) := l.map fun e => (entryC e).toList
def flightC (f : Flight) : Array Value := #[.int .i64 f.id, .int .i64 f.msg.kind, .int .i64 f.msg.line, .int .i64 f.msg.frm, .int .i64 f.msg.to, .int .u32 f.msg.data.a, .int .u32 f.msg.data.b, .int .u32 f.msg.data.c, .int .u32 f.msg.data.d, .bool f.msg.has, .bool f.msg.dirty, .bool f.msg.alone]
def flsC (l : List Flight) : List (List Value) := l.map fun f => (flightC f).toList
def kOf : Option Nat → Int
  | some k => k
  | none => -1
theorem findIdx_drop {α : Type} {p : α → Bool} : ∀ {l : List α} {k : Nat}, (∀ j x, j < k → l[j]? = some x → p x = false) → k ≤ l.length → l.findIdx? p = ((l.drop k).findIdx? p).map (· + k)
  | l, 0, _, _ => by simp
  | [], k + 1, _, h => by simp at h
  | x :: l, k + 1, h, hk => by
    have h0 := h 0 x (by omega) (by simp)
    have ih := findIdx_drop (l := l) (k := k) (p := p) (fun j y hj hy => h (j + 1) y (by omega) (by simpa using hy)) (by simpa using hk)
    simp [List.findIdx?_cons, h0, ih]
    cases (l.drop k).findIdx? p <;> simp
    omega
theorem entsC_len (l : List Entry) : (entsC l).length = l.length := by simp [entsC]
theorem entsC_one {l : List Entry} : ∀ x ∈ entsC l, x.all one = true := by
  intro x hx
  simp only [entsC, List.mem_map] at hx
  obtain ⟨y, _, rfl⟩ := hx
  rfl
theorem IndexFunc_116 {H : Hp} {v : Value} {xs : List Entry} {x : Int} {b bb : Nat} {Q : RT1} (hs : Slc H 6 v (entsC xs) b) (kb : blk H bb #[.int .i64 x]) (hl : xs.length ≤ 2 ^ 20)
    (hq : ∀ H', Ext [] H H' → Q (.int .i64 (kOf (xs.findIdx? fun e => e.line == x))) H') : NCalls Tryz.prog 116 #[v, .func (.func 117) #[] #[at0 bb]] H Q := by
  refine E116 ?_
  unfold F116_0 F116_8 F116_1 F116_3 F116_7
  obtain ⟨a, cap, hv, hcap, hn⟩ := hs.shape
  have hlen := entsC_len xs
  have hs' := hs
  subst hv
  simp -implicitDefEqProofs [hlen]
  unfold F116_4 F116_5
  refine ⟨fun v H' => Ext [] H H' ∧ ∃ k : Nat, v = .int .i64 k ∧ k ≤ xs.length ∧ ∀ j y, j < k → xs[j]? = some y → (y.line == x) = false, fun v _ => xs.length - (iv v).toNat, ⟨.refl _ _, 0, rfl, by omega, by omega⟩, ?_⟩
  rintro n8 H1 ⟨e1, k, rfl, hk, hno⟩
  unfold F116_6
  by_cases hlt : k < xs.length
  · obtain ⟨o, hix, _, hcs⟩ := (hs'.ext e1 (by simp)).at (i := k) (by omega)
    have hx : (entsC xs)[k]'(by omega) = (entryC xs[k]).toList := by simp [entsC]
    rw [hlen] at hix
    rw [hx] at hcs
    simp -implicitDefEqProofs [show (k : Int) < xs.length by omega, hix, hcs]
    unfold CallV
    dsimp only
    refine E117 ?_
    unfold F117_0
    refine New_i fun H2 b2 hb2 e2 s2 k2 => ?_
    replace k2 : blk H2 b2 (entryC xs[k]) := by simpa using k2
    have kb2 := (kb.ext e1 (by simp)).ext e2 (by simp)
    simp -implicitDefEqProofs [k2.cell, kb2.cell, entryC]
    by_cases he : xs[k].line = x
    · simp -implicitDefEqProofs [he]
      refine fin (hq H2 (e1.trans e2)) ?_
      rw [findIdx_drop hno (by omega), List.drop_eq_getElem_cons hlt]
      simp only [List.findIdx?_cons, he, beq_self_eq_true, if_true, Option.map_some, kOf, Nat.zero_add]
    · simp -implicitDefEqProofs [he]
      rw [w64 (by omega) (by omega)]
      refine ⟨⟨e1.trans e2, k + 1, by simp, by omega, ?_⟩, by simp; omega⟩
      intro j y hj hy
      rcases Nat.lt_or_eq_of_le (Nat.le_of_lt_succ hj) with h | h
      · simpa using hno j y h hy
      · subst h; rw [List.getElem?_eq_getElem hlt] at hy; simp at hy; subst hy; simpa using he
  · simp -implicitDefEqProofs [show ¬ ((k : Int) < xs.length) by omega]
    unfold F116_2
    have hkl : k = xs.length := by omega
    subst hkl
    refine fin (hq H1 e1) ?_
    rw [findIdx_drop hno (Nat.le_refl _)]
    simp [kOf]
theorem Grow_135 {H : Hp} {k : Nat} {Q : RT1} (hk : k ≤ 2 ^ 20)
    (hq : ∀ H' v b, Ext [] H H' → Slc H' 6 v [] b → H.size ≤ b → Q v H') : NCalls Tryz.prog 135 #[.slice none 0 0, .int .i64 k] H Q := by
  refine E135 ?_
  unfold F135_0 F135_6 F135_1 F135_5
  simp -implicitDefEqProofs [show ¬ ((k : Int) < 0) by omega]
  unfold F135_2 F135_4
  have w1 : IntKind.wrap .i64 ((0 : Int) - 0) = 0 := by rw [w64 (by omega) (by omega)]; simp
  have w2 : IntKind.wrap .i64 ((k : Int) - 0) = k := by rw [w64 (by omega) (by omega)]; simp
  have w3 : IntKind.wrap .i64 (k : Int) = k := w64 (by omega) (by omega)
  have w0 : IntKind.wrap .i64 (0 : Int) = 0 := w64 (by omega) (by omega)
  by_cases h0 : k = 0
  · subst h0
    simp -implicitDefEqProofs [w1, w2, w3, w0]
    unfold F135_3
    exact hq H _ H.size (.refl _ _) (Slc.nil _ _ _) (Nat.le_refl _)
  · simp -implicitDefEqProofs [w1, w2, w3, w0, show (0 : Int) < k by omega]
    have hsl : Sl 6 (.slice none 0 0) none (some (.int .i64 0)) none = some (.slice none 0 0) := by rfl
    simp -implicitDefEqProofs [hsl, h0]
    try rw [if_pos (by omega)]
    refine append_make_nil ty_153 (by kernel_rfl) (by omega) hk fun H1 nc c hc e1 k1 hs => ?_
    have hsl2 : Sl 6 (.slice (some ⟨H.size, 0, none⟩) k nc) none (some (.int .i64 0)) none = some (.slice (some ⟨H.size, 0, none⟩) 0 nc) := by
      simp [Sl, bnd]
    simp -implicitDefEqProofs [hsl2]
    unfold F135_3
    exact hq H1 _ H.size e1 ⟨by simp, .inr ⟨0, nc, c, rfl, by simp, k1, by omega, by simp⟩⟩ (Nat.le_refl _)
theorem Concat_109 {H : Hp} {vv : Value} {svs : List Value} {xss : List (List (List Value))} {b : Nat} {Q : RT1} (hv : Slc H 1 vv (svs.map fun s => [s]) b) (hl : svs.length = xss.length)
    (hr : ∀ (j : Nat) (h1 : j < svs.length) (h2 : j < xss.length), Row H 6 svs[j] xss[j]) (hone : ∀ xs ∈ xss, ∀ y ∈ xs, y.all one = true) (hlen : xss.flatten.length ≤ 2 ^ 20) (hsl : svs.length ≤ 2 ^ 20)
    (hq : ∀ H' v b', Ext [] H H' → Slc H' 6 v xss.flatten b' → H.size ≤ b' → Q v H') : NCalls Tryz.prog 109 #[vv] H Q := by
  refine E109 ?_
  unfold F109_0 F109_24 F109_1 F109_23 F109_2 F109_12 F109_22
  obtain ⟨a, cap, hvv, hcap, hn⟩ := hv.shape
  have hml : (svs.map fun s => [s]).length = svs.length := by simp
  have hlv : pv Tryz.prog (Builtin.len_ #[141] 0 #[vv]) = some (.int .i64 svs.length) := by rw [hvv]; simp -implicitDefEqProofs [hml]
  have hat : ∀ (H1 : Hp), Ext [] H H1 → ∀ k (hk : k < svs.length), ∃ o, (∀ kk, Ix 1 vv (.int kk k) = some (.pointer (some ⟨b, o, none⟩))) ∧ cellAt H1 ⟨b, o, none⟩ = some svs[k] := by
    intro H1 e1 k hk
    obtain ⟨o, hix, hc, _⟩ := (hv.ext e1 (by simp)).at (i := k) (by simpa using hk)
    refine ⟨o, hix, ?_⟩
    have := hc 0 (by omega)
    simpa using this
  have hle : ∀ k, k ≤ xss.length → (xss.take k).flatten.length ≤ 2 ^ 20 := by
    intro k hk
    have : xss.flatten.length = (xss.take k).flatten.length + (xss.drop k).flatten.length := by rw [← List.length_append, ← List.flatten_append, List.take_append_drop]
    omega
  have hsn : ∀ k (hk : k < xss.length), (xss.take (k + 1)).flatten = (xss.take k).flatten ++ xss[k] := by
    intro k hk; rw [List.take_succ_eq_append_getElem hk, List.flatten_append, List.flatten_cons, List.flatten_nil, List.append_nil]
  simp -implicitDefEqProofs [hlv]
  have second : F109_3 vv (.int .i64 xss.flatten.length) H Q := by
    unfold F109_3 F109_11
    refine Grow_135 hlen fun H1 v0 b0 e1 k0 hb0 => ?_
    unfold F109_4 F109_6 F109_10
    simp -implicitDefEqProofs [hlv]
    unfold F109_7 F109_8
    refine ⟨fun v6 v27 H' => ∃ (k b' : Nat), v27 = .int .i64 k ∧ k ≤ svs.length ∧ Ext [] H H' ∧ Slc H' 6 v6 (xss.take k).flatten b' ∧ H.size ≤ b', fun _ v _ => svs.length - (iv v).toNat, ⟨0, b0, rfl, by omega, e1, by simpa using k0, hb0⟩, ?_⟩
    rintro v6 v27 H2 ⟨k, b', rfl, hk, e2, k6, hb'⟩
    unfold F109_9
    by_cases hlt : k < svs.length
    · obtain ⟨o, hix, hc⟩ := hat H2 e2 k hlt
      simp -implicitDefEqProofs [show (k : Int) < svs.length by omega, hix, hc]
      obtain ⟨e, hs⟩ := ((hr k hlt (by omega)).ext0 e2).slc
      have hlk := hle (k + 1) (by omega)
      rw [hsn k (by omega), List.length_append] at hlk
      refine append_i ty_153 k6 hs (hone _ (by simp)) (by omega) fun H3 v3 b3 e3 k3 hb3 => ?_
      rw [w64 (by omega) (by omega)]
      rw [← hsn k (by omega)] at k3
      exact ⟨⟨k + 1, by simp, by omega, e2.fresh e3 (by simp; omega), b3, k3, by have := e2.size; omega⟩, by simp; omega⟩
    · have hkl : k = svs.length := by omega
      subst hkl
      simp -implicitDefEqProofs
      unfold F109_5
      rw [hl, List.take_length] at k6
      exact hq H2 v6 b' e2 k6 hb'
  unfold F109_13 F109_14
  refine ⟨fun v3 v11 H' => H' = H ∧ ∃ k : Nat, v11 = .int .i64 k ∧ k ≤ svs.length ∧ v3 = .int .i64 (xss.take k).flatten.length, fun _ v _ => svs.length - (iv v).toNat, ⟨rfl, 0, rfl, by omega, by simp⟩, ?_⟩
  rintro v3 v11 H1 ⟨rfl, k, rfl, hk, rfl⟩
  unfold F109_15 F109_21 F109_16 F109_20
  by_cases hlt : k < svs.length
  · simp -implicitDefEqProofs [-List.length_flatten, show (k : Int) < svs.length by omega]
    unfold F109_17 F109_19
    obtain ⟨o, hix, hc⟩ := hat H1 (.refl _ _) k hlt
    simp -implicitDefEqProofs [-List.length_flatten, hix, hc]
    obtain ⟨e, hs⟩ := (hr k hlt (by omega)).slc
    obtain ⟨a2, cap2, hv2, _, _⟩ := hs.shape
    have hlk := hle (k + 1) (by omega)
    rw [hsn k (by omega), List.length_append] at hlk
    have hlv2 : pv Tryz.prog (Builtin.len_ #[153] 0 #[svs[k]]) = some (.int .i64 (xss[k]'(by omega)).length) := by rw [hv2]; simp -implicitDefEqProofs
    have wk : IntKind.wrap .i64 (((xss.take k).flatten.length : Int) + (xss[k]'(by omega)).length) = ((xss.take (k + 1)).flatten.length : Nat) := by
      rw [w64 (by omega) (by omega), hsn k (by omega), List.length_append]; simp
    have hneg : ¬ (((xss.take (k + 1)).flatten.length : Int) < 0) := by omega
    simp only [hlv2, q_some, Bin_add_3, wk, Bin_lss_3, condV_bool, hneg, decide_false, Bool.false_eq_true, if_false]
    unfold F109_18
    simp only [Bin_add_3, q_some]
    rw [w64 (by omega) (by omega)]
    refine ⟨by trivial, by trivial, by trivial, ⟨by trivial, k + 1, by simp, by omega, rfl⟩, by simp; omega⟩
  · have hkl : k = svs.length := by omega
    subst hkl
    simp -implicitDefEqProofs [-List.length_flatten]
    rw [hl, List.take_length]
    exact second
theorem flsC_len (l : List Flight) : (flsC l).length = l.length := by simp [flsC]
theorem flsC_one {l : List Flight} : ∀ x ∈ flsC l, x.all one = true := by
  intro x hx
  simp only [flsC, List.mem_map] at hx
  obtain ⟨y, _, rfl⟩ := hx
  rfl
theorem IndexFunc_121 {H : Hp} {v : Value} {xs : List Flight} {x : Int} {b bb : Nat} {Q : RT1} (hs : Slc H 12 v (flsC xs) b) (kb : blk H bb #[.int .i64 x]) (hl : xs.length ≤ 2 ^ 20)
    (hq : ∀ H', Ext [] H H' → Q (.int .i64 (kOf (xs.findIdx? fun e => e.id == x))) H') : NCalls Tryz.prog 121 #[v, .func (.func 122) #[] #[at0 bb]] H Q := by
  refine E121 ?_
  unfold F121_0 F121_8 F121_1 F121_3 F121_7
  obtain ⟨a, cap, hv, hcap, hn⟩ := hs.shape
  have hlen := flsC_len xs
  have hs' := hs
  subst hv
  simp -implicitDefEqProofs [hlen]
  unfold F121_4 F121_5
  refine ⟨fun v H' => Ext [] H H' ∧ ∃ k : Nat, v = .int .i64 k ∧ k ≤ xs.length ∧ ∀ j y, j < k → xs[j]? = some y → (y.id == x) = false, fun v _ => xs.length - (iv v).toNat, ⟨.refl _ _, 0, rfl, by omega, by omega⟩, ?_⟩
  rintro n8 H1 ⟨e1, k, rfl, hk, hno⟩
  unfold F121_6
  by_cases hlt : k < xs.length
  · obtain ⟨o, hix, _, hcs⟩ := (hs'.ext e1 (by simp)).at (i := k) (by omega)
    have hx : (flsC xs)[k]'(by omega) = (flightC xs[k]).toList := by simp [flsC]
    rw [hlen] at hix
    rw [hx] at hcs
    simp -implicitDefEqProofs [show (k : Int) < xs.length by omega, hix, hcs]
    unfold CallV
    dsimp only
    refine E122 ?_
    unfold F122_0
    refine New_i fun H2 b2 hb2 e2 s2 k2 => ?_
    replace k2 : blk H2 b2 (flightC xs[k]) := by simpa using k2
    have kb2 := (kb.ext e1 (by simp)).ext e2 (by simp)
    simp -implicitDefEqProofs [k2.cell, kb2.cell, flightC]
    by_cases he : xs[k].id = x
    · simp -implicitDefEqProofs [he]
      refine fin (hq H2 (e1.trans e2)) ?_
      rw [findIdx_drop hno (by omega), List.drop_eq_getElem_cons hlt]
      simp only [List.findIdx?_cons, he, beq_self_eq_true, if_true, Option.map_some, kOf, Nat.zero_add]
    · simp -implicitDefEqProofs [he]
      rw [w64 (by omega) (by omega)]
      refine ⟨⟨e1.trans e2, k + 1, by simp, by omega, ?_⟩, by simp; omega⟩
      intro j y hj hy
      rcases Nat.lt_or_eq_of_le (Nat.le_of_lt_succ hj) with h | h
      · simpa using hno j y h hy
      · subst h; rw [List.getElem?_eq_getElem hlt] at hy; simp at hy; subst hy; simpa using he
  · simp -implicitDefEqProofs [show ¬ ((k : Int) < xs.length) by omega]
    unfold F121_2
    have hkl : k = xs.length := by omega
    subst hkl
    refine fin (hq H1 e1) ?_
    rw [findIdx_drop hno (Nat.le_refl _)]
    simp [kOf]
theorem Grow_145 {H : Hp} {k : Nat} {Q : RT1} (hk : k ≤ 2 ^ 20)
    (hq : ∀ H' v b, Ext [] H H' → Slc H' 12 v [] b → H.size ≤ b → Q v H') : NCalls Tryz.prog 145 #[.slice none 0 0, .int .i64 k] H Q := by
  refine E145 ?_
  unfold F145_0 F145_6 F145_1 F145_5
  simp -implicitDefEqProofs [show ¬ ((k : Int) < 0) by omega]
  unfold F145_2 F145_4
  have w1 : IntKind.wrap .i64 ((0 : Int) - 0) = 0 := by rw [w64 (by omega) (by omega)]; simp
  have w2 : IntKind.wrap .i64 ((k : Int) - 0) = k := by rw [w64 (by omega) (by omega)]; simp
  have w3 : IntKind.wrap .i64 (k : Int) = k := w64 (by omega) (by omega)
  have w0 : IntKind.wrap .i64 (0 : Int) = 0 := w64 (by omega) (by omega)
  by_cases h0 : k = 0
  · subst h0
    simp -implicitDefEqProofs [w1, w2, w3, w0]
    unfold F145_3
    exact hq H _ H.size (.refl _ _) (Slc.nil _ _ _) (Nat.le_refl _)
  · simp -implicitDefEqProofs [w1, w2, w3, w0, show (0 : Int) < k by omega]
    have hsl : Sl 12 (.slice none 0 0) none (some (.int .i64 0)) none = some (.slice none 0 0) := by rfl
    simp -implicitDefEqProofs [hsl, h0]
    try rw [if_pos (by omega)]
    refine append_make_nil ty_38 (by kernel_rfl) (by omega) hk fun H1 nc c hc e1 k1 hs => ?_
    have hsl2 : Sl 12 (.slice (some ⟨H.size, 0, none⟩) k nc) none (some (.int .i64 0)) none = some (.slice (some ⟨H.size, 0, none⟩) 0 nc) := by
      simp [Sl, bnd]
    simp -implicitDefEqProofs [hsl2]
    unfold F145_3
    exact hq H1 _ H.size e1 ⟨by simp, .inr ⟨0, nc, c, rfl, by simp, k1, by omega, by simp⟩⟩ (Nat.le_refl _)
theorem Concat_131 {H : Hp} {vv : Value} {svs : List Value} {xss : List (List (List Value))} {b : Nat} {Q : RT1} (hv : Slc H 1 vv (svs.map fun s => [s]) b) (hl : svs.length = xss.length)
    (hr : ∀ (j : Nat) (h1 : j < svs.length) (h2 : j < xss.length), Row H 12 svs[j] xss[j]) (hone : ∀ xs ∈ xss, ∀ y ∈ xs, y.all one = true) (hlen : xss.flatten.length ≤ 2 ^ 20) (hsl : svs.length ≤ 2 ^ 20)
    (hq : ∀ H' v b', Ext [] H H' → Slc H' 12 v xss.flatten b' → H.size ≤ b' → Q v H') : NCalls Tryz.prog 131 #[vv] H Q := by
  refine E131 ?_
  unfold F131_0 F131_24 F131_1 F131_23 F131_2 F131_12 F131_22
  obtain ⟨a, cap, hvv, hcap, hn⟩ := hv.shape
  have hml : (svs.map fun s => [s]).length = svs.length := by simp
  have hlv : pv Tryz.prog (Builtin.len_ #[209] 0 #[vv]) = some (.int .i64 svs.length) := by rw [hvv]; simp -implicitDefEqProofs [hml]
  have hat : ∀ (H1 : Hp), Ext [] H H1 → ∀ k (hk : k < svs.length), ∃ o, (∀ kk, Ix 1 vv (.int kk k) = some (.pointer (some ⟨b, o, none⟩))) ∧ cellAt H1 ⟨b, o, none⟩ = some svs[k] := by
    intro H1 e1 k hk
    obtain ⟨o, hix, hc, _⟩ := (hv.ext e1 (by simp)).at (i := k) (by simpa using hk)
    refine ⟨o, hix, ?_⟩
    have := hc 0 (by omega)
    simpa using this
  have hle : ∀ k, k ≤ xss.length → (xss.take k).flatten.length ≤ 2 ^ 20 := by
    intro k hk
    have : xss.flatten.length = (xss.take k).flatten.length + (xss.drop k).flatten.length := by rw [← List.length_append, ← List.flatten_append, List.take_append_drop]
    omega
  have hsn : ∀ k (hk : k < xss.length), (xss.take (k + 1)).flatten = (xss.take k).flatten ++ xss[k] := by
    intro k hk; rw [List.take_succ_eq_append_getElem hk, List.flatten_append, List.flatten_cons, List.flatten_nil, List.append_nil]
  simp -implicitDefEqProofs [hlv]
  have second : F131_3 vv (.int .i64 xss.flatten.length) H Q := by
    unfold F131_3 F131_11
    refine Grow_145 hlen fun H1 v0 b0 e1 k0 hb0 => ?_
    unfold F131_4 F131_6 F131_10
    simp -implicitDefEqProofs [hlv]
    unfold F131_7 F131_8
    refine ⟨fun v6 v27 H' => ∃ (k b' : Nat), v27 = .int .i64 k ∧ k ≤ svs.length ∧ Ext [] H H' ∧ Slc H' 12 v6 (xss.take k).flatten b' ∧ H.size ≤ b', fun _ v _ => svs.length - (iv v).toNat, ⟨0, b0, rfl, by omega, e1, by simpa using k0, hb0⟩, ?_⟩
    rintro v6 v27 H2 ⟨k, b', rfl, hk, e2, k6, hb'⟩
    unfold F131_9
    by_cases hlt : k < svs.length
    · obtain ⟨o, hix, hc⟩ := hat H2 e2 k hlt
      simp -implicitDefEqProofs [show (k : Int) < svs.length by omega, hix, hc]
      obtain ⟨e, hs⟩ := ((hr k hlt (by omega)).ext0 e2).slc
      have hlk := hle (k + 1) (by omega)
      rw [hsn k (by omega), List.length_append] at hlk
      refine append_i ty_38 k6 hs (hone _ (by simp)) (by omega) fun H3 v3 b3 e3 k3 hb3 => ?_
      rw [w64 (by omega) (by omega)]
      rw [← hsn k (by omega)] at k3
      exact ⟨⟨k + 1, by simp, by omega, e2.fresh e3 (by simp; omega), b3, k3, by have := e2.size; omega⟩, by simp; omega⟩
    · have hkl : k = svs.length := by omega
      subst hkl
      simp -implicitDefEqProofs
      unfold F131_5
      rw [hl, List.take_length] at k6
      exact hq H2 v6 b' e2 k6 hb'
  unfold F131_13 F131_14
  refine ⟨fun v3 v11 H' => H' = H ∧ ∃ k : Nat, v11 = .int .i64 k ∧ k ≤ svs.length ∧ v3 = .int .i64 (xss.take k).flatten.length, fun _ v _ => svs.length - (iv v).toNat, ⟨rfl, 0, rfl, by omega, by simp⟩, ?_⟩
  rintro v3 v11 H1 ⟨rfl, k, rfl, hk, rfl⟩
  unfold F131_15 F131_21 F131_16 F131_20
  by_cases hlt : k < svs.length
  · simp -implicitDefEqProofs [-List.length_flatten, show (k : Int) < svs.length by omega]
    unfold F131_17 F131_19
    obtain ⟨o, hix, hc⟩ := hat H1 (.refl _ _) k hlt
    simp -implicitDefEqProofs [-List.length_flatten, hix, hc]
    obtain ⟨e, hs⟩ := (hr k hlt (by omega)).slc
    obtain ⟨a2, cap2, hv2, _, _⟩ := hs.shape
    have hlk := hle (k + 1) (by omega)
    rw [hsn k (by omega), List.length_append] at hlk
    have hlv2 : pv Tryz.prog (Builtin.len_ #[38] 0 #[svs[k]]) = some (.int .i64 (xss[k]'(by omega)).length) := by rw [hv2]; simp -implicitDefEqProofs
    have wk : IntKind.wrap .i64 (((xss.take k).flatten.length : Int) + (xss[k]'(by omega)).length) = ((xss.take (k + 1)).flatten.length : Nat) := by
      rw [w64 (by omega) (by omega), hsn k (by omega), List.length_append]; simp
    have hneg : ¬ (((xss.take (k + 1)).flatten.length : Int) < 0) := by omega
    simp only [hlv2, q_some, Bin_add_3, wk, Bin_lss_3, condV_bool, hneg, decide_false, Bool.false_eq_true, if_false]
    unfold F131_18
    simp only [Bin_add_3, q_some]
    rw [w64 (by omega) (by omega)]
    refine ⟨by trivial, by trivial, by trivial, ⟨by trivial, k + 1, by simp, by omega, rfl⟩, by simp; omega⟩
  · have hkl : k = svs.length := by omega
    subst hkl
    simp -implicitDefEqProofs [-List.length_flatten]
    rw [hl, List.take_length]
    exact second
end YtacidjifocfhkaaGreatDoor
end Go.Proofs
namespace Go.Proofs
open Go Go.NW Go.Pm
set_option maxRecDepth 20000
set_option linter.unusedSimpArgs false
set_option linter.unusedVariables false
namespace YtacidjifocfhkaaGreatDoor
theorem Delete_119 {H : Hp} {v : Value} {xs : List Entry} {b k : Nat} {Q : RT1} (hs : Slc H 6 v (entsC xs) b) (hk : k < xs.length) (hl : xs.length ≤ 2 ^ 20)
    (hq : ∀ H' v', Ext [b] H H' → Slc H' 6 v' (entsC (xs.eraseIdx k)) b → Q v' H') : NCalls Tryz.prog 119 #[v, .int .i64 k, .int .i64 (k + 1 : Nat)] H Q := by
  refine E119 ?_
  unfold F119_0
  have hlen := entsC_len xs
  have hs' := hs
  obtain ⟨g1, ⟨rfl, hnil⟩ | ⟨o, cap, c, rfl, hcap, hb, hsz, hflat⟩⟩ := hs
  · rw [hnil] at hlen; simp at hlen; omega
  rw [hlen] at hs' hcap
  have s1 : Sl 6 (.slice (some ⟨b, o, none⟩) xs.length cap) (some (.int .i64 k)) (some (.int .i64 (k + 1 : Nat))) (some (.int .i64 xs.length)) = some (.slice (if xs.length = k then (some ⟨b, o, none⟩) else (some (Addr.add ⟨b, o, none⟩ (k * 6)))) (k + 1 - k) (xs.length - k)) := by
    simp only [Sl, bnd]
    rw [if_pos ⟨by omega, by omega⟩]; simp only [Option.bind_some]
    rw [if_pos ⟨by omega, by omega⟩]; simp only [Option.bind_some]
    rw [if_pos ⟨by omega, by omega⟩]; simp only [Option.bind_some, Int.toNat_natCast]
    rfl
  have s2 : Sl 6 (.slice (some ⟨b, o, none⟩) xs.length cap) none (some (.int .i64 k)) none = some (.slice (some ⟨b, o, none⟩) k cap) := by
    simp only [Sl, bnd]; simp only [Option.bind_some]
    rw [if_pos ⟨by omega, by omega⟩]; simp
  obtain ⟨v3, s3, hs3⟩ := hs'.drop (k := k + 1) (by rw [hlen]; omega) (by intro e; rw [e] at hlen; simp at hlen; omega) .i64
  have hne : ((k : Int) == ((k + 1 : Nat) : Int)) = false := by simp; omega
  have hdl : ((entsC xs).drop (k + 1)).length = xs.length - (k + 1) := by simp [hlen]
  have one_drop : ∀ y ∈ (entsC xs).drop (k + 1), y.all one = true := fun y hy => entsC_one y (List.mem_of_mem_drop hy)
  rw [hlen]
  simp only [len_153, q_some, s1, Bin_eql_3, condV_bool, hne, Bool.false_eq_true, if_false, s2, s3]
  refine append_raw (l := k) (cap := cap) ty_153 hb (by omega) hs3 one_drop (by rw [hdl]; omega) fun H1 e1 z1 k1 => ?_
  rw [hdl]
  have hl1 : k + (xs.length - (k + 1)) = xs.length - 1 := by omega
  rw [hl1]
  have s4 : Sl 6 (.slice (some ⟨b, o, none⟩) (xs.length - 1) cap) (some (.int .i64 (xs.length - 1 : Nat))) (some (.int .i64 xs.length)) none = some (.slice (some ⟨b, o + (xs.length - 1) * 6, none⟩) 1 (cap - (xs.length - 1))) := by
    simp only [Sl, bnd]; simp only [Option.bind_some]
    rw [if_pos ⟨by omega, by omega⟩]; simp only [Option.bind_some]
    rw [if_pos ⟨by omega, by omega⟩]; simp only [Option.bind_some, Int.toNat_natCast]
    rw [if_neg (by omega)]
    simp only [Option.map_some, add_mk]
    congr 2; omega
  simp only [len_153, q_some, s4]
  refine clear_raw ty_153 (z := .agg #[.int .i64 0, .int .i64 0, .int .u32 0, .int .u32 0, .int .u32 0, .int .u32 0]) (by kernel_rfl) k1 (by omega) (by rw [wrL_size]; omega) fun H2 e2 z2 k2 => ?_
  refine hq H2 _ (e1.trans e2) ?_
  have e0 : entsC (xs.eraseIdx k) = (entsC xs).eraseIdx k := by simp only [entsC]; rw [List.eraseIdx_eq_take_drop_succ, List.eraseIdx_eq_take_drop_succ]; simp [List.map_take, List.map_drop]
  rw [e0]
  have hel : ((entsC xs).eraseIdx k).length = xs.length - 1 := by rw [List.length_eraseIdx_of_lt (by omega), hlen]
  refine ⟨fun x hx => g1 x (List.mem_of_mem_eraseIdx hx), .inr ⟨o, cap, _, by rw [hel], by rw [hel]; omega, k2, by rw [wrL_size, wrL_size]; exact hsz, ?_⟩⟩
  have := erase_cells (xs := entsC xs) (k := k) (cap := cap) (o := o) (c := c) (n := 6) (w := (List.replicate 1 (Value.cells (.agg #[.int .i64 0, .int .i64 0, .int .u32 0, .int .u32 0, .int .u32 0, .int .u32 0])).toList).flatten) g1 (by omega) (by rw [hlen]; exact hcap) hsz (by rfl) hflat
  rw [hlen] at this
  exact this
end YtacidjifocfhkaaGreatDoor
end Go.Proofs
namespace Go.Proofs
open Go Go.NW Go.Pm
set_option maxRecDepth 20000
set_option linter.unusedSimpArgs false
set_option linter.unusedVariables false
namespace YtacidjifocfhkaaGreatDoor
/-- what a block is for -/
inductive Rl where
  | other | glob | fab | mem | bytes | parts | part (i : Nat) | cache (i : Nat) | sets (i : Nat) | ents (i : Nat) | map (i : Nat) | lone (i l : Nat) | lost (i : Nat) | net | msgs | homes | home
  deriving DecidableEq
def recol (col : Nat → Rl) (b : Nat) (r : Rl) : Nat → Rl := fun x => if x = b then r else col x
/-- the colours of what was there stay -/
def Same (H : Hp) (col col' : Nat → Rl) : Prop := ∀ x, x < H.size → col' x = col x
theorem Same.refl (H : Hp) (col : Nat → Rl) : Same H col col := fun _ _ => rfl
theorem Same.trans {H H' : Hp} {a b c : Nat → Rl} (h : Same H a b) (k : Same H' b c) (hs : H.size ≤ H'.size) : Same H a c := fun x hx => (k x (by omega)).trans (h x hx)
theorem Same.recol {H : Hp} {col : Nat → Rl} {b : Nat} {r : Rl} (h : H.size ≤ b) : Same H col (recol col b r) := fun x hx => by simp [YtacidjifocfhkaaGreatDoor.recol]; omega
def SlR (H : Hp) (col : Nat → Rl) (r : Rl) (n : Nat) (s : Value) (xs : List (List Value)) : Prop :=
  (s = .slice none 0 0 ∧ xs = []) ∨ ∃ e, e < H.size ∧ col e = r ∧ Slc H n s xs e
theorem SlR.slc {H : Hp} {col : Nat → Rl} {r : Rl} {n : Nat} {s : Value} {xs : List (List Value)} (h : SlR H col r n s xs) : ∃ b, Slc H n s xs b := by
  rcases h with ⟨rfl, rfl⟩ | ⟨b, hb, _, h⟩
  · exact ⟨0, Slc.nil H n 0⟩
  · exact ⟨b, h⟩
theorem SlR.one {H : Hp} {col : Nat → Rl} {r : Rl} {n : Nat} {s : Value} {xs : List (List Value)} (h : SlR H col r n s xs) : Go.NW.one s = true := by
  obtain ⟨b, h⟩ := h.slc
  obtain ⟨a, cap, rfl, _⟩ := h.shape
  rfl
theorem SlR.ext {S : List Nat} {H H' : Hp} {col col' : Nat → Rl} {r : Rl} {n : Nat} {s : Value} {xs : List (List Value)} (h : SlR H col r n s xs) (e : Ext S H H') (hc : Same H col col') (hS : ∀ x ∈ S, x < H.size → col x ≠ r) : SlR H' col' r n s xs := by
  rcases h with h | ⟨b, hb, hr, h⟩
  · exact .inl h
  · exact .inr ⟨b, Nat.lt_of_lt_of_le hb e.size, (hc b hb).trans hr, h.ext e fun hm => hS b hm hb hr⟩
theorem SlR.of {H : Hp} {col : Nat → Rl} {r : Rl} {n : Nat} {s : Value} {xs : List (List Value)} {b : Nat} (h : Slc H n s xs b) : SlR H (recol col b r) r n s xs := by
  rcases h.2 with h2 | ⟨o, cap, c, hv, hl, hb, hs, hx⟩
  · exact .inl h2
  · exact .inr ⟨b, hb.lt, by simp [recol], h⟩
structure CacheAt (H : Hp) (col : Nat → Rl) (i bc bs : Nat) (c : Cache) : Prop where
  cb : col bc = .cache i
  cs : col bs = .sets i
  ex : ∃ (v : Value) (svs : List Value), blk H bc #[.int .i64 c.ways, v] ∧ Go.NW.one v = true ∧ Slc H 1 v (svs.map fun s => [s]) bs ∧ svs.length = c.sets.length ∧
    ∀ j (h1 : j < svs.length) (h2 : j < c.sets.length), SlR H col (.ents i) 6 svs[j] (entsC c.sets[j])
  ls : bs < H.size
theorem CacheAt.lb {H : Hp} {col : Nat → Rl} {i bc bs : Nat} {c : Cache} (k : CacheAt H col i bc bs c) : bc < H.size := by
  obtain ⟨v, svs, kb, _⟩ := k.ex; exact kb.lt
theorem CacheAt.ext {S : List Nat} {H H' : Hp} {col col' : Nat → Rl} {i bc bs : Nat} {c : Cache} (k : CacheAt H col i bc bs c) (e : Ext S H H') (hc : Same H col col')
    (hS : ∀ x ∈ S, x < H.size → col x ≠ .cache i ∧ col x ≠ .sets i ∧ col x ≠ .ents i) : CacheAt H' col' i bc bs c := by
  have lb := k.lb
  obtain ⟨cb, cs, ⟨v, svs, kb, ov, ks, hl, hr⟩, ls⟩ := k
  refine ⟨(hc _ lb).trans cb, (hc _ ls).trans cs, ⟨v, svs, kb.ext e fun hm => (hS _ hm lb).1 cb, ov, ks.ext e fun hm => (hS _ hm ls).2.1 cs, hl, ?_⟩, Nat.lt_of_lt_of_le ls e.size⟩
  intro j h1 h2
  exact (hr j h1 h2).ext e hc fun x hx hlt => (hS x hx hlt).2.2
theorem CacheAt.ext0 {H H' : Hp} {col col' : Nat → Rl} {i bc bs : Nat} {c : Cache} (k : CacheAt H col i bc bs c) (e : Ext [] H H') (hc : Same H col col') : CacheAt H' col' i bc bs c := k.ext e hc (by simp)
/-- where a row's slice lies -/
def IsRow (H : Hp) (bc bs j o : Nat) : Prop := ∃ v, cellAt H ⟨bc, 1, none⟩ = some v ∧ ∀ kk, Ix 1 v (.int kk j) = some (.pointer (some ⟨bs, o, none⟩))
theorem CacheAt.isRow {S : List Nat} {H H' : Hp} {col : Nat → Rl} {i bc bs j o : Nat} {c : Cache} (k : CacheAt H col i bc bs c) (e : Ext S H H') (hS : bc ∉ S) (h : IsRow H bc bs j o) : IsRow H' bc bs j o := by
  obtain ⟨v, svs, kb, _⟩ := k.ex
  obtain ⟨u, hu, hx⟩ := h
  refine ⟨u, ?_, hx⟩
  rw [← hu, kb.cell, (kb.ext e hS).cell]
theorem CacheAt.there {H : Hp} {col : Nat → Rl} {i bc bs j : Nat} {c : Cache} (k : CacheAt H col i bc bs c) (hj : j < c.sets.length) : ∃ o, IsRow H bc bs j o := by
  obtain ⟨v, svs, kb, ov, ks, hl, hr⟩ := k.ex
  obtain ⟨o, hix, _⟩ := ks.at (i := j) (by simp; omega)
  exact ⟨o, v, by rw [kb.cell]; rfl, hix⟩
theorem CacheAt.row {H : Hp} {col : Nat → Rl} {i bc bs j o : Nat} {c : Cache} (k : CacheAt H col i bc bs c) (hj : j < c.sets.length) (h : IsRow H bc bs j o) :
    ∃ sv, cellAt H ⟨bs, o, none⟩ = some sv ∧ SlR H col (.ents i) 6 sv (entsC c.sets[j]) ∧
      ∀ (sv' : Value) (row' : List Entry) (K : Hp → Prop), SlR H col (.ents i) 6 sv' (entsC row') → (∀ H', Ext [bs] H H' → H'.size = H.size → CacheAt H' col i bc bs { c with sets := c.sets.set j row' } → K H') →
        St 1 H (.pointer (some ⟨bs, o, none⟩)) sv' K := by
  have lb := k.lb
  obtain ⟨cb, cs, ⟨v, svs, kb, ov, ks, hl, hr⟩, ls⟩ := k
  obtain ⟨u, hu, hx⟩ := h
  rw [kb.cell] at hu
  simp at hu
  subst hu
  have hj1 : j < (svs.map fun s => [s]).length := by simp; omega
  obtain ⟨o', hix, hc, _⟩ := ks.at hj1
  have ho : o' = o := by have e1 := hix .i64; have e2 := hx .i64; rw [e1] at e2; simpa using e2
  subst ho
  refine ⟨svs[j], ?_, hr j (by omega) hj, ?_⟩
  · have := hc 0 (by omega); simpa using this
  · intro sv' row' K hsv hK
    have hone := hsv.one
    have hcell : sv'.cells = #[sv'] := by
      obtain ⟨b, hb⟩ := hsv.slc
      obtain ⟨a, cap, rfl, _⟩ := hb.shape
      rfl
    obtain ⟨o2, hix2, hst⟩ := ks.st hj1 (x := sv') (by rw [hcell]; rfl) (by rw [hcell]; simp [hone])
    have : o2 = o' := by have e1 := hix .i64; have e2 := hix2 .i64; rw [e1] at e2; simpa using e2.symm
    subst this
    refine hst K fun H' e s k' => hK H' e s ⟨cb, cs, ⟨v, svs.set j sv', kb.ext e ?_, ov, ?_, by simp [hl], ?_⟩, by omega⟩
    · simp; intro e; rw [e, cs] at cb; cases cb
    · rw [hcell] at k'; simpa [List.map_set] using k'
    · intro m h1 h2
      have hfr : ∀ s xs, SlR H col (.ents i) 6 s xs → SlR H' col (.ents i) 6 s xs := fun s xs hh => hh.ext e (Same.refl _ _) (by intro x hx _; simp at hx; subst hx; rw [cs]; simp)
      by_cases hm : m = j
      · subst hm; simpa using hfr _ _ hsv
      · have hm' : ¬ j = m := fun e => hm e.symm
        simp only [List.getElem_set, hm', if_false]
        exact hfr _ _ (hr m (by simpa using h1) (by simpa using h2))
/-- what holds of every cache -/
structure CacheOk (c : Cache) : Prop where
  n0 : 0 < c.sets.length
  n1 : c.sets.length ≤ 64
  w : c.ways ≤ 8
  r : ∀ l ∈ c.sets, l.length ≤ 8
theorem CacheOk.row {c : Cache} (ok : CacheOk c) {j : Nat} (hj : j < c.sets.length) : (c.sets[j]).length ≤ 8 := ok.r _ (by simp)
theorem CacheOk.idx {c : Cache} (ok : CacheOk c) (line : Int) : c.idx line < c.sets.length := Nat.mod_lt _ ok.n0
theorem row_eq {c : Cache} (ok : CacheOk c) (line : Int) : c.row line = c.sets[c.idx line]'(ok.idx line) := by
  unfold Cache.row; rw [List.getD_eq_getElem?_getD, List.getElem?_eq_getElem (ok.idx line)]; rfl
theorem at_86 {H : Hp} {col : Nat → Rl} {i bc bs : Nat} {c : Cache} {line : Int} {Q : RT1} (k : CacheAt H col i bc bs c) (ok : CacheOk c) (hl : line < 2 ^ 40)
    (hq : ∀ H' o, Ext [] H H' → IsRow H' bc bs (if line < 0 then 0 else c.idx line) o → Q (.tuple #[.pointer (some ⟨bs, o, none⟩), .int .i64 (kOf (c.at? line))]) H') : NCalls Tryz.prog 86 #[at0 bc, .int .i64 line] H Q := by
  refine E86 ?_
  unfold F86_0
  refine New_i fun H1 b1 hb1 e1 s1 k1 => ?_
  replace k := k.ext0 e1 (Same.refl _ _)
  replace k1 : blk H1 b1 #[.int .i64 line] := by simpa using k1
  obtain ⟨v, svs, kb, ov, ks, hl', hr⟩ := id k.ex
  have hc1 : cellAt H1 ⟨bc, 1, none⟩ = some v := by rw [kb.cell]; rfl
  by_cases h0 : line < 0
  · obtain ⟨o, hrow⟩ := k.there ok.n0
    obtain ⟨u, hu, hx⟩ := hrow
    have huv : u = v := by rw [hc1] at hu; simpa using hu.symm
    subst huv
    have hx0 := hx .i64
    simp -implicitDefEqProofs at hx0
    simp -implicitDefEqProofs [k1.cell, h0, hc1, hx0]
    refine fin (hq H1 o e1 ?_) (by simp [Cache.at?, h0, kOf])
    rw [if_pos h0]
    exact ⟨u, hc1, hx⟩
  · obtain ⟨n, rfl⟩ : ∃ n : Nat, line = n := ⟨line.toNat, by omega⟩
    have hj := ok.idx (n : Int)
    obtain ⟨o, hrow⟩ := k.there hj
    obtain ⟨sv, hcv, hsv, _⟩ := k.row hj hrow
    obtain ⟨u, hu, hx⟩ := id hrow
    have huv : u = v := by rw [hc1] at hu; simpa using hu.symm
    subst huv
    obtain ⟨a, cap, hv, hcap, _⟩ := ks.shape
    have hlv : pv Tryz.prog (Builtin.len_ #[141] 0 #[u]) = some (.int .i64 c.sets.length) := by rw [hv]; simp -implicitDefEqProofs [hl']
    have hmod : Bin Tryz.prog H1 .rem 3 false (.int .i64 n) (.int .i64 c.sets.length) = some (.int .i64 (c.idx n : Nat)) := by
      have n0 := ok.n0
      rw [Bin_rem_3 _ _ _ _ (by omega)]
      simp only [Cache.idx, Int.toNat_natCast, Int.natCast_emod]
      rw [Int.tmod_eq_emod_of_nonneg (by omega)]
    have hxi := hx .i64
    simp -implicitDefEqProofs [k1.cell, hc1, hlv, hmod, hxi, hcv]
    obtain ⟨e, hs⟩ := hsv.slc
    refine IndexFunc_116 hs k1 (by have := ok.row hj; omega) fun H2 e2 => ?_
    refine fin (hq H2 o (e1.trans e2) (by rw [if_neg h0]; exact k.isRow e2 (by simp) hrow)) ?_
    simp only [Cache.at?, row_eq ok, if_neg h0]
end YtacidjifocfhkaaGreatDoor
end Go.Proofs
namespace Go.Proofs
open Go Go.NW Go.Pm
set_option maxRecDepth 20000
set_option linter.unusedSimpArgs false
set_option linter.unusedVariables false
namespace YtacidjifocfhkaaGreatDoor
theorem findIdx_lt {α : Type} {p : α → Bool} {l : List α} {k : Nat} (h : l.findIdx? p = some k) : k < l.length := by
  rw [List.findIdx?_eq_some_iff_getElem] at h; exact h.1
theorem last_87 {H : Hp} {col : Nat → Rl} {i bc bs j o : Nat} {c : Cache} {k : Option Nat} {e : Entry} {Q : RT1} (ca : CacheAt H col i bc bs c) (ok : CacheOk c) (hj : j < c.sets.length) (hr : IsRow H bc bs j o)
    (hk : ∀ m, k = some m → m < (c.sets[j]).length)
    (hq : ∀ H' col', Ext [bs] H H' → Same H col col' → CacheAt H' col' i bc bs { c with sets := c.sets.set j (Cache.last c.sets[j] k e) } → Q (.tuple #[]) H') :
    NCalls Tryz.prog 87 #[.pointer (some ⟨bs, o, none⟩), .int .i64 (kOf k), .agg (entryC e)] H Q := by
  have ls := ca.ls
  have lb := ca.lb
  have hne : bc ≠ bs := by intro e; have h1 := ca.cb; have h2 := ca.cs; rw [e, h2] at h1; cases h1
  refine E87 ?_
  unfold F87_0 F87_6
  refine New_i fun H1 b1 hb1 e1 s1 k1 => ?_
  replace k1 : blk H1 b1 (entryC e) := by simpa using k1
  unfold F87_1 F87_5
  obtain ⟨sv, hc, hs, _⟩ := (ca.ext0 e1 (Same.refl _ _)).row hj (ca.isRow e1 (by simp) hr)
  simp -implicitDefEqProofs [hc]
  obtain ⟨b0, hs⟩ := hs.slc
  have hlr := ok.row hj
  have hll := entsC_len c.sets[j]
  refine Clone_153 hs entsC_one (by omega) fun H2 v2 b2 e2 k2 hb2 => ?_
  replace k1 := k1.ext e2 (by simp)
  have z2 := e2.size
  unfold F87_2 F87_4
  have fin3 : ∀ (H3 : Hp) (v3 : Value) (b3 : Nat) (l : List Entry), Ext [] H H3 → blk H3 b1 (entryC e) → Slc H3 6 v3 (entsC l) b3 → H.size ≤ b3 → l.length ≤ 8 → l ++ [e] = Cache.last c.sets[j] k e →
      F87_3 (.pointer (some ⟨bs, o, none⟩)) (at0 b1) v3 H3 Q := by
    intro H3 v3 b3 l e3 k1 k3 hb3 hl3 hlast
    unfold F87_3
    have z3 := e3.size
    simp -implicitDefEqProofs [k1.cells, show (entryC e).size = 6 by rfl, show (entryC e).extract 0 6 = entryC e by simp [entryC]]
    refine Bsl_i (cells := entryC e) (by kernel_rfl) fun H4 b4 hb4 e4 s4 k4 => ?_
    have hx : Slc H4 6 (.slice (some ⟨b4, 0, none⟩) 1 1) (entsC [e]) b4 := by
      refine Slc.of (xs := entsC [e]) (c := _) ?_ k4 ?_ ?_ ?_
      · simp [entsC, entryC]
      · simp [entsC]
      · simp [entryC]
      · simp [entsC, entryC]
    have h3l := entsC_len l
    refine append_i ty_153 (k3.ext e4 (by simp)) hx entsC_one (by rw [h3l, entsC_len]; simp; omega) fun H5 v5 b5 e5 k5 hb5 => ?_
    have E5 : Ext [] H H5 := (e3.trans e4).fresh e5 (by simp; omega)
    have z4 := e4.size
    have z5 := e5.size
    have ek : entsC l ++ entsC [e] = entsC (Cache.last c.sets[j] k e) := by rw [← hlast]; simp [entsC]
    rw [ek] at k5
    have hb5' : H.size ≤ b5 := by omega
    have ca5 : CacheAt H5 (recol col b5 (.ents i)) i bc bs c := ca.ext0 E5 (Same.recol hb5')
    obtain ⟨sv5, _, _, hst⟩ := ca5.row hj (ca.isRow E5 (by simp) hr)
    refine hst v5 _ _ (SlR.of k5) fun H6 e6 s6 ca6 => ?_
    refine hq H6 _ ((E5.mono (by simp)).trans e6) (Same.recol hb5') ca6
  have e12 := e1.trans e2
  cases k with
  | none =>
    simp -implicitDefEqProofs [kOf]
    exact fin3 H2 v2 b2 _ e12 k1 k2 (by omega) hlr (by simp [Cache.last])
  | some m =>
    have hm := hk m rfl
    have wm : IntKind.wrap .i64 ((m : Int) + 1) = ((m + 1 : Nat) : Int) := by rw [w64 (by omega) (by omega)]; simp
    simp -implicitDefEqProofs [kOf, show (0 : Int) ≤ m by omega]
    rw [wm]
    refine Delete_119 k2 hm (by omega) fun H3 v3 e3 k3 => ?_
    have z3 := e3.size
    exact fin3 H3 v3 b2 _ (e12.fresh e3 (by simp; omega)) (k1.ext e3 (by simp; omega)) k3 (by omega) (by rw [List.length_eraseIdx_of_lt hm]; omega) (by simp [Cache.last])
theorem at_lt {c : Cache} (ok : CacheOk c) {line : Int} {k : Nat} (h : c.at? line = some k) : 0 ≤ line ∧ k < (c.sets[c.idx line]'(ok.idx line)).length := by
  unfold Cache.at? at h
  split at h
  · cases h
  · rw [row_eq ok] at h; exact ⟨by omega, findIdx_lt h⟩
theorem Use_93 {H : Hp} {col : Nat → Rl} {i bc bs : Nat} {c : Cache} {line : Int} {Q : RT1} (ca : CacheAt H col i bc bs c) (ok : CacheOk c) (hl : line < 2 ^ 40)
    (hq : ∀ H' col' r, Ext [bs] H H' → Same H col col' → CacheAt H' col' i bc bs (c.use line) → Q (.bool r) H') : NCalls Tryz.prog 93 #[at0 bc, .int .i64 line] H Q := by
  refine E93 ?_
  unfold F93_0
  refine at_86 ca ok hl fun H1 o e1 hr => ?_
  replace ca' := ca.ext0 e1 (Same.refl _ _)
  cases hk : c.at? line with
  | none =>
    simp -implicitDefEqProofs [kOf]
    exact hq H1 col _ (e1.mono (by simp)) (Same.refl _ _) (by simpa [Cache.use, hk] using ca')
  | some k =>
    obtain ⟨h0, hlt⟩ := at_lt ok hk
    rw [if_neg (by omega)] at hr
    obtain ⟨sv, hc, hs, _⟩ := ca'.row (ok.idx line) hr
    obtain ⟨b, hs⟩ := hs.slc
    have hll := entsC_len (c.sets[c.idx line]'(ok.idx line))
    obtain ⟨o2, hix, _, hcs⟩ := hs.at (i := k) (by omega)
    have hx : (entsC (c.sets[c.idx line]'(ok.idx line)))[k]'(by omega) = (entryC (c.sets[c.idx line]'(ok.idx line))[k]).toList := by simp [entsC]
    rw [hx] at hcs
    simp -implicitDefEqProofs [kOf, show ¬ ((k : Int) < 0) by omega, hc, hix, hcs]
    refine last_87 (k := some k) ca' ok (ok.idx line) hr (by intro m hm; simp at hm; omega) fun H2 col2 e2 s2 ca2 => ?_
    refine hq H2 col2 _ ((e1.mono (by simp)).trans e2) (Same.trans (Same.refl _ _) s2 e1.size) ?_
    have : c.use line = { c with sets := c.sets.set (c.idx line) (Cache.last (c.sets[c.idx line]'(ok.idx line)) (some k) (c.sets[c.idx line]'(ok.idx line))[k]) } := by
      simp only [Cache.use, hk, Cache.setRow, row_eq ok]
      rw [List.getD_eq_getElem?_getD, List.getElem?_eq_getElem hlt]; rfl
    rw [this]; exact ca2
theorem Put_52 {H : Hp} {col : Nat → Rl} {i bc bs : Nat} {c : Cache} {e : Entry} {Q : RT1} (ca : CacheAt H col i bc bs c) (ok : CacheOk c) (hl : 0 ≤ e.line ∧ e.line < 2 ^ 40) (hs : 1 ≤ e.state ∧ e.state ≤ 4)
    (hroom : c.room e.line = true)
    (hq : ∀ H' col', Ext [bs] H H' → Same H col col' → CacheAt H' col' i bc bs (c.put e) → Q .nilIface H') : NCalls Tryz.prog 52 #[at0 bc, .agg (entryC e)] H Q := by
  refine E52 ?_
  unfold F52_0
  refine New_i fun H1 b1 hb1 e1 s1 k1 => ?_
  replace k1 : blk H1 b1 (entryC e) := by simpa using k1
  have ca1 := ca.ext0 e1 (Same.refl _ _)
  simp -implicitDefEqProofs [k1.cell, entryC, show ¬ (e.line < 0) by omega, show ¬ (e.state < 1) by omega, show ¬ (4 < e.state) by omega]
  refine at_86 ca1 ok hl.2 fun H2 o e2 hr => ?_
  have ca2 := ca1.ext0 e2 (Same.refl _ _)
  replace k1 := k1.ext e2 (by simp)
  rw [if_neg (by omega)] at hr
  obtain ⟨sv, hc, hs', _⟩ := ca2.row (ok.idx e.line) hr
  obtain ⟨b, hs'⟩ := hs'.slc
  obtain ⟨a, cap, hv, _, _⟩ := hs'.shape
  have hll := entsC_len (c.sets[c.idx e.line]'(ok.idx e.line))
  have hlv : pv Tryz.prog (Builtin.len_ #[153] 0 #[sv]) = some (.int .i64 (c.sets[c.idx e.line]'(ok.idx e.line)).length) := by rw [hv]; simp -implicitDefEqProofs [hll]
  have hw : cellAt H2 ⟨bc, 0, none⟩ = some (.int .i64 c.ways) := by
    obtain ⟨v, svs, kb, _⟩ := ca2.ex; rw [kb.cell]; rfl
  have hput : c.put e = { c with sets := c.sets.set (c.idx e.line) (Cache.last (c.sets[c.idx e.line]'(ok.idx e.line)) (c.at? e.line) e) } := by
    unfold Cache.put
    rw [if_neg (by omega), if_neg]
    · simp only [Cache.setRow, row_eq ok]
    · unfold Cache.room at hroom
      intro ⟨h1, h2⟩
      simp at hroom h1
      rcases hroom.2 with h | h
      · rw [h1] at h; simp at h
      · omega
  have key : NCalls Tryz.prog 87 #[.pointer (some ⟨bs, o, none⟩), .int .i64 (kOf (c.at? e.line)), .agg (entryC e)] H2 fun _ H' => Q .nilIface H' := by
    refine last_87 ca2 ok (ok.idx e.line) hr (fun m hm => (at_lt ok hm).2) fun H3 col3 e3 s3 ca3 => ?_
    refine hq H3 col3 (((e1.trans e2).mono (by simp)).trans e3) (Same.trans (Same.refl _ _) s3 (e1.trans e2).size) ?_
    rw [hput]; exact ca3
  cases hk : c.at? e.line with
  | none =>
    have hlt : (c.sets[c.idx e.line]'(ok.idx e.line)).length < c.ways := by
      unfold Cache.room at hroom
      rw [row_eq ok] at hroom
      simpa [hk, hl.1] using hroom
    rw [hk] at key
    have hge : ¬ ((c.ways : Int) ≤ (c.sets[c.idx e.line]'(ok.idx e.line)).length) := by omega
    simp -implicitDefEqProofs [kOf, hc, hlv, hw, hge, k1.cells, entryC]
    simpa [kOf, entryC] using key
  | some k =>
    rw [hk] at key
    simp -implicitDefEqProofs [kOf, show ¬ ((k : Int) < 0) by omega, k1.cells, entryC]
    simpa [kOf, entryC] using key
end YtacidjifocfhkaaGreatDoor
end Go.Proofs
namespace Go.Proofs
open Go Go.NW Go.Pm
set_option maxRecDepth 20000
set_option linter.unusedSimpArgs false
set_option linter.unusedVariables false
namespace YtacidjifocfhkaaGreatDoor
theorem CacheAt.cWays {H : Hp} {col : Nat → Rl} {i bc bs : Nat} {c : Cache} (k : CacheAt H col i bc bs c) : cellAt H ⟨bc, 0, none⟩ = some (.int .i64 c.ways) := by
  obtain ⟨v, svs, kb, _⟩ := k.ex; rw [kb.cell]; rfl
theorem Room_79 {H : Hp} {col : Nat → Rl} {i bc bs : Nat} {c : Cache} {line : Int} {Q : RT1} (ca : CacheAt H col i bc bs c) (ok : CacheOk c) (hl : 0 ≤ line ∧ line < 2 ^ 40)
    (hq : ∀ H', Ext [] H H' → Q (.bool (c.room line)) H') : NCalls Tryz.prog 79 #[at0 bc, .int .i64 line] H Q := by
  refine E79 ?_
  unfold F79_0
  refine at_86 ca ok hl.2 fun H1 o e1 hr => ?_
  replace ca := ca.ext0 e1 (Same.refl _ _)
  rw [if_neg (by omega)] at hr
  obtain ⟨sv, hc, hs', _⟩ := ca.row (ok.idx line) hr
  obtain ⟨b, hs'⟩ := hs'.slc
  obtain ⟨a, cap, hv, _, _⟩ := hs'.shape
  have hll := entsC_len (c.sets[c.idx line]'(ok.idx line))
  have hlv : pv Tryz.prog (Builtin.len_ #[153] 0 #[sv]) = some (.int .i64 (c.sets[c.idx line]'(ok.idx line)).length) := by rw [hv]; simp -implicitDefEqProofs [hll]
  cases hk : c.at? line with
  | none =>
    simp -implicitDefEqProofs [kOf, hl.1, hc, hlv, ca.cWays]
    refine fin (hq H1 e1) ?_
    simp [Cache.room, hk, hl.1, row_eq ok]
  | some k =>
    simp -implicitDefEqProofs [kOf, hl.1, show (0 : Int) ≤ k by omega]
    refine fin (hq H1 e1) ?_
    simp [Cache.room, hk, hl.1]
theorem bsl2 (a a2 : Option Addr) (n c n2 c2 : Nat) : bslCells #[.slice none 0 0] 1 2 [(0, .slice a n c), (1, .slice a2 n2 c2)] = some #[.slice a n c, .slice a2 n2 c2] := by kernel_rfl
theorem Drop_82 {H : Hp} {col : Nat → Rl} {i bc bs : Nat} {c : Cache} {line : Int} {Q : RT1} (ca : CacheAt H col i bc bs c) (ok : CacheOk c) (hl : line < 2 ^ 40)
    (hq : ∀ H' col' r, Ext [bs] H H' → Same H col col' → CacheAt H' col' i bc bs (c.drop line) → Q (.bool r) H') : NCalls Tryz.prog 82 #[at0 bc, .int .i64 line] H Q := by
  refine E82 ?_
  unfold F82_0
  refine at_86 ca ok hl fun H1 o e1 hr => ?_
  have ca' := ca.ext0 e1 (Same.refl _ _)
  cases hk : c.at? line with
  | none =>
    simp -implicitDefEqProofs [kOf]
    exact hq H1 col _ (e1.mono (by simp)) (Same.refl _ _) (by simpa [Cache.drop, hk] using ca')
  | some k =>
    obtain ⟨h0, hlt⟩ := at_lt ok hk
    rw [if_neg (by omega)] at hr
    obtain ⟨sv, hc, hs, _⟩ := ca'.row (ok.idx line) hr
    obtain ⟨b, hs⟩ := hs.slc
    have hll := entsC_len (c.sets[c.idx line]'(ok.idx line))
    have hrl := ok.row (ok.idx line)
    have hne : entsC (c.sets[c.idx line]'(ok.idx line)) ≠ [] := by intro e; rw [e] at hll; simp at hll; omega
    obtain ⟨v1, s1, k1⟩ := hs.take (k := k) (by omega) hne .i64
    obtain ⟨v2, s2, k2⟩ := hs.drop (k := k + 1) (by omega) hne .i64
    have wk : IntKind.wrap .i64 ((k : Int) + 1) = ((k + 1 : Nat) : Int) := by rw [w64 (by omega) (by omega)]; simp
    have hneg : (decide ((k : Int) < 0)) = false := by simp
    simp -implicitDefEqProofs only [kOf, Ex_tuple, List.getElem?_toArray, List.getElem?_cons_zero, List.getElem?_cons_succ, q_some, Bin_lss_3, hneg, condV_bool, Bool.false_eq_true, if_false, Nz_some, Ld_some, hc, s1, Bin_add_3, wk, s2]
    have c1 : v1.cells = #[v1] := by obtain ⟨a, cap, rfl, _⟩ := k1.shape; rfl
    have c2 : v2.cells = #[v2] := by obtain ⟨a, cap, rfl, _⟩ := k2.shape; rfl
    refine Bsl_i (cells := #[v1, v2]) (by obtain ⟨a, cap, rfl, _⟩ := k1.shape; obtain ⟨a, cap, rfl, _⟩ := k2.shape; exact bsl2 _ _ _ _ _ _) fun H2 b2 hb2 e2 z2 kk => ?_
    have hvv : Slc H2 1 (.slice (some ⟨b2, 0, none⟩) 2 2) ([v1, v2].map fun s => [s]) b2 := by
      exact Slc.of (xs := [v1, v2].map fun s => [s]) (c := #[v1, v2]) (by simp) kk (by simp) (by simp) (by simp)
    refine Concat_109 (xss := [(entsC (c.sets[c.idx line]'(ok.idx line))).take k, (entsC (c.sets[c.idx line]'(ok.idx line))).drop (k + 1)]) hvv (by simp) ?_ ?_ ?_ (by simp) fun H3 v3 b3 e3 k3 hb3 => ?_
    · intro j h1 h2
      match j with
      | 0 => exact k1.row.ext0 e2
      | 1 => exact k2.row.ext0 e2
      | j + 2 => simp at h1; omega
    · intro xs hx y hy
      simp at hx
      rcases hx with rfl | rfl
      · exact entsC_one y (List.mem_of_mem_take hy)
      · exact entsC_one y (List.mem_of_mem_drop hy)
    · simp; omega
    · have E3 : Ext [] H H3 := (e1.trans e2).trans e3
      have z1 := e1.size
      have hb3' : H.size ≤ b3 := by omega
      have ca3 : CacheAt H3 (recol col b3 (.ents i)) i bc bs c := ca.ext0 E3 (Same.recol hb3')
      obtain ⟨sv5, _, _, hst⟩ := ca3.row (ok.idx line) (ca'.isRow (e2.trans e3) (by simp) hr)
      have ek : [(entsC (c.sets[c.idx line]'(ok.idx line))).take k, (entsC (c.sets[c.idx line]'(ok.idx line))).drop (k + 1)].flatten = entsC ((c.sets[c.idx line]'(ok.idx line)).eraseIdx k) := by
        rw [List.eraseIdx_eq_take_drop_succ]; simp [entsC, List.map_take, List.map_drop]
      rw [ek] at k3
      refine hst v3 _ _ (SlR.of k3) fun H4 e4 s4 ca4 => ?_
      refine hq H4 (recol col b3 (.ents i)) _ ((E3.mono (by simp)).trans e4) (Same.recol hb3') ?_
      simpa [Cache.drop, hk, Cache.setRow, row_eq ok] using ca4
end YtacidjifocfhkaaGreatDoor
end Go.Proofs
namespace Go.Proofs
open Go Go.NW Go.Pm
set_option maxRecDepth 20000
set_option linter.unusedSimpArgs false
set_option linter.unusedVariables false
namespace YtacidjifocfhkaaGreatDoor
theorem find_drop {α : Type} {p : α → Bool} : ∀ {l : List α} {k : Nat}, (∀ j x, j < k → l[j]? = some x → p x = false) → k ≤ l.length → l.find? p = (l.drop k).find? p
  | l, 0, _, _ => by simp
  | [], k + 1, _, h => by simp at h
  | x :: l, k + 1, h, hk => by
    have h0 := h 0 x (by omega) (by simp)
    have ih := find_drop (l := l) (k := k) (p := p) (fun j y hj hy => h (j + 1) y (by omega) (by simpa using hy)) (by simpa using hk)
    simp [List.find?_cons, h0, ih]
def entry0 : Entry := { line := 0, state := 0 }
theorem Victim_80 {H : Hp} {col : Nat → Rl} {i bc bs bn : Nat} {c : Cache} {line : Int} {no : List Int} {nv : Value} {Q : RT1} (ca : CacheAt H col i bc bs c) (ok : CacheOk c) (hl : 0 ≤ line ∧ line < 2 ^ 40)
    (hn : Slc H 1 nv (intsC no) bn) (hnl : no.length ≤ 2 ^ 20)
    (hq : ∀ H', Ext [] H H' → Q (.tuple #[.agg (entryC ((c.victim line no).getD entry0)), .bool (c.victim line no).isSome]) H') : NCalls Tryz.prog 80 #[at0 bc, .int .i64 line, nv] H Q := by
  refine E80 ?_
  unfold F80_0 F80_12
  refine New_i fun H1 b1 hb1 e1 s1 k1 => ?_
  unfold F80_1 F80_11
  simp -implicitDefEqProofs [show ¬ (line < 0) by omega]
  unfold F80_2 F80_10
  refine at_86 (ca.ext0 e1 (Same.refl _ _)) ok hl.2 fun H2 o e2 hr => ?_
  simp -implicitDefEqProofs
  rw [if_neg (by omega)] at hr
  have e12 := e1.trans e2
  replace k1 := k1.ext e2 (by simp)
  unfold F80_3 F80_5 F80_9
  obtain ⟨sv, hc, hs, _⟩ := (ca.ext0 e12 (Same.refl _ _)).row (ok.idx line) hr
  obtain ⟨b, hs⟩ := hs.slc
  obtain ⟨a, cap, hv, _, _⟩ := hs.shape
  have hll := entsC_len (c.sets[c.idx line]'(ok.idx line))
  have hrl := ok.row (ok.idx line)
  have hvic : c.victim line no = (c.sets[c.idx line]'(ok.idx line)).find? fun e => !no.contains e.line := by
    unfold Cache.victim; rw [if_neg (by omega), row_eq ok]
  generalize c.sets[c.idx line]'(ok.idx line) = row at hs hll hrl hvic hv
  have hlv : pv Tryz.prog (Builtin.len_ #[153] 0 #[sv]) = some (.int .i64 row.length) := by rw [hv]; simp -implicitDefEqProofs [hll]
  simp -implicitDefEqProofs [hc, hlv]
  unfold F80_6 F80_7
  refine ⟨fun v25 H' => ∃ k : Nat, v25 = .int .i64 k ∧ k ≤ row.length ∧ Ext [] H2 H' ∧ ∀ j y, j < k → row[j]? = some y → (!no.contains y.line) = false, fun v _ => row.length - (iv v).toNat, ⟨0, rfl, by omega, .refl _ _, by omega⟩, ?_⟩
  rintro n25 H3 ⟨k, rfl, hk, e3, hno⟩
  have e13 := e12.trans e3
  replace k1 := k1.ext e3 (by simp)
  unfold F80_8
  have z3 := e3.size
  have z2 := e2.size
  by_cases hlt : k < row.length
  · obtain ⟨o2, hix, _, hcs⟩ := (hs.ext e3 (by simp)).at (i := k) (by omega)
    have hx : (entsC row)[k]'(by omega) = (entryC row[k]).toList := by simp [entsC]
    rw [hx] at hcs
    simp -implicitDefEqProofs [show (k : Int) < row.length by omega, hix, hcs]
    refine New_i fun H4 b4 hb4 e4 s4 k4 => ?_
    refine St_i k4 (by simp [entryC]) (by simp) (by simp [entryC]) fun H5 e5 s5 k5 => ?_
    have k5' : blk H5 b4 (entryC row[k]) := by simpa [wrL, entryC] using k5
    have e15 : Ext [] H H5 := (e13.trans e4).fresh e5 (by have := e13.size; simp; omega)
    have e35 : Ext [] H3 H5 := e4.fresh e5 (by simp; omega)
    have k15 : blk H5 b1 _ := (k1.ext e4 (by simp)).ext e5 (by simp; omega)
    have hl0 : cellAt H5 ⟨b4, 0, none⟩ = some (.int .i64 row[k].line) := by rw [k5'.cell]; rfl
    simp -implicitDefEqProofs [hl0]
    refine Contains_49 (hn.ext e15 (by simp)) (by omega) ?_
    by_cases hin : row[k].line ∈ no
    · simp -implicitDefEqProofs [hin]
      rw [w64 (by omega) (by omega)]
      refine ⟨⟨k + 1, by simp, by omega, e3.trans e35, ?_⟩, by simp; omega⟩
      intro j y hj hy
      rcases Nat.lt_or_eq_of_le (Nat.le_of_lt_succ hj) with h | h
      · simpa using hno j y h hy
      · subst h; rw [List.getElem?_eq_getElem hlt] at hy; simp at hy; subst hy; simpa using hin
    · simp -implicitDefEqProofs [hin, k5'.cells, show (entryC row[k]).size = 6 by rfl, show (entryC row[k]).extract 0 6 = entryC row[k] by simp [entryC]]
      refine St_i k15 (by simp [entryC]) (by simp) (by simp [entryC]) fun H6 e6 s6 k6 => ?_
      have k6' : blk H6 b1 (entryC row[k]) := by simpa [wrL, entryC] using k6
      simp -implicitDefEqProofs [k6'.cells, show (entryC row[k]).size = 6 by rfl, show (entryC row[k]).extract 0 6 = entryC row[k] by simp [entryC]]
      refine fin (hq H6 (e15.fresh e6 (by simp; omega))) ?_
      rw [hvic, find_drop hno (by omega), List.drop_eq_getElem_cons hlt]
      simp only [List.find?_cons, show (!no.contains row[k].line) = true by simpa using hin, Option.getD_some, Option.isSome_some]
  · have hkl : k = row.length := by omega
    subst hkl
    simp -implicitDefEqProofs
    unfold F80_4
    simp -implicitDefEqProofs
    refine St_i k1 (by simp) (by simp) (by simp) fun H6 e6 s6 k6 => ?_
    have k6' : blk H6 b1 (entryC entry0) := by simpa [wrL, entryC, entry0, Words.zero] using k6
    simp -implicitDefEqProofs [k6'.cells, show (entryC entry0).size = 6 by rfl, show (entryC entry0).extract 0 6 = entryC entry0 by simp [entryC]]
    refine fin (hq H6 (e13.fresh e6 (by simp; omega))) ?_
    rw [hvic, find_drop hno (Nat.le_refl _)]
    simp
end YtacidjifocfhkaaGreatDoor
end Go.Proofs
namespace Go.Proofs
open Go Go.NW Go.Pm
set_option maxRecDepth 20000
set_option linter.unusedSimpArgs false
set_option linter.unusedVariables false
namespace YtacidjifocfhkaaGreatDoor
/-- s & (s - 1) == 0 -/
def band (a b : Int) : Int := IntKind.wrap .i64 ((BitVec.ofInt (IntKind.bits .i64) a &&& BitVec.ofInt (IntKind.bits .i64) b).toNat : Nat)
theorem Bin_band (H : Hp) (l : Bool) (a b : Int) : Bin Tryz.prog H .and 3 l (.int .i64 a) (.int .i64 b) = some (.int .i64 (band a b)) := Bin_and_3 H l a b
def pow2 (s : Int) : Bool := band s (IntKind.wrap .i64 (s - 1)) == 0
def shapeOk (s w : Int) : Bool := decide (1 ≤ s ∧ s ≤ 64) && pow2 s && decide (1 ≤ w ∧ w ≤ 8)
theorem New_35 {H : Hp} {col : Nat → Rl} {s w : Int} {ev : Value} {Q : RT1} (i : Nat) (hg : cellAt H ⟨0, 0, none⟩ = some ev)
    (h1 : shapeOk s w = false → Q (.tuple #[.pointer none, ev]) H)
    (h2 : shapeOk s w = true → ∀ H' col' bc bs, Ext [] H H' → Same H col col' → CacheAt H' col' i bc bs (Cache.new s.toNat w.toNat) → H.size ≤ bc → H.size ≤ bs → Q (.tuple #[at0 bc, .nilIface]) H') :
    NCalls Tryz.prog 35 #[.int .i64 s, .int .i64 w] H Q := by
  refine E35 ?_
  unfold F35_0
  by_cases c1 : s < 1
  · simp -implicitDefEqProofs [c1, hg]
    exact h1 (by simp [shapeOk]; omega)
  by_cases c2 : 64 < s
  · simp -implicitDefEqProofs [c1, c2, hg]
    exact h1 (by simp [shapeOk]; omega)
  cases c3 : pow2 s with
  | false =>
    have c3' := c3
    simp only [pow2, beq_eq_false_iff_ne] at c3'
    simp -implicitDefEqProofs [c1, c2, c3', -Bin_and_3, Bin_band, hg]
    exact h1 (by simp [shapeOk, c3])
  | true =>
    have c3' := c3
    simp only [pow2, beq_iff_eq] at c3'
    by_cases c4 : w < 1
    · simp -implicitDefEqProofs [c1, c2, c3', -Bin_and_3, Bin_band, c4, hg]
      exact h1 (by simp [shapeOk]; omega)
    by_cases c5 : 8 < w
    · simp -implicitDefEqProofs [c1, c2, c3', -Bin_and_3, Bin_band, c4, c5, hg]
      exact h1 (by simp [shapeOk]; omega)
    simp -implicitDefEqProofs [c1, c2, c3', -Bin_and_3, Bin_band, c4, c5]
    refine makeSlice_i ty_141 (z := .slice none 0 0) (by kernel_rfl) (by omega) (Int.le_refl _) (by omega) fun H2 e2 s2 k2 => ?_
    simp -implicitDefEqProofs
    refine New_i fun H3 b3 hb3 e3 s3 k3 => ?_
    replace k3 : blk H3 b3 #[.int .i64 w, .slice (some ⟨H.size, 0, none⟩) s.toNat s.toNat] := by simpa using k3
    replace k2 := k2.ext e3 (by simp)
    have z2 := e2.size
    have e13 := e2.trans e3
    refine h2 (by simp [shapeOk, c3]; omega) H3 (recol (recol col H.size (.sets i)) b3 (.cache i)) b3 H.size e13 ?_ ⟨by simp [recol], ?_, ⟨_, List.replicate s.toNat (.slice none 0 0), by rw [show w = ((w.toNat : Nat) : Int) by omega] at k3; simpa [Cache.new] using k3, by rfl, ?_, by simp [Cache.new], ?_⟩, k2.lt⟩ (by omega) (by omega)
    · intro x hx; simp only [recol]; rw [if_neg (by omega), if_neg (by omega)]
    · simp only [recol]; rw [if_neg (by omega)]; simp
    · have e0 : s.toNat = ((List.replicate s.toNat (Value.slice none 0 0)).map fun s => [s]).length := by simp
      have : Slc H3 1 (.slice (some ⟨H.size, 0, none⟩) ((List.replicate s.toNat (Value.slice none 0 0)).map fun s => [s]).length s.toNat) ((List.replicate s.toNat (Value.slice none 0 0)).map fun s => [s]) H.size := by
        refine Slc.of (by simp) k2 (by simp) (by simp) ?_
        simp
      rw [← e0] at this
      exact this
    · intro j a b
      exact .inl ⟨by simp, by simp [Cache.new, entsC]⟩
end YtacidjifocfhkaaGreatDoor
end Go.Proofs
namespace Go.Proofs
open Go Go.NW Go.Pm
set_option maxRecDepth 20000
set_option linter.unusedSimpArgs false
set_option linter.unusedVariables false
namespace YtacidjifocfhkaaGreatDoor
theorem Class_89 {H : Hp} {k : Int} {Q : RT1} (hq : Q (.int .i64 (classOf k)) H) : NCalls Tryz.prog 89 #[.int .i64 k] H Q := by
  refine E89 ?_
  unfold F89_0 F89_17 F89_1 F89_3 F89_16 F89_4 F89_5 F89_15
  by_cases k1 : k = 1
  · subst k1; simp -implicitDefEqProofs; unfold F89_6 F89_7; simpa [classOf] using hq
  by_cases k2 : k = 2
  · subst k2; simp -implicitDefEqProofs; unfold F89_6 F89_7; simpa [classOf] using hq
  by_cases k3 : k = 3
  · subst k3; simp -implicitDefEqProofs; unfold F89_6 F89_7; simpa [classOf] using hq
  simp -implicitDefEqProofs [k1, k2, k3]
  unfold F89_6
  simp -implicitDefEqProofs
  unfold F89_8 F89_14
  by_cases k4 : k = 4
  · subst k4; simp -implicitDefEqProofs; unfold F89_9 F89_10; simpa [classOf] using hq
  by_cases k5 : k = 5
  · subst k5; simp -implicitDefEqProofs; unfold F89_9 F89_10; simpa [classOf] using hq
  by_cases k6 : k = 6
  · subst k6; simp -implicitDefEqProofs; unfold F89_9 F89_10; simpa [classOf] using hq
  by_cases k7 : k = 7
  · subst k7; simp -implicitDefEqProofs; unfold F89_9 F89_10; simpa [classOf] using hq
  by_cases k8 : k = 8
  · subst k8; simp -implicitDefEqProofs; unfold F89_9 F89_10; simpa [classOf] using hq
  by_cases k9 : k = 9
  · subst k9; simp -implicitDefEqProofs; unfold F89_9 F89_10; simpa [classOf] using hq
  simp -implicitDefEqProofs [k4, k5, k6, k7, k8, k9]
  unfold F89_9
  simp -implicitDefEqProofs
  unfold F89_11 F89_13
  by_cases k10 : k = 10
  · subst k10; simp -implicitDefEqProofs; unfold F89_12; simpa [classOf] using hq
  by_cases k11 : k = 11
  · subst k11; simp -implicitDefEqProofs; unfold F89_12; simpa [classOf] using hq
  by_cases k12 : k = 12
  · subst k12; simp -implicitDefEqProofs; unfold F89_12; simpa [classOf] using hq
  simp -implicitDefEqProofs [k10, k11, k12]
  unfold F89_12 F89_2
  simpa [classOf, k1, k2, k3, k4, k5, k6, k7, k8, k9, k10, k11, k12] using hq
structure NetAt (H : Hp) (col : Nat → Rl) (bn : Nat) (n : Net) : Prop where
  cb : col bn = .net
  ex : ∃ sv, blk H bn #[.int .i64 n.harts, .int .i64 n.room, .int .i64 n.next, sv] ∧ SlR H col .msgs 12 sv (flsC n.l)
theorem NetAt.ext {S : List Nat} {H H' : Hp} {col col' : Nat → Rl} {bn : Nat} {n : Net} (k : NetAt H col bn n) (e : Ext S H H') (hc : Same H col col') (hS : ∀ x ∈ S, x < H.size → col x ≠ .net ∧ col x ≠ .msgs) : NetAt H' col' bn n := by
  obtain ⟨cb, sv, kb, ks⟩ := k
  have lb := kb.lt
  exact ⟨(hc _ lb).trans cb, sv, kb.ext e fun hm => (hS _ hm lb).1 cb, ks.ext e hc fun x hx hl => (hS x hx hl).2⟩
theorem NetAt.ext0 {H H' : Hp} {col col' : Nat → Rl} {bn : Nat} {n : Net} (k : NetAt H col bn n) (e : Ext [] H H') (hc : Same H col col') : NetAt H' col' bn n := k.ext e hc (by simp)
theorem NetAt.lb {H : Hp} {col : Nat → Rl} {bn : Nat} {n : Net} (k : NetAt H col bn n) : bn < H.size := by
  obtain ⟨cb, sv, kb, ks⟩ := k; exact kb.lt
theorem hart_120 {H : Hp} {bn bp : Nat} {n : Net} {a b c : Value} {h : Int} {Q : RT1} (kb : blk H bn #[.int .i64 n.harts, a, b, c]) (kp : blk H bp #[at0 bn])
    (hq : Q (.bool (decide (0 ≤ h) && decide (h < n.harts))) H) : NCalls Tryz.prog 120 #[.int .i64 h, at0 bp] H Q := by
  refine E120 ?_
  unfold F120_0
  by_cases h0 : 0 ≤ h
  · simp -implicitDefEqProofs [h0, kp.cell, kb.cell]
    exact fin hq (by simp [h0])
  · simp -implicitDefEqProofs [h0]
    exact fin hq (by simp [h0])
theorem link_90 {H : Hp} {col : Nat → Rl} {bn : Nat} {n : Net} {frm to c : Int} {Q : RT1} (k : NetAt H col bn n)
    (hq : ∀ H', Ext [] H H' → Q (.bool (n.link frm to c)) H') : NCalls Tryz.prog 90 #[at0 bn, .int .i64 frm, .int .i64 to, .int .i64 c] H Q := by
  obtain ⟨cb, sv, kb, ks⟩ := k
  refine E90 ?_
  unfold F90_0 F90_11
  refine New_i fun H1 b1 hb1 e1 s1 k1 => ?_
  replace k1 : blk H1 b1 #[at0 bn] := by simpa using k1
  replace kb := kb.ext e1 (by simp)
  replace hq := hq H1 e1
  unfold F90_1 F90_10 F90_2 F90_4 F90_9 F90_5 F90_6 F90_8
  have key : (c = 0 ∨ c = 2) → CallV Tryz.prog (.func (.func 120) #[] #[at0 b1]) [.int .i64 frm] H1 (fun t17_1 H_1 =>
      q (gd t17_1 true (some (.int .i64 to))) fun t19_2 => q (gd t17_1 true (Bin Tryz.prog H_1 .eql 3 true t19_2 (.int .i64 (-1)))) fun t20_3 => q (Pk t17_1 t20_3 (.bool false)) fun t21_4 => Q t21_4 H_1) := by
    intro hc
    unfold CallV
    dsimp only
    refine hart_120 (n := n) kb k1 ?_
    have : n.link frm to c = ((decide (0 ≤ frm) && decide (frm < n.harts)) && to == -1) := by unfold Net.link; rw [if_pos hc]
    rw [this] at hq
    cases hh : (decide (0 ≤ frm) && decide (frm < n.harts))
    · simp -implicitDefEqProofs; simpa [hh] using hq
    · simp -implicitDefEqProofs; rw [hh] at hq; simpa using hq
  by_cases c0 : c = 0
  · subst c0; simp -implicitDefEqProofs; unfold F90_7; simp -implicitDefEqProofs; simpa using key (.inl rfl)
  by_cases c2 : c = 2
  · subst c2; simp -implicitDefEqProofs; unfold F90_7; simp -implicitDefEqProofs; simpa using key (.inr rfl)
  simp -implicitDefEqProofs [c0, c2]
  unfold F90_7
  by_cases c1 : c = 1
  · subst c1
    simp -implicitDefEqProofs
    by_cases hf : frm = -1
    · simp -implicitDefEqProofs [hf]
      unfold CallV
      dsimp only
      refine hart_120 (n := n) kb k1 ?_
      refine fin hq ?_
      simp [Net.link, hf]
    · simp -implicitDefEqProofs [hf]
      exact fin hq (by simp [Net.link, hf])
  · simp -implicitDefEqProofs [c1]
    unfold F90_3
    have e : n.link frm to c = false := by simp [Net.link, c0, c1, c2]
    rw [e] at hq
    rw [if_neg c2]
    exact hq
theorem countP_take_succ {α : Type} {p : α → Bool} {l : List α} {k : Nat} (hk : k < l.length) : (l.take (k + 1)).countP p = (l.take k).countP p + (if p l[k] then 1 else 0) := by
  rw [List.take_succ_eq_append_getElem hk, List.countP_append]; simp [List.countP_cons]
theorem used_91 {H : Hp} {sv : Value} {l : List Flight} {b : Nat} {frm to c : Int} {Q : RT1} (hs : Slc H 12 sv (flsC l) b) (hl : l.length ≤ 2 ^ 20)
    (hq : ∀ H', Ext [] H H' → Q (.int .i64 (Net.used l frm to c)) H') : NCalls Tryz.prog 91 #[sv, .int .i64 frm, .int .i64 to, .int .i64 c] H Q := by
  refine E91 ?_
  unfold F91_0 F91_16 F91_1 F91_15 F91_2 F91_4 F91_14
  obtain ⟨a, cap, hv, _, _⟩ := hs.shape
  have hll := flsC_len l
  have hlv : pv Tryz.prog (Builtin.len_ #[38] 0 #[sv]) = some (.int .i64 l.length) := by rw [hv]; simp -implicitDefEqProofs [hll]
  simp -implicitDefEqProofs [hlv]
  unfold F91_5 F91_6
  let p : Flight → Bool := fun f => f.msg.frm == frm && f.msg.to == to && classOf f.msg.kind == c
  refine ⟨fun v9 v14 H' => ∃ k : Nat, v14 = .int .i64 k ∧ k ≤ l.length ∧ Ext [] H H' ∧ v9 = .int .i64 ((l.take k).countP p : Nat), fun _ v _ => l.length - (iv v).toNat, ⟨0, rfl, by omega, .refl _ _, by simp⟩, ?_⟩
  rintro v9 v14 H1 ⟨k, rfl, hk, e1, rfl⟩
  unfold F91_7 F91_13 F91_8 F91_12
  by_cases hlt : k < l.length
  · simp -implicitDefEqProofs [show (k : Int) < l.length by omega]
    unfold F91_9
    suffices key : ∀ R : RT7, (∀ H2, Ext [] H H2 → R (.int .i64 frm) (.int .i64 to) (.int .i64 c) (.int .i64 ((l.take (k + 1)).countP p : Nat)) sv (.int .i64 l.length) (.int .i64 (k + 1 : Nat)) H2) → F91_11 (.int .i64 frm) (.int .i64 to) (.int .i64 c) (.int .i64 ((l.take k).countP p : Nat)) sv (.int .i64 l.length) (.int .i64 k) H1 R Q from
      key _ fun H2 e2 => ⟨rfl, rfl, rfl, rfl, rfl, ⟨k + 1, rfl, by omega, e2, rfl⟩, by simp; omega⟩
    intro R hR
    unfold F91_11
    obtain ⟨o, hix, _, hcs⟩ := (hs.ext e1 (by simp)).at (i := k) (by omega)
    have hx : (flsC l)[k]'(by omega) = (flightC l[k]).toList := by simp [flsC]
    rw [hx] at hcs
    simp -implicitDefEqProofs [hix, hcs]
    refine New_i fun H2 b2 hb2 e2 s2 k2 => ?_
    refine St_i k2 (by simp [flightC]) (by simp) (by simp [flightC]) fun H3 e3 s3 k3 => ?_
    have k3' : blk H3 b2 (flightC l[k]) := by simpa [wrL, flightC] using k3
    have e13 : Ext [] H H3 := (e1.trans e2).fresh e3 (by have := e1.size; simp; omega)
    have hle : (l.take k).countP p ≤ l.length := Nat.le_trans List.countP_le_length (by simp; omega)
    have hsn := countP_take_succ (p := p) hlt
    have wk : IntKind.wrap .i64 ((k : Int) + 1) = ((k + 1 : Nat) : Int) := by rw [w64 (by omega) (by omega)]; simp
    have fin10 : ∀ H4 (n : Nat), Ext [] H H4 → n = (l.take (k + 1)).countP p → F91_10 (.int .i64 frm) (.int .i64 to) (.int .i64 c) (.int .i64 n) sv (.int .i64 l.length) (.int .i64 k) H4 R Q := by
      intro H4 n e4 hn
      unfold F91_10
      simp -implicitDefEqProofs
      rw [wk, hn]
      exact hR H4 e4
    by_cases c1 : l[k].msg.frm = frm
    · by_cases c2 : l[k].msg.to = to
      · simp -implicitDefEqProofs [k3'.cell, flightC, c1, c2]
        refine Class_89 ?_
        by_cases c3 : classOf l[k].msg.kind = c
        · simp -implicitDefEqProofs [c3]
          have hp : p l[k] = true := by simp [p, c1, c2, c3]
          rw [hp, if_pos rfl] at hsn
          have w1 : IntKind.wrap .i64 (((l.take k).countP p : Int) + 1) = (((l.take k).countP p + 1 : Nat) : Int) := by rw [w64 (by omega) (by omega)]; simp
          rw [w1]
          exact fin10 H3 _ e13 hsn.symm
        · have hp : p l[k] = false := by simp [p, c1, c2, c3]
          rw [hp] at hsn
          simp -implicitDefEqProofs [c3]
          exact fin10 H3 _ e13 (by simpa using hsn.symm)
      · have hp : p l[k] = false := by simp [p, c1, c2]
        rw [hp] at hsn
        simp -implicitDefEqProofs [k3'.cell, flightC, c1, c2]
        exact fin10 H3 _ e13 (by simpa using hsn.symm)
    · have hp : p l[k] = false := by simp [p, c1]
      rw [hp] at hsn
      simp -implicitDefEqProofs [k3'.cell, flightC, c1]
      exact fin10 H3 _ e13 (by simpa using hsn.symm)
  · have hkl : k = l.length := by omega
    subst hkl
    simp -implicitDefEqProofs
    unfold F91_3
    exact hq H1 e1
end YtacidjifocfhkaaGreatDoor
end Go.Proofs
namespace Go.Proofs
open Go Go.NW Go.Pm
set_option maxRecDepth 20000
set_option linter.unusedSimpArgs false
set_option linter.unusedVariables false
namespace YtacidjifocfhkaaGreatDoor
theorem NetAt.c3 {H : Hp} {col : Nat → Rl} {bn : Nat} {n : Net} (k : NetAt H col bn n) : ∃ sv b, cellAt H ⟨bn, 3, none⟩ = some sv ∧ Slc H 12 sv (flsC n.l) b := by
  obtain ⟨cb, sv, kb, ks⟩ := k
  obtain ⟨b, hs⟩ := ks.slc
  exact ⟨sv, b, by rw [kb.cell]; rfl, hs⟩
theorem NetAt.c1 {H : Hp} {col : Nat → Rl} {bn : Nat} {n : Net} (k : NetAt H col bn n) : cellAt H ⟨bn, 1, none⟩ = some (.int .i64 n.room) := by
  obtain ⟨cb, sv, kb, ks⟩ := k; rw [kb.cell]; rfl
theorem at_95 {H : Hp} {col : Nat → Rl} {bn : Nat} {n : Net} {id : Int} {Q : RT1} (k : NetAt H col bn n) (hl : n.l.length ≤ 2 ^ 20)
    (hq : ∀ H', Ext [] H H' → Q (.int .i64 (kOf (n.at? id))) H') : NCalls Tryz.prog 95 #[at0 bn, .int .i64 id] H Q := by
  refine E95 ?_
  unfold F95_0
  refine New_i fun H1 b1 hb1 e1 s1 k1 => ?_
  replace k1 : blk H1 b1 #[.int .i64 id] := by simpa using k1
  obtain ⟨sv, b, hc, hs⟩ := (k.ext0 e1 (Same.refl _ _)).c3
  simp -implicitDefEqProofs [hc]
  refine IndexFunc_121 hs k1 hl fun H2 e2 => ?_
  exact hq H2 (e1.trans e2)
theorem Len_58 {H : Hp} {col : Nat → Rl} {bn : Nat} {n : Net} {Q : RT1} (k : NetAt H col bn n) (hq : Q (.int .i64 n.l.length) H) : NCalls Tryz.prog 58 #[at0 bn] H Q := by
  refine E58 ?_
  unfold F58_0
  obtain ⟨sv, b, hc, hs⟩ := k.c3
  obtain ⟨a, cap, rfl, _⟩ := hs.shape
  simp -implicitDefEqProofs [hc, flsC_len]
  exact hq
theorem All_54 {H : Hp} {col : Nat → Rl} {bn : Nat} {n : Net} {Q : RT1} (k : NetAt H col bn n) (hl : n.l.length ≤ 2 ^ 20)
    (hq : ∀ H' v b, Ext [] H H' → Slc H' 12 v (flsC n.l) b → H.size ≤ b → Q v H') : NCalls Tryz.prog 54 #[at0 bn] H Q := by
  refine E54 ?_
  unfold F54_0
  obtain ⟨sv, b, hc, hs⟩ := k.c3
  simp -implicitDefEqProofs [hc]
  exact Clone_38 hs flsC_one (by rw [flsC_len]; omega) hq
theorem Head_64 {H : Hp} {col : Nat → Rl} {bn : Nat} {n : Net} {id : Int} {Q : RT1} (k : NetAt H col bn n) (hl : n.l.length ≤ 2 ^ 20)
    (hq : ∀ H', Ext [] H H' → Q (.tuple #[.agg (msgC ((n.head id).getD .zero)), .bool (n.head id).isSome]) H') : NCalls Tryz.prog 64 #[at0 bn, .int .i64 id] H Q := by
  refine E64 ?_
  unfold F64_0
  refine New_i fun H1 b1 hb1 e1 s1 k1 => ?_
  have kn1 := k.ext0 e1 (Same.refl _ _)
  refine at_95 kn1 hl fun H2 e2 => ?_
  have kn2 := kn1.ext0 e2 (Same.refl _ _)
  have z2 := e2.size
  replace k1 := k1.ext e2 (by simp)
  cases hk : n.at? id with
  | none =>
    simp -implicitDefEqProofs [kOf]
    refine St_i k1 (by simp) (by simp) (by simp) fun H3 e3 s3 k3 => ?_
    have k3' : blk H3 b1 (msgC .zero) := by simpa [wrL, msgC, Msg.zero, Words.zero] using k3
    simp -implicitDefEqProofs [k3'.cells, show (msgC .zero).size = 11 by rfl, show (msgC .zero).extract 0 11 = msgC .zero by simp [msgC]]
    refine fin (hq H3 ((e1.trans e2).fresh e3 (by simp; omega))) ?_
    simp [Net.head, hk]
  | some j =>
    have hj : j < n.l.length := findIdx_lt hk
    obtain ⟨sv, b, hc, hs⟩ := kn2.c3
    have hll := flsC_len n.l
    obtain ⟨o, hix, hcell, hcs⟩ := hs.at (i := j) (by omega)
    have hx : (flsC n.l)[j]'(by omega) = (flightC n.l[j]).toList := by simp [flsC]
    have hcs11 : cellsAt H2 ⟨b, o + 1, none⟩ 11 = some (msgC n.l[j].msg) := by
      rcases hs.2 with ⟨_, h0⟩ | ⟨o0, cap, c, hv, hcap, hb, hsz, hf⟩
      · rw [h0] at hll; simp at hll; omega
      · have hc1 : ∀ m, m < 12 → c[o + m]? = (flightC n.l[j])[m]? := by
          intro m hm
          have := hcell m hm
          rw [hb.cell, hx] at this
          rw [this, Array.getElem?_toList]
        have hlast := hc1 11 (by omega)
        have hsz2 : o + 11 < c.size := by
          apply Classical.byContradiction; intro hh
          rw [Array.getElem?_eq_none (by omega)] at hlast; simp [flightC] at hlast
        rw [hb.cells, if_pos (by omega)]
        congr 1
        apply Array.ext_getElem?
        intro m
        by_cases hm : m < 11
        · rw [Array.getElem?_extract]
          rw [if_pos (by omega), show o + 1 + m = o + (m + 1) by omega, hc1 (m + 1) (by omega)]
          have : m = 0 ∨ m = 1 ∨ m = 2 ∨ m = 3 ∨ m = 4 ∨ m = 5 ∨ m = 6 ∨ m = 7 ∨ m = 8 ∨ m = 9 ∨ m = 10 := by omega
          rcases this with rfl | rfl | rfl | rfl | rfl | rfl | rfl | rfl | rfl | rfl | rfl <;> simp [flightC, msgC]
        · rw [Array.getElem?_eq_none (by simp; omega), Array.getElem?_eq_none (by simp [msgC]; omega)]
    simp -implicitDefEqProofs [kOf, show ¬ ((j : Int) < 0) by omega, hc, hix, hcs11]
    refine St_i k1 (by simp [msgC]) (by simp) (by simp [msgC]) fun H3 e3 s3 k3 => ?_
    have k3' : blk H3 b1 (msgC n.l[j].msg) := by simpa [wrL, msgC] using k3
    simp -implicitDefEqProofs [k3'.cells, show (msgC n.l[j].msg).size = 11 by rfl, show (msgC n.l[j].msg).extract 0 11 = msgC n.l[j].msg by simp [msgC]]
    refine fin (hq H3 ((e1.trans e2).fresh e3 (by simp; omega))) ?_
    simp [Net.head, hk, hj]
theorem Room_130 {H : Hp} {col : Nat → Rl} {bn : Nat} {n : Net} {frm to c : Int} {Q : RT1} (k : NetAt H col bn n) (hl : n.l.length ≤ 2 ^ 20) (hr : n.room ≤ 2 ^ 20)
    (hq : ∀ H', Ext [] H H' → Q (.int .i64 (n.free frm to c)) H') : NCalls Tryz.prog 130 #[at0 bn, .int .i64 frm, .int .i64 to, .int .i64 c] H Q := by
  refine E130 ?_
  unfold F130_0
  refine link_90 k fun H1 e1 => ?_
  have k1 := k.ext0 e1 (Same.refl _ _)
  cases hlk : n.link frm to c with
  | false =>
    simp -implicitDefEqProofs
    exact fin (hq H1 e1) (by simp [Net.free, hlk])
  | true =>
    obtain ⟨sv, b, hc, hs⟩ := k1.c3
    simp -implicitDefEqProofs [hc, k1.c1]
    refine used_91 hs hl fun H2 e2 => ?_
    have k2 := k1.ext0 e2 (Same.refl _ _)
    have hu : Net.used n.l frm to c ≤ n.l.length := List.countP_le_length
    simp -implicitDefEqProofs [k2.c1]
    refine fin (hq H2 (e1.trans e2)) ?_
    rw [w64 (by omega) (by omega)]
    simp [Net.free, hlk]
end YtacidjifocfhkaaGreatDoor
end Go.Proofs
namespace Go.Proofs
open Go Go.NW Go.Pm
set_option maxRecDepth 20000
set_option linter.unusedSimpArgs false
set_option linter.unusedVariables false
namespace YtacidjifocfhkaaGreatDoor
theorem New_40 {H : Hp} {col : Nat → Rl} {h r : Nat} {Q : RT1} (hh : 1 ≤ h ∧ h ≤ 4) (hr : 1 ≤ r ∧ r ≤ 64)
    (hq : ∀ H' bn, Ext [] H H' → NetAt H' (recol col bn .net) bn { harts := h, room := r } → blk H' bn #[.int .i64 h, .int .i64 r, .int .i64 0, .slice none 0 0] → H.size ≤ bn → Q (.tuple #[at0 bn, .nilIface]) H') :
    NCalls Tryz.prog 40 #[.int .i64 h, .int .i64 r] H Q := by
  refine E40 ?_
  unfold F40_0
  simp -implicitDefEqProofs [show ¬ ((h : Int) < 1) by omega, show ¬ ((4 : Int) < h) by omega, show ¬ ((r : Int) < 1) by omega, show ¬ ((64 : Int) < r) by omega]
  refine New_i fun H1 b1 hb1 e1 s1 k1 => ?_
  replace k1 : blk H1 b1 #[.int .i64 h, .int .i64 r, .int .i64 0, .slice none 0 0] := by simpa using k1
  exact hq H1 b1 e1 ⟨by simp [recol], _, by simpa using k1, .inl ⟨rfl, rfl⟩⟩ k1 (by omega)
theorem NetAt.st {H : Hp} {col : Nat → Rl} {bn : Nat} {n : Net} {sv : Value} {l : List Flight} {K : Hp → Prop} (k : NetAt H col bn n) (hs : SlR H col .msgs 12 sv (flsC l))
    (hK : ∀ H', Ext [bn] H H' → H'.size = H.size → NetAt H' col bn { n with l := l } → K H') : St 1 H (.pointer (some ⟨bn, 3, none⟩)) sv K := by
  obtain ⟨cb, sv0, kb, ks⟩ := k
  have hone := hs.one
  have hcell : sv.cells = #[sv] := by
    obtain ⟨b, hb⟩ := hs.slc
    obtain ⟨a, cap, rfl, _⟩ := hb.shape
    rfl
  refine St_i kb (by rw [hcell]; rfl) (by simp) (by rw [hcell]; simp [hone]) fun H' e s k' => hK H' e s ⟨cb, sv, ?_, ?_⟩
  · rw [hcell] at k'; simpa [wrL] using k'
  · exact hs.ext e (Same.refl _ _) (by intro x hx _; simp at hx; subst hx; rw [cb]; simp)
theorem Take_100 {H : Hp} {col : Nat → Rl} {bn : Nat} {n : Net} {id : Int} {Q : RT1} (k : NetAt H col bn n) (hl : n.l.length ≤ 2 ^ 19)
    (hq : ∀ H' col' v, Ext [bn] H H' → Same H col col' → NetAt H' col' bn (n.take id) → Q v H') : NCalls Tryz.prog 100 #[at0 bn, .int .i64 id] H Q := by
  have lb := k.lb
  refine E100 ?_
  unfold F100_0 F100_6
  refine New_i fun H1 b1 hb1 e1 s1 k1 => ?_
  unfold F100_1 F100_5
  refine Head_64 (k.ext0 e1 (Same.refl _ _)) (by omega) fun H2 e2 => ?_
  replace k1 := k1.ext e2 (by simp)
  have z2 := e2.size
  simp -implicitDefEqProofs
  refine New_i fun H3 b3 hb3 e3 s3 k3 => ?_
  replace k1 := k1.ext e3 (by simp)
  generalize hm : (n.head id).getD .zero = m
  refine St_i k3 (by simp [msgC]) (by simp) (by simp [msgC]) fun H4 e4 s4 k4 => ?_
  have k4' : blk H4 b3 (msgC m) := by simpa [wrL, msgC] using k4
  replace k1 := k1.ext e4 (by simp; omega)
  have E4 : Ext [] H H4 := ((e1.trans e2).trans e3).fresh e4 (by simp; omega)
  have z4 := E4.size
  have hb1' : H.size ≤ b1 := by omega
  have hne : b1 ≠ bn := by omega
  have fin3 : ∀ (x : Bool) (H5 : Hp) (col5 : Nat → Rl), Ext [bn] H H5 → Same H col col5 → col5 b1 = .other → NetAt H5 col5 bn (n.take id) → blk H5 b3 (msgC m) → (∃ c1, blk H5 b1 c1 ∧ c1.size = 11) → F100_3 (at0 b1) (at0 b3) (.bool x) H5 Q := by
    intro x H5 col5 e5 c5 c5b kn5 k35 ⟨c1, k15, hc1⟩
    unfold F100_3
    simp -implicitDefEqProofs [k35.cells, show (msgC m).size = 11 by rfl, show (msgC m).extract 0 11 = msgC m by simp [msgC]]
    refine St_i k15 (by simp [msgC]) (by rw [hc1]; simp) (by simp [msgC]) fun H6 e6 s6 k6 => ?_
    have hsz6 : (wrL c1 0 (Value.agg (msgC m)).cells.toList).size = 11 := by rw [wrL_size]; exact hc1
    have kn6 : NetAt H6 col5 bn (n.take id) := kn5.ext e6 (Same.refl _ _) (by intro y hy _; simp at hy; subst hy; rw [c5b]; simp)
    have hcs : cellsAt H6 ⟨b1, 0, none⟩ 11 = some ((wrL c1 0 (Value.agg (msgC m)).cells.toList).extract 0 (0 + 11)) := by rw [k6.cells, if_pos (by rw [hsz6]; simp)]
    simp only [LdA_some, hcs, Option.map_some, q_some]
    exact hq H6 col5 _ (e5.fresh e6 (by simp; omega)) c5 kn6
  have cA : Same H col (recol col b1 .other) := Same.recol hb1'
  have k11 : ∃ c1, blk H4 b1 c1 ∧ c1.size = 11 := ⟨_, k1, by simp⟩
  unfold F100_2 F100_4
  cases hk : n.at? id with
  | none =>
    have hh : n.head id = none := by simp [Net.head, hk]
    simp -implicitDefEqProofs [hh]
    refine fin3 _ H4 _ (E4.mono (by simp)) cA (by simp [recol]) ?_ k4' k11
    have := k.ext0 E4 cA
    simpa [Net.take, hk] using this
  | some j =>
    have hj : j < n.l.length := findIdx_lt hk
    have hh : n.head id = some n.l[j].msg := by simp [Net.head, hk, hj]
    simp -implicitDefEqProofs [hh]
    have kn4 := k.ext0 E4 cA
    refine at_95 kn4 (by omega) fun H5 e5 => ?_
    have kn5 := kn4.ext0 e5 (Same.refl _ _)
    have E5 := E4.trans e5
    obtain ⟨sv, b, hc, hs⟩ := kn5.c3
    have hll := flsC_len n.l
    have hnn : flsC n.l ≠ [] := by intro e; rw [e] at hll; simp at hll; omega
    obtain ⟨v1, s1, kv1⟩ := hs.take (k := j) (by omega) hnn .i64
    obtain ⟨v2, s2, kv2⟩ := hs.drop (k := j + 1) (by omega) hnn .i64
    have wk : IntKind.wrap .i64 ((j : Int) + 1) = ((j + 1 : Nat) : Int) := by rw [w64 (by omega) (by omega)]; simp
    rw [hk]
    simp -implicitDefEqProofs only [kOf, q_some, Nz_some, Fa_some, add_mk, Nat.zero_add, Ld_some, hc, s1, Bin_add_3, wk, s2]
    refine Bsl_i (cells := #[v1, v2]) (by obtain ⟨a, cap, rfl, _⟩ := kv1.shape; obtain ⟨a, cap, rfl, _⟩ := kv2.shape; exact bsl2 _ _ _ _ _ _) fun H6 b6 hb6 e6 z6 kk => ?_
    have hvv : Slc H6 1 (.slice (some ⟨b6, 0, none⟩) 2 2) ([v1, v2].map fun s => [s]) b6 := by
      exact Slc.of (xs := [v1, v2].map fun s => [s]) (c := #[v1, v2]) (by simp) kk (by simp) (by simp) (by simp)
    refine Concat_131 (xss := [(flsC n.l).take j, (flsC n.l).drop (j + 1)]) hvv (by simp) ?_ ?_ ?_ (by simp) fun H7 v7 b7 e7 k7 hb7 => ?_
    · intro i h1 h2
      match i with
      | 0 => exact kv1.row.ext0 e6
      | 1 => exact kv2.row.ext0 e6
      | i + 2 => simp at h1; omega
    · intro xs hx y hy
      simp at hx
      rcases hx with rfl | rfl
      · exact flsC_one y (List.mem_of_mem_take hy)
      · exact flsC_one y (List.mem_of_mem_drop hy)
    · simp; omega
    · have E7 : Ext [] H H7 := (E5.trans e6).trans e7
      have z5 := e5.size
      have z6' := e6.size
      have ek : [(flsC n.l).take j, (flsC n.l).drop (j + 1)].flatten = flsC (n.l.eraseIdx j) := by
        rw [List.eraseIdx_eq_take_drop_succ]; simp [flsC, List.map_take, List.map_drop]
      rw [ek] at k7
      have l1 : b1 < H4.size := k1.lt
      have c7 : Same H col (recol (recol col b1 .other) b7 .msgs) := cA.trans (Same.recol (H := H4) (by omega)) E4.size
      have kn7 := k.ext0 E7 c7
      refine kn7.st (SlR.of k7) fun H8 e8 s8 kn8 => ?_
      obtain ⟨c1, k1c, hc1⟩ := k11
      refine fin3 _ H8 _ ((E7.mono (by simp)).trans e8) c7 ?_ ?_ ?_ ?_
      · simp only [recol]; rw [if_neg (by omega)]; simp
      · simpa [Net.take, hk] using kn8
      · exact (((k4'.ext e5 (by simp)).ext e6 (by simp)).ext e7 (by simp)).ext e8 (by simp; omega)
      · exact ⟨c1, (((k1c.ext e5 (by simp)).ext e6 (by simp)).ext e7 (by simp)).ext e8 (by simp; omega), hc1⟩
end YtacidjifocfhkaaGreatDoor
end Go.Proofs
namespace Go.Proofs
open Go Go.NW Go.Pm
set_option maxRecDepth 20000
set_option linter.unusedSimpArgs false
set_option linter.unusedVariables false
namespace YtacidjifocfhkaaGreatDoor
/-- the errors are laid -/
def Glob (H : Hp) : Prop := ∀ b, b < 5 → ∃ c t v, blk H b c ∧ c[0]? = some (.iface t v)
theorem Glob.ext {S : List Nat} {H H' : Hp} (g : Glob H) (e : Ext S H H') (hS : ∀ x ∈ S, 5 ≤ x) : Glob H' := by
  intro b hb
  obtain ⟨c, t, v, h1, h2⟩ := g b hb
  exact ⟨c, t, v, h1.ext e fun hm => by have := hS b hm; omega, h2⟩
theorem Glob.at {H : Hp} (g : Glob H) {b : Nat} (hb : b < 5) : ∃ t v, cellAt H ⟨b, 0, none⟩ = some (.iface t v) := by
  obtain ⟨c, t, v, h1, h2⟩ := g b hb
  exact ⟨t, v, by rw [h1.cell]; exact h2⟩
theorem sendL_none {n : Net} {l : List Flight} {k : Nat} {m : Msg} {ms : List Msg} (h : n.may l m = false) : n.sendL l k (m :: ms) = none := by simp [Net.sendL, h]
theorem sendL_some {n : Net} {l : List Flight} {k : Nat} {m : Msg} {ms : List Msg} (h : n.may l m = true) : n.sendL l k (m :: ms) = n.sendL (l ++ [{ id := n.next + k, msg := m }]) (k + 1) ms := by simp [Net.sendL, h]
theorem bld_flight (x : Int) (m : Msg) : pv Tryz.prog (Instr.build 68 #[(0, .int .i64 x), (1, .agg (msgC m))]) = some (.agg (flightC { id := x, msg := m })) := by kernel_rfl
theorem Send_53 {H : Hp} {col : Nat → Rl} {bn bm : Nat} {n : Net} {mv : Value} {ms : List Msg} {Q : RT1} (g : Glob H) (k : NetAt H col bn n) (hl : n.l.length + ms.length ≤ 2 ^ 19) (hnx : n.next ≤ 2 ^ 40) (hrm : n.room ≤ 2 ^ 20)
    (hm : Msgs H mv ms bm)
    (hq : ∀ H' col' v, Ext [bn] H H' → Same H col col' → NetAt H' col' bn (n.send ms) → Q v H') : NCalls Tryz.prog 53 #[at0 bn, mv] H Q := by
  have lb := k.lb
  refine E53 ?_
  unfold F53_0 F53_25 F53_1 F53_24
  obtain ⟨sv, b, hc, hs⟩ := k.c3
  simp -implicitDefEqProofs [hc]
  refine Clone_38 hs flsC_one (by rw [flsC_len]; omega) fun H1 v1 b1 e1 k1 hb1 => ?_
  unfold F53_2 F53_4 F53_23
  obtain ⟨a, cap, hmv, _, _⟩ := id hm.shape
  have hml : (ms.map fun m => (msgC m).toList).length = ms.length := by simp
  have hlv : pv Tryz.prog (Builtin.len_ #[117] 0 #[mv]) = some (.int .i64 ms.length) := by rw [hmv]; simp -implicitDefEqProofs [hml]
  simp -implicitDefEqProofs [hlv]
  unfold F53_5 F53_6
  refine ⟨fun v5 v17 H' => ∃ (i b5 : Nat) (l : List Flight), v17 = .int .i64 i ∧ i ≤ ms.length ∧ Ext [] H H' ∧ Slc H' 12 v5 (flsC l) b5 ∧ H.size ≤ b5 ∧ l.length = n.l.length + i ∧ n.sendL n.l 0 ms = n.sendL l i (ms.drop i), fun _ v _ => ms.length - (iv v).toNat,
    ⟨0, b1, n.l, rfl, by omega, e1, k1, hb1, by simp, by simp⟩, ?_⟩
  rintro v5 v17 H2 ⟨i, b5, l, rfl, hi, e2, k5, hb5, hll, hsend⟩
  unfold F53_7 F53_22 F53_8 F53_21
  have z2 := e2.size
  by_cases hlt : i < ms.length
  · have hlt' : (i : Int) < ms.length := by omega
    simp -implicitDefEqProofs only [Bin_lss_3, q_some, condV_bool, hlt', decide_true, if_true]
    unfold F53_9
    suffices key : ∀ R : RT6, (∀ H3 v3 b3, Ext [] H H3 → Slc H3 12 v3 (flsC (l ++ [{ id := (n.next : Int) + i, msg := ms[i] }])) b3 → H.size ≤ b3 → n.may l ms[i] = true → R (at0 bn) mv v3 mv (.int .i64 ms.length) (.int .i64 (i + 1 : Nat)) H3) → F53_11 (at0 bn) mv v5 mv (.int .i64 ms.length) (.int .i64 i) H2 R Q from
      key _ fun H3 v3 b3 e3 k3 hb3 hmay => ⟨rfl, rfl, rfl, rfl, ⟨i + 1, b3, _, rfl, by omega, e3, k3, hb3, by simp; omega, by rw [hsend, List.drop_eq_getElem_cons hlt, sendL_some hmay]⟩, by simp; omega⟩
    intro R hR
    unfold F53_11 F53_12 F53_20
    obtain ⟨o, hix, _, hcs⟩ := (hm.ext e2 (by simp)).at (i := i) (by simpa using hlt)
    have hx : (ms.map fun m => (msgC m).toList)[i]'(by simpa using hlt) = (msgC ms[i]).toList := by simp
    rw [hx] at hcs
    generalize hmi : ms[i] = m at hcs hR
    simp -implicitDefEqProofs [hix, hcs]
    refine New_i fun H3 b3 hb3 e3 s3 k3 => ?_
    refine St_i k3 (by simp [msgC]) (by simp) (by simp [msgC]) fun H4 e4 s4 k4 => ?_
    have k4' : blk H4 b3 (msgC m) := by simpa [wrL, msgC] using k4
    have e24 : Ext [] H2 H4 := e3.fresh e4 (by simp; omega)
    have E4 := e2.trans e24
    replace k5 := k5.ext e24 (by simp)
    unfold F53_13 F53_19
    have hk0 : cellAt H4 ⟨b3, 0, none⟩ = some (.int .i64 m.kind) := by rw [k4'.cell]; rfl
    simp -implicitDefEqProofs [hk0]
    refine Class_89 ?_
    unfold F53_14 F53_18 F53_15 F53_17
    have err : ∀ (H5 : Hp) (t : TypeId) (v : Value), Ext [] H H5 → n.may l m = false → F53_16 (at0 bn) mv v5 (.int .i64 i) (at0 b3) (.iface t v) mv (.int .i64 ms.length) (.int .i64 i) H5 R Q := by
      intro H5 t v e5 hmay
      unfold F53_16
      simp -implicitDefEqProofs
      refine New_i fun H6 b6 hb6 e6 s6 k6 => ?_
      refine hq H6 col _ ((e5.trans e6).mono (by simp)) (Same.refl _ _) ?_
      have : n.send ms = n := by
        unfold Net.send
        rw [hsend, List.drop_eq_getElem_cons hlt, hmi, sendL_none hmay]
      rw [this]
      exact k.ext0 (e5.trans e6) (Same.refl _ _)
    have kn4 := k.ext0 E4 (Same.refl _ _)
    by_cases c1 : classOf m.kind = -1
    · obtain ⟨t, v, hg⟩ := (g.ext E4 (by simp)).at (b := 2) (by omega)
      simp -implicitDefEqProofs [c1, hg]
      exact err H4 t v E4 (by simp [Net.may, c1])
    simp -implicitDefEqProofs [c1, k4'.cell, msgC]
    refine link_90 kn4 fun H5 e5 => ?_
    have k45 := k4'.ext e5 (by simp)
    have E5 := E4.trans e5
    have kn5 := kn4.ext0 e5 (Same.refl _ _)
    replace k5 := k5.ext e5 (by simp)
    obtain ⟨t4, v4, hg4⟩ := (g.ext E5 (by simp)).at (b := 4) (by omega)
    cases c2 : n.link m.frm m.to (classOf m.kind) with
    | false =>
      simp -implicitDefEqProofs [hg4]
      exact err H5 t4 v4 E5 (by simp [Net.may, c2])
    | true =>
    by_cases c3 : m.line < 0
    · simp -implicitDefEqProofs [k45.cell, msgC, c3, hg4]
      exact err H5 t4 v4 E5 (by simp [Net.may]; intros; omega)
    simp -implicitDefEqProofs [k45.cell, msgC, c3, kn5.c1]
    refine used_91 k5 (by omega) fun H6 e6 => ?_
    have k46 := k45.ext e6 (by simp)
    have E6 := E5.trans e6
    have kn6 := kn5.ext0 e6 (Same.refl _ _)
    replace k5 := k5.ext e6 (by simp)
    obtain ⟨t3, v3, hg3⟩ := (g.ext E6 (by simp)).at (b := 3) (by omega)
    by_cases c4 : n.room ≤ Net.used l m.frm m.to (classOf m.kind)
    · simp -implicitDefEqProofs [kn6.c1, show (n.room : Int) ≤ Net.used l m.frm m.to (classOf m.kind) by omega, hg3]
      exact err H6 t3 v3 E6 (by simp [Net.may]; intros; omega)
    have hmay : n.may l m = true := by simp [Net.may, c1, c2]; omega
    simp -implicitDefEqProofs [kn6.c1, show ¬ ((n.room : Int) ≤ Net.used l m.frm m.to (classOf m.kind)) by omega]
    unfold F53_16
    have hn2 : cellAt H6 ⟨bn, 2, none⟩ = some (.int .i64 n.next) := by
      obtain ⟨cb, sv6, kb6, ks6⟩ := kn6; rw [kb6.cell]; rfl
    have wn : IntKind.wrap .i64 ((n.next : Int) + i) = (n.next : Int) + i := w64 (by omega) (by omega)
    simp -implicitDefEqProofs [hn2, wn, k46.cells, show (msgC m).size = 11 by rfl, show (msgC m).extract 0 11 = msgC m by simp [msgC]]
    have wi : IntKind.wrap .i64 ((i : Int) + 1) = ((i + 1 : Nat) : Int) := by rw [w64 (by omega) (by omega)]; simp
    have z6 := E6.size
    rw [bld_flight, q_some]
    refine Bsl_i (cells := flightC { id := (n.next : Int) + i, msg := m }) (by kernel_rfl) fun H7 b7 hb7 e7 z7 kk => ?_
    have hx7 : Slc H7 12 (.slice (some ⟨b7, 0, none⟩) 1 1) (flsC [{ id := (n.next : Int) + i, msg := m }]) b7 := by
      refine Slc.of (xs := flsC [{ id := (n.next : Int) + i, msg := m }]) (c := _) ?_ kk ?_ ?_ ?_
      · simp [flsC, flightC]
      · simp [flsC]
      · simp [flightC]
      · simp [flsC, flightC]
    refine append_i ty_38 (k5.ext e7 (by simp)) hx7 flsC_one (by rw [flsC_len, flsC_len]; simp; omega) fun H8 v8 b8 e8 k8 hb8 => ?_
    have ek : flsC l ++ flsC [{ id := (n.next : Int) + i, msg := m }] = flsC (l ++ [{ id := (n.next : Int) + i, msg := m }]) := by simp [flsC]
    rw [ek] at k8
    have z7' := e7.size
    unfold F53_10
    simp -implicitDefEqProofs
    rw [wi]
    exact hR H8 v8 b8 ((E6.trans e7).fresh e8 (by simp; omega)) k8 (by omega) hmay
  · have hil : i = ms.length := by omega
    subst hil
    simp -implicitDefEqProofs
    unfold F53_3
    have hb5' := hb5
    have c5 : Same H col (recol col b5 .msgs) := Same.recol hb5
    have kn5 := k.ext0 e2 c5
    have hsnd : n.send ms = { n with l := l, next := n.next + ms.length } := by
      unfold Net.send
      rw [hsend, List.drop_length]
      rfl
    refine kn5.st (SlR.of k5) fun H3 e3 s3 kn3 => ?_
    obtain ⟨cb3, sv3, kb3, ks3⟩ := kn3
    have wn : IntKind.wrap .i64 ((n.next : Int) + ms.length) = ((n.next + ms.length : Nat) : Int) := by rw [w64 (by omega) (by omega)]; simp
    simp -implicitDefEqProofs [kb3.cell, hlv, wn]
    refine St_i kb3 (by simp) (by simp) (by simp) fun H4 e4 s4 k4 => ?_
    refine hq H4 _ _ (((e2.mono (by simp)).trans e3).trans e4) c5 ?_
    rw [hsnd]
    refine ⟨cb3, sv3, by simpa [wrL] using k4, ks3.ext e4 (Same.refl _ _) ?_⟩
    intro x hx _; simp at hx; subst hx; rw [cb3]; simp
end YtacidjifocfhkaaGreatDoor
end Go.Proofs
namespace Go.Proofs
open Go Go.NW Go.Pm
set_option maxRecDepth 20000
set_option linter.unusedSimpArgs false
set_option linter.unusedVariables false
namespace YtacidjifocfhkaaGreatDoor
theorem cmp_111 {H : Hp} {a b : Entry} {Q : RT1} (hq : ∀ H' r, Ext [] H H' → Q (.int .i64 r) H') : NCalls Tryz.prog 111 #[.agg (entryC a), .agg (entryC b)] H Q := by
  refine E111 ?_
  unfold F111_0
  refine New_i fun H1 b1 hb1 e1 s1 k1 => ?_
  refine New_i fun H2 b2 hb2 e2 s2 k2 => ?_
  replace k1 : blk H2 b1 (entryC a) := by simpa using k1.ext e2 (by simp)
  replace k2 : blk H2 b2 (entryC b) := by simpa using k2
  simp -implicitDefEqProofs [k1.cell, k2.cell, entryC]
  exact hq H2 _ (e1.trans e2)
def cmpV : Value := .func (.func 111) #[] #[]
theorem ents_at {H : Hp} {v : Value} {xs : List Entry} {b i : Nat} (hs : Slc H 6 v (entsC xs) b) (hi : i < xs.length) :
    ∃ o, (∀ k, Ix 6 v (.int k i) = some (.pointer (some ⟨b, o, none⟩))) ∧ cellsAt H ⟨b, o, none⟩ 6 = some (entryC xs[i]) := by
  have hll := entsC_len xs
  obtain ⟨o, hix, _, hcs⟩ := hs.at (i := i) (by omega)
  refine ⟨o, hix, ?_⟩
  rw [hcs]; simp [entsC]
theorem insertion_150 {H : Hp} {v : Value} {xs : List Entry} {b : Nat} {Q : RT1} (hs : Slc H 6 v (entsC xs) b) (hl : xs.length ≤ 12)
    (hq : ∀ H' ys, Ext [b] H H' → Slc H' 6 v (entsC ys) b → ys.Perm xs → Q (.tuple #[]) H') : NCalls Tryz.prog 150 #[v, .int .i64 0, .int .i64 xs.length, cmpV] H Q := by
  refine E150 ?_
  unfold F150_0 F150_13
  have w1 : IntKind.wrap .i64 ((0 : Int) + 1) = ((1 : Nat) : Int) := by rw [w64 (by omega) (by omega)]; simp
  simp only [Bin_add_3, w1, q_some]
  unfold F150_1 F150_2
  refine ⟨fun v8 H' => ∃ (i : Nat) (ys : List Entry), v8 = .int .i64 i ∧ i ≤ xs.length + 1 ∧ Ext [b] H H' ∧ Slc H' 6 v (entsC ys) b ∧ ys.Perm xs, fun v8 _ => xs.length + 1 - (iv v8).toNat, ⟨1, xs, rfl, by omega, .refl _ _, hs, .refl _⟩, ?_⟩
  rintro v8 H1 ⟨i, ys, rfl, hi, e1, k1, p1⟩
  have hyl : ys.length = xs.length := p1.length_eq
  unfold F150_3 F150_12
  by_cases hlt : i < xs.length
  · have hlt' : (i : Int) < xs.length := by omega
    simp only [Bin_lss_3, q_some, condV_bool, hlt', decide_true, if_true]
    suffices key : ∀ R : RT5, (∀ H2 zs, Ext [b] H H2 → Slc H2 6 v (entsC zs) b → zs.Perm xs → R v (.int .i64 0) (.int .i64 xs.length) cmpV (.int .i64 (i + 1 : Nat)) H2) → F150_4 v (.int .i64 0) (.int .i64 xs.length) cmpV (.int .i64 i) H1 R Q from
      key _ fun H2 zs e2 k2 p2 => ⟨rfl, rfl, rfl, rfl, ⟨i + 1, zs, rfl, by omega, e2, k2, p2⟩, by simp; omega⟩
    intro R hR
    unfold F150_4 F150_6 F150_7 F150_11 F150_8 F150_9
    refine ⟨fun v9 H' => ∃ (j : Nat) (zs : List Entry), v9 = .int .i64 j ∧ j ≤ i ∧ Ext [b] H H' ∧ Slc H' 6 v (entsC zs) b ∧ zs.Perm xs, fun v9 _ => (iv v9).toNat, ⟨i, ys, rfl, by omega, e1, k1, p1⟩, ?_⟩
    rintro v9 H2 ⟨j, zs, rfl, hj, e2, k2, p2⟩
    have hzl : zs.length = xs.length := p2.length_eq
    suffices key : ∀ R9 : RT6, (∀ H3 us, 0 < j → Ext [b] H H3 → Slc H3 6 v (entsC us) b → us.Perm xs → R9 v (.int .i64 0) (.int .i64 xs.length) cmpV (.int .i64 i) (.int .i64 (j - 1 : Nat)) H3) → F150_10 v (.int .i64 0) (.int .i64 xs.length) cmpV (.int .i64 i) (.int .i64 j) H2 R R9 Q from
      key _ fun H3 us hj0 e3 k3 p3 => ⟨rfl, rfl, rfl, rfl, rfl, ⟨j - 1, us, rfl, by omega, e3, k3, p3⟩, by simp; omega⟩
    intro R9 hR9
    unfold F150_10
    have wi : IntKind.wrap .i64 ((i : Int) + 1) = ((i + 1 : Nat) : Int) := by rw [w64 (by omega) (by omega)]; simp
    have out : ∀ H3, Ext [b] H H3 → Slc H3 6 v (entsC zs) b → F150_5 v (.int .i64 0) (.int .i64 xs.length) cmpV (.int .i64 i) H3 R Q := by
      intro H3 e3 k3
      unfold F150_5
      simp only [Bin_add_3, q_some, wi]
      exact hR H3 zs e3 k3 p2
    by_cases hj0 : j = 0
    · subst hj0
      simp -implicitDefEqProofs
      exact out H2 e2 k2
    · have wj : IntKind.wrap .i64 ((j : Int) - 1) = ((j - 1 : Nat) : Int) := by rw [w64 (by omega) (by omega)]; omega
      obtain ⟨o1, hx1, hc1⟩ := ents_at k2 (i := j) (by omega)
      obtain ⟨o2, hx2, hc2⟩ := ents_at k2 (i := j - 1) (by omega)
      simp -implicitDefEqProofs [show 0 < j by omega, hx1, hc1, wj, hx2, hc2]
      unfold cmpV CallV
      dsimp only
      refine cmp_111 fun H3 r e3 => ?_
      have e23 := e2.trans (e3.mono (S' := [b]) (by simp))
      have k3 := k2.ext e3 (by simp)
      by_cases hr : r < 0
      · obtain ⟨o3, hx3, hc3⟩ := ents_at k3 (i := j) (by omega)
        obtain ⟨o4, hx4, hc4⟩ := ents_at k3 (i := j - 1) (by omega)
        have q1 : o3 = o1 := by have a := hx3 .i64; have b := hx1 .i64; rw [a] at b; simpa using b
        have q2 : o4 = o2 := by have a := hx4 .i64; have b := hx2 .i64; rw [a] at b; simpa using b
        subst q1 q2
        simp -implicitDefEqProofs [hr, hx3, hc3, wj, hx4, hc4]
        obtain ⟨o5, hx5, hst5⟩ := k3.st (i := j) (x := .agg (entryC (zs[j - 1]'(by omega)))) (by rw [entsC_len]; omega) (by simp [entryC]) (by simp [entryC])
        have e35 : o5 = o3 := by have a := hx5 .i64; have b := hx3 .i64; rw [a] at b; simpa using b
        subst e35
        refine hst5 _ fun H4 e4 s4 k4 => ?_
        have m4 : (entsC zs).set j (Value.cells (.agg (entryC (zs[j - 1]'(by omega))))).toList = entsC (zs.set j (zs[j - 1]'(by omega))) := by simp [entsC, List.map_set]
        rw [m4] at k4
        obtain ⟨o6, hx6, hst6⟩ := k4.st (i := j - 1) (x := .agg (entryC (zs[j]'(by omega)))) (by rw [entsC_len, List.length_set]; omega) (by simp [entryC]) (by simp [entryC])
        have e46 : o6 = o4 := by have a := hx6 .i64; have b := hx4 .i64; rw [a] at b; simpa using b
        subst e46
        refine hst6 _ fun H5 e5 s5 k5 => ?_
        have m5 : (entsC (zs.set j (zs[j - 1]'(by omega)))).set (j - 1) (Value.cells (.agg (entryC (zs[j]'(by omega))))).toList = entsC ((zs.set j (zs[j - 1]'(by omega))).set (j - 1) (zs[j]'(by omega))) := by simp [entsC, List.map_set]
        rw [m5] at k5
        exact hR9 H5 _ (by omega) ((e23.trans e4).trans e5) k5 ((List.set_set_perm (by omega) (by omega)).trans p2)
      · simp -implicitDefEqProofs [hr]
        exact out H3 e23 k3
  · have hlt' : ¬ ((i : Int) < xs.length) := by omega
    simp only [Bin_lss_3, q_some, condV_bool, hlt', decide_false, Bool.false_eq_true, if_false]
    exact hq H1 ys e1 k1 p1
theorem pdq_136 {H : Hp} {v r : Value} {xs : List Entry} {b : Nat} {Q : RT1} (hs : Slc H 6 v (entsC xs) b) (hl : xs.length ≤ 12)
    (hq : ∀ H' ys, Ext [b] H H' → Slc H' 6 v (entsC ys) b → ys.Perm xs → Q (.tuple #[]) H') : NCalls Tryz.prog 136 #[v, .int .i64 0, .int .i64 xs.length, r, cmpV] H Q := by
  refine E136 ?_
  unfold F136_0 F136_21 F136_1 F136_20 F136_2 F136_3
  refine ⟨fun a1 a2 _ _ _ H' => a1 = .int .i64 0 ∧ a2 = .int .i64 xs.length ∧ H' = H, fun _ _ _ _ _ _ => 0, ⟨rfl, rfl, rfl⟩, ?_⟩
  rintro a1 a2 a3 a10 a11 H1 ⟨rfl, rfl, rfl⟩
  unfold F136_4 F136_5 F136_19 F136_6 F136_18
  have w0 : IntKind.wrap .i64 ((xs.length : Int) - 0) = xs.length := by rw [w64 (by omega) (by omega)]; simp
  have h12 : (xs.length : Int) ≤ 12 := by omega
  simp only [Bin_sub_3, w0, q_some, Bin_leq_3, condV_bool, h12, decide_true, if_true]
  exact insertion_150 hs hl hq
theorem Len_159 {H : Hp} {n : Nat} (hn : n ≤ 12) {Q : RT1} (hq : ∀ r, Q (.int .i64 r) H) : F159_0 (.int .u64 n) H Q := by
  have : n = 0 ∨ n = 1 ∨ n = 2 ∨ n = 3 ∨ n = 4 ∨ n = 5 ∨ n = 6 ∨ n = 7 ∨ n = 8 ∨ n = 9 ∨ n = 10 ∨ n = 11 ∨ n = 12 := by omega
  rcases this with rfl | rfl | rfl | rfl | rfl | rfl | rfl | rfl | rfl | rfl | rfl | rfl | rfl
  · exact (show F159_0 (.int .u64 ((0 : Nat) : Int)) H Q = Q (.int .i64 0) H by kernel_rfl).mpr (hq 0)
  · exact (show F159_0 (.int .u64 ((1 : Nat) : Int)) H Q = Q (.int .i64 1) H by kernel_rfl).mpr (hq 1)
  · exact (show F159_0 (.int .u64 ((2 : Nat) : Int)) H Q = Q (.int .i64 2) H by kernel_rfl).mpr (hq 2)
  · exact (show F159_0 (.int .u64 ((3 : Nat) : Int)) H Q = Q (.int .i64 2) H by kernel_rfl).mpr (hq 2)
  · exact (show F159_0 (.int .u64 ((4 : Nat) : Int)) H Q = Q (.int .i64 3) H by kernel_rfl).mpr (hq 3)
  · exact (show F159_0 (.int .u64 ((5 : Nat) : Int)) H Q = Q (.int .i64 3) H by kernel_rfl).mpr (hq 3)
  · exact (show F159_0 (.int .u64 ((6 : Nat) : Int)) H Q = Q (.int .i64 3) H by kernel_rfl).mpr (hq 3)
  · exact (show F159_0 (.int .u64 ((7 : Nat) : Int)) H Q = Q (.int .i64 3) H by kernel_rfl).mpr (hq 3)
  · exact (show F159_0 (.int .u64 ((8 : Nat) : Int)) H Q = Q (.int .i64 4) H by kernel_rfl).mpr (hq 4)
  · exact (show F159_0 (.int .u64 ((9 : Nat) : Int)) H Q = Q (.int .i64 4) H by kernel_rfl).mpr (hq 4)
  · exact (show F159_0 (.int .u64 ((10 : Nat) : Int)) H Q = Q (.int .i64 4) H by kernel_rfl).mpr (hq 4)
  · exact (show F159_0 (.int .u64 ((11 : Nat) : Int)) H Q = Q (.int .i64 4) H by kernel_rfl).mpr (hq 4)
  · exact (show F159_0 (.int .u64 ((12 : Nat) : Int)) H Q = Q (.int .i64 4) H by kernel_rfl).mpr (hq 4)
theorem SortFunc_110 {H : Hp} {v : Value} {xs : List Entry} {b : Nat} {Q : RT1} (hs : Slc H 6 v (entsC xs) b) (hl : xs.length ≤ 12)
    (hq : ∀ H' ys, Ext [b] H H' → Slc H' 6 v (entsC ys) b → ys.Perm xs → Q (.tuple #[]) H') : NCalls Tryz.prog 110 #[v, cmpV] H Q := by
  refine E110 ?_
  unfold F110_0
  obtain ⟨a, cap, hv, _, _⟩ := hs.shape
  have hll := entsC_len xs
  have hlv : pv Tryz.prog (Builtin.len_ #[153] 0 #[v]) = some (.int .i64 xs.length) := by rw [hv]; simp -implicitDefEqProofs [hll]
  have wu : IntKind.wrap .u64 (xs.length : Int) = xs.length := by
    unfold IntKind.wrap; simp [IntKind.bits, IntKind.signed]; omega
  simp only [hlv, q_some, cv_3_130, wu]
  refine E137 ?_
  unfold F137_0
  simp only [condV_bool, Bool.false_eq_true, if_false]
  refine E159 ?_
  refine Len_159 hl fun r => ?_
  refine pdq_136 hs hl fun H1 ys e1 k1 p1 => ?_
  exact hq H1 ys e1 k1 p1
theorem All_78 {H : Hp} {col : Nat → Rl} {i bc bs : Nat} {c : Cache} {Q : RT1} (ca : CacheAt H col i bc bs c) (ok : CacheOk c) (hl : c.all.length ≤ 12)
    (hq : ∀ H' v b ys, Ext [] H H' → Slc H' 6 v (entsC ys) b → H.size ≤ b → ys.Perm c.all → Q v H') : NCalls Tryz.prog 78 #[at0 bc] H Q := by
  refine E78 ?_
  unfold F78_0
  obtain ⟨v, svs, kb, ov, ks, hl', hr⟩ := id ca.ex
  have hc1 : cellAt H ⟨bc, 1, none⟩ = some v := by rw [kb.cell]; rfl
  simp -implicitDefEqProofs [hc1]
  have hcat : (c.sets.map entsC).flatten = entsC c.all := by simp [Cache.all, entsC, List.map_flatten]; rfl
  have hlens := entsC_len c.all
  refine Concat_109 (xss := c.sets.map entsC) ks (by simp [hl']) ?_ ?_ ?_ ?_ fun H1 v1 b1 e1 k1 hb1 => ?_
  · intro j h1 h2
    have h3 : j < c.sets.length := by omega
    rw [List.getElem_map]
    rcases hr j h1 h3 with ⟨e1, e2⟩ | ⟨e, e1, _, e2⟩
    · exact .inl ⟨e1, e2⟩
    · exact .inr ⟨e, e1, e2⟩
  · intro xs hx y hy
    simp only [List.mem_map] at hx
    obtain ⟨l, _, rfl⟩ := hx
    exact entsC_one y hy
  · rw [hcat]; omega
  · have := ok.n1; omega
  · rw [hcat] at k1
    refine SortFunc_110 k1 hl fun H2 ys e2 k2 p2 => ?_
    exact hq H2 v1 b1 ys (e1.fresh e2 (by simp; omega)) k2 hb1 p2
end YtacidjifocfhkaaGreatDoor
end Go.Proofs
namespace Go.NW
open Go
set_option linter.unusedSimpArgs false
set_option linter.unusedVariables false
theorem copy_i {P : Program} {T E n : Nat} (ty : SlTy P T E n) {H : Hp} {b o l cap l2 cap2 : Nat} {a2 : Option Addr} {c cs : Array Value} {K : RT1} (hb : blk H b c)
    (hf : rd P H (Builtin.firstCells n (Nat.min l2 l) (.slice a2 l2 cap2)) = some cs) (hle : o + cs.size ≤ c.size) (h1 : cs.toList.all one = true)
    (h : ∀ H', Ext [b] H H' → H'.size = H.size → blk H' b (wrL c o cs.toList) → K (.int .i64 (Nat.min l2 l : Nat)) H') :
    dm P (Builtin.copy_ #[T, T] 0 #[.slice (some ⟨b, o, none⟩) l cap, .slice a2 l2 cap2]) H K := by
  obtain ⟨inf, z, hi, hn, hz, hzs, hby, hz1⟩ := ty.i
  have hsz : elemSize P E = some n := by simp [elemSize, hi, hn]
  unfold Builtin.copy_
  refine (dm_b (underlying T) _ _ _).2 ((rd_dm _ (rd_underlying ty.u) _).2 ?_)
  refine (dm_b (Builtin.lenOf (.slice a2 l2 cap2)) _ _ _).2 ((rd_dm (a := l2) _ rfl _).2 ?_)
  refine (dm_b (sizeOf E) _ _ _).2 ((rd_dm _ (rd_sizeOf hsz) _).2 ?_)
  refine (dm_b (Builtin.firstCells n (Nat.min l2 l) (.slice a2 l2 cap2)) _ _ _).2 ((rd_dm _ hf _).2 ?_)
  refine (dm_b _ _ _ _).2 ?_
  obtain ⟨T0, hb0⟩ := hb
  have hlt := get_lt hb0
  refine dm_storeCells (T := T0) (a := ⟨b, o, none⟩) rfl cs.toList H c 0 _ hb0 (by simpa using hle) h1 ?_
  refine h _ ⟨by simp, fun i hi hni => ?_⟩ (by simp) ⟨T0, by rw [Array.getElem?_setIfInBounds]; simp [hlt]⟩
  simp only [List.mem_cons, List.not_mem_nil, or_false] at hni
  rw [Array.getElem?_setIfInBounds, if_neg (fun e => hni e.symm)]
theorem append_make_grow {P : Program} {T E I n : Nat} (ty : SlTy P T E n) (ht : P.underlying I = some (.int .i64)) {H : Hp} {a : Option Addr} {l cap k : Nat} {cs : Array Value} {K : RT1} (hk : 0 < k) (hk2 : k ≤ 2 ^ 20)
    (hl : l ≤ 2 ^ 20) (hg : cap < l + k) (hf : rd P H (Builtin.firstCells n l (.slice a l cap)) = some cs)
    (h : ∀ H' nc c', l + k ≤ nc → Ext [] H H' → H'.size = H.size + 1 → blk H' H.size (cs ++ c') → (nc - l) * n ≤ c'.size → K (.slice (some ⟨H.size, 0, none⟩) (l + k) nc) H') :
    dm P (Builtin.append_ #[T, I] 0 #[.slice a l cap, .int .i64 k]) H K := by
  obtain ⟨inf, z, hi, hn, hz, hzs, hby, hz1⟩ := ty.i
  have hsz : elemSize P E = some n := by simp [elemSize, hi, hn]
  have hzv : ∀ H, rd P H (zeroValue E) = some z := fun H => by simp only [zeroValue, rd_b, rd_typeInfo hi, Option.bind_some, hz]; rfl
  have hw : IntKind.i64.wrap (k : Int) = k := by
    unfold IntKind.wrap; simp [IntKind.bits, IntKind.signed]; omega
  unfold Builtin.append_
  refine (dm_b (underlying T) _ _ _).2 ((rd_dm _ (rd_underlying ty.u) _).2 ?_)
  refine (dm_b (sizeOf E) _ _ _).2 ((rd_dm _ (rd_sizeOf hsz) _).2 ?_)
  refine (dm_b (underlying I) _ _ _).2 ((rd_dm _ (rd_underlying ht) _).2 ?_)
  refine (dm_b (pure true) _ _ _).2 ((rd_dm (pure true) rfl _).2 ?_)
  dsimp only
  rw [if_pos rfl]
  refine (dm_b (asInt (.int .i64 (k : Int))) _ _ _).2 ?_
  rw [rd_dm _ (rfl : rd P H (asInt (.int .i64 (k : Int))) = some (k : Int))]
  show dm P (ite (IntKind.i64.wrap (k : Int) < 0) _ _) H K
  rw [if_neg (by rw [hw]; omega)]
  show dm P (Sem.bind (typeInfo E) _) H K
  rw [dm_bind, rd_dm _ (rd_typeInfo hi)]
  have hb48 : ¬ (IntKind.i64.wrap (k : Int) * (inf.bytes : Int) > 2 ^ 48) := by
    rw [hw]
    have : k * inf.bytes ≤ 2 ^ 20 * 4096 := Nat.mul_le_mul hk2 hby
    have h2 : ((k : Int) * inf.bytes) = ((k * inf.bytes : Nat) : Int) := by simp
    rw [h2]; omega
  show dm P (ite (IntKind.i64.wrap (k : Int) * (inf.bytes : Int) > 2 ^ 48) _ _) H K
  rw [if_neg hb48]
  have htn : (IntKind.i64.wrap (k : Int)).toNat = k := by rw [hw]; simp
  show dm P (ite (l + (IntKind.i64.wrap (k : Int)).toNat ≤ cap) _ _) H K
  rw [if_neg (by rw [htn]; omega), htn]
  refine (dm_b (typeInfo E) _ _ _).2 ((rd_dm _ (rd_typeInfo hi) _).2 ?_)
  have hmax : ¬ (((l + k : Nat) : Int) > IntKind.i64.max ∧ (true = true ∨ inf.bytes = 0)) := by
    have : IntKind.i64.max = 9223372036854775807 := by rfl
    rw [this]; omega
  show dm P (ite (((l + k : Nat) : Int) > IntKind.i64.max ∧ (true = true ∨ inf.bytes = 0)) _ _) H K
  rw [if_neg hmax]
  refine (dm_b (typeInfo E) _ _ _).2 ((rd_dm _ (rd_typeInfo hi) _).2 ?_)
  have hnext := nextcap_le (l + k) cap (by omega)
  have hmulb : Builtin.nextslicecap (l + k) cap * inf.bytes ≤ (2 * (l + k) + 192) * 4096 := Nat.mul_le_mul hnext hby
  show dm P (ite (Builtin.nextslicecap (l + k) cap * inf.bytes > 2 ^ 48) _ _) H K
  rw [if_neg (by omega)]
  refine (dm_b (choose (.appendCap (l + k) cap E)) _ _ _).2 ?_
  intro t
  refine (dm_b (typeInfo E) _ _ _).2 ((rd_dm _ (rd_typeInfo hi) _).2 ?_)
  refine (dm_b (askRoom _) _ _ _).2 ?_
  have hask : ∀ (m : Nat) (K : Unit → Hp → Prop), K () H → dm P (askRoom m) H K := by
    intro m K hk; unfold askRoom; split
    · exact hk
    · exact hk
  refine hask _ _ ?_
  refine (dm_b (Builtin.firstCells n l (.slice a l cap)) _ _ _).2 ((rd_dm _ hf _).2 ?_)
  show dm P (Sem.bind (ite (k * n = 0) _ _) _) H K
  have hq : l + k ≤ Question.cut (.appendCap (l + k) cap E) t := by simp [Question.cut]
  generalize Question.cut (.appendCap (l + k) cap E) t = nc at hq
  have last : ∀ (nw : Array Value), k * n ≤ nw.size → K (.slice (some ⟨H.size, 0, none⟩) (l + k) nc) (H.push (.cells (cs ++ nw ++ Builtin.zeroCells z.cells (nc - (l + k))) E)) := by
    intro nw hnw
    refine h _ nc (nw ++ Builtin.zeroCells z.cells (nc - (l + k))) hq (Ext.push H _) (by simp) ⟨E, by simp⟩ ?_
    have : (nc - l) * n = k * n + (nc - (l + k)) * n := by rw [← Nat.add_mul]; congr 1; omega
    simp [Builtin.zeroCells, hzs]; omega
  by_cases h0 : k * n = 0
  · rw [if_pos h0]
    show dm P (Sem.bind (zeroValue E) _) H K
    rw [dm_bind, rd_dm _ (hzv H)]
    exact last #[] (by simp [h0])
  · rw [if_neg h0, dm_bind]
    refine (dm_b (zeroValue E) _ _ _).2 ((rd_dm _ (hzv H) _).2 ?_)
    show dm P (Sem.bind (zeroValue E) _) H K
    rw [dm_bind, rd_dm _ (hzv H)]
    exact last (Builtin.zeroCells z.cells k) (by simp [Builtin.zeroCells, hzs])
theorem overlaps_i {P : Program} {T E n R : Nat} (ty : SlTy P T E n) {H : Hp} {a b : Addr} {la ca lb cb : Nat} {K : RT1} {x y : Array Value} (ha : blk H a.block x) (hb : blk H b.block y) (hne : a.block ≠ b.block)
    (h : K (.bool false) H) : dm P (Extern.SlicesOverlaps.overlaps #[T, T] #[R] #[.slice (some a) la ca, .slice (some b) lb cb]) H K := by
  obtain ⟨inf, z, hi, hn, hz, hzs, hby, hz1⟩ := ty.i
  have hsz : elemSize P E = some n := by simp [elemSize, hi, hn]
  obtain ⟨TA, hA⟩ := ha
  obtain ⟨TB, hB⟩ := hb
  have fa : ∀ o s, frozenAt H ⟨a.block, o, s⟩ = false := by intro o s; simp [frozenAt, hA]
  have fb : ∀ o s, frozenAt H ⟨b.block, o, s⟩ = false := by intro o s; simp [frozenAt, hB]
  have fa' : frozenAt H a = false := fa a.off a.spot
  have sa : shapeAt H a.block = some (TA, x.size) := by simp [shapeAt, hA]
  have sb : shapeAt H b.block = some (TB, y.size) := by simp [shapeAt, hB]
  have fb' : frozenAt H b = false := fb b.off b.spot
  have key : rd P H (Extern.SlicesOverlaps.overlaps #[T, T] #[R] #[.slice (some a) la ca, .slice (some b) lb cb]) = some (.bool false) := by
    unfold Extern.SlicesOverlaps.overlaps
    show rd P H (underlying T >>= _) = _
    rw [rd_b, rd_underlying ty.u]
    show rd P H (sizeOf E >>= _) = _
    rw [rd_b, rd_sizeOf hsz]
    show rd P H (ite (la = 0 ∨ lb = 0 ∨ n = 0) _ _) = _
    by_cases h0 : la = 0 ∨ lb = 0 ∨ n = 0
    · rw [if_pos h0]; rfl
    · rw [if_neg h0]
      have e1 : (a.block != b.block) = true := by simpa using hne
      have e2 : (a.block == b.block) = false := by simpa using hne
      simp [rd_b, rd, frozen, fa', fb', fa, fb, noView, viewAt, shape, sa, sb, mayBeOne, stringish, e1, e2, rd_p]
  exact (rd_dm _ key _).2 h
end Go.NW
namespace Go.Proofs
open Go Go.NW Go.Pm
set_option maxRecDepth 20000
set_option linter.unusedSimpArgs false
set_option linter.unusedVariables false
namespace YtacidjifocfhkaaGreatDoor
theorem isNaN_140 {H : Hp} {x : Int} {Q : RT1} (hq : Q (.bool false) H) : NCalls Tryz.prog 140 #[.int .i64 x] H Q := by
  refine E140 ?_
  unfold F140_0
  simp -implicitDefEqProofs
  exact hq
theorem isNaN_160 {H : Hp} {x : Int} {Q : RT1} (hq : Q (.bool false) H) : NCalls Tryz.prog 160 #[.int .i64 x] H Q := by
  refine E160 ?_
  unfold F160_0
  simp -implicitDefEqProofs
  exact hq
theorem Less_139 {H : Hp} {x y : Int} {Q : RT1} (hq : Q (.bool (decide (x < y))) H) : NCalls Tryz.prog 139 #[.int .i64 x, .int .i64 y] H Q := by
  refine E139 ?_
  unfold F139_0
  refine isNaN_160 ?_
  simp -implicitDefEqProofs
  exact hq
theorem intsC_len (l : List Int) : (intsC l).length = l.length := by simp [intsC]
theorem intsC_one {l : List Int} : ∀ x ∈ intsC l, x.all one = true := by
  intro x hx
  simp only [intsC, List.mem_map] at hx
  obtain ⟨y, _, rfl⟩ := hx
  rfl
theorem intsC_flat (l : List Int) : (intsC l).flatten = l.map fun n => .int .i64 n := by
  induction l with
  | nil => rfl
  | cons x l ih => simp only [intsC, List.map_cons, List.flatten_cons] at ih ⊢; rw [ih]; rfl
theorem ints_at {H : Hp} {v : Value} {xs : List Int} {b i : Nat} (hs : Slc H 1 v (intsC xs) b) (hi : i < xs.length) :
    ∃ o, (∀ k, Ix 1 v (.int k i) = some (.pointer (some ⟨b, o, none⟩))) ∧ cellAt H ⟨b, o, none⟩ = some (.int .i64 xs[i]) := by
  obtain ⟨o, hix, hc, _⟩ := hs.at (i := i) (by rw [intsC_len]; exact hi)
  refine ⟨o, hix, ?_⟩
  have := hc 0 (by omega)
  simpa [intsC] using this
theorem takeWhile_take {x : Int} : ∀ {xs : List Int} {i : Nat}, (∀ m y, m < i → xs[m]? = some y → y < x) → (∀ m y, i ≤ m → xs[m]? = some y → x ≤ y) → i ≤ xs.length →
    xs.takeWhile (· < x) = xs.take i ∧ xs.dropWhile (· < x) = xs.drop i
  | [], i, _, _, h => by simp
  | y :: ys, 0, _, h2, _ => by
    have := h2 0 y (by omega) (by simp)
    simp [List.takeWhile_cons, List.dropWhile_cons, show ¬ (y < x) by omega]
  | y :: ys, i + 1, h1, h2, h3 => by
    have h0 := h1 0 y (by omega) (by simp)
    have ih := takeWhile_take (xs := ys) (i := i) (fun m z hm hz => h1 (m + 1) z (by omega) (by simpa using hz)) (fun m z hm hz => h2 (m + 1) z (by omega) (by simpa using hz)) (by simpa using h3)
    simp [List.takeWhile_cons, List.dropWhile_cons, h0, ih.1, ih.2]
theorem BinarySearch_114 {H : Hp} {v : Value} {xs : List Int} {x : Int} {b : Nat} {Q : RT1} (hs : Slc H 1 v (intsC xs) b) (hl : xs.length ≤ 2 ^ 20) (hsort : xs.Pairwise (· < ·))
    (hq : ∀ k, k ≤ xs.length → xs.takeWhile (· < x) = xs.take k → xs.dropWhile (· < x) = xs.drop k → Q (.tuple #[.int .i64 (k : Nat), .bool (decide (x ∈ xs))]) H) :
    NCalls Tryz.prog 114 #[v, .int .i64 x] H Q := by
  refine E114 ?_
  unfold F114_0 F114_10 F114_1 F114_9
  obtain ⟨a, cap, hv, hcap, hn⟩ := hs.shape
  have hlen := intsC_len xs
  have hlv : pv Tryz.prog (Builtin.len_ #[49] 0 #[v]) = some (.int .i64 xs.length) := by rw [hv]; simp -implicitDefEqProofs [hlen]
  rw [hlv, q_some]
  unfold F114_2 F114_8 F114_3 F114_5 F114_6
  have hso := List.pairwise_iff_getElem.1 hsort
  refine ⟨fun v7 v8 H' => H' = H ∧ ∃ i j : Nat, v7 = .int .i64 i ∧ v8 = .int .i64 j ∧ i ≤ j ∧ j ≤ xs.length ∧ (∀ m y, m < i → xs[m]? = some y → y < x) ∧ (∀ m y, j ≤ m → xs[m]? = some y → x ≤ y),
    fun v7 v8 _ => (iv v8).toNat - (iv v7).toNat, ⟨rfl, 0, xs.length, rfl, rfl, by omega, by omega, by intro m y hm; omega, ?_⟩, ?_⟩
  · intro m y hm hy
    rw [List.getElem?_eq_none hm] at hy; cases hy
  rintro v7 v8 H1 ⟨rfl, i, j, rfl, rfl, hij, hj, h1, h2⟩
  unfold F114_7
  by_cases hlt : i < j
  · have hlt' : (i : Int) < j := by omega
    have w1 : IntKind.wrap .i64 ((i : Int) + j) = ((i + j : Nat) : Int) := by rw [w64 (by omega) (by omega)]; simp
    have w2 : IntKind.wrap .u64 ((i + j : Nat) : Int) = ((i + j : Nat) : Int) := by
      unfold IntKind.wrap; simp [IntKind.bits, IntKind.signed]; omega
    have e3 : ((i + j : Nat) : Int).fdiv (2 ^ (min (1 : Int).toNat (IntKind.bits .u64))) = (((i + j) / 2 : Nat) : Int) := by
      have : (2 ^ (min (1 : Int).toNat (IntKind.bits .u64)) : Int) = ((2 : Nat) : Int) := by rfl
      rw [this, Int.fdiv_eq_ediv_of_nonneg _ (by omega)]; omega
    have w4 : IntKind.wrap .i64 (((i + j) / 2 : Nat) : Int) = (((i + j) / 2 : Nat) : Int) := w64 (by omega) (by omega)
    obtain ⟨h, hh⟩ : ∃ h, h = (i + j) / 2 := ⟨_, rfl⟩
    have hhi : i ≤ h ∧ h < j := by omega
    obtain ⟨o, hx, hc⟩ := ints_at hs (i := h) (by omega)
    rw [← hh] at e3 w4
    simp -implicitDefEqProofs only [Bin_lss_3, hlt', decide_true, q_some, condV_bool, if_true, Bin_add_3, w1, cv_3_130, w2, Bin_shr_130_u64 _ _ _ _ (show (0 : Int) ≤ 1 by omega), e3, cv_130_3, w4, hx, Ld_some, hc]
    refine Less_139 ?_
    by_cases hlx : xs[h] < x
    · have w5 : IntKind.wrap .i64 ((h : Int) + 1) = ((h + 1 : Nat) : Int) := by rw [w64 (by omega) (by omega)]; simp
      simp -implicitDefEqProofs only [hlx, decide_true, condV_bool, if_true, Bin_add_3, q_some, w5]
      refine ⟨trivial, trivial, trivial, ⟨trivial, h + 1, j, rfl, rfl, by omega, hj, ?_, h2⟩, by simp; omega⟩
      intro m y hm hy
      rcases Nat.lt_or_eq_of_le (Nat.le_of_lt_succ hm) with hlt2 | rfl
      · have hml : m < xs.length := by omega
        rw [List.getElem?_eq_getElem hml] at hy
        have := hso m h hml (by omega) hlt2
        simp at hy; omega
      · rw [List.getElem?_eq_getElem (by omega)] at hy; simp at hy; omega
    · simp -implicitDefEqProofs only [hlx, decide_false, condV_bool, Bool.false_eq_true, if_false, q_some]
      refine ⟨trivial, trivial, trivial, ⟨trivial, i, h, rfl, rfl, by omega, by omega, h1, ?_⟩, by simp; omega⟩
      intro m y hm hy
      have hml : m < xs.length := by
        apply Classical.byContradiction; intro hc2
        rw [List.getElem?_eq_none (by omega)] at hy; cases hy
      rw [List.getElem?_eq_getElem hml] at hy
      simp at hy
      rcases Nat.lt_or_eq_of_le hm with hlt2 | rfl
      · have := hso h m (by omega) hml hlt2
        omega
      · omega
  · have hij' : i = j := by omega
    subst hij'
    obtain ⟨t1, t2⟩ := takeWhile_take h1 h2 hj
    have hq' := hq i hj t1 t2
    have hn' : ¬ ((i : Int) < i) := by omega
    simp -implicitDefEqProofs only [Bin_lss_3, hn', decide_false, q_some, condV_bool, Bool.false_eq_true, if_false]
    unfold F114_4
    by_cases hi : i < xs.length
    · have hi' : (i : Int) < xs.length := by omega
      obtain ⟨o, hx, hc⟩ := ints_at hs (i := i) hi
      by_cases he : xs[i] = x
      · have hm : x ∈ xs := by rw [← he]; simp
        simp -implicitDefEqProofs [hi', hx, hc, he]
        simpa [hm] using hq'
      · have hm : x ∉ xs := by
          intro hm
          obtain ⟨m, hml, hmx⟩ := List.getElem_of_mem hm
          have a1 : ¬ m < i := by
            intro hmi
            have := h1 m x hmi (by rw [List.getElem?_eq_getElem hml, hmx])
            omega
          rcases Nat.lt_or_eq_of_le (Nat.le_of_not_lt a1) with hlt2 | rfl
          · have b1 := hso i m hi hml hlt2
            have b2 := h2 i _ (Nat.le_refl _) (List.getElem?_eq_getElem hi)
            omega
          · exact he hmx
        simp -implicitDefEqProofs [hi', hx, hc, he]
        refine isNaN_140 ?_
        simp -implicitDefEqProofs
        simpa [hm] using hq'
    · have hi' : ¬ ((i : Int) < xs.length) := by omega
      have hm : x ∉ xs := by
        intro hm
        obtain ⟨m, hml, hmx⟩ := List.getElem_of_mem hm
        have := h1 m x (by omega) (by rw [List.getElem?_eq_getElem hml, hmx])
        omega
      simp -implicitDefEqProofs [hi']
      simpa [hm] using hq'
end YtacidjifocfhkaaGreatDoor
end Go.Proofs
namespace Go.Proofs
open Go Go.NW Go.Pm
set_option maxRecDepth 20000
set_option linter.unusedSimpArgs false
set_option linter.unusedVariables false
namespace YtacidjifocfhkaaGreatDoor
theorem ext_141 : extOf Tryz.prog 141 = some (Extern.SlicesOverlaps.overlaps #[49, 49] #[4]) := by kernel_rfl
theorem und_3 : Program.underlying Tryz.prog 3 = some (.int .i64) := by kernel_rfl
theorem Sl_from {a : Option Addr} {n cap i : Nat} (hi : i ≤ n) (hc : n ≤ cap) : Sl 1 (.slice a n cap) (some (.int .i64 i)) none none = some (.slice (if cap = i then a else a.map (·.add i)) (n - i) (cap - i)) := by
  simp only [Sl, bnd, Option.bind_some]
  rw [if_pos ⟨by omega, by omega⟩]
  simp
theorem Sl_to {a : Option Addr} {n cap i : Nat} (hi : i ≤ cap) : Sl 1 (.slice a n cap) none (some (.int .i64 i)) none = some (.slice (if cap = 0 then a else a.map (·.add 0)) i cap) := by
  simp only [Sl, bnd, Option.bind_some]
  rw [if_pos ⟨by omega, by omega⟩]
  simp
theorem Sl_to' {b o n cap i : Nat} (hi : i ≤ cap) : Sl 1 (.slice (some ⟨b, o, none⟩) n cap) none (some (.int .i64 i)) none = some (.slice (some ⟨b, o, none⟩) i cap) := by
  rw [Sl_to hi]; simp
theorem nmin (a b : Nat) : Nat.min a b = min a b := rfl
theorem ints_all (l : List Int) : (l.map fun n => Value.int .i64 n).all one = true := by simp
theorem insert_cells {A : Array Value} {o i n : Nat} {x : Value} {l : List Value} (hl : l.length = n) (hi : i ≤ n) (hA : o + n + 1 ≤ A.size) (h1 : ∀ m, m < i → A[o + m]? = l[m]?) (h2 : A[o + i]? = some x) (h3 : ∀ m, i ≤ m → m < n → A[o + m + 1]? = l[m]?) :
    (A.toList.drop o).take (n + 1) = l.take i ++ x :: l.drop i := by
  apply List.ext_getElem?
  intro j
  rw [List.getElem?_take, List.getElem?_drop, Array.getElem?_toList]
  by_cases hj : j < i
  · rw [if_pos (by omega), List.getElem?_append_left (by simp; omega), List.getElem?_take, if_pos hj, h1 j hj]
  · rw [List.getElem?_append_right (by simp; omega)]
    have hlt : (l.take i).length = i := by simp; omega
    rw [hlt]
    by_cases hj2 : j = i
    · subst hj2; rw [if_pos (by omega), h2]; simp
    · obtain ⟨m, rfl⟩ : ∃ m, j = m + 1 := ⟨j - 1, by omega⟩
      rw [show m + 1 - i = (m - i) + 1 by omega, List.getElem?_cons_succ, List.getElem?_drop, show i + (m - i) = m by omega]
      by_cases hm : m < n
      · rw [if_pos (by omega), ← Nat.add_assoc, h3 m (by omega) hm]
      · rw [if_neg (by omega), List.getElem?_eq_none (by omega)]
theorem Insert_115 {H : Hp} {v nv : Value} {xs : List Int} {x : Int} {b bn i : Nat} {Q : RT1} (hs : Slc H 1 v (intsC xs) b) (hn : Slc H 1 nv (intsC [x]) bn) (hne : bn ≠ b) (hi : i ≤ xs.length) (hl : xs.length ≤ 2 ^ 19)
    (hq : ∀ H' v' b', Ext [b] H H' → Slc H' 1 v' (intsC (xs.take i ++ x :: xs.drop i)) b' → (b' = b ∨ H.size ≤ b') → Q v' H') : NCalls Tryz.prog 115 #[v, .int .i64 i, nv] H Q := by
  refine E115 ?_
  unfold F115_0
  obtain ⟨a, cap, hv, hcap, hnil⟩ := hs.shape
  rw [intsC_len] at hv hcap
  obtain ⟨a2, cap2, hv2, hcap2, hnil2⟩ := hn.shape
  have hl2 : (intsC [x]).length = 1 := rfl
  rw [hl2] at hv2 hcap2
  have hlv : pv Tryz.prog (Builtin.len_ #[49] 0 #[v]) = some (.int .i64 xs.length) := by rw [hv]; simp -implicitDefEqProofs
  have hcv : pv Tryz.prog (Builtin.cap_ #[49] 0 #[v]) = some (.int .i64 cap) := by rw [hv]; simp -implicitDefEqProofs
  have hl2v : pv Tryz.prog (Builtin.len_ #[49] 0 #[nv]) = some (.int .i64 1) := by rw [hv2]; simp -implicitDefEqProofs
  have e0 : Sl 1 v (some (.int .i64 i)) none none = some (.slice (if cap = i then a else a.map (·.add i)) (xs.length - i) (cap - i)) := by rw [hv]; exact Sl_from hi hcap
  have e1 : ((1 : Int) == 0) = false := by decide
  simp only [e0, q_some, hl2v, Bin_eql_3, e1, condV_bool, Bool.false_eq_true, if_false, hlv]
  by_cases hin : i = xs.length
  · subst hin
    simp only [beq_self_eq_true, condV_bool, if_true]
    refine append_i ty_49 hs hn intsC_one (by rw [intsC_len]; simp [intsC]; omega) fun H1 v1 b1 x1 k1 hb1 => ?_
    refine hq H1 v1 b1 x1 ?_ hb1
    have : intsC xs ++ intsC [x] = intsC (xs.take xs.length ++ x :: xs.drop xs.length) := by simp [intsC]
    rw [← this]; exact k1
  · have hilt : i < xs.length := by omega
    have e2 : ((i : Int) == xs.length) = false := by simp; omega
    have w1 : IntKind.wrap .i64 ((xs.length : Int) + 1) = ((xs.length + 1 : Nat) : Int) := by rw [w64 (by omega) (by omega)]; simp
    have wi : IntKind.wrap .i64 ((i : Int) + 1) = ((i + 1 : Nat) : Int) := by rw [w64 (by omega) (by omega)]; simp
    have ha : a ≠ none := by intro h; have := hnil h; have e := intsC_len xs; rw [this] at e; simp at e; omega
    simp only [e2, condV_bool, Bool.false_eq_true, if_false, Bin_add_3, w1, q_some, hcv, Bin_gtr_3]
    have hs2 := hs
    obtain ⟨g1, ⟨hv0, hx0⟩ | ⟨o, cap', c, hv', hl', hb, hsz, hflat⟩⟩ := hs2
    · have e := intsC_len xs; rw [hx0] at e; simp at e; omega
    rw [intsC_len] at hv' hflat
    rw [hv] at hv'
    simp only [Value.slice.injEq, true_and] at hv'
    obtain ⟨rfl, rfl⟩ := hv'
    simp only [Nat.mul_one] at hsz hflat
    have hcell : ∀ m, m < xs.length → c[o + m]? = some (.int .i64 (xs[m]?.getD 0)) := by
      intro m hm
      have := congrArg (fun l => l[m]?) hflat
      simp only [List.getElem?_take, if_pos hm, List.getElem?_drop, Array.getElem?_toList] at this
      rw [this, intsC_flat]; simp [hm]
    have hcell' : ∀ m, m < xs.length → c[o + m]? = (xs.map fun n => Value.int .i64 n)[m]? := by
      intro m hm; rw [hcell m hm]; simp [hm]
    by_cases hgrow : xs.length + 1 ≤ cap
    · -- in its place
      have hg : decide ((cap : Int) < ((xs.length + 1 : Nat) : Int)) = false := by simp; omega
      have hbn : ∃ y, blk H bn y := by
        obtain ⟨h1, ⟨h2, h3⟩ | ⟨_, _, y, _, _, hy, _⟩⟩ := hn
        · simp [intsC] at h3
        · exact ⟨y, hy⟩
      obtain ⟨y, hy⟩ := hbn
      obtain ⟨o2, hv2'⟩ : ∃ o2, a2 = some ⟨bn, o2, none⟩ := by
        obtain ⟨h1, ⟨h2, h3⟩ | ⟨o2, _, _, h2, _⟩⟩ := hn
        · simp [intsC] at h3
        · rw [hv2] at h2; simp at h2; exact ⟨o2, h2.1⟩
      simp only [hg, condV_bool, Bool.false_eq_true, if_false, hv, Sl_to' hgrow, q_some, wi, Sl_from (n := xs.length + 1) (i := i + 1) (by omega) (by omega), if_neg (show ¬ cap = i + 1 by omega), Option.map_some, add_mk]
      refine .inr ⟨_, ext_141, ?_⟩
      rw [hv2, hv2']
      refine overlaps_i ty_49 (a := ⟨bn, o2, none⟩) (b := ⟨b, o + (i + 1), none⟩) hy hb hne ?_
      simp only [un_not, q_some, Bool.not_false, condV_bool, if_true, Sl_from (n := xs.length + 1) (i := i) (by omega) (show xs.length + 1 ≤ cap by omega), if_neg (show ¬ cap = i by omega), Option.map_some, add_mk]
      have hdl : (xs.drop i).length = xs.length - i := by simp
      refine copy_i ty_49 hb (cs := ((xs.drop i).map fun n => Value.int .i64 n).toArray) ?_ ?_ ?_ fun H1 x1 s1 k1 => ?_
      · have hmin : Nat.min (xs.length + 1 - i) (xs.length + 1 - (i + 1)) = xs.length - i := by rw [nmin]; omega
        rw [hmin]
        simp only [Builtin.firstCells]
        refine rd_loadCells ?_
        rw [hb.cells, if_pos (by omega)]
        congr 1
        apply Array.ext_getElem?
        intro j
        rw [Array.getElem?_extract]
        by_cases hj : j < xs.length - i
        · rw [if_pos (by omega), show o + i + j = o + (i + j) by omega, hcell' (i + j) (by omega)]
          simp
        · rw [if_neg (by omega), Array.getElem?_eq_none (by simp; omega)]
      · simp; omega
      · rw [List.toList_toArray]; exact ints_all _
      replace hn := hn.ext x1 (by simpa using hne)
      have hf2 := rd_firstCells (P := Tryz.prog) hn
      rw [hl2, hv2, hv2'] at hf2
      have hwl : (wrL c (o + (i + 1)) ((xs.drop i).map fun n => Value.int .i64 n).toArray.toList).size = c.size := wrL_size _ _ _
      have hmin1 : Nat.min 1 (xs.length + 1 - i) = 1 := by rw [nmin]; omega
      refine copy_i ty_49 k1 (l2 := 1) (cs := #[.int .i64 x]) ?_ ?_ (by simp) fun H2 x2 s2 k2 => ?_
      · rw [hmin1, hf2]; rfl
      · rw [hwl]; simp; omega
      · refine hq H2 _ b (x1.trans x2) ?_ (.inl rfl)
        refine ⟨?_, .inr ⟨o, cap, _, ?_, ?_, k2, by rw [wrL_size, hwl]; omega, ?_⟩⟩
        · intro y hy; simp only [intsC, List.mem_map] at hy; obtain ⟨z, _, rfl⟩ := hy; rfl
        · rw [intsC_len]; simp; omega
        · rw [intsC_len]; simp; omega
        · rw [intsC_flat, intsC_len]
          have el : (xs.take i ++ x :: xs.drop i).length * 1 = xs.length + 1 := by simp; omega
          rw [el]
          have := insert_cells (A := wrL (wrL c (o + (i + 1)) ((xs.drop i).map fun n => Value.int .i64 n).toArray.toList) (o + i) #[Value.int .i64 x].toList) (o := o) (i := i) (n := xs.length) (x := .int .i64 x) (l := xs.map fun n => Value.int .i64 n) (by simp) hi (by rw [wrL_size, hwl]; omega) ?_ ?_ ?_
          · rw [this]; simp [List.map_take, List.map_drop]
          · intro m hm
            rw [wrL_get _ _ _ _ (by rw [hwl]; simp; omega), if_neg (by omega), wrL_get _ _ _ _ (by simp; omega), if_neg (by omega)]
            exact hcell' m (by omega)
          · rw [wrL_get _ _ _ _ (by rw [hwl]; simp; omega), if_pos (by simp)]; simp
          · intro m h1 h2
            rw [wrL_get _ _ _ _ (by rw [hwl]; simp; omega), if_neg (by simp; omega), wrL_get _ _ _ _ (by simp; omega), if_pos (by simp; omega)]
            simp [show o + m + 1 - (o + (i + 1)) = m - i by omega, show i + (m - i) = m by omega]
    · -- in a new place
      have hg : decide ((cap : Int) < ((xs.length + 1 : Nat) : Int)) = true := by simp; omega
      have wk : IntKind.wrap .i64 (((xs.length + 1 : Nat) : Int) - i) = ((xs.length + 1 - i : Nat) : Int) := by rw [w64 (by omega) (by omega)]; omega
      have hxne : intsC xs ≠ [] := by intro h; have e := intsC_len xs; rw [h] at e; simp at e; omega
      simp only [hg, condV_bool, if_true, hv, Sl_to' (show i ≤ cap by omega), q_some, wi, Bin_sub_3, wk]
      have hfc : rd Tryz.prog H (Builtin.firstCells 1 i (.slice (some ⟨b, o, none⟩) i cap)) = some ((xs.take i).map fun n => Value.int .i64 n).toArray := by
        simp only [Builtin.firstCells]
        refine rd_loadCells ?_
        rw [hb.cells, if_pos (by omega)]
        congr 1
        apply Array.ext_getElem?
        intro j
        rw [Array.getElem?_extract]
        by_cases hj : j < i
        · rw [if_pos (by omega), hcell' j (by omega)]; simp [hj]
        · rw [if_neg (by omega)]; simp; omega
      refine append_make_grow ty_49 und_3 (by omega) (by omega) (by omega) (by omega) hfc fun H1 nc c' hnc x1 s1 k1 hc' => ?_
      have htl : (xs.take i).length = i := by simp; omega
      have hA0 : (((xs.take i).map fun n => Value.int .i64 n).toArray ++ c').size = i + c'.size := by simp; omega
      have hlen1 : i + (xs.length + 1 - i) = xs.length + 1 := by omega
      rw [hlen1] at hnc ⊢
      rw [Sl_from (show i ≤ xs.length + 1 by omega) hnc, q_some, if_neg (show ¬ nc = i by omega)]
      simp only [Option.map_some, add_mk, Nat.zero_add]
      have hb1 : b < H.size := hb.lt
      have hbn1 : bn < H.size := hn.lt (by simp [intsC])
      replace hn := hn.ext x1 (by simp)
      have hf2 := rd_firstCells (P := Tryz.prog) hn
      rw [hl2, hv2] at hf2
      rw [hv2]
      have hmin1 : Nat.min 1 (xs.length + 1 - i) = 1 := by rw [nmin]; omega
      refine copy_i ty_49 k1 (l2 := 1) (cs := #[.int .i64 x]) ?_ ?_ (by simp) fun H2 x2 s2 k2 => ?_
      · rw [hmin1, hf2]; rfl
      · rw [hA0]; simp; omega
      rw [Sl_from (show i + 1 ≤ xs.length + 1 by omega) hnc, q_some, if_neg (show ¬ nc = i + 1 by omega)]
      simp only [Option.map_some, add_mk, Nat.zero_add]
      rw [if_neg (show ¬ cap = i by omega)]
      have hs2 := (hs.ext x1 (by simp)).ext x2 (by simp; omega)
      obtain ⟨v3, hv3, k3⟩ := hs2.drop (k := i) (by rw [intsC_len]; omega) hxne .i64
      rw [hv, Sl_from hi hcap] at hv3
      have hv3' := Option.some.inj hv3
      simp only [if_neg (show ¬ cap = i by omega), Option.map_some, add_mk] at hv3'
      have hf3 := rd_firstCells (P := Tryz.prog) k3
      have hdl : ((intsC xs).drop i).length = xs.length - i := by simp [intsC_len]
      rw [hdl, ← hv3'] at hf3
      have hmin3 : Nat.min (xs.length - i) (xs.length + 1 - (i + 1)) = xs.length - i := by rw [nmin]; omega
      have hA1 : (wrL (((xs.take i).map fun n => Value.int .i64 n).toArray ++ c') i #[Value.int .i64 x].toList).size = i + c'.size := by rw [wrL_size, hA0]
      have hdc : ((intsC xs).drop i).flatten = (xs.drop i).map fun n => Value.int .i64 n := by
        rw [← intsC_flat]; simp [intsC, List.map_drop]
      refine copy_i ty_49 k2 (cs := ((intsC xs).drop i).flatten.toArray) (by rw [hmin3]; exact hf3) ?_ ?_ fun H3 x3 s3 k3' => ?_
      · rw [hA1, hdc]; simp; omega
      · rw [hdc, List.toList_toArray]; exact ints_all _
      · have z1 := x1.size
        refine hq H3 _ H.size ((Ext.refl [b] H).fresh ((x1.mono (S' := [H.size]) (by simp)).trans (x2.trans x3)) (by simp)) ?_ (.inr (Nat.le_refl _))
        rw [hdc] at k3'
        have e0 : xs.length + 1 = (intsC (xs.take i ++ x :: xs.drop i)).length := by rw [intsC_len]; simp; omega
        refine ⟨?_, .inr ⟨0, nc, _, by rw [← e0], by rw [← e0]; exact hnc, k3', ?_, ?_⟩⟩
        · intro y hy; simp only [intsC, List.mem_map] at hy; obtain ⟨z, _, rfl⟩ := hy; rfl
        · rw [wrL_size, hA1]; omega
        · rw [intsC_flat, ← e0, Nat.mul_one]
          have := insert_cells (A := wrL (wrL (((xs.take i).map fun n => Value.int .i64 n).toArray ++ c') i #[Value.int .i64 x].toList) (i + 1) ((xs.drop i).map fun n => Value.int .i64 n).toArray.toList) (o := 0) (i := i) (n := xs.length) (x := .int .i64 x) (l := xs.map fun n => Value.int .i64 n) (by simp) hi (by rw [wrL_size, hA1]; omega) ?_ ?_ ?_
          · rw [this]; simp [List.map_take, List.map_drop]
          · intro m hm
            rw [wrL_get _ _ _ _ (by rw [hA1]; simp; omega), if_neg (by omega), wrL_get _ _ _ _ (by rw [hA0]; simp; omega), if_neg (by omega)]
            rw [Array.getElem?_append_left (by simp; omega)]
            simp [hm]
          · rw [wrL_get _ _ _ _ (by rw [hA1]; simp; omega), if_neg (by omega), wrL_get _ _ _ _ (by rw [hA0]; simp; omega), if_pos (by simp)]; simp
          · intro m h1 h2
            rw [wrL_get _ _ _ _ (by rw [hA1]; simp; omega), if_pos (by simp; omega)]
            simp [show m + 1 - (i + 1) = m - i by omega, show i + (m - i) = m by omega]
end YtacidjifocfhkaaGreatDoor
end Go.Proofs
namespace Go.Pm
set_option linter.unusedSimpArgs false
set_option linter.unusedVariables false
def byteAt (v : Int) (i : Nat) : Int := v / 2 ^ (8 * i) % 256
def putL (bs : List Int) (off : Nat) (v : Int) : Nat → List Int
  | 0 => bs
  | k + 1 => (putL bs off v k).set (off + k) (byteAt v k)
def getL (bs : List Int) (off : Nat) : Nat → Int
  | 0 => 0
  | k + 1 => getL bs off k + bs.getD (off + k) 0 * 2 ^ (8 * k)
def lineOf (bs : List Int) (i : Nat) : Words := ⟨getL bs (16 * i) 4, getL bs (16 * i + 4) 4, getL bs (16 * i + 8) 4, getL bs (16 * i + 12) 4⟩
def setLineL (bs : List Int) (i : Nat) (w : Words) : List Int := putL (putL (putL (putL bs (16 * i) w.a 4) (16 * i + 4) w.b 4) (16 * i + 8) w.c 4) (16 * i + 12) w.d 4
def Bytes (bs : List Int) : Prop := ∀ x ∈ bs, 0 ≤ x ∧ x < 256
def U32 (v : Int) : Prop := 0 ≤ v ∧ v < 4294967296
theorem byteAt_rng (v : Int) (i : Nat) : 0 ≤ byteAt v i ∧ byteAt v i < 256 := by unfold byteAt; omega
theorem putL_len (bs : List Int) (off : Nat) (v : Int) : ∀ k, (putL bs off v k).length = bs.length
  | 0 => rfl
  | k + 1 => by simp [putL, putL_len bs off v k]
theorem putL_get (bs : List Int) (off : Nat) (v : Int) : ∀ (k i : Nat), off + k ≤ bs.length → (putL bs off v k)[i]? = if off ≤ i ∧ i < off + k then some (byteAt v (i - off)) else bs[i]?
  | 0, i, _ => by simp [putL]; intro h1 h2; omega
  | k + 1, i, h => by
    rw [putL, List.getElem?_set, putL_len, putL_get bs off v k i (by omega)]
    by_cases e : off + k = i
    · subst e; rw [if_pos rfl, if_pos (by omega), if_pos (by omega)]; simp
    · rw [if_neg e]
      by_cases c : off ≤ i ∧ i < off + k
      · rw [if_pos c, if_pos (by omega)]
      · rw [if_neg c, if_neg (by omega)]
theorem putL_bytes {bs : List Int} {off : Nat} {v : Int} (h : Bytes bs) : ∀ k, Bytes (putL bs off v k)
  | 0 => h
  | k + 1 => by
    intro x hx
    rcases List.mem_or_eq_of_mem_set hx with hx | rfl
    · exact putL_bytes h k x hx
    · exact byteAt_rng v k
theorem getL_rng {bs : List Int} (h : Bytes bs) (off : Nat) : ∀ k, 0 ≤ getL bs off k ∧ getL bs off k < 2 ^ (8 * k)
  | 0 => by simp [getL]
  | k + 1 => by
    obtain ⟨h1, h2⟩ := getL_rng h off k
    have hb : 0 ≤ bs.getD (off + k) 0 ∧ bs.getD (off + k) 0 < 256 := by
      rw [List.getD_eq_getElem?_getD]
      cases hx : bs[off + k]? with
      | none => simp
      | some y => simpa using h y (List.mem_of_getElem? hx)
    simp only [getL]
    have e : (2 : Int) ^ (8 * (k + 1)) = 256 * 2 ^ (8 * k) := by rw [show 8 * (k + 1) = 8 * k + 8 by omega, Int.pow_add]; omega
    have hp : (0 : Int) < 2 ^ (8 * k) := Int.pow_pos (by omega)
    rw [e]
    generalize (2 : Int) ^ (8 * k) = p at *
    generalize bs.getD (off + k) 0 = y at *
    obtain ⟨hb1, hb2⟩ := hb
    constructor
    · have := Int.mul_nonneg hb1 (Int.le_of_lt hp); omega
    · have : y * p ≤ 255 * p := Int.mul_le_mul_of_nonneg_right (by omega) (Int.le_of_lt hp)
      omega
theorem getL_congr {bs cs : List Int} {o p : Nat} : ∀ k, (∀ m, m < k → bs[o + m]? = cs[p + m]?) → getL bs o k = getL cs p k
  | 0, _ => rfl
  | k + 1, h => by
    simp only [getL, List.getD_eq_getElem?_getD]
    rw [getL_congr k (fun m hm => h m (by omega)), h k (by omega)]
theorem bytes_sum (v : Int) : ∀ k, 0 ≤ v → (List.range k).foldl (fun a i => a + byteAt v i * 2 ^ (8 * i)) 0 = v % 2 ^ (8 * k)
  | 0, _ => by simp
  | k + 1, h => by
    rw [List.range_succ, List.foldl_append, bytes_sum v k h]
    simp only [List.foldl_cons, List.foldl_nil, byteAt]
    have e : (2 : Int) ^ (8 * (k + 1)) = 2 ^ (8 * k) * 256 := by rw [show 8 * (k + 1) = 8 * k + 8 by omega, Int.pow_add]; rfl
    have hp : (0 : Int) < 2 ^ (8 * k) := Int.pow_pos (by omega)
    rw [e]
    generalize (2 : Int) ^ (8 * k) = p at *
    have h1 := Int.emod_add_mul_ediv v p
    have h2 := Int.emod_add_mul_ediv (v / p) 256
    have h4 : v % (p * 256) = v - p * 256 * (v / p / 256) := by
      have h3 := Int.emod_add_mul_ediv v (p * 256)
      rw [← Int.ediv_ediv_of_nonneg (Int.le_of_lt hp)] at h3
      omega
    rw [h4]
    have h5 : v / p % 256 = v / p - 256 * (v / p / 256) := by omega
    have h6 : v % p = v - p * (v / p) := by omega
    rw [h5, h6, Int.sub_mul, Int.mul_comm (v / p) p, Int.mul_assoc p 256, Int.mul_comm p (256 * _), ]
    omega
theorem getL_foldl (bs : List Int) (off : Nat) : ∀ k, getL bs off k = (List.range k).foldl (fun a i => a + bs.getD (off + i) 0 * 2 ^ (8 * i)) 0
  | 0 => rfl
  | k + 1 => by rw [List.range_succ, List.foldl_append, ← getL_foldl bs off k]; rfl
theorem foldl_ext {α : Type} {l : List Nat} {f g : α → Nat → α} (h : ∀ a i, i ∈ l → f a i = g a i) : ∀ a, l.foldl f a = l.foldl g a := by
  induction l with
  | nil => intro a; rfl
  | cons x l ih => intro a; simp only [List.foldl_cons]; rw [h a x (by simp), ih (fun a i hi => h a i (by simp [hi]))]
/-- what was put is got -/
theorem getL_putL {bs : List Int} {off : Nat} {v : Int} {k : Nat} (h : off + k ≤ bs.length) (hv : 0 ≤ v) : getL (putL bs off v k) off k = v % 2 ^ (8 * k) := by
  rw [getL_foldl, ← bytes_sum v k hv]
  apply foldl_ext
  intro a i hi
  simp only [List.mem_range] at hi
  rw [List.getD_eq_getElem?_getD, putL_get _ _ _ _ _ h, if_pos (by omega)]
  simp
theorem getL_putL4 {bs : List Int} {off : Nat} {v : Int} (h : off + 4 ≤ bs.length) (hv : U32 v) : getL (putL bs off v 4) off 4 = v := by
  rw [getL_putL h hv.1]; have := hv.2; simp; rw [Int.emod_eq_of_lt hv.1 this]
theorem getL_putL_ne {bs : List Int} {off off2 k j : Nat} {v : Int} (h : off + k ≤ bs.length) (hne : off2 + j ≤ off ∨ off + k ≤ off2) : getL (putL bs off v k) off2 j = getL bs off2 j := by
  apply getL_congr
  intro m hm
  rw [putL_get _ _ _ _ _ h, if_neg (by omega)]
theorem setLineL_len (bs : List Int) (i : Nat) (w : Words) : (setLineL bs i w).length = bs.length := by simp [setLineL, putL_len]
theorem setLineL_bytes {bs : List Int} (h : Bytes bs) (i : Nat) (w : Words) : Bytes (setLineL bs i w) := putL_bytes (putL_bytes (putL_bytes (putL_bytes h 4) 4) 4) 4
end Go.Pm
namespace Go.Proofs
open Go Go.NW Go.Pm
set_option maxRecDepth 20000
set_option linter.unusedSimpArgs false
set_option linter.unusedVariables false
namespace YtacidjifocfhkaaGreatDoor
def bytesC (bs : List Int) : List (List Value) := bs.map fun x => [.int .u8 x]
theorem bytesC_len (l : List Int) : (bytesC l).length = l.length := by simp [bytesC]
theorem bytesC_one {l : List Int} : ∀ x ∈ bytesC l, x.all one = true := by
  intro x hx
  simp only [bytesC, List.mem_map] at hx
  obtain ⟨y, _, rfl⟩ := hx
  rfl
theorem bytesC_flat (l : List Int) : (bytesC l).flatten = l.map fun n => .int .u8 n := by
  induction l with
  | nil => rfl
  | cons x l ih => simp only [bytesC, List.map_cons, List.flatten_cons] at ih ⊢; rw [ih]; rfl
theorem bytes_at {H : Hp} {v : Value} {xs : List Int} {b i : Nat} (hs : Slc H 1 v (bytesC xs) b) (hi : i < xs.length) :
    ∃ o, (∀ k, Ix 1 v (.int k i) = some (.pointer (some ⟨b, o, none⟩))) ∧ cellAt H ⟨b, o, none⟩ = some (.int .u8 xs[i]) := by
  obtain ⟨o, hix, hc, _⟩ := hs.at (i := i) (by rw [bytesC_len]; exact hi)
  refine ⟨o, hix, ?_⟩
  have := hc 0 (by omega)
  simpa [bytesC] using this
theorem w8i {k : Nat} (h : k ≤ 4) : IntKind.wrap .i64 (8 * (k : Int)) = ((8 * k : Nat) : Int) := by rw [w64 (by omega) (by omega)]; simp
theorem shr_byte {v : Int} {k : Nat} (hv : U32 v) (hk : k < 4) : IntKind.wrap .u8 (v.fdiv (2 ^ (min ((8 * k : Nat) : Int).toNat (IntKind.bits .u32)))) = byteAt v k := by
  have e : min ((8 * k : Nat) : Int).toNat (IntKind.bits .u32) = 8 * k := by simp [IntKind.bits]; omega
  rw [e, Int.fdiv_eq_ediv_of_nonneg _ (Int.le_of_lt (Int.pow_pos (by omega)))]
  unfold IntKind.wrap byteAt
  simp [IntKind.bits, IntKind.signed]
/-- laying a number over some bytes of a slice, told cell by cell -/
theorem put_38 {H : Hp} {b o len cap : Nat} {c : Array Value} {size : Nat} {v : Int} {Q : RT1} (hb : blk H b c) (hs : size ≤ 4) (hl : size ≤ len) (hc : o + size ≤ c.size) (hv : U32 v)
    (hq : ∀ H', Ext [b] H H' → H'.size = H.size → blk H' b (wrL c o ((List.range size).map fun i => .int .u8 (byteAt v i))) → Q (.tuple #[]) H') :
    NCalls Tryz.prog 38 #[.slice (some ⟨b, o, none⟩) len cap, .int .i64 size, .int .u32 v] H Q := by
  refine E38 ?_
  unfold F38_0 F38_4 F38_1 F38_2
  refine ⟨fun v8 H' => ∃ k : Nat, v8 = .int .i64 k ∧ k ≤ size ∧ Ext [b] H H' ∧ H'.size = H.size ∧ blk H' b (wrL c o ((List.range k).map fun i => .int .u8 (byteAt v i))), fun v8 _ => size - (iv v8).toNat, ⟨0, rfl, by omega, .refl _ _, rfl, by simpa [wrL] using hb⟩, ?_⟩
  rintro v8 H1 ⟨k, rfl, hk, e1, s1, k1⟩
  unfold F38_3
  by_cases hlt : k < size
  · have hlt' : (k : Int) < size := by omega
    have hix : Ix 1 (.slice (some ⟨b, o, none⟩) len cap) (.int .i64 (k : Int)) = some (.pointer (some ⟨b, o + k, none⟩)) := by
      simp only [Ix]; rw [if_pos ⟨by omega, by omega⟩]; simp
    have wk : IntKind.wrap .i64 ((k : Int) + 1) = ((k + 1 : Nat) : Int) := by rw [w64 (by omega) (by omega)]; simp
    simp -implicitDefEqProofs only [Bin_lss_3, hlt', decide_true, q_some, condV_bool, if_true, Bin_mul_3, w8i (show k ≤ 4 by omega), Bin_shr_40_i64 _ _ _ _ (show (0 : Int) ≤ ((8 * k : Nat) : Int) by omega), cv_40_5, shr_byte hv (show k < 4 by omega), hix, Bin_add_3, wk]
    refine St_i k1 (by simp) (by rw [wrL_size]; omega) (by simp) fun H2 e2 s2 k2 => ?_
    refine ⟨trivial, trivial, trivial, ⟨k + 1, rfl, by omega, e1.trans e2, by omega, ?_⟩, by simp; omega⟩
    have : wrL c o ((List.range (k + 1)).map fun i => Value.int .u8 (byteAt v i)) = wrL (wrL c o ((List.range k).map fun i => Value.int .u8 (byteAt v i))) (o + k) [.int .u8 (byteAt v k)] := by
      apply Array.ext_getElem?
      intro j
      rw [wrL_get _ _ _ _ (by simp; omega), wrL_get _ _ _ _ (by rw [wrL_size]; simp; omega), wrL_get _ _ _ _ (by simp; omega)]
      simp only [List.length_map, List.length_range, List.length_cons, List.length_nil]
      by_cases c1 : o ≤ j ∧ j < o + k
      · rw [if_pos (by omega), if_neg (by omega), if_pos c1]
        have h1 : j - o < k := by omega
        simp [h1, show j - o < k + 1 by omega]
      · by_cases c2 : j = o + k
        · subst c2; rw [if_pos (by omega), if_pos (by omega)]; simp
        · rw [if_neg (by omega), if_neg (by omega), if_neg c1]
    rw [this]
    simpa using k2
  · have hks : k = size := by omega
    subst hks
    have hlt' : ¬ ((k : Int) < k) := by omega
    simp -implicitDefEqProofs only [Bin_lss_3, hlt', decide_false, q_some, condV_bool, Bool.false_eq_true, if_false]
    exact hq H1 e1 s1 k1
/-- the same, told by the whole slice's bytes -/
theorem put_at {H : Hp} {b off size : Nat} {v : Value} {bs : List Int} {w : Int} (hs : Slc H 1 v (bytesC bs) b) (h : off + size ≤ bs.length) (h4 : size ≤ 4) (hpos : 0 < size) (hw : U32 w) :
    ∃ v2, Sl 1 v (some (.int .i64 off)) none none = some v2 ∧ ∀ Q : RT1, (∀ H', Ext [b] H H' → H'.size = H.size → Slc H' 1 v (bytesC (putL bs off w size)) b → Q (.tuple #[]) H') →
      NCalls Tryz.prog 38 #[v2, .int .i64 size, .int .u32 w] H Q := by
  obtain ⟨g1, ⟨hv0, hx0⟩ | ⟨o, cap, c, hv, hl, hb, hsz, hflat⟩⟩ := hs
  · have e := bytesC_len bs; rw [hx0] at e; simp at e; omega
  rw [bytesC_len] at hv hl hflat
  simp only [Nat.mul_one] at hsz hflat
  rw [bytesC_flat] at hflat
  refine ⟨.slice (some ⟨b, o + off, none⟩) (bs.length - off) (cap - off), ?_, ?_⟩
  · rw [hv, Sl_from (by omega) hl]
    simp only [Option.map_some, add_mk]
    rw [if_neg (by omega)]
  · intro Q hQ
    refine put_38 hb h4 (by omega) (by omega) hw fun H1 e1 s1 k1 => ?_
    refine hQ H1 e1 s1 ⟨?_, .inr ⟨o, cap, _, ?_, ?_, k1, by rw [wrL_size]; omega, ?_⟩⟩
    · intro y hy; simp only [bytesC, List.mem_map] at hy; obtain ⟨z, _, rfl⟩ := hy; rfl
    · rw [bytesC_len, putL_len]; exact hv
    · rw [bytesC_len, putL_len]; exact hl
    · rw [bytesC_flat, bytesC_len, putL_len, Nat.mul_one]
      apply List.ext_getElem?
      intro j
      have hj0 := congrArg (fun l => l[j]?) hflat
      simp only [List.getElem?_take, List.getElem?_drop, Array.getElem?_toList, List.getElem?_map] at hj0
      rw [List.getElem?_take, List.getElem?_drop, Array.getElem?_toList, wrL_get _ _ _ _ (by simp; omega)]
      simp only [List.getElem?_map, putL_get _ _ _ _ _ h, List.length_map, List.length_range]
      by_cases hj : j < bs.length
      · rw [if_pos hj] at hj0 ⊢
        by_cases c1 : off ≤ j ∧ j < off + size
        · rw [if_pos (by omega), if_pos c1, show o + j - (o + off) = j - off by omega]
          simp [show j - off < size by omega]
        · rw [if_neg (by omega), if_neg c1, hj0]
      · rw [if_neg hj, if_neg (by omega), List.getElem?_eq_none (by omega)]; rfl
theorem or_add {a x : Int} {k : Nat} (ha : 0 ≤ a ∧ a < 2 ^ (8 * k)) (hx : 0 ≤ x ∧ x < 256) (hk : k < 4) :
    IntKind.wrap .u32 ((BitVec.ofInt (IntKind.bits .u32) a ||| BitVec.ofInt (IntKind.bits .u32) (IntKind.wrap .u32 (x * 2 ^ (min ((8 * k : Nat) : Int).toNat (IntKind.bits .u32))))).toNat : Nat) = a + x * 2 ^ (8 * k) := by
  obtain ⟨a, rfl⟩ := Int.eq_ofNat_of_zero_le ha.1
  obtain ⟨x, rfl⟩ := Int.eq_ofNat_of_zero_le hx.1
  have e : min ((8 * k : Nat) : Int).toNat (IntKind.bits .u32) = 8 * k := by simp [IntKind.bits]; omega
  have ha2 : a < 2 ^ (8 * k) := by have := ha.2; exact_mod_cast this
  have hx2 : x < 256 := by omega
  have hxp : x * 2 ^ (8 * k) < 2 ^ 32 := by
    have h1 : x * 2 ^ (8 * k) < 256 * 2 ^ (8 * k) := Nat.mul_lt_mul_of_pos_right hx2 (Nat.pow_pos (by omega))
    have h2 : 256 * 2 ^ (8 * k) ≤ 2 ^ 32 := by
      have : (256 : Nat) = 2 ^ 8 := rfl
      rw [this, ← Nat.pow_add]; exact Nat.pow_le_pow_right (by omega) (by omega)
    omega
  have ha3 : a < 2 ^ 32 := Nat.lt_of_lt_of_le ha2 (Nat.pow_le_pow_right (by omega) (by omega))
  have e2 : ((x : Int) * 2 ^ (8 * k)) = ((x * 2 ^ (8 * k) : Nat) : Int) := by simp
  rw [e, e2]
  have w1 : IntKind.wrap .u32 ((x * 2 ^ (8 * k) : Nat) : Int) = ((x * 2 ^ (8 * k) : Nat) : Int) := wu32 (by omega) (by omega)
  rw [w1]
  have e3 : (BitVec.ofInt (IntKind.bits .u32) (a : Int) ||| BitVec.ofInt (IntKind.bits .u32) ((x * 2 ^ (8 * k) : Nat) : Int)).toNat = a + x * 2 ^ (8 * k) := by
    rw [BitVec.toNat_or]
    have t1 : (BitVec.ofInt (IntKind.bits .u32) (a : Int)).toNat = a := by
      rw [BitVec.ofInt_natCast, BitVec.toNat_ofNat]; exact Nat.mod_eq_of_lt ha3
    have t2 : (BitVec.ofInt (IntKind.bits .u32) ((x * 2 ^ (8 * k) : Nat) : Int)).toNat = x * 2 ^ (8 * k) := by
      rw [BitVec.ofInt_natCast, BitVec.toNat_ofNat]; exact Nat.mod_eq_of_lt hxp
    rw [t1, t2, Nat.or_comm, Nat.mul_comm x, ← Nat.two_pow_add_eq_or_of_lt ha2, Nat.add_comm]
  rw [e3]
  have : a + x * 2 ^ (8 * k) < 2 ^ 32 := by
    have h2 : 256 * 2 ^ (8 * k) ≤ 2 ^ 32 := by
      have : (256 : Nat) = 2 ^ 8 := rfl
      rw [this, ← Nat.pow_add]; exact Nat.pow_le_pow_right (by omega) (by omega)
    have h3 : x * 2 ^ (8 * k) ≤ 255 * 2 ^ (8 * k) := Nat.mul_le_mul_right _ (by omega)
    clear e3 w1 e2 hxp ha
    generalize 2 ^ (8 * k) = p at *
    omega
  rw [wu32 (by omega) (by omega)]; simp
theorem get_at {H : Hp} {b off size : Nat} {v : Value} {bs : List Int} (hs : Slc H 1 v (bytesC bs) b) (hbs : Bytes bs) (h : off + size ≤ bs.length) (h4 : size ≤ 4) (hpos : 0 < size) :
    ∃ v2, Sl 1 v (some (.int .i64 off)) none none = some v2 ∧ ∀ Q : RT1, Q (.int .u32 (getL bs off size)) H → NCalls Tryz.prog 70 #[v2, .int .i64 size] H Q := by
  have hne : bytesC bs ≠ [] := by intro h; have e := bytesC_len bs; rw [h] at e; simp at e; omega
  obtain ⟨v2, hv2, k2⟩ := hs.drop (k := off) (by rw [bytesC_len]; omega) hne .i64
  refine ⟨v2, hv2, fun Q hQ => ?_⟩
  have e1 : (bytesC bs).drop off = bytesC (bs.drop off) := by simp [bytesC, List.map_drop]
  rw [e1] at k2
  refine E70 ?_
  unfold F70_0 F70_10 F70_1 F70_9 F70_2 F70_4 F70_8 F70_5 F70_6
  refine ⟨fun v5 v8 H' => H' = H ∧ ∃ k : Nat, v8 = .int .i64 k ∧ k ≤ size ∧ v5 = .int .u32 (getL bs off k), fun v5 v8 _ => size - (iv v8).toNat, ⟨rfl, 0, rfl, by omega, rfl⟩, ?_⟩
  rintro v5 v8 H1 ⟨rfl, k, rfl, hk, rfl⟩
  unfold F70_7
  by_cases hlt : k < size
  · have hlt' : (k : Int) < size := by omega
    obtain ⟨o, hx, hc⟩ := bytes_at k2 (i := k) (by simp; omega)
    have wk : IntKind.wrap .i64 ((k : Int) + 1) = ((k + 1 : Nat) : Int) := by rw [w64 (by omega) (by omega)]; simp
    have hg : (bs.drop off)[k]'(by simp; omega) = bs.getD (off + k) 0 := by
      rw [List.getElem_drop, List.getD_eq_getElem?_getD, List.getElem?_eq_getElem (by omega)]; rfl
    rw [hg] at hc
    have hr : 0 ≤ bs.getD (off + k) 0 ∧ bs.getD (off + k) 0 < 256 := by
      rw [List.getD_eq_getElem?_getD, List.getElem?_eq_getElem (by omega)]; exact hbs _ (by simp)
    have wx : IntKind.wrap .u32 (bs.getD (off + k) 0) = bs.getD (off + k) 0 := wu32 hr.1 (by omega)
    simp -implicitDefEqProofs only [Bin_lss_3, hlt', decide_true, q_some, condV_bool, if_true, Bin_mul_3, w8i (show k ≤ 4 by omega), hx, Ld_some, hc, cv_5_40, wx, Bin_shl_40_i64 _ _ _ _ (show (0 : Int) ≤ ((8 * k : Nat) : Int) by omega), Bin_or_40, or_add (getL_rng hbs off k) hr (show k < 4 by omega), Bin_add_3, wk]
    exact ⟨trivial, trivial, ⟨trivial, k + 1, rfl, by omega, rfl⟩, by simp; omega⟩
  · have hks : k = size := by omega
    subst hks
    have hlt' : ¬ ((k : Int) < k) := by omega
    simp -implicitDefEqProofs only [Bin_lss_3, hlt', decide_false, q_some, condV_bool, Bool.false_eq_true, if_false]
    unfold F70_3
    exact hQ
end YtacidjifocfhkaaGreatDoor
end Go.Proofs
namespace Go.Proofs
open Go Go.NW Go.Pm
set_option maxRecDepth 20000
set_option linter.unusedSimpArgs false
set_option linter.unusedVariables false
namespace YtacidjifocfhkaaGreatDoor
structure MemC (H : Hp) (bm bb : Nat) (bs : List Int) : Prop where
  ex : ∃ v, blk H bm #[v] ∧ Slc H 1 v (bytesC bs) bb
  ne : bm ≠ bb
  ok : Bytes bs
  l0 : 0 < bs.length
  l1 : bs.length ≤ 65536
theorem MemC.ext {S : List Nat} {H H' : Hp} {bm bb : Nat} {bs : List Int} (m : MemC H bm bb bs) (e : Ext S H H') (h1 : bm ∉ S) (h2 : bb ∉ S) : MemC H' bm bb bs := by
  obtain ⟨⟨v, k1, k2⟩, ne, ok, l0, l1⟩ := m
  exact ⟨⟨v, k1.ext e h1, k2.ext e h2⟩, ne, ok, l0, l1⟩
theorem MemC.ext0 {H H' : Hp} {bm bb : Nat} {bs : List Int} (m : MemC H bm bb bs) (e : Ext [] H H') : MemC H' bm bb bs := m.ext e (by simp) (by simp)
theorem MemC.lm {H : Hp} {bm bb : Nat} {bs : List Int} (m : MemC H bm bb bs) : bm < H.size := by obtain ⟨v, k1, k2⟩ := m.ex; exact k1.lt
theorem MemC.lb {H : Hp} {bm bb : Nat} {bs : List Int} (m : MemC H bm bb bs) : bb < H.size := by
  obtain ⟨v, k1, k2⟩ := m.ex
  have := m.l0
  exact k2.lt (by intro e; have := bytesC_len bs; rw [e] at this; simp at this; omega)
theorem MemC.at {H : Hp} {bm bb : Nat} {bs : List Int} (m : MemC H bm bb bs) : ∃ v, cellAt H ⟨bm, 0, none⟩ = some v ∧ Slc H 1 v (bytesC bs) bb ∧ pv Tryz.prog (Builtin.len_ #[81] 0 #[v]) = some (.int .i64 bs.length) := by
  obtain ⟨v, k1, k2⟩ := m.ex
  obtain ⟨a, cap, hv, _, _⟩ := id k2.shape
  refine ⟨v, by rw [k1.cell]; rfl, k2, ?_⟩
  rw [hv]; simp -implicitDefEqProofs [bytesC_len]
theorem fair_94 {H : Hp} {addr size : Int} {Q : RT1} (ha : U32 addr) (hq : Q (.bool (Fab.fair addr size)) H) : NCalls Tryz.prog 94 #[.int .u32 addr, .int .i64 size] H Q := by
  refine E94 ?_
  unfold F94_0
  by_cases h1 : size = 1
  · subst h1
    have w : IntKind.wrap .u32 (1 : Int) = 1 := by decide
    have e : addr.tmod 1 = 0 := by rw [Int.tmod_eq_emod_of_nonneg ha.1]; omega
    simp -implicitDefEqProofs [w, Bin_rem_40 _ _ _ _ (show (1 : Int) ≠ 0 by omega), e]
    refine fin hq ?_
    simp [Fab.fair]
  by_cases h2 : size = 2
  · subst h2
    have w : IntKind.wrap .u32 (2 : Int) = 2 := by decide
    have e : addr.tmod 2 = addr % 2 := by rw [Int.tmod_eq_emod_of_nonneg ha.1]
    simp -implicitDefEqProofs [w, Bin_rem_40 _ _ _ _ (show (2 : Int) ≠ 0 by omega), e]
    refine fin hq ?_
    simp [Fab.fair]
  by_cases h4 : size = 4
  · subst h4
    have w : IntKind.wrap .u32 (4 : Int) = 4 := by decide
    have e : addr.tmod 4 = addr % 4 := by rw [Int.tmod_eq_emod_of_nonneg ha.1]
    simp -implicitDefEqProofs [w, Bin_rem_40 _ _ _ _ (show (4 : Int) ≠ 0 by omega), e]
    refine fin hq ?_
    simp [Fab.fair]
  simp -implicitDefEqProofs [h1, h2, h4]
  refine fin hq ?_
  simp [Fab.fair, h1, h2, h4]
def hasL (n : Nat) (addr size : Int) : Bool := Fab.fair addr size && decide (addr ≤ n - size)
theorem Has_69 {H : Hp} {bm bb : Nat} {bs : List Int} {addr size : Int} {Q : RT1} (m : MemC H bm bb bs) (ha : U32 addr) (hq : Q (.bool (hasL bs.length addr size)) H) :
    NCalls Tryz.prog 69 #[at0 bm, .int .u32 addr, .int .i64 size] H Q := by
  refine E69 ?_
  unfold F69_0
  refine fair_94 ha ?_
  cases hf : Fab.fair addr size with
  | false => simp -implicitDefEqProofs; exact fin hq (by simp [hasL, hf])
  | true =>
    obtain ⟨v, hc, hs, hlv⟩ := m.at
    have hsz : size = 1 ∨ size = 2 ∨ size = 4 := by simp [Fab.fair] at hf; omega
    have wa : IntKind.wrap .i64 addr = addr := by have := ha.1; have := ha.2; exact w64 (by omega) (by omega)
    have wl : IntKind.wrap .i64 ((bs.length : Int) - size) = bs.length - size := by have := m.l1; exact w64 (by omega) (by omega)
    simp -implicitDefEqProofs [hc, hlv, wa, wl]
    exact fin hq (by simp [hasL, hf])
theorem LineOf_92 {H : Hp} {addr : Int} {Q : RT1} (ha : U32 addr) (hq : Q (.int .i64 (addr / 16)) H) : NCalls Tryz.prog 92 #[.int .u32 addr] H Q := by
  refine E92 ?_
  unfold F92_0
  have h0 := ha.1
  have h1 := ha.2
  have e : addr.tdiv 16 = addr / 16 := by rw [Int.tdiv_eq_ediv_of_nonneg h0]
  have w1 : IntKind.wrap .u32 (addr / 16) = addr / 16 := wu32 (by omega) (by omega)
  have w2 : IntKind.wrap .i64 (addr / 16) = addr / 16 := w64 (by omega) (by omega)
  simp -implicitDefEqProofs [Bin_quo_40 _ _ _ _ (show (16 : Int) ≠ 0 by omega), e, w1, w2]
  exact hq
theorem Bytes_41 {H : Hp} {bm bb : Nat} {bs : List Int} {Q : RT1} (m : MemC H bm bb bs) (hq : Q (.int .i64 bs.length) H) : NCalls Tryz.prog 41 #[at0 bm] H Q := by
  refine E41 ?_
  unfold F41_0
  obtain ⟨v, hc, hs, hlv⟩ := m.at
  simp -implicitDefEqProofs [hc, hlv]
  exact hq
theorem lines_77 {H : Hp} {bm bb : Nat} {bs : List Int} {Q : RT1} (m : MemC H bm bb bs) (hq : Q (.int .i64 ((bs.length / 16 : Nat) : Int)) H) : NCalls Tryz.prog 77 #[at0 bm] H Q := by
  refine E77 ?_
  unfold F77_0
  obtain ⟨v, hc, hs, hlv⟩ := m.at
  have h1 := m.l1
  have e : IntKind.wrap .i64 ((bs.length : Int).tdiv 16) = ((bs.length / 16 : Nat) : Int) := by
    rw [Int.tdiv_eq_ediv_of_nonneg (by omega), w64 (by omega) (by omega)]; omega
  simp -implicitDefEqProofs only [q_some, Nz_some, Fa_some, add_mk, Nat.zero_add, Ld_some, hc, hlv, Bin_quo_3 _ _ _ _ (show (16 : Int) ≠ 0 by omega), e]
  exact hq
theorem Load_28 {H : Hp} {bm bb : Nat} {bs : List Int} {addr size : Int} {Q : RT1} (m : MemC H bm bb bs) (ha : U32 addr)
    (hq : Q (.tuple #[.int .u32 (if hasL bs.length addr size then getL bs addr.toNat size.toNat else 0), .bool (hasL bs.length addr size)]) H) : NCalls Tryz.prog 28 #[at0 bm, .int .u32 addr, .int .i64 size] H Q := by
  refine E28 ?_
  unfold F28_0
  refine Has_69 m ha ?_
  cases hh : hasL bs.length addr size with
  | false => rw [hh] at hq; simpa -implicitDefEqProofs using hq
  | true =>
    obtain ⟨v, hc, hs, hlv⟩ := m.at
    have hf : Fab.fair addr size = true := by simp [hasL] at hh; exact hh.1
    have hle : addr ≤ bs.length - size := by simp [hasL] at hh; exact hh.2
    have hsz : size = 1 ∨ size = 2 ∨ size = 4 := by simp [Fab.fair] at hf; omega
    have h0 := ha.1
    obtain ⟨v2, hv2, hg⟩ := get_at (off := addr.toNat) (size := size.toNat) hs m.ok (by omega) (by omega) (by omega)
    rw [show ((addr.toNat : Nat) : Int) = addr by omega, show ((size.toNat : Nat) : Int) = size by omega] at *
    have hv2' : Sl 1 v (some (.int .u32 addr)) none none = some v2 := by
      rw [← hv2]; cases v <;> rfl
    simp -implicitDefEqProofs [hc, hv2']
    refine hg _ ?_
    rw [hh] at hq
    simpa using hq
theorem Clone_39 {H : Hp} {bm bb : Nat} {bs : List Int} {Q : RT1} (m : MemC H bm bb bs)
    (hq : ∀ H' bm' bb', Ext [] H H' → MemC H' bm' bb' bs → H.size ≤ bm' → H.size ≤ bb' → Q (at0 bm') H') : NCalls Tryz.prog 39 #[at0 bm] H Q := by
  refine E39 ?_
  unfold F39_0
  obtain ⟨v, hc, hs, hlv⟩ := m.at
  have l0 := m.l0
  have l1 := m.l1
  simp -implicitDefEqProofs [hc]
  refine E76 ?_
  unfold F76_0
  obtain ⟨a, cap, hv, hcap, hn⟩ := hs.shape
  have hbl := bytesC_len bs
  cases a with
  | none => have := hn rfl; rw [this] at hbl; simp at hbl; omega
  | some a =>
    rw [hv]
    simp -implicitDefEqProofs
    refine Bsl_i (cells := #[]) (by kernel_rfl) fun H1 b1 hb1 e1 s1 k1 => ?_
    rw [← hv]
    refine append_i ty_81 (xs := []) (ys := bytesC bs) (b := b1) (Slc.of (by simp) k1 (by simp) (by simp) (by simp)) (hs.ext e1 (by simp)) bytesC_one (by rw [hbl]; simp; omega) fun H2 v2 b2 e2 s2 hb2 => ?_
    have s2' : Slc H2 1 v2 (bytesC bs) b2 := by simpa using s2
    obtain ⟨a2, cap2, hv2, _, _⟩ := s2'.shape
    rw [hv2]
    simp -implicitDefEqProofs
    have z1 := e1.size
    have z2 := e2.size
    refine New_i fun H3 b3 hb3 e3 s3 k3 => ?_
    have E3 : Ext [] H H3 := (e1.fresh e2 (by simp; omega)).trans e3
    have l2 : b2 < H2.size := s2'.lt (by intro e; rw [e] at hbl; simp at hbl; omega)
    refine hq H3 b3 b2 E3 ⟨⟨v2, ?_, s2'.ext e3 (by simp)⟩, by omega, m.ok, l0, l1⟩ (by omega) (by omega)
    rw [hv2]; simpa using k3
end YtacidjifocfhkaaGreatDoor
end Go.Proofs
namespace Go.Proofs
open Go Go.NW Go.Pm
set_option maxRecDepth 20000
set_option linter.unusedSimpArgs false
set_option linter.unusedVariables false
namespace YtacidjifocfhkaaGreatDoor
theorem index_52 (w : Words) : pv Tryz.prog (Instr.index 52 (.agg (wordsC w)) (.int .i64 0)) = some (.int .u32 w.a) ∧ pv Tryz.prog (Instr.index 52 (.agg (wordsC w)) (.int .i64 1)) = some (.int .u32 w.b) ∧
    pv Tryz.prog (Instr.index 52 (.agg (wordsC w)) (.int .i64 2)) = some (.int .u32 w.c) ∧ pv Tryz.prog (Instr.index 52 (.agg (wordsC w)) (.int .i64 3)) = some (.int .u32 w.d) := ⟨by kernel_rfl, by kernel_rfl, by kernel_rfl, by kernel_rfl⟩
def U32s (w : Words) : Prop := U32 w.a ∧ U32 w.b ∧ U32 w.c ∧ U32 w.d
/-- the words that were read so far -/
def lineN (bs : List Int) (i k : Nat) : Words := ⟨if 0 < k then getL bs (16 * i) 4 else 0, if 1 < k then getL bs (16 * i + 4) 4 else 0, if 2 < k then getL bs (16 * i + 8) 4 else 0, if 3 < k then getL bs (16 * i + 12) 4 else 0⟩
theorem Line_42 {H : Hp} {bm bb i : Nat} {bs : List Int} {Q : RT1} (m : MemC H bm bb bs) (hi : i < bs.length / 16)
    (hq : ∀ H', Ext [] H H' → Q (.tuple #[.agg (wordsC (lineOf bs i)), .bool true]) H') : NCalls Tryz.prog 42 #[at0 bm, .int .i64 i] H Q := by
  have l1 := m.l1
  refine E42 ?_
  unfold F42_0 F42_12
  refine New_i fun H1 b1 hb1 e1 s1 k1 => ?_
  unfold F42_1 F42_11
  refine New_i fun H2 b2 hb2 e2 s2 k2 => ?_
  unfold F42_2 F42_10
  have m2 := (m.ext0 e1).ext0 e2
  have hn0 : ¬ ((i : Int) < 0) := by omega
  simp -implicitDefEqProofs only [Bin_lss_3, hn0, decide_false, q_some, gd_bool, gl_bool, if_true, Pk_bool, Bool.false_eq_true, if_false]
  refine lines_77 m2 ?_
  have hge : ¬ (((bs.length / 16 : Nat) : Int) ≤ i) := by omega
  simp -implicitDefEqProofs only [Bin_geq_3, ge_iff_le, hge, decide_false, q_some, condV_bool, if_true, Bool.false_eq_true, if_false]
  unfold F42_3 F42_5 F42_9 F42_6 F42_7
  have z1 := e1.size
  have k12 := k1.ext e2 (by simp)
  refine ⟨fun v17 H' => ∃ k : Nat, v17 = .int .i64 k ∧ k ≤ 4 ∧ Ext [] H H' ∧ Ext [b2] H2 H' ∧ blk H' b2 (wordsC (lineN bs i k)), fun v17 _ => 4 - (iv v17).toNat, ⟨0, rfl, by omega, e1.trans e2, .refl _ _, by simpa [wordsC, lineN] using k2⟩, ?_⟩
  rintro v17 H3 ⟨k, rfl, hk, e3, e3', k3⟩
  unfold F42_8
  have m3 := m.ext0 e3
  by_cases hlt : k < 4
  · have hlt' : (k : Int) < 4 := by omega
    obtain ⟨v, hc, hs, hlv⟩ := m3.at
    have w1 : IntKind.wrap .i64 ((i : Int) * 16) = ((16 * i : Nat) : Int) := by rw [w64 (by omega) (by omega)]; simp; omega
    have w2 : IntKind.wrap .i64 ((k : Int) * 4) = ((4 * k : Nat) : Int) := by rw [w64 (by omega) (by omega)]; simp; omega
    have w3 : IntKind.wrap .i64 (((16 * i : Nat) : Int) + ((4 * k : Nat) : Int)) = ((16 * i + 4 * k : Nat) : Int) := by rw [w64 (by omega) (by omega)]; simp
    have wk : IntKind.wrap .i64 ((k : Int) + 1) = ((k + 1 : Nat) : Int) := by rw [w64 (by omega) (by omega)]; simp
    obtain ⟨v2, hv2, hg⟩ := get_at (off := 16 * i + 4 * k) (size := 4) hs m.ok (by omega) (by omega) (by omega)
    have hix : IxA 4 1 (at0 b2) (.int .i64 (k : Int)) = some (.pointer (some ⟨b2, k, none⟩)) := by
      simp only [IxA]; rw [if_pos ⟨by omega, by omega⟩]; simp
    simp -implicitDefEqProofs only [Bin_lss_3, hlt', decide_true, q_some, condV_bool, if_true, Nz_some, Fa_some, add_mk, Nat.zero_add, Ld_some, hc, Bin_mul_3, w1, w2, Bin_add_3, w3, hv2]
    refine hg _ ?_
    simp -implicitDefEqProofs only [hix, q_some, wk]
    refine St_i k3 (by simp) (by simp [wordsC]; omega) (by simp) fun H4 e4 s4 k4 => ?_
    refine ⟨trivial, trivial, trivial, trivial, ⟨k + 1, rfl, by omega, e3.fresh e4 (by simp; omega), e3'.trans e4, ?_⟩, by simp; omega⟩
    have : wordsC (lineN bs i (k + 1)) = wrL (wordsC (lineN bs i k)) k [Value.int .u32 (getL bs (16 * i + 4 * k) 4)] := by
      have : k = 0 ∨ k = 1 ∨ k = 2 ∨ k = 3 := by omega
      rcases this with rfl | rfl | rfl | rfl <;> simp [wordsC, lineN, wrL]
    rw [this]
    simpa using k4
  · have hk4 : k = 4 := by omega
    subst hk4
    simp -implicitDefEqProofs
    unfold F42_4
    simp -implicitDefEqProofs [k3.cells, show (wordsC (lineN bs i 4)).size = 4 by rfl, show (wordsC (lineN bs i 4)).extract 0 4 = wordsC (lineN bs i 4) by simp [wordsC]]
    have k13 := k12.ext e3' (by simp; omega)
    refine St_i k13 (by simp [wordsC]) (by simp) (by simp [wordsC]) fun H5 e5 s5 k5 => ?_
    have k5' : blk H5 b1 (wordsC (lineN bs i 4)) := by simpa [wrL, wordsC] using k5
    simp -implicitDefEqProofs [k5'.cells, show (wordsC (lineN bs i 4)).size = 4 by rfl, show (wordsC (lineN bs i 4)).extract 0 4 = wordsC (lineN bs i 4) by simp [wordsC]]
    exact hq H5 (e3.fresh e5 (by simp; omega))
/-- the words that were laid so far -/
def setN (bs : List Int) (i : Nat) (w : Words) : Nat → List Int
  | 0 => bs
  | k + 1 => putL (setN bs i w k) (16 * i + 4 * k) (Fab.word w k) 4
theorem setN_len (bs : List Int) (i : Nat) (w : Words) : ∀ k, (setN bs i w k).length = bs.length
  | 0 => rfl
  | k + 1 => by rw [setN, putL_len, setN_len bs i w k]
theorem SetLine_67 {H : Hp} {bm bb i : Nat} {bs : List Int} {w : Words} {Q : RT1} (m : MemC H bm bb bs) (hi : i < bs.length / 16) (hw : U32s w)
    (hq : ∀ H', Ext [bb] H H' → MemC H' bm bb (setLineL bs i w) → Q (.bool true) H') : NCalls Tryz.prog 67 #[at0 bm, .int .i64 i, .agg (wordsC w)] H Q := by
  have l1 := m.l1
  have l0 := m.l0
  have lm := m.lm
  have lb := m.lb
  refine E67 ?_
  unfold F67_0 F67_10
  refine New_i fun H1 b1 hb1 e1 s1 k1 => ?_
  replace k1 : blk H1 b1 (wordsC w) := by simpa using k1
  unfold F67_1 F67_9
  have m1 := m.ext0 e1
  have hn0 : ¬ ((i : Int) < 0) := by omega
  simp -implicitDefEqProofs only [Bin_lss_3, hn0, decide_false, q_some, gd_bool, gl_bool, if_true, Pk_bool, Bool.false_eq_true, if_false]
  refine lines_77 m1 ?_
  have hge : ¬ (((bs.length / 16 : Nat) : Int) ≤ i) := by omega
  simp -implicitDefEqProofs only [Bin_geq_3, ge_iff_le, hge, decide_false, q_some, condV_bool, if_true, Bool.false_eq_true, if_false]
  unfold F67_2 F67_4 F67_8
  simp -implicitDefEqProofs [k1.cells, show (wordsC w).size = 4 by rfl, show (wordsC w).extract 0 4 = wordsC w by simp [wordsC]]
  unfold F67_5 F67_6
  obtain ⟨v, kv, hs⟩ := m1.ex
  refine ⟨fun v18 H' => ∃ k : Nat, v18 = .int .i64 k ∧ k ≤ 4 ∧ Ext [bb] H H' ∧ blk H' bm #[v] ∧ Slc H' 1 v (bytesC (setN bs i w k)) bb, fun v18 _ => 4 - (iv v18).toNat, ⟨0, rfl, by omega, e1.mono (by simp), kv, hs⟩, ?_⟩
  rintro v18 H3 ⟨k, rfl, hk, e3, kv3, hs3⟩
  unfold F67_7
  have hc : cellAt H3 ⟨bm, 0, none⟩ = some v := by rw [kv3.cell]; rfl
  by_cases hlt : k < 4
  · have hlt' : (k : Int) < 4 := by omega
    have w1 : IntKind.wrap .i64 ((i : Int) * 16) = ((16 * i : Nat) : Int) := by rw [w64 (by omega) (by omega)]; simp; omega
    have w2 : IntKind.wrap .i64 ((k : Int) * 4) = ((4 * k : Nat) : Int) := by rw [w64 (by omega) (by omega)]; simp; omega
    have w3 : IntKind.wrap .i64 (((16 * i : Nat) : Int) + ((4 * k : Nat) : Int)) = ((16 * i + 4 * k : Nat) : Int) := by rw [w64 (by omega) (by omega)]; simp
    have wk : IntKind.wrap .i64 ((k : Int) + 1) = ((k + 1 : Nat) : Int) := by rw [w64 (by omega) (by omega)]; simp
    have hword : pv Tryz.prog (Instr.index 52 (.agg (wordsC w)) (.int .i64 (k : Int))) = some (.int .u32 (Fab.word w k)) ∧ U32 (Fab.word w k) := by
      obtain ⟨i0, i1, i2, i3⟩ := index_52 w
      obtain ⟨u0, u1, u2, u3⟩ := hw
      have : k = 0 ∨ k = 1 ∨ k = 2 ∨ k = 3 := by omega
      rcases this with rfl | rfl | rfl | rfl
      · exact ⟨i0, u0⟩
      · exact ⟨i1, u1⟩
      · exact ⟨i2, u2⟩
      · exact ⟨i3, u3⟩
    obtain ⟨v2, hv2, hg⟩ := put_at (off := 16 * i + 4 * k) (size := 4) hs3 (by rw [setN_len]; omega) (by omega) (by omega) hword.2
    simp -implicitDefEqProofs only [Bin_lss_3, hlt', decide_true, q_some, condV_bool, if_true, hword.1, Nz_some, Fa_some, add_mk, Nat.zero_add, Ld_some, hc, Bin_mul_3, w1, w2, Bin_add_3, w3, hv2]
    refine hg _ fun H4 e4 s4 k4 => ?_
    simp -implicitDefEqProofs only [q_some, wk]
    exact ⟨trivial, trivial, trivial, ⟨k + 1, rfl, by omega, e3.trans e4, kv3.ext e4 (by simpa using m.ne), k4⟩, by simp; omega⟩
  · have hk4 : k = 4 := by omega
    subst hk4
    simp -implicitDefEqProofs
    unfold F67_3
    exact hq H3 e3 ⟨⟨v, kv3, hs3⟩, m.ne, setLineL_bytes m.ok _ _, by rw [setLineL_len]; exact l0, by rw [setLineL_len]; exact l1⟩
end YtacidjifocfhkaaGreatDoor
end Go.Proofs
namespace Go.Pm
set_option linter.unusedSimpArgs false
set_option linter.unusedVariables false
def layN (bs ws : List Int) : Nat → List Int
  | 0 => bs
  | k + 1 => putL (layN bs ws k) (4 * k) (ws.getD k 0) 4
def memNew (n : Nat) (ws : List Int) : List Int := layN (List.replicate n 0) ws ws.length
theorem layN_len (bs ws : List Int) : ∀ k, (layN bs ws k).length = bs.length
  | 0 => rfl
  | k + 1 => by rw [layN, putL_len, layN_len bs ws k]
theorem layN_bytes {bs : List Int} (h : Bytes bs) (ws : List Int) : ∀ k, Bytes (layN bs ws k)
  | 0 => h
  | k + 1 => putL_bytes (layN_bytes h ws k) 4
theorem zero_bytes (n : Nat) : Bytes (List.replicate n 0) := by
  intro x hx; rw [List.eq_of_mem_replicate hx]; omega
theorem memNew_len (n : Nat) (ws : List Int) : (memNew n ws).length = n := by simp [memNew, layN_len]
theorem memNew_bytes (n : Nat) (ws : List Int) : Bytes (memNew n ws) := layN_bytes (zero_bytes n) ws _
theorem testBit_parts (hi mid lo s m i : Nat) (h1 : lo < 2 ^ s) (h2 : mid < 2 ^ m) :
    (hi * 2 ^ (s + m) + mid * 2 ^ s + lo).testBit i = if i < s then lo.testBit i else if i < s + m then mid.testBit (i - s) else hi.testBit (i - (s + m)) := by
  have e : hi * 2 ^ (s + m) + mid * 2 ^ s + lo = 2 ^ s * (2 ^ m * hi + mid) + lo := by
    rw [Nat.pow_add, Nat.mul_add, Nat.mul_comm hi, Nat.mul_comm mid, Nat.mul_assoc]
  rw [e, Nat.testBit_two_pow_mul_add _ h1]
  by_cases c : i < s
  · simp [c]
  · simp only [c, if_false]
    rw [Nat.testBit_two_pow_mul_add _ h2]
    by_cases c2 : i < s + m
    · rw [if_pos (by omega), if_pos c2]
    · rw [if_neg (by omega), if_neg c2]; congr 1; omega
/-- a number's bits with some of them set anew -/
theorem set_bits (w v s m : Nat) (hs : s + m ≤ 32) (hw : w < 2 ^ 32) (hv : v < 2 ^ 32) :
    (BitVec.ofNat 32 w &&& ~~~ BitVec.ofNat 32 ((2 ^ m - 1) * 2 ^ s) ||| BitVec.ofNat 32 (v * 2 ^ s) &&& BitVec.ofNat 32 ((2 ^ m - 1) * 2 ^ s)).toNat
      = w / 2 ^ (s + m) * 2 ^ (s + m) + v % 2 ^ m * 2 ^ s + w % 2 ^ s := by
  apply Nat.eq_of_testBit_eq
  intro i
  rw [testBit_parts _ _ _ _ _ _ (Nat.mod_lt _ (Nat.pow_pos (by omega))) (Nat.mod_lt _ (Nat.pow_pos (by omega)))]
  simp only [BitVec.testBit_toNat, BitVec.getLsbD_or, BitVec.getLsbD_and, BitVec.getLsbD_not, BitVec.getLsbD_ofNat]
  have hm : ((2 ^ m - 1) * 2 ^ s).testBit i = (decide (s ≤ i) && decide (i - s < m)) := by
    rw [← Nat.shiftLeft_eq, Nat.testBit_shiftLeft, Nat.testBit_two_pow_sub_one]
  have hv2 : (v * 2 ^ s).testBit i = (decide (s ≤ i) && v.testBit (i - s)) := by
    rw [← Nat.shiftLeft_eq, Nat.testBit_shiftLeft]
  rw [hm, hv2, Nat.testBit_mod_two_pow, Nat.testBit_mod_two_pow, Nat.testBit_div_two_pow]
  by_cases c1 : i < s
  · have : i < 32 := by omega
    simp [c1, this, show ¬ s ≤ i by omega]
  · by_cases c2 : i < s + m
    · have : i < 32 := by omega
      simp [c1, c2, this, show s ≤ i by omega, show i - s < m by omega]
    · by_cases c3 : i < 32
      · simp [c1, c2, c3, show s ≤ i by omega, show ¬ i - s < m by omega, show i - (s + m) + (s + m) = i by omega]
      · have hz : w.testBit i = false := Nat.testBit_lt_two_pow (Nat.lt_of_lt_of_le hw (Nat.pow_le_pow_right (by omega) (by omega)))
        simp [c1, c2, c3, show i - (s + m) + (s + m) = i by omega, hz]
end Go.Pm
namespace Go.Proofs
open Go Go.NW Go.Pm
set_option maxRecDepth 20000
set_option linter.unusedSimpArgs false
set_option linter.unusedVariables false
namespace YtacidjifocfhkaaGreatDoor
theorem ofInt_toNat (x : BitVec 32) : BitVec.ofInt 32 ((x.toNat : Nat) : Int) = x := by
  rw [BitVec.ofInt_natCast]; simp
theorem wrap_toNat (x : BitVec 32) : IntKind.wrap .u32 ((x.toNat : Nat) : Int) = ((x.toNat : Nat) : Int) := by
  have := x.isLt; exact wu32 (by omega) (by omega)
theorem ofInt_nat (x : Nat) : BitVec.ofInt 32 (x : Int) = BitVec.ofNat 32 x := BitVec.ofInt_natCast _ _
theorem ofInt_wrap (x : Nat) : BitVec.ofInt 32 (IntKind.wrap .u32 (x : Int)) = BitVec.ofNat 32 x := by
  unfold IntKind.wrap
  simp [IntKind.bits, IntKind.signed]
  have : ((x : Int) % 4294967296) = ((x % 4294967296 : Nat) : Int) := by simp
  rw [this, BitVec.ofInt_natCast]
  apply BitVec.eq_of_toNat_eq
  simp
theorem mask_bits {x : Int} {m : Nat} (hx : U32 x) (hm : m ≤ 32) :
    IntKind.wrap .u32 ((BitVec.ofInt (IntKind.bits .u32) x &&& BitVec.ofInt (IntKind.bits .u32) ((2 ^ m - 1 : Nat) : Int)).toNat : Nat) = x % ((2 ^ m : Nat) : Int) := by
  show IntKind.wrap .u32 ((BitVec.ofInt 32 x &&& BitVec.ofInt 32 ((2 ^ m - 1 : Nat) : Int)).toNat : Nat) = x % ((2 ^ m : Nat) : Int)
  obtain ⟨x, rfl⟩ := Int.eq_ofNat_of_zero_le hx.1
  have hx2 : x < 2 ^ 32 := by have := hx.2; omega
  rw [ofInt_nat, ofInt_nat, wrap_toNat]
  have h1 : (BitVec.ofNat 32 x &&& BitVec.ofNat 32 (2 ^ m - 1)).toNat = x % 2 ^ m := by
    rw [BitVec.toNat_and, BitVec.toNat_ofNat, BitVec.toNat_ofNat, Nat.mod_eq_of_lt hx2, Nat.mod_eq_of_lt, Nat.and_two_pow_sub_one_eq_mod]
    have := Nat.pow_le_pow_right (n := 2) (by omega) hm
    have := Nat.pow_pos (n := m) (show 0 < 2 by omega)
    omega
  rw [h1]; simp
theorem with_bits {w v : Int} {s m : Nat} (hs : s + m ≤ 32) (hw : U32 w) (hv : U32 v) :
    IntKind.wrap .u32 ((BitVec.ofInt (IntKind.bits .u32) (IntKind.wrap .u32 ((BitVec.ofInt (IntKind.bits .u32) w &&& ~~~ BitVec.ofInt (IntKind.bits .u32) (((2 ^ m - 1) * 2 ^ s : Nat) : Int)).toNat : Nat)) |||
      BitVec.ofInt (IntKind.bits .u32) (IntKind.wrap .u32 ((BitVec.ofInt (IntKind.bits .u32) (IntKind.wrap .u32 (v * ((2 ^ s : Nat) : Int))) &&& BitVec.ofInt (IntKind.bits .u32) (((2 ^ m - 1) * 2 ^ s : Nat) : Int)).toNat : Nat))).toNat : Nat)
    = ((w.toNat / 2 ^ (s + m) * 2 ^ (s + m) + v.toNat % 2 ^ m * 2 ^ s + w.toNat % 2 ^ s : Nat) : Int) := by
  show IntKind.wrap .u32 ((BitVec.ofInt 32 (IntKind.wrap .u32 ((BitVec.ofInt 32 w &&& ~~~ BitVec.ofInt 32 (((2 ^ m - 1) * 2 ^ s : Nat) : Int)).toNat : Nat)) |||
      BitVec.ofInt 32 (IntKind.wrap .u32 ((BitVec.ofInt 32 (IntKind.wrap .u32 (v * ((2 ^ s : Nat) : Int))) &&& BitVec.ofInt 32 (((2 ^ m - 1) * 2 ^ s : Nat) : Int)).toNat : Nat))).toNat : Nat) = _
  obtain ⟨w, rfl⟩ := Int.eq_ofNat_of_zero_le hw.1
  obtain ⟨v, rfl⟩ := Int.eq_ofNat_of_zero_le hv.1
  have hw2 : w < 2 ^ 32 := by have := hw.2; omega
  have hv2 : v < 2 ^ 32 := by have := hv.2; omega
  have e1 : ((v : Int) * ((2 ^ s : Nat) : Int)) = ((v * 2 ^ s : Nat) : Int) := by simp
  have key := set_bits w v s m hs hw2 hv2
  rw [e1, ofInt_wrap (v * 2 ^ s), ofInt_nat w, ofInt_nat ((2 ^ m - 1) * 2 ^ s), wrap_toNat, wrap_toNat, ofInt_toNat, wrap_toNat, ofInt_toNat, key]
  simp
theorem word_rng {d : Words} (h : U32s d) (i : Int) : U32 (Fab.word d i) := by
  obtain ⟨a, b, c, e⟩ := h
  unfold Fab.word
  split
  · exact a
  · split
    · exact b
    · split
      · exact c
      · exact e
theorem word_cell {H : Hp} {b : Nat} {d : Words} (k : blk H b (wordsC d)) {i : Int} (h0 : 0 ≤ i) (h1 : i < 4) : cellAt H ⟨b, i.toNat, none⟩ = some (.int .u32 (Fab.word d i)) := by
  rw [k.cell]
  have : i = 0 ∨ i = 1 ∨ i = 2 ∨ i = 3 := by omega
  rcases this with rfl | rfl | rfl | rfl <;> rfl
theorem IxA_word (b : Nat) {i : Int} (h0 : 0 ≤ i) (h1 : i < 4) (k : IntKind) : IxA 4 1 (at0 b) (.int k i) = some (.pointer (some ⟨b, i.toNat, none⟩)) := by
  simp only [IxA]; rw [if_pos ⟨by omega, by omega⟩]; simp
theorem fair_cases {addr size : Int} (h : Fab.fair addr size = true) (h0 : 0 ≤ addr) : (size = 1 ∧ addr % 4 = 0) ∨ (size = 1 ∧ addr % 4 = 1) ∨ (size = 1 ∧ addr % 4 = 2) ∨ (size = 1 ∧ addr % 4 = 3) ∨ (size = 2 ∧ addr % 4 = 0) ∨ (size = 2 ∧ addr % 4 = 2) ∨ (size = 4 ∧ addr % 4 = 0) := by
  simp [Fab.fair] at h
  obtain ⟨(rfl | rfl) | rfl, h2⟩ := h <;> omega
theorem Part_57 {H : Hp} {d : Words} {addr size : Int} {Q : RT1} (hd : U32s d) (ha : U32 addr) (hq : ∀ H', Ext [] H H' → Q (.int .u32 (Fab.rdW d addr size)) H') :
    NCalls Tryz.prog 57 #[.agg (wordsC d), .int .u32 addr, .int .i64 size] H Q := by
  have h0 := ha.1
  have h1 := ha.2
  refine E57 ?_
  unfold F57_0 F57_10
  refine New_i fun H1 b1 hb1 e1 s1 k1 => ?_
  replace k1 : blk H1 b1 (wordsC d) := by simpa using k1
  replace hq := hq H1 e1
  unfold F57_1 F57_9
  refine fair_94 ha ?_
  cases hf : Fab.fair addr size with
  | false =>
    simp -implicitDefEqProofs
    exact fin hq (by simp [Fab.rdW, hf])
  | true =>
    simp -implicitDefEqProofs only [un_not, q_some, Bool.not_true, condV_bool, Bool.false_eq_true, if_false]
    unfold F57_2 F57_8 F57_3 F57_7
    have m1 : addr.tmod 16 = addr % 16 := by rw [Int.tmod_eq_emod_of_nonneg h0]
    have m2 : IntKind.wrap .u32 ((addr % 16).tdiv 4) = addr % 16 / 4 := by rw [Int.tdiv_eq_ediv_of_nonneg (by omega)]; exact wu32 (by omega) (by omega)
    have m3 : (addr % 16).tmod 4 = addr % 4 := by rw [Int.tmod_eq_emod_of_nonneg (by omega)]; omega
    have m4 : IntKind.wrap .u32 (8 * (addr % 4)) = 8 * (addr % 4) := wu32 (by omega) (by omega)
    simp -implicitDefEqProofs only [Bin_rem_40 _ _ _ _ (show (16 : Int) ≠ 0 by omega), m1, q_some, Bin_quo_40 _ _ _ _ (show (4 : Int) ≠ 0 by omega), m2, IxA_word b1 (show 0 ≤ addr % 16 / 4 by omega) (show addr % 16 / 4 < 4 by omega), Ld_some, word_cell k1 (show 0 ≤ addr % 16 / 4 by omega) (show addr % 16 / 4 < 4 by omega), Bin_rem_40 _ _ _ _ (show (4 : Int) ≠ 0 by omega), m3, Bin_mul_40, m4, Bin_shr_40_u32 _ _ _ _ (show (0 : Int) ≤ 8 * (addr % 4) by omega)]
    unfold F57_4 F57_6 F57_5
    have hq' : Q (.int .u32 (Fab.bytesAt (Fab.word d (addr % 16 / 4)) (addr % 4) size)) H1 := by simpa [Fab.rdW, hf] using hq
    have hw := word_rng hd (addr % 16 / 4)
    generalize Fab.word d (addr % 16 / 4) = w at *
    have key : ∀ (sh : Nat) (sz : Nat), addr % 4 = sh → size = sz → sh < 4 → sz < 4 → IntKind.wrap .i64 (8 * size) = ((8 * sz : Nat) : Int) ∧ U32 (w.fdiv (2 ^ (min (8 * (addr % 4)).toNat (IntKind.bits .u32)))) ∧
        w.fdiv (2 ^ (min (8 * (addr % 4)).toNat (IntKind.bits .u32))) % ((2 ^ (8 * sz) : Nat) : Int) = Fab.bytesAt w (addr % 4) size := by
      intro sh sz e1 e2 l1 l2
      have ex : min (8 * (addr % 4)).toNat (IntKind.bits .u32) = 8 * sh := by simp [IntKind.bits]; omega
      have hp : (0 : Int) < 2 ^ (8 * sh) := Int.pow_pos (by omega)
      rw [ex, Int.fdiv_eq_ediv_of_nonneg _ (Int.le_of_lt hp)]
      refine ⟨?_, ⟨Int.ediv_nonneg hw.1 (Int.le_of_lt hp), ?_⟩, ?_⟩
      · rw [e2, w64 (by omega) (by omega)]; simp
      · exact Int.lt_of_le_of_lt (Int.ediv_le_self _ hw.1) hw.2
      · unfold Fab.bytesAt
        rw [if_neg (by omega), show (8 * (addr % 4)).toNat = 8 * sh by omega, show (8 * size).toNat = 8 * sz by omega]
        simp
    by_cases h4 : size = 4
    · have hlt : ¬ (size < 4) := by omega
      simp -implicitDefEqProofs only [Bin_lss_3, hlt, decide_false, q_some, condV_bool, Bool.false_eq_true, if_false]
      refine fin hq' ?_
      have : addr % 4 = 0 := by have := fair_cases hf h0; omega
      rw [this]
      simp [Fab.bytesAt, h4]
    · have hlt : size < 4 := by have := fair_cases hf h0; omega
      have hpos : 0 < size := by have := fair_cases hf h0; omega
      obtain ⟨g1, g2, g3⟩ := key (addr % 4).toNat size.toNat (by omega) (by omega) (by omega) (by omega)
      have w5 : IntKind.wrap .u32 (1 * 2 ^ (min ((8 * size.toNat : Nat) : Int).toNat (IntKind.bits .u32))) = ((2 ^ (8 * size.toNat) : Nat) : Int) := by
        have hh : size.toNat = 1 ∨ size.toNat = 2 ∨ size.toNat = 3 := by omega
        rcases hh with hh | hh | hh <;> rw [hh] <;> decide
      have w6 : IntKind.wrap .u32 (((2 ^ (8 * size.toNat) : Nat) : Int) - 1) = ((2 ^ (8 * size.toNat) - 1 : Nat) : Int) := by
        have hh : size.toNat = 1 ∨ size.toNat = 2 ∨ size.toNat = 3 := by omega
        rcases hh with hh | hh | hh <;> rw [hh] <;> decide
      simp -implicitDefEqProofs only [Bin_lss_3, hlt, decide_true, q_some, condV_bool, if_true, Bin_mul_3, g1, Bin_shl_40_i64 _ _ _ _ (show (0 : Int) ≤ ((8 * size.toNat : Nat) : Int) by omega), w5, Bin_sub_40, w6, Bin_and_40, mask_bits g2 (show 8 * size.toNat ≤ 32 by omega), g3]
      exact hq'
theorem setBytes_eq {w v : Int} {sh sz : Nat} (hw : U32 w) (hv : U32 v) (h : (sz = 1 ∧ sh < 4) ∨ (sz = 2 ∧ (sh = 0 ∨ sh = 2))) :
    ((w.toNat / 2 ^ (8 * sh + 8 * sz) * 2 ^ (8 * sh + 8 * sz) + v.toNat % 2 ^ (8 * sz) * 2 ^ (8 * sh) + w.toNat % 2 ^ (8 * sh) : Nat) : Int) = Fab.setBytes w sh sz v := by
  obtain ⟨w, rfl⟩ := Int.eq_ofNat_of_zero_le hw.1
  obtain ⟨v, rfl⟩ := Int.eq_ofNat_of_zero_le hv.1
  have : (sz = 1 ∧ sh = 0) ∨ (sz = 1 ∧ sh = 1) ∨ (sz = 1 ∧ sh = 2) ∨ (sz = 1 ∧ sh = 3) ∨ (sz = 2 ∧ sh = 0) ∨ (sz = 2 ∧ sh = 2) := by omega
  rcases this with ⟨rfl, rfl⟩ | ⟨rfl, rfl⟩ | ⟨rfl, rfl⟩ | ⟨rfl, rfl⟩ | ⟨rfl, rfl⟩ | ⟨rfl, rfl⟩ <;> simp [Fab.setBytes, Fab.bytesAt] <;> omega
theorem wordsC_set {d : Words} {i : Int} (h0 : 0 ≤ i) (h1 : i < 4) (x : Int) : wrL (wordsC d) i.toNat [Value.int .u32 x] = wordsC (Fab.setWord d i x) := by
  have : i = 0 ∨ i = 1 ∨ i = 2 ∨ i = 3 := by omega
  rcases this with rfl | rfl | rfl | rfl <;> rfl
theorem With_60 {H : Hp} {d : Words} {addr size v : Int} {Q : RT1} (hd : U32s d) (ha : U32 addr) (hv : U32 v) (hq : ∀ H', Ext [] H H' → Q (.agg (wordsC (Fab.wrW d addr size v))) H') :
    NCalls Tryz.prog 60 #[.agg (wordsC d), .int .u32 addr, .int .i64 size, .int .u32 v] H Q := by
  have h0 := ha.1
  have h1 := ha.2
  refine E60 ?_
  unfold F60_0 F60_12
  refine New_i fun H1 b1 hb1 e1 s1 k1 => ?_
  refine New_i fun H2 b2 hb2 e2 s2 k2 => ?_
  replace k1 : blk H2 b1 (wordsC d) := by simpa using k1.ext e2 (by simp)
  have E2 := e1.trans e2
  have z1 := e1.size
  unfold F60_1 F60_11
  refine fair_94 ha ?_
  have ex4 : ∀ w : Words, (wordsC w).size = 4 ∧ (wordsC w).extract 0 4 = wordsC w := fun w => ⟨rfl, by simp [wordsC]⟩
  cases hf : Fab.fair addr size with
  | false =>
    simp -implicitDefEqProofs [k1.cells, (ex4 d).1, (ex4 d).2]
    refine St_i k2 (by simp [wordsC]) (by simp) (by simp [wordsC]) fun H3 e3 s3 k3 => ?_
    have k3' : blk H3 b2 (wordsC d) := by simpa [wrL, wordsC] using k3
    simp -implicitDefEqProofs [k3'.cells, (ex4 d).1, (ex4 d).2]
    exact fin (hq H3 (E2.fresh e3 (by simp; omega))) (by simp [Fab.wrW, hf])
  | true =>
    simp -implicitDefEqProofs only [un_not, q_some, Bool.not_true, condV_bool, Bool.false_eq_true, if_false]
    unfold F60_2 F60_10 F60_3 F60_9 F60_4 F60_8 F60_5 F60_7
    have m1 : addr.tmod 16 = addr % 16 := by rw [Int.tmod_eq_emod_of_nonneg h0]
    have m2 : IntKind.wrap .u32 ((addr % 16).tdiv 4) = addr % 16 / 4 := by rw [Int.tdiv_eq_ediv_of_nonneg (by omega)]; exact wu32 (by omega) (by omega)
    have m3 : (addr % 16).tmod 4 = addr % 4 := by rw [Int.tmod_eq_emod_of_nonneg (by omega)]; omega
    have m4 : IntKind.wrap .u32 (8 * (addr % 4)) = 8 * (addr % 4) := wu32 (by omega) (by omega)
    have hi0 : 0 ≤ addr % 16 / 4 := by omega
    have hi1 : addr % 16 / 4 < 4 := by omega
    have hw := word_rng hd (addr % 16 / 4)
    have key : ∀ keep x : Int, IntKind.wrap .u32 ((BitVec.ofInt (IntKind.bits .u32) (IntKind.wrap .u32 ((BitVec.ofInt (IntKind.bits .u32) (Fab.word d (addr % 16 / 4)) &&& ~~~ BitVec.ofInt (IntKind.bits .u32) keep).toNat : Nat)) |||
        BitVec.ofInt (IntKind.bits .u32) (IntKind.wrap .u32 ((BitVec.ofInt (IntKind.bits .u32) (IntKind.wrap .u32 (v * 2 ^ (min (8 * (addr % 4)).toNat (IntKind.bits .u32)))) &&& BitVec.ofInt (IntKind.bits .u32) keep).toNat : Nat))).toNat : Nat) = x →
        x = Fab.setBytes (Fab.word d (addr % 16 / 4)) (addr % 4) size v → F60_6 (.int .u32 v) (at0 b1) (at0 b2) (.int .u32 (addr % 16)) (.int .u32 (8 * (addr % 4))) (.int .u32 keep) H2 Q := by
      intro keep x hx hx2
      unfold F60_6
      simp -implicitDefEqProofs only [Bin_quo_40 _ _ _ _ (show (4 : Int) ≠ 0 by omega), m2, q_some, IxA_word b1 hi0 hi1, Ld_some, word_cell k1 hi0 hi1, Bin_andNot_40, Bin_shl_40_u32 _ _ _ _ (show (0 : Int) ≤ 8 * (addr % 4) by omega), Bin_and_40, Bin_or_40, hx]
      refine St_i k1 (by simp) (by simp [wordsC]; omega) (by simp) fun H3 e3 s3 k3 => ?_
      have k3' : blk H3 b1 (wordsC (Fab.setWord d (addr % 16 / 4) x)) := by rw [← wordsC_set hi0 hi1]; simpa using k3
      simp -implicitDefEqProofs [k3'.cells, (ex4 _).1, (ex4 _).2]
      refine St_i (k2.ext e3 (by simp; omega)) (by simp [wordsC]) (by simp) (by simp [wordsC]) fun H4 e4 s4 k4 => ?_
      have k4' : blk H4 b2 (wordsC (Fab.setWord d (addr % 16 / 4) x)) := by simpa [wrL, wordsC] using k4
      simp -implicitDefEqProofs [k4'.cells, (ex4 _).1, (ex4 _).2]
      refine fin (hq H4 ((E2.fresh e3 (by simp; omega)).fresh e4 (by simp; omega))) ?_
      simp [Fab.wrW, hf, hx2]
    simp -implicitDefEqProofs only [Bin_rem_40 _ _ _ _ (show (16 : Int) ≠ 0 by omega), m1, q_some, Bin_rem_40 _ _ _ _ (show (4 : Int) ≠ 0 by omega), m3, Bin_mul_40, m4]
    by_cases h4 : size = 4
    · have hlt : ¬ (size < 4) := by omega
      have hz : addr % 4 = 0 := by have := fair_cases hf h0; omega
      simp -implicitDefEqProofs only [Bin_lss_3, hlt, decide_false, q_some, condV_bool, Bool.false_eq_true, if_false]
      refine key _ v ?_ (by simp [Fab.setBytes, h4])
      have := with_bits (w := Fab.word d (addr % 16 / 4)) (v := v) (s := 0) (m := 32) (by omega) hw hv
      have e1 : (2 : Int) ^ (min (8 * (addr % 4)).toNat (IntKind.bits .u32)) = ((2 ^ 0 : Nat) : Int) := by rw [hz]; rfl
      have e2 : (4294967295 : Int) = (((2 ^ 32 - 1) * 2 ^ 0 : Nat) : Int) := by rfl
      rw [e1, e2, this]
      obtain ⟨g1, g2⟩ := hw
      obtain ⟨g3, g4⟩ := hv
      omega
    · have hc := fair_cases hf h0
      have hlt : size < 4 := by omega
      have hpos : 0 < size := by omega
      obtain ⟨sh, hsh⟩ : ∃ sh : Nat, addr % 4 = sh := ⟨(addr % 4).toNat, by omega⟩
      obtain ⟨sz, hsz⟩ : ∃ sz : Nat, size = sz := ⟨size.toNat, by omega⟩
      have hcc : (sz = 1 ∧ sh < 4) ∨ (sz = 2 ∧ (sh = 0 ∨ sh = 2)) := by omega
      have g1 : IntKind.wrap .i64 (8 * size) = ((8 * sz : Nat) : Int) := by rw [hsz, w64 (by omega) (by omega)]; simp
      have w5 : IntKind.wrap .u32 (1 * 2 ^ (min ((8 * sz : Nat) : Int).toNat (IntKind.bits .u32))) = ((2 ^ (8 * sz) : Nat) : Int) := by
        have hh : sz = 1 ∨ sz = 2 := by omega
        rcases hh with hh | hh <;> rw [hh] <;> decide
      have w6 : IntKind.wrap .u32 (((2 ^ (8 * sz) : Nat) : Int) - 1) = ((2 ^ (8 * sz) - 1 : Nat) : Int) := by
        have hh : sz = 1 ∨ sz = 2 := by omega
        rcases hh with hh | hh <;> rw [hh] <;> decide
      have w7 : IntKind.wrap .u32 (((2 ^ (8 * sz) - 1 : Nat) : Int) * 2 ^ (min (8 * (addr % 4)).toNat (IntKind.bits .u32))) = (((2 ^ (8 * sz) - 1) * 2 ^ (8 * sh) : Nat) : Int) := by
        rw [hsh]
        have hh : (sz = 1 ∧ sh = 0) ∨ (sz = 1 ∧ sh = 1) ∨ (sz = 1 ∧ sh = 2) ∨ (sz = 1 ∧ sh = 3) ∨ (sz = 2 ∧ sh = 0) ∨ (sz = 2 ∧ sh = 2) := by omega
        rcases hh with ⟨rfl, rfl⟩ | ⟨rfl, rfl⟩ | ⟨rfl, rfl⟩ | ⟨rfl, rfl⟩ | ⟨rfl, rfl⟩ | ⟨rfl, rfl⟩ <;> decide
      simp -implicitDefEqProofs only [Bin_lss_3, hlt, decide_true, q_some, condV_bool, if_true, Bin_mul_3, g1, Bin_shl_40_i64 _ _ _ _ (show (0 : Int) ≤ ((8 * sz : Nat) : Int) by omega), w5, Bin_sub_40, w6, Bin_shl_40_u32 _ _ _ _ (show (0 : Int) ≤ 8 * (addr % 4) by omega), w7]
      have := with_bits (w := Fab.word d (addr % 16 / 4)) (v := v) (s := 8 * sh) (m := 8 * sz) (by omega) hw hv
      have e1 : (2 : Int) ^ (min (8 * (addr % 4)).toNat (IntKind.bits .u32)) = ((2 ^ (8 * sh) : Nat) : Int) := by
        have : min (8 * (addr % 4)).toNat (IntKind.bits .u32) = 8 * sh := by simp [IntKind.bits]; omega
        rw [this]; simp
      exact key _ _ (by rw [e1]; exact this) ((setBytes_eq hw hv hcc).trans (by rw [hsh, hsz]))
end YtacidjifocfhkaaGreatDoor
end Go.Proofs
namespace Go.Proofs
open Go Go.NW Go.Pm
set_option maxRecDepth 20000
set_option linter.unusedSimpArgs false
set_option linter.unusedVariables false
namespace YtacidjifocfhkaaGreatDoor
def u32sC (ws : List Int) : List (List Value) := ws.map fun x => [.int .u32 x]
theorem u32sC_len (l : List Int) : (u32sC l).length = l.length := by simp [u32sC]
theorem New_13 {H : Hp} {n bw : Nat} {wv : Value} {ws : List Int} {Q : RT1} (hn : 16 ≤ n ∧ n ≤ 65536 ∧ n % 16 = 0) (hs : Slc H 1 wv (u32sC ws) bw) (hl : 4 * ws.length ≤ n) (hw : ∀ w ∈ ws, U32 w)
    (hq : ∀ H' bm bb, Ext [] H H' → MemC H' bm bb (memNew n ws) → H.size ≤ bm → H.size ≤ bb → Q (.tuple #[at0 bm, .nilIface]) H') : NCalls Tryz.prog 13 #[.int .i64 n, wv] H Q := by
  refine E13 ?_
  unfold F13_0 F13_14 F13_1 F13_13
  have c1 : ¬ ((n : Int) < 16) := by omega
  have c2 : ¬ ((65536 : Int) < n) := by omega
  have c3 : (n : Int).tmod 16 = 0 := by rw [Int.tmod_eq_emod_of_nonneg (by omega)]; omega
  obtain ⟨a, cap, hv, hcap, hnil⟩ := hs.shape
  have hlv : pv Tryz.prog (Builtin.len_ #[48] 0 #[wv]) = some (.int .i64 ws.length) := by rw [hv]; simp -implicitDefEqProofs [u32sC_len]
  have e1 : ((0 : Int) != 0) = false := by decide
  simp -implicitDefEqProofs only [Bin_lss_3, c1, decide_false, q_some, gd_bool, if_true, Pk_bool, Bool.false_eq_true, if_false, Bin_gtr_3, gt_iff_lt, c2, Bin_rem_3 _ _ _ _ (show (16 : Int) ≠ 0 by omega), c3, Bin_neq_3, e1, condV_bool]
  unfold F13_2 F13_12
  have q1 : IntKind.wrap .i64 ((n : Int).tdiv 4) = ((n / 4 : Nat) : Int) := by rw [Int.tdiv_eq_ediv_of_nonneg (by omega), w64 (by omega) (by omega)]; omega
  have c4 : ¬ (((n / 4 : Nat) : Int) < ws.length) := by omega
  simp -implicitDefEqProofs only [hlv, q_some, Bin_quo_3 _ _ _ _ (show (4 : Int) ≠ 0 by omega), q1, Bin_gtr_3, gt_iff_lt, c4, decide_false, condV_bool, Bool.false_eq_true, if_false]
  unfold F13_3 F13_11
  refine makeSlice_i ty_81 (z := .int .u8 0) (by kernel_rfl) (by omega) (Int.le_refl _) (by omega) fun H1 e1 s1 k1 => ?_
  simp -implicitDefEqProofs
  refine New_i fun H2 b2 hb2 e2 s2 k2 => ?_
  have z1 := e1.size
  have k12 := k1.ext e2 (by simp)
  have hsl : Slc H2 1 (.slice (some ⟨H.size, 0, none⟩) n n) (bytesC (List.replicate n 0)) H.size := by
    have e0 : n = (bytesC (List.replicate n 0)).length := by simp [bytesC]
    have h0 := Slc.of (n := 1) (xs := bytesC (List.replicate n 0)) (cap := n) (c := _) (by intro x hx; simp only [bytesC, List.mem_map] at hx; obtain ⟨y, _, rfl⟩ := hx; rfl) k12 (by rw [← e0]; exact Nat.le_refl _) (by simp) (by simp [bytesC])
    rwa [← e0] at h0
  have k2' : blk H2 b2 #[.slice (some ⟨H.size, 0, none⟩) n n] := by simpa using k2
  unfold F13_4 F13_6 F13_10
  simp -implicitDefEqProofs only [hlv, q_some]
  unfold F13_7 F13_8
  refine ⟨fun v33 H' => ∃ k : Nat, v33 = .int .i64 k ∧ k ≤ ws.length ∧ Ext [] H H' ∧ blk H' b2 #[.slice (some ⟨H.size, 0, none⟩) n n] ∧ Slc H' 1 (.slice (some ⟨H.size, 0, none⟩) n n) (bytesC (layN (List.replicate n 0) ws k)) H.size, fun v33 _ => ws.length - (iv v33).toNat,
    ⟨0, rfl, by omega, e1.trans e2, k2', hsl⟩, ?_⟩
  rintro v33 H3 ⟨k, rfl, hk, e3, kb3, hs3⟩
  unfold F13_9
  by_cases hlt : k < ws.length
  · have hlt' : (k : Int) < ws.length := by omega
    obtain ⟨o, hx, hc, _⟩ := (hs.ext e3 (by simp)).at (i := k) (by rw [u32sC_len]; exact hlt)
    have hc0 : cellAt H3 ⟨bw, o, none⟩ = some (.int .u32 ws[k]) := by have := hc 0 (by omega); simpa [u32sC] using this
    have w1 : IntKind.wrap .i64 (4 * (k : Int)) = ((4 * k : Nat) : Int) := by rw [w64 (by omega) (by omega)]; simp
    have wk : IntKind.wrap .i64 ((k : Int) + 1) = ((k + 1 : Nat) : Int) := by rw [w64 (by omega) (by omega)]; simp
    have hc1 : cellAt H3 ⟨b2, 0, none⟩ = some (.slice (some ⟨H.size, 0, none⟩) n n) := by rw [kb3.cell]; rfl
    obtain ⟨v2, hv2, hg⟩ := put_at (off := 4 * k) (size := 4) (w := ws[k]) hs3 (by rw [layN_len]; simp; omega) (by omega) (by omega) (hw _ (by simp))
    simp -implicitDefEqProofs only [Bin_lss_3, hlt', decide_true, q_some, condV_bool, if_true, hx, Ld_some, hc0, Nz_some, Fa_some, add_mk, Nat.zero_add, hc1, Bin_mul_3, w1, hv2]
    refine hg _ fun H4 e4 s4 k4 => ?_
    simp -implicitDefEqProofs only [Bin_add_3, q_some, wk]
    refine ⟨trivial, trivial, trivial, ⟨k + 1, rfl, by omega, e3.fresh e4 (by simp), kb3.ext e4 (by simp; omega), ?_⟩, by simp; omega⟩
    have : ws.getD k 0 = ws[k] := by rw [List.getD_eq_getElem?_getD, List.getElem?_eq_getElem hlt]; rfl
    rw [layN, this]; exact k4
  · have hkl : k = ws.length := by omega
    subst hkl
    have hlt' : ¬ ((ws.length : Int) < ws.length) := by omega
    simp -implicitDefEqProofs only [Bin_lss_3, hlt', decide_false, q_some, condV_bool, Bool.false_eq_true, if_false]
    unfold F13_5
    exact hq H3 b2 H.size e3 ⟨⟨_, kb3, hs3⟩, by omega, memNew_bytes _ _, by rw [memNew_len]; omega, by rw [memNew_len]; omega⟩ (by omega) (Nat.le_refl _)
end YtacidjifocfhkaaGreatDoor
end Go.Proofs
namespace Go.NW
open Go
set_option linter.unusedSimpArgs false
set_option linter.unusedVariables false
variable {α : Type}
/-- the entries of a map, the first one first -/
def mapE (enc : α → Value) : List (α × Value) → Nat → List MapEntry
  | [], _ => []
  | e :: es, i => { key := enc e.1, val := e.2, born := i } :: mapE enc es (i + 1)
def mapO (enc : α → Value) (es : List (α × Value)) : Obj := .map (mapE enc es 0).toArray es.length
theorem mapE_len (enc : α → Value) : ∀ (es : List (α × Value)) (i : Nat), (mapE enc es i).length = es.length
  | [], _ => rfl
  | e :: es, i => by simp [mapE, mapE_len enc es (i + 1)]
theorem mapE_get (enc : α → Value) : ∀ (es : List (α × Value)) (i j : Nat), (mapE enc es i)[j]? = (es[j]?).map fun e => { key := enc e.1, val := e.2, born := i + j }
  | [], _, _ => by simp [mapE]
  | e :: es, i, 0 => by simp [mapE]
  | e :: es, i, j + 1 => by simp [mapE, mapE_get enc es (i + 1) j]; congr 1; funext x; simp; omega
theorem mapE_append (enc : α → Value) : ∀ (es fs : List (α × Value)) (i : Nat), mapE enc (es ++ fs) i = mapE enc es i ++ mapE enc fs (i + es.length)
  | [], fs, i => by simp [mapE]
  | e :: es, fs, i => by simp [mapE, mapE_append enc es fs (i + 1)]; congr 1; omega
variable [DecidableEq α]
/-- the first entry of a key, and where it stands -/
def mapF (k : α) : List (α × Value) → Nat → Option (Nat × Value)
  | [], _ => none
  | e :: es, i => if e.1 = k then some (i, e.2) else mapF k es (i + 1)
def mapG (k : α) (es : List (α × Value)) : Option Value := (mapF k es 0).map (·.2)
/-- the map with a key's value set -/
def mapS (k : α) (v : Value) : List (α × Value) → List (α × Value)
  | [] => [(k, v)]
  | e :: es => if e.1 = k then (k, v) :: es else e :: mapS k v es
structure KeyTy (P : Program) (T : TypeId) (enc : α → Value) (z : Value) : Prop where
  ty : ∃ K E, P.underlying T = some (.map K E) ∧ (∀ H : Hp, rd P H (zeroValue E) = some z) ∧
    (∀ (H : Hp) (b : Bool) (k : α), rd P H (Instr.checkKey b 10000 K (enc k)) = some ()) ∧
    (∀ (H : Hp) (k : α) (es : List (α × Value)), rd P H (Instr.findKey K (enc k) (mapE enc es 0)) = some (mapF k es 0))
  same : ∀ k : α, Instr.sameBits 10000 (enc k) (enc k) = true
theorem mapF_get {k : α} : ∀ {es : List (α × Value)} {i j : Nat} {v : Value}, mapF k es i = some (j, v) → i ≤ j ∧ es[j - i]? = some (k, v)
  | [], _, _, _, h => by simp [mapF] at h
  | e :: es, i, j, v, h => by
    simp only [mapF] at h
    split at h
    · rename_i c; simp only [Option.some.injEq, Prod.mk.injEq] at h; obtain ⟨rfl, rfl⟩ := h; subst c; simp
    · obtain ⟨h1, h2⟩ := mapF_get h
      refine ⟨by omega, ?_⟩
      rw [show j - i = (j - (i + 1)) + 1 by omega, List.getElem?_cons_succ, h2]
theorem mapS_none {k : α} {v : Value} : ∀ {es : List (α × Value)} {i : Nat}, mapF k es i = none → mapS k v es = es ++ [(k, v)]
  | [], _, _ => rfl
  | e :: es, i, h => by
    simp only [mapF] at h
    split at h
    · cases h
    · rename_i c; simp [mapS, c, mapS_none h]
theorem mapS_some (enc : α → Value) {k : α} {v u : Value} : ∀ {es : List (α × Value)} {i j : Nat}, mapF k es i = some (i + j, u) →
    mapE enc (mapS k v es) i = (mapE enc es i).modify j fun e => { e with key := enc k, val := v }
  | [], _, _, h => by simp [mapF] at h
  | e :: es, i, j, h => by
    simp only [mapF] at h
    split at h
    · rename_i c
      simp only [Option.some.injEq, Prod.mk.injEq] at h
      have : j = 0 := by omega
      subst this
      simp [mapS, c, mapE]
    · rename_i c
      obtain ⟨h1, _⟩ := mapF_get h
      obtain ⟨j', rfl⟩ : ∃ j', j = j' + 1 := ⟨j - 1, by omega⟩
      simp [mapS, c, mapE]
      exact mapS_some enc (es := es) (i := i + 1) (j := j') (by rw [h, show i + (j' + 1) = i + 1 + j' by omega])
theorem mapS_len {k : α} {v u : Value} : ∀ {es : List (α × Value)} {i j : Nat}, mapF k es i = some (j, u) → (mapS k v es).length = es.length
  | [], _, _, h => by simp [mapF] at h
  | e :: es, i, j, h => by
    simp only [mapF] at h
    split at h
    · rename_i c; simp [mapS, c]
    · rename_i c; simp [mapS, c, mapS_len h]
theorem rd_getObj {P : Program} {H : Hp} {r : Nat} {o : Obj} (h : H[r]? = some o) (hc : ∀ c e f, o ≠ .cells c e f) : rd P H (getObj r) = some o := by
  unfold getObj
  cases o <;> first | (exact absurd rfl (hc _ _ _)) | simp [rd, h]
theorem lookup_rd {P : Program} {T : TypeId} {enc : α → Value} {z : Value} (ty : KeyTy P T enc z) {H : Hp} {r : Nat} {es : List (α × Value)} (h : H[r]? = some (mapO enc es)) (k : α) :
    rd P H (Instr.lookup T (.map (some r)) (enc k) false) = some ((mapG k es).getD z) := by
  obtain ⟨K, E, h1, h2, h3, h4⟩ := ty.ty
  have h5 := rd_getObj (P := P) h (by intro c e f; simp [mapO])
  unfold Instr.lookup
  simp only [rd_b, rd_underlying h1, Option.bind_some, h5, mapO, rd_p, h3, List.toList_toArray, h4]
  unfold mapG
  cases mapF k es 0 with
  | none => simp [rd_p, rd_b, h2]
  | some x => simp [rd_p, rd_b]
theorem rdm {P : Program} {α β : Type} {H : Hp} {s : Sem α} {f : α → Sem β} {a : α} {K : β → Hp → Prop} (h : rd P H s = some a) : dm P (s >>= f) H K ↔ dm P (f a) H K := by
  show dm P (s.bind f) H K ↔ _
  rw [dm_bind]; exact rd_dm s h _
theorem dm_setObj {P : Program} {H : Hp} {r : Nat} {o o' : Obj} (h : H[r]? = some o) (hc : ∀ c e f, o ≠ .cells c e f) {K : Unit → Hp → Prop} : dm P (setObj r o') H K ↔ K () (H.setIfInBounds r o') := by
  cases o <;> first | (exact absurd rfl (hc _ _ _)) | (unfold setObj; simp only [dm, h])
theorem mapUpdate_i {P : Program} {T : TypeId} {enc : α → Value} {z : Value} (ty : KeyTy P T enc z) {H : Hp} {r : Nat} {es : List (α × Value)} (h : H[r]? = some (mapO enc es)) {k : α} {v : Value} {K : Hp → Prop}
    (hk : K (H.setIfInBounds r (mapO enc (mapS k v es)))) : dm P (Instr.mapUpdate T (.map (some r)) (enc k) v) H fun _ => K := by
  obtain ⟨KT, E, h1, h2, h3, h4⟩ := ty.ty
  have nc : ∀ c e f, mapO enc es ≠ .cells c e f := by intro c e f; simp [mapO]
  have h5 := rd_getObj (P := P) h nc
  unfold Instr.mapUpdate
  rw [rdm (rd_underlying h1)]
  dsimp only
  rw [rdm h5]
  simp only [mapO]
  rw [rdm (h3 H false k)]
  rw [rdm (h4 H k es)]
  cases hf : mapF k es 0 with
  | none =>
    simp only []
    rw [dm_setObj h nc]
    have : mapO enc (mapS k v es) = .map ((mapE enc es 0).toArray.push { key := enc k, val := v, born := es.length }) (es.length + 1) := by
      rw [mapS_none hf]; simp [mapO, mapE_append, mapE]
    rw [← this]; exact hk
  | some x =>
    obtain ⟨i, u⟩ := x
    obtain ⟨_, hg⟩ := mapF_get hf
    have hke : ((((mapE enc es 0).toArray)[i]?).map (·.key)).getD (enc k) = enc k := by
      rw [List.getElem?_toArray, mapE_get]; simp at hg; simp [hg]
    simp only [hke]
    have hs : rd P H (Instr.keyThatStays (enc k) (enc k)) = some (enc k) := by unfold Instr.keyThatStays; rw [if_pos (ty.same k)]; rfl
    rw [rdm hs, dm_setObj h nc]
    have : mapO enc (mapS k v es) = .map ((mapE enc es 0).toArray.modify i fun e => { e with key := enc k, val := v }) es.length := by
      simp only [mapO, mapS_len hf]
      rw [mapS_some enc (j := i) (u := u) (by simpa using hf)]
      simp
    rw [← this]; exact hk
theorem mapEntry_i {P : Program} {T : TypeId} {enc : α → Value} {z : Value} (ty : KeyTy P T enc z) {H : Hp} {r : Nat} {es : List (α × Value)} (h : H[r]? = some (mapO enc es)) {k : α} {K : RT1}
    (hk : K (.tuple #[(mapG k es).getD z, .int .i64 (((mapF k es 0).map (·.1)).getD es.length : Nat)]) (H.setIfInBounds r (mapO enc (mapS k ((mapG k es).getD z) es)))) :
    dm P (Instr.mapEntry T (.map (some r)) (enc k)) H K := by
  obtain ⟨KT, E, h1, h2, h3, h4⟩ := ty.ty
  have nc : ∀ c e f, mapO enc es ≠ .cells c e f := by intro c e f; simp [mapO]
  have h5 := rd_getObj (P := P) h nc
  unfold Instr.mapEntry
  rw [rdm (rd_underlying h1)]
  dsimp only
  rw [rdm h5]
  simp only [mapO]
  rw [rdm (h3 H false k), rdm (h4 H k es)]
  unfold mapG at hk
  cases hf : mapF k es 0 with
  | none =>
    rw [hf] at hk
    dsimp only
    rw [rdm (h2 H)]
    show dm P (Sem.bind (setObj r _) _) H K
    rw [dm_bind, dm_setObj h nc]
    have : mapO enc (mapS k z es) = .map ((mapE enc es 0).toArray.push { key := enc k, val := z, born := es.length }) (es.length + 1) := by
      rw [mapS_none hf]; simp [mapO, mapE_append, mapE]
    rw [← this]; exact hk
  | some x =>
    rw [hf] at hk
    obtain ⟨i, u⟩ := x
    obtain ⟨_, hg⟩ := mapF_get hf
    have hg' : ((mapE enc es 0).toArray)[i]? = some { key := enc k, val := u, born := i } := by
      rw [List.getElem?_toArray, mapE_get]; simp at hg; simp [hg]
    have hs : rd P H (Instr.keyThatStays (enc k) (enc k)) = some (enc k) := by unfold Instr.keyThatStays; rw [if_pos (ty.same k)]; rfl
    simp only [hg', Option.map_some, Option.getD_some]
    rw [rdm hs]
    show dm P (Sem.bind (setObj r _) _) H K
    rw [dm_bind, dm_setObj h nc]
    have : mapO enc (mapS k u es) = .map ((mapE enc es 0).toArray.modify i fun e => { e with key := enc k }) es.length := by
      simp only [mapO, mapS_len hf]
      rw [mapS_some enc (j := i) (u := u) (by simpa using hf)]
      simp only [List.modify_toArray]
      congr 2
      apply List.ext_getElem?
      intro j
      simp only [List.getElem?_modify, mapE_get]
      by_cases e : i = j
      · subst e; simp at hg; simp [hg]
      · simp [e]
    rw [← this]; exact hk
theorem mapF_S {k : α} {v : Value} : ∀ (es : List (α × Value)) (i : Nat), mapF k (mapS k v es) i = some (((mapF k es i).map (·.1)).getD (i + es.length), v)
  | [], i => by simp [mapS, mapF]
  | e :: es, i => by
    by_cases c : e.1 = k
    · simp [mapS, mapF, c]
    · simp [mapS, mapF, c, mapF_S es (i + 1)]; congr 1; omega
theorem mapS_S {k : α} {u v : Value} : ∀ (es : List (α × Value)), mapS k v (mapS k u es) = mapS k v es
  | [] => by simp [mapS]
  | e :: es => by
    by_cases c : e.1 = k
    · simp [mapS, c]
    · simp [mapS, c, mapS_S es]
theorem entryStore_i {P : Program} {T : TypeId} {enc : α → Value} {H : Hp} {r i : Nat} {es : List (α × Value)} (h : H[r]? = some (mapO enc es)) {k : α} {u v : Value} (hf : mapF k es 0 = some (i, u)) {K : Hp → Prop}
    (hk : K (H.setIfInBounds r (mapO enc (mapS k v es)))) : dm P (Instr.entryStore T (.map (some r)) (.int .i64 i) v) H fun _ => K := by
  have nc : ∀ c e f, mapO enc es ≠ .cells c e f := by intro c e f; simp [mapO]
  have h5 := rd_getObj (P := P) h nc
  obtain ⟨_, hg⟩ := mapF_get hf
  simp at hg
  have hi : i < es.length := by apply Classical.byContradiction; intro c; simp [List.getElem?_eq_none (by omega : es.length ≤ i)] at hg
  unfold Instr.entryStore
  dsimp only
  rw [rdm h5]
  simp only [mapO]
  have hn : rd P H (asInt (.int .i64 (i : Int))) = some (i : Int) := rfl
  rw [rdm hn]
  have hx : ((mapE enc es 0).toArray).findIdx? (fun e => (e.born : Int) == (i : Int)) = some i := by
    rw [List.findIdx?_toArray, List.findIdx?_eq_some_iff_getElem]
    have hl := mapE_len enc es 0
    refine ⟨by omega, ?_, ?_⟩
    · have := mapE_get enc es 0 i
      rw [List.getElem?_eq_getElem (by omega), List.getElem?_eq_getElem hi] at this
      simp at this; simp [this]
    · intro j hj
      have := mapE_get enc es 0 j
      rw [List.getElem?_eq_getElem (by omega), List.getElem?_eq_getElem (by omega)] at this
      simp at this; simp [this]; omega
  rw [hx]
  dsimp only
  rw [dm_setObj h nc]
  have : mapO enc (mapS k v es) = .map ((mapE enc es 0).toArray.modify i fun e => { e with val := v }) es.length := by
    simp only [mapO, mapS_len hf]
    rw [mapS_some enc (j := i) (u := u) (by simpa using hf)]
    simp only [List.modify_toArray]
    congr 2
    apply List.ext_getElem?
    intro j
    simp only [List.getElem?_modify, mapE_get]
    by_cases e : i = j
    · subst e; simp [hg]
    · simp [e]
  rw [← this]; exact hk
omit [DecidableEq α] in
theorem range_i {P : Program} {T KT E : TypeId} (ht : P.underlying T = some (.map KT E)) {enc : α → Value} {H : Hp} {r : Nat} {es : List (α × Value)} (h : H[r]? = some (mapO enc es)) {K : RT1}
    (hk : K (.pointer (some ⟨H.size, 0, none⟩)) (H.push (.mapIter (some r) es.length #[] es.length))) : dm P (Instr.range T (.map (some r))) H K := by
  have h5 := rd_getObj (P := P) h (by intro c e f; simp [mapO])
  unfold Instr.range
  rw [rdm (rd_underlying ht)]
  dsimp only
  rw [rdm h5]
  simp only [mapO]
  rw [rdm (rd_p _)]
  exact hk
omit [DecidableEq α] in
theorem entry_rd {P : Program} {enc : α → Value} {H : Hp} {r m i n : Nat} {sn : Array Nat} {es : List (α × Value)} (h : H[m]? = some (mapO enc es)) (hi : i < es.length)
    (hr : H[r]? = some (.mapIter (some m) n (sn.push i) es.length)) : rd P H (Instr.entry (.pointer (some ⟨r, 0, none⟩))) = some (.tuple #[enc es[i].1, es[i].2]) := by
  have h5 := rd_getObj (P := P) h (by intro c e f; simp [mapO])
  have h6 := rd_getObj (P := P) hr (by intro c e f; simp)
  unfold Instr.entry
  simp only [rd_b, h6, Option.bind_some, Array.back?_push, h5, mapO, rd_p]
  have hx : ((mapE enc es 0).toArray).find? (fun e => e.born == i) = some { key := enc es[i].1, val := es[i].2, born := i } := by
    rw [List.find?_toArray]
    rw [List.find?_eq_some_iff_getElem]
    have hl := mapE_len enc es 0
    refine ⟨by simp, i, by omega, ?_, ?_⟩
    · have := mapE_get enc es 0 i
      rw [List.getElem?_eq_getElem (by omega), List.getElem?_eq_getElem hi] at this
      simpa using this
    · intro j hj
      have := mapE_get enc es 0 j
      rw [List.getElem?_eq_getElem (by omega), List.getElem?_eq_getElem (by omega)] at this
      simp at this; simp [this]; omega
  simp [hx, rd_p]
theorem dm_next {P : Program} {β : Type} {H : Hp} {n : Nat} (hn : 0 < n) {f : Nat → Sem β} {K : β → Hp → Prop} (h : ∀ i, i < n → dm P (f i) H K) : dm P (choose (.mapNext n) >>= f) H K := by
  show dm P (Sem.bind (choose (.mapNext n)) f) H K
  rw [dm_bind]
  unfold choose
  simp only [dm]
  split
  · exact h 0 hn
  · intro t; exact h _ (Nat.mod_lt _ hn)
omit [DecidableEq α] in
theorem next_i {P : Program} {T : TypeId} {enc : α → Value} {H : Hp} {r m : Nat} {sn : Array Nat} {es : List (α × Value)} (h : H[m]? = some (mapO enc es))
    (hr : H[r]? = some (.mapIter (some m) es.length sn es.length)) {K : RT1}
    (h0 : (∀ i, i < es.length → i ∈ sn) → K (.tuple #[.bool false]) H)
    (h1 : ∀ i (hi : i < es.length), i ∉ sn → K (.tuple #[.bool true, enc es[i].1, es[i].2]) (H.setIfInBounds r (.mapIter (some m) es.length (sn.push i) es.length))) :
    dm P (Instr.next (.pointer (some ⟨r, 0, none⟩)) false T) H K := by
  have h5 := rd_getObj (P := P) h (by intro c e f; simp [mapO])
  have nc : ∀ c e f, (Obj.mapIter (some m) es.length sn es.length) ≠ .cells c e f := by intro c e f; simp
  have h6 := rd_getObj (P := P) hr nc
  have hb : ∀ e ∈ mapE enc es 0, ∃ i, ∃ hi : i < es.length, e = { key := enc es[i].1, val := es[i].2, born := i } := by
    intro e he
    obtain ⟨i, hi, rfl⟩ := List.getElem_of_mem he
    rw [mapE_len] at hi
    refine ⟨i, hi, ?_⟩
    have := mapE_get enc es 0 i
    rw [List.getElem?_eq_getElem (by rw [mapE_len]; omega), List.getElem?_eq_getElem hi] at this
    simpa using this
  have hall : (!sn.isEmpty && !((mapE enc es 0).toArray).isEmpty && ((mapE enc es 0).toArray).all (fun e => decide (e.born ≥ es.length))) = false := by
    cases es with
    | nil => simp [mapE]
    | cons e es => simp [mapE]
  unfold Instr.next
  show dm P (Sem.bind (getObj r) _) H K
  rw [dm_bind, rd_dm _ h6]
  show dm P (Sem.bind (getObj m) _) H K
  rw [dm_bind, rd_dm _ h5]
  simp only [mapO]
  rw [hall]
  simp only [Bool.false_eq_true, if_false]
  have hold : (((mapE enc es 0).toArray.filter fun e => !sn.contains e.born).filter fun e => decide (e.born < es.length)) = ((mapE enc es 0).toArray.filter fun e => !sn.contains e.born) := by
    simp only [List.filter_toArray, List.filter_filter]
    congr 1
    apply List.filter_congr
    intro e he
    obtain ⟨i, hi, rfl⟩ := hb e he
    simp [hi]
  have hnew : (((mapE enc es 0).toArray.filter fun e => !sn.contains e.born).filter fun e => decide (e.born ≥ es.length)) = #[] := by
    simp only [List.filter_toArray, List.filter_filter]
    congr 1
    rw [List.filter_eq_nil_iff]
    intro e he
    obtain ⟨i, hi, rfl⟩ := hb e he
    simp; intro h; omega
  rw [hold, hnew]
  generalize hl : ((mapE enc es 0).toArray.filter fun e => !sn.contains e.born) = left
  have hleft : ∀ e ∈ left, ∃ i, ∃ hi : i < es.length, e = { key := enc es[i].1, val := es[i].2, born := i } ∧ i ∉ sn := by
    intro e he
    rw [← hl] at he
    simp only [List.filter_toArray, List.mem_toArray, List.mem_filter] at he
    obtain ⟨i, hi, rfl⟩ := hb e he.1
    exact ⟨i, hi, rfl, by simpa using he.2⟩
  by_cases he : left = #[]
  · subst he
    refine dm_next (by simp) fun i hi => ?_
    have : i = 0 := by simpa using hi
    subst this
    suffices hs : ∀ i, i < es.length → i ∈ sn by
      have h00 := h0 hs
      simp only [Array.isEmpty_empty, if_true, Array.append_empty, Array.map_empty]
      exact h00
    intro i hi
    apply Classical.byContradiction
    intro c
    have hm : ({ key := enc es[i].1, val := es[i].2, born := i } : MapEntry) ∈ ((mapE enc es 0).toArray.filter fun e => !sn.contains e.born) := by
      simp only [List.filter_toArray, List.mem_toArray, List.mem_filter]
      refine ⟨?_, by simpa using c⟩
      have := mapE_get enc es 0 i
      rw [List.getElem?_eq_getElem hi] at this
      exact List.mem_of_getElem? (by simpa using this)
    rw [hl] at hm; simp at hm
  · have hne : left.isEmpty = false := by simpa using he
    simp only [hne, Bool.false_eq_true, if_false, Array.append_empty, Array.empty_append]
    have hsz : 0 < left.size := by rcases Nat.eq_zero_or_pos left.size with z | z; exact absurd (Array.eq_empty_of_size_eq_zero z) he; exact z
    refine dm_next (by simpa using hsz) fun i hi => ?_
    have hi' : i < left.size := by simpa using hi
    have hg : (left.map some)[i]? = some (some left[i]) := by simp [hi']
    rw [hg]
    dsimp only
    obtain ⟨j, hj, hx, hns⟩ := hleft left[i] (by simp)
    show dm P (Sem.bind (setObj r _) _) H K
    rw [dm_bind, dm_setObj hr nc, hx]
    exact h1 j hj hns
end Go.NW
namespace Go.Proofs
open Go Go.NW Go.Pm
set_option maxRecDepth 20000
set_option linter.unusedSimpArgs false
set_option linter.unusedVariables false
namespace YtacidjifocfhkaaGreatDoor
/-- nothing of another colour has turned -/
structure Mod (R : Rl → Bool) (H : Hp) (col : Nat → Rl) (H' : Hp) : Prop where
  size : H.size ≤ H'.size
  same : ∀ x, x < H.size → R (col x) = false → H'[x]? = H[x]?
theorem Mod.refl (R : Rl → Bool) (H : Hp) (col : Nat → Rl) : Mod R H col H := ⟨Nat.le_refl _, fun _ _ _ => rfl⟩
theorem Mod.trans {R : Rl → Bool} {A B C : Hp} {col col' : Nat → Rl} (h : Mod R A col B) (s : Same A col col') (k : Mod R B col' C) : Mod R A col C :=
  ⟨Nat.le_trans h.size k.size, fun x hx hr => (k.same x (Nat.lt_of_lt_of_le hx h.size) (by rw [s x hx]; exact hr)).trans (h.same x hx hr)⟩
theorem Mod.mono {R R' : Rl → Bool} {A B : Hp} {col : Nat → Rl} (h : Mod R A col B) (hr : ∀ r, R r = true → R' r = true) : Mod R' A col B :=
  ⟨h.size, fun x hx h' => h.same x hx (by cases hc : R (col x) with | false => rfl | true => rw [hr _ hc] at h'; cases h')⟩
theorem Mod.of {S : List Nat} {R : Rl → Bool} {A B : Hp} {col : Nat → Rl} (h : Ext S A B) (hs : ∀ x ∈ S, x < A.size → R (col x) = true) : Mod R A col B :=
  ⟨h.size, fun x hx hr => h.same x hx fun hm => by rw [hs x hm hx] at hr; cases hr⟩
/-- the places that may turn -/
def setOf (R : Rl → Bool) (H : Hp) (col : Nat → Rl) : List Nat := (List.range H.size).filter fun x => R (col x)
theorem setOf_col {R : Rl → Bool} {H : Hp} {col : Nat → Rl} {x : Nat} (h : x ∈ setOf R H col) : R (col x) = true := by simp [setOf] at h; exact h.2
theorem Mod.ext {R : Rl → Bool} {A B : Hp} {col : Nat → Rl} (h : Mod R A col B) : Ext (setOf R A col) A B :=
  ⟨h.size, fun x hx hn => h.same x hx (by cases hc : R (col x) with | false => rfl | true => exact (hn (by simp [setOf, hx, hc])).elim)⟩
def Rl.isPart (i : Nat) : Rl → Bool
  | .part j | .cache j | .sets j | .ents j | .map j | .lone j _ | .lost j => i == j
  | _ => false
def Rl.isNet : Rl → Bool
  | .net | .msgs => true
  | _ => false
def encI (k : Int) : Value := .int .i64 k
theorem findNow_int (k : Int) : ∀ (es : List (Int × Value)) (i : Nat), Instr.findNow (.int .i64) (encI k) (mapE encI es i) i = some (mapF k es i)
  | [], _ => rfl
  | e :: es, i => by
    by_cases c : k = e.1
    · simp [mapE, Instr.findNow, Instr.sameNow, encI, mapF, c]
    · have c' : ¬ e.1 = k := fun h => c h.symm
      have := findNow_int k es (i + 1)
      have ce : (k == e.1) = false := by simpa using c
      simp only [mapE, Instr.findNow, Instr.sameNow, encI, mapF, if_true, ce, if_neg c'] at this ⊢
      exact this
theorem key_103 : KeyTy Tryz.prog 103 encI (.pointer none) where
  ty := by
    refine ⟨3, 111, by kernel_rfl, ?_, ?_, ?_⟩
    · intro H
      have hi : (Tryz.prog).info? 111 = some Tryz.t111 := by kernel_rfl
      have hz : Tryz.t111.zero = some (.pointer none) := by kernel_rfl
      simp only [zeroValue, rd_b, rd_typeInfo hi, Option.bind_some, hz]; rfl
    · intro H b k
      show rd Tryz.prog H (Instr.checkKey b (9999 + 1) 3 (encI k)) = _
      unfold Instr.checkKey
      simp only [rd_b, rd_underlying und_3, Option.bind_some, encI]
      rfl
    · intro H k es
      unfold Instr.findKey
      simp only [rd_b, rd_underlying und_3, Option.bind_some, findNow_int k es 0]
      rfl
  same := by intro k; simp [encI, Instr.sameBits]
structure MapAt (H : Hp) (col : Nat → Rl) (i bm : Nat) (lines : List (Option Lone)) (order : List Int) (bl : Int → Nat) : Prop where
  cm : col bm = .map i
  ob : H[bm]? = some (mapO encI (order.map fun k => (k, at0 (bl k))))
  nd : order.Nodup
  ks : ∀ k, k ∈ order ↔ 0 ≤ k ∧ ∃ l, lines[k.toNat]? = some (some l)
  ln : ∀ k l, 0 ≤ k → lines[k.toNat]? = some (some l) → col (bl k) = .lone i k.toNat ∧ blk H (bl k) (loneC l)
theorem mapF_order (bl : Int → Nat) (k : Int) : ∀ (order : List Int) (i : Nat), (mapF k (order.map fun k => (k, at0 (bl k))) i).map (·.2) = if k ∈ order then some (at0 (bl k)) else none
  | [], _ => by simp [mapF]
  | x :: xs, i => by
    simp only [List.map_cons, mapF, List.mem_cons]
    by_cases c : x = k
    · subst c; simp
    · rw [if_neg c, mapF_order bl k xs (i + 1)]
      have : ¬ k = x := fun h => c h.symm
      simp [this]
theorem mapS_order (bl : Int → Nat) (k : Int) (b : Nat) : ∀ (order : List Int), order.Nodup → mapS k (at0 b) (order.map fun k => (k, at0 (bl k))) = (if k ∈ order then order else order ++ [k]).map fun x => (x, at0 (if x = k then b else bl x))
  | [], _ => by simp [mapS]
  | x :: xs, hn => by
    have hx := List.nodup_cons.1 hn
    simp only [List.map_cons, mapS, List.mem_cons]
    by_cases c : x = k
    · subst c
      simp only [if_true, true_or, List.map_cons, List.cons.injEq, true_and]
      apply List.map_congr_left
      intro y hy
      have : ¬ y = x := fun e => hx.1 (e ▸ hy)
      simp [this]
    · rw [if_neg c, mapS_order bl k b xs hx.2]
      have c' : ¬ k = x := fun h => c h.symm
      by_cases hk : k ∈ xs
      · simp [hk, c, c']
      · simp [hk, c, c']
theorem MapAt.lt {H : Hp} {col : Nat → Rl} {i bm : Nat} {lines : List (Option Lone)} {order : List Int} {bl : Int → Nat} (m : MapAt H col i bm lines order bl) : bm < H.size := get_lt m.ob
theorem MapAt.ext {S : List Nat} {H H' : Hp} {col col' : Nat → Rl} {i bm : Nat} {lines : List (Option Lone)} {order : List Int} {bl : Int → Nat} (m : MapAt H col i bm lines order bl) (e : Ext S H H') (hc : Same H col col')
    (hS : ∀ x ∈ S, x < H.size → (col x).isPart i = false) : MapAt H' col' i bm lines order bl := by
  have l0 := m.lt
  obtain ⟨cm, ob, nd, ks, ln⟩ := m
  refine ⟨(hc _ l0).trans cm, ?_, nd, ks, ?_⟩
  · rw [e.same _ l0 fun hm => by have := hS _ hm l0; rw [cm] at this; simp [Rl.isPart] at this]; exact ob
  · intro k l hk hl
    obtain ⟨h1, h2⟩ := ln k l hk hl
    have l1 := h2.lt
    exact ⟨(hc _ l1).trans h1, h2.ext e fun hm => by have := hS _ hm l1; rw [h1] at this; simp [Rl.isPart] at this⟩
structure PartAt (H : Hp) (col : Nat → Rl) (i bp : Nat) (p : Part) : Prop where
  cb : col bp = .part i
  ex : ∃ (bc bs bm : Nat) (lv : Value) (order : List Int) (bl : Int → Nat),
    blk H bp #[at0 bc, .map (some bm), lv] ∧ CacheAt H col i bc bs p.cache ∧ MapAt H col i bm p.lines order bl ∧ SlR H col (.lost i) 1 lv (intsC p.lost)
theorem PartAt.lt {H : Hp} {col : Nat → Rl} {i bp : Nat} {p : Part} (k : PartAt H col i bp p) : bp < H.size := by
  obtain ⟨_, bc, bs, bm, lv, order, bl, kb, _⟩ := k; exact kb.lt
theorem PartAt.ext {S : List Nat} {H H' : Hp} {col col' : Nat → Rl} {i bp : Nat} {p : Part} (k : PartAt H col i bp p) (e : Ext S H H') (hc : Same H col col')
    (hS : ∀ x ∈ S, x < H.size → (col x).isPart i = false) : PartAt H' col' i bp p := by
  have l0 := k.lt
  obtain ⟨cb, bc, bs, bm, lv, order, bl, kb, kc, km, ks⟩ := k
  refine ⟨(hc _ l0).trans cb, bc, bs, bm, lv, order, bl, kb.ext e fun hm => ?_, kc.ext e hc fun x hx hl => ?_, km.ext e hc hS, ks.ext e hc fun x hx hl => ?_⟩
  · have := hS _ hm l0; rw [cb] at this; simp [Rl.isPart] at this
  · have := hS x hx hl
    refine ⟨fun h => ?_, fun h => ?_, fun h => ?_⟩ <;> rw [h] at this <;> simp [Rl.isPart] at this
  · intro h; have := hS x hx hl; rw [h] at this; simp [Rl.isPart] at this
theorem PartAt.mod {R : Rl → Bool} {H H' : Hp} {col col' : Nat → Rl} {i bp : Nat} {p : Part} (k : PartAt H col i bp p) (e : Mod R H col H') (hc : Same H col col') (hR : ∀ r, R r = true → r.isPart i = false) : PartAt H' col' i bp p :=
  k.ext e.ext hc fun x hx _ => hR _ (setOf_col hx)
theorem PartAt.ext0 {H H' : Hp} {col col' : Nat → Rl} {i bp : Nat} {p : Part} (k : PartAt H col i bp p) (e : Ext [] H H') (hc : Same H col col') : PartAt H' col' i bp p := k.ext e hc (by simp)
/-- where a part's line lies -/
def IsLone (H : Hp) (bp : Nat) (k : Int) (b : Nat) : Prop := ∃ bm, cellAt H ⟨bp, 1, none⟩ = some (.map (some bm)) ∧ rd Tryz.prog H (Instr.lookup 103 (.map (some bm)) (.int .i64 k) false) = some (at0 b)
theorem PartAt.lone {H : Hp} {col : Nat → Rl} {i bp b : Nat} {p : Part} {k : Int} {l : Lone} (pa : PartAt H col i bp p) (hk : 0 ≤ k) (hl : p.line k = some l) (hb : IsLone H bp k b) :
    col b = .lone i k.toNat ∧ blk H b (loneC l) ∧ ∀ H' l', Ext [b] H H' → blk H' b (loneC l') → PartAt H' col i bp (p.setLine k l') := by
  have l0 := pa.lt
  obtain ⟨cb, bc, bs, bm, lv, order, bl, kb, kc, km, ks⟩ := pa
  have hl' : p.lines[k.toNat]? = some (some l) := by
    unfold Part.line at hl
    rw [List.getD_eq_getElem?_getD] at hl
    cases hx : p.lines[k.toNat]? with
    | none => rw [hx] at hl; cases hl
    | some o => rw [hx] at hl; simp at hl; rw [hl]
  obtain ⟨bm', h1, h2⟩ := hb
  have : bm' = bm := by rw [kb.cell] at h1; simp at h1; exact h1.symm
  subst this
  obtain ⟨c1, c2⟩ := km.ln k l hk hl'
  have hm : k ∈ order := (km.ks k).2 ⟨hk, l, hl'⟩
  have hbb : b = bl k := by
    have e := lookup_rd key_103 km.ob k
    rw [show encI k = Value.int .i64 k from rfl, h2] at e
    unfold mapG at e
    rw [mapF_order, if_pos hm] at e
    simpa using e
  subst hbb
  refine ⟨c1, c2, fun H' l' e k' => ⟨cb, bc, bs, bm', lv, order, bl, kb.ext e ?_, kc.ext e (Same.refl _ _) ?_, ⟨km.cm, ?_, km.nd, ?_, ?_⟩, ks.ext e (Same.refl _ _) ?_⟩⟩
  · simp; intro h; rw [h, c1] at cb; cases cb
  · intro x hx _; simp at hx; subst hx; rw [c1]; simp
  · rw [e.same _ km.lt (by simp; intro h; have := km.cm; rw [h, c1] at this; cases this)]; exact km.ob
  · intro x
    rw [km.ks x]
    simp only [Part.setLine, List.getElem?_set]
    by_cases hx : k.toNat = x.toNat
    · rw [if_pos hx]
      have hlt : k.toNat < p.lines.length := (List.getElem?_eq_some_iff.1 hl').1
      constructor
      · rintro ⟨h0, _⟩; exact ⟨h0, l', by simp [hlt]⟩
      · rintro ⟨h0, _⟩; exact ⟨h0, l, by rw [← hx]; exact hl'⟩
    · rw [if_neg hx]
  · intro x lx hx0 hx
    simp only [Part.setLine, List.getElem?_set] at hx
    by_cases hxk : k.toNat = x.toNat
    · rw [if_pos hxk] at hx
      have hlt : k.toNat < p.lines.length := (List.getElem?_eq_some_iff.1 hl').1
      rw [if_pos hlt] at hx
      simp at hx
      have : x = k := by omega
      subst this; subst hx
      exact ⟨c1, k'⟩
    · rw [if_neg hxk] at hx
      obtain ⟨d1, d2⟩ := km.ln x lx hx0 hx
      refine ⟨d1, d2.ext e ?_⟩
      simp; intro h; rw [h, c1] at d1; simp at d1; exact hxk d1
  · intro x hx _; simp at hx; subst hx; rw [c1]; simp
theorem PartAt.isLone {S : List Nat} {H H' : Hp} {col : Nat → Rl} {i bp b : Nat} {p : Part} {k : Int} (pa : PartAt H col i bp p) (e : Ext S H H') (hS : ∀ x ∈ S, x < H.size → col x ≠ .part i ∧ col x ≠ .map i) (h : IsLone H bp k b) : IsLone H' bp k b := by
  have l0 := pa.lt
  obtain ⟨cb, bc, bs, bm, lv, order, bl, kb, kc, km, ks⟩ := pa
  obtain ⟨bm', h1, h2⟩ := h
  have : bm' = bm := by rw [kb.cell] at h1; simp at h1; exact h1.symm
  subst this
  have ob' : H'[bm']? = some (mapO encI (order.map fun k => (k, at0 (bl k)))) := by
    rw [e.same _ km.lt fun hm => (hS _ hm km.lt).2 km.cm]; exact km.ob
  refine ⟨bm', ?_, ?_⟩
  · rw [(kb.ext e fun hm => (hS _ hm l0).1 cb).cell]; rfl
  · have e1 := lookup_rd key_103 km.ob k
    have e2 := lookup_rd key_103 ob' k
    rw [show encI k = Value.int .i64 k from rfl] at e1 e2
    rw [e2, ← e1, h2]
/-- the line of a number, as the code reads it -/
theorem PartAt.look {H : Hp} {col : Nat → Rl} {i bp : Nat} {p : Part} (pa : PartAt H col i bp p) {k : Int} (hk : 0 ≤ k) :
    ∃ bm, cellAt H ⟨bp, 1, none⟩ = some (.map (some bm)) ∧
      ((p.line k = none ∧ rd Tryz.prog H (Instr.lookup 103 (.map (some bm)) (.int .i64 k) false) = some (.pointer none)) ∨
        ∃ l b, p.line k = some l ∧ rd Tryz.prog H (Instr.lookup 103 (.map (some bm)) (.int .i64 k) false) = some (at0 b) ∧ IsLone H bp k b) := by
  obtain ⟨cb, bc, bs, bm, lv, order, bl, kb, kc, km, ks⟩ := pa
  have hc : cellAt H ⟨bp, 1, none⟩ = some (.map (some bm)) := by rw [kb.cell]; rfl
  refine ⟨bm, hc, ?_⟩
  have e1 := lookup_rd key_103 km.ob k
  rw [show encI k = Value.int .i64 k from rfl] at e1
  unfold mapG at e1
  rw [mapF_order] at e1
  unfold Part.line
  rw [List.getD_eq_getElem?_getD]
  by_cases hm : k ∈ order
  · obtain ⟨_, l, hl⟩ := (km.ks k).1 hm
    rw [if_pos hm] at e1
    exact .inr ⟨l, bl k, by rw [hl]; rfl, e1, bm, hc, e1⟩
  · rw [if_neg hm] at e1
    refine .inl ⟨?_, e1⟩
    cases hx : p.lines[k.toNat]? with
    | none => rfl
    | some o =>
      cases o with
      | none => rfl
      | some l => exact (hm ((km.ks k).2 ⟨hk, l, hx⟩)).elim
theorem line_45 {H : Hp} {col : Nat → Rl} {i bp : Nat} {p : Part} {k : Int} {Q : RT1} (pa : PartAt H col i bp p) (hk : 0 ≤ k)
    (hn : p.line k = none → Q (.pointer none) H) (hs : ∀ l b, p.line k = some l → IsLone H bp k b → Q (at0 b) H) : NCalls Tryz.prog 45 #[at0 bp, .int .i64 k] H Q := by
  refine E45 ?_
  unfold F45_0
  obtain ⟨bm, hc, h | ⟨l, b, h1, h2, h3⟩⟩ := pa.look hk
  · simp -implicitDefEqProofs [hc, h.2]; exact hn h.1
  · simp -implicitDefEqProofs [hc, h2]; exact hs l b h1 h3
end YtacidjifocfhkaaGreatDoor
end Go.Proofs
namespace Go.Proofs
open Go Go.NW Go.Pm
set_option maxRecDepth 20000
set_option linter.unusedSimpArgs false
set_option linter.unusedVariables false
namespace YtacidjifocfhkaaGreatDoor
theorem setObj_ext {H : Hp} {r : Nat} {o : Obj} (S : List Nat) (hr : r ∈ S) : Ext S H (H.setIfInBounds r o) :=
  ⟨by simp, fun i hi hn => by rw [Array.getElem?_setIfInBounds, if_neg (fun e : r = i => hn (e ▸ hr))]⟩
theorem PartAt.put {H : Hp} {col : Nat → Rl} {i bp b : Nat} {p : Part} {k : Int} {l' : Lone} (pa : PartAt H col i bp p) (hk : 0 ≤ k) (hkl : k.toNat < p.lines.length) (cb' : col b = .lone i k.toNat) (hb : blk H b (loneC l')) :
    ∃ bm, cellAt H ⟨bp, 1, none⟩ = some (.map (some bm)) ∧ col bm = .map i ∧ ∀ K : Hp → Prop, (∀ H', Ext [bm] H H' → H'.size = H.size → PartAt H' col i bp (p.setLine k l') → IsLone H' bp k b → K H') →
      dm Tryz.prog (Instr.mapUpdate 103 (.map (some bm)) (.int .i64 k) (at0 b)) H fun _ => K := by
  have l0 := pa.lt
  obtain ⟨cb, bc, bs, bm, lv, order, bl, kb, kc, km, ks⟩ := pa
  refine ⟨bm, by rw [kb.cell]; rfl, km.cm, fun K hK => ?_⟩
  refine mapUpdate_i key_103 (k := k) km.ob ?_
  have lm := km.lt
  rw [mapS_order bl k b order km.nd]
  have e : Ext [bm] H (H.setIfInBounds bm (mapO encI ((if k ∈ order then order else order ++ [k]).map fun x => (x, at0 (if x = k then b else bl x))))) := setObj_ext _ (by simp)
  have ob' : (H.setIfInBounds bm (mapO encI ((if k ∈ order then order else order ++ [k]).map fun x => (x, at0 (if x = k then b else bl x)))))[bm]? = some (mapO encI ((if k ∈ order then order else order ++ [k]).map fun x => (x, at0 (if x = k then b else bl x)))) := by
    rw [Array.getElem?_setIfInBounds]; simp [lm]
  have hcell : ∀ H', Ext [bm] H H' → blk H' bp #[at0 bc, .map (some bm), lv] := fun H' e => kb.ext e (by simp; intro h; have := km.cm; rw [← h, cb] at this; cases this)
  refine hK _ e (by simp) ⟨cb, bc, bs, bm, lv, _, fun x => if x = k then b else bl x, hcell _ e, kc.ext e (Same.refl _ _) ?_, ⟨km.cm, ob', ?_, ?_, ?_⟩, ks.ext e (Same.refl _ _) ?_⟩ ⟨bm, by rw [(hcell _ e).cell]; rfl, ?_⟩
  · intro x hx _; simp at hx; subst hx; rw [km.cm]; simp
  · split
    · exact km.nd
    · rename_i h
      rw [List.nodup_append]
      exact ⟨km.nd, by simp, by intro x hx y hy; simp at hy; subst hy; intro he; exact h (he ▸ hx)⟩
  · intro x
    have hx := km.ks x
    simp only [Part.setLine, List.getElem?_set]
    by_cases hxk : x = k
    · subst hxk
      constructor
      · intro _; exact ⟨hk, l', by simp [hkl]⟩
      · intro _; split
        · assumption
        · simp
    · have hmem : (x ∈ if k ∈ order then order else order ++ [k]) ↔ x ∈ order := by split <;> simp [hxk]
      rw [hmem, hx]
      constructor
      · rintro ⟨h0, l, hl⟩
        have : ¬ k.toNat = x.toNat := by omega
        exact ⟨h0, l, by rw [if_neg this]; exact hl⟩
      · rintro ⟨h0, l, hl⟩
        have : ¬ k.toNat = x.toNat := by omega
        rw [if_neg this] at hl
        exact ⟨h0, l, hl⟩
  · intro x l hx0 hl
    simp only [Part.setLine, List.getElem?_set] at hl
    by_cases hxk : k.toNat = x.toNat
    · rw [if_pos hxk, if_pos hkl] at hl
      simp at hl
      have : x = k := by omega
      subst this; subst hl
      rw [if_pos rfl]
      exact ⟨cb', hb.ext e (by simp; intro h; rw [h, km.cm] at cb'; cases cb')⟩
    · rw [if_neg hxk] at hl
      have hxk' : ¬ x = k := by intro h; subst h; exact hxk rfl
      rw [if_neg hxk']
      obtain ⟨d1, d2⟩ := km.ln x l hx0 hl
      exact ⟨d1, d2.ext e (by simp; intro h; rw [h, km.cm] at d1; cases d1)⟩
  · intro x hx _; simp at hx; subst hx; rw [km.cm]; simp
  · have e1 := lookup_rd key_103 ob' k
    rw [show encI k = Value.int .i64 k from rfl] at e1
    rw [e1]
    unfold mapG
    rw [mapF_order (fun x => if x = k then b else bl x)]
    have : k ∈ if k ∈ order then order else order ++ [k] := by split <;> simp_all
    simp [this]
theorem setLine_same {p : Part} {k : Int} {l : Lone} (h : p.line k = some l) : p.setLine k l = p := by
  unfold Part.setLine
  unfold Part.line at h
  rw [List.getD_eq_getElem?_getD] at h
  have : p.lines.set k.toNat (some l) = p.lines := by
    apply List.ext_getElem?
    intro j
    rw [List.getElem?_set]
    by_cases c : k.toNat = j
    · subst c
      rw [if_pos rfl]
      cases hx : p.lines[k.toNat]? with
      | none => rw [hx] at h; cases h
      | some o => rw [hx] at h; simp at h; subst h; rw [if_pos (List.getElem?_eq_some_iff.1 hx).1]
    · rw [if_neg c]
  rw [this]
theorem found_50 {H : Hp} {col : Nat → Rl} {i bp : Nat} {p : Part} {k h : Int} {Q : RT1} (pa : PartAt H col i bp p) (hk : 0 ≤ k) (hkl : k.toNat < p.lines.length)
    (hq : ∀ H' col' b, Mod (Rl.isPart i) H col H' → Same H col col' → PartAt H' col' i bp (p.setLine k ((p.line k).getD { line := k, hart := h })) → IsLone H' bp k b → Q (at0 b) H') :
    NCalls Tryz.prog 50 #[at0 bp, .int .i64 k, .int .i64 h] H Q := by
  refine E50 ?_
  unfold F50_0 F50_4 F50_1 F50_3
  obtain ⟨bm, hc, hh⟩ := pa.look hk
  rcases hh with ⟨hn, hlk⟩ | ⟨l, b, h1, h2, h3⟩
  · simp -implicitDefEqProofs [hc, hlk]
    refine New_lone fun H1 b hb e1 k1 => ?_
    have hbs : H.size ≤ b := by omega
    have pa1 : PartAt H1 (recol col b (.lone i k.toNat)) i bp p := pa.ext0 e1 (Same.recol hbs)
    obtain ⟨bm', hc1, cm', hput⟩ := pa1.put hk hkl (b := b) (l' := { line := k, hart := h }) (by simp [recol]) k1
    have hc0 : cellAt H1 ⟨bp, 1, none⟩ = some (.map (some bm)) := by
      have l0 := pa.lt
      obtain ⟨_, _, _, _, _, _, _, kb, _⟩ := pa
      rw [(kb.ext e1 (by simp)).cell, ← kb.cell]; exact hc
    have : bm' = bm := by rw [hc0] at hc1; simpa using hc1.symm
    subst this
    refine ⟨hc0, ?_⟩
    refine hput _ fun H2 e2 s2 pa2 il2 => ?_
    unfold F50_2
    obtain ⟨bm2, hc2, hl2⟩ := id il2
    simp -implicitDefEqProofs [hc2, hl2]
    refine hq H2 (recol col b (.lone i k.toNat)) b ((Mod.of e1 (by simp)).trans (col' := recol col b (.lone i k.toNat)) (Same.recol hbs) (Mod.of e2 (by intro x hx _; simp at hx; subst hx; rw [cm']; simp [Rl.isPart]))) (Same.recol hbs) ?_ il2
    rw [hn]; exact pa2
  · simp -implicitDefEqProofs [hc, h2]
    unfold F50_2
    simp -implicitDefEqProofs [hc, h2]
    refine hq H col b (Mod.refl _ _ _) (Same.refl _ _) ?_ h3
    rw [h1, Option.getD_some, setLine_same h1]; exact pa
theorem SlR.blk1 {H : Hp} {col : Nat → Rl} {r : Rl} {n : Nat} {s : Value} {xs : List (List Value)} (h : SlR H col r n s xs) (z : Nat) : ∃ b, Slc H n s xs b ∧ ((b < H.size ∧ col b = r) ∨ (b = z ∧ xs = [])) := by
  rcases h with ⟨rfl, rfl⟩ | ⟨b, hb, hr, h⟩
  · exact ⟨z, Slc.nil H n z, .inr ⟨rfl, rfl⟩⟩
  · exact ⟨b, h, .inl ⟨hb, hr⟩⟩
theorem lose_83 {H : Hp} {col : Nat → Rl} {i bp : Nat} {p : Part} {k : Int} {Q : RT1} (pa : PartAt H col i bp p) (hso : p.lost.Pairwise (· < ·)) (hl : p.lost.length ≤ 2 ^ 19)
    (hq : ∀ H' col', Mod (Rl.isPart i) H col H' → Same H col col' → PartAt H' col' i bp (p.lose k) → (∀ x b, IsLone H bp x b → IsLone H' bp x b) → Q (.tuple #[]) H') : NCalls Tryz.prog 83 #[at0 bp, .int .i64 k] H Q := by
  have l0 := pa.lt
  refine E83 ?_
  unfold F83_0
  obtain ⟨cb, bc, bs, bm, lv, order, bl, kb, kc, km, ks⟩ := id pa
  have hc2 : cellAt H ⟨bp, 2, none⟩ = some lv := by rw [kb.cell]; rfl
  obtain ⟨b, hs, hbb⟩ := ks.blk1 (H.size + 1)
  simp -implicitDefEqProofs [hc2]
  refine BinarySearch_114 hs (by omega) hso fun j hj t1 t2 => ?_
  by_cases hm : k ∈ p.lost
  · simp -implicitDefEqProofs [hm]
    refine hq H col (Mod.refl _ _ _) (Same.refl _ _) ?_ (fun _ _ h => h)
    simpa [Part.lose, hm] using pa
  · simp -implicitDefEqProofs [hm, hc2]
    refine Bsl_i (cells := #[.int .i64 k]) (by kernel_rfl) fun H1 b1 hb1 e1 s1 k1 => ?_
    have hx : Slc H1 1 (.slice (some ⟨b1, 0, none⟩) 1 1) (intsC [k]) b1 := Slc.of (xs := intsC [k]) (c := _) (by simp [intsC]) k1 (by simp [intsC]) (by simp) (by simp [intsC])
    refine Insert_115 (hs.ext e1 (by simp)) hx (by omega) hj hl fun H2 v2 b2 e2 k2 hb2 => ?_
    have z1 := e1.size
    have z2 := e2.size
    have hE : Ext [b] H H2 := (e1.mono (by simp)).trans e2
    have hbl : b < H.size → col b = .lost i := by intro h; rcases hbb with h' | h'; exact h'.2; omega
    have l2 : b2 < H2.size := k2.lt (by simp [intsC])
    have hpw : ∃ col', Same H col col' ∧ col' b2 = .lost i := by
      by_cases hlt : b2 < H.size
      · have : b2 = b := by omega
        subst this
        exact ⟨col, Same.refl _ _, hbl hlt⟩
      · exact ⟨recol col b2 (.lost i), Same.recol (by omega), by simp [recol]⟩
    obtain ⟨col', hsame, hc'⟩ := hpw
    have hnb : bp ≠ b := by intro h; have := hbl (h ▸ l0); rw [← h, cb] at this; cases this
    have kb2 := kb.ext hE (by simpa using hnb)
    obtain ⟨a, cap, hv2, _, _⟩ := k2.shape
    have hcv : v2.cells = #[v2] := by rw [hv2]; rfl
    refine St_i kb2 (by rw [hcv]; rfl) (by simp) (by rw [hcv, hv2]; rfl) fun H3 e3 s3 k3 => ?_
    rw [hcv] at k3
    have k3' : blk H3 bp #[at0 bc, .map (some bm), v2] := by simpa [wrL] using k3
    have hE3 : Ext [b, bp] H H3 := (hE.mono (by simp)).trans (e3.mono (by simp))
    have hmod : Mod (Rl.isPart i) H col H3 := Mod.of hE3 (by
      intro x hx hlt
      simp at hx
      rcases hx with rfl | rfl
      · rw [hbl hlt]; simp [Rl.isPart]
      · rw [cb]; simp [Rl.isPart])
    have hne : ∀ x ∈ [b, bp], x < H.size → col x = .lost i ∨ col x = .part i := by
      intro x hx hlt
      simp at hx
      rcases hx with rfl | rfl
      · exact .inl (hbl hlt)
      · exact .inr cb
    have hlose : p.lose k = { p with lost := p.lost.take j ++ k :: p.lost.drop j } := by
      unfold Part.lose
      rw [if_neg hm, t1, t2]
    have ob3 : H3[bm]? = some (mapO encI (order.map fun k => (k, at0 (bl k)))) := by
      rw [hE3.same _ km.lt]
      · exact km.ob
      · intro hm
        rcases hne _ hm km.lt with h | h <;> (rw [km.cm] at h; cases h)
    refine hq H3 col' hmod hsame ?_ (fun x b h => ?_)
    rotate_left
    · obtain ⟨bm', h1, h2⟩ := h
      have : bm' = bm := by rw [kb.cell] at h1; simp at h1; exact h1.symm
      subst this
      refine ⟨bm', by rw [k3'.cell]; rfl, ?_⟩
      have a1 := lookup_rd key_103 km.ob x
      have a2 := lookup_rd key_103 ob3 x
      rw [show encI x = Value.int .i64 x from rfl] at a1 a2
      rw [a2, ← a1, h2]
    rw [hlose]
    refine ⟨(hsame _ l0).trans cb, bc, bs, bm, v2, order, bl, k3', kc.ext hE3 hsame ?_, ⟨(hsame _ km.lt).trans km.cm, ?_, km.nd, km.ks, ?_⟩, ?_⟩
    · intro x hx hlt
      rcases hne x hx hlt with h | h <;> rw [h] <;> simp
    · rw [hE3.same _ km.lt]
      · exact km.ob
      · intro hm
        rcases hne _ hm km.lt with h | h <;> (rw [km.cm] at h; cases h)
    · intro x l hx0 hl
      obtain ⟨d1, d2⟩ := km.ln x l hx0 hl
      refine ⟨(hsame _ d2.lt).trans d1, d2.ext hE3 ?_⟩
      intro hm
      rcases hne _ hm d2.lt with h | h <;> (rw [d1] at h; cases h)
    · right
      refine ⟨b2, by omega, hc', ?_⟩
      have k23 := k2.ext e3 (by
        simp; intro h
        have h1 : col' bp = .part i := (hsame _ l0).trans cb
        rw [← h, hc'] at h1; cases h1)
      exact k23
end YtacidjifocfhkaaGreatDoor
end Go.Proofs
namespace Go.Proofs
open Go Go.NW Go.Pm
set_option maxRecDepth 20000
set_option linter.unusedSimpArgs false
set_option linter.unusedVariables false
namespace YtacidjifocfhkaaGreatDoor
/-- each line stands once, in its own set -/
structure CacheGood (c : Cache) : Prop where
  idx : ∀ (j : Nat) (row : List Entry), c.sets[j]? = some row → ∀ e ∈ row, 0 ≤ e.line ∧ c.idx e.line = j
  nd : ∀ (j : Nat) (row : List Entry), c.sets[j]? = some row → (row.map (·.line)).Nodup
  len : ∀ row ∈ c.sets, row.length ≤ c.ways
  w1 : 1 ≤ c.ways
/-- what holds of every part -/
structure PartOk (n i : Nat) (p : Part) : Prop where
  n0 : n ≤ 4096
  cache : CacheOk p.cache
  good : CacheGood p.cache
  len : p.lines.length = n
  ents : ∀ e ∈ p.cache.all, 0 ≤ e.line ∧ e.line < n ∧ ∃ l, p.line e.line = some l
  all : p.cache.all.length ≤ 12
  sorted : p.lost.Pairwise (· < ·)
  lost : ∀ x ∈ p.lost, 0 ≤ x ∧ x < n
  lines : ∀ k l, p.line k = some l → 0 ≤ k → l.line = k ∧ l.hart = i ∧ U32s l.data
theorem range_map_get {α : Type} (l : List α) (d : α) : (List.range l.length).map (fun j => l.getD j d) = l := by
  apply List.ext_getElem?
  intro i
  simp only [List.getElem?_map]
  by_cases h : i < l.length
  · simp [h]
  · simp [h]
/-- a row of places in which each place stands once -/
theorem countP_places {α : Type} (l : List α) (d : α) (f : α → Bool) (sn : List Nat) (hn : sn.Nodup) (hl : ∀ x ∈ sn, x < l.length) (ha : ∀ i, i < l.length → i ∈ sn) : sn.countP (fun j => f (l.getD j d)) = l.countP f := by
  have hp : sn.Perm (List.range l.length) := (List.perm_ext_iff_of_nodup hn List.nodup_range).2 (by intro a; simp; exact ⟨hl a, ha a⟩)
  rw [hp.countP_eq]
  have e : l.countP f = ((List.range l.length).map (fun j => l.getD j d)).countP f := by rw [range_map_get]
  rw [e, List.countP_map]; rfl
theorem count_order {p : Part} {order : List Int} (nd : order.Nodup) (ks : ∀ k, k ∈ order ↔ 0 ≤ k ∧ ∃ l, p.lines[k.toNat]? = some (some l)) : order.countP p.busy = p.count := by
  let g : Nat → Bool := fun i => p.busy (i : Int)
  have hg : ∀ i : Nat, p.busy (i : Int) = match p.lines.getD i none with | some l => l.waits != 0 | none => false := by intro i; rfl
  have e1 : p.count = (List.range p.lines.length).countP g := by
    unfold Part.count
    have e : p.lines.countP (fun l => match l with | some l => l.waits != 0 | none => false) = ((List.range p.lines.length).map (fun j => p.lines.getD j none)).countP (fun l => match l with | some l => l.waits != 0 | none => false) := by rw [range_map_get]
    refine e.trans ?_
    rw [List.countP_map]; rfl
  have hnd : (order.map Int.toNat).Nodup := by
    unfold List.Nodup at *
    rw [List.pairwise_map]
    refine List.Pairwise.imp_of_mem ?_ nd
    intro a b ha hb hab h
    have := ((ks a).1 ha).1
    have := ((ks b).1 hb).1
    omega
  have hp : (order.map Int.toNat).Perm ((List.range p.lines.length).filter fun i => (p.lines.getD i none).isSome) := by
    refine (List.perm_ext_iff_of_nodup hnd (List.Pairwise.filter _ List.nodup_range)).2 ?_
    intro a
    simp only [List.mem_map, List.mem_filter, List.mem_range, List.getD_eq_getElem?_getD]
    constructor
    · rintro ⟨k, hk, rfl⟩
      obtain ⟨_, l, hl⟩ := (ks k).1 hk
      exact ⟨(List.getElem?_eq_some_iff.1 hl).1, by rw [hl]; rfl⟩
    · rintro ⟨h1, h2⟩
      refine ⟨a, (ks a).2 ⟨by omega, ?_⟩, by simp⟩
      simp only [Int.toNat_natCast]
      rw [List.getElem?_eq_getElem h1] at h2 ⊢
      simp at h2
      obtain ⟨l, hl⟩ := Option.isSome_iff_exists.1 h2
      exact ⟨l, by rw [hl]⟩
  have e2 : order.countP p.busy = (order.map Int.toNat).countP g := by
    rw [List.countP_map]
    apply List.countP_congr
    intro x hx
    have := ((ks x).1 hx).1
    simp only [Function.comp, g]
    rw [show ((x.toNat : Nat) : Int) = x by omega]
  rw [e2, e1, hp.countP_eq, List.countP_filter]
  apply List.countP_congr
  intro x hx
  simp only [g, hg, Bool.and_eq_true]
  constructor
  · exact fun h => h.1
  · intro h
    refine ⟨h, ?_⟩
    cases hx : p.lines.getD x none with
    | none => rw [hx] at h; cases h
    | some l => rfl
theorem busy_of {p : Part} {k : Int} {l : Lone} (h : p.line k = some l) : p.busy k = (l.waits != 0) := by unfold Part.busy; rw [h]
theorem waits_48 {H : Hp} {col : Nat → Rl} {n i bp : Nat} {p : Part} {Q : RT1} (pa : PartAt H col i bp p) (ok : PartOk n i p)
    (hq : ∀ H' v b no, Ext [] H H' → Slc H' 1 v (intsC no) b → no.Perm p.places → Q (.tuple #[.int .i64 p.count, v]) H') : NCalls Tryz.prog 48 #[at0 bp] H Q := by
  have l0 := pa.lt
  obtain ⟨cb, bc, bs, bm, lv, order, bl, kb, kc, km, ks⟩ := id pa
  have hcm : cellAt H ⟨bp, 1, none⟩ = some (.map (some bm)) := by rw [kb.cell]; rfl
  refine E48 ?_
  unfold F48_0 F48_24 F48_1 F48_23 F48_2 F48_18 F48_22
  simp -implicitDefEqProofs [hcm]
  have hund : (Tryz.prog).underlying 103 = some (.map 3 111) := by kernel_rfl
  refine range_i hund km.ob ?_
  generalize hes : (order.map fun k => (k, at0 (bl k))) = es at km
  have hel : es.length = order.length := by rw [← hes]; simp
  have hee : ∀ j (hj : j < es.length), es[j] = (order[j]'(by omega), at0 (bl (order[j]'(by omega)))) := by intro j hj; subst hes; simp
  obtain ⟨r, hr⟩ : ∃ r, r = H.size := ⟨_, rfl⟩
  rw [← hr]
  unfold F48_19 F48_20
  have hob : order.length ≤ n := by
    have := (List.Nodup.length_le_of_subset (l₁ := order.map Int.toNat) (l₂ := List.range n) (by
      unfold List.Nodup
      rw [List.pairwise_map]
      refine List.Pairwise.imp_of_mem ?_ km.nd
      intro a b ha hb hab h
      have := ((km.ks a).1 ha).1
      have := ((km.ks b).1 hb).1
      omega) (by
      intro a ha
      simp only [List.mem_map] at ha
      obtain ⟨k, hk, rfl⟩ := ha
      obtain ⟨h0, l, hl⟩ := (km.ks k).1 hk
      have := (List.getElem?_eq_some_iff.1 hl).1
      rw [ok.len] at this
      simp; omega))
    simpa using this
  have n0 := ok.n0
  let f : Nat → Bool := fun j => p.busy (order.getD j 0)
  have hpush : ∀ o : Obj, Ext [] H (H.push o) := fun o => Ext.push H o
  refine ⟨fun v4 H' => ∃ sn : Array Nat, v4 = .int .i64 (sn.toList.countP f : Nat) ∧ H'[r]? = some (.mapIter (some bm) es.length sn es.length) ∧ Ext [] H H' ∧ sn.toList.Nodup ∧ ∀ x ∈ sn, x < es.length, fun v4 H' => match H'[r]? with | some (.mapIter _ _ sn _) => es.length - sn.size | _ => 0,
    ⟨#[], by simp, by subst hr; simp, hpush _, by simp, by simp⟩, ?_⟩
  rintro v4 H1 ⟨sn, rfl, hit, e1, hnd, hlt⟩
  have obs : H1[bm]? = some (mapO encI es) := by rw [e1.same _ (get_lt km.ob) (by simp), ← hes]; exact km.ob
  have hsn : sn.size ≤ es.length := by
    have := (List.Nodup.length_le_of_subset (l₁ := sn.toList) (l₂ := List.range es.length) hnd (by intro a ha; simp; exact hlt a (by simpa using ha)))
    simpa using this
  unfold F48_21
  refine next_i obs hit (fun hall => ?_) (fun j hj hjn => ?_)
  · -- none is left
    simp -implicitDefEqProofs only [Ex_tuple, List.getElem?_toArray, List.getElem?_cons_zero, q_some, condV_bool, Bool.false_eq_true, if_false]
    have hcount : sn.toList.countP f = p.count := by
      rw [← count_order km.nd km.ks]
      exact countP_places order 0 p.busy sn.toList hnd (by intro x hx; have := hlt x (by simpa using hx); omega) (by intro x hx; simpa using hall x (by omega))
    rw [hcount]
    unfold F48_3 F48_17 F48_4 F48_6 F48_16
    have pa1 := pa.ext0 e1 (Same.refl _ _)
    have kb1 := kb.ext e1 (by simp)
    have hc0 : cellAt H1 ⟨bp, 0, none⟩ = some (at0 bc) := by rw [kb1.cell]; rfl
    simp -implicitDefEqProofs [hc0]
    refine All_78 (kc.ext0 e1 (Same.refl _ _)) ok.cache ok.all fun H2 v2 b2 ys e2 k2 hb2 hp => ?_
    obtain ⟨a, cap, hv2, _, _⟩ := k2.shape
    have hyl : ys.length ≤ 12 := by rw [hp.length_eq]; exact ok.all
    have hlv : pv Tryz.prog (Builtin.len_ #[153] 0 #[v2]) = some (.int .i64 ys.length) := by rw [hv2]; simp -implicitDefEqProofs [entsC_len]
    simp -implicitDefEqProofs only [hlv, q_some]
    unfold F48_7 F48_8
    have e12 := e1.trans e2
    let no : Nat → List Int := fun k => (((ys.take k).map (·.line)).filter p.busy)
    refine ⟨fun v7 v30 H' => ∃ (k b7 : Nat), v30 = .int .i64 k ∧ k ≤ ys.length ∧ Ext [] H2 H' ∧ Slc H' 1 v7 (intsC (no k)) b7 ∧ H2.size ≤ b7, fun v7 v30 _ => ys.length - (iv v30).toNat, ⟨0, H2.size, rfl, by omega, .refl _ _, by simpa [no, intsC] using Slc.nil _ _ _, Nat.le_refl _⟩, ?_⟩
    rintro v7 v30 H3 ⟨k, b7, rfl, hk, e3, k7, hb7⟩
    unfold F48_9 F48_15
    have e13 := e12.trans e3
    by_cases hlt : k < ys.length
    · have hlt' : (k : Int) < ys.length := by omega
      simp -implicitDefEqProofs only [Bin_lss_3, hlt', decide_true, q_some]
      unfold F48_10 F48_14
      simp -implicitDefEqProofs only [condV_bool, if_true]
      unfold F48_11 F48_13
      obtain ⟨o, hx, hcs⟩ := ents_at (k2.ext e3 (by simp)) hlt
      simp -implicitDefEqProofs only [hx, q_some, LdA_some, hcs, Option.map_some]
      refine New_i fun H4 b4 hb4 e4 s4 k4 => ?_
      refine St_i k4 (by simp [entryC]) (by simp) (by simp [entryC]) fun H5 e5 s5 k5 => ?_
      have k5' : blk H5 b4 (entryC ys[k]) := by simpa [wrL, entryC] using k5
      have z3 := e3.size
      have e35 : Ext [] H3 H5 := e4.fresh e5 (by simp; omega)
      have E5 := e13.trans e35
      have pa5 := pa.ext0 E5 (Same.refl _ _)
      have hmem : ys[k] ∈ p.cache.all := hp.mem_iff.1 (by simp)
      obtain ⟨g0, g1, l, hl⟩ := ok.ents _ hmem
      obtain ⟨bm5, hc5, hh⟩ := pa5.look g0
      rcases hh with ⟨hn, _⟩ | ⟨l', b', hl', hlk, hil⟩
      · rw [hl] at hn; cases hn
      have : l' = l := by rw [hl] at hl'; simpa using hl'.symm
      subst this
      have hcl : cellAt H5 ⟨b4, 0, none⟩ = some (.int .i64 ys[k].line) := by rw [k5'.cell]; rfl
      obtain ⟨_, kl, _⟩ := pa5.lone g0 hl hil
      simp -implicitDefEqProofs only [Nz_some, q_some, Fa_some, add_mk, Nat.zero_add, Ld_some, hc5, hcl, hlk]
      refine Waits_spec kl ?_
      have wk : IntKind.wrap .i64 ((k : Int) + 1) = ((k + 1 : Nat) : Int) := by rw [w64 (by omega) (by omega)]; simp
      have hbz := busy_of hl
      have htk : ys.take (k + 1) = ys.take k ++ [ys[k]] := by rw [List.take_succ_eq_append_getElem hlt]
      by_cases hw : l'.waits = 0
      · have hb0 : p.busy ys[k].line = false := by rw [hbz, hw]; rfl
        have hno : no (k + 1) = no k := by simp only [no, htk, List.map_append, List.filter_append, List.map_cons, List.map_nil, List.filter_cons, List.filter_nil, hb0, Bool.false_eq_true, if_false, List.append_nil]
        have e0 : ((l'.waits : Int) != 0) = false := by rw [hw]; rfl
        simp -implicitDefEqProofs only [Bin_neq_3, e0, q_some, condV_bool, Bool.false_eq_true, if_false]
        unfold F48_12
        simp -implicitDefEqProofs only [Bin_add_3, q_some, wk]
        refine ⟨trivial, trivial, trivial, trivial, ⟨k + 1, b7, rfl, by omega, e3.trans e35, ?_, hb7⟩, by simp; omega⟩
        rw [hno]; exact k7.ext e35 (by simp)
      · have hb0 : p.busy ys[k].line = true := by rw [hbz]; simpa using hw
        have hno : no (k + 1) = no k ++ [ys[k].line] := by simp only [no, htk, List.map_append, List.filter_append, List.map_cons, List.map_nil, List.filter_cons, List.filter_nil, hb0, if_true]
        have e0 : ((l'.waits : Int) != 0) = true := by simpa using hw
        simp -implicitDefEqProofs only [Bin_neq_3, e0, q_some, condV_bool, if_true, Fa_some, add_mk, Nat.zero_add, Ld_some, hcl]
        refine Bsl_i (cells := #[.int .i64 ys[k].line]) (by kernel_rfl) fun H6 b6 hb6 e6 s6 k6 => ?_
        have hx6 : Slc H6 1 (.slice (some ⟨b6, 0, none⟩) 1 1) (intsC [ys[k].line]) b6 := Slc.of (xs := intsC [ys[k].line]) (c := _) (by simp [intsC]) k6 (by simp [intsC]) (by simp) (by simp [intsC])
        have z5 := e35.size
        have z6 := e6.size
        have hnl : (no k).length ≤ 12 := by
          have h1 : (no k).length ≤ ((ys.take k).map (·.line)).length := List.length_filter_le _ _
          have h2 : ((ys.take k).map (·.line)).length ≤ 12 := by simp; omega
          omega
        refine append_i ty_49 ((k7.ext e35 (by simp)).ext e6 (by simp)) hx6 intsC_one (by rw [intsC_len, intsC_len]; simp; omega) fun H7 v8 b8 e7 k8 hb8 => ?_
        unfold F48_12
        simp -implicitDefEqProofs only [Bin_add_3, q_some, wk]
        refine ⟨trivial, trivial, trivial, trivial, ⟨k + 1, b8, rfl, by omega, ((e3.trans e35).trans e6).fresh e7 (by simp; omega), ?_, by omega⟩, by simp; omega⟩
        rw [hno]
        have : intsC (no k) ++ intsC [ys[k].line] = intsC (no k ++ [ys[k].line]) := by simp [intsC]
        rw [← this]; exact k8
    · have hkl : k = ys.length := by omega
      subst hkl
      have hlt' : ¬ ((ys.length : Int) < ys.length) := by omega
      simp -implicitDefEqProofs only [Bin_lss_3, hlt', decide_false, q_some]
      unfold F48_10 F48_14
      simp -implicitDefEqProofs only [condV_bool, Bool.false_eq_true, if_false]
      unfold F48_5
      refine hq H3 v7 b7 _ e13 k7 ?_
      simp only [no, List.take_length]
      exact (hp.map _).filter _
  · -- one more
    simp -implicitDefEqProofs only [Ex_tuple, List.getElem?_toArray, List.getElem?_cons_zero, q_some, condV_bool, if_true]
    have hrl : r < H1.size := get_lt hit
    have hext : Ext [r] H1 (H1.setIfInBounds r (.mapIter (some bm) es.length (sn.push j) es.length)) := setObj_ext _ (by simp)
    have hbr : bm ≠ r := by have := get_lt km.ob; omega
    have ob2 : (H1.setIfInBounds r (.mapIter (some bm) es.length (sn.push j) es.length))[bm]? = some (mapO encI es) := by rw [hext.same _ (get_lt obs) (by simpa using hbr)]; exact obs
    have it2 : (H1.setIfInBounds r (.mapIter (some bm) es.length (sn.push j) es.length))[r]? = some (.mapIter (some bm) es.length (sn.push j) es.length) := by rw [Array.getElem?_setIfInBounds]; simp [hrl]
    have e2 : Ext [] H (H1.setIfInBounds r (.mapIter (some bm) es.length (sn.push j) es.length)) := e1.fresh hext (by simp; omega)
    have hent := entry_rd (P := Tryz.prog) ob2 hj it2
    simp -implicitDefEqProofs only [hent, q_some, Ex_tuple, List.getElem?_toArray, List.getElem?_cons_succ, List.getElem?_cons_zero]
    have hoj : order[j]'(by omega) ∈ order := by simp
    obtain ⟨g0, l, hl⟩ := (km.ks _).1 hoj
    obtain ⟨_, kl⟩ := km.ln _ l g0 hl
    rw [hee j hj]
    have kl2 := kl.ext e2 (by simp)
    refine Waits_spec kl2 ?_
    have hline : p.line (order[j]'(by omega)) = some l := by unfold Part.line; rw [List.getD_eq_getElem?_getD, hl]; rfl
    have hfj : f j = (l.waits != 0) := by
      simp only [f]
      rw [List.getD_eq_getElem?_getD, List.getElem?_eq_getElem (by omega), Option.getD_some, busy_of hline]
    have hnd2 : (sn.push j).toList.Nodup := by
      rw [Array.toList_push, List.nodup_append]
      exact ⟨hnd, by simp, by intro x hx y hy; simp at hy; subst hy; intro he; subst he; exact hjn (by simpa using hx)⟩
    have hlt2 : ∀ x ∈ sn.push j, x < es.length := by
      intro x hx
      rw [Array.mem_push] at hx
      rcases hx with hx | rfl
      · exact hlt x hx
      · exact hj
    have hcl : sn.toList.countP f ≤ 4096 := Nat.le_trans List.countP_le_length (by simp; omega)
    have hmu : es.length - (sn.push j).size < es.length - sn.size := by simp; have := (List.Nodup.length_le_of_subset (l₁ := (sn.push j).toList) (l₂ := List.range es.length) hnd2 (by intro a ha; simp; exact hlt2 a (by simpa using ha))); simp at this; omega
    have hcp : (sn.push j).toList.countP f = sn.toList.countP f + (if f j then 1 else 0) := by rw [Array.toList_push, List.countP_append]; simp [List.countP_cons]
    by_cases hw : l.waits = 0
    · have e0 : ((l.waits : Int) != 0) = false := by rw [hw]; rfl
      rw [e0] at hfj
      simp -implicitDefEqProofs only [Bin_neq_3, e0, q_some, condV_bool, Bool.false_eq_true, if_false]
      refine ⟨trivial, trivial, ⟨sn.push j, ?_, it2, e2, hnd2, hlt2⟩, ?_⟩
      · rw [hcp, hfj]; simp
      · rw [it2, hit]; exact hmu
    · have e0 : ((l.waits : Int) != 0) = true := by simpa using hw
      rw [e0] at hfj
      have w1 : IntKind.wrap .i64 ((sn.toList.countP f : Int) + 1) = ((sn.toList.countP f + 1 : Nat) : Int) := by rw [w64 (by omega) (by omega)]; simp
      simp -implicitDefEqProofs only [Bin_neq_3, e0, q_some, condV_bool, if_true, Bin_add_3, w1]
      refine ⟨trivial, trivial, ⟨sn.push j, ?_, it2, e2, hnd2, hlt2⟩, ?_⟩
      · rw [hcp, hfj]; simp
      · rw [it2, hit]; exact hmu
end YtacidjifocfhkaaGreatDoor
end Go.Proofs
namespace Go.Proofs
open Go Go.NW Go.Pm
set_option maxRecDepth 20000
set_option linter.unusedSimpArgs false
set_option linter.unusedVariables false
namespace YtacidjifocfhkaaGreatDoor
def homeC (h : Home) (vs vi : Value) : Array Value :=
  #[.int .i64 h.line, .int .i64 h.harts, .int .u32 h.data.a, .int .u32 h.data.b, .int .u32 h.data.c, .int .u32 h.data.d, .int .i64 h.owner, vs, .bool h.busy, .int .i64 h.serves, .int .i64 h.by_, .int .i64 h.asked, vi,
    .int .i64 h.back.kind, .int .i64 h.back.line, .int .i64 h.back.frm, .int .i64 h.back.to, .int .u32 h.back.data.a, .int .u32 h.back.data.b, .int .u32 h.back.data.c, .int .u32 h.back.data.d, .bool h.back.has, .bool h.back.dirty, .bool h.back.alone]
/-- a home in memory: its block, its sharers', its list of those that have not answered -/
structure HomeAt (H : Hp) (b bs bi : Nat) (h : Home) : Prop where
  ex : ∃ vs vi, blk H b (homeC h vs vi) ∧ Slc H 1 vs (boolsC h.sharers) bs ∧ Slc H 1 vi (boolsC h.inv) bi ∧ one vs = true ∧ one vi = true
  d1 : b ≠ bs
  d2 : b ≠ bi
  d3 : bs ≠ bi
  ls : bs < H.size
  li : bi < H.size
theorem HomeAt.ext {S : List Nat} {H H' : Hp} {b bs bi : Nat} {h : Home} (k : HomeAt H b bs bi h) (e : Ext S H H') (h1 : b ∉ S) (h2 : bs ∉ S) (h3 : bi ∉ S) : HomeAt H' b bs bi h := by
  obtain ⟨⟨vs, vi, k1, k2, k3, k4, k5⟩, d1, d2, d3, ls, li⟩ := k
  exact ⟨⟨vs, vi, k1.ext e h1, k2.ext e h2, k3.ext e h3, k4, k5⟩, d1, d2, d3, Nat.lt_of_lt_of_le ls e.size, Nat.lt_of_lt_of_le li e.size⟩
theorem HomeAt.ext0 {H H' : Hp} {b bs bi : Nat} {h : Home} (k : HomeAt H b bs bi h) (e : Ext [] H H') : HomeAt H' b bs bi h := k.ext e (by simp) (by simp) (by simp)
theorem Data_home {H : Hp} {b bs bi : Nat} {h : Home} {Q : RT1} (k : HomeAt H b bs bi h) (hq : ∀ H', Ext [] H H' → Q (.agg (wordsC h.data)) H') : NCalls Tryz.prog 61 #[at0 b] H Q := by
  obtain ⟨⟨vs, vi, kb, ks, ki, o1, o2⟩, d1, d2, d3, ls, li⟩ := k
  refine E61 ?_
  unfold F61_0
  refine New_i fun H1 b1 hb1 e1 s1 k1 => ?_
  replace kb := kb.ext e1 (by simp)
  simp [kb.cells, homeC]
  refine St_i k1 (by simp) (by simp) (by simp) fun H2 e2 s2 k2 => ?_
  simp [wrL] at k2
  simp [k2.cells]
  exact fin (hq _ (e1.fresh e2 (by simp [hb1]))) (by simp [wordsC])
theorem to_spec {H : Hp} {b bs bi : Nat} {h : Home} {x y : Int} {Q : RT1} (k : HomeAt H b bs bi h)
    (hq : ∀ H', Ext [] H H' → Q (.agg (msgC (h.to x y))) H') : NCalls Tryz.prog 127 #[at0 b, .int .i64 x, .int .i64 y] H Q := by
  obtain ⟨⟨vs, vi, kb, ks, ki, o1, o2⟩, d1, d2, d3, ls, li⟩ := k
  refine E127 ?_
  unfold F127_0
  refine New_i fun H1 b1 hb1 e1 s1 k1 => ?_
  replace kb := kb.ext e1 (by simp)
  simp [kb.cell, homeC]
  refine St_i k1 (by simp) (by simp) (by simp) fun H2 e2 s2 k2 => ?_
  simp [wrL] at k2
  simp [k2.cells]
  exact fin (hq _ (e1.fresh e2 (by simp [hb1]))) (by simp [msgC, Home.to, Words.zero])
theorem hand_spec {H : Hp} {b bs bi : Nat} {h : Home} {d : Words} {x y : Bool} {Q : RT1} (k : HomeAt H b bs bi h)
    (hq : ∀ H' v bm, Ext [] H H' → Msgs H' v [h.hand d x y] bm → H.size ≤ bm → Q v H') : NCalls Tryz.prog 144 #[at0 b, .agg (wordsC d), .bool x, .bool y] H Q := by
  refine E144 ?_
  unfold F144_0
  refine New_i fun H1 b1 hb1 e1 s1 k1 => ?_
  have k' := k.ext0 e1
  obtain ⟨⟨vs, vi, kb, ks, ki, o1, o2⟩, d1, d2, d3, ls, li⟩ := id k'
  simp [kb.cell, homeC]
  refine to_spec k' fun H2 e2 => ?_
  have z2 := e2.size
  replace k1 := k1.ext e2 (by simp)
  refine New_i fun H3 b3 hb3 e3 s3 k3 => ?_
  replace k1 := k1.ext e3 (by simp)
  refine St_i k3 (by simp [msgC]) (by simp) (by simp [msgC]) fun H4 e4 s4 k4 => ?_
  replace k1 := k1.ext e4 (by simp; omega)
  simp [wrL, msgC, Home.to, Words.zero] at k4
  simp [k1.cells, wordsC]
  refine St_i k4 (by simp) (by simp) (by simp) fun H5 e5 s5 k5 => ?_
  simp [wrL] at k5 ⊢
  refine St_i k5 (by simp) (by simp) (by simp) fun H6 e6 s6 k6 => ?_
  simp [wrL] at k6 ⊢
  refine St_i k6 (by simp) (by simp) (by simp) fun H7 e7 s7 k7 => ?_
  simp [wrL] at k7 ⊢
  refine St_i k7 (by simp) (by simp) (by simp) fun H8 e8 s8 k8 => ?_
  simp [wrL] at k8 ⊢
  simp [k8.cells]
  have E8 : Ext [] H H8 := (((((((e1.trans e2).trans e3).fresh e4 (by simp; omega)).fresh e5 (by simp; omega)).fresh e6 (by simp; omega)).fresh e7 (by simp; omega)).fresh e8 (by simp; omega))
  refine msg_slice (m := h.hand d x y) fun H9 bm v hbm e9 hm => ?_
  exact hq H9 v bm (E8.trans e9) hm (by have := E8.size; omega)
theorem waits_spec {H : Hp} {b bs bi : Nat} {h : Home} {Q : RT1} (w : h.Wf) (k : HomeAt H b bs bi h) (hq : Q (.bool h.waits) H) : NCalls Tryz.prog 124 #[at0 b] H Q := by
  obtain ⟨⟨vs, vi, kb, ks, ki, o1, o2⟩, d1, d2, d3, ls, li⟩ := k
  refine E124 ?_
  unfold F124_0
  by_cases h1 : h.asked = -1
  · simp [kb.cell, homeC, h1]
    refine Contains_63 ki (by rw [w.iv]; have := w.harts; omega) ?_
    exact fin hq (by simp [Home.waits, h1])
  · simp [kb.cell, homeC, h1]
    exact fin hq (by simp [Home.waits, h1])
theorem Held_spec {H : Hp} {b bs bi : Nat} {h : Home} {Q : RT1} (w : h.Wf) (k : HomeAt H b bs bi h)
    (hq : ∀ H', Ext [] H H' → Q (.tuple #[.agg (wordsC h.back.data), .bool h.held]) H') : NCalls Tryz.prog 104 #[at0 b] H Q := by
  refine E104 ?_
  unfold F104_0
  refine New_i fun H1 b1 hb1 e1 s1 k1 => ?_
  have k' := k.ext0 e1
  obtain ⟨⟨vs, vi, kb, ks, ki, o1, o2⟩, d1, d2, d3, ls, li⟩ := id k'
  have done : ∀ (x : Bool), x = h.held → St 4 H1 (at0 b1) (.agg (wordsC h.back.data)) (fun H_24 => q (LdA 4 H_24 (at0 b1)) fun r_25 => Q (.tuple #[r_25, .bool x]) H_24) := by
    intro x hx
    refine St_i k1 (by simp [wordsC]) (by simp) (by simp [wordsC]) fun H2 e2 s2 k2 => ?_
    simp [wrL, wordsC] at k2
    simp [k2.cells]
    exact fin (hq _ (e1.fresh e2 (by simp [hb1]))) (by simp [wordsC, hx])
  by_cases c1 : h.busy = true
  · by_cases c2 : h.by_ = 2
    · by_cases c3 : h.back.dirty = true
      · simp [kb.cell, kb.cells, homeC, c1, c2, c3]
        refine waits_spec w k' ?_
        simp [kb.cells, homeC]
        exact done _ (by simp [Home.held, c1, c2, c3])
      · simp [kb.cell, kb.cells, homeC, c1, c2, c3]
        exact done _ (by simp [Home.held, c1, c2, c3])
    · simp [kb.cell, kb.cells, homeC, c1, c2]
      exact done _ (by simp [Home.held, c1, c2])
  · simp [kb.cell, kb.cells, homeC, c1]
    exact done _ (by simp [Home.held, c1])
theorem New_home {H : Hp} {line : Int} {n : Nat} {d : Words} {Q : RT1} (hn : n ≤ 1000)
    (hq : ∀ H' b bs bi, Ext [] H H' → HomeAt H' b bs bi (Home.new line n d) → H.size ≤ b → H.size ≤ bs → H.size ≤ bi → Q (at0 b) H') : NCalls Tryz.prog 43 #[.int .i64 line, .int .i64 n, .agg (wordsC d)] H Q := by
  refine E43 ?_
  unfold F43_0
  refine New_i fun H1 b1 hb1 e1 s1 k1 => ?_
  simp [k1.cells, wordsC]
  have hmax : (if (n : Int) < 0 then (0 : Int) else n) = n := by rw [if_neg (by omega)]
  rw [hmax]
  have slc : ∀ (H : Hp) (bb : Nat), blk H bb ((List.replicate (Int.toNat n) (Value.cells (.bool false)).toList).flatten).toArray → Slc H 1 (.slice (some ⟨bb, 0, none⟩) (Int.toNat n) (Int.toNat n)) (boolsC (List.replicate n false)) bb := by
    intro H bb kk
    have e0 : (Int.toNat n) = (boolsC (List.replicate n false)).length := by simp [boolsC]
    have e2 : Slc H 1 (.slice (some ⟨bb, 0, none⟩) (boolsC (List.replicate n false)).length (Int.toNat n)) (boolsC (List.replicate n false)) bb := by
      refine Slc.of ?_ kk ?_ ?_ ?_
      · intro x hx; simp [boolsC] at hx; rw [hx.2]; rfl
      · simp [boolsC]
      · simp
      · simp [boolsC]
    rw [← e0] at e2
    exact e2
  have fin2 : ∀ (H4 H5 : Hp) (bs bi : Nat), Ext [] H H5 → blk H5 bs ((List.replicate (Int.toNat n) (Value.cells (.bool false)).toList).flatten).toArray → blk H5 bi ((List.replicate (Int.toNat n) (Value.cells (.bool false)).toList).flatten).toArray →
      H.size ≤ bs → H.size ≤ bi → bs ≠ bi →
      New (Value.cells (.agg (homeC (Home.new line n d) (.slice (some ⟨bs, 0, none⟩) (Int.toNat n) (Int.toNat n)) (.slice (some ⟨bi, 0, none⟩) (Int.toNat n) (Int.toNat n))))) 150 H5 Q := by
    intro H4 H5 bs bi E5 ks ki hs hi hne
    refine New_i fun H6 b6 hb6 e6 s6 k6 => ?_
    refine hq H6 b6 bs bi (E5.trans e6) ⟨⟨_, _, k6, slc H6 bs (ks.ext e6 (by simp)), slc H6 bi (ki.ext e6 (by simp)), rfl, rfl⟩, ?_, ?_, hne, (ks.ext e6 (by simp)).lt, (ki.ext e6 (by simp)).lt⟩ (by have := E5.size; omega) hs hi
    · have := ks.lt; omega
    · have := ki.lt; omega
  constructor
  · refine makeSlice_i ty_63 (z := .bool false) (by kernel_rfl) (by omega) (Int.le_refl _) (by omega) fun H2 e2 s2 k2 => ?_
    replace k1 := k1.ext e2 (by simp)
    simp [k1.cells, wordsC]
    refine makeSlice_i ty_63 (z := .bool false) (by kernel_rfl) (by omega) (Int.le_refl _) (by omega) fun H3 e3 s3 k3 => ?_
    replace k1 := k1.ext e3 (by simp)
    replace k2 := k2.ext e3 (by simp)
    simp [k1.cells, wordsC]
    have := fin2 H2 H3 H1.size H2.size ((e1.trans e2).trans e3) k2 k3 (by omega) (by omega) (by omega)
    simpa [homeC, Home.new, Msg.zero, Words.zero] using this
  · refine makeSlice_i ty_63 (z := .bool false) (by kernel_rfl) (by omega) (Int.le_refl _) (by omega) fun H2 e2 s2 k2 => ?_
    replace k1 := k1.ext e2 (by simp)
    simp [k1.cells, wordsC]
    refine makeSlice_i ty_63 (z := .bool false) (by kernel_rfl) (by omega) (Int.le_refl _) (by omega) fun H3 e3 s3 k3 => ?_
    replace k1 := k1.ext e3 (by simp)
    replace k2 := k2.ext e3 (by simp)
    simp [k1.cells, wordsC]
    have := fin2 H2 H3 H2.size H1.size ((e1.trans e2).trans e3) k3 k2 (by omega) (by omega) (by omega)
    simpa [homeC, Home.new, Msg.zero, Words.zero] using this
end YtacidjifocfhkaaGreatDoor
end Go.Proofs
