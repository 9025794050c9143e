/-
  Part 1 of the proof of: PROVED: for every number of harts and ways and every list of turns, FabricTurns returns true, and all arguments read afterwards as they read before. CONDITIONS: the five errors of package api that the row lists read, when the call begins, as the program's text lays them (the card ties them); nothing else is asked.
-/
import Derived.Below
namespace Go.NW
open Go
abbrev Hp := Array Obj
abbrev Fr := Nat → Value
abbrev RT1 := Value → Hp → Prop
abbrev RT2 := Value → Value → Hp → Prop
abbrev RT3 := Value → Value → Value → Hp → Prop
abbrev RT4 := Value → Value → Value → Value → Hp → Prop
abbrev RT5 := Value → Value → Value → Value → Value → Hp → Prop
abbrev RT6 := Value → Value → Value → Value → Value → Value → Hp → Prop
abbrev RT7 := Value → Value → Value → Value → Value → Value → Value → Hp → Prop
structure SameW (w w' : World) : Prop where
  os : w'.os = w.os
  tape : w'.tape = w.tape
  output : w'.output = w.output
theorem SameW.refl (w : World) : SameW w w := ⟨rfl, rfl, rfl⟩
theorem SameW.trans {a b c : World} (h : SameW a b) (k : SameW b c) : SameW a c :=
  ⟨k.os.trans h.os, k.tape.trans h.tape, k.output.trans h.output⟩
def one : Value → Bool
  | .agg _ | .tuple _ => false
  | _ => true
def cellAt (H : Hp) (a : Addr) : Option Value :=
  match H[a.block]? with
  | some (.cells c _ _) => if a.spot.isSome then none else c[a.off]?
  | _ => none
def frozenAt (H : Hp) (a : Addr) : Bool :=
  match H[a.block]? with
  | some (.cells _ _ (lo, hi)) => lo ≤ a.off && a.off < hi
  | _ => false
def shapeAt (H : Hp) (r : Nat) : Option (TypeId × Nat) :=
  match H[r]? with
  | some (.cells c elem _) => some (elem, c.size)
  | _ => none
def setAt (H : Hp) (a : Addr) (v : Value) : Hp :=
  H.modify a.block fun
    | .cells c elem frozen => .cells (if a.spot.isSome then c else c.setIfInBounds a.off v) elem frozen
    | o => o
/-- Every way that the model may go on a heap, without a halt. -/
def dm {α : Type} (P : Program) : Sem α → Hp → (α → Hp → Prop) → Prop
  | .pure a, H, K => K a H
  | .load _ a k, H, K => match cellAt H a with
    | some v => dm P (k v) H K
    | none => False
  | .store _ a v k, H, K => one v = true ∧ (cellAt H a).isSome = true ∧ frozenAt H a = false ∧ dm P k (setAt H a v) K
  | .new o k, H, K => dm P (k H.size) (H.push o) K
  | .shape r k, H, K => dm P (k (shapeAt H r)) H K
  | .freeze _ _ _, _, _ => False
  | .frozen a k, H, K => dm P (k (frozenAt H a)) H K
  | .getObj r k, H, K => match H[r]? with
    | some (.cells ..) => False
    | some o => dm P (k o) H K
    | none => False
  | .setObj r o k, H, K => match H[r]? with
    | some (.cells ..) => False
    | some _ => dm P k (H.setIfInBounds r o) K
    | none => False
  | .choose q k, H, K => if q.forced then dm P (k 0) H K else ∀ t, dm P (k (q.cut t)) H K
  | .sys _ _, _, _ => False
  | .program k, H, K => dm P (k P) H K
  | .mark _ k, H, K => dm P k H K
  | .halt _, _, _ => False
theorem dm_run {α : Type} (P : Program) (s : Sem α) : ∀ (w : World) (K : α → Hp → Prop), dm P s w.heap K →
    ∃ a w', s.run P w = .ok a w' ∧ K a w'.heap ∧ SameW w w' := by
  induction s with
  | pure a => intro w K h; exact ⟨a, w, rfl, h, .refl w⟩
  | load m a k ih =>
    intro w K h
    simp only [dm] at h
    have e : w.cell? a = cellAt w.heap a := rfl
    cases hc : cellAt w.heap a with
    | none => rw [hc] at h; exact h.elim
    | some v =>
      rw [hc] at h
      obtain ⟨x, w', hr, hk, hs⟩ := ih v w K h
      exact ⟨x, w', by simp only [Sem.run, e, hc, hr], hk, hs⟩
  | store m a v k ih =>
    intro w K h
    obtain ⟨h1, h2, h3, h4⟩ := h
    obtain ⟨x, w', hr, hk, hs⟩ := ih (w.setCell a v) K h4
    have e : w.cell? a = cellAt w.heap a := rfl
    have f : w.frozen? a = frozenAt w.heap a := rfl
    obtain ⟨u, hu⟩ := Option.isSome_iff_exists.1 h2
    refine ⟨x, w', ?_, hk, ⟨hs.os, hs.tape, hs.output⟩⟩
    cases v with
    | agg _ => simp [one] at h1
    | tuple _ => simp [one] at h1
    | _ => simp only [Sem.run, e, hu, f, h3, hr]; rfl
  | new o k ih =>
    intro w K h
    obtain ⟨x, w', hr, hk, hs⟩ := ih w.heap.size { w with heap := w.heap.push o } K h
    exact ⟨x, w', by simp only [Sem.run, hr], hk, ⟨hs.os, hs.tape, hs.output⟩⟩
  | shape r k ih =>
    intro w K h
    obtain ⟨x, w', hr, hk, hs⟩ := ih (shapeAt w.heap r) w K h
    exact ⟨x, w', by simp only [Sem.run]; exact hr, hk, hs⟩
  | freeze a n k ih => intro w K h; exact h.elim
  | frozen a k ih =>
    intro w K h
    obtain ⟨x, w', hr, hk, hs⟩ := ih (frozenAt w.heap a) w K h
    exact ⟨x, w', by simp only [Sem.run]; exact hr, hk, hs⟩
  | getObj r k ih =>
    intro w K h
    simp only [dm] at h
    simp only [Sem.run]
    split at h
    · exact h.elim
    · rename_i o hn he
      obtain ⟨x, w', hr, hk, hs⟩ := ih o w K h
      refine ⟨x, w', ?_, hk, hs⟩
      rw [he]
      cases o <;> first | exact hr | exact (hn _ _ _ rfl).elim
    · exact h.elim
  | setObj r o k ih =>
    intro w K h
    simp only [dm] at h
    simp only [Sem.run]
    split at h
    · exact h.elim
    · rename_i o' hn he
      obtain ⟨x, w', hr, hk, hs⟩ := ih { w with heap := w.heap.setIfInBounds r o } K h
      refine ⟨x, w', ?_, hk, ⟨hs.os, hs.tape, hs.output⟩⟩
      rw [he]
      cases o' <;> first | exact hr | exact (hn _ _ _ rfl).elim
    · exact h.elim
  | choose q k ih =>
    intro w K h
    simp only [dm] at h
    simp only [Sem.run]
    split
    · rename_i hq
      rw [if_pos hq] at h
      exact ih 0 w K h
    · rename_i hq
      rw [if_neg hq] at h
      obtain ⟨x, w', hr, hk, hs⟩ := ih (q.cut (w.tape w.drawn q)) { w with drawn := w.drawn + 1 } K (h _)
      exact ⟨x, w', hr, hk, ⟨hs.os, hs.tape, hs.output⟩⟩
  | sys c k ih => intro w K h; exact h.elim
  | program k ih =>
    intro w K h
    obtain ⟨x, w', hr, hk, hs⟩ := ih P w K h
    exact ⟨x, w', by simp only [Sem.run, hr], hk, hs⟩
  | mark m k ih =>
    intro w K h
    obtain ⟨x, w', hr, hk, hs⟩ := ih w K h
    exact ⟨x, w', by simp only [Sem.run, hr], hk, hs⟩
  | halt h => intro w K h; exact h.elim
theorem dm_mono {α : Type} (P : Program) (s : Sem α) : ∀ (H : Hp) (K K' : α → Hp → Prop), (∀ a H, K a H → K' a H) → dm P s H K → dm P s H K' := by
  induction s with
  | pure a => intro H K K' hk h; exact hk _ _ h
  | load m a k ih =>
    intro H K K' hk h; simp only [dm] at h ⊢
    cases hc : cellAt H a with
    | none => rw [hc] at h; exact h.elim
    | some v => rw [hc] at h; exact ih v H K K' hk h
  | store m a v k ih => intro H K K' hk h; exact ⟨h.1, h.2.1, h.2.2.1, ih _ K K' hk h.2.2.2⟩
  | new o k ih => intro H K K' hk h; exact ih _ _ K K' hk h
  | shape r k ih => intro H K K' hk h; exact ih _ _ K K' hk h
  | freeze a n k ih => intro H K K' hk h; exact h.elim
  | frozen a k ih => intro H K K' hk h; exact ih _ _ K K' hk h
  | getObj r k ih =>
    intro H K K' hk h; simp only [dm] at h ⊢
    split at h
    · exact h.elim
    · rename_i o hn he
      cases o <;> first | exact ih _ H K K' hk h | exact (hn _ _ _ rfl).elim
    · exact h.elim
  | setObj r o k ih =>
    intro H K K' hk h; simp only [dm] at h ⊢
    split at h
    · exact h.elim
    · rename_i o' hn he
      cases o' <;> first | exact ih _ K K' hk h | exact (hn _ _ _ rfl).elim
    · exact h.elim
  | choose q k ih =>
    intro H K K' hk h; simp only [dm] at h ⊢
    split
    · rename_i hq; rw [if_pos hq] at h; exact ih 0 H K K' hk h
    · rename_i hq; rw [if_neg hq] at h; exact fun t => ih _ H K K' hk (h t)
  | sys c k ih => intro H K K' hk h; exact h.elim
  | program k ih => intro H K K' hk h; exact ih _ _ K K' hk h
  | mark m k ih => intro H K K' hk h; exact ih _ K K' hk h
  | halt h => intro H K K' hk h; exact h.elim
theorem dm_bind {α β : Type} (P : Program) (s : Sem α) (f : α → Sem β) : ∀ (H : Hp) (K : β → Hp → Prop),
    dm P (s.bind f) H K ↔ dm P s H (fun a H' => dm P (f a) H' K) := by
  induction s with
  | pure a => intro H K; exact Iff.rfl
  | load m a k ih =>
    intro H K; simp only [Sem.bind, dm]
    cases cellAt H a with
    | none => exact Iff.rfl
    | some v => exact ih v H K
  | store m a v k ih => intro H K; simp only [Sem.bind, dm, ih]
  | new o k ih => intro H K; simp only [Sem.bind, dm, ih]
  | shape r k ih => intro H K; simp only [Sem.bind, dm, ih]
  | freeze a n k ih => intro H K; exact Iff.rfl
  | frozen a k ih => intro H K; simp only [Sem.bind, dm, ih]
  | getObj r k ih => intro H K; simp only [Sem.bind, dm, ih]
  | setObj r o k ih => intro H K; simp only [Sem.bind, dm, ih]
  | choose q k ih => intro H K; simp only [Sem.bind, dm, ih]
  | sys c k ih => intro H K; exact Iff.rfl
  | program k ih => intro H K; simp only [Sem.bind, dm, ih]
  | mark m k ih => intro H K; simp only [Sem.bind, dm, ih]
  | halt h => intro H K; exact Iff.rfl
/-- What a reading of the heap gives. -/
def rd {α : Type} (P : Program) (H : Hp) : Sem α → Option α
  | .pure a => some a
  | .load _ a k => match cellAt H a with
    | some v => rd P H (k v)
    | none => none
  | .shape r k => rd P H (k (shapeAt H r))
  | .frozen a k => rd P H (k (frozenAt H a))
  | .getObj r k => match H[r]? with
    | some (.cells ..) => none
    | some o => rd P H (k o)
    | none => none
  | .program k => rd P H (k P)
  | .mark _ k => rd P H k
  | .store .. | .new .. | .freeze .. | .setObj .. | .choose .. | .sys .. | .halt _ => none
theorem rd_dm {α : Type} {P : Program} {H : Hp} (s : Sem α) : ∀ {a : α}, rd P H s = some a → ∀ K : α → Hp → Prop, dm P s H K ↔ K a H := by
  induction s with
  | pure x => intro a h K; simp only [rd, Option.some.injEq] at h; subst h; exact Iff.rfl
  | load m p k ih =>
    intro a h K; simp only [rd] at h; simp only [dm]
    cases hc : cellAt H p with
    | none => rw [hc] at h; simp at h
    | some v => rw [hc] at h; exact ih v h K
  | shape r k ih => intro a h K; exact ih _ h K
  | frozen p k ih => intro a h K; exact ih _ h K
  | getObj r k ih =>
    intro a h K; simp only [rd] at h; simp only [dm]
    split at h
    · simp at h
    · rename_i o hn he
      cases o <;> first | exact ih _ h K | exact (hn _ _ _ rfl).elim
    · simp at h
  | program k ih => intro a h K; exact ih _ h K
  | mark m k ih => intro a h K; exact ih h K
  | _ => intro a h K; simp [rd] at h
theorem rd_bind {α β : Type} {P : Program} {H : Hp} (s : Sem α) (f : α → Sem β) : rd P H (s.bind f) = (rd P H s).bind fun a => rd P H (f a) := by
  induction s with
  | pure a => rfl
  | load m a k ih =>
    simp only [Sem.bind, rd]
    cases cellAt H a with
    | none => rfl
    | some v => exact ih v
  | shape r k ih => simp only [Sem.bind, rd, ih]
  | frozen a k ih => simp only [Sem.bind, rd, ih]
  | getObj r k ih => simp only [Sem.bind, rd]; split <;> simp_all
  | program k ih => simp only [Sem.bind, rd, ih]
  | mark m k ih => simp only [Sem.bind, rd, ih]
  | _ => rfl
/-- May this function be called as text? -/
def okFn (P : Program) (f : FuncId) : Bool :=
  match P.funcs[f]? with
  | some fn => fn.body.isSome && !(fn.name == "runtime.NumGoroutine")
  | none => false
/-- A call of a function that has a text. -/
def NBody (P : Program) (f : FuncId) (args : Array Value) (H : Hp) (Q : RT1) : Prop :=
  okFn P f = true ∧ ∀ w : World, w.heap = H → Calls P f args w fun e w' => ∃ v, e = .returned v ∧ Q v w'.heap ∧ SameW w w'
theorem NBody.mono {P : Program} {f : FuncId} {args : Array Value} {H : Hp} {Q Q' : RT1} (h : NBody P f args H Q)
    (hq : ∀ v H, Q v H → Q' v H) : NBody P f args H Q' :=
  ⟨h.1, fun w hw => (h.2 w hw).mono fun _ _ ⟨v, he, hv, hs⟩ => ⟨v, he, hq _ _ hv, hs⟩⟩
/-- what stands in the place of a function without a text -/
def extOf (P : Program) (f : FuncId) : Option (Array Value → Sem Value) :=
  match P.funcs[f]? with
  | some fn => if (fn.name == "runtime.NumGoroutine") || fn.body.isSome || (Extern.findNext fn).isSome then none else Extern.find fn
  | none => none
/-- A call. -/
def NCalls (P : Program) (f : FuncId) (args : Array Value) (H : Hp) (Q : RT1) : Prop :=
  NBody P f args H Q ∨ ∃ e, extOf P f = some e ∧ dm P (e args) H Q
theorem NCalls.mono {P : Program} {f : FuncId} {args : Array Value} {H : Hp} {Q Q' : RT1} (h : NCalls P f args H Q)
    (hq : ∀ v H, Q v H → Q' v H) : NCalls P f args H Q' := by
  rcases h with h | ⟨e, he, h⟩
  · exact .inl (h.mono hq)
  · exact .inr ⟨e, he, dm_mono P _ _ _ _ hq h⟩
theorem NCalls.body {P : Program} {f : FuncId} {args : Array Value} {H : Hp} {Q : RT1} (h : NCalls P f args H Q) (he : extOf P f = none) : NBody P f args H Q := by
  rcases h with h | ⟨e, he', _⟩
  · exact h
  · rw [he] at he'; cases he'
def ev (fr : Fr) : Operand → Value
  | .tmp t => fr t
  | .const v => v
  | .global g => .pointer (some ⟨g, 0, none⟩)
  | .func f => .func (.func f) #[] #[]
def put (fr : Fr) (d : Option Nat) (v : Value) : Fr :=
  match d with
  | some d => fun i => bif Nat.beq i d then v else fr i
  | none => fr
/-- One operation, in full generality. -/
def gOp (P : Program) (ρ : Operand → Value) (o : Oper) (H : Hp) (K : RT1) : Prop :=
  dm P (execOp ρ o) H fun n H' => match n with
    | .value v => K v H'
    | .skip => K undef H'
    | .enter f args => NBody P f args H' K
    | _ => False
def frOf (tmps : Array Value) : Fr := fun i => tmps.getD i undef
theorem ev_frOf (a : Act) : ev (frOf a.tmps) = a.eval := by
  funext x; cases x <;> rfl
theorem frOf_put (a : Act) (d : Option Nat) (v : Value) (h : ∀ x, d = some x → x < a.tmps.size) : frOf (a.put d v).tmps = put (frOf a.tmps) d v := by
  cases d with
  | none => rfl
  | some d =>
    have hd := h d rfl
    funext i
    simp only [Act.put, frOf, put, Array.getD_eq_getD_getElem?]
    rw [Array.getElem?_setIfInBounds]
    by_cases e : d = i
    · subst e; simp [hd]
    · have e' : Nat.beq i d = false := by
        cases hb : Nat.beq i d with
        | false => rfl
        | true => exact (e (Nat.eq_of_beq_eq_true hb).symm).elim
      simp [e, e']
theorem put_size (a : Act) (d : Option Nat) (v : Value) : (a.put d v).tmps.size = a.tmps.size := by
  cases d <;> simp [Act.put]
/-- The model's step over one operation. -/
theorem gOp_wp {P : Program} {o : Oper} {a : Act} {w : World} {next : Act → World → Prop} {Q : Exit → Act → World → Prop}
    {K : RT1} (h : gOp P (ev (frOf a.tmps)) o w.heap K)
    (hn : ∀ v w', K v w'.heap → SameW w w' → next (a.put o.dst v) w') : o.wp P a w next Q := by
  rw [ev_frOf] at h
  obtain ⟨n, w', hr, hk, hs⟩ := dm_run P _ w _ h
  simp only [Oper.wp, hr]
  cases n with
  | value v => exact hn v w' hk hs
  | skip => exact hn undef w' hk hs
  | enter f args =>
    simp only [Oper.upon]
    refine (hk.2 w' rfl).mono ?_
    rintro e w'' ⟨v, rfl, hv, hs'⟩
    exact hn v w'' hv (hs.trans hs')
  | _ => exact hk.elim
end Go.NW
namespace Go.NW
open Go
def cellsAt (H : Hp) (a : Addr) (n : Nat) : Option (Array Value) :=
  match H[a.block]? with
  | some (.cells c _ _) => if a.spot.isNone && decide (a.off + n ≤ c.size) then some (c.extract a.off (a.off + n)) else none
  | _ => none
def Ld (H : Hp) : Value → Option Value
  | .pointer (some a) => cellAt H a
  | _ => none
def LdA (n : Nat) (H : Hp) : Value → Option Value
  | .pointer (some a) => (cellsAt H a n).map .agg
  | _ => none
def Nz : Value → Option Value
  | .pointer (some a) => some (.pointer (some a))
  | _ => none
def Fa (off : Nat) : Value → Option Value
  | .pointer (some a) => some (.pointer (some (a.add off)))
  | _ => none
/-- the address of an element of a slice -/
def Ix (size : Nat) : Value → Value → Option Value
  | .slice (some a) len _, .int _ i => if 0 ≤ i ∧ i < len then some (.pointer (some (a.add (i.toNat * size)))) else none
  | _, _ => none
/-- the address of an element of an array -/
def IxA (len size : Nat) : Value → Value → Option Value
  | .pointer (some a), .int _ i => if 0 ≤ i ∧ i < len then some (.pointer (some (a.add (i.toNat * size)))) else none
  | _, _ => none
def bnd (v : Option Value) (limit dflt : Nat) : Option Nat :=
  match v with
  | none => some dflt
  | some (.int _ i) => if 0 ≤ i ∧ i ≤ limit then some i.toNat else none
  | _ => none
def Sl (size : Nat) (x : Value) (lo hi mx : Option Value) : Option Value :=
  match x with
  | .slice a len cap =>
    (bnd mx cap cap).bind fun m => (bnd hi m len).bind fun h => (bnd lo h 0).bind fun l =>
      some (.slice (if m = l then a else a.map (·.add (l * size))) (h - l) (m - l))
  | _ => none
def Pk : Value → Value → Value → Option Value
  | .bool b, x, y => some (if b then x else y)
  | _, _, _ => none
def Ex (i : Nat) : Value → Option Value
  | .tuple vs => vs[i]?
  | _ => none
/-- What needs no heap. -/
def pv {α : Type} (P : Program) : Sem α → Option α
  | .pure a => some a
  | .program k => pv P (k P)
  | .mark _ k => pv P k
  | _ => none
theorem pv_rd {α : Type} {P : Program} (H : Hp) (s : Sem α) : ∀ {a : α}, pv P s = some a → rd P H s = some a := by
  induction s with
  | pure x => intro a h; exact h
  | program k ih => intro a h; exact ih _ h
  | mark m k ih => intro a h; exact ih h
  | _ => intro a h; simp [pv] at h
/-- Does this comparison look into the heap? -/
def binHeapy (P : Program) (op : BinOp) (t : TypeId) : Bool :=
  match op with
  | .eql | .neq => match P.underlying t with
    | some (.int _) | some .bool | some .string | some (.slice _) | some (.map ..) | some (.func ..) => false
    | _ => true
  | _ => false
def isC : Operand → Bool
  | .const _ => true
  | _ => false
def Bin (P : Program) (H : Hp) (op : BinOp) (t : TypeId) (lit : Bool) (x y : Value) : Option Value :=
  match op, x, y with
  | .eql, .nilIface, .nilIface | .neq, .nilIface, .nilIface => if lit then bif binHeapy P op t then rd P H (binOp op t x y) else pv P (binOp op t x y) else none
  | .eql, .agg _, .agg _ | .neq, .agg _, .agg _ => none
  | _, _, _ => bif binHeapy P op t then rd P H (binOp op t x y) else pv P (binOp op t x y)
def q (e : Option Value) (K : Value → Prop) : Prop :=
  match e with
  | some v => K v
  | none => False
/-- a guarded value -/
def gd (g : Value) (want : Bool) (e : Option Value) : Option Value :=
  match g with
  | .bool b => if b = want then e else some undef
  | _ => some undef
def aggSize (P : Program) (t : TypeId) : Option (Option Nat) :=
  match P.underlying t with
  | some (.struct _) | some (.array _ _) => some ((P.info? t).map (·.size))
  | some _ => none
  | none => some none
def LdT (P : Program) (t : TypeId) (H : Hp) (v : Value) : Option Value :=
  match aggSize P t with
  | some (some n) => LdA n H v
  | some none => none
  | none => Ld H v
def offOf (P : Program) (s : TypeId) (f : Nat) : Option Nat :=
  match P.underlying s with
  | some (.struct fields) => match fields[f]? with
    | some fd => if (P.info? fd.type).any (fun i => i.size != 0) then some fd.offset else none
    | none => none
  | _ => none
def elemSize (P : Program) (e : TypeId) : Option Nat := (P.info? e).map (·.size)
def argsOf (ρ : Operand → Value) (l : Array Operand) : Array Value := (l.toList.map ρ).toArray
theorem argsOf_eq (ρ : Operand → Value) (l : Array Operand) : argsOf ρ l = l.map ρ := by apply Array.ext'; simp [argsOf]
def partsOf (ρ : Operand → Value) (l : Array (Nat × Operand)) : Array (Nat × Value) := (l.toList.map fun p => (p.1, ρ p.2)).toArray
theorem partsOf_eq (ρ : Operand → Value) (l : Array (Nat × Operand)) : partsOf ρ l = l.map fun (i, x) => (i, ρ x) := by apply Array.ext'; simp [partsOf]
/-- The value of an operation that only reads; 'none': it is none of these, or it panics. -/
def qv (P : Program) (ρ : Operand → Value) (H : Hp) : Op → Option Value
  | .move x | .assign x => some (ρ x)
  | .pick c a b => Pk (ρ c) (ρ a) (ρ b)
  | .build t parts => pv P (Instr.build t (partsOf ρ parts))
  | .load t a => LdT P t H (ρ a)
  | .nilCheck x => Nz (ρ x)
  | .binOp op t x y _ => Bin P H op t (isC x || isC y) (ρ x) (ρ y)
  | .unOp op _ x => pv P (Op.unary op (ρ x))
  | .convert s d x => pv P (convert s d (ρ x))
  | .makeInterface t x => pv P (Instr.makeInterface t (ρ x))
  | .makeFunc fn first captured => some (.func fn (argsOf ρ first) (argsOf ρ captured))
  | .slice t x lo hi mx => bif mx.isSome && hi.isNone then none else match P.underlying t with
    | some (.slice e) => match elemSize P e with
      | some n => Sl n (ρ x) (lo.map ρ) (hi.map ρ) (mx.map ρ)
      | none => none
    | _ => none
  | .fieldAddr s x f => match offOf P s f with
    | some off => Fa off (ρ x)
    | none => none
  | .field t x f => pv P (Instr.field t (ρ x) f)
  | .indexAddr t x i => match P.underlying t with
    | some (.slice e) => match elemSize P e with
      | some n => Ix n (ρ x) (ρ i)
      | none => none
    | some (.array len e) => match elemSize P e with
      | some n => IxA len n (ρ x) (ρ i)
      | none => none
    | _ => none
  | .index t x i => pv P (Instr.index t (ρ x) (ρ i))
  | .lookup t x i ok => rd P H (Instr.lookup t (ρ x) (ρ i) ok)
  | .entry it => rd P H (Instr.entry (ρ it))
  | .typeAssert x xt t ok => pv P (Instr.typeAssert (ρ x) xt t ok)
  | .extract t i => Ex i (ρ t)
  | .call { callee := .builtin .len, args, argTypes } => pv P (Builtin.len_ argTypes 0 (argsOf ρ args))
  | .call { callee := .builtin .cap, args, argTypes } => pv P (Builtin.cap_ argTypes 0 (argsOf ρ args))
  | .call { callee := .builtin .max, args, argTypes } => pv P (Builtin.max_ argTypes 0 (argsOf ρ args))
  | .call { callee := .builtin .min, args, argTypes } => pv P (Builtin.min_ argTypes 0 (argsOf ρ args))
  | _ => none
def quiet : Op → Bool
  | .move _ | .assign _ | .pick .. | .build .. | .load .. | .nilCheck _ | .binOp .. | .unOp .. | .convert .. | .makeInterface .. | .makeFunc .. | .slice .. | .fieldAddr .. | .field ..
  | .indexAddr .. | .index .. | .lookup .. | .entry _ | .typeAssert .. | .extract .. => true
  | .call { callee := .builtin .len, .. } | .call { callee := .builtin .cap, .. } | .call { callee := .builtin .max, .. } | .call { callee := .builtin .min, .. } => true
  | _ => false
section sound
variable {P : Program} {H : Hp}
theorem rd_b {α β : Type} (s : Sem α) (f : α → Sem β) : rd P H (s >>= f) = (rd P H s).bind fun a => rd P H (f a) := rd_bind s f
theorem rd_p {α : Type} (a : α) : rd P H (pure a : Sem α) = some a := rfl
theorem rd_value {s : Sem Value} {v : Value} (h : rd P H s = some v) : rd P H (do pure (Next.value (← s)) : Sem Next) = some (.value v) := by
  rw [rd_b, h]; rfl
theorem rd_underlying {t : TypeId} {d : TypeDesc} (h : P.underlying t = some d) : rd P H (underlying t) = some d := by
  simp only [underlying, rd_b, program, rd, Option.bind_some, h]; rfl
theorem rd_typeInfo {t : TypeId} {i : TypeInfo} (h : P.info? t = some i) : rd P H (typeInfo t) = some i := by
  simp only [typeInfo, rd_b, program, rd, Option.bind_some, h]; rfl
theorem rd_sizeOf {t : TypeId} {n : Nat} (h : elemSize P t = some n) : rd P H (sizeOf t) = some n := by
  unfold elemSize at h
  cases hi : P.info? t with
  | none => simp [hi] at h
  | some i => simp only [hi, Option.map_some, Option.some.injEq] at h; subst h; simp only [sizeOf, rd_b, rd_typeInfo hi, Option.bind_some]; rfl
theorem rd_load (a : Addr) : rd P H (load a) = cellAt H a := by
  simp only [load, rd]; cases cellAt H a <;> rfl
theorem cellAt_add {c : Array Value} {T : TypeId} {fz : Nat × Nat} {a : Addr} (h : H[a.block]? = some (.cells c T fz)) (hs : a.spot = none) (i : Nat) :
    cellAt H (a.add i) = c[a.off + i]? := by
  unfold cellAt Addr.add
  by_cases e : i = 0
  · subst e; simp [h, hs]
  · simp [e, h]
theorem rd_loadCellsFrom {c : Array Value} {T : TypeId} {fz : Nat × Nat} {a : Addr} (h : H[a.block]? = some (.cells c T fz)) (hs : a.spot = none) (n : Nat) :
    ∀ (i : Nat) (acc : Array Value), a.off + i + n ≤ c.size → rd P H (loadCellsFrom a i n acc) = some (acc ++ c.extract (a.off + i) (a.off + i + n)) := by
  induction n with
  | zero => intro i acc hle; simp [loadCellsFrom, rd_p]; omega
  | succ n ih =>
    intro i acc hle
    have hlt : a.off + i < c.size := by omega
    have hc : cellAt H (a.add i) = some c[a.off + i] := by rw [cellAt_add h hs]; simp [hlt]
    simp only [loadCellsFrom, rd_b, rd_load, hc, Option.bind_some]
    rw [ih (i + 1) _ (by omega)]
    congr 1
    apply Array.ext'
    simp only [Array.toList_append, Array.toList_push, Array.toList_extract, List.append_assoc]
    congr 1
    rw [List.extract_eq_take_drop, List.extract_eq_take_drop]
    have : c.toList.drop (a.off + i) = c[a.off + i] :: c.toList.drop (a.off + i + 1) := by
      rw [List.drop_eq_getElem_cons (by simpa using hlt)]; simp
    rw [this]
    rw [show a.off + i + (n + 1) - (a.off + i) = n + 1 by omega, show a.off + (i + 1) + n - (a.off + (i + 1)) = n by omega, show a.off + (i + 1) = a.off + i + 1 by omega]
    simp
theorem rd_loadCells {a : Addr} {n : Nat} {cs : Array Value} (h : cellsAt H a n = some cs) : rd P H (loadCells a n) = some cs := by
  unfold cellsAt at h
  split at h
  · rename_i c T fz hb
    split at h
    · rename_i hc
      simp only [Bool.and_eq_true, Option.isNone_iff_eq_none, decide_eq_true_eq] at hc
      simp only [Option.some.injEq] at h
      rw [loadCells, rd_loadCellsFrom hb hc.1 n 0 #[] (by omega)]
      simpa using h
    · simp at h
  · simp at h
theorem rd_LdT {t : TypeId} {v r : Value} (h : LdT P t H v = some r) : rd P H (Instr.loadAt t v) = some r := by
  unfold LdT at h
  split at h
  · rename_i n hn
    unfold aggSize at hn
    unfold LdA at h
    split at h
    · rename_i a
      obtain ⟨cs, hcs, rfl⟩ := Option.map_eq_some_iff.1 h
      have hsz : ∀ {d}, P.underlying t = some d → (P.info? t).map (·.size) = some n → (match d with | .struct _ | .array _ _ => true | _ => false) = true → rd P H (Instr.loadAt t (.pointer (some a))) = some (.agg cs) := by
        intro d hd hs hb
        have hag : rd P H (isAgg t) = some true := by
          simp only [isAgg, rd_b, rd_underlying hd, Option.bind_some]
          cases d <;> first | rfl | simp at hb
        simp only [Instr.loadAt, Instr.sureAddr, rd_b, rd_p, Option.bind_some, loadVar, hag, if_true, rd_sizeOf (H := H) hs, rd_loadCells hcs]
      split at hn <;> first
        | (rename_i hd; exact hsz hd (by simpa using hn) rfl)
        | simp at hn
    · simp at h
  · simp at h
  · rename_i hn
    unfold aggSize at hn
    unfold Ld at h
    split at h
    · rename_i a
      split at hn
      · simp at hn
      · simp at hn
      · rename_i d h1 h2 hd
        have hag : rd P H (isAgg t) = some false := by
          simp only [isAgg, rd_b, rd_underlying hd, Option.bind_some]
          cases d <;> first | rfl | exact (h1 _ rfl).elim | exact (h2 _ _ rfl).elim
        simp only [Instr.loadAt, Instr.sureAddr, rd_b, rd_p, Option.bind_some, loadVar, hag, Bool.false_eq_true, if_false, rd_load, h]
      · simp at hn
    · simp at h
theorem rd_Fa {s : TypeId} {f off : Nat} {v r : Value} (ho : offOf P s f = some off) (h : Fa off v = some r) : rd P H (Instr.fieldAt s v f) = some r := by
  unfold offOf at ho
  split at ho
  · rename_i fields hu
    split at ho
    · rename_i fd hf
      split at ho
      · rename_i hz
        simp only [Option.some.injEq] at ho
        subst ho
        unfold Fa at h
        split at h
        · rename_i a
          simp only [Option.some.injEq] at h
          subst h
          obtain ⟨i, hi, hne⟩ : ∃ i, P.info? fd.type = some i ∧ i.size ≠ 0 := by
            cases hi : P.info? fd.type with
            | none => simp [hi] at hz
            | some i => exact ⟨i, rfl, by simpa [hi] using hz⟩
          have hs : elemSize P fd.type = some i.size := by simp [elemSize, hi]
          simp only [Instr.fieldAt, rd_b, rd_underlying hu, Option.bind_some, hf, Instr.sureAddr, rd_p, fieldPlace, rd_sizeOf hs, if_neg hne]
        · simp at h
      · simp at ho
    · simp at ho
  · simp at ho
theorem rd_bound {v : Value} {limit dflt r : Nat} (h : bnd (some v) limit dflt = some r) (code : BoundsCode) :
    rd P H (Instr.sliceBound v limit code) = some r := by
  unfold bnd at h
  split at h
  · rename_i hv; exact absurd hv (by simp)
  · rename_i k i hv
    simp only [Option.some.injEq] at hv
    subst hv
    split at h
    · rename_i hc
      simp only [Instr.sliceBound, asIntOf, rd_b, rd_p, Option.bind_some, if_pos hc]; simpa using h
    · simp at h
  · simp at h
theorem rd_bounds {len cap m h' l : Nat} {lo hi mx : Option Value} (hx : mx.isSome = true → hi.isSome = true) (hm : bnd mx cap cap = some m) (hh : bnd hi m len = some h')
    (hl : bnd lo h' 0 = some l) : rd P H (Instr.sliceBounds true len cap lo hi mx) = some (l, h', m) := by
  cases mx with
  | none =>
    have hmc : m = cap := by simpa [bnd] using hm.symm
    subst hmc
    cases hi with
    | none =>
      have : h' = len := by simpa [bnd] using hh.symm
      subst this
      cases lo with
      | none => have : l = 0 := by simpa [bnd] using hl.symm
                subst this; rfl
      | some v => simp only [Instr.sliceBounds, pure_bind, rd_b, rd_bound hl, Option.bind_some]; rfl
    | some u =>
      cases lo with
      | none => have : l = 0 := by simpa [bnd] using hl.symm
                subst this; simp only [Instr.sliceBounds, pure_bind, rd_b, rd_bound hh, Option.bind_some]; rfl
      | some v => simp only [Instr.sliceBounds, pure_bind, rd_b, rd_bound hl, rd_bound hh, Option.bind_some]; rfl
  | some x =>
    cases hi with
    | none => exact absurd (hx rfl) (by simp)
    | some u =>
      cases lo with
      | none => have : l = 0 := by simpa [bnd] using hl.symm
                subst this; simp only [Instr.sliceBounds, pure_bind, rd_b, rd_bound hm, rd_bound hh, Option.bind_some]; rfl
      | some v => simp only [Instr.sliceBounds, rd_b, rd_bound hm, rd_bound hl, rd_bound hh, Option.bind_some]; rfl
theorem rd_Sl {t e : TypeId} {n : Nat} {x r : Value} {lo hi mx : Option Value} (hu : P.underlying t = some (.slice e)) (hs : elemSize P e = some n)
    (hx : mx.isSome = true → hi.isSome = true)
    (h : Sl n x lo hi mx = some r) : rd P H (Instr.sliceAt t x lo hi mx) = some r := by
  unfold Sl at h
  split at h
  · rename_i a len cap
    simp only [Option.bind_eq_some_iff] at h
    obtain ⟨m, hm, h', hh, l, hl, hr⟩ := h
    simp only [Option.some.injEq] at hr
    subst hr
    simp only [Instr.sliceAt, Instr.slice, rd_b, rd_underlying hu, Option.bind_some, rd_bounds hx hm hh hl, rd_sizeOf hs]
    rfl
  · simp at h
theorem rd_Ix {t e : TypeId} {n : Nat} {x i r : Value} (hu : P.underlying t = some (.slice e)) (hs : elemSize P e = some n)
    (h : Ix n x i = some r) : rd P H (Instr.indexAt t x i) = some r := by
  unfold Ix at h
  split at h
  · rename_i a len cap k i
    split at h
    · rename_i hc
      simp only [Instr.indexAt, asIntOf, rd_b, rd_p, Option.bind_some, rd_underlying hu, if_pos hc, rd_sizeOf hs]
      exact h
    · simp at h
  · simp at h
theorem rd_IxA {t e : TypeId} {len n : Nat} {x i r : Value} (hu : P.underlying t = some (.array len e)) (hs : elemSize P e = some n)
    (h : IxA len n x i = some r) : rd P H (Instr.indexAt t x i) = some r := by
  unfold IxA at h
  split at h
  · rename_i a k i
    split at h
    · rename_i hc
      simp only [Instr.indexAt, asIntOf, rd_b, rd_p, Option.bind_some, rd_underlying hu, Instr.sureAddr, if_pos hc, rd_sizeOf hs]
      exact h
    · simp at h
  · simp at h
theorem rd_Bin {op : BinOp} {t : TypeId} {xo yo : Operand} {x y r : Value} (h : Bin P H op t (isC xo || isC yo) x y = some r) :
    rd P H (do eqGuard op t xo yo x y; binOp op t x y) = some r := by
  have hg : rd P H (eqGuard op t xo yo x y) = some () ∧ rd P H (binOp op t x y) = some r := by
    have hb : ∀ {op : BinOp} {x y : Value}, (bif binHeapy P op t then rd P H (binOp op t x y) else pv P (binOp op t x y)) = some r → rd P H (binOp op t x y) = some r := by
      intro op x y h
      cases hc : binHeapy P op t with
      | true => simpa [hc] using h
      | false => rw [hc] at h; exact pv_rd _ _ h
    unfold Bin at h
    split at h
    · split at h
      · rename_i hl
        refine ⟨?_, hb h⟩
        simp only [Bool.or_eq_true] at hl
        rcases hl with hl | hl
        · cases xo <;> first | rfl | simp [isC] at hl
        · cases xo <;> cases yo <;> first | rfl | simp [isC] at hl
      · simp at h
    · split at h
      · rename_i hl
        refine ⟨?_, hb h⟩
        simp only [Bool.or_eq_true] at hl
        rcases hl with hl | hl
        · cases xo <;> first | rfl | simp [isC] at hl
        · cases xo <;> cases yo <;> first | rfl | simp [isC] at hl
      · simp at h
    · simp at h
    · simp at h
    · rename_i h1 h2 h3 h4
      refine ⟨?_, hb h⟩
      cases op <;> first
        | rfl
        | (cases x <;> cases y <;> first | rfl | exact (h1 rfl rfl rfl).elim | exact (h2 rfl rfl rfl).elim | exact (h3 _ _ rfl rfl rfl).elim | exact (h4 _ _ rfl rfl rfl).elim)
  rw [rd_b, hg.1]; exact hg.2
theorem rd_nilCheck {x : Operand} {ρ : Operand → Value} {o : Oper} {r : Value} (ho : o.op = .nilCheck x) (h : Nz (ρ x) = some r) : rd P H (execOp ρ o) = some (.value r) := by
  unfold Nz at h
  split at h
  · rename_i a hx
    simp only [Option.some.injEq] at h
    subst h
    simp only [execOp, ho, hx]; rfl
  · simp at h
/-- A quiet operation comes to its value. -/
theorem qv_exec {ρ : Operand → Value} {o : Oper} {r : Value} (h : qv P ρ H o.op = some r) :
    rd P H (execOp ρ o) = some (.value r) := by
  obtain ⟨dst, op, type, pos, after, guard⟩ := o
  simp only at h
  cases op with
  | move x => simp only [qv, Option.some.injEq] at h; subst h; rfl
  | assign x => simp only [qv, Option.some.injEq] at h; subst h; rfl
  | pick c a b =>
    simp only [qv, Pk] at h
    split at h
    · rename_i b' _ _ hc
      simp only [Option.some.injEq] at h
      subst h
      simp only [execOp, hc, asBool, rd_b, rd_p, Option.bind_some]
    · simp at h
  | build t parts => simp only [qv, partsOf_eq] at h; exact rd_value (pv_rd _ _ h)
  | load t a => exact rd_value (rd_LdT h)
  | nilCheck x => exact rd_nilCheck rfl h
  | binOp op t x y _ => exact rd_value (rd_Bin h)
  | unOp op _ x => exact rd_value (pv_rd _ _ h)
  | convert s d x => exact rd_value (pv_rd _ _ h)
  | makeInterface t x => exact rd_value (pv_rd _ _ h)
  | makeFunc fn first captured => simp only [qv, argsOf_eq, Option.some.injEq] at h; subst h; rfl
  | slice t x lo hi mx =>
    simp only [qv] at h
    cases hc : (mx.isSome && hi.isNone) with
    | true => simp [hc] at h
    | false =>
      simp only [hc, cond_false] at h
      split at h
      · rename_i e hu
        split at h
        · rename_i n hs
          exact rd_value (rd_Sl hu hs (by cases mx <;> cases hi <;> simp at hc ⊢) h)
        · simp at h
      · simp at h
  | fieldAddr s x f =>
    simp only [qv] at h
    split at h
    · rename_i off ho; exact rd_value (rd_Fa ho h)
    · simp at h
  | field t x f => exact rd_value (pv_rd _ _ h)
  | indexAddr t x i =>
    simp only [qv] at h
    split at h
    · rename_i e hu
      split at h
      · rename_i n hs; exact rd_value (rd_Ix hu hs h)
      · simp at h
    · rename_i len e hu
      split at h
      · rename_i n hs; exact rd_value (rd_IxA hu hs h)
      · simp at h
    · simp at h
  | index t x i => exact rd_value (pv_rd _ _ h)
  | lookup t x i ok => exact rd_value h
  | entry it => exact rd_value h
  | typeAssert x xt t ok => exact rd_value (pv_rd _ _ h)
  | extract t i =>
    simp only [qv, Ex] at h
    split at h
    · rename_i vs hv
      exact rd_value (by simp only [Instr.extract, hv, h]; rfl)
    · simp at h
  | call c =>
    obtain ⟨callee, args, argTypes⟩ := c
    cases callee with
    | builtin b =>
      cases b with
      | len => simp only [qv, argsOf_eq] at h; exact rd_value (s := Builtin.len_ argTypes type (args.map ρ)) (pv_rd _ _ h)
      | cap => simp only [qv, argsOf_eq] at h; exact rd_value (s := Builtin.cap_ argTypes type (args.map ρ)) (pv_rd _ _ h)
      | max => simp only [qv, argsOf_eq] at h; exact rd_value (s := Builtin.max_ argTypes type (args.map ρ)) (pv_rd _ _ h)
      | min => simp only [qv, argsOf_eq] at h; exact rd_value (s := Builtin.min_ argTypes type (args.map ρ)) (pv_rd _ _ h)
      | _ => simp [qv] at h
    | _ => simp [qv] at h
  | _ => simp [qv] at h
/-- Does a quiet operation look into the heap? -/
def heapy (P : Program) : Op → Bool
  | .load .. | .lookup .. | .entry _ => true
  | .binOp op t .. => binHeapy P op t
  | _ => false
theorem qv_same (ρ : Operand → Value) (H H' : Hp) (op : Op) (h : heapy P op = false) : qv P ρ H op = qv P ρ H' op := by
  cases op with
  | load _ _ => simp [heapy] at h
  | lookup _ _ _ _ => simp [heapy] at h
  | entry _ => simp [heapy] at h
  | binOp op t x y _ =>
    simp only [heapy] at h
    simp only [qv, Bin, h, cond_false]
  | call c =>
    obtain ⟨callee, args, argTypes⟩ := c
    cases callee with
    | builtin b => cases b <;> rfl
    | _ => rfl
  | _ => rfl
end sound
end Go.NW
namespace Go.NW
open Go
def wrL (c : Array Value) (off : Nat) : List Value → Array Value
  | [] => c
  | v :: vs => wrL (c.setIfInBounds off v) (off + 1) vs
theorem wrL_size (vs : List Value) : ∀ (c : Array Value) (off : Nat), (wrL c off vs).size = c.size := by
  induction vs with
  | nil => intro c off; rfl
  | cons v vs ih => intro c off; simp [wrL, ih]
def putAt (H : Hp) (a : Addr) (n : Nat) (x : Value) : Option Hp :=
  match H[a.block]? with
  | some (.cells c T (0, 0)) =>
    if a.spot.isNone && Nat.beq x.cells.size n && decide (a.off + n ≤ c.size) && x.cells.toList.all one then some (H.setIfInBounds a.block (.cells (wrL c a.off x.cells.toList) T (0, 0))) else none
  | _ => none
/-- a store -/
def St (n : Nat) (H : Hp) (a x : Value) (K : Hp → Prop) : Prop :=
  match a with
  | .pointer (some a) => match putAt H a n x with
    | some H' => K H'
    | none => False
  | _ => False
/-- a new block -/
def New (cells : Array Value) (T : TypeId) (H : Hp) (K : RT1) : Prop :=
  K (.pointer (some ⟨H.size, 0, none⟩)) (H.push (.cells cells T))
/-- the cells of a slice that is written out -/
def bslCells (zero : Array Value) (size len : Nat) (parts : List (Nat × Value)) : Option (Array Value) :=
  if len * size > 2 ^ 24 then none else
  Instr.fill (fun i => some (i * size, size)) ((Array.range (len * size)).map (zero[· % zero.size]!)) parts
def Bsl (zero : Array Value) (size e len : Nat) (parts : List (Nat × Value)) (H : Hp) (K : RT1) : Prop :=
  match bslCells zero size len parts with
  | some cells => K (.slice (some ⟨H.size, 0, none⟩) len len) (H.push (.cells cells e))
  | none => False
/-- a call of a function value -/
def CallV (P : Program) (f : Value) (args : List Value) (H : Hp) (K : RT1) : Prop :=
  match f with
  | .func (.func g) first captured => NCalls P g (first.toList ++ (args ++ captured.toList)).toArray H K
  | _ => False
/-- an operation that is not quiet -/
def xl (P : Program) (ρ : Operand → Value) (H : Hp) (o : Op) (ty : TypeId) (K : RT1) : Prop :=
  match o with
  | .alloc t => match (P.info? t).bind (·.zero) with
    | some z => New z.cells t H K
    | none => False
  | .box t x => New (ρ x).cells t H K
  | .buildSlice t len parts => match P.underlying t with
    | some (.slice e) => match P.info? e with
      | some i => match i.zero with
        | some z => Bsl z.cells i.size e len (partsOf ρ parts).toList H K
        | none => False
      | none => False
    | _ => False
  | .store t a x => match elemSize P t with
    | some n => St n H (ρ a) (ρ x) (K undef)
    | none => False
  | .makeMap _ none => K (.map (some H.size)) (H.push (.map #[] 0))
  | .makeSlice t l c => dm P (Instr.makeSlice t (ρ l) (ρ c)) H K
  | .mapUpdate t m k x => dm P (Instr.mapUpdate t (ρ m) (ρ k) (ρ x)) H fun _ H' => K undef H'
  | .mapEntry t m k => dm P (Instr.mapEntry t (ρ m) (ρ k)) H K
  | .entryStore t m s x => dm P (Instr.entryStore t (ρ m) (ρ s) (ρ x)) H fun _ H' => K undef H'
  | .range t x => dm P (Instr.range t (ρ x)) H K
  | .next it s => dm P (Instr.next (ρ it) s ty) H K
  | .call { callee := .value f, args, .. } => CallV P (ρ f) (args.toList.map ρ) H K
  | .call { callee := .builtin .append, args, argTypes } => dm P (Builtin.append_ argTypes 0 (argsOf ρ args)) H K
  | .call { callee := .builtin .copy, args, argTypes } => dm P (Builtin.copy_ argTypes 0 (argsOf ρ args)) H K
  | .call { callee := .builtin .clear, args, argTypes } => dm P (Builtin.clear_ argTypes 0 (argsOf ρ args)) H K
  | .call { callee := .builtin .delete, args, argTypes } => dm P (Builtin.delete_ argTypes 0 (argsOf ρ args)) H K
  | _ => False
section sound
variable {P : Program}
theorem setAt_eq {H : Hp} {c : Array Value} {T : TypeId} {fz : Nat × Nat} {a : Addr} (h : H[a.block]? = some (.cells c T fz)) (hs : a.spot = none) (v : Value) :
    setAt H a v = H.setIfInBounds a.block (.cells (c.setIfInBounds a.off v) T fz) := by
  apply Array.ext_getElem?
  intro i
  simp only [setAt, Array.getElem?_modify, Array.getElem?_setIfInBounds]
  by_cases e : a.block = i
  · subst e
    have hlt : a.block < H.size := by
      rcases Nat.lt_or_ge a.block H.size with h' | h'
      · exact h'
      · simp [Array.getElem?_eq_none h'] at h
    have he : H[a.block] = .cells c T fz := by simpa [Array.getElem?_eq_getElem hlt] using h
    simp [he, hs, hlt]
  · simp [e]
theorem dm_b {α β : Type} (s : Sem α) (f : α → Sem β) (H : Hp) (K : β → Hp → Prop) : dm P (s >>= f) H K ↔ dm P s H (fun a H' => dm P (f a) H' K) := dm_bind P s f H K
theorem dm_v {s : Sem Value} {H : Hp} {K : Next → Hp → Prop} (h : dm P s H (fun v H' => K (.value v) H')) : dm P (do pure (Next.value (← s)) : Sem Next) H K := (dm_b _ _ _ _).2 h
theorem dm_u {s : Sem Unit} {H : Hp} {K : Next → Hp → Prop} (h : dm P s H (fun _ H' => K .skip H')) : dm P (do s; pure Next.skip : Sem Next) H K := (dm_b _ _ _ _).2 h
theorem dm_storeCells {T : TypeId} {a : Addr} (hs : a.spot = none) (vs : List Value) :
    ∀ (H : Hp) (c : Array Value) (i : Nat) (K : Unit → Hp → Prop), H[a.block]? = some (.cells c T (0, 0)) → a.off + i + vs.length ≤ c.size → vs.all one = true →
      K () (H.setIfInBounds a.block (.cells (wrL c (a.off + i) vs) T (0, 0))) → dm P (storeCells a vs i) H K := by
  induction vs with
  | nil =>
    intro H c i K h hle ho hK
    have hlt : a.block < H.size := by
      rcases Nat.lt_or_ge a.block H.size with h' | h'
      · exact h'
      · simp [Array.getElem?_eq_none h'] at h
    have : H.setIfInBounds a.block (.cells c T (0, 0)) = H := by
      apply Array.ext_getElem?
      intro j
      rw [Array.getElem?_setIfInBounds]
      by_cases e : a.block = j
      · subst e
        have he : H[a.block] = .cells c T (0, 0) := by simpa [Array.getElem?_eq_getElem hlt] using h
        simp [hlt, he]
      · simp [e]
    simp only [wrL, this] at hK
    exact hK
  | cons v vs ih =>
    intro H c i K h hle ho hK
    simp only [List.length_cons] at hle
    simp only [List.all_cons, Bool.and_eq_true] at ho
    have hb : (a.add i).block = a.block := by unfold Addr.add; split <;> rfl
    have hof : (a.add i).off = a.off + i := by unfold Addr.add; split <;> simp_all
    have hsp : (a.add i).spot = none := by unfold Addr.add; split <;> simp_all
    have hlt : a.block < H.size := by
      rcases Nat.lt_or_ge a.block H.size with h' | h'
      · exact h'
      · simp [Array.getElem?_eq_none h'] at h
    rw [storeCells]
    refine (dm_b _ _ _ _).2 ?_
    refine ⟨ho.1, ?_, ?_, ?_⟩
    · rw [cellAt_add h hs]; simp; omega
    · simp only [frozenAt, hb, h]; simp
    · simp only [dm]
      rw [setAt_eq (by rw [hb]; exact h) hsp, hb, hof]
      refine ih _ (c.setIfInBounds (a.off + i) v) (i + 1) K ?_ (by simp; omega) ho.2 ?_
      · rw [Array.getElem?_setIfInBounds]; simp [hlt]
      · rw [Array.setIfInBounds_setIfInBounds, show a.off + (i + 1) = a.off + i + 1 by omega]
        exact hK
theorem dm_storeAt {t : TypeId} {n : Nat} {H : Hp} {a x : Value} {K : Hp → Prop} (hn : elemSize P t = some n) (h : St n H a x K) :
    dm P (Instr.storeAt t a x) H (fun _ H' => K H') := by
  unfold St at h
  split at h
  · rename_i a
    split at h
    · rename_i H' hp
      unfold putAt at hp
      split at hp
      · rename_i c T hb
        split at hp
        · rename_i hc
          simp only [Bool.and_eq_true, Option.isNone_iff_eq_none, decide_eq_true_eq] at hc
          obtain ⟨⟨⟨h1, h2⟩, h3⟩, h4⟩ := hc
          have h2 := Nat.eq_of_beq_eq_true h2
          simp only [Option.some.injEq] at hp
          subst hp
          simp only [Instr.storeAt, Instr.sureAddr, pure_bind, storeVar]
          refine (dm_b _ _ _ _).2 ((rd_dm _ (rd_sizeOf hn) _).2 ?_)
          rw [if_neg (by simpa using h2)]
          exact dm_storeCells h1 _ H c 0 _ hb (by simpa [h2] using h3) h4 h
        · simp at hp
      · simp at hp
    · exact h.elim
  · exact h.elim
theorem dm_callBody {g : FuncId} {args : Array Value} {H : Hp} {K : Next → Hp → Prop} (ho : okFn P g = true) (h : K (.enter g args) H) : dm P (callFunc g args) H K := by
  unfold okFn at ho
  split at ho
  · rename_i fn hf
    simp only [Bool.and_eq_true, Bool.not_eq_true'] at ho
    unfold callFunc
    refine (dm_b _ _ _ _).2 ?_
    show dm P _ H K
    simp only [hf]
    rw [if_neg (by simp [ho.2]), if_neg (by rw [Option.isNone_iff_eq_none]; intro e; simp [e] at ho)]
    exact h
  · simp at ho
theorem dm_callExt {g : FuncId} {args : Array Value} {H : Hp} {e : Array Value → Sem Value} {K : Next → Hp → Prop} (he : extOf P g = some e) (h : dm P (e args) H fun v H' => K (.value v) H') :
    dm P (callFunc g args) H K := by
  unfold extOf at he
  split at he
  · rename_i fn hf
    split at he
    · cases he
    · rename_i hc
      simp only [Bool.not_eq_true, Bool.or_eq_false_iff] at hc
      obtain ⟨⟨h1, h2⟩, h3⟩ := hc
      have h2' : fn.body.isNone = true := by cases hb : fn.body <;> simp_all
      have h3' : Extern.findNext fn = none := by cases hb : Extern.findNext fn <;> simp_all
      unfold callFunc
      refine (dm_b _ _ _ _).2 ?_
      show dm P _ H K
      simp only [hf]
      rw [if_neg (by simp [h1]), if_pos h2']
      refine (dm_b _ _ _ _).2 ?_
      show dm P _ H K
      rw [h3']
      simp only [he]
      exact (dm_b _ _ _ _).2 h
  · cases he
theorem dm_callFunc {g : FuncId} {args : Array Value} {H : Hp} {K : RT1} (h : NCalls P g args H K) :
    dm P (callFunc g args) H fun n H' => match n with
    | .value v => K v H'
    | .skip => K undef H'
    | .enter f args => NBody P f args H' K
    | _ => False := by
  rcases h with h | ⟨e, he, h⟩
  · exact dm_callBody h.1 h
  · exact dm_callExt he h
theorem dm_buildSlice {t e : TypeId} {i : TypeInfo} {z : Value} {len : Nat} {ps : Array (Nat × Value)} {H : Hp} {K : RT1}
    (hu : P.underlying t = some (.slice e)) (hi : P.info? e = some i) (hz : i.zero = some z) (h : Bsl z.cells i.size e len ps.toList H K) : dm P (Instr.buildSlice t len ps) H K := by
  unfold Bsl bslCells at h
  split at h
  · rename_i cells hc
    split at hc
    · simp at hc
    · rename_i hlt
      have hs : elemSize P e = some i.size := by simp [elemSize, hi]
      have hzv : rd P H (zeroValue e) = some z := by simp only [zeroValue, rd_b, rd_typeInfo hi, Option.bind_some, hz]; rfl
      have e1 : (Array.range (len * i.size)).map ((if len * i.size = 0 then #[] else z.cells : Array Value)[· % (if len * i.size = 0 then #[] else z.cells : Array Value).size]!) = (Array.range (len * i.size)).map (z.cells[· % z.cells.size]!) := by
        split
        · rename_i h0; rw [h0]; simp
        · rfl
      unfold Instr.buildSlice
      refine (dm_b _ _ _ _).2 ((rd_dm _ (rd_underlying hu) _).2 ?_)
      refine (dm_b _ _ _ _).2 ((rd_dm _ (rd_sizeOf hs) _).2 ?_)
      dsimp only
      rw [if_neg hlt]
      by_cases h0 : len * i.size = 0
      · rw [if_pos h0] at e1 ⊢
        simp only [pure_bind]
        rw [e1, hc]
        exact h
      · rw [if_neg h0]
        refine (dm_b _ _ _ _).2 ((rd_dm _ hzv _).2 ?_)
        simp only [pure_bind]
        rw [hc]
        exact h
  · exact h.elim
theorem xl_gOp {ρ : Operand → Value} {o : Oper} {H : Hp} {K : RT1} (h : xl P ρ H o.op o.type K) : gOp P ρ o H K := by
  obtain ⟨dst, op, type, pos, after, guard⟩ := o
  unfold gOp
  simp only at h
  cases op with
  | alloc t =>
    simp only [xl] at h
    split at h
    · rename_i z hz
      obtain ⟨i, hi, hiz⟩ := Option.bind_eq_some_iff.1 hz
      refine dm_v (s := Instr.alloc t true (.tuple #[])) ?_
      have hzv : rd P H (zeroValue t) = some z := by simp only [zeroValue, rd_b, rd_typeInfo hi, Option.bind_some, hiz]; rfl
      refine (dm_b _ _ _ _).2 ((rd_dm _ hzv _).2 ?_)
      exact h
    · exact h.elim
  | box t x => exact dm_v (s := Instr.box t (ρ x)) h
  | buildSlice t len parts =>
    simp only [xl] at h
    split at h
    · rename_i e hu
      split at h
      · rename_i i hi
        split at h
        · rename_i z hz
          refine dm_v (s := Instr.buildSlice t len _) (dm_buildSlice hu hi hz ?_)
          rw [partsOf_eq] at h
          exact h
        · exact h.elim
      · exact h.elim
    · exact h.elim
  | store t a x =>
    simp only [xl] at h
    split at h
    · rename_i n hn
      exact dm_u (s := Instr.storeAt t (ρ a) (ρ x)) (dm_storeAt hn h)
    · exact h.elim
  | makeMap t r =>
    cases r with
    | none => exact dm_v (s := Instr.makeMap t none) h
    | some r => exact h.elim
  | makeSlice t l c => exact dm_v (s := Instr.makeSlice t (ρ l) (ρ c)) h
  | mapUpdate t m k x => exact dm_u (s := Instr.mapUpdate t (ρ m) (ρ k) (ρ x)) h
  | mapEntry t m k => exact dm_v (s := Instr.mapEntry t (ρ m) (ρ k)) h
  | entryStore t m s x => exact dm_u (s := Instr.entryStore t (ρ m) (ρ s) (ρ x)) h
  | range t x => exact dm_v (s := Instr.range t (ρ x)) h
  | next it s => exact dm_v (s := Instr.next (ρ it) s type) h
  | call c =>
    obtain ⟨callee, args, argTypes⟩ := c
    cases callee with
    | value f =>
      simp only [xl, CallV] at h
      split at h
      · rename_i g first captured hf
        have e : (first.toList ++ (args.toList.map ρ ++ captured.toList)).toArray = first ++ args.map ρ ++ captured := by apply Array.ext'; simp
        rw [e] at h
        simp only [execOp, resolve, hf, Deferred.ofValue, pure_bind, invoke]
        exact dm_callFunc h
      · exact h.elim
    | builtin b =>
      cases b with
      | append => simp only [xl, argsOf_eq] at h; exact dm_v (s := Builtin.append_ argTypes type (args.map ρ)) h
      | copy => simp only [xl, argsOf_eq] at h; exact dm_v (s := Builtin.copy_ argTypes type (args.map ρ)) h
      | clear => simp only [xl, argsOf_eq] at h; exact dm_v (s := Builtin.clear_ argTypes type (args.map ρ)) h
      | delete => simp only [xl, argsOf_eq] at h; exact dm_v (s := Builtin.delete_ argTypes type (args.map ρ)) h
      | _ => exact h.elim
    | invoke r m => exact h.elim
  | _ => exact h.elim
theorem CallV_mono {f : Value} {args : List Value} {H : Hp} {K K' : RT1} (hk : ∀ v H, K v H → K' v H) (h : CallV P f args H K) : CallV P f args H K' := by
  unfold CallV at h ⊢
  split at h
  · exact h.mono hk
  · exact h.elim
theorem xl_mono {ρ : Operand → Value} {H : Hp} {o : Op} {ty : TypeId} {K K' : RT1} (hk : ∀ v H, K v H → K' v H) (h : xl P ρ H o ty K) : xl P ρ H o ty K' := by
  cases o with
  | alloc t => simp only [xl] at h ⊢; split at h <;> first | exact hk _ _ h | exact h.elim
  | box t x => exact hk _ _ h
  | buildSlice t len parts =>
    simp only [xl] at h ⊢
    split at h
    · split at h
      · split at h
        · unfold Bsl at h ⊢; split at h <;> first | exact hk _ _ h | exact h.elim
        · exact h.elim
      · exact h.elim
    · exact h.elim
  | store t a x =>
    simp only [xl] at h ⊢
    split at h
    · unfold St at h ⊢
      split at h
      · split at h <;> first | exact hk _ _ h | exact h.elim
      · exact h.elim
    · exact h.elim
  | makeMap t r => cases r <;> first | exact hk _ _ h | exact h.elim
  | makeSlice t l c => exact dm_mono P _ _ _ _ hk h
  | mapUpdate t m k x => exact dm_mono P _ _ _ _ (fun _ _ hx => hk _ _ hx) h
  | mapEntry t m k => exact dm_mono P _ _ _ _ hk h
  | entryStore t m s x => exact dm_mono P _ _ _ _ (fun _ _ hx => hk _ _ hx) h
  | range t x => exact dm_mono P _ _ _ _ hk h
  | next it s => exact dm_mono P _ _ _ _ hk h
  | call c =>
    obtain ⟨callee, args, argTypes⟩ := c
    cases callee with
    | value f => exact CallV_mono hk h
    | builtin b =>
      cases b with
      | append => exact dm_mono P _ _ _ _ hk h
      | copy => exact dm_mono P _ _ _ _ hk h
      | clear => exact dm_mono P _ _ _ _ hk h
      | delete => exact dm_mono P _ _ _ _ hk h
      | _ => exact h.elim
    | invoke r m => exact h.elim
  | _ => exact h.elim
end sound
def gval (ops : Array Oper) (fr : Fr) (j : Nat) : Value :=
  match (ops[j]?).bind (·.dst) with
  | some d => fr d
  | none => undef
def okDst (n : Nat) (d : Option Nat) : Bool :=
  match d with
  | some d => Nat.blt d n
  | none => true
/-- a guarded operation that is not quiet -/
def gl (g : Value) (want : Bool) (run : (RT1) → Prop) (H : Hp) (K : RT1) : Prop :=
  match g with
  | .bool b => if b = want then run K else K undef H
  | _ => K undef H
def qe (P : Program) (ops : Array Oper) (o : Oper) (fr : Fr) (H : Hp) : Option Value :=
  match o.guard with
  | none => qv P (ev fr) H o.op
  | some (j, want) => gd (gval ops fr j) want (qv P (ev fr) H o.op)
def le (P : Program) (ops : Array Oper) (o : Oper) (fr : Fr) (H : Hp) (K : RT1) : Prop :=
  match o.guard with
  | none => xl P (ev fr) H o.op o.type K
  | some (j, want) => gl (gval ops fr j) want (fun K => xl P (ev fr) H o.op o.type K) H K
def xStep (P : Program) (n : Nat) (ops : Array Oper) (i : Nat) (K : Fr → Hp → Prop) (fr : Fr) (H : Hp) : Prop :=
  match ops[i]? with
  | none => K fr H
  | some o => bif okDst n o.dst then
      bif quiet o.op then q (qe P ops o fr H) fun v => K (put fr o.dst v) H
      else le P ops o fr H fun v H' => K (put fr o.dst v) H'
    else False
def xIdx (P : Program) (n : Nat) (ops : Array Oper) : List Nat → (Fr → Hp → Prop) → Fr → Hp → Prop
  | [], K => K
  | i :: l, K => xStep P n ops i (xIdx P n ops l K)
section sound
variable {P : Program} {n : Nat} {ops : Array Oper}
theorem okDst_lt {d : Option Nat} (h : okDst n d = true) : ∀ x, d = some x → x < n := by
  intro x e; subst e; simp only [okDst] at h; exact Nat.le_of_ble_eq_true h
theorem wanted_gval {o : Oper} {j : Nat} {want : Bool} (hg : o.guard = some (j, want)) (a : Act) :
    Region.wanted o (yielded ops a.tmps) = (match gval ops (frOf a.tmps) j with | .bool b => b == want | _ => false) := by
  unfold Region.wanted yielded gval frOf
  simp only [hg]
  cases hd : (ops[j]?).bind (·.dst) with
  | none => simp [undef]
  | some d =>
    simp only [Option.bind_some, Array.getD_eq_getD_getElem?]
    cases ht : a.tmps[d]? with
    | none => simp [undef]
    | some v => cases v <;> simp
theorem xIdx_wp {Q : Exit → Act → World → Prop} (l : List Nat) :
    ∀ (K : Fr → Hp → Prop) (a : Act) (w : World), a.tmps.size = n → xIdx P n ops l K (frOf a.tmps) w.heap →
      (∀ a' w', a'.tmps.size = n → a'.defers = a.defers → SameW w w' → K (frOf a'.tmps) w'.heap → Q .normal a' w') → wpOps P ops Q l a w := by
  induction l with
  | nil => intro K a w hs h hq; exact hq a w hs rfl (.refl w) h
  | cons i l ih =>
    intro K a w hs h hq
    simp only [xIdx, xStep] at h
    simp only [wpOps]
    cases ho : ops[i]? with
    | none =>
      simp only [ho] at h
      exact ih K a w hs h hq
    | some o =>
      simp only [ho] at h
      cases hd : okDst n o.dst with
      | false => simp [hd] at h
      | true =>
        simp only [hd, cond_true] at h
        have hd' := okDst_lt hd
        -- what comes behind
        have next : ∀ v w', xIdx P n ops l K (put (frOf a.tmps) o.dst v) w'.heap → SameW w w' → wpOps P ops Q l (a.put o.dst v) w' := by
          intro v w' hx hsame
          refine ih K (a.put o.dst v) w' (by rw [put_size]; exact hs) ?_ ?_
          · rw [frOf_put a o.dst v (fun x e => by rw [hs]; exact hd' x e)]; exact hx
          · intro a' w'' h1 h2 h3 h4
            exact hq a' w'' h1 (h2.trans (by cases o.dst <;> rfl)) (hsame.trans h3) h4
        have run : (Region.wanted o (yielded ops a.tmps) = true) → gOp P (ev (frOf a.tmps)) o w.heap (fun v H' => xIdx P n ops l K (put (frOf a.tmps) o.dst v) H') →
            (if Region.wanted o (yielded ops a.tmps) = true then o.wp P a w (wpOps P ops Q l) Q ∨ (o.asks P a w ∧ LetsOut Q) else wpOps P ops Q l (a.put o.dst undef) w) := by
          intro hw hg
          rw [if_pos hw]
          exact .inl (gOp_wp hg (fun v w' hv hsame => next v w' hv hsame))
        have skip : (Region.wanted o (yielded ops a.tmps) = false) → xIdx P n ops l K (put (frOf a.tmps) o.dst undef) w.heap →
            (if Region.wanted o (yielded ops a.tmps) = true then o.wp P a w (wpOps P ops Q l) Q ∨ (o.asks P a w ∧ LetsOut Q) else wpOps P ops Q l (a.put o.dst undef) w) := by
          intro hw hx
          rw [if_neg (by simp [hw])]
          exact next undef w hx (.refl w)
        cases hquiet : quiet o.op with
        | true =>
          simp only [hquiet, cond_true] at h
          have exec : ∀ v, qv P (ev (frOf a.tmps)) w.heap o.op = some v → xIdx P n ops l K (put (frOf a.tmps) o.dst v) w.heap →
              gOp P (ev (frOf a.tmps)) o w.heap (fun v H' => xIdx P n ops l K (put (frOf a.tmps) o.dst v) H') := by
            intro v hv hx
            exact (rd_dm _ (qv_exec hv) _).2 hx
          cases hg : o.guard with
          | none =>
            have hw : Region.wanted o (yielded ops a.tmps) = true := by simp [Region.wanted, hg]
            simp only [qe, hg] at h
            cases hv : qv P (ev (frOf a.tmps)) w.heap o.op with
            | none => rw [hv] at h; exact h.elim
            | some v => rw [hv] at h; exact run hw (exec v hv h)
          | some g =>
            obtain ⟨j, want⟩ := g
            have hwv := wanted_gval (ops := ops) hg a
            simp only [qe, hg] at h
            cases hgv : gval ops (frOf a.tmps) j with
            | bool b =>
              rw [hgv] at h hwv
              simp only [gd] at h
              by_cases hb : b = want
              · rw [if_pos hb] at h
                have hw : Region.wanted o (yielded ops a.tmps) = true := by rw [hwv]; simp [hb]
                cases hv : qv P (ev (frOf a.tmps)) w.heap o.op with
                | none => rw [hv] at h; exact h.elim
                | some v => rw [hv] at h; exact run hw (exec v hv h)
              · rw [if_neg hb] at h
                exact skip (by rw [hwv]; simp [hb]) h
            | _ => rw [hgv] at h hwv; exact skip hwv h
        | false =>
          simp only [hquiet, cond_false] at h
          cases hg : o.guard with
          | none =>
            have hw : Region.wanted o (yielded ops a.tmps) = true := by simp [Region.wanted, hg]
            simp only [le, hg] at h
            exact run hw (xl_gOp h)
          | some g =>
            obtain ⟨j, want⟩ := g
            have hwv := wanted_gval (ops := ops) hg a
            simp only [le, hg] at h
            cases hgv : gval ops (frOf a.tmps) j with
            | bool b =>
              rw [hgv] at h hwv
              simp only [gl] at h
              by_cases hb : b = want
              · rw [if_pos hb] at h
                exact run (by rw [hwv]; simp [hb]) (xl_gOp h)
              · rw [if_neg hb] at h
                exact skip (by rw [hwv]; simp [hb]) h
            | _ => rw [hgv] at h hwv; exact skip hwv h
end sound
end Go.NW
namespace Go.NW
open Go
def mem (i : Nat) : List Nat → Bool
  | [] => false
  | j :: l => bif Nat.beq i j then true else mem i l
theorem mem_iff {i : Nat} : ∀ {l : List Nat}, mem i l = true ↔ i ∈ l
  | [] => by simp [mem]
  | j :: l => by
    simp only [mem, List.mem_cons]
    cases h : Nat.beq i j with
    | true => have := Nat.eq_of_beq_eq_true h; simp [this]
    | false => have : i ≠ j := fun e => by subst e; simp at h
               simp [this, mem_iff (l := l)]
theorem mem_false {i : Nat} {l : List Nat} : mem i l = false ↔ i ∉ l := by
  rw [← mem_iff]; cases mem i l <;> simp
def subl : List Nat → List Nat → Bool
  | [], _ => true
  | i :: a, b => bif mem i b then subl a b else false
theorem subl_iff : ∀ {a b : List Nat}, subl a b = true ↔ ∀ i ∈ a, i ∈ b
  | [], b => by simp [subl]
  | i :: a, b => by
    simp only [subl, List.mem_cons, forall_eq_or_imp]
    cases h : mem i b with
    | true => simp [mem_iff.1 h, subl_iff (a := a)]
    | false => simp [mem_false.1 h]
def depsOf (o : Oper) : List Nat := o.after.toList.filterMap fun e => bif Region.binds .any e then some e.on else none
def ins (i : Nat) (l : List Nat) : List Nat := bif mem i l then l else i :: l
theorem mem_ins {i j : Nat} {l : List Nat} : j ∈ ins i l ↔ j = i ∨ j ∈ l := by
  unfold ins
  cases h : mem i l with
  | true => have := mem_iff.1 h; simp; intro e; subst e; exact this
  | false => simp
def uni : List Nat → List Nat → List Nat
  | [], l => l
  | i :: a, l => uni a (ins i l)
theorem mem_uni {j : Nat} : ∀ {a l : List Nat}, j ∈ uni a l ↔ j ∈ a ∨ j ∈ l
  | [], l => by simp [uni]
  | i :: a, l => by
    simp only [uni, mem_uni (a := a), mem_ins, List.mem_cons]
    constructor
    · rintro (h | h | h)
      · exact .inl (.inr h)
      · exact .inl (.inl h)
      · exact .inr h
    · rintro ((h | h) | h)
      · exact .inr (.inl h)
      · exact .inl h
      · exact .inr (.inr h)
def ancOf (tab : List (List Nat)) : List Nat → List Nat
  | [] => []
  | d :: ds => ins d (uni (tab.getD d []) (ancOf tab ds))
theorem mem_ancOf {tab : List (List Nat)} {j : Nat} : ∀ {ds : List Nat}, j ∈ ancOf tab ds ↔ ∃ d ∈ ds, j = d ∨ j ∈ tab.getD d []
  | [] => by simp [ancOf]
  | d :: ds => by
    simp only [ancOf, mem_ins, mem_uni, mem_ancOf (ds := ds), List.mem_cons]
    constructor
    · rintro (h | h | ⟨e, he, h⟩)
      · exact ⟨d, .inl rfl, .inl h⟩
      · exact ⟨d, .inl rfl, .inr h⟩
      · exact ⟨e, .inr he, h⟩
    · rintro ⟨e, (rfl | he), (h | h)⟩
      · exact .inl h
      · exact .inr (.inl h)
      · exact .inr (.inr ⟨e, he, .inl h⟩)
      · exact .inr (.inr ⟨e, he, .inr h⟩)
def ancTab : List Oper → List (List Nat) → List (List Nat)
  | [], tab => tab
  | o :: os, tab => ancTab os (tab ++ [ancOf tab (depsOf o)])
theorem ancTab_get (os : List Oper) : ∀ (tab : List (List Nat)) (i : Nat) (o : Oper),
    (∀ j, j < tab.length → (ancTab os tab).getD j [] = tab.getD j []) ∧
    (os[i]? = some o → (ancTab os tab).getD (tab.length + i) [] = ancOf ((ancTab os tab).take (tab.length + i)) (depsOf o)) := by
  induction os with
  | nil => intro tab i o; simp [ancTab]
  | cons o' os ih =>
    intro tab i o
    have h := ih (tab ++ [ancOf tab (depsOf o')])
    refine ⟨?_, ?_⟩
    · intro j hj
      rw [ancTab, (h 0 o).1 j (by simp; omega)]
      simp [List.getD_eq_getElem?_getD, List.getElem?_append, hj]
    · intro hi
      cases i with
      | zero =>
        simp only [List.getElem?_cons_zero, Option.some.injEq] at hi
        subst hi
        rw [ancTab]
        have h0 := (h 0 o').1
        rw [Nat.add_zero, h0 tab.length (by simp)]
        have : (ancTab os (tab ++ [ancOf tab (depsOf o')])).take tab.length = tab := by
          apply List.ext_getElem?
          intro j
          rw [List.getElem?_take]
          split
          · rename_i hj
            have e := h0 j (by simp; omega)
            have hlen : ∀ (os : List Oper) (t : List (List Nat)), t.length ≤ (ancTab os t).length := by
              intro os
              induction os with
              | nil => intro t; exact Nat.le_refl _
              | cons o os ih => intro t; rw [ancTab]; have := ih (t ++ [ancOf t (depsOf o)]); simp at this; omega
            have hl := hlen os (tab ++ [ancOf tab (depsOf o')])
            simp only [List.length_append, List.length_cons, List.length_nil] at hl
            rw [List.getD_eq_getElem?_getD, List.getD_eq_getElem?_getD, List.getElem?_append_left hj] at e
            rw [List.getElem?_eq_getElem (by omega), List.getElem?_eq_getElem hj] at e ⊢
            simpa using e
          · rename_i hj
            rw [List.getElem?_eq_none (by omega)]
        rw [this]
        simp [List.getD_eq_getElem?_getD]
      | succ i =>
        simp only [List.getElem?_cons_succ] at hi
        have := (h i o).2 hi
        simp only [List.length_append, List.length_cons, List.length_nil] at this
        rw [ancTab, show tab.length + (i + 1) = tab.length + 1 + i by omega]
        exact this
/-- the operations that must stand ahead of one -/
def ancs (ops : Array Oper) : List (List Nat) := ancTab ops.toList []
theorem ancs_get {ops : Array Oper} {i : Nat} {o : Oper} (h : ops[i]? = some o) {j : Nat} :
    j ∈ (ancs ops).getD i [] ↔ ∃ d ∈ depsOf o, j = d ∨ (d < i ∧ j ∈ (ancs ops).getD d []) := by
  have h1 := (ancTab_get ops.toList [] i o).2 (by simpa using h)
  simp only [List.length_nil, Nat.zero_add] at h1
  unfold ancs
  rw [h1, mem_ancOf]
  constructor
  · rintro ⟨d, hd, h | h⟩
    · exact ⟨d, hd, .inl h⟩
    · refine ⟨d, hd, .inr ?_⟩
      rw [List.getD_eq_getElem?_getD, List.getElem?_take] at h
      split at h
      · rename_i hlt
        exact ⟨hlt, by rw [List.getD_eq_getElem?_getD]; exact h⟩
      · simp at h
  · rintro ⟨d, hd, h | ⟨hlt, h⟩⟩
    · exact ⟨d, hd, .inl h⟩
    · refine ⟨d, hd, .inr ?_⟩
      rw [List.getD_eq_getElem?_getD, List.getElem?_take, if_pos hlt, ← List.getD_eq_getElem?_getD]
      exact h
def tmpsOf (l : List Operand) : List Nat := l.filterMap fun | .tmp t => some t | _ => none
def dstOf (ops : Array Oper) (i : Nat) : Option Nat := (ops[i]?).bind (·.dst)
def namesOf (ops : Array Oper) (o : Oper) : List Nat :=
  (match o.guard with
   | some (j, _) => (dstOf ops j).toList
   | none => []) ++ tmpsOf o.op.operands.toList
def allI (ops : List Oper) (i : Nat) (f : Nat → Oper → Bool) : Bool :=
  match ops with
  | [] => true
  | o :: os => bif f i o then allI os (i + 1) f else false
theorem allI_iff (f : Nat → Oper → Bool) : ∀ (os : List Oper) (i : Nat), allI os i f = true ↔ ∀ j o, os[j]? = some o → f (i + j) o = true
  | [], i => by simp [allI]
  | o :: os, i => by
    simp only [allI]
    cases h : f i o with
    | true =>
      simp only [cond_true]
      rw [allI_iff f os (i + 1)]
      constructor
      · intro hh j o' hj
        cases j with
        | zero => simp at hj; subst hj; simpa using h
        | succ j => simp at hj; have := hh j o' hj; rwa [show i + (j + 1) = i + 1 + j by omega]
      · intro hh j o' hj
        have := hh (j + 1) o' (by simpa using hj)
        rwa [show i + 1 + j = i + (j + 1) by omega]
    | false =>
      simp only [cond_false, Bool.false_eq_true, false_iff]
      intro hh
      have := hh 0 o (by simp)
      simp [h] at this
/-- does it write what another reads that need not stand behind it? -/
def over (ops : Array Oper) (A : List (List Nat)) (i : Nat) (d : Option Nat) : Bool :=
  match d with
  | none => false
  | some d => !allI ops.toList 0 fun j o => bif mem d (namesOf ops o) then mem i (A.getD j []) else true
def isQ (ops : Array Oper) (A : List (List Nat)) (i : Nat) : Bool :=
  match ops[i]? with
  | some o => quiet o.op && !over ops A i o.dst
  | none => true
/-- what it writes it writes once; what it reads of the region's own stands ahead of it -/
def drawOk (n : Nat) (ops : Array Oper) (A : List (List Nat)) : Bool :=
  allI ops.toList 0 fun i o =>
    bif okDst n o.dst then
    bif (depsOf o).all (fun d => Nat.blt d i) then
    let ns := namesOf ops o
    let a := A.getD i []
    allI ops.toList 0 fun j o' =>
      match o'.dst with
      | none => true
      | some d => bif mem d ns then mem j a || ((mem i (A.getD j []) || Nat.beq i j) && !isQ ops A j) else true
    else false else false
def onceOk (ops : Array Oper) : Bool :=
  allI ops.toList 0 fun i o => match o.dst with
    | none => true
    | some d => allI ops.toList 0 fun j o' => match o'.dst with
      | none => true
      | some d' => bif Nat.beq d d' then Nat.beq i j else true
def ready (ops : Array Oper) (A : List (List Nat)) : List Nat → List Nat → List Nat × List Nat
  | [], done => ([], done)
  | i :: is, done =>
    bif isQ ops A i && (!mem i done && subl (A.getD i []) done) then
      let r := ready ops A is (i :: done)
      (i :: r.1, r.2)
    else ready ops A is done
def chk (P : Program) (ops : Array Oper) (i : Nat) (fr : Fr) (H : Hp) : Prop :=
  match ops[i]? with
  | none => True
  | some o => match o.dst with
    | some d => qe P ops o fr H = some (fr d)
    | none => (qe P ops o fr H).isSome = true
def floats (P : Program) (ops : Array Oper) (a : List Nat) : List Nat → List Nat
  | [] => []
  | i :: is => bif (match ops[i]? with | some o => quiet o.op && heapy P o.op | none => false) && !mem i a then i :: floats P ops a is else floats P ops a is
theorem mem_floats {P : Program} {ops : Array Oper} {a : List Nat} {i : Nat} : ∀ {is : List Nat},
    i ∈ floats P ops a is ↔ i ∈ is ∧ (match ops[i]? with | some o => quiet o.op && heapy P o.op | none => false) = true ∧ i ∉ a
  | [] => by simp [floats]
  | j :: is => by
    simp only [floats, List.mem_cons]
    cases h : (match ops[j]? with | some o => quiet o.op && heapy P o.op | none => false) && !mem j a with
    | true =>
      simp only [Bool.and_eq_true, Bool.not_eq_true', mem_false] at h
      simp only [cond_true, List.mem_cons, mem_floats (is := is)]
      constructor
      · rintro (rfl | h')
        · exact ⟨.inl rfl, h.1, h.2⟩
        · exact ⟨.inr h'.1, h'.2⟩
      · rintro ⟨(rfl | h'), h2⟩
        · exact .inl rfl
        · exact .inr ⟨h', h2⟩
    | false =>
      simp only [cond_false, mem_floats (is := is)]
      constructor
      · rintro ⟨h', h2⟩; exact ⟨.inr h', h2⟩
      · rintro ⟨(rfl | h'), h2⟩
        · exfalso
          have : ((match ops[i]? with | some o => quiet o.op && heapy P o.op | none => false) && !mem i a) = true := by
            rw [Bool.and_eq_true]; exact ⟨h2.1, by simp [mem_false.2 h2.2]⟩
          rw [h] at this; simp at this
        · exact ⟨h', h2⟩
def chks (P : Program) (ops : Array Oper) (fr : Fr) (H : Hp) (X : Prop) : List Nat → Prop
  | [] => X
  | i :: is => chk P ops i fr H ∧ chks P ops fr H X is
theorem chks_iff {P : Program} {ops : Array Oper} {fr : Fr} {H : Hp} {X : Prop} : ∀ {is : List Nat}, chks P ops fr H X is ↔ (∀ i ∈ is, chk P ops i fr H) ∧ X
  | [] => by simp [chks]
  | i :: is => by simp only [chks, chks_iff (is := is), List.mem_cons, forall_eq_or_imp]; exact and_assoc.symm
mutual
def xRest (P : Program) (n : Nat) (ops : Array Oper) (A : List (List Nat)) (idx : List Nat) (K : Fr → Hp → Prop) (ls : List Nat) (done : List Nat) (fr : Fr) (H : Hp) : Prop :=
  match ls with
  | [] => bif subl idx done then K fr H else False
  | l :: ls => bif subl (A.getD l []) done then
      xStep P n ops l (fun fr' H' => chks P ops fr' H' (
        xIdx P n ops (ready ops A idx (l :: done)).1 (xRest P n ops A idx K ls (ready ops A idx (l :: done)).2) fr' H') (floats P ops (A.getD l []) done)) fr H
    else False
end
/-- the louds' orders -/
def noAnc (A : List (List Nat)) (l : Nat) : List Nat → Bool
  | [] => true
  | r :: rs => bif mem r (A.getD l []) then false else noAnc A l rs
def del (l : Nat) : List Nat → List Nat
  | [] => []
  | r :: rs => bif Nat.beq r l then del l rs else r :: del l rs
def extsL (A : List (List Nat)) (g : List Nat → List (List Nat)) (rem : List Nat) : List Nat → List (List Nat)
  | [] => []
  | l :: ls => bif noAnc A l rem then (g (del l rem)).map (l :: ·) ++ extsL A g rem ls else extsL A g rem ls
def exts (A : List (List Nat)) : Nat → List Nat → List (List Nat)
  | 0, _ => [[]]
  | f + 1, rem => extsL A (exts A f) rem rem
def louds (ops : Array Oper) (A : List (List Nat)) : List Nat → List Nat
  | [] => []
  | i :: is => bif isQ ops A i then louds ops A is else i :: louds ops A is
def allX (f : List Nat → Prop) : List (List Nat) → Prop
  | [] => True
  | [x] => f x
  | x :: xs => f x ∧ allX f xs
def idxs (ops : Array Oper) : List Nat := List.range ops.size
def xDraw (P : Program) (n : Nat) (ops : Array Oper) (K : Fr → Hp → Prop) (fr : Fr) (H : Hp) : Prop :=
  bif drawOk n ops (ancs ops) then bif onceOk ops then
    allX (fun ls => xIdx P n ops (ready ops (ancs ops) (idxs ops) []).1 (xRest P n ops (ancs ops) (idxs ops) K ls (ready ops (ancs ops) (idxs ops) []).2) fr H)
      (exts (ancs ops) (louds ops (ancs ops) (idxs ops)).length (louds ops (ancs ops) (idxs ops)))
  else False else False
end Go.NW
namespace Go.NW
open Go
theorem tmpsOf_mem {l : List Operand} {t : Nat} (h : Operand.tmp t ∈ l) : t ∈ tmpsOf l := by
  unfold tmpsOf
  exact List.mem_filterMap.2 ⟨_, h, rfl⟩
theorem ev_agree {fr fr' : Fr} {l : List Operand} (h : ∀ t ∈ tmpsOf l, fr t = fr' t) : ∀ x ∈ l, ev fr x = ev fr' x := by
  intro x hx
  cases x with
  | tmp t => exact h t (tmpsOf_mem hx)
  | _ => rfl
theorem map_agree {ρ ρ' : Operand → Value} {l : Array Operand} (h : ∀ x ∈ l.toList, ρ x = ρ' x) : argsOf ρ l = argsOf ρ' l := by
  unfold argsOf
  rw [List.map_congr_left h]
theorem optmap_agree {ρ ρ' : Operand → Value} {l : Option Operand} (h : ∀ x ∈ l.toArray.toList, ρ x = ρ' x) : l.map ρ = l.map ρ' := by
  cases l with
  | none => rfl
  | some x => simp only [Option.map_some]; rw [h x (by simp)]
theorem parts_agree {ρ ρ' : Operand → Value} {l : Array (Nat × Operand)} (h : ∀ x ∈ ((l.toList.map (·.2)).toArray).toList, ρ x = ρ' x) :
    partsOf ρ l = partsOf ρ' l := by
  unfold partsOf
  congr 1
  apply List.map_congr_left
  rintro ⟨i, x⟩ hx
  simp only [Prod.mk.injEq, true_and]
  exact h x (by simp only [List.mem_map]; exact ⟨(i, x), hx, rfl⟩)
theorem qv_agree {P : Program} {ρ ρ' : Operand → Value} {H : Hp} {op : Op} (h : ∀ x ∈ op.operands.toList, ρ x = ρ' x) : qv P ρ H op = qv P ρ' H op := by
  cases op with
  | move x => simp only [Op.operands] at h; simp only [qv]; rw [h x (by simp)]
  | assign x => simp only [Op.operands] at h; simp only [qv]; rw [h x (by simp)]
  | pick c a b => simp only [Op.operands] at h; simp only [qv]; rw [h c (by simp), h a (by simp), h b (by simp)]
  | build t parts => simp only [Op.operands] at h; simp only [qv]; rw [parts_agree h]
  | load t a => simp only [Op.operands] at h; simp only [qv]; rw [h a (by simp)]
  | nilCheck x => simp only [Op.operands] at h; simp only [qv]; rw [h x (by simp)]
  | binOp op t x y _ => simp only [Op.operands] at h; simp only [qv]; rw [h x (by simp), h y (by simp)]
  | unOp op _ x => simp only [Op.operands] at h; simp only [qv]; rw [h x (by simp)]
  | convert s d x => simp only [Op.operands] at h; simp only [qv]; rw [h x (by simp)]
  | makeInterface t x => simp only [Op.operands] at h; simp only [qv]; rw [h x (by simp)]
  | makeFunc fn first captured =>
    simp only [Op.operands, Array.toList_append, List.mem_append] at h
    simp only [qv]
    rw [map_agree (fun x hx => h x (.inl hx)), map_agree (fun x hx => h x (.inr hx))]
  | slice t x lo hi mx =>
    simp only [Op.operands, Array.toList_append, List.mem_append] at h
    simp only [qv]
    rw [h x (by simp), optmap_agree (fun x hx => h x (.inl (.inl (.inr hx)))), optmap_agree (fun x hx => h x (.inl (.inr hx))), optmap_agree (fun x hx => h x (.inr hx))]
  | fieldAddr s x f => simp only [Op.operands] at h; simp only [qv]; rw [h x (by simp)]
  | field t x f => simp only [Op.operands] at h; simp only [qv]; rw [h x (by simp)]
  | indexAddr t x i => simp only [Op.operands] at h; simp only [qv]; rw [h x (by simp), h i (by simp)]
  | index t x i => simp only [Op.operands] at h; simp only [qv]; rw [h x (by simp), h i (by simp)]
  | lookup t x i ok => simp only [Op.operands] at h; simp only [qv]; rw [h x (by simp), h i (by simp)]
  | entry it => simp only [Op.operands] at h; simp only [qv]; rw [h it (by simp)]
  | typeAssert x xt t ok => simp only [Op.operands] at h; simp only [qv]; rw [h x (by simp)]
  | extract t i => simp only [Op.operands] at h; simp only [qv]; rw [h t (by simp)]
  | call c =>
    obtain ⟨callee, args, argTypes⟩ := c
    simp only [Op.operands, Call.operands, Array.toList_append, List.mem_append] at h
    have ha := map_agree (fun x hx => h x (.inr hx))
    cases callee with
    | builtin b =>
      cases b <;> first
        | (simp only [qv]; rw [ha])
        | rfl
    | _ => rfl
  | _ => rfl
theorem xl_agree {P : Program} {ρ ρ' : Operand → Value} {H : Hp} {op : Op} {ty : TypeId} {K : RT1} (h : ∀ x ∈ op.operands.toList, ρ x = ρ' x) : xl P ρ H op ty K = xl P ρ' H op ty K := by
  cases op with
  | alloc t => rfl
  | box t x => simp only [Op.operands] at h; simp only [xl]; rw [h x (by simp)]
  | buildSlice t len parts => simp only [Op.operands] at h; simp only [xl]; rw [parts_agree h]
  | store t a x => simp only [Op.operands] at h; simp only [xl]; rw [h a (by simp), h x (by simp)]
  | makeMap t r => cases r <;> rfl
  | makeSlice t l c => simp only [Op.operands] at h; simp only [xl]; rw [h l (by simp), h c (by simp)]
  | mapUpdate t m k x => simp only [Op.operands] at h; simp only [xl]; rw [h m (by simp), h k (by simp), h x (by simp)]
  | mapEntry t m k => simp only [Op.operands] at h; simp only [xl]; rw [h m (by simp), h k (by simp)]
  | entryStore t m s x => simp only [Op.operands] at h; simp only [xl]; rw [h m (by simp), h s (by simp), h x (by simp)]
  | range t x => simp only [Op.operands] at h; simp only [xl]; rw [h x (by simp)]
  | next it s => simp only [Op.operands] at h; simp only [xl]; rw [h it (by simp)]
  | call c =>
    obtain ⟨callee, args, argTypes⟩ := c
    simp only [Op.operands, Call.operands, Array.toList_append, List.mem_append] at h
    have ha := map_agree (fun x hx => h x (.inr hx))
    cases callee with
    | value f => simp only [xl]; rw [List.map_congr_left (fun x hx => h x (.inr hx)), h f (by simp)]
    | builtin b =>
      cases b <;> first
        | (simp only [xl]; rw [ha])
        | rfl
    | invoke r m => rfl
  | _ => rfl
section
variable {P : Program} {n : Nat} {ops : Array Oper}
theorem gval_agree {o : Oper} {j : Nat} {want : Bool} {fr fr' : Fr} (hg : o.guard = some (j, want)) (h : ∀ t ∈ namesOf ops o, fr t = fr' t) : gval ops fr j = gval ops fr' j := by
  unfold gval
  cases hd : (ops[j]?).bind (·.dst) with
  | none => rfl
  | some d => exact h d (by simp [namesOf, hg, dstOf, hd])
theorem oper_agree {o : Oper} {fr fr' : Fr} (h : ∀ t ∈ namesOf ops o, fr t = fr' t) : ∀ x ∈ o.op.operands.toList, ev fr x = ev fr' x :=
  ev_agree fun t ht => h t (by simp only [namesOf, List.mem_append]; exact .inr ht)
theorem qe_agree {o : Oper} {fr fr' : Fr} {H : Hp} (h : ∀ t ∈ namesOf ops o, fr t = fr' t) : qe P ops o fr H = qe P ops o fr' H := by
  unfold qe
  rw [qv_agree (oper_agree h)]
  split
  · rfl
  · rename_i j want hg; rw [gval_agree hg h]
theorem le_agree {o : Oper} {fr fr' : Fr} {H : Hp} {K : RT1} (h : ∀ t ∈ namesOf ops o, fr t = fr' t) (hl : le P ops o fr H K) : le P ops o fr' H K := by
  unfold le at hl ⊢
  split at hl
  · rename_i hg; rw [← xl_agree (oper_agree h)]; exact hl
  · rename_i j want hg
    rw [← gval_agree hg h]
    unfold gl at hl ⊢
    split at hl
    · split at hl
      · rename_i hb
        rw [if_pos hb]
        show xl P (ev fr') H o.op o.type K
        rw [← xl_agree (oper_agree h)]; exact hl
      · rename_i hb
        rw [if_neg hb]
        exact hl
    · exact hl
theorem le_mono {o : Oper} {fr : Fr} {H : Hp} {K K' : RT1} (hk : ∀ v H, K v H → K' v H) (h : le P ops o fr H K) : le P ops o fr H K' := by
  unfold le at h ⊢
  split at h
  · exact xl_mono hk h
  · unfold gl at h ⊢
    split at h
    · split at h
      · rename_i hb
        rw [if_pos hb]
        exact xl_mono hk h
      · rename_i hb
        rw [if_neg hb]
        exact hk _ _ h
    · exact hk _ _ h
theorem qe_heap {o : Oper} {fr : Fr} {H H' : Hp} (h : heapy P o.op = false) : qe P ops o fr H = qe P ops o fr H' := by
  unfold qe
  rw [qv_same _ H H' _ h]
/-- what 'drawOk' and 'onceOk' say -/
structure Ok (n : Nat) (ops : Array Oper) (A : List (List Nat)) : Prop where
  dst : ∀ (i : Nat) (o : Oper), ops[i]? = some o → okDst n o.dst = true
  low : ∀ (i : Nat) (o : Oper), ops[i]? = some o → ∀ d ∈ depsOf o, d < i
  ssa : ∀ (i : Nat) (o : Oper), ops[i]? = some o → ∀ j t, dstOf ops j = some t → t ∈ namesOf ops o → j ∈ A.getD i [] ∨ ((i ∈ A.getD j [] ∨ i = j) ∧ isQ ops A j = false)
  once : ∀ i j t, dstOf ops i = some t → dstOf ops j = some t → i = j
theorem Ok.of {A : List (List Nat)} (h : drawOk n ops A = true) (h2 : onceOk ops = true) : Ok n ops A := by
  have hd : ∀ i o, ops[i]? = some o → _ := fun i o ho => (allI_iff _ ops.toList 0).1 h i o (by simpa using ho)
  have ho : ∀ i o, ops[i]? = some o → _ := fun i o ho => (allI_iff _ ops.toList 0).1 h2 i o (by simpa using ho)
  refine ⟨?_, ?_, ?_, ?_⟩
  · intro i o hi
    have := hd i o hi
    cases hx : okDst n o.dst with
    | true => rfl
    | false => simp [hx] at this
  · intro i o hi d hdm
    have := hd i o hi
    cases hx : okDst n o.dst with
    | false => simp [hx] at this
    | true =>
      simp only [hx, cond_true, Nat.zero_add] at this
      cases hy : (depsOf o).all (fun d => Nat.blt d i) with
      | false => simp [hy] at this
      | true =>
        have := List.all_eq_true.1 hy d hdm
        exact Nat.le_of_ble_eq_true this
  · intro i o hi j t hj ht
    have := hd i o hi
    cases hx : okDst n o.dst with
    | false => simp [hx] at this
    | true =>
      simp only [hx, cond_true, Nat.zero_add] at this
      cases hy : (depsOf o).all (fun d => Nat.blt d i) with
      | false => simp [hy] at this
      | true =>
        simp only [hy, cond_true] at this
        unfold dstOf at hj
        cases hoj : ops[j]? with
        | none => simp [hoj] at hj
        | some o' =>
          simp only [hoj, Option.bind_some] at hj
          have := (allI_iff _ ops.toList 0).1 this j o' (by simpa using hoj)
          simp only [hj, Nat.zero_add] at this
          rw [mem_iff.2 ht] at this
          simp only [cond_true, Bool.or_eq_true, Bool.and_eq_true, Bool.not_eq_true', mem_iff] at this
          rcases this with h | ⟨h | h, h'⟩
          · exact .inl h
          · exact .inr ⟨.inl h, h'⟩
          · exact .inr ⟨.inr (Nat.eq_of_beq_eq_true h), h'⟩
  · intro i j t hi hj
    unfold dstOf at hi hj
    cases hoi : ops[i]? with
    | none => simp [hoi] at hi
    | some o =>
      cases hoj : ops[j]? with
      | none => simp [hoj] at hj
      | some o' =>
        simp only [hoi, hoj, Option.bind_some] at hi hj
        have := ho i o hoi
        simp only [hi, Nat.zero_add] at this
        have := (allI_iff _ ops.toList 0).1 this j o' (by simpa using hoj)
        simp only [hj, Nat.zero_add] at this
        have e : Nat.beq t t = true := by simp
        rw [e] at this
        exact Nat.eq_of_beq_eq_true this
theorem put_ne {fr : Fr} {d : Option Nat} {v : Value} {t : Nat} (h : d ≠ some t) : put fr d v t = fr t := by
  cases d with
  | none => rfl
  | some d =>
    simp only [put]
    cases hb : Nat.beq t d with
    | false => rfl
    | true => exact (h (by rw [Nat.eq_of_beq_eq_true hb])).elim
theorem put_eq {fr : Fr} {v : Value} {t : Nat} : put fr (some t) v t = v := by
  simp [put]
/-- What the quiet operations that are ready come to. -/
theorem emit {A : List (List Nat)} (ok : Ok n ops A) {H : Hp} {K : Fr → Hp → Prop} (is : List Nat) :
    ∀ (done : List Nat) (fc : Fr), xIdx P n ops (ready ops A is done).1 K fc H →
      ∃ fc', K fc' H ∧ (∀ t, (∀ q ∈ (ready ops A is done).1, dstOf ops q ≠ some t) → fc' t = fc t) ∧ (∀ q ∈ (ready ops A is done).1, chk P ops q fc' H) := by
  induction is with
  | nil => intro done fc h; exact ⟨fc, h, fun _ _ => rfl, by simp [ready]⟩
  | cons i is ih =>
    intro done fc h
    simp only [ready] at h ⊢
    cases hc : isQ ops A i && (!mem i done && subl (A.getD i []) done) with
    | false =>
      simp only [hc, cond_false] at h ⊢
      exact ih done fc h
    | true =>
      simp only [hc, cond_true] at h ⊢
      simp only [Bool.and_eq_true, Bool.not_eq_true', mem_false, subl_iff] at hc
      obtain ⟨hq, hnd, hsub⟩ := hc
      -- members of the rest are not done
      have notdone : ∀ (is done : List Nat), ∀ q ∈ (ready ops A is done).1, q ∉ done := by
        intro is
        induction is with
        | nil => intro done q hq; simp [ready] at hq
        | cons i is ih2 =>
          intro done q hq
          simp only [ready] at hq
          cases hc : isQ ops A i && (!mem i done && subl (A.getD i []) done) with
          | false => simp only [hc, cond_false] at hq; exact ih2 done q hq
          | true =>
            simp only [hc, cond_true, List.mem_cons] at hq
            simp only [Bool.and_eq_true, Bool.not_eq_true', mem_false] at hc
            rcases hq with rfl | hq
            · exact hc.2.1
            · exact fun hm => ih2 (i :: done) q hq (List.mem_cons_of_mem _ hm)
      have quietRest : ∀ (is done : List Nat), ∀ q ∈ (ready ops A is done).1, isQ ops A q = true := by
        intro is
        induction is with
        | nil => intro done q hq; simp [ready] at hq
        | cons i is ih2 =>
          intro done q hq
          simp only [ready] at hq
          cases hc : isQ ops A i && (!mem i done && subl (A.getD i []) done) with
          | false => simp only [hc, cond_false] at hq; exact ih2 done q hq
          | true =>
            simp only [hc, cond_true, List.mem_cons] at hq
            simp only [Bool.and_eq_true] at hc
            rcases hq with rfl | hq
            · exact hc.1
            · exact ih2 (i :: done) q hq
      simp only [xIdx, xStep] at h
      cases ho : ops[i]? with
      | none =>
        simp only [ho] at h
        obtain ⟨fc', hK, hag, hch⟩ := ih (i :: done) fc h
        refine ⟨fc', hK, fun t ht => hag t fun q hq => ht q (List.mem_cons_of_mem _ hq), ?_⟩
        intro q hq'
        rcases List.mem_cons.1 hq' with rfl | hq'
        · simp [chk, ho]
        · exact hch q hq'
      | some o =>
        simp only [ho] at h
        have hdst : dstOf ops i = o.dst := by simp [dstOf, ho]
        have hqo : quiet o.op = true := by simp only [isQ, ho, Bool.and_eq_true] at hq; exact hq.1
        simp only [ok.dst i o ho, cond_true, hqo] at h
        cases hv : qe P ops o fc H with
        | none => rw [hv] at h; exact h.elim
        | some v =>
          rw [hv] at h
          obtain ⟨fc', hK, hag, hch⟩ := ih (i :: done) (put fc o.dst v) h
          refine ⟨fc', hK, ?_, ?_⟩
          · intro t ht
            rw [hag t fun q hq => ht q (List.mem_cons_of_mem _ hq)]
            exact put_ne (by rw [← hdst]; exact ht i (List.mem_cons_self ..))
          · intro q hq'
            rcases List.mem_cons.1 hq' with rfl | hq'
            · -- the operation itself
              have names : ∀ t ∈ namesOf ops o, fc' t = fc t := by
                intro t ht
                rw [hag t ?_]
                · refine put_ne ?_
                  intro e
                  rcases ok.ssa q o ho q t (by rw [hdst]; exact e) ht with this | this
                  · exact hnd (hsub q this)
                  · rw [hq] at this; simp at this
                · intro q' hq' e
                  rcases ok.ssa q o ho q' t e ht with this | this
                  · exact notdone is (q :: done) q' hq' (List.mem_cons_of_mem _ (hsub q' this))
                  · rw [quietRest is (q :: done) q' hq'] at this; simp at this
              simp only [chk, ho]
              rw [qe_agree names, hv]
              cases hd : o.dst with
              | none => rfl
              | some d =>
                simp only [Option.some.injEq]
                rw [hag d ?_]
                · rw [hd, put_eq]
                · intro q' hq' e
                  have := ok.once q q' d (by rw [hdst, hd]) e
                  subst this
                  exact notdone is (q :: done) q hq' (List.mem_cons_self ..)
            · exact hch q hq'
theorem ready_notdone {A : List (List Nat)} : ∀ (is done : List Nat), ∀ q ∈ (ready ops A is done).1, q ∉ done := by
  intro is
  induction is with
  | nil => intro done q hq; simp [ready] at hq
  | cons i is ih2 =>
    intro done q hq
    simp only [ready] at hq
    cases hc : isQ ops A i && (!mem i done && subl (A.getD i []) done) with
    | false => simp only [hc, cond_false] at hq; exact ih2 done q hq
    | true =>
      simp only [hc, cond_true, List.mem_cons] at hq
      simp only [Bool.and_eq_true, Bool.not_eq_true', mem_false] at hc
      rcases hq with rfl | hq
      · exact hc.2.1
      · exact fun hm => ih2 (i :: done) q hq (List.mem_cons_of_mem _ hm)
theorem ready_mem {A : List (List Nat)} : ∀ (is done : List Nat) (q : Nat), q ∈ (ready ops A is done).2 ↔ q ∈ (ready ops A is done).1 ∨ q ∈ done := by
  intro is
  induction is with
  | nil => intro done q; simp [ready]
  | cons i is ih =>
    intro done q
    simp only [ready]
    cases isQ ops A i && (!mem i done && subl (A.getD i []) done) with
    | false => simp only [cond_false]; exact ih done q
    | true =>
      simp only [cond_true, List.mem_cons, ih (i :: done) q]
      constructor
      · rintro (h | rfl | h)
        · exact .inl (.inr h)
        · exact .inl (.inl rfl)
        · exact .inr h
      · rintro ((rfl | h) | h)
        · exact .inr (.inl rfl)
        · exact .inl h
        · exact .inr (.inr h)
theorem ready_quiet {A : List (List Nat)} : ∀ (is done : List Nat), ∀ q ∈ (ready ops A is done).1, isQ ops A q = true := by
  intro is
  induction is with
  | nil => intro done q hq; simp [ready] at hq
  | cons i is ih2 =>
    intro done q hq
    simp only [ready] at hq
    cases hc : isQ ops A i && (!mem i done && subl (A.getD i []) done) with
    | false => simp only [hc, cond_false] at hq; exact ih2 done q hq
    | true =>
      simp only [hc, cond_true, List.mem_cons] at hq
      simp only [Bool.and_eq_true] at hc
      rcases hq with rfl | hq
      · exact hc.1
      · exact ih2 (i :: done) q hq
theorem ready_clos {A : List (List Nat)} : ∀ (is done : List Nat), (∀ i ∈ done, ∀ j ∈ A.getD i [], j ∈ done) → ∀ i ∈ (ready ops A is done).2, ∀ j ∈ A.getD i [], j ∈ (ready ops A is done).2 := by
  intro is
  induction is with
  | nil => intro done h; simpa [ready] using h
  | cons i is ih2 =>
    intro done h
    simp only [ready]
    cases hc : isQ ops A i && (!mem i done && subl (A.getD i []) done) with
    | false => simp only [cond_false]; exact ih2 done h
    | true =>
      simp only [cond_true]
      simp only [Bool.and_eq_true, subl_iff] at hc
      refine ih2 (i :: done) ?_
      intro k hk j hj
      rcases List.mem_cons.1 hk with rfl | hk
      · exact List.mem_cons_of_mem _ (hc.2.2 j hj)
      · exact List.mem_cons_of_mem _ (h k hk j hj)
/-- nothing quiet that is ready is left out -/
theorem ready_full {A : List (List Nat)} (hlow : ∀ i, ∀ j ∈ A.getD i [], j < i) : ∀ (is : List Nat) (b : Nat) (done : List Nat), is = List.range' b is.length → (∀ i, i < b → isQ ops A i = true → (∀ j ∈ A.getD i [], j ∈ done) → i ∈ done) →
    ∀ i, i < b + is.length → isQ ops A i = true → (∀ j ∈ A.getD i [], j ∈ (ready ops A is done).2) → i ∈ (ready ops A is done).2 := by
  intro is
  induction is with
  | nil => intro b done _ h i hi hq hj; simp only [ready] at hj ⊢; exact h i (by simpa using hi) hq hj
  | cons k is ih =>
    intro b done hr h i hi hq hj
    simp only [List.length_cons, List.range'_succ, List.cons.injEq] at hr
    obtain ⟨rfl, hr⟩ := hr
    simp only [ready] at hj ⊢
    cases hc : isQ ops A k && (!mem k done && subl (A.getD k []) done) with
    | false =>
      simp only [hc, cond_false] at hj ⊢
      refine ih (k + 1) done hr ?_ i (by simp at hi; omega) hq hj
      intro i' hi' hq' hj'
      rcases Nat.lt_or_eq_of_le (Nat.le_of_lt_succ hi') with hlt | rfl
      · exact h i' hlt hq' hj'
      · have : subl (A.getD i' []) done = true := subl_iff.2 hj'
        simp only [hq', this, Bool.and_true, Bool.true_and, Bool.not_eq_false'] at hc
        exact mem_iff.1 hc
    | true =>
      simp only [hc, cond_true] at hj ⊢
      refine ih (k + 1) (k :: done) hr ?_ i (by simp at hi; omega) hq hj
      intro i' hi' hq' hj'
      rcases Nat.lt_or_eq_of_le (Nat.le_of_lt_succ hi') with hlt | rfl
      · refine List.mem_cons_of_mem _ (h i' hlt hq' fun j hjm => ?_)
        rcases List.mem_cons.1 (hj' j hjm) with rfl | hd
        · have := hlow i' j hjm; omega
        · exact hd
      · exact List.mem_cons_self ..
end
end Go.NW
namespace Go.NW
open Go
/-- an order that the edges allow, from behind 'pre' on -/
inductive Sched (A : List (List Nat)) (m : Nat) : List Nat → List Nat → Prop where
  | nil {pre : List Nat} (h : ∀ i, i < m → i ∈ pre) : Sched A m pre []
  | cons {pre S : List Nat} {i : Nat} (hi : i < m) (hn : i ∉ pre) (ha : ∀ j ∈ A.getD i [], j ∈ pre) (h : Sched A m (i :: pre) S) : Sched A m pre (i :: S)
section
variable {P : Program} {n : Nat} {ops : Array Oper} {A : List (List Nat)}
structure Sync (P : Program) (ops : Array Oper) (A : List (List Nat)) (pre done : List Nat) (fc fs : Fr) (H : Hp) : Prop where
  sub : ∀ i ∈ pre, i ∈ done
  loud : ∀ i ∈ done, isQ ops A i = false → i ∈ pre
  clos : ∀ i ∈ done, ∀ j ∈ A.getD i [], j ∈ done
  full : ∀ i, i < ops.size → isQ ops A i = true → (∀ j ∈ A.getD i [], j ∈ done) → i ∈ done
  val : ∀ i ∈ done, isQ ops A i = true → i ∉ pre → chk P ops i fc H
  agr : ∀ t, (∀ i ∈ done, i ∉ pre → dstOf ops i ≠ some t) → fs t = fc t
theorem q_mono' {e : Option Value} {K K' : Value → Prop} (hk : ∀ v, K v → K' v) (h : q e K) : q e K' := by
  unfold q at h ⊢
  split at h
  · exact hk _ h
  · exact h.elim
theorem sim (ok : Ok n ops A) (hlow : ∀ i, ∀ j ∈ A.getD i [], j < i) {K : Fr → Hp → Prop} : ∀ (S pre ls done : List Nat) (fc fs : Fr) (H : Hp),
    Sched A ops.size pre S → louds ops A S = ls → Sync P ops A pre done fc fs H → xRest P n ops A (idxs ops) K ls done fc H → xIdx P n ops S K fs H := by
  intro S
  induction S with
  | nil =>
    intro pre ls done fc fs H hS hls hy hr
    simp only [louds] at hls
    subst hls
    cases hS with
    | nil hfull =>
      have e : fs = fc := by
        funext t
        refine hy.agr t fun i hi hn => ?_
        by_cases hlt : i < ops.size
        · exact (hn (hfull i hlt)).elim
        · simp [dstOf, Array.getElem?_eq_none (Nat.le_of_not_lt hlt)]
      subst e
      simp only [xRest] at hr
      cases hs : subl (idxs ops) done with
      | true => rw [hs] at hr; exact hr
      | false => rw [hs] at hr; exact hr.elim
  | cons i S ih =>
    intro pre ls done fc fs H hS hls hy hr
    cases hS with
    | cons hi hn ha hS' =>
      obtain ⟨o, ho⟩ : ∃ o, ops[i]? = some o := ⟨ops[i], Array.getElem?_eq_getElem hi⟩
      have hdst : dstOf ops i = o.dst := by simp [dstOf, ho]
      have names : ∀ t ∈ namesOf ops o, fs t = fc t := by
        intro t ht
        refine hy.agr t fun j hjd hjn e => ?_
        rcases ok.ssa i o ho j t e ht with h | h
        · exact hjn (ha j h)
        · exact hjn (hy.loud j hjd h.2)
      simp only [xIdx, xStep, ho, ok.dst i o ho, cond_true]
      cases hiq : isQ ops A i with
      | true =>
        have hq : quiet o.op = true := by simp only [isQ, ho, Bool.and_eq_true] at hiq; exact hiq.1
        simp only [louds, hiq, cond_true] at hls
        have hdone : i ∈ done := hy.full i hi hiq fun j hj => hy.sub j (ha j hj)
        have hc := hy.val i hdone hiq hn
        simp only [chk, ho] at hc
        simp only [hq, cond_true]
        have next : ∀ v, (∀ d, o.dst = some d → v = fc d) → xIdx P n ops S K (put fs o.dst v) H := by
          intro v hv
          refine ih (i :: pre) ls done fc _ H hS' hls ⟨?_, ?_, hy.clos, hy.full, ?_, ?_⟩ hr
          · intro j hj
            rcases List.mem_cons.1 hj with rfl | hj
            · exact hdone
            · exact hy.sub j hj
          · intro j hj hjq; exact List.mem_cons_of_mem _ (hy.loud j hj hjq)
          · intro j hj hjq hjn; exact hy.val j hj hjq fun h => hjn (List.mem_cons_of_mem _ h)
          · intro t ht
            by_cases e : o.dst = some t
            · rw [e, put_eq]; exact hv t e
            · rw [put_ne e]
              refine hy.agr t fun j hj hjn e' => ?_
              by_cases hji : j = i
              · subst hji; exact e (by rw [← hdst]; exact e')
              · exact ht j hj (fun h => (List.mem_cons.1 h).elim hji hjn) e'
        rw [qe_agree names]
        cases hd : o.dst with
        | none =>
          rw [hd] at hc
          obtain ⟨v, hv⟩ := Option.isSome_iff_exists.1 hc
          rw [hv]
          have := next v (by simp [hd])
          rw [hd] at this
          exact this
        | some d =>
          rw [hd] at hc
          simp only at hc
          rw [hc]
          have := next (fc d) (by intro d' e; rw [hd] at e; simp only [Option.some.injEq] at e; rw [e])
          rw [hd] at this
          exact this
      | false =>
        have hidone : i ∉ done := fun h => hn (hy.loud i h hiq)
        simp only [louds, hiq, cond_false] at hls
        subst hls
        simp only [xRest] at hr
        cases hs : subl (A.getD i []) done with
        | false => rw [hs] at hr; exact hr.elim
        | true =>
          simp only [hs, cond_true, xStep, ho, ok.dst i o ho] at hr
          have key : ∀ v H', (chks P ops (put fc o.dst v) H' (xIdx P n ops (ready ops A (idxs ops) (i :: done)).1 (xRest P n ops A (idxs ops) K (louds ops A S) (ready ops A (idxs ops) (i :: done)).2) (put fc o.dst v) H') (floats P ops (A.getD i []) done)) → xIdx P n ops S K (put fs o.dst v) H' := ?_
          · cases hq : quiet o.op with
            | true =>
              simp only [hq, cond_true] at hr ⊢
              rw [qe_agree names]
              exact q_mono' (fun v hv => key v H hv) hr
            | false =>
              simp only [hq, cond_false] at hr ⊢
              exact le_mono (fun v H' hk => key v H' hk) (le_agree (fun t ht => (names t ht).symm) hr)
          intro v H' hk
          obtain ⟨hch, hx⟩ := chks_iff.1 hk
          obtain ⟨fc', hrest, hag, hcq⟩ := emit ok _ _ _ hx
          -- the new state
          have rm := ready_mem (ops := ops) (A := A) (idxs ops) (i :: done)
          have rq := ready_quiet (ops := ops) (A := A) (idxs ops) (i :: done)
          have rn := ready_notdone (ops := ops) (A := A) (idxs ops) (i :: done)
          have clos1 : ∀ k ∈ i :: done, ∀ j ∈ A.getD k [], j ∈ i :: done := by
            intro k hk j hj
            rcases List.mem_cons.1 hk with rfl | hk
            · exact List.mem_cons_of_mem _ (subl_iff.1 hs j hj)
            · exact List.mem_cons_of_mem _ (hy.clos k hk j hj)
          refine ih (i :: pre) _ _ fc' _ H' hS' rfl ⟨?_, ?_, ready_clos _ _ clos1, ?_, ?_, ?_⟩ hrest
          · intro j hj
            refine (rm j).2 (.inr ?_)
            rcases List.mem_cons.1 hj with rfl | hj
            · exact List.mem_cons_self ..
            · exact List.mem_cons_of_mem _ (hy.sub j hj)
          · intro j hj hjq
            rcases (rm j).1 hj with h | h
            · rw [rq j h] at hjq; simp at hjq
            · rcases List.mem_cons.1 h with rfl | h
              · exact List.mem_cons_self ..
              · exact List.mem_cons_of_mem _ (hy.loud j h hjq)
          · intro j hj hjq hja
            refine ready_full hlow (idxs ops) 0 (i :: done) ?_ ?_ j ?_ hjq hja
            · simp [idxs, List.range_eq_range']
            · intro k hk; omega
            · simpa [idxs] using hj
          · intro j hj hjq hjn
            rcases (rm j).1 hj with h | h
            · exact hcq j h
            · rcases List.mem_cons.1 h with rfl | h
              · exact (hjn (List.mem_cons_self ..)).elim
              · -- done before, and not yet met in S
                have hjpre : j ∉ pre := fun hp => hjn (List.mem_cons_of_mem _ hp)
                have hji : j ≠ i := fun e => hjn (by rw [e]; exact List.mem_cons_self ..)
                have old := hy.val j h hjq hjpre
                cases hoj : ops[j]? with
                | none => simp [chk, hoj]
                | some oj =>
                  have hdj : dstOf ops j = oj.dst := by simp [dstOf, hoj]
                  have hqj : quiet oj.op = true := by simp only [isQ, hoj, Bool.and_eq_true] at hjq; exact hjq.1
                  -- names and destination of j stay
                  have nm1 : ∀ t ∈ namesOf ops oj, put fc o.dst v t = fc t := by
                    intro t ht
                    refine put_ne fun e => ?_
                    rcases ok.ssa j oj hoj i t (by rw [hdst]; exact e) ht with h' | ⟨h' | h', _⟩
                    · exact hidone (hy.clos j h i h')
                    · exact hjpre (ha j h')
                    · exact hji h'
                  have nm2 : ∀ t ∈ namesOf ops oj, fc' t = put fc o.dst v t := by
                    intro t ht
                    refine hag t fun k hk e => ?_
                    rcases ok.ssa j oj hoj k t e ht with h' | h'
                    · exact rn k hk (List.mem_cons_of_mem _ (hy.clos j h k h'))
                    · rw [rq k hk] at h'; simp at h'
                  have ds1 : ∀ d, oj.dst = some d → put fc o.dst v d = fc d := by
                    intro d hd
                    refine put_ne fun e => ?_
                    exact hji (ok.once j i d (by rw [hdj, hd]) (by rw [hdst]; exact e))
                  have ds2 : ∀ d, oj.dst = some d → fc' d = put fc o.dst v d := by
                    intro d hd
                    refine hag d fun k hk e => ?_
                    have := ok.once j k d (by rw [hdj, hd]) e
                    subst this
                    exact rn j hk (List.mem_cons_of_mem _ h)
                  have mid : chk P ops j (put fc o.dst v) H' := by
                    cases hh : heapy P oj.op with
                    | true =>
                      refine hch j (mem_floats.2 ⟨h, by simp [hoj, hqj, hh], fun hA => hjpre (ha j hA)⟩)
                    | false =>
                      simp only [chk, hoj] at old ⊢
                      rw [qe_agree nm1, qe_heap hh (H' := H)]
                      cases hd : oj.dst with
                      | none => rw [hd] at old; exact old
                      | some d => rw [hd] at old; simp only at old ⊢; rw [ds1 d hd]; exact old
                  simp only [chk, hoj] at mid ⊢
                  rw [qe_agree nm2]
                  cases hd : oj.dst with
                  | none => rw [hd] at mid; exact mid
                  | some d => rw [hd] at mid; simp only at mid ⊢; rw [ds2 d hd]; exact mid
          · intro t ht
            have e1 : fc' t = put fc o.dst v t := by
              refine hag t fun k hk => ?_
              refine ht k ((rm k).2 (.inl hk)) fun hp => ?_
              rcases List.mem_cons.1 hp with rfl | hp
              · exact rn k hk (List.mem_cons_self ..)
              · exact rn k hk (List.mem_cons_of_mem _ (hy.sub k hp))
            rw [e1]
            by_cases e : o.dst = some t
            · rw [e, put_eq, put_eq]
            · rw [put_ne e, put_ne e]
              refine hy.agr t fun j hj hjn => ?_
              refine ht j ((rm j).2 (.inr (List.mem_cons_of_mem _ hj))) fun hp => ?_
              rcases List.mem_cons.1 hp with rfl | hp
              · exact hidone hj
              · exact hjn hp
theorem sim0 (ok : Ok n ops A) (hlow : ∀ i, ∀ j ∈ A.getD i [], j < i) {K : Fr → Hp → Prop} {S : List Nat} {fr : Fr} {H : Hp} (hS : Sched A ops.size [] S)
    (h : xIdx P n ops (ready ops A (idxs ops) []).1 (xRest P n ops A (idxs ops) K (louds ops A S) (ready ops A (idxs ops) []).2) fr H) : xIdx P n ops S K fr H := by
  obtain ⟨fc', hrest, hag, hcq⟩ := emit ok _ _ _ h
  have rm := ready_mem (ops := ops) (A := A) (idxs ops) []
  have rq := ready_quiet (ops := ops) (A := A) (idxs ops) []
  refine sim ok hlow S [] _ _ fc' fr H hS rfl ⟨by simp, ?_, ready_clos _ _ (by simp), ?_, ?_, ?_⟩ hrest
  · intro i hi hq
    rcases (rm i).1 hi with h | h
    · rw [rq i h] at hq; simp at hq
    · simp at h
  · intro j hj hjq hja
    refine ready_full hlow (idxs ops) 0 [] ?_ ?_ j ?_ hjq hja
    · simp [idxs, List.range_eq_range']
    · intro k hk; omega
    · simpa [idxs] using hj
  · intro i hi hq hn
    rcases (rm i).1 hi with h | h
    · exact hcq i h
    · simp at h
  · intro t ht
    exact (hag t fun k hk => ht k ((rm k).2 (.inl hk)) (by simp)).symm
theorem del_mem {l : Nat} : ∀ {rem : List Nat} {i : Nat}, i ∈ del l rem ↔ i ∈ rem ∧ i ≠ l
  | [], i => by simp [del]
  | r :: rs, i => by
    simp only [del]
    cases h : Nat.beq r l with
    | true =>
      have e := Nat.eq_of_beq_eq_true h
      subst e
      simp only [cond_true, del_mem (rem := rs), List.mem_cons]
      constructor
      · rintro ⟨h1, h2⟩; exact ⟨.inr h1, h2⟩
      · rintro ⟨rfl | h1, h2⟩
        · exact (h2 rfl).elim
        · exact ⟨h1, h2⟩
    | false =>
      have e : r ≠ l := fun e => by subst e; simp at h
      simp only [cond_false, List.mem_cons, del_mem (rem := rs)]
      constructor
      · rintro (rfl | ⟨h1, h2⟩)
        · exact ⟨.inl rfl, e⟩
        · exact ⟨.inr h1, h2⟩
      · rintro ⟨rfl | h1, h2⟩
        · exact .inl rfl
        · exact .inr ⟨h1, h2⟩
theorem del_len {l : Nat} : ∀ {rem : List Nat}, rem.Nodup → l ∈ rem → (del l rem).length + 1 = rem.length
  | [], _, h => by simp at h
  | r :: rs, hn, h => by
    have hn' := List.nodup_cons.1 hn
    simp only [del]
    cases hb : Nat.beq r l with
    | true =>
      have e := Nat.eq_of_beq_eq_true hb
      subst e
      have : ∀ (rs : List Nat), r ∉ rs → del r rs = rs := by
        intro rs
        induction rs with
        | nil => intro _; rfl
        | cons x rs ih =>
          intro hx
          simp only [List.mem_cons, not_or] at hx
          have hb : Nat.beq x r = false := by
            cases hb : Nat.beq x r with
            | false => rfl
            | true => exact (hx.1 (Nat.eq_of_beq_eq_true hb).symm).elim
          simp only [del, hb, cond_false, ih hx.2]
      simp only [cond_true, this rs hn'.1, List.length_cons]
    | false =>
      have e : r ≠ l := fun e => by subst e; simp at hb
      simp only [cond_false, List.length_cons]
      rcases List.mem_cons.1 h with rfl | h
      · exact (e rfl).elim
      · rw [del_len hn'.2 h]
theorem del_nodup {l : Nat} : ∀ {rem : List Nat}, rem.Nodup → (del l rem).Nodup
  | [], _ => by simp [del]
  | r :: rs, hn => by
    have hn' := List.nodup_cons.1 hn
    simp only [del]
    cases hb : Nat.beq r l with
    | true => exact del_nodup hn'.2
    | false => simp only [cond_false]; exact List.nodup_cons.2 ⟨fun h => hn'.1 (del_mem.1 h).1, del_nodup hn'.2⟩
theorem noAnc_iff {l : Nat} : ∀ {rem : List Nat}, noAnc A l rem = true ↔ ∀ r ∈ rem, r ∉ A.getD l []
  | [] => by simp [noAnc]
  | r :: rs => by
    simp only [noAnc, List.mem_cons, forall_eq_or_imp]
    cases h : mem r (A.getD l []) with
    | true => exact ⟨fun h' => by simp at h', fun h' => (h'.1 (mem_iff.1 h)).elim⟩
    | false => exact ⟨fun h' => ⟨mem_false.1 h, noAnc_iff.1 h'⟩, fun h' => noAnc_iff.2 h'.2⟩
theorem extsOf_mem {f : Nat} {rem : List Nat} {l : Nat} {L : List Nat} (hna : noAnc A l rem = true) (hL : L ∈ exts A f (del l rem)) :
    ∀ {ls : List Nat}, l ∈ ls → l :: L ∈ extsL A (exts A f) rem ls
  | [], h => by simp at h
  | x :: ls, h => by
    rw [extsL]
    rcases List.mem_cons.1 h with rfl | h
    · rw [hna]
      simp only [cond_true, List.mem_append, List.mem_map]
      exact .inl ⟨L, hL, rfl⟩
    · cases noAnc A x rem with
      | true => simp only [cond_true, List.mem_append]; exact .inr (extsOf_mem hna hL h)
      | false => simp only [cond_false]; exact extsOf_mem hna hL h
theorem louds_exts : ∀ (S pre rem : List Nat), Sched A ops.size pre S → rem.Nodup → (∀ i, i ∈ rem ↔ (i < ops.size ∧ isQ ops A i = false ∧ i ∉ pre)) → louds ops A S ∈ exts A rem.length rem := by
  intro S
  induction S with
  | nil =>
    intro pre rem hS hnd hrem
    cases hS with
    | nil hfull =>
      have : rem = [] := by
        cases rem with
        | nil => rfl
        | cons r rs => have := (hrem r).1 (List.mem_cons_self ..); exact (this.2.2 (hfull r this.1)).elim
      subst this
      simp [louds, exts]
  | cons i S ih =>
    intro pre rem hS hnd hrem
    cases hS with
    | cons hi hn ha hS' =>
      simp only [louds]
      cases hq : isQ ops A i with
      | true =>
        simp only [cond_true]
        refine ih (i :: pre) rem hS' hnd ?_
        intro j
        rw [hrem j]
        constructor
        · rintro ⟨h1, h2, h3⟩
          refine ⟨h1, h2, fun h => ?_⟩
          rcases List.mem_cons.1 h with rfl | h
          · rw [hq] at h2; simp at h2
          · exact h3 h
        · rintro ⟨h1, h2, h3⟩
          exact ⟨h1, h2, fun h => h3 (List.mem_cons_of_mem _ h)⟩
      | false =>
        simp only [cond_false]
        have him : i ∈ rem := (hrem i).2 ⟨hi, hq, hn⟩
        have hlen := del_len hnd him
        rw [← hlen]
        rw [exts]
        refine extsOf_mem ?_ ?_ him
        · rw [noAnc_iff]
          intro r hr hrA
          exact ((hrem r).1 hr).2.2 (ha r hrA)
        · refine ih (i :: pre) (del i rem) hS' (del_nodup hnd) ?_
          intro j
          rw [del_mem, hrem j]
          constructor
          · rintro ⟨⟨h1, h2, h3⟩, h4⟩
            refine ⟨h1, h2, fun h => ?_⟩
            rcases List.mem_cons.1 h with rfl | h
            · exact h4 rfl
            · exact h3 h
          · rintro ⟨h1, h2, h3⟩
            exact ⟨⟨h1, h2, fun h => h3 (List.mem_cons_of_mem _ h)⟩, fun e => h3 (by rw [e]; exact List.mem_cons_self ..)⟩
theorem allX_mem {f : List Nat → Prop} : ∀ {xs : List (List Nat)}, allX f xs → ∀ x ∈ xs, f x
  | [], _, x, hx => by simp at hx
  | [y], h, x, hx => by simp at hx; subst hx; exact h
  | y :: z :: xs, h, x, hx => by
    simp only [allX] at h
    rcases List.mem_cons.1 hx with rfl | hx
    · exact h.1
    · exact allX_mem (xs := z :: xs) h.2 x hx
theorem louds_mem {i : Nat} : ∀ {l : List Nat}, i ∈ louds ops A l ↔ i ∈ l ∧ isQ ops A i = false
  | [] => by simp [louds]
  | j :: l => by
    simp only [louds]
    cases h : isQ ops A j with
    | true =>
      simp only [cond_true, louds_mem (l := l), List.mem_cons]
      constructor
      · rintro ⟨h1, h2⟩; exact ⟨.inr h1, h2⟩
      · rintro ⟨rfl | h1, h2⟩
        · rw [h] at h2; simp at h2
        · exact ⟨h1, h2⟩
    | false =>
      simp only [cond_false, List.mem_cons, louds_mem (l := l)]
      constructor
      · rintro (rfl | ⟨h1, h2⟩)
        · exact ⟨.inl rfl, h⟩
        · exact ⟨.inr h1, h2⟩
      · rintro ⟨rfl | h1, h2⟩
        · exact .inl rfl
        · exact .inr ⟨h1, h2⟩
theorem louds_nodup : ∀ {l : List Nat}, l.Nodup → (louds ops A l).Nodup
  | [], _ => by simp [louds]
  | j :: l, hn => by
    have hn' := List.nodup_cons.1 hn
    simp only [louds]
    cases h : isQ ops A j with
    | true => exact louds_nodup hn'.2
    | false => simp only [cond_false]; exact List.nodup_cons.2 ⟨fun hm => hn'.1 (louds_mem.1 hm).1, louds_nodup hn'.2⟩
/-- What stands in the canonical orders stands in every order that the edges allow. -/
theorem xDraw_idx {K : Fr → Hp → Prop} {fr : Fr} {H : Hp} (h : xDraw P n ops K fr H) {S : List Nat} (hS : Sched (ancs ops) ops.size [] S) : xIdx P n ops S K fr H := by
  unfold xDraw at h
  cases h1 : drawOk n ops (ancs ops) with
  | false => simp [h1] at h
  | true =>
    cases h2 : onceOk ops with
    | false => simp [h1, h2] at h
    | true =>
      simp only [h1, h2, cond_true] at h
      have ok := Ok.of h1 h2
      have hlow : ∀ i, ∀ j ∈ (ancs ops).getD i [], j < i := by
        intro i
        induction i using Nat.strongRecOn with
        | _ i ih =>
          intro j hj
          by_cases hlt : i < ops.size
          · obtain ⟨d, hd, hjd | ⟨hdi, hjd⟩⟩ := (ancs_get (Array.getElem?_eq_getElem hlt)).1 hj
            · subst hjd; exact ok.low i _ (Array.getElem?_eq_getElem hlt) j hd
            · exact Nat.lt_trans (ih d hdi j hjd) hdi
          · -- beyond: no entry
            have : ∀ (os : List Oper) (t : List (List Nat)), (ancTab os t).length = t.length + os.length := by
              intro os
              induction os with
              | nil => intro t; rfl
              | cons o os ih => intro t; rw [ancTab, ih]; simp; omega
            have hl := this ops.toList []
            unfold ancs at hj
            rw [List.getD_eq_getElem?_getD, List.getElem?_eq_none (by simp at hl; omega)] at hj
            simp at hj
      refine sim0 ok hlow hS (allX_mem h _ ?_)
      refine louds_exts S [] _ hS (louds_nodup (by simp [idxs, List.nodup_range])) ?_
      intro i
      rw [louds_mem]
      simp [idxs]
theorem go_sched (hlow : ∀ (i : Nat) (o : Oper), ops[i]? = some o → ∀ d ∈ depsOf o, d < i) : ∀ (fuel t : Nat) (listed : Array Bool) (acc : List Nat),
    listed.size = ops.size → (∀ i, i < ops.size → (listed.getD i true = true ↔ i ∈ acc)) → acc.Nodup → (∀ i ∈ acc, i < ops.size) → acc.length + fuel = ops.size →
    (∀ i ∈ acc, ∀ j ∈ (ancs ops).getD i [], j ∈ acc) →
    ∃ S, Region.linearise.go .any ops fuel t listed acc = acc.reverse ++ S ∧ Sched (ancs ops) ops.size acc S := by
  intro fuel
  induction fuel with
  | zero =>
    intro t listed acc hs hl hnd hlt hlen hcl
    refine ⟨[], by simp [Region.linearise.go], .nil fun i hi => ?_⟩
    -- acc has all
    have hsub : acc.length = ops.size := by omega
    rcases Classical.em (i ∈ acc) with h | h
    · exact h
    · exfalso
      have h1 : (i :: acc).Nodup := List.nodup_cons.2 ⟨h, hnd⟩
      have h2 : (i :: acc) ⊆ List.range ops.size := by
        intro x hx
        rcases List.mem_cons.1 hx with rfl | hx
        · exact List.mem_range.2 hi
        · exact List.mem_range.2 (hlt x hx)
      have := (List.nodup_iff_count.1 h1)
      have h3 := h1.length_le_of_subset h2
      simp at h3; omega
  | succ fuel ih =>
    intro t listed acc hs hl hnd hlt hlen hcl
    simp only [Region.linearise.go]
    generalize hrs : (List.range ops.size).filter (fun i => !listed.getD i true && ((ops[i]?).map (fun o => o.after.all fun e => !Region.binds .any e || listed.getD e.on false)).getD false) = rs
    have hmem : ∀ i, i ∈ rs ↔ i < ops.size ∧ i ∉ acc ∧ ∃ o, ops[i]? = some o ∧ ∀ d ∈ depsOf o, d ∈ acc := by
      intro i
      rw [← hrs, List.mem_filter, List.mem_range]
      constructor
      · rintro ⟨h1, h2⟩
        simp only [Bool.and_eq_true, Bool.not_eq_true'] at h2
        refine ⟨h1, fun hm => by rw [(hl i h1).2 hm] at h2; simp at h2, ops[i], Array.getElem?_eq_getElem h1, ?_⟩
        intro d hd
        have h3 := h2.2
        rw [Array.getElem?_eq_getElem h1] at h3
        simp only [Option.map_some, Option.getD_some, Array.all_eq_true_iff_forall_mem] at h3
        obtain ⟨e, he, hed⟩ := List.mem_filterMap.1 hd
        have h4 := h3 e (by simpa using he)
        cases hb : Region.binds .any e with
        | false => simp [hb] at hed
        | true =>
          simp only [hb, cond_true, Option.some.injEq] at hed
          simp only [hb, Bool.not_true, Bool.false_or] at h4
          subst hed
          have hdl := hlow i _ (Array.getElem?_eq_getElem h1) e.on hd
          have : listed.getD e.on true = true := by
            rw [Array.getD_eq_getD_getElem?] at h4 ⊢
            rw [Array.getElem?_eq_getElem (by omega)] at h4 ⊢
            exact h4
          exact (hl e.on (by omega)).1 this
      · rintro ⟨h1, h2, o, ho, h3⟩
        refine ⟨h1, ?_⟩
        simp only [Bool.and_eq_true, Bool.not_eq_true']
        refine ⟨?_, ?_⟩
        · cases hx : listed.getD i true with
          | false => rfl
          | true => exact (h2 ((hl i h1).1 hx)).elim
        · simp only [ho, Option.map_some, Option.getD_some, Array.all_eq_true_iff_forall_mem]
          intro e he
          cases hb : Region.binds .any e with
          | false => rfl
          | true =>
            simp only [Bool.not_true, Bool.false_or]
            have hd : e.on ∈ depsOf o := List.mem_filterMap.2 ⟨e, by simpa using he, by simp [hb]⟩
            have hlt' := hlow i o ho e.on hd
            have := (hl e.on (by omega)).2 (h3 e.on hd)
            rw [Array.getD_eq_getD_getElem?] at this ⊢
            rw [Array.getElem?_eq_getElem (by omega)] at this ⊢
            exact this
    -- something is ready
    have hne : rs ≠ [] := by
      have hex : ∃ i, i < ops.size ∧ i ∉ acc := by
        rcases Classical.em (∃ i, i < ops.size ∧ i ∉ acc) with h | h
        · exact h
        · exfalso
          have h2 : List.range ops.size ⊆ acc := by
            intro x hx
            rcases Classical.em (x ∈ acc) with h' | h'
            · exact h'
            · exact (h ⟨x, List.mem_range.1 hx, h'⟩).elim
          have := (List.nodup_range (n := ops.size)).length_le_of_subset h2
          simp at this; omega
      -- the least one
      have least : ∀ k, (∃ i, i < k ∧ i < ops.size ∧ i ∉ acc) → ∃ i, i < ops.size ∧ i ∉ acc ∧ ∀ j, j < i → j ∈ acc := by
        intro k
        induction k with
        | zero => rintro ⟨i, h, _⟩; omega
        | succ k ihk =>
          rintro ⟨i, h1, h2, h3⟩
          rcases Classical.em (∃ i, i < k ∧ i < ops.size ∧ i ∉ acc) with h | h
          · exact ihk h
          · refine ⟨i, h2, h3, fun j hj => ?_⟩
            rcases Classical.em (j ∈ acc) with h' | h'
            · exact h'
            · exact (h ⟨j, by omega, by omega, h'⟩).elim
      obtain ⟨i, hi, hn⟩ := hex
      obtain ⟨i, hi, hn, hall⟩ := least ops.size ⟨i, hi, hi, hn⟩
      intro e
      have : i ∈ rs := (hmem i).2 ⟨hi, hn, ops[i], Array.getElem?_eq_getElem hi, fun d hd => hall d (hlow i _ (Array.getElem?_eq_getElem hi) d hd)⟩
      rw [e] at this; simp at this
    have hpos : 0 < rs.length := List.length_pos_iff.2 hne
    have hlt2 : t % rs.length < rs.length := Nat.mod_lt _ hpos
    rw [List.getElem?_eq_getElem hlt2]
    simp only
    generalize hi : rs[t % rs.length] = i
    have him : i ∈ rs := by rw [← hi]; exact List.getElem_mem hlt2
    obtain ⟨h1, h2, o, ho, h3⟩ := (hmem i).1 him
    have hA : ∀ j ∈ (ancs ops).getD i [], j ∈ acc := by
      intro j hj
      obtain ⟨d, hd, rfl | ⟨hdi, hjd⟩⟩ := (ancs_get ho).1 hj
      · exact h3 j hd
      · exact hcl d (h3 d hd) j hjd
    obtain ⟨S, hgo, hS⟩ := ih (t / rs.length) (listed.setIfInBounds i true) (i :: acc) (by simp [hs]) (by
        intro k hk
        rw [Array.getD_eq_getD_getElem?, Array.getElem?_setIfInBounds]
        by_cases e : i = k
        · subst e; simp [hs, h1]
        · rw [if_neg e, ← Array.getD_eq_getD_getElem?, hl k hk]
          simp [Ne.symm e]) (List.nodup_cons.2 ⟨h2, hnd⟩) (by
        intro k hk
        rcases List.mem_cons.1 hk with rfl | hk
        · exact h1
        · exact hlt k hk) (by simp; omega) (by
        intro k hk j hj
        rcases List.mem_cons.1 hk with rfl | hk
        · exact List.mem_cons_of_mem _ (hA j hj)
        · exact List.mem_cons_of_mem _ (hcl k hk j hj))
    exact ⟨i :: S, by rw [hgo]; simp, .cons h1 h2 hA hS⟩
theorem schedule_sched (hlow : ∀ (i : Nat) (o : Oper), ops[i]? = some o → ∀ d ∈ depsOf o, d < i) (t : Nat) : Sched (ancs ops) ops.size [] (Region.schedule true ops t) := by
  unfold Region.schedule
  simp only [Bool.true_or, if_true, Region.linearise]
  obtain ⟨S, hgo, hS⟩ := go_sched hlow ops.size t (Array.replicate ops.size false) [] (by simp) (by
    intro i hi
    simp [Array.getD_eq_getD_getElem?, hi]) (by simp) (by simp) (by simp) (by simp)
  rw [hgo]
  simpa using hS
end
end Go.NW
namespace Go.NW
open Go
theorem rd_run {α : Type} (P : Program) (s : Sem α) : ∀ (w : World) (a : α), rd P w.heap s = some a → s.run P w = .ok a w := by
  induction s with
  | pure x => intro w a h; simp only [rd, Option.some.injEq] at h; subst h; rfl
  | load m p k ih =>
    intro w a h
    simp only [rd] at h
    have e : w.cell? p = cellAt w.heap p := rfl
    cases hc : cellAt w.heap p with
    | none => rw [hc] at h; simp at h
    | some v => rw [hc] at h; simp only [Sem.run, e, hc]; exact ih v w a h
  | shape r k ih => intro w a h; exact ih _ w a h
  | frozen p k ih => intro w a h; exact ih _ w a h
  | getObj r k ih =>
    intro w a h
    simp only [rd] at h
    simp only [Sem.run]
    split at h
    · simp at h
    · rename_i o hn he
      rw [he]
      cases o <;> first | exact ih _ w a h | exact (hn _ _ _ rfl).elim
    · simp at h
  | program k ih => intro w a h; exact ih _ w a h
  | mark m k ih => intro w a h; exact ih w a h
  | _ => intro w a h; simp [rd] at h
abbrev QT := Exit → Fr → Hp → Prop
def thenK (K : Fr → Hp → Prop) (Q : QT) : QT
  | .normal => K
  | e => Q e
def blockK (id : Nat) (Q : QT) : QT
  | .exit id' => bif Nat.beq id' id then Q .normal else Q (.exit id')
  | e => Q e
def condV (v : Value) (a b : Prop) : Prop :=
  match v with
  | .bool c => if c then a else b
  | _ => False
def xLoop (body : QT → Fr → Hp → Prop) (Q : QT) (fr : Fr) (H : Hp) : Prop :=
  ∃ (I : Fr → Hp → Prop) (μ : Fr → Hp → Nat), I fr H ∧ ∀ fr H, I fr H → body (thenK (fun fr' H' => I fr' H' ∧ μ fr' H' < μ fr H) Q) fr H
def xCode (P : Program) (n : Nat) : Code → QT → Fr → Hp → Prop
  | .skip, Q => Q .normal
  | .region _ ops draw, Q => bif draw then xDraw P n ops (Q .normal) else xIdx P n ops (List.range ops.size) (Q .normal)
  | .seq a b, Q => xCode P n a (thenK (xCode P n b Q) Q)
  | .cond c a b, Q => fun fr H => condV (ev fr c) (xCode P n a Q fr H) (xCode P n b Q fr H)
  | .block id c, Q => xCode P n c (blockK id Q)
  | .loop c, Q => xLoop (fun Q => xCode P n c Q) Q
  | .exit id, Q => Q (.exit id)
  | .ret, Q => Q .ret
  | .label _, _ | .goto _, _ | .scope _, _ | .rangeFunc .., _ | .refuse _, _ => fun _ _ => False
def Rl (n : Nat) (ds : List Deferred) (w0 : World) (Q : QT) : Exit → Act → World → Prop :=
  fun e a w => a.tmps.size = n ∧ a.defers = ds ∧ SameW w0 w ∧ Q e (frOf a.tmps) w.heap
theorem xCode_wp {P : Program} {n : Nat} (hm : P.toTables.follows .mixedOrders = true) (ds : List Deferred) (w0 : World) (c : Code) : ∀ (Q : QT) (a : Act) (w : World),
    a.tmps.size = n → a.defers = ds → SameW w0 w → xCode P n c Q (frOf a.tmps) w.heap → c.wp P (Rl n ds w0 Q) a w := by
  induction c with
  | skip => intro Q a w hs hd hw h; exact wp_skip ⟨hs, hd, hw, h⟩
  | region id ops draw =>
    intro Q a w hs hd hw h
    simp only [xCode] at h
    cases draw with
    | false =>
      refine wp_region ?_
      refine xIdx_wp _ _ _ _ hs h ?_
      intro a' w' h1 h2 h3 h4
      exact ⟨h1, h2.trans hd, hw.trans h3, h4⟩
    | true =>
      refine wp_region_draw fun t => ?_
      have hx : ∀ (i : Nat) (o : Oper), ops[i]? = some o → ∀ d ∈ depsOf o, d < i := by
        simp only [cond_true] at h
        unfold xDraw at h
        cases h1 : drawOk n ops (ancs ops) with
        | false => simp [h1] at h
        | true =>
          cases h2 : onceOk ops with
          | false => simp [h1, h2] at h
          | true => exact (Ok.of h1 h2).low
      have hS := schedule_sched hx t
      have hm' : P.follows .mixedOrders = true := hm
      rw [hm']
      refine xIdx_wp (n := n) (K := Q .normal) _ a { w with drawn := w.drawn + 1 } hs (xDraw_idx h hS) ?_
      intro a' w' h1 h2 h3 h4
      exact ⟨h1, h2.trans hd, hw.trans ⟨h3.os, h3.tape, h3.output⟩, h4⟩
  | seq x y ihx ihy =>
    intro Q a w hs hd hw h
    refine wp_seq (wp_mono (ihx _ a w hs hd hw h) ?_)
    rintro e a' w' ⟨h1, h2, h3, h4⟩
    cases e with
    | normal => exact ihy Q a' w' h1 h2 h3 h4
    | _ => exact ⟨h1, h2, h3, h4⟩
  | cond c x y ihx ihy =>
    intro Q a w hs hd hw h
    simp only [xCode, ev_frOf] at h
    unfold condV at h
    split at h
    · rename_i b hb
      refine wp_cond hb ?_
      cases b with
      | true => exact ihx Q a w hs hd hw (by simpa using h)
      | false => exact ihy Q a w hs hd hw (by simpa using h)
    · exact h.elim
  | block id c ih =>
    intro Q a w hs hd hw h
    refine wp_block (wp_mono (ih _ a w hs hd hw h) ?_)
    rintro e a' w' ⟨h1, h2, h3, h4⟩
    cases e with
    | exit id' =>
      simp only [Exit.inBlock]
      simp only [blockK] at h4
      by_cases e : id' = id
      · subst e
        rw [if_pos rfl]
        simp only [Nat.beq_refl, cond_true] at h4
        exact ⟨h1, h2, h3, h4⟩
      · rw [if_neg e]
        have : Nat.beq id' id = false := by
          cases hb : Nat.beq id' id with
          | false => rfl
          | true => exact (e (Nat.eq_of_beq_eq_true hb)).elim
        simp only [this, cond_false] at h4
        exact ⟨h1, h2, h3, h4⟩
    | _ => exact ⟨h1, h2, h3, h4⟩
  | loop c ih =>
    intro Q a w hs hd hw h
    obtain ⟨I, μ, h0, hround⟩ := h
    refine wp_loop (fun a w => a.tmps.size = n ∧ a.defers = ds ∧ SameW w0 w ∧ I (frOf a.tmps) w.heap) (fun a w => μ (frOf a.tmps) w.heap) ⟨hs, hd, hw, h0⟩ ?_
    rintro a' w' ⟨h1, h2, h3, h4⟩
    refine wp_mono (ih _ a' w' h1 h2 h3 (hround _ _ h4)) ?_
    rintro e a'' w'' ⟨k1, k2, k3, k4⟩
    cases e with
    | normal => exact ⟨⟨k1, k2, k3, k4.1⟩, k4.2⟩
    | _ => exact ⟨k1, k2, k3, k4⟩
  | exit id => intro Q a w hs hd hw h; exact wp_exit ⟨hs, hd, hw, h⟩
  | ret => intro Q a w hs hd hw h; exact wp_ret ⟨hs, hd, hw, h⟩
  | _ => intro Q a w hs hd hw h; exact h.elim
def res1 (P : Program) (H : Hp) (fr : Fr) : ResultVar → Option Value
  | .tmp t => some (fr t)
  | .cell a t => LdT P t H (fr a)
def resL (P : Program) (H : Hp) (fr : Fr) : List ResultVar → (List Value → Prop) → Prop
  | [], K => K []
  | r :: rs, K => q (res1 P H fr r) fun v => resL P H fr rs fun vs => K (v :: vs)
def resK (P : Program) (H : Hp) (fr : Fr) (rs : List ResultVar) (K : Value → Prop) : Prop :=
  match rs with
  | [r] => q (res1 P H fr r) K
  | rs => resL P H fr rs fun vs => K (.tuple vs.toArray)
def xRet (P : Program) (rs : List ResultVar) (Q : RT1) : QT
  | .normal => fun fr H => resK P H fr rs fun v => Q v H
  | .ret => fun fr H => resK P H fr rs fun v => Q v H
  | _ => fun _ _ => False
theorem LdT_var {P : Program} {t : TypeId} {H : Hp} {v r : Value} (h : LdT P t H v = some r) : rd P H (do loadVar t (← asAddr v)) = some r := by
  have h' := rd_LdT h
  have : ∃ a, v = .pointer (some a) := by
    unfold LdT at h
    split at h
    · unfold LdA at h
      split at h
      · exact ⟨_, rfl⟩
      · simp at h
    · simp at h
    · unfold Ld at h
      split at h
      · exact ⟨_, rfl⟩
      · simp at h
  obtain ⟨a, rfl⟩ := this
  exact h'
theorem res1_rd {P : Program} {H : Hp} {tmps : Array Value} {r : ResultVar} {v : Value} (h : res1 P H (frOf tmps) r = some v) :
    rd P H (match r with | .tmp t => (pure (tmps.getD t undef) : Sem Value) | .cell a t => do loadVar t (← asAddr (tmps.getD a undef))) = some v := by
  cases r with
  | tmp t => exact h
  | cell a t => exact LdT_var h
theorem resL_rd {P : Program} {H : Hp} {tmps : Array Value} : ∀ {rs : List ResultVar} {K : List Value → Prop}, resL P H (frOf tmps) rs K →
    ∃ vs, K vs ∧ vs.length = rs.length ∧ rd P H (rs.mapM fun r => (match r with | .tmp t => (pure (tmps.getD t undef) : Sem Value) | .cell a t => do loadVar t (← asAddr (tmps.getD a undef)))) = some vs
  | [], K, h => ⟨[], h, rfl, by simp [rd_p]⟩
  | r :: rs, K, h => by
    simp only [resL] at h
    unfold q at h
    split at h
    · rename_i v hv
      obtain ⟨vs, hk, hl, hr⟩ := resL_rd h
      refine ⟨v :: vs, hk, by simp [hl], ?_⟩
      rw [List.mapM_cons, rd_b, res1_rd hv, Option.bind_some, rd_b, hr]
      rfl
    · exact h.elim
theorem resK_run {P : Program} {fn : Func} {tmps : Array Value} {w : World} {K : Value → Prop} (h : resK P w.heap (frOf tmps) fn.results.toList K) :
    ∃ v, (results fn tmps).run P w = .ok v w ∧ K v := by
  have h2 : ∃ vs : List Value, K (if h : vs.toArray.size = 1 then vs.toArray[0] else .tuple vs.toArray) ∧ rd P w.heap (fn.results.toList.mapM fun r => (match r with | .tmp t => (pure (tmps.getD t undef) : Sem Value) | .cell a t => do loadVar t (← asAddr (tmps.getD a undef)))) = some vs := by
    unfold resK at h
    split at h
    · rename_i r hr
      unfold q at h
      split at h
      · rename_i v hv
        refine ⟨[v], by simpa using h, ?_⟩
        rw [hr, List.mapM_cons, rd_b, res1_rd hv, Option.bind_some, rd_b]
        simp [rd_p]
      · exact h.elim
    · rename_i rs hne
      obtain ⟨vs, hk, hl, hrd⟩ := resL_rd h
      refine ⟨vs, ?_, hrd⟩
      have : ¬ vs.toArray.size = 1 := by
        intro e
        simp only [List.size_toArray] at e
        rw [hl] at e
        match hx : fn.results.toList, e with
        | [r], _ => exact hne r hx
      rw [dif_neg this]; exact hk
  obtain ⟨vs, hk, hrd⟩ := h2
  refine ⟨_, ?_, hk⟩
  apply rd_run
  unfold results
  rw [Array.mapM_eq_mapM_toList, rd_b, map_eq_pure_bind, rd_b]
  refine (congrArg (fun o => (Option.bind o _).bind _) hrd).trans ?_
  simp [rd_p]
/-- A function's text. -/
def xFn (P : Program) (fn : Func) (args : Array Value) (H : Hp) (Q : RT1) : Prop :=
  match fn.body with
  | some c => xCode P fn.ntmps c (xRet P fn.results.toList Q) (fun i => args.getD i undef) H
  | none => False
theorem NCalls.of {P : Program} {f : FuncId} {fn : Func} {args : Array Value} {H : Hp} {Q : RT1} (hm : P.toTables.follows .mixedOrders = true)
    (hf : P.funcs[f]? = some fn) (ho : okFn P f = true) (hn : Nat.ble args.size fn.ntmps = true) (h : xFn P fn args H Q) : NCalls P f args H Q := by
  refine .inl ⟨ho, fun w hw => ?_⟩
  subst hw
  unfold xFn at h
  split at h
  · rename_i c hb
    refine calls_of_wp hf hb ?_
    have hle := Nat.le_of_ble_eq_true hn
    have hfr : frOf (args ++ Array.replicate (fn.ntmps - args.size) undef) = fun i => args.getD i undef := by
      funext i
      simp only [frOf, Array.getD_eq_getD_getElem?, Array.getElem?_append]
      by_cases hi : i < args.size
      · simp [hi]
      · rw [if_neg hi, Array.getElem?_eq_none (Nat.le_of_not_lt hi)]
        rw [Array.getElem?_replicate]
        split <;> rfl
    refine wp_mono (xCode_wp (n := fn.ntmps) hm [] w c _ _ w ?_ rfl (.refl w) (by rw [hfr]; exact h)) ?_
    · simp; omega
    · rintro e a' w' ⟨h1, h2, h3, h4⟩
      cases e with
      | normal => obtain ⟨v, hr, hk⟩ := resK_run h4; exact ⟨h2, v, hr, v, rfl, hk, h3⟩
      | ret => obtain ⟨v, hr, hk⟩ := resK_run h4; exact ⟨h2, v, hr, v, rfl, hk, h3⟩
      | _ => exact h4.elim
  · exact h.elim
end Go.NW
namespace Go.NW
open Go
section
variable {P : Program} {n : Nat}
theorem q_mono {e : Option Value} {K K' : Value → Prop} (hk : ∀ v, K v → K' v) (h : q e K) : q e K' := by
  unfold q at h ⊢
  split at h
  · exact hk _ h
  · exact h.elim
theorem xStep_mono {ops : Array Oper} {i : Nat} {K K' : Fr → Hp → Prop} (hk : ∀ fr H, K fr H → K' fr H) {fr : Fr} {H : Hp} (h : xStep P n ops i K fr H) : xStep P n ops i K' fr H := by
  unfold xStep at h ⊢
  split at h
  · exact hk _ _ h
  · rename_i o ho
    cases hd : okDst n o.dst with
    | false => simp [hd] at h
    | true =>
      simp only [hd, cond_true] at h ⊢
      cases hq : quiet o.op with
      | true => simp only [hq, cond_true] at h ⊢; exact q_mono (fun v hv => hk _ _ hv) h
      | false => simp only [hq, cond_false] at h ⊢; exact le_mono (fun v H hv => hk _ _ hv) h
theorem xIdx_mono {ops : Array Oper} : ∀ (l : List Nat) {K K' : Fr → Hp → Prop}, (∀ fr H, K fr H → K' fr H) → ∀ {fr : Fr} {H : Hp}, xIdx P n ops l K fr H → xIdx P n ops l K' fr H
  | [], _, _, hk, fr, H, h => hk fr H h
  | _ :: l, _, _, hk, _, _, h => xStep_mono (fun _ _ h' => xIdx_mono l hk h') h
theorem xRest_mono {ops : Array Oper} {A : List (List Nat)} {idx : List Nat} {K K' : Fr → Hp → Prop} (hk : ∀ fr H, K fr H → K' fr H) : ∀ (ls done : List Nat) {fr : Fr} {H : Hp},
    xRest P n ops A idx K ls done fr H → xRest P n ops A idx K' ls done fr H
  | [], done, fr, H, h => by
    simp only [xRest] at h ⊢
    cases hs : subl idx done with
    | true => rw [hs] at h; exact hk _ _ h
    | false => rw [hs] at h; exact h.elim
  | l :: ls, done, fr, H, h => by
    simp only [xRest] at h ⊢
    cases hs : subl (A.getD l []) done with
    | true =>
      simp only [hs, cond_true] at h ⊢
      refine xStep_mono ?_ h
      intro fr' H' h'
      obtain ⟨h1, h2⟩ := chks_iff.1 h'
      exact chks_iff.2 ⟨h1, xIdx_mono _ (fun _ _ h'' => xRest_mono hk ls _ h'') h2⟩
    | false => rw [hs] at h; exact h.elim
theorem allX_mono {f g : List Nat → Prop} (h : ∀ x, f x → g x) : ∀ {xs : List (List Nat)}, allX f xs → allX g xs
  | [], _ => trivial
  | [x], h' => h x h'
  | x :: y :: xs, h' => ⟨h x h'.1, allX_mono (xs := y :: xs) h h'.2⟩
theorem xDraw_mono {ops : Array Oper} {K K' : Fr → Hp → Prop} (hk : ∀ fr H, K fr H → K' fr H) {fr : Fr} {H : Hp} (h : xDraw P n ops K fr H) : xDraw P n ops K' fr H := by
  unfold xDraw at h ⊢
  cases h1 : drawOk n ops (ancs ops) with
  | false => simp [h1] at h
  | true =>
    cases h2 : onceOk ops with
    | false => simp [h1, h2] at h
    | true =>
      simp only [h1, h2, cond_true] at h ⊢
      exact allX_mono (fun ls hx => xIdx_mono _ (fun _ _ h'' => xRest_mono hk ls _ h'') hx) h
theorem condV_mono {v : Value} {a b a' b' : Prop} (ha : a → a') (hb : b → b') (h : condV v a b) : condV v a' b' := by
  unfold condV at h ⊢
  split at h
  · split at h
    · rename_i hc; rw [if_pos hc]; exact ha h
    · rename_i hc; rw [if_neg hc]; exact hb h
  · exact h.elim
theorem xCode_mono (c : Code) : ∀ {Q Q' : QT}, (∀ e fr H, Q e fr H → Q' e fr H) → ∀ {fr : Fr} {H : Hp}, xCode P n c Q fr H → xCode P n c Q' fr H := by
  induction c with
  | skip => intro Q Q' hq fr H h; exact hq _ _ _ h
  | region id ops draw =>
    intro Q Q' hq fr H h
    cases draw with
    | true => exact xDraw_mono (hq .normal) h
    | false => exact xIdx_mono _ (hq .normal) h
  | seq x y ihx ihy =>
    intro Q Q' hq fr H h
    refine ihx ?_ h
    intro e fr H h
    cases e with
    | normal => exact ihy hq h
    | _ => exact hq _ _ _ h
  | cond c x y ihx ihy =>
    intro Q Q' hq fr H h
    exact condV_mono (ihx hq) (ihy hq) h
  | block id c ih =>
    intro Q Q' hq fr H h
    refine ih ?_ h
    intro e fr H h
    cases e with
    | exit id' =>
      simp only [blockK] at h ⊢
      cases hb : Nat.beq id' id with
      | true => rw [hb] at h; exact hq _ _ _ h
      | false => rw [hb] at h; exact hq _ _ _ h
    | _ => exact hq _ _ _ h
  | loop c ih =>
    intro Q Q' hq fr H h
    obtain ⟨I, μ, h0, hr⟩ := h
    refine ⟨I, μ, h0, fun fr H hI => ih ?_ (hr fr H hI)⟩
    intro e fr H h
    cases e with
    | normal => exact h
    | _ => exact hq _ _ _ h
  | exit id => intro Q Q' hq fr H h; exact hq _ _ _ h
  | ret => intro Q Q' hq fr H h; exact hq _ _ _ h
  | _ => intro Q Q' hq fr H h; exact h.elim
theorem seq_cut {c a b : Code} (e : c = .seq a b) {J : Fr → Hp → Prop} {Q : QT} {fr : Fr} {H : Hp} (hb : ∀ fr H, J fr H → xCode P n b Q fr H)
    (ha : xCode P n a (thenK J Q) fr H) : xCode P n c Q fr H := by
  subst e
  refine xCode_mono a ?_ ha
  intro e fr H h
  cases e with
  | normal => exact hb _ _ h
  | _ => exact h
theorem cond_cut {c a b : Code} {x : Operand} (e : c = .cond x a b) {A B : Prop} {Q : QT} {fr : Fr} {H : Hp} (ha : A → xCode P n a Q fr H) (hb : B → xCode P n b Q fr H)
    (h : condV (ev fr x) A B) : xCode P n c Q fr H := by
  subst e
  exact condV_mono ha hb h
theorem block_cut {c a : Code} {id : Nat} (e : c = .block id a) {Q : QT} {fr : Fr} {H : Hp} (h : xCode P n a (blockK id Q) fr H) : xCode P n c Q fr H := by
  subst e; exact h
theorem loop_cut {c a : Code} (e : c = .loop a) {Q : QT} {fr : Fr} {H : Hp} (I : Fr → Hp → Prop) (μ : Fr → Hp → Nat) (h0 : I fr H)
    (h : ∀ fr H, I fr H → ∃ J : Fr → Hp → Prop, (∀ fr' H', J fr' H' → I fr' H' ∧ μ fr' H' < μ fr H) ∧ xCode P n a (thenK J Q) fr H) : xCode P n c Q fr H := by
  subst e
  refine ⟨I, μ, h0, fun fr H hI => ?_⟩
  obtain ⟨J, hJ, hx⟩ := h fr H hI
  refine xCode_mono a ?_ hx
  intro e fr H h
  cases e with
  | normal => exact hJ _ _ h
  | _ => exact h
end
def Code.l : Code → Code
  | .seq a _ | .cond _ a _ | .block _ a | .loop a => a
  | c => c
def Code.r : Code → Code
  | .seq _ b | .cond _ _ b => b
  | c => c
def bodyOf (f : Func) : Code := f.body.getD .skip
theorem NCalls.ofBody {P : Program} {f : FuncId} {fn : Func} {args : Array Value} {H : Hp} {Q : RT1} (hm : P.toTables.follows .mixedOrders = true)
    (hf : P.funcs[f]? = some fn) (ho : okFn P f = true) (hn : Nat.ble args.size fn.ntmps = true)
    (h : xCode P fn.ntmps (bodyOf fn) (xRet P fn.results.toList Q) (fun i => args.getD i undef) H) : NCalls P f args H Q := by
  refine NCalls.of hm hf ho hn ?_
  unfold okFn at ho
  rw [hf] at ho
  simp only [Bool.and_eq_true] at ho
  unfold xFn
  unfold bodyOf at h
  cases hb : fn.body with
  | none => simp [hb] at ho
  | some c => rw [hb] at h; exact h
end Go.NW
