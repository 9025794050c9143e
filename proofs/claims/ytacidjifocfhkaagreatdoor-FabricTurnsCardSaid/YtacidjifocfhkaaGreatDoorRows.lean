/-
  NARROWER THAN 'FOR EVERY INPUT', by the rows' own cells (each row's printed sentence says how): FabricAsks: laid · FabricReaders: laid · FabricLost: laid · FabricTurns: laid · FabricSmall: laid · FabricPlays: laid.
  DERIVED. THE GIVEN ROWS OF THIS SEAT. 6 by the template 'for every input the law returns true; each argument reads behind the call as it read before'; 0 by the template 'total and deterministic' (their statements: YtacidjifocfhkaaGreatDoorTotals.lean).
  GIVEN WITH THE SEED: the statements are not yours to turn. If you find one false, say at which input.
  Laid BY PROGRAM, IN A SANDBOX (cutbox-rows.mjs): the forced cells as the released guide's own fill.sh prints them over the translation 304b444b460099f2… (all of the seat's roots in one cut). By AI agents, Wed Nov 11 2026. No macro, syntax, notation, axiom, sorry.
-/
import Derived.Test.YtacidjifocfhkaaGreatDoorChecked
import GoSem.Claim
import GoSem.ClaimJoined
import GoSem.ClaimMapViews
import Derived.JoinedTies
import Derived.KernelRfl
namespace Go.Proofs.YtacidjifocfhkaaGreatDoor
/- THE CELL 'sum', in the pinned program and in every row, IS THE sha256 OF THE DUMP (.gsa) THAT YtacidjifocfhkaaGreatDoorProg.lean LOADS. Nothing in Lean hashes anything: it is a label: what it is worth is what the hold of that sum in a sandbox is worth. -/
noncomputable def Tryz.pinned : Pinned := { name := "ytacidjifocfhkaagreatdoor", sum := "304b444b460099f21ce25cf2017aaa202b82b232551a4fa489a0a96041dc8672", checked := Tryz.checked }
namespace Rows
def none {H : Type} : Left H := { results := [], args := [] }

/- WHAT THE LISTED PACKAGE-LEVEL VARIABLES READ AS WHEN THE CALL BEGINS. Each datum BY PROGRAM (the guide's laid-datum.mjs) off the statement by which the dump's own 'gosem.cut.vars' lays the variable. In a bare row this is a premise. The card (YtacidjifocfhkaaGreatDoorCards.lean) ties it to the program's text. -/
def laid_corral_api_ErrMany {H : Type} : DataW H := .iface "*errors.errorString" (.ptr (.agg [.lit (.string [116, 111, 111, 32, 109, 97, 110, 121])]))
def laid_corral_api_ErrKind {H : Type} : DataW H := .iface "*errors.errorString" (.ptr (.agg [.lit (.string [110, 111, 32, 115, 117, 99, 104, 32, 107, 105, 110, 100])]))
def laid_corral_api_ErrPlace {H : Type} : DataW H := .iface "*errors.errorString" (.ptr (.agg [.lit (.string [110, 111, 32, 115, 117, 99, 104, 32, 112, 108, 97, 99, 101])]))
def laid_corral_api_ErrShape {H : Type} : DataW H := .iface "*errors.errorString" (.ptr (.agg [.lit (.string [110, 111, 116, 32, 116, 104, 101, 32, 115, 104, 97, 112, 101, 32, 116, 104, 97, 116, 32, 105, 116, 32, 104, 97, 115, 32, 116, 111, 32, 104, 97, 118, 101])]))
def laid_corral_api_ErrWord {H : Type} : DataW H := .iface "*errors.errorString" (.ptr (.agg [.lit (.string [110, 111, 32, 115, 117, 99, 104, 32, 119, 111, 114, 100])]))
def laid_corral_api_ErrRange {H : Type} : DataW H := .iface "*errors.errorString" (.ptr (.agg [.lit (.string [97, 32, 110, 117, 109, 98, 101, 114, 32, 111, 117, 116, 32, 111, 102, 32, 105, 116, 115, 32, 114, 97, 110, 103, 101])]))
def laid_corral_api_ErrFull {H : Type} : DataW H := .iface "*errors.errorString" (.ptr (.agg [.lit (.string [110, 111, 32, 114, 111, 111, 109])]))
def laid_corral_api_ErrNone {H : Type} : DataW H := .iface "*errors.errorString" (.ptr (.agg [.lit (.string [116, 104, 101, 114, 101, 32, 105, 115, 32, 110, 111, 110, 101])]))
def laid_corral_api_ErrTrace {H : Type} : DataW H := .iface "*errors.errorString" (.ptr (.agg [.lit (.string [110, 111, 32, 114, 117, 110, 32, 111, 102, 32, 116, 104, 101, 32, 105, 110, 115, 116, 114, 117, 99, 116, 105, 111, 110, 115])]))
def laid_corral_api_ErrOrder {H : Type} : DataW H := .iface "*errors.errorString" (.ptr (.agg [.lit (.string [97, 110, 32, 111, 114, 100, 101, 114, 32, 116, 104, 97, 116, 32, 109, 97, 121, 32, 110, 111, 116, 32, 98, 101])]))
def laid_corral_api_ErrValue {H : Type} : DataW H := .iface "*errors.errorString" (.ptr (.agg [.lit (.string [97, 32, 118, 97, 108, 117, 101, 32, 116, 104, 97, 116, 32, 119, 97, 115, 32, 110, 111, 116, 32, 116, 104, 101, 114, 101])]))

/-- 'corrallaw20.FabricAsks': WHATEVER THE INPUT: true; the input reads as it did. -/
def fabricAsksSpec : ChangeSpec := { name := "fabricAsks", fn := fun _ => fun
  | [d1, d2, d3, d4, d5] => { results := [.lit (.bool true)], args := [d1, d2, d3, d4, d5] }
  | _ => none }
def fabricAsksRow : OpenClaim := { program := "ytacidjifocfhkaagreatdoor", sum := "304b444b460099f21ce25cf2017aaa202b82b232551a4fa489a0a96041dc8672", func := "corral/corrallaw20.FabricAsks", spec := "fabricAsks", inPlace := ["slices.overlaps[int]"], unfollowed := true, recurses := true, named := ["corral/api.ErrRange", "corral/api.ErrMany", "corral/api.ErrKind", "corral/api.ErrPlace", "corral/api.ErrFull", "corral/api.ErrShape", "corral/api.ErrWord", "corral/api.ErrNone", "corral/api.ErrTrace", "corral/api.ErrOrder", "corral/api.ErrValue"], plainKeys := false, apart := false, laid := [("corral/api.ErrMany", laid_corral_api_ErrMany), ("corral/api.ErrKind", laid_corral_api_ErrKind), ("corral/api.ErrPlace", laid_corral_api_ErrPlace), ("corral/api.ErrShape", laid_corral_api_ErrShape), ("corral/api.ErrWord", laid_corral_api_ErrWord), ("corral/api.ErrRange", laid_corral_api_ErrRange), ("corral/api.ErrFull", laid_corral_api_ErrFull), ("corral/api.ErrNone", laid_corral_api_ErrNone), ("corral/api.ErrTrace", laid_corral_api_ErrTrace), ("corral/api.ErrOrder", laid_corral_api_ErrOrder), ("corral/api.ErrValue", laid_corral_api_ErrValue)] }
def FabricAsksSaid : Prop := fabricAsksRow.holds Tryz.pinned (OpenSpec.ofChange fabricAsksSpec)

/-- ITS FALSE NEIGHBOUR: 'it returns false'. Refute it at one input. -/
def fabricAsksWrong : ChangeSpec := { name := "fabricAsks", fn := fun _ => fun
  | [d1, d2, d3, d4, d5] => { results := [.lit (.bool false)], args := [d1, d2, d3, d4, d5] }
  | _ => none }
def FabricAsksWrongFalsely : Prop := fabricAsksRow.holds Tryz.pinned (OpenSpec.ofChange fabricAsksWrong)

/-- 'corrallaw20.FabricReaders': WHATEVER THE INPUT: true; the input reads as it did. -/
def fabricReadersSpec : ChangeSpec := { name := "fabricReaders", fn := fun _ => fun
  | [d1, d2] => { results := [.lit (.bool true)], args := [d1, d2] }
  | _ => none }
def fabricReadersRow : OpenClaim := { program := "ytacidjifocfhkaagreatdoor", sum := "304b444b460099f21ce25cf2017aaa202b82b232551a4fa489a0a96041dc8672", func := "corral/corrallaw20.FabricReaders", spec := "fabricReaders", inPlace := ["slices.overlaps[int]"], unfollowed := true, recurses := true, named := ["corral/api.ErrRange", "corral/api.ErrMany", "corral/api.ErrKind", "corral/api.ErrPlace", "corral/api.ErrFull"], plainKeys := false, apart := false, laid := [("corral/api.ErrMany", laid_corral_api_ErrMany), ("corral/api.ErrKind", laid_corral_api_ErrKind), ("corral/api.ErrPlace", laid_corral_api_ErrPlace), ("corral/api.ErrRange", laid_corral_api_ErrRange), ("corral/api.ErrFull", laid_corral_api_ErrFull)] }
def FabricReadersSaid : Prop := fabricReadersRow.holds Tryz.pinned (OpenSpec.ofChange fabricReadersSpec)

/-- ITS FALSE NEIGHBOUR: 'it returns false'. Refute it at one input. -/
def fabricReadersWrong : ChangeSpec := { name := "fabricReaders", fn := fun _ => fun
  | [d1, d2] => { results := [.lit (.bool false)], args := [d1, d2] }
  | _ => none }
def FabricReadersWrongFalsely : Prop := fabricReadersRow.holds Tryz.pinned (OpenSpec.ofChange fabricReadersWrong)

/-- 'corrallaw20.FabricLost': WHATEVER THE INPUT: true; the input reads as it did. -/
def fabricLostSpec : ChangeSpec := { name := "fabricLost", fn := fun _ => fun
  | [d1, d2, d3, d4] => { results := [.lit (.bool true)], args := [d1, d2, d3, d4] }
  | _ => none }
def fabricLostRow : OpenClaim := { program := "ytacidjifocfhkaagreatdoor", sum := "304b444b460099f21ce25cf2017aaa202b82b232551a4fa489a0a96041dc8672", func := "corral/corrallaw20.FabricLost", spec := "fabricLost", inPlace := ["slices.overlaps[int]"], unfollowed := true, recurses := true, named := ["corral/api.ErrRange", "corral/api.ErrMany", "corral/api.ErrKind", "corral/api.ErrPlace", "corral/api.ErrFull"], plainKeys := false, apart := false, laid := [("corral/api.ErrMany", laid_corral_api_ErrMany), ("corral/api.ErrKind", laid_corral_api_ErrKind), ("corral/api.ErrPlace", laid_corral_api_ErrPlace), ("corral/api.ErrRange", laid_corral_api_ErrRange), ("corral/api.ErrFull", laid_corral_api_ErrFull)] }
def FabricLostSaid : Prop := fabricLostRow.holds Tryz.pinned (OpenSpec.ofChange fabricLostSpec)

/-- ITS FALSE NEIGHBOUR: 'it returns false'. Refute it at one input. -/
def fabricLostWrong : ChangeSpec := { name := "fabricLost", fn := fun _ => fun
  | [d1, d2, d3, d4] => { results := [.lit (.bool false)], args := [d1, d2, d3, d4] }
  | _ => none }
def FabricLostWrongFalsely : Prop := fabricLostRow.holds Tryz.pinned (OpenSpec.ofChange fabricLostWrong)

/-- 'corrallaw20.FabricTurns': WHATEVER THE INPUT: true; the input reads as it did. -/
def fabricTurnsSpec : ChangeSpec := { name := "fabricTurns", fn := fun _ => fun
  | [d1, d2, d3] => { results := [.lit (.bool true)], args := [d1, d2, d3] }
  | _ => none }
def fabricTurnsRow : OpenClaim := { program := "ytacidjifocfhkaagreatdoor", sum := "304b444b460099f21ce25cf2017aaa202b82b232551a4fa489a0a96041dc8672", func := "corral/corrallaw20.FabricTurns", spec := "fabricTurns", inPlace := ["slices.overlaps[int]"], unfollowed := true, recurses := true, named := ["corral/api.ErrRange", "corral/api.ErrMany", "corral/api.ErrKind", "corral/api.ErrPlace", "corral/api.ErrFull"], plainKeys := false, apart := false, laid := [("corral/api.ErrMany", laid_corral_api_ErrMany), ("corral/api.ErrKind", laid_corral_api_ErrKind), ("corral/api.ErrPlace", laid_corral_api_ErrPlace), ("corral/api.ErrRange", laid_corral_api_ErrRange), ("corral/api.ErrFull", laid_corral_api_ErrFull)] }
def FabricTurnsSaid : Prop := fabricTurnsRow.holds Tryz.pinned (OpenSpec.ofChange fabricTurnsSpec)

/-- ITS FALSE NEIGHBOUR: 'it returns false'. Refute it at one input. -/
def fabricTurnsWrong : ChangeSpec := { name := "fabricTurns", fn := fun _ => fun
  | [d1, d2, d3] => { results := [.lit (.bool false)], args := [d1, d2, d3] }
  | _ => none }
def FabricTurnsWrongFalsely : Prop := fabricTurnsRow.holds Tryz.pinned (OpenSpec.ofChange fabricTurnsWrong)

/-- 'corrallaw20.FabricSmall': WHATEVER THE INPUT: true; the input reads as it did. -/
def fabricSmallSpec : ChangeSpec := { name := "fabricSmall", fn := fun _ => fun
  | [d] => { results := [.lit (.bool true)], args := [d] }
  | _ => none }
def fabricSmallRow : OpenClaim := { program := "ytacidjifocfhkaagreatdoor", sum := "304b444b460099f21ce25cf2017aaa202b82b232551a4fa489a0a96041dc8672", func := "corral/corrallaw20.FabricSmall", spec := "fabricSmall", inPlace := ["slices.overlaps[int]"], unfollowed := true, recurses := true, named := ["corral/api.ErrRange", "corral/api.ErrMany", "corral/api.ErrKind", "corral/api.ErrPlace", "corral/api.ErrFull"], plainKeys := false, apart := false, laid := [("corral/api.ErrMany", laid_corral_api_ErrMany), ("corral/api.ErrKind", laid_corral_api_ErrKind), ("corral/api.ErrPlace", laid_corral_api_ErrPlace), ("corral/api.ErrRange", laid_corral_api_ErrRange), ("corral/api.ErrFull", laid_corral_api_ErrFull)] }
def FabricSmallSaid : Prop := fabricSmallRow.holds Tryz.pinned (OpenSpec.ofChange fabricSmallSpec)

/-- ITS FALSE NEIGHBOUR: 'it returns false'. Refute it at one input. -/
def fabricSmallWrong : ChangeSpec := { name := "fabricSmall", fn := fun _ => fun
  | [d] => { results := [.lit (.bool false)], args := [d] }
  | _ => none }
def FabricSmallWrongFalsely : Prop := fabricSmallRow.holds Tryz.pinned (OpenSpec.ofChange fabricSmallWrong)

/-- 'corrallaw20.FabricPlays': WHATEVER THE INPUT: true; the input reads as it did. -/
def fabricPlaysSpec : ChangeSpec := { name := "fabricPlays", fn := fun _ => fun
  | [d1, d2, d3, d4, d5] => { results := [.lit (.bool true)], args := [d1, d2, d3, d4, d5] }
  | _ => none }
def fabricPlaysRow : OpenClaim := { program := "ytacidjifocfhkaagreatdoor", sum := "304b444b460099f21ce25cf2017aaa202b82b232551a4fa489a0a96041dc8672", func := "corral/corrallaw20.FabricPlays", spec := "fabricPlays", inPlace := ["slices.overlaps[int]"], unfollowed := true, recurses := true, named := ["corral/api.ErrRange", "corral/api.ErrMany", "corral/api.ErrKind", "corral/api.ErrPlace", "corral/api.ErrFull"], plainKeys := false, apart := false, laid := [("corral/api.ErrMany", laid_corral_api_ErrMany), ("corral/api.ErrKind", laid_corral_api_ErrKind), ("corral/api.ErrPlace", laid_corral_api_ErrPlace), ("corral/api.ErrRange", laid_corral_api_ErrRange), ("corral/api.ErrFull", laid_corral_api_ErrFull)] }
def FabricPlaysSaid : Prop := fabricPlaysRow.holds Tryz.pinned (OpenSpec.ofChange fabricPlaysSpec)

/-- ITS FALSE NEIGHBOUR: 'it returns false'. Refute it at one input. -/
def fabricPlaysWrong : ChangeSpec := { name := "fabricPlays", fn := fun _ => fun
  | [d1, d2, d3, d4, d5] => { results := [.lit (.bool false)], args := [d1, d2, d3, d4, d5] }
  | _ => none }
def FabricPlaysWrongFalsely : Prop := fabricPlaysRow.holds Tryz.pinned (OpenSpec.ofChange fabricPlaysWrong)

/- THE SECOND FORM. 'bulk': how many values and letters a reading holds, each counted each time it is reached (what is shared counts as often as it is met; a slice's spare places count too). A statement '..UptoSaid' is the law's where the arguments, and the package variables that the reading takes, are together of bulk at most 1048576: NARROWER than '..Said'. Prove '..Said' where nothing that the law and all that it calls make is longer than what came in: it says more and counts as full. Else prove '..UptoSaid'. A law counts once. -/
mutual
def uptoBulk {H : Type} : DataW H → Nat
  | .lit (.string bytes) => bytes.length + 1
  | .lit _ => 1
  | .nil => 1
  | .ptr d => uptoBulk d + 1
  | .slice elems spare => uptoBulkAll elems + uptoBulkAll spare + 1
  | .agg parts => uptoBulkAll parts + 1
  | .iface _ d => uptoBulk d + 1
  | .map entries => uptoBulkEntries entries + 1
  | .held _ => 1
def uptoBulkAll {H : Type} : List (DataW H) → Nat
  | [] => 0
  | d :: r => uptoBulk d + uptoBulkAll r
def uptoBulkEntries {H : Type} : List (Lit × DataW H) → Nat
  | [] => 0
  | x :: r => uptoBulkEntry x + uptoBulkEntries r
def uptoBulkEntry {H : Type} : Lit × DataW H → Nat
  | (.string bytes, d) => bytes.length + uptoBulk d + 1
  | (_, d) => uptoBulk d + 1
 end
def uptoSmall : (H : Type) → List (DataW H) → Bool := fun _ ds => decide (uptoBulkAll ds ≤ 1048576)
def OpenSpec.upto (s : _root_.Go.ChangeSpec) : _root_.Go.OpenSpec := { _root_.Go.OpenSpec.ofChange s with cond := some uptoSmall }

/-- 'corrallaw20.FabricAsks', WHERE WHAT IT READS IS OF BULK AT MOST 1048576: true; the input reads as it did. -/
def fabricAsksUptoRow : OpenClaim := { program := "ytacidjifocfhkaagreatdoor", sum := "304b444b460099f21ce25cf2017aaa202b82b232551a4fa489a0a96041dc8672", func := "corral/corrallaw20.FabricAsks", spec := "fabricAsks", inPlace := ["slices.overlaps[int]"], unfollowed := true, recurses := true, named := ["corral/api.ErrRange", "corral/api.ErrMany", "corral/api.ErrKind", "corral/api.ErrPlace", "corral/api.ErrFull", "corral/api.ErrShape", "corral/api.ErrWord", "corral/api.ErrNone", "corral/api.ErrTrace", "corral/api.ErrOrder", "corral/api.ErrValue"], plainKeys := false, apart := false, laid := [("corral/api.ErrMany", laid_corral_api_ErrMany), ("corral/api.ErrKind", laid_corral_api_ErrKind), ("corral/api.ErrPlace", laid_corral_api_ErrPlace), ("corral/api.ErrShape", laid_corral_api_ErrShape), ("corral/api.ErrWord", laid_corral_api_ErrWord), ("corral/api.ErrRange", laid_corral_api_ErrRange), ("corral/api.ErrFull", laid_corral_api_ErrFull), ("corral/api.ErrNone", laid_corral_api_ErrNone), ("corral/api.ErrTrace", laid_corral_api_ErrTrace), ("corral/api.ErrOrder", laid_corral_api_ErrOrder), ("corral/api.ErrValue", laid_corral_api_ErrValue)], narrowed := true }
def FabricAsksUptoSaid : Prop := fabricAsksUptoRow.holds Tryz.pinned (OpenSpec.upto fabricAsksSpec)

/-- 'corrallaw20.FabricReaders', WHERE WHAT IT READS IS OF BULK AT MOST 1048576: true; the input reads as it did. -/
def fabricReadersUptoRow : OpenClaim := { program := "ytacidjifocfhkaagreatdoor", sum := "304b444b460099f21ce25cf2017aaa202b82b232551a4fa489a0a96041dc8672", func := "corral/corrallaw20.FabricReaders", spec := "fabricReaders", inPlace := ["slices.overlaps[int]"], unfollowed := true, recurses := true, named := ["corral/api.ErrRange", "corral/api.ErrMany", "corral/api.ErrKind", "corral/api.ErrPlace", "corral/api.ErrFull"], plainKeys := false, apart := false, laid := [("corral/api.ErrMany", laid_corral_api_ErrMany), ("corral/api.ErrKind", laid_corral_api_ErrKind), ("corral/api.ErrPlace", laid_corral_api_ErrPlace), ("corral/api.ErrRange", laid_corral_api_ErrRange), ("corral/api.ErrFull", laid_corral_api_ErrFull)], narrowed := true }
def FabricReadersUptoSaid : Prop := fabricReadersUptoRow.holds Tryz.pinned (OpenSpec.upto fabricReadersSpec)

/-- 'corrallaw20.FabricLost', WHERE WHAT IT READS IS OF BULK AT MOST 1048576: true; the input reads as it did. -/
def fabricLostUptoRow : OpenClaim := { program := "ytacidjifocfhkaagreatdoor", sum := "304b444b460099f21ce25cf2017aaa202b82b232551a4fa489a0a96041dc8672", func := "corral/corrallaw20.FabricLost", spec := "fabricLost", inPlace := ["slices.overlaps[int]"], unfollowed := true, recurses := true, named := ["corral/api.ErrRange", "corral/api.ErrMany", "corral/api.ErrKind", "corral/api.ErrPlace", "corral/api.ErrFull"], plainKeys := false, apart := false, laid := [("corral/api.ErrMany", laid_corral_api_ErrMany), ("corral/api.ErrKind", laid_corral_api_ErrKind), ("corral/api.ErrPlace", laid_corral_api_ErrPlace), ("corral/api.ErrRange", laid_corral_api_ErrRange), ("corral/api.ErrFull", laid_corral_api_ErrFull)], narrowed := true }
def FabricLostUptoSaid : Prop := fabricLostUptoRow.holds Tryz.pinned (OpenSpec.upto fabricLostSpec)

/-- 'corrallaw20.FabricTurns', WHERE WHAT IT READS IS OF BULK AT MOST 1048576: true; the input reads as it did. -/
def fabricTurnsUptoRow : OpenClaim := { program := "ytacidjifocfhkaagreatdoor", sum := "304b444b460099f21ce25cf2017aaa202b82b232551a4fa489a0a96041dc8672", func := "corral/corrallaw20.FabricTurns", spec := "fabricTurns", inPlace := ["slices.overlaps[int]"], unfollowed := true, recurses := true, named := ["corral/api.ErrRange", "corral/api.ErrMany", "corral/api.ErrKind", "corral/api.ErrPlace", "corral/api.ErrFull"], plainKeys := false, apart := false, laid := [("corral/api.ErrMany", laid_corral_api_ErrMany), ("corral/api.ErrKind", laid_corral_api_ErrKind), ("corral/api.ErrPlace", laid_corral_api_ErrPlace), ("corral/api.ErrRange", laid_corral_api_ErrRange), ("corral/api.ErrFull", laid_corral_api_ErrFull)], narrowed := true }
def FabricTurnsUptoSaid : Prop := fabricTurnsUptoRow.holds Tryz.pinned (OpenSpec.upto fabricTurnsSpec)

/-- 'corrallaw20.FabricSmall', WHERE WHAT IT READS IS OF BULK AT MOST 1048576: true; the input reads as it did. -/
def fabricSmallUptoRow : OpenClaim := { program := "ytacidjifocfhkaagreatdoor", sum := "304b444b460099f21ce25cf2017aaa202b82b232551a4fa489a0a96041dc8672", func := "corral/corrallaw20.FabricSmall", spec := "fabricSmall", inPlace := ["slices.overlaps[int]"], unfollowed := true, recurses := true, named := ["corral/api.ErrRange", "corral/api.ErrMany", "corral/api.ErrKind", "corral/api.ErrPlace", "corral/api.ErrFull"], plainKeys := false, apart := false, laid := [("corral/api.ErrMany", laid_corral_api_ErrMany), ("corral/api.ErrKind", laid_corral_api_ErrKind), ("corral/api.ErrPlace", laid_corral_api_ErrPlace), ("corral/api.ErrRange", laid_corral_api_ErrRange), ("corral/api.ErrFull", laid_corral_api_ErrFull)], narrowed := true }
def FabricSmallUptoSaid : Prop := fabricSmallUptoRow.holds Tryz.pinned (OpenSpec.upto fabricSmallSpec)

/-- 'corrallaw20.FabricPlays', WHERE WHAT IT READS IS OF BULK AT MOST 1048576: true; the input reads as it did. -/
def fabricPlaysUptoRow : OpenClaim := { program := "ytacidjifocfhkaagreatdoor", sum := "304b444b460099f21ce25cf2017aaa202b82b232551a4fa489a0a96041dc8672", func := "corral/corrallaw20.FabricPlays", spec := "fabricPlays", inPlace := ["slices.overlaps[int]"], unfollowed := true, recurses := true, named := ["corral/api.ErrRange", "corral/api.ErrMany", "corral/api.ErrKind", "corral/api.ErrPlace", "corral/api.ErrFull"], plainKeys := false, apart := false, laid := [("corral/api.ErrMany", laid_corral_api_ErrMany), ("corral/api.ErrKind", laid_corral_api_ErrKind), ("corral/api.ErrPlace", laid_corral_api_ErrPlace), ("corral/api.ErrRange", laid_corral_api_ErrRange), ("corral/api.ErrFull", laid_corral_api_ErrFull)], narrowed := true }
def FabricPlaysUptoSaid : Prop := fabricPlaysUptoRow.holds Tryz.pinned (OpenSpec.upto fabricPlaysSpec)

end Rows
end Go.Proofs.YtacidjifocfhkaaGreatDoor
