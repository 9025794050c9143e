/-
  DERIVED. GIVEN WITH THE SEED: THE PROGRAM's TIES (one call each: nine closed facts by the kernel) AND EACH ROW's TIE, after the 31st guide's Derived/Test/Toyas{Tie, Card}.lean. No idea stands in it: it is a product of the set-up. Laid BY PROGRAM, IN A SANDBOX (cutbox-door.mjs). By AI agents, Wed Nov 11 2026. No macro, syntax, notation, axiom, sorry.
-/
import Derived.Test.YtacidjifocfhkaaGreatDoorRows
import Derived.LaidByTextLater
import Derived.SevenTiedAt
import Derived.LaidSub
import Derived.LaidOnce
namespace Go.Proofs.YtacidjifocfhkaaGreatDoor
open Go
set_option maxRecDepth 100000
theorem seatTie1 : Tryz.prog.laidByTextLater [("corral/api.ErrMany", Rows.laid_corral_api_ErrMany), ("corral/api.ErrKind", Rows.laid_corral_api_ErrKind), ("corral/api.ErrPlace", Rows.laid_corral_api_ErrPlace), ("corral/api.ErrShape", Rows.laid_corral_api_ErrShape), ("corral/api.ErrWord", Rows.laid_corral_api_ErrWord), ("corral/api.ErrRange", Rows.laid_corral_api_ErrRange), ("corral/api.ErrFull", Rows.laid_corral_api_ErrFull), ("corral/api.ErrNone", Rows.laid_corral_api_ErrNone), ("corral/api.ErrTrace", Rows.laid_corral_api_ErrTrace), ("corral/api.ErrOrder", Rows.laid_corral_api_ErrOrder), ("corral/api.ErrValue", Rows.laid_corral_api_ErrValue)] [.sentinel, .sentinel, .sentinel, .sentinel, .sentinel, .sentinel, .sentinel, .sentinel, .sentinel, .sentinel, .sentinel] true :=
  Program.laidByTextLater_by_one 218 8 2 (by kernel_rfl) (by kernel_rfl) (by kernel_rfl) (by kernel_rfl) (by kernel_rfl) (by kernel_rfl) (fun _ _ => by kernel_rfl)
theorem noOwnUnsafe : Tryz.pinned.checked.prog.headLifts.contains "ownunsafe" = false := by kernel_rfl
theorem tie : Tryz.prog.laidByTextLater [("corral/api.ErrMany", Rows.laid_corral_api_ErrMany), ("corral/api.ErrKind", Rows.laid_corral_api_ErrKind), ("corral/api.ErrPlace", Rows.laid_corral_api_ErrPlace), ("corral/api.ErrShape", Rows.laid_corral_api_ErrShape), ("corral/api.ErrWord", Rows.laid_corral_api_ErrWord), ("corral/api.ErrRange", Rows.laid_corral_api_ErrRange), ("corral/api.ErrFull", Rows.laid_corral_api_ErrFull), ("corral/api.ErrNone", Rows.laid_corral_api_ErrNone), ("corral/api.ErrTrace", Rows.laid_corral_api_ErrTrace), ("corral/api.ErrOrder", Rows.laid_corral_api_ErrOrder), ("corral/api.ErrValue", Rows.laid_corral_api_ErrValue)] [.sentinel, .sentinel, .sentinel, .sentinel, .sentinel, .sentinel, .sentinel, .sentinel, .sentinel, .sentinel, .sentinel] true :=
  Program.laidByTextLater.sub seatTie1 ["corral/api.ErrMany", "corral/api.ErrKind", "corral/api.ErrPlace", "corral/api.ErrShape", "corral/api.ErrWord", "corral/api.ErrRange", "corral/api.ErrFull", "corral/api.ErrNone", "corral/api.ErrTrace", "corral/api.ErrOrder", "corral/api.ErrValue"] (by kernel_rfl) (by kernel_rfl)
theorem fabricAsks_row_tie : Rows.fabricAsksRow.laidByTextAt .later Tryz.pinned [.sentinel, .sentinel, .sentinel, .sentinel, .sentinel, .sentinel, .sentinel, .sentinel, .sentinel, .sentinel, .sentinel] true :=
  OpenClaim.laidByTextAt_later rfl rfl tie noOwnUnsafe
theorem tie2 : Tryz.prog.laidByTextLater [("corral/api.ErrMany", Rows.laid_corral_api_ErrMany), ("corral/api.ErrKind", Rows.laid_corral_api_ErrKind), ("corral/api.ErrPlace", Rows.laid_corral_api_ErrPlace), ("corral/api.ErrRange", Rows.laid_corral_api_ErrRange), ("corral/api.ErrFull", Rows.laid_corral_api_ErrFull)] [.sentinel, .sentinel, .sentinel, .sentinel, .sentinel] true :=
  Program.laidByTextLater.sub seatTie1 ["corral/api.ErrMany", "corral/api.ErrKind", "corral/api.ErrPlace", "corral/api.ErrRange", "corral/api.ErrFull"] (by kernel_rfl) (by kernel_rfl)
theorem fabricReaders_row_tie : Rows.fabricReadersRow.laidByTextAt .later Tryz.pinned [.sentinel, .sentinel, .sentinel, .sentinel, .sentinel] true :=
  OpenClaim.laidByTextAt_later rfl rfl tie2 noOwnUnsafe
theorem fabricLost_row_tie : Rows.fabricLostRow.laidByTextAt .later Tryz.pinned [.sentinel, .sentinel, .sentinel, .sentinel, .sentinel] true :=
  OpenClaim.laidByTextAt_later rfl rfl tie2 noOwnUnsafe
theorem fabricTurns_row_tie : Rows.fabricTurnsRow.laidByTextAt .later Tryz.pinned [.sentinel, .sentinel, .sentinel, .sentinel, .sentinel] true :=
  OpenClaim.laidByTextAt_later rfl rfl tie2 noOwnUnsafe
theorem fabricSmall_row_tie : Rows.fabricSmallRow.laidByTextAt .later Tryz.pinned [.sentinel, .sentinel, .sentinel, .sentinel, .sentinel] true :=
  OpenClaim.laidByTextAt_later rfl rfl tie2 noOwnUnsafe
theorem fabricPlays_row_tie : Rows.fabricPlaysRow.laidByTextAt .later Tryz.pinned [.sentinel, .sentinel, .sentinel, .sentinel, .sentinel] true :=
  OpenClaim.laidByTextAt_later rfl rfl tie2 noOwnUnsafe
theorem fabricAsksUpto_row_tie : Rows.fabricAsksUptoRow.laidByTextAt .later Tryz.pinned [.sentinel, .sentinel, .sentinel, .sentinel, .sentinel, .sentinel, .sentinel, .sentinel, .sentinel, .sentinel, .sentinel] true :=
  OpenClaim.laidByTextAt_later rfl rfl tie noOwnUnsafe
theorem fabricReadersUpto_row_tie : Rows.fabricReadersUptoRow.laidByTextAt .later Tryz.pinned [.sentinel, .sentinel, .sentinel, .sentinel, .sentinel] true :=
  OpenClaim.laidByTextAt_later rfl rfl tie2 noOwnUnsafe
theorem fabricLostUpto_row_tie : Rows.fabricLostUptoRow.laidByTextAt .later Tryz.pinned [.sentinel, .sentinel, .sentinel, .sentinel, .sentinel] true :=
  OpenClaim.laidByTextAt_later rfl rfl tie2 noOwnUnsafe
theorem fabricTurnsUpto_row_tie : Rows.fabricTurnsUptoRow.laidByTextAt .later Tryz.pinned [.sentinel, .sentinel, .sentinel, .sentinel, .sentinel] true :=
  OpenClaim.laidByTextAt_later rfl rfl tie2 noOwnUnsafe
theorem fabricSmallUpto_row_tie : Rows.fabricSmallUptoRow.laidByTextAt .later Tryz.pinned [.sentinel, .sentinel, .sentinel, .sentinel, .sentinel] true :=
  OpenClaim.laidByTextAt_later rfl rfl tie2 noOwnUnsafe
theorem fabricPlaysUpto_row_tie : Rows.fabricPlaysUptoRow.laidByTextAt .later Tryz.pinned [.sentinel, .sentinel, .sentinel, .sentinel, .sentinel] true :=
  OpenClaim.laidByTextAt_later rfl rfl tie2 noOwnUnsafe
end Go.Proofs.YtacidjifocfhkaaGreatDoor
