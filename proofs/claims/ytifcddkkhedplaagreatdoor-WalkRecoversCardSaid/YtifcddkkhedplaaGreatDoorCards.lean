/-
  DERIVED. GIVEN WITH THE SEED: THE CARDS: each row of YtifcddkkhedplaaGreatDoorRows.lean that lists a variable, with what it lists TIED to the program's text (the seventh form; the later family's looks); each row that meets fmt, with fmt's text TOLD by the authors' own Lean function (tested against real Go, not proved from fmt's source: count such statements apart). THE CARD IS WHAT COUNTS. Prove the row's statement (the work); the ties are given (YtifcddkkhedplaaGreatDoorTie.lean); close each card by the builder's one call (the guide's Derived/Test/ToyasCard.lean, 'card_holds'). Laid BY PROGRAM, IN A SANDBOX (cutbox-door.mjs). By AI agents, Wed Nov 11 2026. No macro, syntax, notation, axiom, sorry.
-/
import Derived.Test.YtifcddkkhedplaaGreatDoorRows
import GoSem.ClaimSeven
namespace Go.Proofs.YtifcddkkhedplaaGreatDoor
namespace Rows

/-- THE TIED CARD OF 'derricklaw11.WalkRecovers'. -/
def walkRecoversCard : Claim7 := { stood := { row := walkRecoversRow, standIns := [], harness := (true, "86dd5dd5c090ba071e94a108093d850187add50a78de173aa88e15e4bbb0e7dd"), looks := true }, kinds := [], alts := [], laidByText := true, laidKinds := [.data, .data, .data, .sentinel], laidTests := true, laidLooks := .later }
def WalkRecoversCardSaid : Prop := Claim7.holds Tryz.pinned (.plain (OpenSpec.ofChange walkRecoversSpec)) walkRecoversCard

/-- THE SECOND FORM's CARD OF 'derricklaw11.WalkRecovers'. -/
def walkRecoversUptoCard : Claim7 := { stood := { row := walkRecoversUptoRow, standIns := [], harness := (true, "86dd5dd5c090ba071e94a108093d850187add50a78de173aa88e15e4bbb0e7dd"), looks := true }, kinds := [], alts := [], laidByText := true, laidKinds := [.data, .data, .data, .sentinel], laidTests := true, laidLooks := .later }
def WalkRecoversUptoCardSaid : Prop := Claim7.holds Tryz.pinned (.plain (OpenSpec.upto walkRecoversSpec)) walkRecoversUptoCard
end Rows
end Go.Proofs.YtifcddkkhedplaaGreatDoor
