/-
  DERIVED. GIVEN WITH THE SEED: THE CARDS: each row of YtpopgcbejolepaaGreatDoorRows.lean that lists a variable, with what it lists TIED to the program's text (the seventh form; the later family's looks); each row that meets fmt, with fmt's text TOLD by the authors' own Lean function (tested against real Go, not proved from fmt's source: count such statements apart). THE CARD IS WHAT COUNTS. Prove the row's statement (the work); the ties are given (YtpopgcbejolepaaGreatDoorTie.lean); close each card by the builder's one call (the guide's Derived/Test/ToyasCard.lean, 'card_holds'). Laid BY PROGRAM, IN A SANDBOX (cutbox-door.mjs). By AI agents, Wed Nov 11 2026. No macro, syntax, notation, axiom, sorry.
-/
import Derived.Test.YtpopgcbejolepaaGreatDoorRows
import GoSem.ClaimSeven
namespace Go.Proofs.YtpopgcbejolepaaGreatDoor
namespace Rows

/-- THE TIED CARD OF 'derricklaw11.WalkNumbers'. -/
def walkNumbersCard : Claim7 := { stood := { row := walkNumbersRow, standIns := [], harness := (true, "c19190bfd5848e97f3519043ddc73c686199b25b2f0301b3777bdc4433c4700f"), looks := true }, kinds := [], alts := [], laidByText := true, laidKinds := [.data, .data, .data, .sentinel], laidTests := true, laidLooks := .later }
def WalkNumbersCardSaid : Prop := Claim7.holds Tryz.pinned (.plain (OpenSpec.ofChange walkNumbersSpec)) walkNumbersCard

/-- THE TIED CARD OF 'derricklaw11.WalkWraps'. -/
def walkWrapsCard : Claim7 := { stood := { row := walkWrapsRow, standIns := [], harness := (true, "c19190bfd5848e97f3519043ddc73c686199b25b2f0301b3777bdc4433c4700f"), looks := true }, kinds := [], alts := [], laidByText := true, laidKinds := [.data, .data, .data, .sentinel], laidTests := true, laidLooks := .later }
def WalkWrapsCardSaid : Prop := Claim7.holds Tryz.pinned (.plain (OpenSpec.ofChange walkWrapsSpec)) walkWrapsCard

/-- THE TIED CARD OF 'derricklaw11.WalkObjects'. -/
def walkObjectsCard : Claim7 := { stood := { row := walkObjectsRow, standIns := [], harness := (true, "c19190bfd5848e97f3519043ddc73c686199b25b2f0301b3777bdc4433c4700f"), looks := true }, kinds := [], alts := [], laidByText := true, laidKinds := [.data, .data, .data, .sentinel], laidTests := true, laidLooks := .later }
def WalkObjectsCardSaid : Prop := Claim7.holds Tryz.pinned (.plain (OpenSpec.ofChange walkObjectsSpec)) walkObjectsCard

/-- THE TIED CARD OF 'derricklaw11.WalkBounds'. -/
def walkBoundsCard : Claim7 := { stood := { row := walkBoundsRow, standIns := [], harness := (true, "c19190bfd5848e97f3519043ddc73c686199b25b2f0301b3777bdc4433c4700f"), looks := true }, kinds := [], alts := [], laidByText := true, laidKinds := [.data, .data, .data, .sentinel], laidTests := true, laidLooks := .later }
def WalkBoundsCardSaid : Prop := Claim7.holds Tryz.pinned (.plain (OpenSpec.ofChange walkBoundsSpec)) walkBoundsCard

/-- THE TIED CARD OF 'derricklaw11.WalkPours'. -/
def walkPoursCard : Claim7 := { stood := { row := walkPoursRow, standIns := [], harness := (true, "c19190bfd5848e97f3519043ddc73c686199b25b2f0301b3777bdc4433c4700f"), looks := true }, kinds := [], alts := [], laidByText := true, laidKinds := [.data, .data, .data, .sentinel], laidTests := true, laidLooks := .later }
def WalkPoursCardSaid : Prop := Claim7.holds Tryz.pinned (.plain (OpenSpec.ofChange walkPoursSpec)) walkPoursCard

/-- THE TIED CARD OF 'derricklaw11.WalkMany'. -/
def walkManyCard : Claim7 := { stood := { row := walkManyRow, standIns := [], harness := (true, "c19190bfd5848e97f3519043ddc73c686199b25b2f0301b3777bdc4433c4700f"), looks := true }, kinds := [], alts := [], laidByText := true, laidKinds := [.data, .data, .data, .sentinel], laidTests := true, laidLooks := .later }
def WalkManyCardSaid : Prop := Claim7.holds Tryz.pinned (.plain (OpenSpec.ofChange walkManySpec)) walkManyCard

/-- THE SECOND FORM's CARD OF 'derricklaw11.WalkNumbers'. -/
def walkNumbersUptoCard : Claim7 := { stood := { row := walkNumbersUptoRow, standIns := [], harness := (true, "c19190bfd5848e97f3519043ddc73c686199b25b2f0301b3777bdc4433c4700f"), looks := true }, kinds := [], alts := [], laidByText := true, laidKinds := [.data, .data, .data, .sentinel], laidTests := true, laidLooks := .later }
def WalkNumbersUptoCardSaid : Prop := Claim7.holds Tryz.pinned (.plain (OpenSpec.upto walkNumbersSpec)) walkNumbersUptoCard

/-- THE SECOND FORM's CARD OF 'derricklaw11.WalkWraps'. -/
def walkWrapsUptoCard : Claim7 := { stood := { row := walkWrapsUptoRow, standIns := [], harness := (true, "c19190bfd5848e97f3519043ddc73c686199b25b2f0301b3777bdc4433c4700f"), looks := true }, kinds := [], alts := [], laidByText := true, laidKinds := [.data, .data, .data, .sentinel], laidTests := true, laidLooks := .later }
def WalkWrapsUptoCardSaid : Prop := Claim7.holds Tryz.pinned (.plain (OpenSpec.upto walkWrapsSpec)) walkWrapsUptoCard

/-- THE SECOND FORM's CARD OF 'derricklaw11.WalkObjects'. -/
def walkObjectsUptoCard : Claim7 := { stood := { row := walkObjectsUptoRow, standIns := [], harness := (true, "c19190bfd5848e97f3519043ddc73c686199b25b2f0301b3777bdc4433c4700f"), looks := true }, kinds := [], alts := [], laidByText := true, laidKinds := [.data, .data, .data, .sentinel], laidTests := true, laidLooks := .later }
def WalkObjectsUptoCardSaid : Prop := Claim7.holds Tryz.pinned (.plain (OpenSpec.upto walkObjectsSpec)) walkObjectsUptoCard

/-- THE SECOND FORM's CARD OF 'derricklaw11.WalkBounds'. -/
def walkBoundsUptoCard : Claim7 := { stood := { row := walkBoundsUptoRow, standIns := [], harness := (true, "c19190bfd5848e97f3519043ddc73c686199b25b2f0301b3777bdc4433c4700f"), looks := true }, kinds := [], alts := [], laidByText := true, laidKinds := [.data, .data, .data, .sentinel], laidTests := true, laidLooks := .later }
def WalkBoundsUptoCardSaid : Prop := Claim7.holds Tryz.pinned (.plain (OpenSpec.upto walkBoundsSpec)) walkBoundsUptoCard

/-- THE SECOND FORM's CARD OF 'derricklaw11.WalkPours'. -/
def walkPoursUptoCard : Claim7 := { stood := { row := walkPoursUptoRow, standIns := [], harness := (true, "c19190bfd5848e97f3519043ddc73c686199b25b2f0301b3777bdc4433c4700f"), looks := true }, kinds := [], alts := [], laidByText := true, laidKinds := [.data, .data, .data, .sentinel], laidTests := true, laidLooks := .later }
def WalkPoursUptoCardSaid : Prop := Claim7.holds Tryz.pinned (.plain (OpenSpec.upto walkPoursSpec)) walkPoursUptoCard

/-- THE SECOND FORM's CARD OF 'derricklaw11.WalkMany'. -/
def walkManyUptoCard : Claim7 := { stood := { row := walkManyUptoRow, standIns := [], harness := (true, "c19190bfd5848e97f3519043ddc73c686199b25b2f0301b3777bdc4433c4700f"), looks := true }, kinds := [], alts := [], laidByText := true, laidKinds := [.data, .data, .data, .sentinel], laidTests := true, laidLooks := .later }
def WalkManyUptoCardSaid : Prop := Claim7.holds Tryz.pinned (.plain (OpenSpec.upto walkManySpec)) walkManyUptoCard
end Rows
end Go.Proofs.YtpopgcbejolepaaGreatDoor
