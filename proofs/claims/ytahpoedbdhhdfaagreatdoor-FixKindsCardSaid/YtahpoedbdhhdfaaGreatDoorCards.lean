/-
  DERIVED. GIVEN WITH THE SEED: THE CARDS: each row of YtahpoedbdhhdfaaGreatDoorRows.lean that lists a variable, with what it lists TIED to the program's text (the seventh form; the later family's looks); each row that meets fmt, with fmt's text TOLD by the authors' own Lean function (tested against real Go, not proved from fmt's source: count such statements apart). THE CARD IS WHAT COUNTS. Prove the row's statement (the work); the ties are given (YtahpoedbdhhdfaaGreatDoorTie.lean); close each card by the builder's one call (the guide's Derived/Test/ToyasCard.lean, 'card_holds'). Laid BY PROGRAM, IN A SANDBOX (cutbox-door.mjs). By AI agents, Wed Nov 11 2026. No macro, syntax, notation, axiom, sorry.
-/
import Derived.Test.YtahpoedbdhhdfaaGreatDoorRows
import GoSem.ClaimSeven
namespace Go.Proofs.YtahpoedbdhhdfaaGreatDoor
namespace Rows

/-- THE TIED CARD OF 'correctorlaw21.FixKinds'. -/
def fixKindsCard : Claim7 := { stood := { row := fixKindsRow, standIns := [], harness := (true, "986cbc954fc33394e21923208bc48017006036ea2b9d4fdec74127047b4f78a9"), looks := true }, kinds := [], alts := [], laidByText := true, laidKinds := [.data, .data, .data, .data, .pinned, .pinned, .pinned, .pinned, .pinned, .pinned], laidTests := true, laidLooks := .later }
def FixKindsCardSaid : Prop := Claim7.holds Tryz.pinned (.plain (OpenSpec.ofChange fixKindsSpec)) fixKindsCard

/-- THE TIED CARD OF 'correctorlaw21.FixRefuses'. -/
def fixRefusesCard : Claim7 := { stood := { row := fixRefusesRow, standIns := [], harness := (true, "986cbc954fc33394e21923208bc48017006036ea2b9d4fdec74127047b4f78a9"), looks := true }, kinds := [], alts := [], laidByText := true, laidKinds := [.data, .data, .data, .data, .pinned, .pinned, .pinned, .pinned, .pinned, .pinned], laidTests := true, laidLooks := .later }
def FixRefusesCardSaid : Prop := Claim7.holds Tryz.pinned (.plain (OpenSpec.ofChange fixRefusesSpec)) fixRefusesCard

/-- THE SECOND FORM's CARD OF 'correctorlaw21.FixKinds'. -/
def fixKindsUptoCard : Claim7 := { stood := { row := fixKindsUptoRow, standIns := [], harness := (true, "986cbc954fc33394e21923208bc48017006036ea2b9d4fdec74127047b4f78a9"), looks := true }, kinds := [], alts := [], laidByText := true, laidKinds := [.data, .data, .data, .data, .pinned, .pinned, .pinned, .pinned, .pinned, .pinned], laidTests := true, laidLooks := .later }
def FixKindsUptoCardSaid : Prop := Claim7.holds Tryz.pinned (.plain (OpenSpec.upto fixKindsSpec)) fixKindsUptoCard

/-- THE SECOND FORM's CARD OF 'correctorlaw21.FixRefuses'. -/
def fixRefusesUptoCard : Claim7 := { stood := { row := fixRefusesUptoRow, standIns := [], harness := (true, "986cbc954fc33394e21923208bc48017006036ea2b9d4fdec74127047b4f78a9"), looks := true }, kinds := [], alts := [], laidByText := true, laidKinds := [.data, .data, .data, .data, .pinned, .pinned, .pinned, .pinned, .pinned, .pinned], laidTests := true, laidLooks := .later }
def FixRefusesUptoCardSaid : Prop := Claim7.holds Tryz.pinned (.plain (OpenSpec.upto fixRefusesSpec)) fixRefusesUptoCard
end Rows
end Go.Proofs.YtahpoedbdhhdfaaGreatDoor
