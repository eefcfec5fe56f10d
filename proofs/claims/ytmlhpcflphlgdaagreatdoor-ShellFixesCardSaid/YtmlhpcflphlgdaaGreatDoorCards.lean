/-
  DERIVED. GIVEN WITH THE SEED: THE CARDS: each row of YtmlhpcflphlgdaaGreatDoorRows.lean that lists a variable, with what it lists TIED to the program's text (the seventh form; the later family's looks); each row that meets fmt, with fmt's text TOLD by the authors' own Lean function (tested against real Go, not proved from fmt's source: count such statements apart). THE CARD IS WHAT COUNTS. Prove the row's statement (the work); the ties are given (YtmlhpcflphlgdaaGreatDoorTie.lean); close each card by the builder's one call (the guide's Derived/Test/ToyasCard.lean, 'card_holds'). Laid BY PROGRAM, IN A SANDBOX (cutbox-door.mjs). By AI agents, Wed Nov 11 2026. No macro, syntax, notation, axiom, sorry.
-/
import Derived.Test.YtmlhpcflphlgdaaGreatDoorRows
import GoSem.ClaimSeven
namespace Go.Proofs.YtmlhpcflphlgdaaGreatDoor
namespace Rows

/-- THE TIED CARD OF 'correctorlaw22.ShellBad'. -/
def shellBadCard : Claim7 := { stood := { row := shellBadRow, standIns := [], harness := (true, "6d615b4094ccaf13422c148da099d15e246cbb082f89fc63692e8b834934721b"), looks := true }, kinds := [], alts := [], laidByText := true, laidKinds := [.data, .data, .data, .data, .sentinel, .sentinel, .pinned, .pinned, .pinned, .pinned, .pinned, .pinned], laidTests := true, laidLooks := .later }
def ShellBadCardSaid : Prop := Claim7.holds Tryz.pinned (.plain (OpenSpec.ofChange shellBadSpec)) shellBadCard

/-- THE TIED CARD OF 'correctorlaw22.ShellFixes'. -/
def shellFixesCard : Claim7 := { stood := { row := shellFixesRow, standIns := [], harness := (true, "6d615b4094ccaf13422c148da099d15e246cbb082f89fc63692e8b834934721b"), looks := true }, kinds := [], alts := [], laidByText := true, laidKinds := [.data, .data, .data, .data, .sentinel, .sentinel, .pinned, .pinned, .pinned, .pinned, .pinned, .pinned], laidTests := true, laidLooks := .later }
def ShellFixesCardSaid : Prop := Claim7.holds Tryz.pinned (.plain (OpenSpec.ofChange shellFixesSpec)) shellFixesCard

/-- THE SECOND FORM's CARD OF 'correctorlaw22.ShellBad'. -/
def shellBadUptoCard : Claim7 := { stood := { row := shellBadUptoRow, standIns := [], harness := (true, "6d615b4094ccaf13422c148da099d15e246cbb082f89fc63692e8b834934721b"), looks := true }, kinds := [], alts := [], laidByText := true, laidKinds := [.data, .data, .data, .data, .sentinel, .sentinel, .pinned, .pinned, .pinned, .pinned, .pinned, .pinned], laidTests := true, laidLooks := .later }
def ShellBadUptoCardSaid : Prop := Claim7.holds Tryz.pinned (.plain (OpenSpec.upto shellBadSpec)) shellBadUptoCard

/-- THE SECOND FORM's CARD OF 'correctorlaw22.ShellFixes'. -/
def shellFixesUptoCard : Claim7 := { stood := { row := shellFixesUptoRow, standIns := [], harness := (true, "6d615b4094ccaf13422c148da099d15e246cbb082f89fc63692e8b834934721b"), looks := true }, kinds := [], alts := [], laidByText := true, laidKinds := [.data, .data, .data, .data, .sentinel, .sentinel, .pinned, .pinned, .pinned, .pinned, .pinned, .pinned], laidTests := true, laidLooks := .later }
def ShellFixesUptoCardSaid : Prop := Claim7.holds Tryz.pinned (.plain (OpenSpec.upto shellFixesSpec)) shellFixesUptoCard
end Rows
end Go.Proofs.YtmlhpcflphlgdaaGreatDoor
