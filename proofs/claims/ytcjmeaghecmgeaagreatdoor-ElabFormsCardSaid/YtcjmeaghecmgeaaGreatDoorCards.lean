/-
  DERIVED. GIVEN WITH THE SEED: THE CARDS: each row of YtcjmeaghecmgeaaGreatDoorRows.lean that lists a variable, with what it lists TIED to the program's text (the seventh form; the later family's looks); each row that meets fmt, with fmt's text TOLD by the authors' own Lean function (tested against real Go, not proved from fmt's source: count such statements apart). THE CARD IS WHAT COUNTS. Prove the row's statement (the work); the ties are given (YtcjmeaghecmgeaaGreatDoorTie.lean); close each card by the builder's one call (the guide's Derived/Test/ToyasCard.lean, 'card_holds'). Laid BY PROGRAM, IN A SANDBOX (cutbox-door.mjs). By AI agents, Wed Nov 11 2026. No macro, syntax, notation, axiom, sorry.
-/
import Derived.Test.YtcjmeaghecmgeaaGreatDoorRows
import GoSem.ClaimSeven
namespace Go.Proofs.YtcjmeaghecmgeaaGreatDoor
namespace Rows

/-- THE TIED CARD OF 'theodolitelaw14.ElabLets'. -/
def elabLetsCard : Claim7 := { stood := { row := elabLetsRow, standIns := [], harness := (true, "f85c2c8d5cbda77bf58781f78542f024fcedba630cfac582bb38a149ce1af501"), looks := true }, kinds := [], alts := [], laidByText := true, laidKinds := [.data, .data, .data, .data, .sentinel, .sentinel, .listed, .data, .pinned, .pinned, .pinned, .pinned, .pinned, .pinned], laidTests := true, laidLooks := .later }
def ElabLetsCardSaid : Prop := Claim7.holds Tryz.pinned (.plain (OpenSpec.ofChange elabLetsSpec)) elabLetsCard

/-- THE TIED CARD OF 'theodolitelaw14.ElabForms'. -/
def elabFormsCard : Claim7 := { stood := { row := elabFormsRow, standIns := [], harness := (true, "f85c2c8d5cbda77bf58781f78542f024fcedba630cfac582bb38a149ce1af501"), looks := true }, kinds := [], alts := [], laidByText := true, laidKinds := [.data, .data, .data, .data, .sentinel, .sentinel, .listed, .data, .pinned, .pinned, .pinned, .pinned, .pinned, .pinned], laidTests := true, laidLooks := .later }
def ElabFormsCardSaid : Prop := Claim7.holds Tryz.pinned (.plain (OpenSpec.ofChange elabFormsSpec)) elabFormsCard

/-- THE TIED CARD OF 'theodolitelaw14.ElabDefs'. -/
def elabDefsCard : Claim7 := { stood := { row := elabDefsRow, standIns := [], harness := (true, "f85c2c8d5cbda77bf58781f78542f024fcedba630cfac582bb38a149ce1af501"), looks := true }, kinds := [], alts := [], laidByText := true, laidKinds := [.data, .data, .data, .data, .sentinel, .sentinel, .listed, .data, .pinned, .pinned, .pinned, .pinned, .pinned, .pinned], laidTests := true, laidLooks := .later }
def ElabDefsCardSaid : Prop := Claim7.holds Tryz.pinned (.plain (OpenSpec.ofChange elabDefsSpec)) elabDefsCard

/-- THE SECOND FORM's CARD OF 'theodolitelaw14.ElabLets'. -/
def elabLetsUptoCard : Claim7 := { stood := { row := elabLetsUptoRow, standIns := [], harness := (true, "f85c2c8d5cbda77bf58781f78542f024fcedba630cfac582bb38a149ce1af501"), looks := true }, kinds := [], alts := [], laidByText := true, laidKinds := [.data, .data, .data, .data, .sentinel, .sentinel, .listed, .data, .pinned, .pinned, .pinned, .pinned, .pinned, .pinned], laidTests := true, laidLooks := .later }
def ElabLetsUptoCardSaid : Prop := Claim7.holds Tryz.pinned (.plain (OpenSpec.upto elabLetsSpec)) elabLetsUptoCard

/-- THE SECOND FORM's CARD OF 'theodolitelaw14.ElabForms'. -/
def elabFormsUptoCard : Claim7 := { stood := { row := elabFormsUptoRow, standIns := [], harness := (true, "f85c2c8d5cbda77bf58781f78542f024fcedba630cfac582bb38a149ce1af501"), looks := true }, kinds := [], alts := [], laidByText := true, laidKinds := [.data, .data, .data, .data, .sentinel, .sentinel, .listed, .data, .pinned, .pinned, .pinned, .pinned, .pinned, .pinned], laidTests := true, laidLooks := .later }
def ElabFormsUptoCardSaid : Prop := Claim7.holds Tryz.pinned (.plain (OpenSpec.upto elabFormsSpec)) elabFormsUptoCard

/-- THE SECOND FORM's CARD OF 'theodolitelaw14.ElabDefs'. -/
def elabDefsUptoCard : Claim7 := { stood := { row := elabDefsUptoRow, standIns := [], harness := (true, "f85c2c8d5cbda77bf58781f78542f024fcedba630cfac582bb38a149ce1af501"), looks := true }, kinds := [], alts := [], laidByText := true, laidKinds := [.data, .data, .data, .data, .sentinel, .sentinel, .listed, .data, .pinned, .pinned, .pinned, .pinned, .pinned, .pinned], laidTests := true, laidLooks := .later }
def ElabDefsUptoCardSaid : Prop := Claim7.holds Tryz.pinned (.plain (OpenSpec.upto elabDefsSpec)) elabDefsUptoCard
end Rows
end Go.Proofs.YtcjmeaghecmgeaaGreatDoor
