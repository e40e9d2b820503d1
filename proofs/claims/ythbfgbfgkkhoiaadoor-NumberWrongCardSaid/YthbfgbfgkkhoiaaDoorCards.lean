/-
  DERIVED. GIVEN WITH THE SEED: THE CARDS: each row of YthbfgbfgkkhoiaaDoorRows.lean that lists a variable, with what it lists TIED to the program's text (the seventh form; the later family's looks); each row that meets fmt, with fmt's text TOLD by the authors' own Lean function (tested against real Go, not proved from fmt's source: count such statements apart). THE CARD IS WHAT COUNTS. Prove the row's statement (the work); the ties are given (YthbfgbfgkkhoiaaDoorTie.lean); close each card by the builder's one call (the guide's Derived/Test/ToyasCard.lean, 'card_holds'). Laid BY PROGRAM, IN A SANDBOX (cutbox-door.mjs). By AI agents, Wed Nov 11 2026. No macro, syntax, notation, axiom, sorry.
-/
import Derived.Test.YthbfgbfgkkhoiaaDoorRows
import GoSem.ClaimSeven
namespace Go.Proofs.YthbfgbfgkkhoiaaDoor
namespace Rows

/-- THE TIED CARD OF 'glyphiclaw8.WordErrors'. -/
def wordErrorsCard : Claim7 := { stood := { row := wordErrorsRow, standIns := [], harness := (true, "1fe820792af6624bce867b6f34df44da5bdc42d1c74a2d6407b4822bebeccfe4"), looks := true }, kinds := [], alts := [], laidByText := true, laidKinds := [.sentinel, .sentinel, .sentinel, .sentinel, .sentinel, .sentinel, .sentinel, .sentinel, .sentinel, .sentinel, .sentinel, .sentinel, .sentinel, .listed, .data], laidTests := true, laidLooks := .later }
def WordErrorsCardSaid : Prop := Claim7.holds Tryd.pinned (.plain (OpenSpec.ofChange wordErrorsSpec)) wordErrorsCard

/-- THE TIED CARD OF 'glyphiclaw8.WordNames'. -/
def wordNamesCard : Claim7 := { stood := { row := wordNamesRow, standIns := [], harness := (true, "1fe820792af6624bce867b6f34df44da5bdc42d1c74a2d6407b4822bebeccfe4"), looks := true }, kinds := [], alts := [], laidByText := true, laidKinds := [.sentinel, .sentinel, .sentinel, .sentinel, .sentinel, .sentinel, .sentinel, .sentinel, .sentinel, .sentinel, .sentinel, .sentinel, .sentinel, .listed, .data], laidTests := true, laidLooks := .later }
def WordNamesCardSaid : Prop := Claim7.holds Tryd.pinned (.plain (OpenSpec.ofChange wordNamesSpec)) wordNamesCard

/-- THE TIED CARD OF 'glyphiclaw9.NumberWrong'. -/
def numberWrongCard : Claim7 := { stood := { row := numberWrongRow, standIns := [], harness := (true, "1fe820792af6624bce867b6f34df44da5bdc42d1c74a2d6407b4822bebeccfe4"), looks := true }, kinds := [], alts := [], laidByText := true, laidKinds := [.data, .data, .data, .data, .sentinel, .sentinel, .sentinel, .sentinel, .sentinel, .sentinel, .sentinel, .sentinel, .sentinel, .sentinel, .sentinel, .sentinel, .sentinel, .sentinel, .sentinel, .pinned], laidTests := true, laidLooks := .later }
def NumberWrongCardSaid : Prop := Claim7.holds Tryd.pinned (.plain (OpenSpec.ofChange numberWrongSpec)) numberWrongCard

/-- THE SECOND FORM's CARD OF 'glyphiclaw8.WordErrors'. -/
def wordErrorsUptoCard : Claim7 := { stood := { row := wordErrorsUptoRow, standIns := [], harness := (true, "1fe820792af6624bce867b6f34df44da5bdc42d1c74a2d6407b4822bebeccfe4"), looks := true }, kinds := [], alts := [], laidByText := true, laidKinds := [.sentinel, .sentinel, .sentinel, .sentinel, .sentinel, .sentinel, .sentinel, .sentinel, .sentinel, .sentinel, .sentinel, .sentinel, .sentinel, .listed, .data], laidTests := true, laidLooks := .later }
def WordErrorsUptoCardSaid : Prop := Claim7.holds Tryd.pinned (.plain (OpenSpec.upto wordErrorsSpec)) wordErrorsUptoCard

/-- THE SECOND FORM's CARD OF 'glyphiclaw8.WordNames'. -/
def wordNamesUptoCard : Claim7 := { stood := { row := wordNamesUptoRow, standIns := [], harness := (true, "1fe820792af6624bce867b6f34df44da5bdc42d1c74a2d6407b4822bebeccfe4"), looks := true }, kinds := [], alts := [], laidByText := true, laidKinds := [.sentinel, .sentinel, .sentinel, .sentinel, .sentinel, .sentinel, .sentinel, .sentinel, .sentinel, .sentinel, .sentinel, .sentinel, .sentinel, .listed, .data], laidTests := true, laidLooks := .later }
def WordNamesUptoCardSaid : Prop := Claim7.holds Tryd.pinned (.plain (OpenSpec.upto wordNamesSpec)) wordNamesUptoCard

/-- THE SECOND FORM's CARD OF 'glyphiclaw9.NumberWrong'. -/
def numberWrongUptoCard : Claim7 := { stood := { row := numberWrongUptoRow, standIns := [], harness := (true, "1fe820792af6624bce867b6f34df44da5bdc42d1c74a2d6407b4822bebeccfe4"), looks := true }, kinds := [], alts := [], laidByText := true, laidKinds := [.data, .data, .data, .data, .sentinel, .sentinel, .sentinel, .sentinel, .sentinel, .sentinel, .sentinel, .sentinel, .sentinel, .sentinel, .sentinel, .sentinel, .sentinel, .sentinel, .sentinel, .pinned], laidTests := true, laidLooks := .later }
def NumberWrongUptoCardSaid : Prop := Claim7.holds Tryd.pinned (.plain (OpenSpec.upto numberWrongSpec)) numberWrongUptoCard
end Rows
end Go.Proofs.YthbfgbfgkkhoiaaDoor
