/-
  DERIVED. GIVEN WITH THE SEED: THE CARDS: each row of YthbfgbfgkkhoiaaGreatDoorRows.lean that lists a variable, with what it lists TIED to the program's text (the seventh form; the later family's looks); each row that meets fmt, with fmt's text TOLD by the authors' own Lean function (tested against real Go, not proved from fmt's source: count such statements apart). THE CARD IS WHAT COUNTS. Prove the row's statement (the work); the ties are given (YthbfgbfgkkhoiaaGreatDoorTie.lean); close each card by the builder's one call (the guide's Derived/Test/ToyasCard.lean, 'card_holds'). Laid BY PROGRAM, IN A SANDBOX (cutbox-door.mjs). By AI agents, Wed Nov 11 2026. No macro, syntax, notation, axiom, sorry.
-/
import Derived.Test.YthbfgbfgkkhoiaaGreatDoorRows
import GoSem.ClaimSeven
namespace Go.Proofs.YthbfgbfgkkhoiaaGreatDoor
namespace Rows

/-- THE TIED CARD OF 'glyphiclaw10.ParseErrors'. -/
def parseErrorsCard : Claim7 := { stood := { row := parseErrorsRow, standIns := [], harness := (true, "5cd1e3313c60d7d6f13e53a10fc83fea3220df1c2e46ef070287c46080ffe0b4"), looks := true }, kinds := [], alts := [], laidByText := true, laidKinds := [.data, .data, .data, .sentinel, .sentinel, .sentinel, .sentinel, .sentinel, .sentinel, .sentinel, .sentinel, .sentinel, .sentinel, .sentinel, .sentinel, .sentinel, .sentinel, .sentinel, .listed, .data], laidTests := true, laidLooks := .later }
def ParseErrorsCardSaid : Prop := Claim7.holds Tryz.pinned (.plain (OpenSpec.ofChange parseErrorsSpec)) parseErrorsCard

/-- THE TIED CARD OF 'glyphiclaw10.ParseParts'. -/
def parsePartsCard : Claim7 := { stood := { row := parsePartsRow, standIns := [], harness := (true, "5cd1e3313c60d7d6f13e53a10fc83fea3220df1c2e46ef070287c46080ffe0b4"), looks := true }, kinds := [], alts := [], laidByText := true, laidKinds := [.data, .data, .data, .sentinel, .sentinel, .sentinel, .sentinel, .listed, .data], laidTests := true, laidLooks := .later }
def ParsePartsCardSaid : Prop := Claim7.holds Tryz.pinned (.plain (OpenSpec.ofChange parsePartsSpec)) parsePartsCard

/-- THE TIED CARD OF 'glyphiclaw10.ParseLimits'. -/
def parseLimitsCard : Claim7 := { stood := { row := parseLimitsRow, standIns := [], harness := (true, "5cd1e3313c60d7d6f13e53a10fc83fea3220df1c2e46ef070287c46080ffe0b4"), looks := true }, kinds := [], alts := [], laidByText := true, laidKinds := [.data, .data, .data, .sentinel, .sentinel, .sentinel, .sentinel, .sentinel, .sentinel, .sentinel, .sentinel, .sentinel, .sentinel, .sentinel, .sentinel, .sentinel, .sentinel, .sentinel, .listed, .data], laidTests := true, laidLooks := .later }
def ParseLimitsCardSaid : Prop := Claim7.holds Tryz.pinned (.plain (OpenSpec.ofChange parseLimitsSpec)) parseLimitsCard

/-- THE TIED CARD OF 'glyphiclaw12.NamesErrors'. -/
def namesErrorsCard : Claim7 := { stood := { row := namesErrorsRow, standIns := [], harness := (true, "5cd1e3313c60d7d6f13e53a10fc83fea3220df1c2e46ef070287c46080ffe0b4"), looks := true }, kinds := [], alts := [], laidByText := true, laidKinds := [.data, .data, .data, .sentinel, .sentinel, .sentinel, .sentinel, .sentinel, .sentinel, .sentinel, .sentinel, .sentinel, .sentinel, .sentinel, .sentinel, .sentinel, .sentinel, .sentinel, .listed, .data], laidTests := true, laidLooks := .later }
def NamesErrorsCardSaid : Prop := Claim7.holds Tryz.pinned (.plain (OpenSpec.ofChange namesErrorsSpec)) namesErrorsCard

/-- THE TIED CARD OF 'glyphiclaw17.LowerPaths'. -/
def lowerPathsCard : Claim7 := { stood := { row := lowerPathsRow, standIns := [], harness := (true, "5cd1e3313c60d7d6f13e53a10fc83fea3220df1c2e46ef070287c46080ffe0b4"), looks := true }, kinds := [], alts := [], laidByText := true, laidKinds := [.data, .data, .data, .sentinel, .sentinel, .sentinel, .sentinel, .sentinel, .sentinel, .sentinel, .sentinel, .sentinel, .sentinel, .sentinel, .sentinel, .sentinel, .sentinel, .sentinel, .listed, .data], laidTests := true, laidLooks := .later }
def LowerPathsCardSaid : Prop := Claim7.holds Tryz.pinned (.plain (OpenSpec.ofChange lowerPathsSpec)) lowerPathsCard

/-- THE TIED CARD OF 'glyphiclaw17.LowerUses'. -/
def lowerUsesCard : Claim7 := { stood := { row := lowerUsesRow, standIns := [], harness := (true, "5cd1e3313c60d7d6f13e53a10fc83fea3220df1c2e46ef070287c46080ffe0b4"), looks := true }, kinds := [], alts := [], laidByText := true, laidKinds := [.data, .data, .data, .sentinel, .sentinel, .sentinel, .sentinel, .sentinel, .sentinel, .sentinel, .sentinel, .sentinel, .sentinel, .sentinel, .sentinel, .sentinel, .sentinel, .sentinel, .listed, .data], laidTests := true, laidLooks := .later }
def LowerUsesCardSaid : Prop := Claim7.holds Tryz.pinned (.plain (OpenSpec.ofChange lowerUsesSpec)) lowerUsesCard

/-- THE TIED CARD OF 'glyphiclaw17.LowerArcs'. -/
def lowerArcsCard : Claim7 := { stood := { row := lowerArcsRow, standIns := [], harness := (true, "5cd1e3313c60d7d6f13e53a10fc83fea3220df1c2e46ef070287c46080ffe0b4"), looks := true }, kinds := [], alts := [], laidByText := true, laidKinds := [.data, .data, .data, .sentinel, .sentinel, .sentinel, .sentinel, .sentinel, .sentinel, .sentinel, .sentinel, .listed, .data], laidTests := true, laidLooks := .later }
def LowerArcsCardSaid : Prop := Claim7.holds Tryz.pinned (.plain (OpenSpec.ofChange lowerArcsSpec)) lowerArcsCard

/-- THE SECOND FORM's CARD OF 'glyphiclaw10.ParseErrors'. -/
def parseErrorsUptoCard : Claim7 := { stood := { row := parseErrorsUptoRow, standIns := [], harness := (true, "5cd1e3313c60d7d6f13e53a10fc83fea3220df1c2e46ef070287c46080ffe0b4"), looks := true }, kinds := [], alts := [], laidByText := true, laidKinds := [.data, .data, .data, .sentinel, .sentinel, .sentinel, .sentinel, .sentinel, .sentinel, .sentinel, .sentinel, .sentinel, .sentinel, .sentinel, .sentinel, .sentinel, .sentinel, .sentinel, .listed, .data], laidTests := true, laidLooks := .later }
def ParseErrorsUptoCardSaid : Prop := Claim7.holds Tryz.pinned (.plain (OpenSpec.upto parseErrorsSpec)) parseErrorsUptoCard

/-- THE SECOND FORM's CARD OF 'glyphiclaw10.ParseParts'. -/
def parsePartsUptoCard : Claim7 := { stood := { row := parsePartsUptoRow, standIns := [], harness := (true, "5cd1e3313c60d7d6f13e53a10fc83fea3220df1c2e46ef070287c46080ffe0b4"), looks := true }, kinds := [], alts := [], laidByText := true, laidKinds := [.data, .data, .data, .sentinel, .sentinel, .sentinel, .sentinel, .listed, .data], laidTests := true, laidLooks := .later }
def ParsePartsUptoCardSaid : Prop := Claim7.holds Tryz.pinned (.plain (OpenSpec.upto parsePartsSpec)) parsePartsUptoCard

/-- THE SECOND FORM's CARD OF 'glyphiclaw10.ParseLimits'. -/
def parseLimitsUptoCard : Claim7 := { stood := { row := parseLimitsUptoRow, standIns := [], harness := (true, "5cd1e3313c60d7d6f13e53a10fc83fea3220df1c2e46ef070287c46080ffe0b4"), looks := true }, kinds := [], alts := [], laidByText := true, laidKinds := [.data, .data, .data, .sentinel, .sentinel, .sentinel, .sentinel, .sentinel, .sentinel, .sentinel, .sentinel, .sentinel, .sentinel, .sentinel, .sentinel, .sentinel, .sentinel, .sentinel, .listed, .data], laidTests := true, laidLooks := .later }
def ParseLimitsUptoCardSaid : Prop := Claim7.holds Tryz.pinned (.plain (OpenSpec.upto parseLimitsSpec)) parseLimitsUptoCard

/-- THE SECOND FORM's CARD OF 'glyphiclaw12.NamesErrors'. -/
def namesErrorsUptoCard : Claim7 := { stood := { row := namesErrorsUptoRow, standIns := [], harness := (true, "5cd1e3313c60d7d6f13e53a10fc83fea3220df1c2e46ef070287c46080ffe0b4"), looks := true }, kinds := [], alts := [], laidByText := true, laidKinds := [.data, .data, .data, .sentinel, .sentinel, .sentinel, .sentinel, .sentinel, .sentinel, .sentinel, .sentinel, .sentinel, .sentinel, .sentinel, .sentinel, .sentinel, .sentinel, .sentinel, .listed, .data], laidTests := true, laidLooks := .later }
def NamesErrorsUptoCardSaid : Prop := Claim7.holds Tryz.pinned (.plain (OpenSpec.upto namesErrorsSpec)) namesErrorsUptoCard

/-- THE SECOND FORM's CARD OF 'glyphiclaw17.LowerPaths'. -/
def lowerPathsUptoCard : Claim7 := { stood := { row := lowerPathsUptoRow, standIns := [], harness := (true, "5cd1e3313c60d7d6f13e53a10fc83fea3220df1c2e46ef070287c46080ffe0b4"), looks := true }, kinds := [], alts := [], laidByText := true, laidKinds := [.data, .data, .data, .sentinel, .sentinel, .sentinel, .sentinel, .sentinel, .sentinel, .sentinel, .sentinel, .sentinel, .sentinel, .sentinel, .sentinel, .sentinel, .sentinel, .sentinel, .listed, .data], laidTests := true, laidLooks := .later }
def LowerPathsUptoCardSaid : Prop := Claim7.holds Tryz.pinned (.plain (OpenSpec.upto lowerPathsSpec)) lowerPathsUptoCard

/-- THE SECOND FORM's CARD OF 'glyphiclaw17.LowerUses'. -/
def lowerUsesUptoCard : Claim7 := { stood := { row := lowerUsesUptoRow, standIns := [], harness := (true, "5cd1e3313c60d7d6f13e53a10fc83fea3220df1c2e46ef070287c46080ffe0b4"), looks := true }, kinds := [], alts := [], laidByText := true, laidKinds := [.data, .data, .data, .sentinel, .sentinel, .sentinel, .sentinel, .sentinel, .sentinel, .sentinel, .sentinel, .sentinel, .sentinel, .sentinel, .sentinel, .sentinel, .sentinel, .sentinel, .listed, .data], laidTests := true, laidLooks := .later }
def LowerUsesUptoCardSaid : Prop := Claim7.holds Tryz.pinned (.plain (OpenSpec.upto lowerUsesSpec)) lowerUsesUptoCard

/-- THE SECOND FORM's CARD OF 'glyphiclaw17.LowerArcs'. -/
def lowerArcsUptoCard : Claim7 := { stood := { row := lowerArcsUptoRow, standIns := [], harness := (true, "5cd1e3313c60d7d6f13e53a10fc83fea3220df1c2e46ef070287c46080ffe0b4"), looks := true }, kinds := [], alts := [], laidByText := true, laidKinds := [.data, .data, .data, .sentinel, .sentinel, .sentinel, .sentinel, .sentinel, .sentinel, .sentinel, .sentinel, .listed, .data], laidTests := true, laidLooks := .later }
def LowerArcsUptoCardSaid : Prop := Claim7.holds Tryz.pinned (.plain (OpenSpec.upto lowerArcsSpec)) lowerArcsUptoCard
end Rows
end Go.Proofs.YthbfgbfgkkhoiaaGreatDoor
