/-
  DERIVED. GIVEN WITH THE SEED: THE CARDS: each row of YtcoflgblhhohdaaDoorRows.lean that lists a variable, with what it lists TIED to the program's text (the seventh form; the later family's looks); each row that meets fmt, with fmt's text TOLD by the authors' own Lean function (tested against real Go, not proved from fmt's source: count such statements apart). THE CARD IS WHAT COUNTS. Prove the row's statement (the work); the ties are given (YtcoflgblhhohdaaDoorTie.lean); close each card by the builder's one call (the guide's Derived/Test/ToyasCard.lean, 'card_holds'). Laid BY PROGRAM, IN A SANDBOX (cutbox-door.mjs). By AI agents, Wed Nov 11 2026. No macro, syntax, notation, axiom, sorry.
-/
import Derived.Test.YtcoflgblhhohdaaDoorRows
import GoSem.ClaimSeven
namespace Go.Proofs.YtcoflgblhhohdaaDoor
namespace Rows

/-- THE TIED CARD OF 'flqlaw6.ValidateRenames'. -/
def validateRenamesCard : Claim7 := { stood := { row := validateRenamesRow, standIns := [], harness := (true, "9e3443660ab1c19d7793cdb9f1bb59061bb2531f4fc5828aeb13dfc196976795"), looks := false }, kinds := [], alts := [], laidByText := true, laidKinds := [.widerDeep], laidTests := true, laidLooks := .later }
def ValidateRenamesCardSaid : Prop := Claim7.holds Tryd.pinned (.plain (OpenSpec.ofChange validateRenamesSpec)) validateRenamesCard

/-- THE TIED CARD OF 'flqlaw6.ValidateLimits'. -/
def validateLimitsCard : Claim7 := { stood := { row := validateLimitsRow, standIns := [], harness := (true, "9e3443660ab1c19d7793cdb9f1bb59061bb2531f4fc5828aeb13dfc196976795"), looks := false }, kinds := [], alts := [], laidByText := true, laidKinds := [.widerDeep], laidTests := true, laidLooks := .later }
def ValidateLimitsCardSaid : Prop := Claim7.holds Tryd.pinned (.plain (OpenSpec.ofChange validateLimitsSpec)) validateLimitsCard

/-- THE TIED CARD OF 'flqlaw6.ValidateDefines'. -/
def validateDefinesCard : Claim7 := { stood := { row := validateDefinesRow, standIns := [], harness := (true, "9e3443660ab1c19d7793cdb9f1bb59061bb2531f4fc5828aeb13dfc196976795"), looks := false }, kinds := [], alts := [], laidByText := true, laidKinds := [.widerDeep], laidTests := true, laidLooks := .later }
def ValidateDefinesCardSaid : Prop := Claim7.holds Tryd.pinned (.plain (OpenSpec.ofChange validateDefinesSpec)) validateDefinesCard

/-- THE SECOND FORM's CARD OF 'flqlaw6.ValidateRenames'. -/
def validateRenamesUptoCard : Claim7 := { stood := { row := validateRenamesUptoRow, standIns := [], harness := (true, "9e3443660ab1c19d7793cdb9f1bb59061bb2531f4fc5828aeb13dfc196976795"), looks := false }, kinds := [], alts := [], laidByText := true, laidKinds := [.widerDeep], laidTests := true, laidLooks := .later }
def ValidateRenamesUptoCardSaid : Prop := Claim7.holds Tryd.pinned (.plain (OpenSpec.upto validateRenamesSpec)) validateRenamesUptoCard

/-- THE SECOND FORM's CARD OF 'flqlaw6.ValidateLimits'. -/
def validateLimitsUptoCard : Claim7 := { stood := { row := validateLimitsUptoRow, standIns := [], harness := (true, "9e3443660ab1c19d7793cdb9f1bb59061bb2531f4fc5828aeb13dfc196976795"), looks := false }, kinds := [], alts := [], laidByText := true, laidKinds := [.widerDeep], laidTests := true, laidLooks := .later }
def ValidateLimitsUptoCardSaid : Prop := Claim7.holds Tryd.pinned (.plain (OpenSpec.upto validateLimitsSpec)) validateLimitsUptoCard

/-- THE SECOND FORM's CARD OF 'flqlaw6.ValidateDefines'. -/
def validateDefinesUptoCard : Claim7 := { stood := { row := validateDefinesUptoRow, standIns := [], harness := (true, "9e3443660ab1c19d7793cdb9f1bb59061bb2531f4fc5828aeb13dfc196976795"), looks := false }, kinds := [], alts := [], laidByText := true, laidKinds := [.widerDeep], laidTests := true, laidLooks := .later }
def ValidateDefinesUptoCardSaid : Prop := Claim7.holds Tryd.pinned (.plain (OpenSpec.upto validateDefinesSpec)) validateDefinesUptoCard
end Rows
end Go.Proofs.YtcoflgblhhohdaaDoor
