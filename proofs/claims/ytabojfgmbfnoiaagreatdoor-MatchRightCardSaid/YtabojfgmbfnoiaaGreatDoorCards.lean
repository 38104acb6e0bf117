/-
  DERIVED. GIVEN WITH THE SEED: THE CARDS: each row of YtabojfgmbfnoiaaGreatDoorRows.lean that lists a variable, with what it lists TIED to the program's text (the seventh form; the later family's looks); each row that meets fmt, with fmt's text TOLD by the authors' own Lean function (tested against real Go, not proved from fmt's source: count such statements apart). THE CARD IS WHAT COUNTS. Prove the row's statement (the work); the ties are given (YtabojfgmbfnoiaaGreatDoorTie.lean); close each card by the builder's one call (the guide's Derived/Test/ToyasCard.lean, 'card_holds'). Laid BY PROGRAM, IN A SANDBOX (cutbox-door.mjs). By AI agents, Wed Nov 11 2026. No macro, syntax, notation, axiom, sorry.
-/
import Derived.Test.YtabojfgmbfnoiaaGreatDoorRows
import GoSem.ClaimSeven
namespace Go.Proofs.YtabojfgmbfnoiaaGreatDoor
namespace Rows

/-- THE TIED CARD OF 'scarflaw11.MatchRight'. -/
def matchRightCard : Claim7 := { stood := { row := matchRightRow, standIns := [], harness := (true, "3a63bcef14ccf55afb5d5c171ac143b95c8f398020675c397864c2588e520ce8"), looks := false }, kinds := [], alts := [], laidByText := true, laidKinds := [.data, .data, .data, .data, .pinned], laidTests := true, laidLooks := .later }
def MatchRightCardSaid : Prop := Claim7.holds Tryz.pinned (.plain (OpenSpec.ofChange matchRightSpec)) matchRightCard

/-- THE TIED CARD OF 'scarflaw11.MatchStays'. -/
def matchStaysCard : Claim7 := { stood := { row := matchStaysRow, standIns := [], harness := (true, "3a63bcef14ccf55afb5d5c171ac143b95c8f398020675c397864c2588e520ce8"), looks := false }, kinds := [], alts := [], laidByText := true, laidKinds := [.data, .data, .data, .data, .pinned], laidTests := true, laidLooks := .later }
def MatchStaysCardSaid : Prop := Claim7.holds Tryz.pinned (.plain (OpenSpec.ofChange matchStaysSpec)) matchStaysCard

/-- THE TIED CARD OF 'scarflaw11.MatchLong'. -/
def matchLongCard : Claim7 := { stood := { row := matchLongRow, standIns := [], harness := (true, "3a63bcef14ccf55afb5d5c171ac143b95c8f398020675c397864c2588e520ce8"), looks := false }, kinds := [], alts := [], laidByText := true, laidKinds := [.data, .data, .data, .data, .pinned], laidTests := true, laidLooks := .later }
def MatchLongCardSaid : Prop := Claim7.holds Tryz.pinned (.plain (OpenSpec.ofChange matchLongSpec)) matchLongCard

/-- THE TIED CARD OF 'scarflaw11.MatchCounts'. -/
def matchCountsCard : Claim7 := { stood := { row := matchCountsRow, standIns := [], harness := (true, "3a63bcef14ccf55afb5d5c171ac143b95c8f398020675c397864c2588e520ce8"), looks := false }, kinds := [], alts := [], laidByText := true, laidKinds := [.data, .data, .data, .data, .pinned], laidTests := true, laidLooks := .later }
def MatchCountsCardSaid : Prop := Claim7.holds Tryz.pinned (.plain (OpenSpec.ofChange matchCountsSpec)) matchCountsCard

/-- THE SECOND FORM's CARD OF 'scarflaw11.MatchRight'. -/
def matchRightUptoCard : Claim7 := { stood := { row := matchRightUptoRow, standIns := [], harness := (true, "3a63bcef14ccf55afb5d5c171ac143b95c8f398020675c397864c2588e520ce8"), looks := false }, kinds := [], alts := [], laidByText := true, laidKinds := [.data, .data, .data, .data, .pinned], laidTests := true, laidLooks := .later }
def MatchRightUptoCardSaid : Prop := Claim7.holds Tryz.pinned (.plain (OpenSpec.upto matchRightSpec)) matchRightUptoCard

/-- THE SECOND FORM's CARD OF 'scarflaw11.MatchStays'. -/
def matchStaysUptoCard : Claim7 := { stood := { row := matchStaysUptoRow, standIns := [], harness := (true, "3a63bcef14ccf55afb5d5c171ac143b95c8f398020675c397864c2588e520ce8"), looks := false }, kinds := [], alts := [], laidByText := true, laidKinds := [.data, .data, .data, .data, .pinned], laidTests := true, laidLooks := .later }
def MatchStaysUptoCardSaid : Prop := Claim7.holds Tryz.pinned (.plain (OpenSpec.upto matchStaysSpec)) matchStaysUptoCard

/-- THE SECOND FORM's CARD OF 'scarflaw11.MatchLong'. -/
def matchLongUptoCard : Claim7 := { stood := { row := matchLongUptoRow, standIns := [], harness := (true, "3a63bcef14ccf55afb5d5c171ac143b95c8f398020675c397864c2588e520ce8"), looks := false }, kinds := [], alts := [], laidByText := true, laidKinds := [.data, .data, .data, .data, .pinned], laidTests := true, laidLooks := .later }
def MatchLongUptoCardSaid : Prop := Claim7.holds Tryz.pinned (.plain (OpenSpec.upto matchLongSpec)) matchLongUptoCard

/-- THE SECOND FORM's CARD OF 'scarflaw11.MatchCounts'. -/
def matchCountsUptoCard : Claim7 := { stood := { row := matchCountsUptoRow, standIns := [], harness := (true, "3a63bcef14ccf55afb5d5c171ac143b95c8f398020675c397864c2588e520ce8"), looks := false }, kinds := [], alts := [], laidByText := true, laidKinds := [.data, .data, .data, .data, .pinned], laidTests := true, laidLooks := .later }
def MatchCountsUptoCardSaid : Prop := Claim7.holds Tryz.pinned (.plain (OpenSpec.upto matchCountsSpec)) matchCountsUptoCard
end Rows
end Go.Proofs.YtabojfgmbfnoiaaGreatDoor
