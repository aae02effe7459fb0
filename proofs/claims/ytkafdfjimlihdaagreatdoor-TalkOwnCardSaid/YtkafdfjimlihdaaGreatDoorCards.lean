/-
  DERIVED. GIVEN WITH THE SEED: THE CARDS: each row of YtkafdfjimlihdaaGreatDoorRows.lean that lists a variable, with what it lists TIED to the program's text (the seventh form; the later family's looks); each row that meets fmt, with fmt's text TOLD by the authors' own Lean function (tested against real Go, not proved from fmt's source: count such statements apart). THE CARD IS WHAT COUNTS. Prove the row's statement (the work); the ties are given (YtkafdfjimlihdaaGreatDoorTie.lean); close each card by the builder's one call (the guide's Derived/Test/ToyasCard.lean, 'card_holds'). Laid BY PROGRAM, IN A SANDBOX (cutbox-door.mjs). By AI agents, Wed Nov 11 2026. No macro, syntax, notation, axiom, sorry.
-/
import Derived.Test.YtkafdfjimlihdaaGreatDoorRows
import GoSem.ClaimSeven
namespace Go.Proofs.YtkafdfjimlihdaaGreatDoor
namespace Rows

/-- THE TIED CARD OF 'ostiarylaw21.QuestBinds'. -/
def questBindsCard : Claim7 := { stood := { row := questBindsRow, standIns := [], harness := (true, "a3be6cf6912433eb2258c4ef27cf167af81180d39ceec447bbfe19a0a898f41f"), looks := false }, kinds := [], alts := [], laidByText := true, laidKinds := [.data, .data, .data, .widerDeep, .widerDeep, .widerDeep, .data], laidTests := true, laidLooks := .later }
def QuestBindsCardSaid : Prop := Claim7.holds Tryz.pinned (.plain (OpenSpec.ofChange questBindsSpec)) questBindsCard

/-- THE TIED CARD OF 'ostiarylaw21.QuestNil'. -/
def questNilCard : Claim7 := { stood := { row := questNilRow, standIns := [], harness := (true, "a3be6cf6912433eb2258c4ef27cf167af81180d39ceec447bbfe19a0a898f41f"), looks := false }, kinds := [], alts := [], laidByText := true, laidKinds := [.data, .data, .data, .widerDeep, .widerDeep, .widerDeep, .data], laidTests := true, laidLooks := .later }
def QuestNilCardSaid : Prop := Claim7.holds Tryz.pinned (.plain (OpenSpec.ofChange questNilSpec)) questNilCard

/-- THE TIED CARD OF 'ostiarylaw21.QuestPlays'. -/
def questPlaysCard : Claim7 := { stood := { row := questPlaysRow, standIns := [], harness := (true, "a3be6cf6912433eb2258c4ef27cf167af81180d39ceec447bbfe19a0a898f41f"), looks := false }, kinds := [], alts := [], laidByText := true, laidKinds := [.data, .data, .data, .widerDeep, .widerDeep, .widerDeep, .data], laidTests := true, laidLooks := .later }
def QuestPlaysCardSaid : Prop := Claim7.holds Tryz.pinned (.plain (OpenSpec.ofChange questPlaysSpec)) questPlaysCard

/-- THE TIED CARD OF 'ostiarylaw20.TalkOwn'. -/
def talkOwnCard : Claim7 := { stood := { row := talkOwnRow, standIns := [], harness := (true, "a3be6cf6912433eb2258c4ef27cf167af81180d39ceec447bbfe19a0a898f41f"), looks := false }, kinds := [], alts := [], laidByText := true, laidKinds := [.data, .data, .data, .data, .data, .data, .widerDeep, .widerDeep, .widerDeep, .data], laidTests := true, laidLooks := .later }
def TalkOwnCardSaid : Prop := Claim7.holds Tryz.pinned (.plain (OpenSpec.ofChange talkOwnSpec)) talkOwnCard

/-- THE SECOND FORM's CARD OF 'ostiarylaw21.QuestBinds'. -/
def questBindsUptoCard : Claim7 := { stood := { row := questBindsUptoRow, standIns := [], harness := (true, "a3be6cf6912433eb2258c4ef27cf167af81180d39ceec447bbfe19a0a898f41f"), looks := false }, kinds := [], alts := [], laidByText := true, laidKinds := [.data, .data, .data, .widerDeep, .widerDeep, .widerDeep, .data], laidTests := true, laidLooks := .later }
def QuestBindsUptoCardSaid : Prop := Claim7.holds Tryz.pinned (.plain (OpenSpec.upto questBindsSpec)) questBindsUptoCard

/-- THE SECOND FORM's CARD OF 'ostiarylaw21.QuestNil'. -/
def questNilUptoCard : Claim7 := { stood := { row := questNilUptoRow, standIns := [], harness := (true, "a3be6cf6912433eb2258c4ef27cf167af81180d39ceec447bbfe19a0a898f41f"), looks := false }, kinds := [], alts := [], laidByText := true, laidKinds := [.data, .data, .data, .widerDeep, .widerDeep, .widerDeep, .data], laidTests := true, laidLooks := .later }
def QuestNilUptoCardSaid : Prop := Claim7.holds Tryz.pinned (.plain (OpenSpec.upto questNilSpec)) questNilUptoCard

/-- THE SECOND FORM's CARD OF 'ostiarylaw21.QuestPlays'. -/
def questPlaysUptoCard : Claim7 := { stood := { row := questPlaysUptoRow, standIns := [], harness := (true, "a3be6cf6912433eb2258c4ef27cf167af81180d39ceec447bbfe19a0a898f41f"), looks := false }, kinds := [], alts := [], laidByText := true, laidKinds := [.data, .data, .data, .widerDeep, .widerDeep, .widerDeep, .data], laidTests := true, laidLooks := .later }
def QuestPlaysUptoCardSaid : Prop := Claim7.holds Tryz.pinned (.plain (OpenSpec.upto questPlaysSpec)) questPlaysUptoCard

/-- THE SECOND FORM's CARD OF 'ostiarylaw20.TalkOwn'. -/
def talkOwnUptoCard : Claim7 := { stood := { row := talkOwnUptoRow, standIns := [], harness := (true, "a3be6cf6912433eb2258c4ef27cf167af81180d39ceec447bbfe19a0a898f41f"), looks := false }, kinds := [], alts := [], laidByText := true, laidKinds := [.data, .data, .data, .data, .data, .data, .widerDeep, .widerDeep, .widerDeep, .data], laidTests := true, laidLooks := .later }
def TalkOwnUptoCardSaid : Prop := Claim7.holds Tryz.pinned (.plain (OpenSpec.upto talkOwnSpec)) talkOwnUptoCard
end Rows
end Go.Proofs.YtkafdfjimlihdaaGreatDoor
