/-
  DERIVED. GIVEN WITH THE SEED: THE CARDS: each row of YtgidbplaoijalaaGreatRDoorRows.lean that lists a variable, with what it lists TIED to the program's text (the seventh form; the later family's looks); each row that meets fmt, with fmt's text TOLD by the authors' own Lean function (tested against real Go, not proved from fmt's source: count such statements apart). THE CARD IS WHAT COUNTS. Prove the row's statement (the work); the ties are given (YtgidbplaoijalaaGreatRDoorTie.lean); close each card by the builder's one call (the guide's Derived/Test/ToyasCard.lean, 'card_holds'). Laid BY PROGRAM, IN A SANDBOX (cutbox-door.mjs). By AI agents, Wed Nov 11 2026. No macro, syntax, notation, axiom, sorry.
-/
import Derived.Test.YtgidbplaoijalaaGreatRDoorRows
import GoSem.ClaimSeven
namespace Go.Proofs.YtgidbplaoijalaaGreatRDoor
namespace Rows

/-- THE TIED CARD OF 'pythialaw11.WriteOnce'. -/
def writeOnceCard : Claim7 := { stood := { row := writeOnceRow, standIns := [], harness := (true, "4cd08155376a98ff3bad386060aeb1223482ec95a056498425febd8964da9cee"), looks := true }, kinds := [], alts := [], laidByText := true, laidKinds := [.data, .data, .data, .sentinel, .sentinel], laidTests := true, laidLooks := .later }
def WriteOnceCardSaid : Prop := Claim7.holds Tryz.pinned (.plain (OpenSpec.ofChange writeOnceSpec)) writeOnceCard

/-- THE TIED CARD OF 'pythialaw11.WriteParts'. -/
def writePartsCard : Claim7 := { stood := { row := writePartsRow, standIns := [], harness := (true, "4cd08155376a98ff3bad386060aeb1223482ec95a056498425febd8964da9cee"), looks := true }, kinds := [], alts := [], laidByText := true, laidKinds := [.data, .data, .data, .sentinel, .sentinel], laidTests := true, laidLooks := .later }
def WritePartsCardSaid : Prop := Claim7.holds Tryz.pinned (.plain (OpenSpec.ofChange writePartsSpec)) writePartsCard

/-- THE TIED CARD OF 'pythialaw11.WriteBack'. -/
def writeBackCard : Claim7 := { stood := { row := writeBackRow, standIns := [], harness := (true, "4cd08155376a98ff3bad386060aeb1223482ec95a056498425febd8964da9cee"), looks := true }, kinds := [], alts := [], laidByText := true, laidKinds := [.data, .data, .data, .data, .sentinel, .sentinel, .pinned], laidTests := true, laidLooks := .later }
def WriteBackCardSaid : Prop := Claim7.holds Tryz.pinned (.plain (OpenSpec.ofChange writeBackSpec)) writeBackCard

/-- THE TIED CARD OF 'pythialaw11.WriteReads'. -/
def writeReadsCard : Claim7 := { stood := { row := writeReadsRow, standIns := [], harness := (true, "4cd08155376a98ff3bad386060aeb1223482ec95a056498425febd8964da9cee"), looks := true }, kinds := [], alts := [], laidByText := true, laidKinds := [.data, .data, .data, .data, .sentinel, .sentinel, .pinned], laidTests := true, laidLooks := .later }
def WriteReadsCardSaid : Prop := Claim7.holds Tryz.pinned (.plain (OpenSpec.ofChange writeReadsSpec)) writeReadsCard

/-- THE TIED CARD OF 'pythialaw11.WriteNamesBack'. -/
def writeNamesBackCard : Claim7 := { stood := { row := writeNamesBackRow, standIns := [], harness := (true, "4cd08155376a98ff3bad386060aeb1223482ec95a056498425febd8964da9cee"), looks := true }, kinds := [], alts := [], laidByText := true, laidKinds := [.data, .data, .data, .data, .sentinel, .sentinel, .pinned], laidTests := true, laidLooks := .later }
def WriteNamesBackCardSaid : Prop := Claim7.holds Tryz.pinned (.plain (OpenSpec.ofChange writeNamesBackSpec)) writeNamesBackCard

/-- THE TIED CARD OF 'pythialaw10.ReadGroups'. -/
def readGroupsCard : Claim7 := { stood := { row := readGroupsRow, standIns := [], harness := (true, "4cd08155376a98ff3bad386060aeb1223482ec95a056498425febd8964da9cee"), looks := true }, kinds := [], alts := [], laidByText := true, laidKinds := [.data, .data, .data, .data, .handle, .sentinel, .sentinel, .pinned], laidTests := true, laidLooks := .later }
def ReadGroupsCardSaid : Prop := Claim7.holds Tryz.pinned (.plain (OpenSpec.ofChange readGroupsSpec)) readGroupsCard

/-- THE TIED CARD OF 'pythialaw10.ReadNames'. -/
def readNamesCard : Claim7 := { stood := { row := readNamesRow, standIns := [], harness := (true, "4cd08155376a98ff3bad386060aeb1223482ec95a056498425febd8964da9cee"), looks := true }, kinds := [], alts := [], laidByText := true, laidKinds := [.data, .data, .data, .data, .handle, .sentinel, .sentinel, .pinned], laidTests := true, laidLooks := .later }
def ReadNamesCardSaid : Prop := Claim7.holds Tryz.pinned (.plain (OpenSpec.ofChange readNamesSpec)) readNamesCard

/-- THE TIED CARD OF 'pythialaw10.ReadJoins'. -/
def readJoinsCard : Claim7 := { stood := { row := readJoinsRow, standIns := [], harness := (true, "4cd08155376a98ff3bad386060aeb1223482ec95a056498425febd8964da9cee"), looks := true }, kinds := [], alts := [], laidByText := true, laidKinds := [.data, .data, .data, .data, .handle, .sentinel, .sentinel, .pinned], laidTests := true, laidLooks := .later }
def ReadJoinsCardSaid : Prop := Claim7.holds Tryz.pinned (.plain (OpenSpec.ofChange readJoinsSpec)) readJoinsCard

/-- THE TIED CARD OF 'pythialaw10.ReadWrong'. -/
def readWrongCard : Claim7 := { stood := { row := readWrongRow, standIns := [], harness := (true, "4cd08155376a98ff3bad386060aeb1223482ec95a056498425febd8964da9cee"), looks := true }, kinds := [], alts := [], laidByText := true, laidKinds := [.data, .data, .data, .data, .handle, .sentinel, .sentinel, .pinned], laidTests := true, laidLooks := .later }
def ReadWrongCardSaid : Prop := Claim7.holds Tryz.pinned (.plain (OpenSpec.ofChange readWrongSpec)) readWrongCard

/-- THE SECOND FORM's CARD OF 'pythialaw11.WriteOnce'. -/
def writeOnceUptoCard : Claim7 := { stood := { row := writeOnceUptoRow, standIns := [], harness := (true, "4cd08155376a98ff3bad386060aeb1223482ec95a056498425febd8964da9cee"), looks := true }, kinds := [], alts := [], laidByText := true, laidKinds := [.data, .data, .data, .sentinel, .sentinel], laidTests := true, laidLooks := .later }
def WriteOnceUptoCardSaid : Prop := Claim7.holds Tryz.pinned (.plain (OpenSpec.upto writeOnceSpec)) writeOnceUptoCard

/-- THE SECOND FORM's CARD OF 'pythialaw11.WriteParts'. -/
def writePartsUptoCard : Claim7 := { stood := { row := writePartsUptoRow, standIns := [], harness := (true, "4cd08155376a98ff3bad386060aeb1223482ec95a056498425febd8964da9cee"), looks := true }, kinds := [], alts := [], laidByText := true, laidKinds := [.data, .data, .data, .sentinel, .sentinel], laidTests := true, laidLooks := .later }
def WritePartsUptoCardSaid : Prop := Claim7.holds Tryz.pinned (.plain (OpenSpec.upto writePartsSpec)) writePartsUptoCard

/-- THE SECOND FORM's CARD OF 'pythialaw11.WriteBack'. -/
def writeBackUptoCard : Claim7 := { stood := { row := writeBackUptoRow, standIns := [], harness := (true, "4cd08155376a98ff3bad386060aeb1223482ec95a056498425febd8964da9cee"), looks := true }, kinds := [], alts := [], laidByText := true, laidKinds := [.data, .data, .data, .data, .sentinel, .sentinel, .pinned], laidTests := true, laidLooks := .later }
def WriteBackUptoCardSaid : Prop := Claim7.holds Tryz.pinned (.plain (OpenSpec.upto writeBackSpec)) writeBackUptoCard

/-- THE SECOND FORM's CARD OF 'pythialaw11.WriteReads'. -/
def writeReadsUptoCard : Claim7 := { stood := { row := writeReadsUptoRow, standIns := [], harness := (true, "4cd08155376a98ff3bad386060aeb1223482ec95a056498425febd8964da9cee"), looks := true }, kinds := [], alts := [], laidByText := true, laidKinds := [.data, .data, .data, .data, .sentinel, .sentinel, .pinned], laidTests := true, laidLooks := .later }
def WriteReadsUptoCardSaid : Prop := Claim7.holds Tryz.pinned (.plain (OpenSpec.upto writeReadsSpec)) writeReadsUptoCard

/-- THE SECOND FORM's CARD OF 'pythialaw11.WriteNamesBack'. -/
def writeNamesBackUptoCard : Claim7 := { stood := { row := writeNamesBackUptoRow, standIns := [], harness := (true, "4cd08155376a98ff3bad386060aeb1223482ec95a056498425febd8964da9cee"), looks := true }, kinds := [], alts := [], laidByText := true, laidKinds := [.data, .data, .data, .data, .sentinel, .sentinel, .pinned], laidTests := true, laidLooks := .later }
def WriteNamesBackUptoCardSaid : Prop := Claim7.holds Tryz.pinned (.plain (OpenSpec.upto writeNamesBackSpec)) writeNamesBackUptoCard

/-- THE SECOND FORM's CARD OF 'pythialaw10.ReadGroups'. -/
def readGroupsUptoCard : Claim7 := { stood := { row := readGroupsUptoRow, standIns := [], harness := (true, "4cd08155376a98ff3bad386060aeb1223482ec95a056498425febd8964da9cee"), looks := true }, kinds := [], alts := [], laidByText := true, laidKinds := [.data, .data, .data, .data, .handle, .sentinel, .sentinel, .pinned], laidTests := true, laidLooks := .later }
def ReadGroupsUptoCardSaid : Prop := Claim7.holds Tryz.pinned (.plain (OpenSpec.upto readGroupsSpec)) readGroupsUptoCard

/-- THE SECOND FORM's CARD OF 'pythialaw10.ReadNames'. -/
def readNamesUptoCard : Claim7 := { stood := { row := readNamesUptoRow, standIns := [], harness := (true, "4cd08155376a98ff3bad386060aeb1223482ec95a056498425febd8964da9cee"), looks := true }, kinds := [], alts := [], laidByText := true, laidKinds := [.data, .data, .data, .data, .handle, .sentinel, .sentinel, .pinned], laidTests := true, laidLooks := .later }
def ReadNamesUptoCardSaid : Prop := Claim7.holds Tryz.pinned (.plain (OpenSpec.upto readNamesSpec)) readNamesUptoCard

/-- THE SECOND FORM's CARD OF 'pythialaw10.ReadJoins'. -/
def readJoinsUptoCard : Claim7 := { stood := { row := readJoinsUptoRow, standIns := [], harness := (true, "4cd08155376a98ff3bad386060aeb1223482ec95a056498425febd8964da9cee"), looks := true }, kinds := [], alts := [], laidByText := true, laidKinds := [.data, .data, .data, .data, .handle, .sentinel, .sentinel, .pinned], laidTests := true, laidLooks := .later }
def ReadJoinsUptoCardSaid : Prop := Claim7.holds Tryz.pinned (.plain (OpenSpec.upto readJoinsSpec)) readJoinsUptoCard

/-- THE SECOND FORM's CARD OF 'pythialaw10.ReadWrong'. -/
def readWrongUptoCard : Claim7 := { stood := { row := readWrongUptoRow, standIns := [], harness := (true, "4cd08155376a98ff3bad386060aeb1223482ec95a056498425febd8964da9cee"), looks := true }, kinds := [], alts := [], laidByText := true, laidKinds := [.data, .data, .data, .data, .handle, .sentinel, .sentinel, .pinned], laidTests := true, laidLooks := .later }
def ReadWrongUptoCardSaid : Prop := Claim7.holds Tryz.pinned (.plain (OpenSpec.upto readWrongSpec)) readWrongUptoCard
end Rows
end Go.Proofs.YtgidbplaoijalaaGreatRDoor
