/-
  DERIVED. GIVEN WITH THE SEED: THE CARDS: each row of YtnckaeehcldheaaGreatDoorRows.lean that lists a variable, with what it lists TIED to the program's text (the seventh form; the later family's looks); each row that meets fmt, with fmt's text TOLD by the authors' own Lean function (tested against real Go, not proved from fmt's source: count such statements apart). THE CARD IS WHAT COUNTS. Prove the row's statement (the work); the ties are given (YtnckaeehcldheaaGreatDoorTie.lean); close each card by the builder's one call (the guide's Derived/Test/ToyasCard.lean, 'card_holds'). Laid BY PROGRAM, IN A SANDBOX (cutbox-door.mjs). By AI agents, Wed Nov 11 2026. No macro, syntax, notation, axiom, sorry.
-/
import Derived.Test.YtnckaeehcldheaaGreatDoorRows
import GoSem.ClaimSeven
namespace Go.Proofs.YtnckaeehcldheaaGreatDoor
namespace Rows

/-- THE TIED CARD OF 'punchcutlaw18.ObjectParses'. -/
def objectParsesCard : Claim7 := { stood := { row := objectParsesRow, standIns := [], harness := (true, "5320d302fab9e83b1285ed6466454917ebd7bb44aaf74e33e43b1029d2323d0c"), looks := true }, kinds := [], alts := [], laidByText := true, laidKinds := [.data, .data, .data, .data, .sentinel, .sentinel, .pinned], laidTests := true, laidLooks := .later }
def ObjectParsesCardSaid : Prop := Claim7.holds Tryz.pinned (.plain (OpenSpec.ofChange objectParsesSpec)) objectParsesCard

/-- THE TIED CARD OF 'punchcutlaw18.ObjectGets'. -/
def objectGetsCard : Claim7 := { stood := { row := objectGetsRow, standIns := [], harness := (true, "5320d302fab9e83b1285ed6466454917ebd7bb44aaf74e33e43b1029d2323d0c"), looks := true }, kinds := [], alts := [], laidByText := true, laidKinds := [.data, .data, .data, .data, .sentinel, .sentinel, .pinned], laidTests := true, laidLooks := .later }
def ObjectGetsCardSaid : Prop := Claim7.holds Tryz.pinned (.plain (OpenSpec.ofChange objectGetsSpec)) objectGetsCard

/-- THE TIED CARD OF 'punchcutlaw21.WidthRefuses'. -/
def widthRefusesCard : Claim7 := { stood := { row := widthRefusesRow, standIns := [], harness := (true, "5320d302fab9e83b1285ed6466454917ebd7bb44aaf74e33e43b1029d2323d0c"), looks := true }, kinds := [], alts := [], laidByText := true, laidKinds := [.data, .data, .data, .data, .sentinel, .sentinel, .pinned], laidTests := true, laidLooks := .later }
def WidthRefusesCardSaid : Prop := Claim7.holds Tryz.pinned (.plain (OpenSpec.ofChange widthRefusesSpec)) widthRefusesCard

/-- THE TIED CARD OF 'punchcutlaw18.ObjectNumbers'. -/
def objectNumbersCard : Claim7 := { stood := { row := objectNumbersRow, standIns := [], harness := (true, "5320d302fab9e83b1285ed6466454917ebd7bb44aaf74e33e43b1029d2323d0c"), looks := true }, kinds := [], alts := [], laidByText := true, laidKinds := [.data, .data, .data, .data, .sentinel, .sentinel, .sentinel, .pinned], laidTests := true, laidLooks := .later }
def ObjectNumbersCardSaid : Prop := Claim7.holds Tryz.pinned (.plain (OpenSpec.ofChange objectNumbersSpec)) objectNumbersCard

/-- THE TIED CARD OF 'punchcutlaw18.ObjectDeep'. -/
def objectDeepCard : Claim7 := { stood := { row := objectDeepRow, standIns := [], harness := (true, "5320d302fab9e83b1285ed6466454917ebd7bb44aaf74e33e43b1029d2323d0c"), looks := true }, kinds := [], alts := [], laidByText := true, laidKinds := [.data, .data, .data, .data, .sentinel, .sentinel, .sentinel, .pinned], laidTests := true, laidLooks := .later }
def ObjectDeepCardSaid : Prop := Claim7.holds Tryz.pinned (.plain (OpenSpec.ofChange objectDeepSpec)) objectDeepCard

/-- THE TIED CARD OF 'punchcutlaw18.ObjectForms'. -/
def objectFormsCard : Claim7 := { stood := { row := objectFormsRow, standIns := [], harness := (true, "5320d302fab9e83b1285ed6466454917ebd7bb44aaf74e33e43b1029d2323d0c"), looks := true }, kinds := [], alts := [], laidByText := true, laidKinds := [.data, .data, .data, .data, .sentinel, .sentinel, .sentinel, .pinned], laidTests := true, laidLooks := .later }
def ObjectFormsCardSaid : Prop := Claim7.holds Tryz.pinned (.plain (OpenSpec.ofChange objectFormsSpec)) objectFormsCard

/-- THE TIED CARD OF 'punchcutlaw18.ObjectSpaces'. -/
def objectSpacesCard : Claim7 := { stood := { row := objectSpacesRow, standIns := [], harness := (true, "5320d302fab9e83b1285ed6466454917ebd7bb44aaf74e33e43b1029d2323d0c"), looks := true }, kinds := [], alts := [], laidByText := true, laidKinds := [.data, .data, .data, .data, .sentinel, .sentinel, .sentinel, .pinned], laidTests := true, laidLooks := .later }
def ObjectSpacesCardSaid : Prop := Claim7.holds Tryz.pinned (.plain (OpenSpec.ofChange objectSpacesSpec)) objectSpacesCard

/-- THE TIED CARD OF 'punchcutlaw22.ShownSteps'. -/
def shownStepsCard : Claim7 := { stood := { row := shownStepsRow, standIns := [], harness := (true, "5320d302fab9e83b1285ed6466454917ebd7bb44aaf74e33e43b1029d2323d0c"), looks := true }, kinds := [], alts := [], laidByText := true, laidKinds := [.data, .data, .data, .data, .sentinel, .sentinel, .sentinel, .pinned], laidTests := true, laidLooks := .later }
def ShownStepsCardSaid : Prop := Claim7.holds Tryz.pinned (.plain (OpenSpec.ofChange shownStepsSpec)) shownStepsCard

/-- THE TIED CARD OF 'punchcutlaw22.ShownRows'. -/
def shownRowsCard : Claim7 := { stood := { row := shownRowsRow, standIns := [], harness := (true, "5320d302fab9e83b1285ed6466454917ebd7bb44aaf74e33e43b1029d2323d0c"), looks := true }, kinds := [], alts := [], laidByText := true, laidKinds := [.data, .data, .data, .data, .sentinel, .sentinel, .sentinel, .pinned], laidTests := true, laidLooks := .later }
def ShownRowsCardSaid : Prop := Claim7.holds Tryz.pinned (.plain (OpenSpec.ofChange shownRowsSpec)) shownRowsCard

/-- THE TIED CARD OF 'punchcutlaw22.ShownBuilds'. -/
def shownBuildsCard : Claim7 := { stood := { row := shownBuildsRow, standIns := [], harness := (true, "5320d302fab9e83b1285ed6466454917ebd7bb44aaf74e33e43b1029d2323d0c"), looks := true }, kinds := [], alts := [], laidByText := true, laidKinds := [.data, .data, .data, .data, .sentinel, .sentinel, .sentinel, .pinned], laidTests := true, laidLooks := .later }
def ShownBuildsCardSaid : Prop := Claim7.holds Tryz.pinned (.plain (OpenSpec.ofChange shownBuildsSpec)) shownBuildsCard

/-- THE TIED CARD OF 'punchcutlaw22.ShownJoins'. -/
def shownJoinsCard : Claim7 := { stood := { row := shownJoinsRow, standIns := [], harness := (true, "5320d302fab9e83b1285ed6466454917ebd7bb44aaf74e33e43b1029d2323d0c"), looks := true }, kinds := [], alts := [], laidByText := true, laidKinds := [.data, .data, .data, .data, .sentinel, .sentinel, .sentinel, .pinned], laidTests := true, laidLooks := .later }
def ShownJoinsCardSaid : Prop := Claim7.holds Tryz.pinned (.plain (OpenSpec.ofChange shownJoinsSpec)) shownJoinsCard

/-- THE SECOND FORM's CARD OF 'punchcutlaw18.ObjectParses'. -/
def objectParsesUptoCard : Claim7 := { stood := { row := objectParsesUptoRow, standIns := [], harness := (true, "5320d302fab9e83b1285ed6466454917ebd7bb44aaf74e33e43b1029d2323d0c"), looks := true }, kinds := [], alts := [], laidByText := true, laidKinds := [.data, .data, .data, .data, .sentinel, .sentinel, .pinned], laidTests := true, laidLooks := .later }
def ObjectParsesUptoCardSaid : Prop := Claim7.holds Tryz.pinned (.plain (OpenSpec.upto objectParsesSpec)) objectParsesUptoCard

/-- THE SECOND FORM's CARD OF 'punchcutlaw18.ObjectGets'. -/
def objectGetsUptoCard : Claim7 := { stood := { row := objectGetsUptoRow, standIns := [], harness := (true, "5320d302fab9e83b1285ed6466454917ebd7bb44aaf74e33e43b1029d2323d0c"), looks := true }, kinds := [], alts := [], laidByText := true, laidKinds := [.data, .data, .data, .data, .sentinel, .sentinel, .pinned], laidTests := true, laidLooks := .later }
def ObjectGetsUptoCardSaid : Prop := Claim7.holds Tryz.pinned (.plain (OpenSpec.upto objectGetsSpec)) objectGetsUptoCard

/-- THE SECOND FORM's CARD OF 'punchcutlaw21.WidthRefuses'. -/
def widthRefusesUptoCard : Claim7 := { stood := { row := widthRefusesUptoRow, standIns := [], harness := (true, "5320d302fab9e83b1285ed6466454917ebd7bb44aaf74e33e43b1029d2323d0c"), looks := true }, kinds := [], alts := [], laidByText := true, laidKinds := [.data, .data, .data, .data, .sentinel, .sentinel, .pinned], laidTests := true, laidLooks := .later }
def WidthRefusesUptoCardSaid : Prop := Claim7.holds Tryz.pinned (.plain (OpenSpec.upto widthRefusesSpec)) widthRefusesUptoCard

/-- THE SECOND FORM's CARD OF 'punchcutlaw18.ObjectNumbers'. -/
def objectNumbersUptoCard : Claim7 := { stood := { row := objectNumbersUptoRow, standIns := [], harness := (true, "5320d302fab9e83b1285ed6466454917ebd7bb44aaf74e33e43b1029d2323d0c"), looks := true }, kinds := [], alts := [], laidByText := true, laidKinds := [.data, .data, .data, .data, .sentinel, .sentinel, .sentinel, .pinned], laidTests := true, laidLooks := .later }
def ObjectNumbersUptoCardSaid : Prop := Claim7.holds Tryz.pinned (.plain (OpenSpec.upto objectNumbersSpec)) objectNumbersUptoCard

/-- THE SECOND FORM's CARD OF 'punchcutlaw18.ObjectDeep'. -/
def objectDeepUptoCard : Claim7 := { stood := { row := objectDeepUptoRow, standIns := [], harness := (true, "5320d302fab9e83b1285ed6466454917ebd7bb44aaf74e33e43b1029d2323d0c"), looks := true }, kinds := [], alts := [], laidByText := true, laidKinds := [.data, .data, .data, .data, .sentinel, .sentinel, .sentinel, .pinned], laidTests := true, laidLooks := .later }
def ObjectDeepUptoCardSaid : Prop := Claim7.holds Tryz.pinned (.plain (OpenSpec.upto objectDeepSpec)) objectDeepUptoCard

/-- THE SECOND FORM's CARD OF 'punchcutlaw18.ObjectForms'. -/
def objectFormsUptoCard : Claim7 := { stood := { row := objectFormsUptoRow, standIns := [], harness := (true, "5320d302fab9e83b1285ed6466454917ebd7bb44aaf74e33e43b1029d2323d0c"), looks := true }, kinds := [], alts := [], laidByText := true, laidKinds := [.data, .data, .data, .data, .sentinel, .sentinel, .sentinel, .pinned], laidTests := true, laidLooks := .later }
def ObjectFormsUptoCardSaid : Prop := Claim7.holds Tryz.pinned (.plain (OpenSpec.upto objectFormsSpec)) objectFormsUptoCard

/-- THE SECOND FORM's CARD OF 'punchcutlaw18.ObjectSpaces'. -/
def objectSpacesUptoCard : Claim7 := { stood := { row := objectSpacesUptoRow, standIns := [], harness := (true, "5320d302fab9e83b1285ed6466454917ebd7bb44aaf74e33e43b1029d2323d0c"), looks := true }, kinds := [], alts := [], laidByText := true, laidKinds := [.data, .data, .data, .data, .sentinel, .sentinel, .sentinel, .pinned], laidTests := true, laidLooks := .later }
def ObjectSpacesUptoCardSaid : Prop := Claim7.holds Tryz.pinned (.plain (OpenSpec.upto objectSpacesSpec)) objectSpacesUptoCard

/-- THE SECOND FORM's CARD OF 'punchcutlaw22.ShownSteps'. -/
def shownStepsUptoCard : Claim7 := { stood := { row := shownStepsUptoRow, standIns := [], harness := (true, "5320d302fab9e83b1285ed6466454917ebd7bb44aaf74e33e43b1029d2323d0c"), looks := true }, kinds := [], alts := [], laidByText := true, laidKinds := [.data, .data, .data, .data, .sentinel, .sentinel, .sentinel, .pinned], laidTests := true, laidLooks := .later }
def ShownStepsUptoCardSaid : Prop := Claim7.holds Tryz.pinned (.plain (OpenSpec.upto shownStepsSpec)) shownStepsUptoCard

/-- THE SECOND FORM's CARD OF 'punchcutlaw22.ShownRows'. -/
def shownRowsUptoCard : Claim7 := { stood := { row := shownRowsUptoRow, standIns := [], harness := (true, "5320d302fab9e83b1285ed6466454917ebd7bb44aaf74e33e43b1029d2323d0c"), looks := true }, kinds := [], alts := [], laidByText := true, laidKinds := [.data, .data, .data, .data, .sentinel, .sentinel, .sentinel, .pinned], laidTests := true, laidLooks := .later }
def ShownRowsUptoCardSaid : Prop := Claim7.holds Tryz.pinned (.plain (OpenSpec.upto shownRowsSpec)) shownRowsUptoCard

/-- THE SECOND FORM's CARD OF 'punchcutlaw22.ShownBuilds'. -/
def shownBuildsUptoCard : Claim7 := { stood := { row := shownBuildsUptoRow, standIns := [], harness := (true, "5320d302fab9e83b1285ed6466454917ebd7bb44aaf74e33e43b1029d2323d0c"), looks := true }, kinds := [], alts := [], laidByText := true, laidKinds := [.data, .data, .data, .data, .sentinel, .sentinel, .sentinel, .pinned], laidTests := true, laidLooks := .later }
def ShownBuildsUptoCardSaid : Prop := Claim7.holds Tryz.pinned (.plain (OpenSpec.upto shownBuildsSpec)) shownBuildsUptoCard

/-- THE SECOND FORM's CARD OF 'punchcutlaw22.ShownJoins'. -/
def shownJoinsUptoCard : Claim7 := { stood := { row := shownJoinsUptoRow, standIns := [], harness := (true, "5320d302fab9e83b1285ed6466454917ebd7bb44aaf74e33e43b1029d2323d0c"), looks := true }, kinds := [], alts := [], laidByText := true, laidKinds := [.data, .data, .data, .data, .sentinel, .sentinel, .sentinel, .pinned], laidTests := true, laidLooks := .later }
def ShownJoinsUptoCardSaid : Prop := Claim7.holds Tryz.pinned (.plain (OpenSpec.upto shownJoinsSpec)) shownJoinsUptoCard
end Rows
end Go.Proofs.YtnckaeehcldheaaGreatDoor
