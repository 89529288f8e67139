/-
  DERIVED. GIVEN WITH THE SEED: THE CARDS: each row of YtabglcbliapijaaGreatDoorRows.lean that lists a variable, with what it lists TIED to the program's text (the seventh form; the later family's looks); each row that meets fmt, with fmt's text TOLD by the authors' own Lean function (tested against real Go, not proved from fmt's source: count such statements apart). THE CARD IS WHAT COUNTS. Prove the row's statement (the work); the ties are given (YtabglcbliapijaaGreatDoorTie.lean); close each card by the builder's one call (the guide's Derived/Test/ToyasCard.lean, 'card_holds'). Laid BY PROGRAM, IN A SANDBOX (cutbox-door.mjs). By AI agents, Wed Nov 11 2026. No macro, syntax, notation, axiom, sorry.
-/
import Derived.Test.YtabglcbliapijaaGreatDoorRows
import GoSem.ClaimSeven
namespace Go.Proofs.YtabglcbliapijaaGreatDoor
namespace Rows

/-- THE TIED CARD OF 'raddlelaw23.FlowBlocks'. -/
def flowBlocksCard : Claim7 := { stood := { row := flowBlocksRow, standIns := [], harness := (true, "c1df1920449b74e025b65a8df1b30f68928dbe30d0e05cd620540d9075080a90"), looks := true }, kinds := [], alts := [], laidByText := true, laidKinds := [.data, .data, .data, .listed, .data], laidTests := true, laidLooks := .later }
def FlowBlocksCardSaid : Prop := Claim7.holds Tryz.pinned (.plain (OpenSpec.ofChange flowBlocksSpec)) flowBlocksCard

/-- THE TIED CARD OF 'raddlelaw19.TaskTraces'. -/
def taskTracesCard : Claim7 := { stood := { row := taskTracesRow, standIns := [], harness := (true, "c1df1920449b74e025b65a8df1b30f68928dbe30d0e05cd620540d9075080a90"), looks := true }, kinds := [], alts := [], laidByText := true, laidKinds := [.data, .data, .data, .listed, .data], laidTests := true, laidLooks := .later }
def TaskTracesCardSaid : Prop := Claim7.holds Tryz.pinned (.plain (OpenSpec.ofChange taskTracesSpec)) taskTracesCard

/-- THE TIED CARD OF 'raddlelaw19.TaskAlone'. -/
def taskAloneCard : Claim7 := { stood := { row := taskAloneRow, standIns := [], harness := (true, "c1df1920449b74e025b65a8df1b30f68928dbe30d0e05cd620540d9075080a90"), looks := true }, kinds := [], alts := [], laidByText := true, laidKinds := [.data, .data, .data, .listed, .data], laidTests := true, laidLooks := .later }
def TaskAloneCardSaid : Prop := Claim7.holds Tryz.pinned (.plain (OpenSpec.ofChange taskAloneSpec)) taskAloneCard

/-- THE TIED CARD OF 'raddlelaw19.TaskRuns'. -/
def taskRunsCard : Claim7 := { stood := { row := taskRunsRow, standIns := [], harness := (true, "c1df1920449b74e025b65a8df1b30f68928dbe30d0e05cd620540d9075080a90"), looks := true }, kinds := [], alts := [], laidByText := true, laidKinds := [.data, .data, .data, .listed, .data], laidTests := true, laidLooks := .later }
def TaskRunsCardSaid : Prop := Claim7.holds Tryz.pinned (.plain (OpenSpec.ofChange taskRunsSpec)) taskRunsCard

/-- THE TIED CARD OF 'raddlelaw19.TaskApart'. -/
def taskApartCard : Claim7 := { stood := { row := taskApartRow, standIns := [], harness := (true, "c1df1920449b74e025b65a8df1b30f68928dbe30d0e05cd620540d9075080a90"), looks := true }, kinds := [], alts := [], laidByText := true, laidKinds := [.data, .data, .data, .listed, .data], laidTests := true, laidLooks := .later }
def TaskApartCardSaid : Prop := Claim7.holds Tryz.pinned (.plain (OpenSpec.ofChange taskApartSpec)) taskApartCard

/-- THE TIED CARD OF 'raddlelaw19.TaskSteps'. -/
def taskStepsCard : Claim7 := { stood := { row := taskStepsRow, standIns := [], harness := (true, "c1df1920449b74e025b65a8df1b30f68928dbe30d0e05cd620540d9075080a90"), looks := true }, kinds := [], alts := [], laidByText := true, laidKinds := [.data, .data, .data, .listed, .data], laidTests := true, laidLooks := .later }
def TaskStepsCardSaid : Prop := Claim7.holds Tryz.pinned (.plain (OpenSpec.ofChange taskStepsSpec)) taskStepsCard

/-- THE TIED CARD OF 'raddlelaw19.TaskOne'. -/
def taskOneCard : Claim7 := { stood := { row := taskOneRow, standIns := [], harness := (true, "c1df1920449b74e025b65a8df1b30f68928dbe30d0e05cd620540d9075080a90"), looks := true }, kinds := [], alts := [], laidByText := true, laidKinds := [.data, .data, .data, .listed, .data], laidTests := true, laidLooks := .later }
def TaskOneCardSaid : Prop := Claim7.holds Tryz.pinned (.plain (OpenSpec.ofChange taskOneSpec)) taskOneCard

/-- THE TIED CARD OF 'raddlelaw23.FlowRuns'. -/
def flowRunsCard : Claim7 := { stood := { row := flowRunsRow, standIns := [], harness := (true, "c1df1920449b74e025b65a8df1b30f68928dbe30d0e05cd620540d9075080a90"), looks := true }, kinds := [], alts := [], laidByText := true, laidKinds := [.data, .data, .data, .listed, .data], laidTests := true, laidLooks := .later }
def FlowRunsCardSaid : Prop := Claim7.holds Tryz.pinned (.plain (OpenSpec.ofChange flowRunsSpec)) flowRunsCard

/-- THE TIED CARD OF 'raddlelaw23.FlowLive'. -/
def flowLiveCard : Claim7 := { stood := { row := flowLiveRow, standIns := [], harness := (true, "c1df1920449b74e025b65a8df1b30f68928dbe30d0e05cd620540d9075080a90"), looks := true }, kinds := [], alts := [], laidByText := true, laidKinds := [.data, .data, .data, .listed, .data], laidTests := true, laidLooks := .later }
def FlowLiveCardSaid : Prop := Claim7.holds Tryz.pinned (.plain (OpenSpec.ofChange flowLiveSpec)) flowLiveCard

/-- THE TIED CARD OF 'raddlelaw23.FlowDefs'. -/
def flowDefsCard : Claim7 := { stood := { row := flowDefsRow, standIns := [], harness := (true, "c1df1920449b74e025b65a8df1b30f68928dbe30d0e05cd620540d9075080a90"), looks := true }, kinds := [], alts := [], laidByText := true, laidKinds := [.data, .data, .data, .listed, .data], laidTests := true, laidLooks := .later }
def FlowDefsCardSaid : Prop := Claim7.holds Tryz.pinned (.plain (OpenSpec.ofChange flowDefsSpec)) flowDefsCard

/-- THE SECOND FORM's CARD OF 'raddlelaw23.FlowBlocks'. -/
def flowBlocksUptoCard : Claim7 := { stood := { row := flowBlocksUptoRow, standIns := [], harness := (true, "c1df1920449b74e025b65a8df1b30f68928dbe30d0e05cd620540d9075080a90"), looks := true }, kinds := [], alts := [], laidByText := true, laidKinds := [.data, .data, .data, .listed, .data], laidTests := true, laidLooks := .later }
def FlowBlocksUptoCardSaid : Prop := Claim7.holds Tryz.pinned (.plain (OpenSpec.upto flowBlocksSpec)) flowBlocksUptoCard

/-- THE SECOND FORM's CARD OF 'raddlelaw19.TaskTraces'. -/
def taskTracesUptoCard : Claim7 := { stood := { row := taskTracesUptoRow, standIns := [], harness := (true, "c1df1920449b74e025b65a8df1b30f68928dbe30d0e05cd620540d9075080a90"), looks := true }, kinds := [], alts := [], laidByText := true, laidKinds := [.data, .data, .data, .listed, .data], laidTests := true, laidLooks := .later }
def TaskTracesUptoCardSaid : Prop := Claim7.holds Tryz.pinned (.plain (OpenSpec.upto taskTracesSpec)) taskTracesUptoCard

/-- THE SECOND FORM's CARD OF 'raddlelaw19.TaskAlone'. -/
def taskAloneUptoCard : Claim7 := { stood := { row := taskAloneUptoRow, standIns := [], harness := (true, "c1df1920449b74e025b65a8df1b30f68928dbe30d0e05cd620540d9075080a90"), looks := true }, kinds := [], alts := [], laidByText := true, laidKinds := [.data, .data, .data, .listed, .data], laidTests := true, laidLooks := .later }
def TaskAloneUptoCardSaid : Prop := Claim7.holds Tryz.pinned (.plain (OpenSpec.upto taskAloneSpec)) taskAloneUptoCard

/-- THE SECOND FORM's CARD OF 'raddlelaw19.TaskRuns'. -/
def taskRunsUptoCard : Claim7 := { stood := { row := taskRunsUptoRow, standIns := [], harness := (true, "c1df1920449b74e025b65a8df1b30f68928dbe30d0e05cd620540d9075080a90"), looks := true }, kinds := [], alts := [], laidByText := true, laidKinds := [.data, .data, .data, .listed, .data], laidTests := true, laidLooks := .later }
def TaskRunsUptoCardSaid : Prop := Claim7.holds Tryz.pinned (.plain (OpenSpec.upto taskRunsSpec)) taskRunsUptoCard

/-- THE SECOND FORM's CARD OF 'raddlelaw19.TaskApart'. -/
def taskApartUptoCard : Claim7 := { stood := { row := taskApartUptoRow, standIns := [], harness := (true, "c1df1920449b74e025b65a8df1b30f68928dbe30d0e05cd620540d9075080a90"), looks := true }, kinds := [], alts := [], laidByText := true, laidKinds := [.data, .data, .data, .listed, .data], laidTests := true, laidLooks := .later }
def TaskApartUptoCardSaid : Prop := Claim7.holds Tryz.pinned (.plain (OpenSpec.upto taskApartSpec)) taskApartUptoCard

/-- THE SECOND FORM's CARD OF 'raddlelaw19.TaskSteps'. -/
def taskStepsUptoCard : Claim7 := { stood := { row := taskStepsUptoRow, standIns := [], harness := (true, "c1df1920449b74e025b65a8df1b30f68928dbe30d0e05cd620540d9075080a90"), looks := true }, kinds := [], alts := [], laidByText := true, laidKinds := [.data, .data, .data, .listed, .data], laidTests := true, laidLooks := .later }
def TaskStepsUptoCardSaid : Prop := Claim7.holds Tryz.pinned (.plain (OpenSpec.upto taskStepsSpec)) taskStepsUptoCard

/-- THE SECOND FORM's CARD OF 'raddlelaw19.TaskOne'. -/
def taskOneUptoCard : Claim7 := { stood := { row := taskOneUptoRow, standIns := [], harness := (true, "c1df1920449b74e025b65a8df1b30f68928dbe30d0e05cd620540d9075080a90"), looks := true }, kinds := [], alts := [], laidByText := true, laidKinds := [.data, .data, .data, .listed, .data], laidTests := true, laidLooks := .later }
def TaskOneUptoCardSaid : Prop := Claim7.holds Tryz.pinned (.plain (OpenSpec.upto taskOneSpec)) taskOneUptoCard

/-- THE SECOND FORM's CARD OF 'raddlelaw23.FlowRuns'. -/
def flowRunsUptoCard : Claim7 := { stood := { row := flowRunsUptoRow, standIns := [], harness := (true, "c1df1920449b74e025b65a8df1b30f68928dbe30d0e05cd620540d9075080a90"), looks := true }, kinds := [], alts := [], laidByText := true, laidKinds := [.data, .data, .data, .listed, .data], laidTests := true, laidLooks := .later }
def FlowRunsUptoCardSaid : Prop := Claim7.holds Tryz.pinned (.plain (OpenSpec.upto flowRunsSpec)) flowRunsUptoCard

/-- THE SECOND FORM's CARD OF 'raddlelaw23.FlowLive'. -/
def flowLiveUptoCard : Claim7 := { stood := { row := flowLiveUptoRow, standIns := [], harness := (true, "c1df1920449b74e025b65a8df1b30f68928dbe30d0e05cd620540d9075080a90"), looks := true }, kinds := [], alts := [], laidByText := true, laidKinds := [.data, .data, .data, .listed, .data], laidTests := true, laidLooks := .later }
def FlowLiveUptoCardSaid : Prop := Claim7.holds Tryz.pinned (.plain (OpenSpec.upto flowLiveSpec)) flowLiveUptoCard

/-- THE SECOND FORM's CARD OF 'raddlelaw23.FlowDefs'. -/
def flowDefsUptoCard : Claim7 := { stood := { row := flowDefsUptoRow, standIns := [], harness := (true, "c1df1920449b74e025b65a8df1b30f68928dbe30d0e05cd620540d9075080a90"), looks := true }, kinds := [], alts := [], laidByText := true, laidKinds := [.data, .data, .data, .listed, .data], laidTests := true, laidLooks := .later }
def FlowDefsUptoCardSaid : Prop := Claim7.holds Tryz.pinned (.plain (OpenSpec.upto flowDefsSpec)) flowDefsUptoCard
end Rows
end Go.Proofs.YtabglcbliapijaaGreatDoor
