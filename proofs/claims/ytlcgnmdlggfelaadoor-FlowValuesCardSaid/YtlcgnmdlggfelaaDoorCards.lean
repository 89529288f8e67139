/-
  DERIVED. GIVEN WITH THE SEED: THE CARDS: each row of YtlcgnmdlggfelaaDoorRows.lean that lists a variable, with what it lists TIED to the program's text (the seventh form; the later family's looks); each row that meets fmt, with fmt's text TOLD by the authors' own Lean function (tested against real Go, not proved from fmt's source: count such statements apart). THE CARD IS WHAT COUNTS. Prove the row's statement (the work); the ties are given (YtlcgnmdlggfelaaDoorTie.lean); close each card by the builder's one call (the guide's Derived/Test/ToyasCard.lean, 'card_holds'). Laid BY PROGRAM, IN A SANDBOX (cutbox-door.mjs). By AI agents, Wed Nov 11 2026. No macro, syntax, notation, axiom, sorry.
-/
import Derived.Test.YtlcgnmdlggfelaaDoorRows
import GoSem.ClaimSeven
namespace Go.Proofs.YtlcgnmdlggfelaaDoor
namespace Rows

/-- THE TIED CARD OF 'raddlelaw23.FlowGraphs'. -/
def flowGraphsCard : Claim7 := { stood := { row := flowGraphsRow, standIns := [], harness := (true, "7d213b5ec0c8da5a3bed999b6c06f129f3a4ff7488c2557ca8af4dd083725410"), looks := false }, kinds := [], alts := [], laidByText := true, laidKinds := [.listed, .data], laidTests := true, laidLooks := .later }
def FlowGraphsCardSaid : Prop := Claim7.holds Tryd.pinned (.plain (OpenSpec.ofChange flowGraphsSpec)) flowGraphsCard

/-- THE TIED CARD OF 'raddlelaw23.FlowDominates'. -/
def flowDominatesCard : Claim7 := { stood := { row := flowDominatesRow, standIns := [], harness := (true, "7d213b5ec0c8da5a3bed999b6c06f129f3a4ff7488c2557ca8af4dd083725410"), looks := false }, kinds := [], alts := [], laidByText := true, laidKinds := [.listed, .data], laidTests := true, laidLooks := .later }
def FlowDominatesCardSaid : Prop := Claim7.holds Tryd.pinned (.plain (OpenSpec.ofChange flowDominatesSpec)) flowDominatesCard

/-- THE TIED CARD OF 'raddlelaw23.FlowValues'. -/
def flowValuesCard : Claim7 := { stood := { row := flowValuesRow, standIns := [], harness := (true, "7d213b5ec0c8da5a3bed999b6c06f129f3a4ff7488c2557ca8af4dd083725410"), looks := false }, kinds := [], alts := [], laidByText := true, laidKinds := [.data, .listed, .data], laidTests := true, laidLooks := .later }
def FlowValuesCardSaid : Prop := Claim7.holds Tryd.pinned (.plain (OpenSpec.ofChange flowValuesSpec)) flowValuesCard

/-- THE SECOND FORM's CARD OF 'raddlelaw23.FlowGraphs'. -/
def flowGraphsUptoCard : Claim7 := { stood := { row := flowGraphsUptoRow, standIns := [], harness := (true, "7d213b5ec0c8da5a3bed999b6c06f129f3a4ff7488c2557ca8af4dd083725410"), looks := false }, kinds := [], alts := [], laidByText := true, laidKinds := [.listed, .data], laidTests := true, laidLooks := .later }
def FlowGraphsUptoCardSaid : Prop := Claim7.holds Tryd.pinned (.plain (OpenSpec.upto flowGraphsSpec)) flowGraphsUptoCard

/-- THE SECOND FORM's CARD OF 'raddlelaw23.FlowDominates'. -/
def flowDominatesUptoCard : Claim7 := { stood := { row := flowDominatesUptoRow, standIns := [], harness := (true, "7d213b5ec0c8da5a3bed999b6c06f129f3a4ff7488c2557ca8af4dd083725410"), looks := false }, kinds := [], alts := [], laidByText := true, laidKinds := [.listed, .data], laidTests := true, laidLooks := .later }
def FlowDominatesUptoCardSaid : Prop := Claim7.holds Tryd.pinned (.plain (OpenSpec.upto flowDominatesSpec)) flowDominatesUptoCard

/-- THE SECOND FORM's CARD OF 'raddlelaw23.FlowValues'. -/
def flowValuesUptoCard : Claim7 := { stood := { row := flowValuesUptoRow, standIns := [], harness := (true, "7d213b5ec0c8da5a3bed999b6c06f129f3a4ff7488c2557ca8af4dd083725410"), looks := false }, kinds := [], alts := [], laidByText := true, laidKinds := [.data, .listed, .data], laidTests := true, laidLooks := .later }
def FlowValuesUptoCardSaid : Prop := Claim7.holds Tryd.pinned (.plain (OpenSpec.upto flowValuesSpec)) flowValuesUptoCard
end Rows
end Go.Proofs.YtlcgnmdlggfelaaDoor
