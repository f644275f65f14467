/-
  DERIVED. GIVEN WITH THE SEED: THE CARDS: each row of YtjifmcdlbffemaaGreatDoorRows.lean that lists a variable, with what it lists TIED to the program's text (the seventh form; the later family's looks); each row that meets fmt, with fmt's text TOLD by the authors' own Lean function (tested against real Go, not proved from fmt's source: count such statements apart). THE CARD IS WHAT COUNTS. Prove the row's statement (the work); the ties are given (YtjifmcdlbffemaaGreatDoorTie.lean); close each card by the builder's one call (the guide's Derived/Test/ToyasCard.lean, 'card_holds'). Laid BY PROGRAM, IN A SANDBOX (cutbox-door.mjs). By AI agents, Wed Nov 11 2026. No macro, syntax, notation, axiom, sorry.
-/
import Derived.Test.YtjifmcdlbffemaaGreatDoorRows
import GoSem.ClaimSeven
namespace Go.Proofs.YtjifmcdlbffemaaGreatDoor
namespace Rows

/-- THE TIED CARD OF 'turnrowlaw19.OpForms'. -/
def opFormsCard : Claim7 := { stood := { row := opFormsRow, standIns := [], harness := (true, "b993252538130a0f65b276ffdda89ef7c9f24a3aa7f278abceb4b9239983d801"), looks := false }, kinds := [], alts := [], laidByText := true, laidKinds := [.data], laidTests := true, laidLooks := .later }
def OpFormsCardSaid : Prop := Claim7.holds Tryz.pinned (.plain (OpenSpec.ofChange opFormsSpec)) opFormsCard

/-- THE TIED CARD OF 'turnrowlaw19.OpTwice'. -/
def opTwiceCard : Claim7 := { stood := { row := opTwiceRow, standIns := [], harness := (true, "b993252538130a0f65b276ffdda89ef7c9f24a3aa7f278abceb4b9239983d801"), looks := false }, kinds := [], alts := [], laidByText := true, laidKinds := [.data], laidTests := true, laidLooks := .later }
def OpTwiceCardSaid : Prop := Claim7.holds Tryz.pinned (.plain (OpenSpec.ofChange opTwiceSpec)) opTwiceCard

/-- THE TIED CARD OF 'turnrowlaw19.OpActs'. -/
def opActsCard : Claim7 := { stood := { row := opActsRow, standIns := [], harness := (true, "b993252538130a0f65b276ffdda89ef7c9f24a3aa7f278abceb4b9239983d801"), looks := false }, kinds := [], alts := [], laidByText := true, laidKinds := [.data], laidTests := true, laidLooks := .later }
def OpActsCardSaid : Prop := Claim7.holds Tryz.pinned (.plain (OpenSpec.ofChange opActsSpec)) opActsCard

/-- THE TIED CARD OF 'turnrowlaw19.OpErrors'. -/
def opErrorsCard : Claim7 := { stood := { row := opErrorsRow, standIns := [], harness := (true, "b993252538130a0f65b276ffdda89ef7c9f24a3aa7f278abceb4b9239983d801"), looks := false }, kinds := [], alts := [], laidByText := true, laidKinds := [.data], laidTests := true, laidLooks := .later }
def OpErrorsCardSaid : Prop := Claim7.holds Tryz.pinned (.plain (OpenSpec.ofChange opErrorsSpec)) opErrorsCard

/-- THE TIED CARD OF 'turnrowlaw19.OpNone'. -/
def opNoneCard : Claim7 := { stood := { row := opNoneRow, standIns := [], harness := (true, "b993252538130a0f65b276ffdda89ef7c9f24a3aa7f278abceb4b9239983d801"), looks := false }, kinds := [], alts := [], laidByText := true, laidKinds := [.data], laidTests := true, laidLooks := .later }
def OpNoneCardSaid : Prop := Claim7.holds Tryz.pinned (.plain (OpenSpec.ofChange opNoneSpec)) opNoneCard

/-- THE SECOND FORM's CARD OF 'turnrowlaw19.OpForms'. -/
def opFormsUptoCard : Claim7 := { stood := { row := opFormsUptoRow, standIns := [], harness := (true, "b993252538130a0f65b276ffdda89ef7c9f24a3aa7f278abceb4b9239983d801"), looks := false }, kinds := [], alts := [], laidByText := true, laidKinds := [.data], laidTests := true, laidLooks := .later }
def OpFormsUptoCardSaid : Prop := Claim7.holds Tryz.pinned (.plain (OpenSpec.upto opFormsSpec)) opFormsUptoCard

/-- THE SECOND FORM's CARD OF 'turnrowlaw19.OpTwice'. -/
def opTwiceUptoCard : Claim7 := { stood := { row := opTwiceUptoRow, standIns := [], harness := (true, "b993252538130a0f65b276ffdda89ef7c9f24a3aa7f278abceb4b9239983d801"), looks := false }, kinds := [], alts := [], laidByText := true, laidKinds := [.data], laidTests := true, laidLooks := .later }
def OpTwiceUptoCardSaid : Prop := Claim7.holds Tryz.pinned (.plain (OpenSpec.upto opTwiceSpec)) opTwiceUptoCard

/-- THE SECOND FORM's CARD OF 'turnrowlaw19.OpActs'. -/
def opActsUptoCard : Claim7 := { stood := { row := opActsUptoRow, standIns := [], harness := (true, "b993252538130a0f65b276ffdda89ef7c9f24a3aa7f278abceb4b9239983d801"), looks := false }, kinds := [], alts := [], laidByText := true, laidKinds := [.data], laidTests := true, laidLooks := .later }
def OpActsUptoCardSaid : Prop := Claim7.holds Tryz.pinned (.plain (OpenSpec.upto opActsSpec)) opActsUptoCard

/-- THE SECOND FORM's CARD OF 'turnrowlaw19.OpErrors'. -/
def opErrorsUptoCard : Claim7 := { stood := { row := opErrorsUptoRow, standIns := [], harness := (true, "b993252538130a0f65b276ffdda89ef7c9f24a3aa7f278abceb4b9239983d801"), looks := false }, kinds := [], alts := [], laidByText := true, laidKinds := [.data], laidTests := true, laidLooks := .later }
def OpErrorsUptoCardSaid : Prop := Claim7.holds Tryz.pinned (.plain (OpenSpec.upto opErrorsSpec)) opErrorsUptoCard

/-- THE SECOND FORM's CARD OF 'turnrowlaw19.OpNone'. -/
def opNoneUptoCard : Claim7 := { stood := { row := opNoneUptoRow, standIns := [], harness := (true, "b993252538130a0f65b276ffdda89ef7c9f24a3aa7f278abceb4b9239983d801"), looks := false }, kinds := [], alts := [], laidByText := true, laidKinds := [.data], laidTests := true, laidLooks := .later }
def OpNoneUptoCardSaid : Prop := Claim7.holds Tryz.pinned (.plain (OpenSpec.upto opNoneSpec)) opNoneUptoCard
end Rows
end Go.Proofs.YtjifmcdlbffemaaGreatDoor
