/-
  DERIVED. GIVEN WITH THE SEED: THE CARDS: each row of YtjmigoikklkfdaaGreatDoorRows.lean that lists a variable, with what it lists TIED to the program's text (the seventh form; the later family's looks); each row that meets fmt, with fmt's text TOLD by the authors' own Lean function (tested against real Go, not proved from fmt's source: count such statements apart). THE CARD IS WHAT COUNTS. Prove the row's statement (the work); the ties are given (YtjmigoikklkfdaaGreatDoorTie.lean); close each card by the builder's one call (the guide's Derived/Test/ToyasCard.lean, 'card_holds'). Laid BY PROGRAM, IN A SANDBOX (cutbox-door.mjs). By AI agents, Wed Nov 11 2026. No macro, syntax, notation, axiom, sorry.
-/
import Derived.Test.YtjmigoikklkfdaaGreatDoorRows
import GoSem.ClaimSeven
namespace Go.Proofs.YtjmigoikklkfdaaGreatDoor
namespace Rows

/-- THE TIED CARD OF 'knapsacklaw14.CheckTells'. -/
def checkTellsCard : Claim7 := { stood := { row := checkTellsRow, standIns := [], harness := (true, "decbe2cef49986c1fb4ff081d469ff5857961533e3f3d6102f4db11d5d3ae5f2"), looks := true }, kinds := [], alts := [], laidByText := true, laidKinds := [.data], laidTests := true, laidLooks := .later }
def CheckTellsCardSaid : Prop := Claim7.holds Tryz.pinned (.plain (OpenSpec.ofChange checkTellsSpec)) checkTellsCard

/-- THE TIED CARD OF 'knapsacklaw14.CheckMore'. -/
def checkMoreCard : Claim7 := { stood := { row := checkMoreRow, standIns := [], harness := (true, "decbe2cef49986c1fb4ff081d469ff5857961533e3f3d6102f4db11d5d3ae5f2"), looks := true }, kinds := [], alts := [], laidByText := true, laidKinds := [.data], laidTests := true, laidLooks := .later }
def CheckMoreCardSaid : Prop := Claim7.holds Tryz.pinned (.plain (OpenSpec.ofChange checkMoreSpec)) checkMoreCard

/-- THE TIED CARD OF 'knapsacklaw12.GraphReaches'. -/
def graphReachesCard : Claim7 := { stood := { row := graphReachesRow, standIns := [], harness := (true, "decbe2cef49986c1fb4ff081d469ff5857961533e3f3d6102f4db11d5d3ae5f2"), looks := true }, kinds := [], alts := [], laidByText := true, laidKinds := [.data], laidTests := true, laidLooks := .later }
def GraphReachesCardSaid : Prop := Claim7.holds Tryz.pinned (.plain (OpenSpec.ofChange graphReachesSpec)) graphReachesCard

/-- THE TIED CARD OF 'knapsacklaw12.GraphWalks'. -/
def graphWalksCard : Claim7 := { stood := { row := graphWalksRow, standIns := [], harness := (true, "decbe2cef49986c1fb4ff081d469ff5857961533e3f3d6102f4db11d5d3ae5f2"), looks := true }, kinds := [], alts := [], laidByText := true, laidKinds := [.data], laidTests := true, laidLooks := .later }
def GraphWalksCardSaid : Prop := Claim7.holds Tryz.pinned (.plain (OpenSpec.ofChange graphWalksSpec)) graphWalksCard

/-- THE TIED CARD OF 'knapsacklaw12.GraphMore'. -/
def graphMoreCard : Claim7 := { stood := { row := graphMoreRow, standIns := [], harness := (true, "decbe2cef49986c1fb4ff081d469ff5857961533e3f3d6102f4db11d5d3ae5f2"), looks := true }, kinds := [], alts := [], laidByText := true, laidKinds := [.data], laidTests := true, laidLooks := .later }
def GraphMoreCardSaid : Prop := Claim7.holds Tryz.pinned (.plain (OpenSpec.ofChange graphMoreSpec)) graphMoreCard

/-- THE TIED CARD OF 'knapsacklaw16.ResolveTells'. -/
def resolveTellsCard : Claim7 := { stood := { row := resolveTellsRow, standIns := [], harness := (true, "decbe2cef49986c1fb4ff081d469ff5857961533e3f3d6102f4db11d5d3ae5f2"), looks := true }, kinds := [], alts := [], laidByText := true, laidKinds := [.data], laidTests := true, laidLooks := .later }
def ResolveTellsCardSaid : Prop := Claim7.holds Tryz.pinned (.plain (OpenSpec.ofChange resolveTellsSpec)) resolveTellsCard

/-- THE TIED CARD OF 'knapsacklaw19.AckTells'. -/
def ackTellsCard : Claim7 := { stood := { row := ackTellsRow, standIns := [], harness := (true, "decbe2cef49986c1fb4ff081d469ff5857961533e3f3d6102f4db11d5d3ae5f2"), looks := true }, kinds := [], alts := [], laidByText := true, laidKinds := [.data], laidTests := true, laidLooks := .later }
def AckTellsCardSaid : Prop := Claim7.holds Tryz.pinned (.plain (OpenSpec.ofChange ackTellsSpec)) ackTellsCard

/-- THE TIED CARD OF 'knapsacklaw16.ResolveCompletes'. -/
def resolveCompletesCard : Claim7 := { stood := { row := resolveCompletesRow, standIns := [], harness := (true, "decbe2cef49986c1fb4ff081d469ff5857961533e3f3d6102f4db11d5d3ae5f2"), looks := true }, kinds := [], alts := [], laidByText := true, laidKinds := [.data], laidTests := true, laidLooks := .later }
def ResolveCompletesCardSaid : Prop := Claim7.holds Tryz.pinned (.plain (OpenSpec.ofChange resolveCompletesSpec)) resolveCompletesCard

/-- THE TIED CARD OF 'knapsacklaw16.ResolveIndexes'. -/
def resolveIndexesCard : Claim7 := { stood := { row := resolveIndexesRow, standIns := [], harness := (true, "decbe2cef49986c1fb4ff081d469ff5857961533e3f3d6102f4db11d5d3ae5f2"), looks := true }, kinds := [], alts := [], laidByText := true, laidKinds := [.data], laidTests := true, laidLooks := .later }
def ResolveIndexesCardSaid : Prop := Claim7.holds Tryz.pinned (.plain (OpenSpec.ofChange resolveIndexesSpec)) resolveIndexesCard

/-- THE SECOND FORM's CARD OF 'knapsacklaw14.CheckTells'. -/
def checkTellsUptoCard : Claim7 := { stood := { row := checkTellsUptoRow, standIns := [], harness := (true, "decbe2cef49986c1fb4ff081d469ff5857961533e3f3d6102f4db11d5d3ae5f2"), looks := true }, kinds := [], alts := [], laidByText := true, laidKinds := [.data], laidTests := true, laidLooks := .later }
def CheckTellsUptoCardSaid : Prop := Claim7.holds Tryz.pinned (.plain (OpenSpec.upto checkTellsSpec)) checkTellsUptoCard

/-- THE SECOND FORM's CARD OF 'knapsacklaw14.CheckMore'. -/
def checkMoreUptoCard : Claim7 := { stood := { row := checkMoreUptoRow, standIns := [], harness := (true, "decbe2cef49986c1fb4ff081d469ff5857961533e3f3d6102f4db11d5d3ae5f2"), looks := true }, kinds := [], alts := [], laidByText := true, laidKinds := [.data], laidTests := true, laidLooks := .later }
def CheckMoreUptoCardSaid : Prop := Claim7.holds Tryz.pinned (.plain (OpenSpec.upto checkMoreSpec)) checkMoreUptoCard

/-- THE SECOND FORM's CARD OF 'knapsacklaw12.GraphReaches'. -/
def graphReachesUptoCard : Claim7 := { stood := { row := graphReachesUptoRow, standIns := [], harness := (true, "decbe2cef49986c1fb4ff081d469ff5857961533e3f3d6102f4db11d5d3ae5f2"), looks := true }, kinds := [], alts := [], laidByText := true, laidKinds := [.data], laidTests := true, laidLooks := .later }
def GraphReachesUptoCardSaid : Prop := Claim7.holds Tryz.pinned (.plain (OpenSpec.upto graphReachesSpec)) graphReachesUptoCard

/-- THE SECOND FORM's CARD OF 'knapsacklaw12.GraphWalks'. -/
def graphWalksUptoCard : Claim7 := { stood := { row := graphWalksUptoRow, standIns := [], harness := (true, "decbe2cef49986c1fb4ff081d469ff5857961533e3f3d6102f4db11d5d3ae5f2"), looks := true }, kinds := [], alts := [], laidByText := true, laidKinds := [.data], laidTests := true, laidLooks := .later }
def GraphWalksUptoCardSaid : Prop := Claim7.holds Tryz.pinned (.plain (OpenSpec.upto graphWalksSpec)) graphWalksUptoCard

/-- THE SECOND FORM's CARD OF 'knapsacklaw12.GraphMore'. -/
def graphMoreUptoCard : Claim7 := { stood := { row := graphMoreUptoRow, standIns := [], harness := (true, "decbe2cef49986c1fb4ff081d469ff5857961533e3f3d6102f4db11d5d3ae5f2"), looks := true }, kinds := [], alts := [], laidByText := true, laidKinds := [.data], laidTests := true, laidLooks := .later }
def GraphMoreUptoCardSaid : Prop := Claim7.holds Tryz.pinned (.plain (OpenSpec.upto graphMoreSpec)) graphMoreUptoCard

/-- THE SECOND FORM's CARD OF 'knapsacklaw16.ResolveTells'. -/
def resolveTellsUptoCard : Claim7 := { stood := { row := resolveTellsUptoRow, standIns := [], harness := (true, "decbe2cef49986c1fb4ff081d469ff5857961533e3f3d6102f4db11d5d3ae5f2"), looks := true }, kinds := [], alts := [], laidByText := true, laidKinds := [.data], laidTests := true, laidLooks := .later }
def ResolveTellsUptoCardSaid : Prop := Claim7.holds Tryz.pinned (.plain (OpenSpec.upto resolveTellsSpec)) resolveTellsUptoCard

/-- THE SECOND FORM's CARD OF 'knapsacklaw19.AckTells'. -/
def ackTellsUptoCard : Claim7 := { stood := { row := ackTellsUptoRow, standIns := [], harness := (true, "decbe2cef49986c1fb4ff081d469ff5857961533e3f3d6102f4db11d5d3ae5f2"), looks := true }, kinds := [], alts := [], laidByText := true, laidKinds := [.data], laidTests := true, laidLooks := .later }
def AckTellsUptoCardSaid : Prop := Claim7.holds Tryz.pinned (.plain (OpenSpec.upto ackTellsSpec)) ackTellsUptoCard

/-- THE SECOND FORM's CARD OF 'knapsacklaw16.ResolveCompletes'. -/
def resolveCompletesUptoCard : Claim7 := { stood := { row := resolveCompletesUptoRow, standIns := [], harness := (true, "decbe2cef49986c1fb4ff081d469ff5857961533e3f3d6102f4db11d5d3ae5f2"), looks := true }, kinds := [], alts := [], laidByText := true, laidKinds := [.data], laidTests := true, laidLooks := .later }
def ResolveCompletesUptoCardSaid : Prop := Claim7.holds Tryz.pinned (.plain (OpenSpec.upto resolveCompletesSpec)) resolveCompletesUptoCard

/-- THE SECOND FORM's CARD OF 'knapsacklaw16.ResolveIndexes'. -/
def resolveIndexesUptoCard : Claim7 := { stood := { row := resolveIndexesUptoRow, standIns := [], harness := (true, "decbe2cef49986c1fb4ff081d469ff5857961533e3f3d6102f4db11d5d3ae5f2"), looks := true }, kinds := [], alts := [], laidByText := true, laidKinds := [.data], laidTests := true, laidLooks := .later }
def ResolveIndexesUptoCardSaid : Prop := Claim7.holds Tryz.pinned (.plain (OpenSpec.upto resolveIndexesSpec)) resolveIndexesUptoCard
end Rows
end Go.Proofs.YtjmigoikklkfdaaGreatDoor
