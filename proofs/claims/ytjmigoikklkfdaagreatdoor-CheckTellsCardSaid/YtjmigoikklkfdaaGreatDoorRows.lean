/-
  NARROWER THAN 'FOR EVERY INPUT', by the rows' own cells (each row's printed sentence says how): CheckTells: laid · CheckMore: laid · GraphReaches: laid · GraphWalks: laid · GraphMore: laid · ResolveTells: laid · AckTells: laid · ResolveCompletes: laid · ResolveIndexes: laid.
  DERIVED. THE GIVEN ROWS OF THIS SEAT. 9 by the template 'for every input the law returns true; each argument reads behind the call as it read before'; 0 by the template 'total and deterministic' (their statements: YtjmigoikklkfdaaGreatDoorTotals.lean).
  GIVEN WITH THE SEED: the statements are not yours to turn. If you find one false, say at which input.
  Laid BY PROGRAM, IN A SANDBOX (cutbox-rows.mjs): the forced cells as the released guide's own fill.sh prints them over the translation 426d2bb3c62936ef… (all of the seat's roots in one cut). By AI agents, Wed Nov 11 2026. No macro, syntax, notation, axiom, sorry.
-/
import Derived.Test.YtjmigoikklkfdaaGreatDoorChecked
import GoSem.Claim
import GoSem.ClaimJoined
import GoSem.ClaimMapViews
import Derived.JoinedTies
import Derived.KernelRfl
namespace Go.Proofs.YtjmigoikklkfdaaGreatDoor
/- THE CELL 'sum', in the pinned program and in every row, IS THE sha256 OF THE DUMP (.gsa) THAT YtjmigoikklkfdaaGreatDoorProg.lean LOADS. Nothing in Lean hashes anything: it is a label: what it is worth is what the hold of that sum in a sandbox is worth. -/
noncomputable def Tryz.pinned : Pinned := { name := "ytjmigoikklkfdaagreatdoor", sum := "426d2bb3c62936ef49c8c5a800831b8381caade739c32b45457b99c4999704dc", checked := Tryz.checked }
namespace Rows
def none {H : Type} : Left H := { results := [], args := [] }

/- WHAT THE LISTED PACKAGE-LEVEL VARIABLES READ AS WHEN THE CALL BEGINS. Each datum BY PROGRAM (the guide's laid-datum.mjs) off the statement by which the dump's own 'gosem.cut.vars' lays the variable. In a bare row this is a premise. The card (YtjmigoikklkfdaaGreatDoorCards.lean) ties it to the program's text. -/
def laid_knapsack_sha256_constants {H : Type} : DataW H := .agg [.lit (.int .u32 1116352408), .lit (.int .u32 1899447441), .lit (.int .u32 3049323471), .lit (.int .u32 3921009573), .lit (.int .u32 961987163), .lit (.int .u32 1508970993), .lit (.int .u32 2453635748), .lit (.int .u32 2870763221), .lit (.int .u32 3624381080), .lit (.int .u32 310598401), .lit (.int .u32 607225278), .lit (.int .u32 1426881987), .lit (.int .u32 1925078388), .lit (.int .u32 2162078206), .lit (.int .u32 2614888103), .lit (.int .u32 3248222580), .lit (.int .u32 3835390401), .lit (.int .u32 4022224774), .lit (.int .u32 264347078), .lit (.int .u32 604807628), .lit (.int .u32 770255983), .lit (.int .u32 1249150122), .lit (.int .u32 1555081692), .lit (.int .u32 1996064986), .lit (.int .u32 2554220882), .lit (.int .u32 2821834349), .lit (.int .u32 2952996808), .lit (.int .u32 3210313671), .lit (.int .u32 3336571891), .lit (.int .u32 3584528711), .lit (.int .u32 113926993), .lit (.int .u32 338241895), .lit (.int .u32 666307205), .lit (.int .u32 773529912), .lit (.int .u32 1294757372), .lit (.int .u32 1396182291), .lit (.int .u32 1695183700), .lit (.int .u32 1986661051), .lit (.int .u32 2177026350), .lit (.int .u32 2456956037), .lit (.int .u32 2730485921), .lit (.int .u32 2820302411), .lit (.int .u32 3259730800), .lit (.int .u32 3345764771), .lit (.int .u32 3516065817), .lit (.int .u32 3600352804), .lit (.int .u32 4094571909), .lit (.int .u32 275423344), .lit (.int .u32 430227734), .lit (.int .u32 506948616), .lit (.int .u32 659060556), .lit (.int .u32 883997877), .lit (.int .u32 958139571), .lit (.int .u32 1322822218), .lit (.int .u32 1537002063), .lit (.int .u32 1747873779), .lit (.int .u32 1955562222), .lit (.int .u32 2024104815), .lit (.int .u32 2227730452), .lit (.int .u32 2361852424), .lit (.int .u32 2428436474), .lit (.int .u32 2756734187), .lit (.int .u32 3204031479), .lit (.int .u32 3329325298)]

/-- 'knapsacklaw14.CheckTells': WHATEVER THE INPUT: true; the input reads as it did. -/
def checkTellsSpec : ChangeSpec := { name := "checkTells", fn := fun _ => fun
  | [d1, d2, d3] => { results := [.lit (.bool true)], args := [d1, d2, d3] }
  | _ => none }
def checkTellsRow : OpenClaim := { program := "ytjmigoikklkfdaagreatdoor", sum := "426d2bb3c62936ef49c8c5a800831b8381caade739c32b45457b99c4999704dc", func := "knapsack/knapsacklaw14.CheckTells", spec := "checkTells", inPlace := ["internal/bytealg.IndexByteString", "internal/abi.NoEscape", "internal/bytealg.MakeNoZero", "slices.overlaps[knapsack/store.item]", "slices.overlaps[knapsack/api.Id]"], unfollowed := true, recurses := true, named := ["knapsack/sha256.constants"], apart := false, laid := [("knapsack/sha256.constants", laid_knapsack_sha256_constants)] }
def CheckTellsSaid : Prop := checkTellsRow.holds Tryz.pinned (OpenSpec.ofChange checkTellsSpec)

/-- ITS FALSE NEIGHBOUR: 'it returns false'. Refute it at one input. -/
def checkTellsWrong : ChangeSpec := { name := "checkTells", fn := fun _ => fun
  | [d1, d2, d3] => { results := [.lit (.bool false)], args := [d1, d2, d3] }
  | _ => none }
def CheckTellsWrongFalsely : Prop := checkTellsRow.holds Tryz.pinned (OpenSpec.ofChange checkTellsWrong)

/-- 'knapsacklaw14.CheckMore': WHATEVER THE INPUT: true; the input reads as it did. -/
def checkMoreSpec : ChangeSpec := { name := "checkMore", fn := fun _ => fun
  | [d1, d2] => { results := [.lit (.bool true)], args := [d1, d2] }
  | _ => none }
def checkMoreRow : OpenClaim := { program := "ytjmigoikklkfdaagreatdoor", sum := "426d2bb3c62936ef49c8c5a800831b8381caade739c32b45457b99c4999704dc", func := "knapsack/knapsacklaw14.CheckMore", spec := "checkMore", inPlace := ["internal/bytealg.IndexByteString", "internal/abi.NoEscape", "internal/bytealg.MakeNoZero", "slices.overlaps[knapsack/store.item]", "slices.overlaps[knapsack/api.Id]"], unfollowed := true, recurses := true, named := ["knapsack/sha256.constants"], apart := false, laid := [("knapsack/sha256.constants", laid_knapsack_sha256_constants)] }
def CheckMoreSaid : Prop := checkMoreRow.holds Tryz.pinned (OpenSpec.ofChange checkMoreSpec)

/-- ITS FALSE NEIGHBOUR: 'it returns false'. Refute it at one input. -/
def checkMoreWrong : ChangeSpec := { name := "checkMore", fn := fun _ => fun
  | [d1, d2] => { results := [.lit (.bool false)], args := [d1, d2] }
  | _ => none }
def CheckMoreWrongFalsely : Prop := checkMoreRow.holds Tryz.pinned (OpenSpec.ofChange checkMoreWrong)

/-- 'knapsacklaw12.GraphReaches': WHATEVER THE INPUT: true; the input reads as it did. -/
def graphReachesSpec : ChangeSpec := { name := "graphReaches", fn := fun _ => fun
  | [d] => { results := [.lit (.bool true)], args := [d] }
  | _ => none }
def graphReachesRow : OpenClaim := { program := "ytjmigoikklkfdaagreatdoor", sum := "426d2bb3c62936ef49c8c5a800831b8381caade739c32b45457b99c4999704dc", func := "knapsack/knapsacklaw12.GraphReaches", spec := "graphReaches", inPlace := ["internal/bytealg.IndexByteString", "internal/abi.NoEscape", "internal/bytealg.MakeNoZero", "slices.overlaps[knapsack/store.item]", "slices.overlaps[knapsack/api.Id]"], unfollowed := true, recurses := true, named := ["knapsack/sha256.constants"], apart := false, laid := [("knapsack/sha256.constants", laid_knapsack_sha256_constants)] }
def GraphReachesSaid : Prop := graphReachesRow.holds Tryz.pinned (OpenSpec.ofChange graphReachesSpec)

/-- ITS FALSE NEIGHBOUR: 'it returns false'. Refute it at one input. -/
def graphReachesWrong : ChangeSpec := { name := "graphReaches", fn := fun _ => fun
  | [d] => { results := [.lit (.bool false)], args := [d] }
  | _ => none }
def GraphReachesWrongFalsely : Prop := graphReachesRow.holds Tryz.pinned (OpenSpec.ofChange graphReachesWrong)

/-- 'knapsacklaw12.GraphWalks': WHATEVER THE INPUT: true; the input reads as it did. -/
def graphWalksSpec : ChangeSpec := { name := "graphWalks", fn := fun _ => fun
  | [d] => { results := [.lit (.bool true)], args := [d] }
  | _ => none }
def graphWalksRow : OpenClaim := { program := "ytjmigoikklkfdaagreatdoor", sum := "426d2bb3c62936ef49c8c5a800831b8381caade739c32b45457b99c4999704dc", func := "knapsack/knapsacklaw12.GraphWalks", spec := "graphWalks", inPlace := ["internal/bytealg.IndexByteString", "internal/abi.NoEscape", "internal/bytealg.MakeNoZero", "slices.overlaps[knapsack/store.item]", "slices.overlaps[knapsack/api.Id]"], unfollowed := true, recurses := true, named := ["knapsack/sha256.constants"], apart := false, laid := [("knapsack/sha256.constants", laid_knapsack_sha256_constants)] }
def GraphWalksSaid : Prop := graphWalksRow.holds Tryz.pinned (OpenSpec.ofChange graphWalksSpec)

/-- ITS FALSE NEIGHBOUR: 'it returns false'. Refute it at one input. -/
def graphWalksWrong : ChangeSpec := { name := "graphWalks", fn := fun _ => fun
  | [d] => { results := [.lit (.bool false)], args := [d] }
  | _ => none }
def GraphWalksWrongFalsely : Prop := graphWalksRow.holds Tryz.pinned (OpenSpec.ofChange graphWalksWrong)

/-- 'knapsacklaw12.GraphMore': WHATEVER THE INPUT: true; the input reads as it did. -/
def graphMoreSpec : ChangeSpec := { name := "graphMore", fn := fun _ => fun
  | [d1, d2] => { results := [.lit (.bool true)], args := [d1, d2] }
  | _ => none }
def graphMoreRow : OpenClaim := { program := "ytjmigoikklkfdaagreatdoor", sum := "426d2bb3c62936ef49c8c5a800831b8381caade739c32b45457b99c4999704dc", func := "knapsack/knapsacklaw12.GraphMore", spec := "graphMore", inPlace := ["internal/bytealg.IndexByteString", "internal/abi.NoEscape", "internal/bytealg.MakeNoZero", "slices.overlaps[knapsack/store.item]", "slices.overlaps[knapsack/api.Id]"], unfollowed := true, recurses := true, named := ["knapsack/sha256.constants"], apart := false, laid := [("knapsack/sha256.constants", laid_knapsack_sha256_constants)] }
def GraphMoreSaid : Prop := graphMoreRow.holds Tryz.pinned (OpenSpec.ofChange graphMoreSpec)

/-- ITS FALSE NEIGHBOUR: 'it returns false'. Refute it at one input. -/
def graphMoreWrong : ChangeSpec := { name := "graphMore", fn := fun _ => fun
  | [d1, d2] => { results := [.lit (.bool false)], args := [d1, d2] }
  | _ => none }
def GraphMoreWrongFalsely : Prop := graphMoreRow.holds Tryz.pinned (OpenSpec.ofChange graphMoreWrong)

/-- 'knapsacklaw16.ResolveTells': WHATEVER THE INPUT: true; the input reads as it did. -/
def resolveTellsSpec : ChangeSpec := { name := "resolveTells", fn := fun _ => fun
  | [d1, d2] => { results := [.lit (.bool true)], args := [d1, d2] }
  | _ => none }
def resolveTellsRow : OpenClaim := { program := "ytjmigoikklkfdaagreatdoor", sum := "426d2bb3c62936ef49c8c5a800831b8381caade739c32b45457b99c4999704dc", func := "knapsack/knapsacklaw16.ResolveTells", spec := "resolveTells", inPlace := ["internal/bytealg.IndexByteString", "internal/abi.NoEscape", "internal/bytealg.MakeNoZero", "slices.overlaps[knapsack/store.item]"], unfollowed := true, recurses := true, named := ["knapsack/sha256.constants"], apart := false, laid := [("knapsack/sha256.constants", laid_knapsack_sha256_constants)] }
def ResolveTellsSaid : Prop := resolveTellsRow.holds Tryz.pinned (OpenSpec.ofChange resolveTellsSpec)

/-- ITS FALSE NEIGHBOUR: 'it returns false'. Refute it at one input. -/
def resolveTellsWrong : ChangeSpec := { name := "resolveTells", fn := fun _ => fun
  | [d1, d2] => { results := [.lit (.bool false)], args := [d1, d2] }
  | _ => none }
def ResolveTellsWrongFalsely : Prop := resolveTellsRow.holds Tryz.pinned (OpenSpec.ofChange resolveTellsWrong)

/-- 'knapsacklaw19.AckTells': WHATEVER THE INPUT: true; the input reads as it did. -/
def ackTellsSpec : ChangeSpec := { name := "ackTells", fn := fun _ => fun
  | [d1, d2, d3] => { results := [.lit (.bool true)], args := [d1, d2, d3] }
  | _ => none }
def ackTellsRow : OpenClaim := { program := "ytjmigoikklkfdaagreatdoor", sum := "426d2bb3c62936ef49c8c5a800831b8381caade739c32b45457b99c4999704dc", func := "knapsack/knapsacklaw19.AckTells", spec := "ackTells", inPlace := ["internal/bytealg.IndexByteString", "slices.overlaps[knapsack/api.Id]", "internal/abi.NoEscape", "internal/bytealg.MakeNoZero", "slices.overlaps[knapsack/store.item]"], unfollowed := true, recurses := true, named := ["knapsack/sha256.constants"], apart := false, laid := [("knapsack/sha256.constants", laid_knapsack_sha256_constants)] }
def AckTellsSaid : Prop := ackTellsRow.holds Tryz.pinned (OpenSpec.ofChange ackTellsSpec)

/-- ITS FALSE NEIGHBOUR: 'it returns false'. Refute it at one input. -/
def ackTellsWrong : ChangeSpec := { name := "ackTells", fn := fun _ => fun
  | [d1, d2, d3] => { results := [.lit (.bool false)], args := [d1, d2, d3] }
  | _ => none }
def AckTellsWrongFalsely : Prop := ackTellsRow.holds Tryz.pinned (OpenSpec.ofChange ackTellsWrong)

/-- 'knapsacklaw16.ResolveCompletes': WHATEVER THE INPUT: true; the input reads as it did. -/
def resolveCompletesSpec : ChangeSpec := { name := "resolveCompletes", fn := fun _ => fun
  | [d] => { results := [.lit (.bool true)], args := [d] }
  | _ => none }
def resolveCompletesRow : OpenClaim := { program := "ytjmigoikklkfdaagreatdoor", sum := "426d2bb3c62936ef49c8c5a800831b8381caade739c32b45457b99c4999704dc", func := "knapsack/knapsacklaw16.ResolveCompletes", spec := "resolveCompletes", inPlace := ["internal/bytealg.IndexByteString", "internal/abi.NoEscape", "internal/bytealg.MakeNoZero", "slices.overlaps[knapsack/store.item]"], unfollowed := true, recurses := true, named := ["knapsack/sha256.constants"], apart := false, laid := [("knapsack/sha256.constants", laid_knapsack_sha256_constants)] }
def ResolveCompletesSaid : Prop := resolveCompletesRow.holds Tryz.pinned (OpenSpec.ofChange resolveCompletesSpec)

/-- ITS FALSE NEIGHBOUR: 'it returns false'. Refute it at one input. -/
def resolveCompletesWrong : ChangeSpec := { name := "resolveCompletes", fn := fun _ => fun
  | [d] => { results := [.lit (.bool false)], args := [d] }
  | _ => none }
def ResolveCompletesWrongFalsely : Prop := resolveCompletesRow.holds Tryz.pinned (OpenSpec.ofChange resolveCompletesWrong)

/-- 'knapsacklaw16.ResolveIndexes': WHATEVER THE INPUT: true; the input reads as it did. -/
def resolveIndexesSpec : ChangeSpec := { name := "resolveIndexes", fn := fun _ => fun
  | [d1, d2] => { results := [.lit (.bool true)], args := [d1, d2] }
  | _ => none }
def resolveIndexesRow : OpenClaim := { program := "ytjmigoikklkfdaagreatdoor", sum := "426d2bb3c62936ef49c8c5a800831b8381caade739c32b45457b99c4999704dc", func := "knapsack/knapsacklaw16.ResolveIndexes", spec := "resolveIndexes", inPlace := ["internal/bytealg.IndexByteString", "internal/abi.NoEscape", "internal/bytealg.MakeNoZero", "slices.overlaps[knapsack/store.item]", "slices.overlaps[knapsack/resolve.Entry]"], unfollowed := true, recurses := true, named := ["knapsack/sha256.constants"], apart := false, laid := [("knapsack/sha256.constants", laid_knapsack_sha256_constants)] }
def ResolveIndexesSaid : Prop := resolveIndexesRow.holds Tryz.pinned (OpenSpec.ofChange resolveIndexesSpec)

/-- ITS FALSE NEIGHBOUR: 'it returns false'. Refute it at one input. -/
def resolveIndexesWrong : ChangeSpec := { name := "resolveIndexes", fn := fun _ => fun
  | [d1, d2] => { results := [.lit (.bool false)], args := [d1, d2] }
  | _ => none }
def ResolveIndexesWrongFalsely : Prop := resolveIndexesRow.holds Tryz.pinned (OpenSpec.ofChange resolveIndexesWrong)

/- THE SECOND FORM. 'bulk': how many values and letters a reading holds, each counted each time it is reached (what is shared counts as often as it is met; a slice's spare places count too). A statement '..UptoSaid' is the law's where the arguments, and the package variables that the reading takes, are together of bulk at most 1048576: NARROWER than '..Said'. Prove '..Said' where nothing that the law and all that it calls make is longer than what came in: it says more and counts as full. Else prove '..UptoSaid'. A law counts once. -/
mutual
def uptoBulk {H : Type} : DataW H → Nat
  | .lit (.string bytes) => bytes.length + 1
  | .lit _ => 1
  | .nil => 1
  | .ptr d => uptoBulk d + 1
  | .slice elems spare => uptoBulkAll elems + uptoBulkAll spare + 1
  | .agg parts => uptoBulkAll parts + 1
  | .iface _ d => uptoBulk d + 1
  | .map entries => uptoBulkEntries entries + 1
  | .held _ => 1
def uptoBulkAll {H : Type} : List (DataW H) → Nat
  | [] => 0
  | d :: r => uptoBulk d + uptoBulkAll r
def uptoBulkEntries {H : Type} : List (Lit × DataW H) → Nat
  | [] => 0
  | x :: r => uptoBulkEntry x + uptoBulkEntries r
def uptoBulkEntry {H : Type} : Lit × DataW H → Nat
  | (.string bytes, d) => bytes.length + uptoBulk d + 1
  | (_, d) => uptoBulk d + 1
 end
def uptoSmall : (H : Type) → List (DataW H) → Bool := fun _ ds => decide (uptoBulkAll ds ≤ 1048576)
def OpenSpec.upto (s : _root_.Go.ChangeSpec) : _root_.Go.OpenSpec := { _root_.Go.OpenSpec.ofChange s with cond := some uptoSmall }

/-- 'knapsacklaw14.CheckTells', WHERE WHAT IT READS IS OF BULK AT MOST 1048576: true; the input reads as it did. -/
def checkTellsUptoRow : OpenClaim := { program := "ytjmigoikklkfdaagreatdoor", sum := "426d2bb3c62936ef49c8c5a800831b8381caade739c32b45457b99c4999704dc", func := "knapsack/knapsacklaw14.CheckTells", spec := "checkTells", inPlace := ["internal/bytealg.IndexByteString", "internal/abi.NoEscape", "internal/bytealg.MakeNoZero", "slices.overlaps[knapsack/store.item]", "slices.overlaps[knapsack/api.Id]"], unfollowed := true, recurses := true, named := ["knapsack/sha256.constants"], apart := false, laid := [("knapsack/sha256.constants", laid_knapsack_sha256_constants)], narrowed := true }
def CheckTellsUptoSaid : Prop := checkTellsUptoRow.holds Tryz.pinned (OpenSpec.upto checkTellsSpec)

/-- 'knapsacklaw14.CheckMore', WHERE WHAT IT READS IS OF BULK AT MOST 1048576: true; the input reads as it did. -/
def checkMoreUptoRow : OpenClaim := { program := "ytjmigoikklkfdaagreatdoor", sum := "426d2bb3c62936ef49c8c5a800831b8381caade739c32b45457b99c4999704dc", func := "knapsack/knapsacklaw14.CheckMore", spec := "checkMore", inPlace := ["internal/bytealg.IndexByteString", "internal/abi.NoEscape", "internal/bytealg.MakeNoZero", "slices.overlaps[knapsack/store.item]", "slices.overlaps[knapsack/api.Id]"], unfollowed := true, recurses := true, named := ["knapsack/sha256.constants"], apart := false, laid := [("knapsack/sha256.constants", laid_knapsack_sha256_constants)], narrowed := true }
def CheckMoreUptoSaid : Prop := checkMoreUptoRow.holds Tryz.pinned (OpenSpec.upto checkMoreSpec)

/-- 'knapsacklaw12.GraphReaches', WHERE WHAT IT READS IS OF BULK AT MOST 1048576: true; the input reads as it did. -/
def graphReachesUptoRow : OpenClaim := { program := "ytjmigoikklkfdaagreatdoor", sum := "426d2bb3c62936ef49c8c5a800831b8381caade739c32b45457b99c4999704dc", func := "knapsack/knapsacklaw12.GraphReaches", spec := "graphReaches", inPlace := ["internal/bytealg.IndexByteString", "internal/abi.NoEscape", "internal/bytealg.MakeNoZero", "slices.overlaps[knapsack/store.item]", "slices.overlaps[knapsack/api.Id]"], unfollowed := true, recurses := true, named := ["knapsack/sha256.constants"], apart := false, laid := [("knapsack/sha256.constants", laid_knapsack_sha256_constants)], narrowed := true }
def GraphReachesUptoSaid : Prop := graphReachesUptoRow.holds Tryz.pinned (OpenSpec.upto graphReachesSpec)

/-- 'knapsacklaw12.GraphWalks', WHERE WHAT IT READS IS OF BULK AT MOST 1048576: true; the input reads as it did. -/
def graphWalksUptoRow : OpenClaim := { program := "ytjmigoikklkfdaagreatdoor", sum := "426d2bb3c62936ef49c8c5a800831b8381caade739c32b45457b99c4999704dc", func := "knapsack/knapsacklaw12.GraphWalks", spec := "graphWalks", inPlace := ["internal/bytealg.IndexByteString", "internal/abi.NoEscape", "internal/bytealg.MakeNoZero", "slices.overlaps[knapsack/store.item]", "slices.overlaps[knapsack/api.Id]"], unfollowed := true, recurses := true, named := ["knapsack/sha256.constants"], apart := false, laid := [("knapsack/sha256.constants", laid_knapsack_sha256_constants)], narrowed := true }
def GraphWalksUptoSaid : Prop := graphWalksUptoRow.holds Tryz.pinned (OpenSpec.upto graphWalksSpec)

/-- 'knapsacklaw12.GraphMore', WHERE WHAT IT READS IS OF BULK AT MOST 1048576: true; the input reads as it did. -/
def graphMoreUptoRow : OpenClaim := { program := "ytjmigoikklkfdaagreatdoor", sum := "426d2bb3c62936ef49c8c5a800831b8381caade739c32b45457b99c4999704dc", func := "knapsack/knapsacklaw12.GraphMore", spec := "graphMore", inPlace := ["internal/bytealg.IndexByteString", "internal/abi.NoEscape", "internal/bytealg.MakeNoZero", "slices.overlaps[knapsack/store.item]", "slices.overlaps[knapsack/api.Id]"], unfollowed := true, recurses := true, named := ["knapsack/sha256.constants"], apart := false, laid := [("knapsack/sha256.constants", laid_knapsack_sha256_constants)], narrowed := true }
def GraphMoreUptoSaid : Prop := graphMoreUptoRow.holds Tryz.pinned (OpenSpec.upto graphMoreSpec)

/-- 'knapsacklaw16.ResolveTells', WHERE WHAT IT READS IS OF BULK AT MOST 1048576: true; the input reads as it did. -/
def resolveTellsUptoRow : OpenClaim := { program := "ytjmigoikklkfdaagreatdoor", sum := "426d2bb3c62936ef49c8c5a800831b8381caade739c32b45457b99c4999704dc", func := "knapsack/knapsacklaw16.ResolveTells", spec := "resolveTells", inPlace := ["internal/bytealg.IndexByteString", "internal/abi.NoEscape", "internal/bytealg.MakeNoZero", "slices.overlaps[knapsack/store.item]"], unfollowed := true, recurses := true, named := ["knapsack/sha256.constants"], apart := false, laid := [("knapsack/sha256.constants", laid_knapsack_sha256_constants)], narrowed := true }
def ResolveTellsUptoSaid : Prop := resolveTellsUptoRow.holds Tryz.pinned (OpenSpec.upto resolveTellsSpec)

/-- 'knapsacklaw19.AckTells', WHERE WHAT IT READS IS OF BULK AT MOST 1048576: true; the input reads as it did. -/
def ackTellsUptoRow : OpenClaim := { program := "ytjmigoikklkfdaagreatdoor", sum := "426d2bb3c62936ef49c8c5a800831b8381caade739c32b45457b99c4999704dc", func := "knapsack/knapsacklaw19.AckTells", spec := "ackTells", inPlace := ["internal/bytealg.IndexByteString", "slices.overlaps[knapsack/api.Id]", "internal/abi.NoEscape", "internal/bytealg.MakeNoZero", "slices.overlaps[knapsack/store.item]"], unfollowed := true, recurses := true, named := ["knapsack/sha256.constants"], apart := false, laid := [("knapsack/sha256.constants", laid_knapsack_sha256_constants)], narrowed := true }
def AckTellsUptoSaid : Prop := ackTellsUptoRow.holds Tryz.pinned (OpenSpec.upto ackTellsSpec)

/-- 'knapsacklaw16.ResolveCompletes', WHERE WHAT IT READS IS OF BULK AT MOST 1048576: true; the input reads as it did. -/
def resolveCompletesUptoRow : OpenClaim := { program := "ytjmigoikklkfdaagreatdoor", sum := "426d2bb3c62936ef49c8c5a800831b8381caade739c32b45457b99c4999704dc", func := "knapsack/knapsacklaw16.ResolveCompletes", spec := "resolveCompletes", inPlace := ["internal/bytealg.IndexByteString", "internal/abi.NoEscape", "internal/bytealg.MakeNoZero", "slices.overlaps[knapsack/store.item]"], unfollowed := true, recurses := true, named := ["knapsack/sha256.constants"], apart := false, laid := [("knapsack/sha256.constants", laid_knapsack_sha256_constants)], narrowed := true }
def ResolveCompletesUptoSaid : Prop := resolveCompletesUptoRow.holds Tryz.pinned (OpenSpec.upto resolveCompletesSpec)

/-- 'knapsacklaw16.ResolveIndexes', WHERE WHAT IT READS IS OF BULK AT MOST 1048576: true; the input reads as it did. -/
def resolveIndexesUptoRow : OpenClaim := { program := "ytjmigoikklkfdaagreatdoor", sum := "426d2bb3c62936ef49c8c5a800831b8381caade739c32b45457b99c4999704dc", func := "knapsack/knapsacklaw16.ResolveIndexes", spec := "resolveIndexes", inPlace := ["internal/bytealg.IndexByteString", "internal/abi.NoEscape", "internal/bytealg.MakeNoZero", "slices.overlaps[knapsack/store.item]", "slices.overlaps[knapsack/resolve.Entry]"], unfollowed := true, recurses := true, named := ["knapsack/sha256.constants"], apart := false, laid := [("knapsack/sha256.constants", laid_knapsack_sha256_constants)], narrowed := true }
def ResolveIndexesUptoSaid : Prop := resolveIndexesUptoRow.holds Tryz.pinned (OpenSpec.upto resolveIndexesSpec)

end Rows
end Go.Proofs.YtjmigoikklkfdaaGreatDoor
