/-
  NARROWER THAN 'FOR EVERY INPUT', by the rows' own cells (each row's printed sentence says how): EngineChecks: loops · EngineHolds: loops · GraphHolds: loops · GraphMembers: loops · GraphOrder: loops · GraphMore: loops · GraphDefines: loops · ListsObjects: loops · ListsBudget: loops · ListsLeaves: loops · ListsSubjects: loops · ListsHold: loops.
  DERIVED. THE GIVEN ROWS OF THIS SEAT. 13 by the template 'for every input the law returns true; each argument reads behind the call as it read before'; 0 by the template 'total and deterministic' (their statements: YtadmdlpmikoghaaGreatTotals.lean).
  GIVEN WITH THE SEED: the statements are not yours to turn. If you find one false, say at which input.
  Laid BY PROGRAM, IN A SANDBOX (cutbox-rows.mjs): the forced cells as the released guide's own fill.sh prints them over the translation 092a957a56ada602… (all of the seat's roots in one cut). By AI agents, Wed Nov 11 2026. No macro, syntax, notation, axiom, sorry.
-/
import Derived.Test.YtadmdlpmikoghaaGreatChecked
import GoSem.Claim
import GoSem.ClaimJoined
import GoSem.ClaimMapViews
import Derived.JoinedTies
import Derived.KernelRfl
namespace Go.Proofs.YtadmdlpmikoghaaGreat
/- THE CELL 'sum', in the pinned program and in every row, IS THE sha256 OF THE DUMP (.gsa) THAT YtadmdlpmikoghaaGreatProg.lean LOADS. Nothing in Lean hashes anything: it is a label: what it is worth is what the hold of that sum in a sandbox is worth. -/
noncomputable def Tryz.pinned : Pinned := { name := "ytadmdlpmikoghaagreat", sum := "092a957a56ada602a9436fc0c885b30c2c35d69d646495ba7f2cf9893943150b", checked := Tryz.checked }
namespace Rows
def none {H : Type} : Left H := { results := [], args := [] }

/-- 'conciergelaw15.EngineChecks': WHATEVER THE INPUT: true; the input reads as it did. -/
def engineChecksSpec : ChangeSpec := { name := "engineChecks", fn := fun _ => fun
  | [d1, d2, d3, d4, d5, d6] => { results := [.lit (.bool true)], args := [d1, d2, d3, d4, d5, d6] }
  | _ => none }
def engineChecksRow : OpenClaim := { program := "ytadmdlpmikoghaagreat", sum := "092a957a56ada602a9436fc0c885b30c2c35d69d646495ba7f2cf9893943150b", func := "concierge/conciergelaw15.EngineChecks", spec := "engineChecks", inPlace := ["internal/bytealg.IndexByteString"], unfollowed := true, recurses := true, loops := true, plainKeys := false, apart := false }
def EngineChecksSaid : Prop := engineChecksRow.holds Tryz.pinned (OpenSpec.ofChange engineChecksSpec)

/-- ITS FALSE NEIGHBOUR: 'it returns false'. Refute it at one input. -/
def engineChecksWrong : ChangeSpec := { name := "engineChecks", fn := fun _ => fun
  | [d1, d2, d3, d4, d5, d6] => { results := [.lit (.bool false)], args := [d1, d2, d3, d4, d5, d6] }
  | _ => none }
def EngineChecksWrongFalsely : Prop := engineChecksRow.holds Tryz.pinned (OpenSpec.ofChange engineChecksWrong)

/-- 'conciergelaw15.EngineHolds': WHATEVER THE INPUT: true; the input reads as it did. -/
def engineHoldsSpec : ChangeSpec := { name := "engineHolds", fn := fun _ => fun
  | [d1, d2, d3, d4, d5, d6] => { results := [.lit (.bool true)], args := [d1, d2, d3, d4, d5, d6] }
  | _ => none }
def engineHoldsRow : OpenClaim := { program := "ytadmdlpmikoghaagreat", sum := "092a957a56ada602a9436fc0c885b30c2c35d69d646495ba7f2cf9893943150b", func := "concierge/conciergelaw15.EngineHolds", spec := "engineHolds", inPlace := ["internal/bytealg.IndexByteString"], unfollowed := true, recurses := true, loops := true, plainKeys := false, apart := false }
def EngineHoldsSaid : Prop := engineHoldsRow.holds Tryz.pinned (OpenSpec.ofChange engineHoldsSpec)

/-- ITS FALSE NEIGHBOUR: 'it returns false'. Refute it at one input. -/
def engineHoldsWrong : ChangeSpec := { name := "engineHolds", fn := fun _ => fun
  | [d1, d2, d3, d4, d5, d6] => { results := [.lit (.bool false)], args := [d1, d2, d3, d4, d5, d6] }
  | _ => none }
def EngineHoldsWrongFalsely : Prop := engineHoldsRow.holds Tryz.pinned (OpenSpec.ofChange engineHoldsWrong)

/-- 'conciergelaw14.GraphHolds': WHATEVER THE INPUT: true; the input reads as it did. -/
def graphHoldsSpec : ChangeSpec := { name := "graphHolds", fn := fun _ => fun
  | [d1, d2, d3, d4, d5] => { results := [.lit (.bool true)], args := [d1, d2, d3, d4, d5] }
  | _ => none }
def graphHoldsRow : OpenClaim := { program := "ytadmdlpmikoghaagreat", sum := "092a957a56ada602a9436fc0c885b30c2c35d69d646495ba7f2cf9893943150b", func := "concierge/conciergelaw14.GraphHolds", spec := "graphHolds", inPlace := ["internal/bytealg.IndexByteString", "internal/bytealg.abigen_runtime_cmpstring"], unfollowed := true, recurses := true, loops := true, plainKeys := false, apart := false }
def GraphHoldsSaid : Prop := graphHoldsRow.holds Tryz.pinned (OpenSpec.ofChange graphHoldsSpec)

/-- ITS FALSE NEIGHBOUR: 'it returns false'. Refute it at one input. -/
def graphHoldsWrong : ChangeSpec := { name := "graphHolds", fn := fun _ => fun
  | [d1, d2, d3, d4, d5] => { results := [.lit (.bool false)], args := [d1, d2, d3, d4, d5] }
  | _ => none }
def GraphHoldsWrongFalsely : Prop := graphHoldsRow.holds Tryz.pinned (OpenSpec.ofChange graphHoldsWrong)

/-- 'conciergelaw14.GraphMembers': WHATEVER THE INPUT: true; the input reads as it did. -/
def graphMembersSpec : ChangeSpec := { name := "graphMembers", fn := fun _ => fun
  | [d1, d2, d3, d4] => { results := [.lit (.bool true)], args := [d1, d2, d3, d4] }
  | _ => none }
def graphMembersRow : OpenClaim := { program := "ytadmdlpmikoghaagreat", sum := "092a957a56ada602a9436fc0c885b30c2c35d69d646495ba7f2cf9893943150b", func := "concierge/conciergelaw14.GraphMembers", spec := "graphMembers", inPlace := ["internal/bytealg.IndexByteString", "internal/bytealg.abigen_runtime_cmpstring"], unfollowed := true, recurses := true, loops := true, plainKeys := false, apart := false }
def GraphMembersSaid : Prop := graphMembersRow.holds Tryz.pinned (OpenSpec.ofChange graphMembersSpec)

/-- ITS FALSE NEIGHBOUR: 'it returns false'. Refute it at one input. -/
def graphMembersWrong : ChangeSpec := { name := "graphMembers", fn := fun _ => fun
  | [d1, d2, d3, d4] => { results := [.lit (.bool false)], args := [d1, d2, d3, d4] }
  | _ => none }
def GraphMembersWrongFalsely : Prop := graphMembersRow.holds Tryz.pinned (OpenSpec.ofChange graphMembersWrong)

/-- 'conciergelaw14.GraphOrder': WHATEVER THE INPUT: true; the input reads as it did. -/
def graphOrderSpec : ChangeSpec := { name := "graphOrder", fn := fun _ => fun
  | [d1, d2, d3, d4, d5] => { results := [.lit (.bool true)], args := [d1, d2, d3, d4, d5] }
  | _ => none }
def graphOrderRow : OpenClaim := { program := "ytadmdlpmikoghaagreat", sum := "092a957a56ada602a9436fc0c885b30c2c35d69d646495ba7f2cf9893943150b", func := "concierge/conciergelaw14.GraphOrder", spec := "graphOrder", inPlace := ["internal/bytealg.IndexByteString", "internal/bytealg.abigen_runtime_cmpstring"], unfollowed := true, recurses := true, loops := true, plainKeys := false, apart := false }
def GraphOrderSaid : Prop := graphOrderRow.holds Tryz.pinned (OpenSpec.ofChange graphOrderSpec)

/-- ITS FALSE NEIGHBOUR: 'it returns false'. Refute it at one input. -/
def graphOrderWrong : ChangeSpec := { name := "graphOrder", fn := fun _ => fun
  | [d1, d2, d3, d4, d5] => { results := [.lit (.bool false)], args := [d1, d2, d3, d4, d5] }
  | _ => none }
def GraphOrderWrongFalsely : Prop := graphOrderRow.holds Tryz.pinned (OpenSpec.ofChange graphOrderWrong)

/-- 'conciergelaw14.GraphMore': WHATEVER THE INPUT: true; the input reads as it did. -/
def graphMoreSpec : ChangeSpec := { name := "graphMore", fn := fun _ => fun
  | [d1, d2, d3, d4, d5, d6] => { results := [.lit (.bool true)], args := [d1, d2, d3, d4, d5, d6] }
  | _ => none }
def graphMoreRow : OpenClaim := { program := "ytadmdlpmikoghaagreat", sum := "092a957a56ada602a9436fc0c885b30c2c35d69d646495ba7f2cf9893943150b", func := "concierge/conciergelaw14.GraphMore", spec := "graphMore", inPlace := ["internal/bytealg.IndexByteString", "internal/bytealg.abigen_runtime_cmpstring"], unfollowed := true, recurses := true, loops := true, plainKeys := false, apart := false }
def GraphMoreSaid : Prop := graphMoreRow.holds Tryz.pinned (OpenSpec.ofChange graphMoreSpec)

/-- ITS FALSE NEIGHBOUR: 'it returns false'. Refute it at one input. -/
def graphMoreWrong : ChangeSpec := { name := "graphMore", fn := fun _ => fun
  | [d1, d2, d3, d4, d5, d6] => { results := [.lit (.bool false)], args := [d1, d2, d3, d4, d5, d6] }
  | _ => none }
def GraphMoreWrongFalsely : Prop := graphMoreRow.holds Tryz.pinned (OpenSpec.ofChange graphMoreWrong)

/-- 'conciergelaw14.GraphDefines': WHATEVER THE INPUT: true; the input reads as it did. -/
def graphDefinesSpec : ChangeSpec := { name := "graphDefines", fn := fun _ => fun
  | [d1, d2, d3, d4, d5] => { results := [.lit (.bool true)], args := [d1, d2, d3, d4, d5] }
  | _ => none }
def graphDefinesRow : OpenClaim := { program := "ytadmdlpmikoghaagreat", sum := "092a957a56ada602a9436fc0c885b30c2c35d69d646495ba7f2cf9893943150b", func := "concierge/conciergelaw14.GraphDefines", spec := "graphDefines", inPlace := ["internal/bytealg.IndexByteString", "internal/bytealg.abigen_runtime_cmpstring"], unfollowed := true, recurses := true, loops := true, plainKeys := false, apart := false }
def GraphDefinesSaid : Prop := graphDefinesRow.holds Tryz.pinned (OpenSpec.ofChange graphDefinesSpec)

/-- ITS FALSE NEIGHBOUR: 'it returns false'. Refute it at one input. -/
def graphDefinesWrong : ChangeSpec := { name := "graphDefines", fn := fun _ => fun
  | [d1, d2, d3, d4, d5] => { results := [.lit (.bool false)], args := [d1, d2, d3, d4, d5] }
  | _ => none }
def GraphDefinesWrongFalsely : Prop := graphDefinesRow.holds Tryz.pinned (OpenSpec.ofChange graphDefinesWrong)

/-- 'conciergelaw16.ListsObjects': WHATEVER THE INPUT: true; the input reads as it did. -/
def listsObjectsSpec : ChangeSpec := { name := "listsObjects", fn := fun _ => fun
  | [d1, d2, d3, d4, d5, d6] => { results := [.lit (.bool true)], args := [d1, d2, d3, d4, d5, d6] }
  | _ => none }
def listsObjectsRow : OpenClaim := { program := "ytadmdlpmikoghaagreat", sum := "092a957a56ada602a9436fc0c885b30c2c35d69d646495ba7f2cf9893943150b", func := "concierge/conciergelaw16.ListsObjects", spec := "listsObjects", inPlace := ["internal/bytealg.IndexByteString", "internal/bytealg.abigen_runtime_cmpstring"], unfollowed := true, recurses := true, loops := true, plainKeys := false, apart := false }
def ListsObjectsSaid : Prop := listsObjectsRow.holds Tryz.pinned (OpenSpec.ofChange listsObjectsSpec)

/-- ITS FALSE NEIGHBOUR: 'it returns false'. Refute it at one input. -/
def listsObjectsWrong : ChangeSpec := { name := "listsObjects", fn := fun _ => fun
  | [d1, d2, d3, d4, d5, d6] => { results := [.lit (.bool false)], args := [d1, d2, d3, d4, d5, d6] }
  | _ => none }
def ListsObjectsWrongFalsely : Prop := listsObjectsRow.holds Tryz.pinned (OpenSpec.ofChange listsObjectsWrong)

/-- 'conciergelaw16.ListsThings': WHATEVER THE INPUT: true; the input reads as it did. -/
def listsThingsSpec : ChangeSpec := { name := "listsThings", fn := fun _ => fun
  | [d1, d2] => { results := [.lit (.bool true)], args := [d1, d2] }
  | _ => none }
def listsThingsRow : OpenClaim := { program := "ytadmdlpmikoghaagreat", sum := "092a957a56ada602a9436fc0c885b30c2c35d69d646495ba7f2cf9893943150b", func := "concierge/conciergelaw16.ListsThings", spec := "listsThings", inPlace := ["internal/bytealg.IndexByteString", "internal/bytealg.abigen_runtime_cmpstring"], unfollowed := true, recurses := true, plainKeys := false, apart := false }
def ListsThingsSaid : Prop := listsThingsRow.holds Tryz.pinned (OpenSpec.ofChange listsThingsSpec)

/-- ITS FALSE NEIGHBOUR: 'it returns false'. Refute it at one input. -/
def listsThingsWrong : ChangeSpec := { name := "listsThings", fn := fun _ => fun
  | [d1, d2] => { results := [.lit (.bool false)], args := [d1, d2] }
  | _ => none }
def ListsThingsWrongFalsely : Prop := listsThingsRow.holds Tryz.pinned (OpenSpec.ofChange listsThingsWrong)

/-- 'conciergelaw16.ListsBudget': WHATEVER THE INPUT: true; the input reads as it did. -/
def listsBudgetSpec : ChangeSpec := { name := "listsBudget", fn := fun _ => fun
  | [d1, d2, d3, d4, d5] => { results := [.lit (.bool true)], args := [d1, d2, d3, d4, d5] }
  | _ => none }
def listsBudgetRow : OpenClaim := { program := "ytadmdlpmikoghaagreat", sum := "092a957a56ada602a9436fc0c885b30c2c35d69d646495ba7f2cf9893943150b", func := "concierge/conciergelaw16.ListsBudget", spec := "listsBudget", inPlace := ["internal/bytealg.IndexByteString", "internal/bytealg.abigen_runtime_cmpstring"], unfollowed := true, recurses := true, loops := true, plainKeys := false, apart := false }
def ListsBudgetSaid : Prop := listsBudgetRow.holds Tryz.pinned (OpenSpec.ofChange listsBudgetSpec)

/-- ITS FALSE NEIGHBOUR: 'it returns false'. Refute it at one input. -/
def listsBudgetWrong : ChangeSpec := { name := "listsBudget", fn := fun _ => fun
  | [d1, d2, d3, d4, d5] => { results := [.lit (.bool false)], args := [d1, d2, d3, d4, d5] }
  | _ => none }
def ListsBudgetWrongFalsely : Prop := listsBudgetRow.holds Tryz.pinned (OpenSpec.ofChange listsBudgetWrong)

/-- 'conciergelaw16.ListsLeaves': WHATEVER THE INPUT: true; the input reads as it did. -/
def listsLeavesSpec : ChangeSpec := { name := "listsLeaves", fn := fun _ => fun
  | [d1, d2, d3, d4] => { results := [.lit (.bool true)], args := [d1, d2, d3, d4] }
  | _ => none }
def listsLeavesRow : OpenClaim := { program := "ytadmdlpmikoghaagreat", sum := "092a957a56ada602a9436fc0c885b30c2c35d69d646495ba7f2cf9893943150b", func := "concierge/conciergelaw16.ListsLeaves", spec := "listsLeaves", inPlace := ["internal/bytealg.IndexByteString", "internal/bytealg.abigen_runtime_cmpstring"], unfollowed := true, recurses := true, loops := true, plainKeys := false, apart := false }
def ListsLeavesSaid : Prop := listsLeavesRow.holds Tryz.pinned (OpenSpec.ofChange listsLeavesSpec)

/-- ITS FALSE NEIGHBOUR: 'it returns false'. Refute it at one input. -/
def listsLeavesWrong : ChangeSpec := { name := "listsLeaves", fn := fun _ => fun
  | [d1, d2, d3, d4] => { results := [.lit (.bool false)], args := [d1, d2, d3, d4] }
  | _ => none }
def ListsLeavesWrongFalsely : Prop := listsLeavesRow.holds Tryz.pinned (OpenSpec.ofChange listsLeavesWrong)

/-- 'conciergelaw16.ListsSubjects': WHATEVER THE INPUT: true; the input reads as it did. -/
def listsSubjectsSpec : ChangeSpec := { name := "listsSubjects", fn := fun _ => fun
  | [d1, d2, d3, d4, d5, d6] => { results := [.lit (.bool true)], args := [d1, d2, d3, d4, d5, d6] }
  | _ => none }
def listsSubjectsRow : OpenClaim := { program := "ytadmdlpmikoghaagreat", sum := "092a957a56ada602a9436fc0c885b30c2c35d69d646495ba7f2cf9893943150b", func := "concierge/conciergelaw16.ListsSubjects", spec := "listsSubjects", inPlace := ["internal/bytealg.IndexByteString", "internal/bytealg.abigen_runtime_cmpstring"], unfollowed := true, recurses := true, loops := true, plainKeys := false, apart := false }
def ListsSubjectsSaid : Prop := listsSubjectsRow.holds Tryz.pinned (OpenSpec.ofChange listsSubjectsSpec)

/-- ITS FALSE NEIGHBOUR: 'it returns false'. Refute it at one input. -/
def listsSubjectsWrong : ChangeSpec := { name := "listsSubjects", fn := fun _ => fun
  | [d1, d2, d3, d4, d5, d6] => { results := [.lit (.bool false)], args := [d1, d2, d3, d4, d5, d6] }
  | _ => none }
def ListsSubjectsWrongFalsely : Prop := listsSubjectsRow.holds Tryz.pinned (OpenSpec.ofChange listsSubjectsWrong)

/-- 'conciergelaw16.ListsHold': WHATEVER THE INPUT: true; the input reads as it did. -/
def listsHoldSpec : ChangeSpec := { name := "listsHold", fn := fun _ => fun
  | [d1, d2, d3, d4, d5, d6, d7] => { results := [.lit (.bool true)], args := [d1, d2, d3, d4, d5, d6, d7] }
  | _ => none }
def listsHoldRow : OpenClaim := { program := "ytadmdlpmikoghaagreat", sum := "092a957a56ada602a9436fc0c885b30c2c35d69d646495ba7f2cf9893943150b", func := "concierge/conciergelaw16.ListsHold", spec := "listsHold", inPlace := ["internal/bytealg.IndexByteString", "internal/bytealg.abigen_runtime_cmpstring"], unfollowed := true, recurses := true, loops := true, plainKeys := false, apart := false }
def ListsHoldSaid : Prop := listsHoldRow.holds Tryz.pinned (OpenSpec.ofChange listsHoldSpec)

/-- ITS FALSE NEIGHBOUR: 'it returns false'. Refute it at one input. -/
def listsHoldWrong : ChangeSpec := { name := "listsHold", fn := fun _ => fun
  | [d1, d2, d3, d4, d5, d6, d7] => { results := [.lit (.bool false)], args := [d1, d2, d3, d4, d5, d6, d7] }
  | _ => none }
def ListsHoldWrongFalsely : Prop := listsHoldRow.holds Tryz.pinned (OpenSpec.ofChange listsHoldWrong)

/- THE SECOND FORM. 'bulk': how many values and letters a reading holds, each counted each time it is reached (what is shared counts as often as it is met; a slice's spare places count too). A statement '..UptoSaid' is the law's where the arguments, and the package variables that the reading takes, are together of bulk at most 1048576: NARROWER than '..Said'. Prove '..Said' where nothing that the law and all that it calls make is longer than what came in: it says more and counts as full. Else prove '..UptoSaid'. A law counts once. -/
mutual
def uptoBulk {H : Type} : DataW H → Nat
  | .lit (.string bytes) => bytes.length + 1
  | .lit _ => 1
  | .nil => 1
  | .ptr d => uptoBulk d + 1
  | .slice elems spare => uptoBulkAll elems + uptoBulkAll spare + 1
  | .agg parts => uptoBulkAll parts + 1
  | .iface _ d => uptoBulk d + 1
  | .map entries => uptoBulkEntries entries + 1
  | .held _ => 1
def uptoBulkAll {H : Type} : List (DataW H) → Nat
  | [] => 0
  | d :: r => uptoBulk d + uptoBulkAll r
def uptoBulkEntries {H : Type} : List (Lit × DataW H) → Nat
  | [] => 0
  | x :: r => uptoBulkEntry x + uptoBulkEntries r
def uptoBulkEntry {H : Type} : Lit × DataW H → Nat
  | (.string bytes, d) => bytes.length + uptoBulk d + 1
  | (_, d) => uptoBulk d + 1
 end
def uptoSmall : (H : Type) → List (DataW H) → Bool := fun _ ds => decide (uptoBulkAll ds ≤ 1048576)
def OpenSpec.upto (s : _root_.Go.ChangeSpec) : _root_.Go.OpenSpec := { _root_.Go.OpenSpec.ofChange s with cond := some uptoSmall }

/-- 'conciergelaw15.EngineChecks', WHERE WHAT IT READS IS OF BULK AT MOST 1048576: true; the input reads as it did. -/
def engineChecksUptoRow : OpenClaim := { program := "ytadmdlpmikoghaagreat", sum := "092a957a56ada602a9436fc0c885b30c2c35d69d646495ba7f2cf9893943150b", func := "concierge/conciergelaw15.EngineChecks", spec := "engineChecks", inPlace := ["internal/bytealg.IndexByteString"], unfollowed := true, recurses := true, loops := true, plainKeys := false, apart := false, narrowed := true }
def EngineChecksUptoSaid : Prop := engineChecksUptoRow.holds Tryz.pinned (OpenSpec.upto engineChecksSpec)

/-- 'conciergelaw15.EngineHolds', WHERE WHAT IT READS IS OF BULK AT MOST 1048576: true; the input reads as it did. -/
def engineHoldsUptoRow : OpenClaim := { program := "ytadmdlpmikoghaagreat", sum := "092a957a56ada602a9436fc0c885b30c2c35d69d646495ba7f2cf9893943150b", func := "concierge/conciergelaw15.EngineHolds", spec := "engineHolds", inPlace := ["internal/bytealg.IndexByteString"], unfollowed := true, recurses := true, loops := true, plainKeys := false, apart := false, narrowed := true }
def EngineHoldsUptoSaid : Prop := engineHoldsUptoRow.holds Tryz.pinned (OpenSpec.upto engineHoldsSpec)

/-- 'conciergelaw14.GraphHolds', WHERE WHAT IT READS IS OF BULK AT MOST 1048576: true; the input reads as it did. -/
def graphHoldsUptoRow : OpenClaim := { program := "ytadmdlpmikoghaagreat", sum := "092a957a56ada602a9436fc0c885b30c2c35d69d646495ba7f2cf9893943150b", func := "concierge/conciergelaw14.GraphHolds", spec := "graphHolds", inPlace := ["internal/bytealg.IndexByteString", "internal/bytealg.abigen_runtime_cmpstring"], unfollowed := true, recurses := true, loops := true, plainKeys := false, apart := false, narrowed := true }
def GraphHoldsUptoSaid : Prop := graphHoldsUptoRow.holds Tryz.pinned (OpenSpec.upto graphHoldsSpec)

/-- 'conciergelaw14.GraphMembers', WHERE WHAT IT READS IS OF BULK AT MOST 1048576: true; the input reads as it did. -/
def graphMembersUptoRow : OpenClaim := { program := "ytadmdlpmikoghaagreat", sum := "092a957a56ada602a9436fc0c885b30c2c35d69d646495ba7f2cf9893943150b", func := "concierge/conciergelaw14.GraphMembers", spec := "graphMembers", inPlace := ["internal/bytealg.IndexByteString", "internal/bytealg.abigen_runtime_cmpstring"], unfollowed := true, recurses := true, loops := true, plainKeys := false, apart := false, narrowed := true }
def GraphMembersUptoSaid : Prop := graphMembersUptoRow.holds Tryz.pinned (OpenSpec.upto graphMembersSpec)

/-- 'conciergelaw14.GraphOrder', WHERE WHAT IT READS IS OF BULK AT MOST 1048576: true; the input reads as it did. -/
def graphOrderUptoRow : OpenClaim := { program := "ytadmdlpmikoghaagreat", sum := "092a957a56ada602a9436fc0c885b30c2c35d69d646495ba7f2cf9893943150b", func := "concierge/conciergelaw14.GraphOrder", spec := "graphOrder", inPlace := ["internal/bytealg.IndexByteString", "internal/bytealg.abigen_runtime_cmpstring"], unfollowed := true, recurses := true, loops := true, plainKeys := false, apart := false, narrowed := true }
def GraphOrderUptoSaid : Prop := graphOrderUptoRow.holds Tryz.pinned (OpenSpec.upto graphOrderSpec)

/-- 'conciergelaw14.GraphMore', WHERE WHAT IT READS IS OF BULK AT MOST 1048576: true; the input reads as it did. -/
def graphMoreUptoRow : OpenClaim := { program := "ytadmdlpmikoghaagreat", sum := "092a957a56ada602a9436fc0c885b30c2c35d69d646495ba7f2cf9893943150b", func := "concierge/conciergelaw14.GraphMore", spec := "graphMore", inPlace := ["internal/bytealg.IndexByteString", "internal/bytealg.abigen_runtime_cmpstring"], unfollowed := true, recurses := true, loops := true, plainKeys := false, apart := false, narrowed := true }
def GraphMoreUptoSaid : Prop := graphMoreUptoRow.holds Tryz.pinned (OpenSpec.upto graphMoreSpec)

/-- 'conciergelaw14.GraphDefines', WHERE WHAT IT READS IS OF BULK AT MOST 1048576: true; the input reads as it did. -/
def graphDefinesUptoRow : OpenClaim := { program := "ytadmdlpmikoghaagreat", sum := "092a957a56ada602a9436fc0c885b30c2c35d69d646495ba7f2cf9893943150b", func := "concierge/conciergelaw14.GraphDefines", spec := "graphDefines", inPlace := ["internal/bytealg.IndexByteString", "internal/bytealg.abigen_runtime_cmpstring"], unfollowed := true, recurses := true, loops := true, plainKeys := false, apart := false, narrowed := true }
def GraphDefinesUptoSaid : Prop := graphDefinesUptoRow.holds Tryz.pinned (OpenSpec.upto graphDefinesSpec)

/-- 'conciergelaw16.ListsObjects', WHERE WHAT IT READS IS OF BULK AT MOST 1048576: true; the input reads as it did. -/
def listsObjectsUptoRow : OpenClaim := { program := "ytadmdlpmikoghaagreat", sum := "092a957a56ada602a9436fc0c885b30c2c35d69d646495ba7f2cf9893943150b", func := "concierge/conciergelaw16.ListsObjects", spec := "listsObjects", inPlace := ["internal/bytealg.IndexByteString", "internal/bytealg.abigen_runtime_cmpstring"], unfollowed := true, recurses := true, loops := true, plainKeys := false, apart := false, narrowed := true }
def ListsObjectsUptoSaid : Prop := listsObjectsUptoRow.holds Tryz.pinned (OpenSpec.upto listsObjectsSpec)

/-- 'conciergelaw16.ListsThings', WHERE WHAT IT READS IS OF BULK AT MOST 1048576: true; the input reads as it did. -/
def listsThingsUptoRow : OpenClaim := { program := "ytadmdlpmikoghaagreat", sum := "092a957a56ada602a9436fc0c885b30c2c35d69d646495ba7f2cf9893943150b", func := "concierge/conciergelaw16.ListsThings", spec := "listsThings", inPlace := ["internal/bytealg.IndexByteString", "internal/bytealg.abigen_runtime_cmpstring"], unfollowed := true, recurses := true, plainKeys := false, apart := false, narrowed := true }
def ListsThingsUptoSaid : Prop := listsThingsUptoRow.holds Tryz.pinned (OpenSpec.upto listsThingsSpec)

/-- 'conciergelaw16.ListsBudget', WHERE WHAT IT READS IS OF BULK AT MOST 1048576: true; the input reads as it did. -/
def listsBudgetUptoRow : OpenClaim := { program := "ytadmdlpmikoghaagreat", sum := "092a957a56ada602a9436fc0c885b30c2c35d69d646495ba7f2cf9893943150b", func := "concierge/conciergelaw16.ListsBudget", spec := "listsBudget", inPlace := ["internal/bytealg.IndexByteString", "internal/bytealg.abigen_runtime_cmpstring"], unfollowed := true, recurses := true, loops := true, plainKeys := false, apart := false, narrowed := true }
def ListsBudgetUptoSaid : Prop := listsBudgetUptoRow.holds Tryz.pinned (OpenSpec.upto listsBudgetSpec)

/-- 'conciergelaw16.ListsLeaves', WHERE WHAT IT READS IS OF BULK AT MOST 1048576: true; the input reads as it did. -/
def listsLeavesUptoRow : OpenClaim := { program := "ytadmdlpmikoghaagreat", sum := "092a957a56ada602a9436fc0c885b30c2c35d69d646495ba7f2cf9893943150b", func := "concierge/conciergelaw16.ListsLeaves", spec := "listsLeaves", inPlace := ["internal/bytealg.IndexByteString", "internal/bytealg.abigen_runtime_cmpstring"], unfollowed := true, recurses := true, loops := true, plainKeys := false, apart := false, narrowed := true }
def ListsLeavesUptoSaid : Prop := listsLeavesUptoRow.holds Tryz.pinned (OpenSpec.upto listsLeavesSpec)

/-- 'conciergelaw16.ListsSubjects', WHERE WHAT IT READS IS OF BULK AT MOST 1048576: true; the input reads as it did. -/
def listsSubjectsUptoRow : OpenClaim := { program := "ytadmdlpmikoghaagreat", sum := "092a957a56ada602a9436fc0c885b30c2c35d69d646495ba7f2cf9893943150b", func := "concierge/conciergelaw16.ListsSubjects", spec := "listsSubjects", inPlace := ["internal/bytealg.IndexByteString", "internal/bytealg.abigen_runtime_cmpstring"], unfollowed := true, recurses := true, loops := true, plainKeys := false, apart := false, narrowed := true }
def ListsSubjectsUptoSaid : Prop := listsSubjectsUptoRow.holds Tryz.pinned (OpenSpec.upto listsSubjectsSpec)

/-- 'conciergelaw16.ListsHold', WHERE WHAT IT READS IS OF BULK AT MOST 1048576: true; the input reads as it did. -/
def listsHoldUptoRow : OpenClaim := { program := "ytadmdlpmikoghaagreat", sum := "092a957a56ada602a9436fc0c885b30c2c35d69d646495ba7f2cf9893943150b", func := "concierge/conciergelaw16.ListsHold", spec := "listsHold", inPlace := ["internal/bytealg.IndexByteString", "internal/bytealg.abigen_runtime_cmpstring"], unfollowed := true, recurses := true, loops := true, plainKeys := false, apart := false, narrowed := true }
def ListsHoldUptoSaid : Prop := listsHoldUptoRow.holds Tryz.pinned (OpenSpec.upto listsHoldSpec)

end Rows
end Go.Proofs.YtadmdlpmikoghaaGreat
