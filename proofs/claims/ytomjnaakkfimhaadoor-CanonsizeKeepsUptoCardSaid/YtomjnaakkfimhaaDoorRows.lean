/-
  NARROWER THAN 'FOR EVERY INPUT', by the rows' own cells (each row's printed sentence says how): CanonsizeIsAtMostCost: laid · CanonsizeKeeps: loops, laid · CanonwriteMatchesReference: loops, laid · CanonwriteIsInjective: loops, laid · CanonwriteNests: loops, laid · CanonwriteKeeps: loops, laid · WorkMatchesReference: laid · WorkBounded: laid · WorkStops: laid · WorkAgrees: laid · WorkKeeps: laid · DenoteIgnoresUnreachableWords: laid · DenoteKeepsMessage: laid.
  DERIVED. THE GIVEN ROWS OF THIS SEAT. 13 by the template 'for every input the law returns true; each argument reads behind the call as it read before'; 0 by the template 'total and deterministic' (their statements: YtomjnaakkfimhaaDoorTotals.lean).
  GIVEN WITH THE SEED: the statements are not yours to turn. If you find one false, say at which input.
  Laid BY PROGRAM, IN A SANDBOX (cutbox-rows.mjs): the forced cells as the released guide's own fill.sh prints them over the translation 629ddc5a3faee76a… (all of the seat's roots in one cut). By AI agents, Wed Nov 11 2026. No macro, syntax, notation, axiom, sorry.
-/
import Derived.Test.YtomjnaakkfimhaaDoorChecked
import GoSem.Claim
import GoSem.ClaimJoined
import GoSem.ClaimMapViews
import Derived.JoinedTies
import Derived.KernelRfl
namespace Go.Proofs.YtomjnaakkfimhaaDoor
/- THE CELL 'sum', in the pinned program and in every row, IS THE sha256 OF THE DUMP (.gsa) THAT YtomjnaakkfimhaaDoorProg.lean LOADS. Nothing in Lean hashes anything: it is a label: what it is worth is what the hold of that sum in a sandbox is worth. -/
noncomputable def Tryd.pinned : Pinned := { name := "ytomjnaakkfimhaadoor", sum := "629ddc5a3faee76ad00f48ff6780087d589201635237468e79ac4c65f14ceaeb", checked := Tryd.checked }
namespace Rows
def none {H : Type} : Left H := { results := [], args := [] }

/- WHAT THE LISTED PACKAGE-LEVEL VARIABLES READ AS WHEN THE CALL BEGINS. Each datum BY PROGRAM (the guide's laid-datum.mjs) off the statement by which the dump's own 'gosem.cut.vars' lays the variable. In a bare row this is a premise. The card (YtomjnaakkfimhaaDoorCards.lean) ties it to the program's text. -/
def laid_capnp_listsize_bits {H : Type} : DataW H := .agg [.lit (.int .i64 0), .lit (.int .i64 1), .lit (.int .i64 8), .lit (.int .i64 16), .lit (.int .i64 32), .lit (.int .i64 64), .lit (.int .i64 64), .lit (.int .i64 0)]
def laid_capnp_pointer_decoders {H : Type} : DataW H := .iface "func table" (.map [(.int .i64 0, .iface "func" (.lit (.string [99, 97, 112, 110, 112, 47, 112, 111, 105, 110, 116, 101, 114, 46, 100, 101, 99, 111, 100, 101, 114, 115, 36, 49]))), (.int .i64 1, .iface "func" (.lit (.string [99, 97, 112, 110, 112, 47, 112, 111, 105, 110, 116, 101, 114, 46, 100, 101, 99, 111, 100, 101, 114, 115, 36, 50]))), (.int .i64 2, .iface "func" (.lit (.string [99, 97, 112, 110, 112, 47, 112, 111, 105, 110, 116, 101, 114, 46, 100, 101, 99, 111, 100, 101, 114, 115, 36, 51]))), (.int .i64 3, .iface "func" (.lit (.string [99, 97, 112, 110, 112, 47, 112, 111, 105, 110, 116, 101, 114, 46, 100, 101, 99, 111, 100, 101, 114, 115, 36, 52])))])

/-- 'capnplaw13.CanonsizeIsAtMostCost': WHATEVER THE INPUT: true; the input reads as it did. -/
def canonsizeIsAtMostCostSpec : ChangeSpec := { name := "canonsizeIsAtMostCost", fn := fun _ => fun
  | [d1, d2] => { results := [.lit (.bool true)], args := [d1, d2] }
  | _ => none }
def canonsizeIsAtMostCostRow : OpenClaim := { program := "ytomjnaakkfimhaadoor", sum := "629ddc5a3faee76ad00f48ff6780087d589201635237468e79ac4c65f14ceaeb", func := "capnp/capnplaw13.CanonsizeIsAtMostCost", spec := "canonsizeIsAtMostCost", unfollowed := true, recurses := true, named := ["capnp/listsize.bits"], apart := false, laid := [("capnp/listsize.bits", laid_capnp_listsize_bits)] }
def CanonsizeIsAtMostCostSaid : Prop := canonsizeIsAtMostCostRow.holds Tryd.pinned (OpenSpec.ofChange canonsizeIsAtMostCostSpec)

/-- ITS FALSE NEIGHBOUR: 'it returns false'. Refute it at one input. -/
def canonsizeIsAtMostCostWrong : ChangeSpec := { name := "canonsizeIsAtMostCost", fn := fun _ => fun
  | [d1, d2] => { results := [.lit (.bool false)], args := [d1, d2] }
  | _ => none }
def CanonsizeIsAtMostCostWrongFalsely : Prop := canonsizeIsAtMostCostRow.holds Tryd.pinned (OpenSpec.ofChange canonsizeIsAtMostCostWrong)

/-- 'capnplaw13.CanonsizeKeeps': WHATEVER THE INPUT: true; the input reads as it did. -/
def canonsizeKeepsSpec : ChangeSpec := { name := "canonsizeKeeps", fn := fun _ => fun
  | [d] => { results := [.lit (.bool true)], args := [d] }
  | _ => none }
def canonsizeKeepsRow : OpenClaim := { program := "ytomjnaakkfimhaadoor", sum := "629ddc5a3faee76ad00f48ff6780087d589201635237468e79ac4c65f14ceaeb", func := "capnp/capnplaw13.CanonsizeKeeps", spec := "canonsizeKeeps", unfollowed := true, recurses := true, named := ["capnp/listsize.bits"], loops := true, apart := false, laid := [("capnp/listsize.bits", laid_capnp_listsize_bits)] }
def CanonsizeKeepsSaid : Prop := canonsizeKeepsRow.holds Tryd.pinned (OpenSpec.ofChange canonsizeKeepsSpec)

/-- ITS FALSE NEIGHBOUR: 'it returns false'. Refute it at one input. -/
def canonsizeKeepsWrong : ChangeSpec := { name := "canonsizeKeeps", fn := fun _ => fun
  | [d] => { results := [.lit (.bool false)], args := [d] }
  | _ => none }
def CanonsizeKeepsWrongFalsely : Prop := canonsizeKeepsRow.holds Tryd.pinned (OpenSpec.ofChange canonsizeKeepsWrong)

/-- 'capnplaw14.CanonwriteMatchesReference': WHATEVER THE INPUT: true; the input reads as it did. -/
def canonwriteMatchesReferenceSpec : ChangeSpec := { name := "canonwriteMatchesReference", fn := fun _ => fun
  | [d] => { results := [.lit (.bool true)], args := [d] }
  | _ => none }
def canonwriteMatchesReferenceRow : OpenClaim := { program := "ytomjnaakkfimhaadoor", sum := "629ddc5a3faee76ad00f48ff6780087d589201635237468e79ac4c65f14ceaeb", func := "capnp/capnplaw14.CanonwriteMatchesReference", spec := "canonwriteMatchesReference", unfollowed := true, recurses := true, named := ["capnp/listsize.bits", "capnp/pointer.decoders"], loops := true, apart := false, laid := [("capnp/pointer.decoders", laid_capnp_pointer_decoders), ("capnp/listsize.bits", laid_capnp_listsize_bits)] }
def CanonwriteMatchesReferenceSaid : Prop := canonwriteMatchesReferenceRow.holds Tryd.pinned (OpenSpec.ofChange canonwriteMatchesReferenceSpec)

/-- ITS FALSE NEIGHBOUR: 'it returns false'. Refute it at one input. -/
def canonwriteMatchesReferenceWrong : ChangeSpec := { name := "canonwriteMatchesReference", fn := fun _ => fun
  | [d] => { results := [.lit (.bool false)], args := [d] }
  | _ => none }
def CanonwriteMatchesReferenceWrongFalsely : Prop := canonwriteMatchesReferenceRow.holds Tryd.pinned (OpenSpec.ofChange canonwriteMatchesReferenceWrong)

/-- 'capnplaw14.CanonwriteIsInjective': WHATEVER THE INPUT: true; the input reads as it did. -/
def canonwriteIsInjectiveSpec : ChangeSpec := { name := "canonwriteIsInjective", fn := fun _ => fun
  | [d1, d2] => { results := [.lit (.bool true)], args := [d1, d2] }
  | _ => none }
def canonwriteIsInjectiveRow : OpenClaim := { program := "ytomjnaakkfimhaadoor", sum := "629ddc5a3faee76ad00f48ff6780087d589201635237468e79ac4c65f14ceaeb", func := "capnp/capnplaw14.CanonwriteIsInjective", spec := "canonwriteIsInjective", unfollowed := true, recurses := true, named := ["capnp/listsize.bits", "capnp/pointer.decoders"], loops := true, apart := false, laid := [("capnp/pointer.decoders", laid_capnp_pointer_decoders), ("capnp/listsize.bits", laid_capnp_listsize_bits)] }
def CanonwriteIsInjectiveSaid : Prop := canonwriteIsInjectiveRow.holds Tryd.pinned (OpenSpec.ofChange canonwriteIsInjectiveSpec)

/-- ITS FALSE NEIGHBOUR: 'it returns false'. Refute it at one input. -/
def canonwriteIsInjectiveWrong : ChangeSpec := { name := "canonwriteIsInjective", fn := fun _ => fun
  | [d1, d2] => { results := [.lit (.bool false)], args := [d1, d2] }
  | _ => none }
def CanonwriteIsInjectiveWrongFalsely : Prop := canonwriteIsInjectiveRow.holds Tryd.pinned (OpenSpec.ofChange canonwriteIsInjectiveWrong)

/-- 'capnplaw14.CanonwriteNests': WHATEVER THE INPUT: true; the input reads as it did. -/
def canonwriteNestsSpec : ChangeSpec := { name := "canonwriteNests", fn := fun _ => fun
  | [d] => { results := [.lit (.bool true)], args := [d] }
  | _ => none }
def canonwriteNestsRow : OpenClaim := { program := "ytomjnaakkfimhaadoor", sum := "629ddc5a3faee76ad00f48ff6780087d589201635237468e79ac4c65f14ceaeb", func := "capnp/capnplaw14.CanonwriteNests", spec := "canonwriteNests", unfollowed := true, recurses := true, named := ["capnp/listsize.bits", "capnp/pointer.decoders"], loops := true, apart := false, laid := [("capnp/pointer.decoders", laid_capnp_pointer_decoders), ("capnp/listsize.bits", laid_capnp_listsize_bits)] }
def CanonwriteNestsSaid : Prop := canonwriteNestsRow.holds Tryd.pinned (OpenSpec.ofChange canonwriteNestsSpec)

/-- ITS FALSE NEIGHBOUR: 'it returns false'. Refute it at one input. -/
def canonwriteNestsWrong : ChangeSpec := { name := "canonwriteNests", fn := fun _ => fun
  | [d] => { results := [.lit (.bool false)], args := [d] }
  | _ => none }
def CanonwriteNestsWrongFalsely : Prop := canonwriteNestsRow.holds Tryd.pinned (OpenSpec.ofChange canonwriteNestsWrong)

/-- 'capnplaw14.CanonwriteKeeps': WHATEVER THE INPUT: true; the input reads as it did. -/
def canonwriteKeepsSpec : ChangeSpec := { name := "canonwriteKeeps", fn := fun _ => fun
  | [d] => { results := [.lit (.bool true)], args := [d] }
  | _ => none }
def canonwriteKeepsRow : OpenClaim := { program := "ytomjnaakkfimhaadoor", sum := "629ddc5a3faee76ad00f48ff6780087d589201635237468e79ac4c65f14ceaeb", func := "capnp/capnplaw14.CanonwriteKeeps", spec := "canonwriteKeeps", unfollowed := true, recurses := true, named := ["capnp/listsize.bits", "capnp/pointer.decoders"], loops := true, apart := false, laid := [("capnp/pointer.decoders", laid_capnp_pointer_decoders), ("capnp/listsize.bits", laid_capnp_listsize_bits)] }
def CanonwriteKeepsSaid : Prop := canonwriteKeepsRow.holds Tryd.pinned (OpenSpec.ofChange canonwriteKeepsSpec)

/-- ITS FALSE NEIGHBOUR: 'it returns false'. Refute it at one input. -/
def canonwriteKeepsWrong : ChangeSpec := { name := "canonwriteKeeps", fn := fun _ => fun
  | [d] => { results := [.lit (.bool false)], args := [d] }
  | _ => none }
def CanonwriteKeepsWrongFalsely : Prop := canonwriteKeepsRow.holds Tryd.pinned (OpenSpec.ofChange canonwriteKeepsWrong)

/-- 'capnplaw26.WorkMatchesReference': WHATEVER THE INPUT: true; the input reads as it did. -/
def workMatchesReferenceSpec : ChangeSpec := { name := "workMatchesReference", fn := fun _ => fun
  | [d1, d2] => { results := [.lit (.bool true)], args := [d1, d2] }
  | _ => none }
def workMatchesReferenceRow : OpenClaim := { program := "ytomjnaakkfimhaadoor", sum := "629ddc5a3faee76ad00f48ff6780087d589201635237468e79ac4c65f14ceaeb", func := "capnp/capnplaw26.WorkMatchesReference", spec := "workMatchesReference", unfollowed := true, recurses := true, named := ["capnp/pointer.decoders", "capnp/listsize.bits"], apart := false, laid := [("capnp/pointer.decoders", laid_capnp_pointer_decoders), ("capnp/listsize.bits", laid_capnp_listsize_bits)] }
def WorkMatchesReferenceSaid : Prop := workMatchesReferenceRow.holds Tryd.pinned (OpenSpec.ofChange workMatchesReferenceSpec)

/-- ITS FALSE NEIGHBOUR: 'it returns false'. Refute it at one input. -/
def workMatchesReferenceWrong : ChangeSpec := { name := "workMatchesReference", fn := fun _ => fun
  | [d1, d2] => { results := [.lit (.bool false)], args := [d1, d2] }
  | _ => none }
def WorkMatchesReferenceWrongFalsely : Prop := workMatchesReferenceRow.holds Tryd.pinned (OpenSpec.ofChange workMatchesReferenceWrong)

/-- 'capnplaw26.WorkBounded': WHATEVER THE INPUT: true; the input reads as it did. -/
def workBoundedSpec : ChangeSpec := { name := "workBounded", fn := fun _ => fun
  | [d1, d2] => { results := [.lit (.bool true)], args := [d1, d2] }
  | _ => none }
def workBoundedRow : OpenClaim := { program := "ytomjnaakkfimhaadoor", sum := "629ddc5a3faee76ad00f48ff6780087d589201635237468e79ac4c65f14ceaeb", func := "capnp/capnplaw26.WorkBounded", spec := "workBounded", unfollowed := true, recurses := true, named := ["capnp/pointer.decoders", "capnp/listsize.bits"], apart := false, laid := [("capnp/pointer.decoders", laid_capnp_pointer_decoders), ("capnp/listsize.bits", laid_capnp_listsize_bits)] }
def WorkBoundedSaid : Prop := workBoundedRow.holds Tryd.pinned (OpenSpec.ofChange workBoundedSpec)

/-- ITS FALSE NEIGHBOUR: 'it returns false'. Refute it at one input. -/
def workBoundedWrong : ChangeSpec := { name := "workBounded", fn := fun _ => fun
  | [d1, d2] => { results := [.lit (.bool false)], args := [d1, d2] }
  | _ => none }
def WorkBoundedWrongFalsely : Prop := workBoundedRow.holds Tryd.pinned (OpenSpec.ofChange workBoundedWrong)

/-- 'capnplaw26.WorkStops': WHATEVER THE INPUT: true; the input reads as it did. -/
def workStopsSpec : ChangeSpec := { name := "workStops", fn := fun _ => fun
  | [d1, d2, d3] => { results := [.lit (.bool true)], args := [d1, d2, d3] }
  | _ => none }
def workStopsRow : OpenClaim := { program := "ytomjnaakkfimhaadoor", sum := "629ddc5a3faee76ad00f48ff6780087d589201635237468e79ac4c65f14ceaeb", func := "capnp/capnplaw26.WorkStops", spec := "workStops", unfollowed := true, recurses := true, named := ["capnp/pointer.decoders", "capnp/listsize.bits"], apart := false, laid := [("capnp/pointer.decoders", laid_capnp_pointer_decoders), ("capnp/listsize.bits", laid_capnp_listsize_bits)] }
def WorkStopsSaid : Prop := workStopsRow.holds Tryd.pinned (OpenSpec.ofChange workStopsSpec)

/-- ITS FALSE NEIGHBOUR: 'it returns false'. Refute it at one input. -/
def workStopsWrong : ChangeSpec := { name := "workStops", fn := fun _ => fun
  | [d1, d2, d3] => { results := [.lit (.bool false)], args := [d1, d2, d3] }
  | _ => none }
def WorkStopsWrongFalsely : Prop := workStopsRow.holds Tryd.pinned (OpenSpec.ofChange workStopsWrong)

/-- 'capnplaw26.WorkAgrees': WHATEVER THE INPUT: true; the input reads as it did. -/
def workAgreesSpec : ChangeSpec := { name := "workAgrees", fn := fun _ => fun
  | [d1, d2] => { results := [.lit (.bool true)], args := [d1, d2] }
  | _ => none }
def workAgreesRow : OpenClaim := { program := "ytomjnaakkfimhaadoor", sum := "629ddc5a3faee76ad00f48ff6780087d589201635237468e79ac4c65f14ceaeb", func := "capnp/capnplaw26.WorkAgrees", spec := "workAgrees", unfollowed := true, recurses := true, named := ["capnp/pointer.decoders", "capnp/listsize.bits"], apart := false, laid := [("capnp/pointer.decoders", laid_capnp_pointer_decoders), ("capnp/listsize.bits", laid_capnp_listsize_bits)] }
def WorkAgreesSaid : Prop := workAgreesRow.holds Tryd.pinned (OpenSpec.ofChange workAgreesSpec)

/-- ITS FALSE NEIGHBOUR: 'it returns false'. Refute it at one input. -/
def workAgreesWrong : ChangeSpec := { name := "workAgrees", fn := fun _ => fun
  | [d1, d2] => { results := [.lit (.bool false)], args := [d1, d2] }
  | _ => none }
def WorkAgreesWrongFalsely : Prop := workAgreesRow.holds Tryd.pinned (OpenSpec.ofChange workAgreesWrong)

/-- 'capnplaw26.WorkKeeps': WHATEVER THE INPUT: true; the input reads as it did. -/
def workKeepsSpec : ChangeSpec := { name := "workKeeps", fn := fun _ => fun
  | [d1, d2] => { results := [.lit (.bool true)], args := [d1, d2] }
  | _ => none }
def workKeepsRow : OpenClaim := { program := "ytomjnaakkfimhaadoor", sum := "629ddc5a3faee76ad00f48ff6780087d589201635237468e79ac4c65f14ceaeb", func := "capnp/capnplaw26.WorkKeeps", spec := "workKeeps", unfollowed := true, recurses := true, named := ["capnp/pointer.decoders", "capnp/listsize.bits"], apart := false, laid := [("capnp/pointer.decoders", laid_capnp_pointer_decoders), ("capnp/listsize.bits", laid_capnp_listsize_bits)] }
def WorkKeepsSaid : Prop := workKeepsRow.holds Tryd.pinned (OpenSpec.ofChange workKeepsSpec)

/-- ITS FALSE NEIGHBOUR: 'it returns false'. Refute it at one input. -/
def workKeepsWrong : ChangeSpec := { name := "workKeeps", fn := fun _ => fun
  | [d1, d2] => { results := [.lit (.bool false)], args := [d1, d2] }
  | _ => none }
def WorkKeepsWrongFalsely : Prop := workKeepsRow.holds Tryd.pinned (OpenSpec.ofChange workKeepsWrong)

/-- 'capnplaw12.DenoteIgnoresUnreachableWords': WHATEVER THE INPUT: true; the input reads as it did. -/
def denoteIgnoresUnreachableWordsSpec : ChangeSpec := { name := "denoteIgnoresUnreachableWords", fn := fun _ => fun
  | [d1, d2, d3, d4] => { results := [.lit (.bool true)], args := [d1, d2, d3, d4] }
  | _ => none }
def denoteIgnoresUnreachableWordsRow : OpenClaim := { program := "ytomjnaakkfimhaadoor", sum := "629ddc5a3faee76ad00f48ff6780087d589201635237468e79ac4c65f14ceaeb", func := "capnp/capnplaw12.DenoteIgnoresUnreachableWords", spec := "denoteIgnoresUnreachableWords", unfollowed := true, recurses := true, named := ["capnp/pointer.decoders", "capnp/listsize.bits"], apart := false, laid := [("capnp/pointer.decoders", laid_capnp_pointer_decoders), ("capnp/listsize.bits", laid_capnp_listsize_bits)] }
def DenoteIgnoresUnreachableWordsSaid : Prop := denoteIgnoresUnreachableWordsRow.holds Tryd.pinned (OpenSpec.ofChange denoteIgnoresUnreachableWordsSpec)

/-- ITS FALSE NEIGHBOUR: 'it returns false'. Refute it at one input. -/
def denoteIgnoresUnreachableWordsWrong : ChangeSpec := { name := "denoteIgnoresUnreachableWords", fn := fun _ => fun
  | [d1, d2, d3, d4] => { results := [.lit (.bool false)], args := [d1, d2, d3, d4] }
  | _ => none }
def DenoteIgnoresUnreachableWordsWrongFalsely : Prop := denoteIgnoresUnreachableWordsRow.holds Tryd.pinned (OpenSpec.ofChange denoteIgnoresUnreachableWordsWrong)

/-- 'capnplaw12.DenoteKeepsMessage': WHATEVER THE INPUT: true; the input reads as it did. -/
def denoteKeepsMessageSpec : ChangeSpec := { name := "denoteKeepsMessage", fn := fun _ => fun
  | [d1, d2] => { results := [.lit (.bool true)], args := [d1, d2] }
  | _ => none }
def denoteKeepsMessageRow : OpenClaim := { program := "ytomjnaakkfimhaadoor", sum := "629ddc5a3faee76ad00f48ff6780087d589201635237468e79ac4c65f14ceaeb", func := "capnp/capnplaw12.DenoteKeepsMessage", spec := "denoteKeepsMessage", unfollowed := true, recurses := true, named := ["capnp/pointer.decoders", "capnp/listsize.bits"], apart := false, laid := [("capnp/pointer.decoders", laid_capnp_pointer_decoders), ("capnp/listsize.bits", laid_capnp_listsize_bits)] }
def DenoteKeepsMessageSaid : Prop := denoteKeepsMessageRow.holds Tryd.pinned (OpenSpec.ofChange denoteKeepsMessageSpec)

/-- ITS FALSE NEIGHBOUR: 'it returns false'. Refute it at one input. -/
def denoteKeepsMessageWrong : ChangeSpec := { name := "denoteKeepsMessage", fn := fun _ => fun
  | [d1, d2] => { results := [.lit (.bool false)], args := [d1, d2] }
  | _ => none }
def DenoteKeepsMessageWrongFalsely : Prop := denoteKeepsMessageRow.holds Tryd.pinned (OpenSpec.ofChange denoteKeepsMessageWrong)

/- THE SECOND FORM. 'bulk': how many values and letters a reading holds, each counted each time it is reached (what is shared counts as often as it is met; a slice's spare places count too). A statement '..UptoSaid' is the law's where the arguments, and the package variables that the reading takes, are together of bulk at most 1048576: NARROWER than '..Said'. Prove '..Said' where nothing that the law and all that it calls make is longer than what came in: it says more and counts as full. Else prove '..UptoSaid'. A law counts once. -/
mutual
def uptoBulk {H : Type} : DataW H → Nat
  | .lit (.string bytes) => bytes.length + 1
  | .lit _ => 1
  | .nil => 1
  | .ptr d => uptoBulk d + 1
  | .slice elems spare => uptoBulkAll elems + uptoBulkAll spare + 1
  | .agg parts => uptoBulkAll parts + 1
  | .iface _ d => uptoBulk d + 1
  | .map entries => uptoBulkEntries entries + 1
  | .held _ => 1
def uptoBulkAll {H : Type} : List (DataW H) → Nat
  | [] => 0
  | d :: r => uptoBulk d + uptoBulkAll r
def uptoBulkEntries {H : Type} : List (Lit × DataW H) → Nat
  | [] => 0
  | x :: r => uptoBulkEntry x + uptoBulkEntries r
def uptoBulkEntry {H : Type} : Lit × DataW H → Nat
  | (.string bytes, d) => bytes.length + uptoBulk d + 1
  | (_, d) => uptoBulk d + 1
 end
def uptoSmall : (H : Type) → List (DataW H) → Bool := fun _ ds => decide (uptoBulkAll ds ≤ 1048576)
def OpenSpec.upto (s : _root_.Go.ChangeSpec) : _root_.Go.OpenSpec := { _root_.Go.OpenSpec.ofChange s with cond := some uptoSmall }

/-- 'capnplaw13.CanonsizeIsAtMostCost', WHERE WHAT IT READS IS OF BULK AT MOST 1048576: true; the input reads as it did. -/
def canonsizeIsAtMostCostUptoRow : OpenClaim := { program := "ytomjnaakkfimhaadoor", sum := "629ddc5a3faee76ad00f48ff6780087d589201635237468e79ac4c65f14ceaeb", func := "capnp/capnplaw13.CanonsizeIsAtMostCost", spec := "canonsizeIsAtMostCost", unfollowed := true, recurses := true, named := ["capnp/listsize.bits"], apart := false, laid := [("capnp/listsize.bits", laid_capnp_listsize_bits)], narrowed := true }
def CanonsizeIsAtMostCostUptoSaid : Prop := canonsizeIsAtMostCostUptoRow.holds Tryd.pinned (OpenSpec.upto canonsizeIsAtMostCostSpec)

/-- 'capnplaw13.CanonsizeKeeps', WHERE WHAT IT READS IS OF BULK AT MOST 1048576: true; the input reads as it did. -/
def canonsizeKeepsUptoRow : OpenClaim := { program := "ytomjnaakkfimhaadoor", sum := "629ddc5a3faee76ad00f48ff6780087d589201635237468e79ac4c65f14ceaeb", func := "capnp/capnplaw13.CanonsizeKeeps", spec := "canonsizeKeeps", unfollowed := true, recurses := true, named := ["capnp/listsize.bits"], loops := true, apart := false, laid := [("capnp/listsize.bits", laid_capnp_listsize_bits)], narrowed := true }
def CanonsizeKeepsUptoSaid : Prop := canonsizeKeepsUptoRow.holds Tryd.pinned (OpenSpec.upto canonsizeKeepsSpec)

/-- 'capnplaw14.CanonwriteMatchesReference', WHERE WHAT IT READS IS OF BULK AT MOST 1048576: true; the input reads as it did. -/
def canonwriteMatchesReferenceUptoRow : OpenClaim := { program := "ytomjnaakkfimhaadoor", sum := "629ddc5a3faee76ad00f48ff6780087d589201635237468e79ac4c65f14ceaeb", func := "capnp/capnplaw14.CanonwriteMatchesReference", spec := "canonwriteMatchesReference", unfollowed := true, recurses := true, named := ["capnp/listsize.bits", "capnp/pointer.decoders"], loops := true, apart := false, laid := [("capnp/pointer.decoders", laid_capnp_pointer_decoders), ("capnp/listsize.bits", laid_capnp_listsize_bits)], narrowed := true }
def CanonwriteMatchesReferenceUptoSaid : Prop := canonwriteMatchesReferenceUptoRow.holds Tryd.pinned (OpenSpec.upto canonwriteMatchesReferenceSpec)

/-- 'capnplaw14.CanonwriteIsInjective', WHERE WHAT IT READS IS OF BULK AT MOST 1048576: true; the input reads as it did. -/
def canonwriteIsInjectiveUptoRow : OpenClaim := { program := "ytomjnaakkfimhaadoor", sum := "629ddc5a3faee76ad00f48ff6780087d589201635237468e79ac4c65f14ceaeb", func := "capnp/capnplaw14.CanonwriteIsInjective", spec := "canonwriteIsInjective", unfollowed := true, recurses := true, named := ["capnp/listsize.bits", "capnp/pointer.decoders"], loops := true, apart := false, laid := [("capnp/pointer.decoders", laid_capnp_pointer_decoders), ("capnp/listsize.bits", laid_capnp_listsize_bits)], narrowed := true }
def CanonwriteIsInjectiveUptoSaid : Prop := canonwriteIsInjectiveUptoRow.holds Tryd.pinned (OpenSpec.upto canonwriteIsInjectiveSpec)

/-- 'capnplaw14.CanonwriteNests', WHERE WHAT IT READS IS OF BULK AT MOST 1048576: true; the input reads as it did. -/
def canonwriteNestsUptoRow : OpenClaim := { program := "ytomjnaakkfimhaadoor", sum := "629ddc5a3faee76ad00f48ff6780087d589201635237468e79ac4c65f14ceaeb", func := "capnp/capnplaw14.CanonwriteNests", spec := "canonwriteNests", unfollowed := true, recurses := true, named := ["capnp/listsize.bits", "capnp/pointer.decoders"], loops := true, apart := false, laid := [("capnp/pointer.decoders", laid_capnp_pointer_decoders), ("capnp/listsize.bits", laid_capnp_listsize_bits)], narrowed := true }
def CanonwriteNestsUptoSaid : Prop := canonwriteNestsUptoRow.holds Tryd.pinned (OpenSpec.upto canonwriteNestsSpec)

/-- 'capnplaw14.CanonwriteKeeps', WHERE WHAT IT READS IS OF BULK AT MOST 1048576: true; the input reads as it did. -/
def canonwriteKeepsUptoRow : OpenClaim := { program := "ytomjnaakkfimhaadoor", sum := "629ddc5a3faee76ad00f48ff6780087d589201635237468e79ac4c65f14ceaeb", func := "capnp/capnplaw14.CanonwriteKeeps", spec := "canonwriteKeeps", unfollowed := true, recurses := true, named := ["capnp/listsize.bits", "capnp/pointer.decoders"], loops := true, apart := false, laid := [("capnp/pointer.decoders", laid_capnp_pointer_decoders), ("capnp/listsize.bits", laid_capnp_listsize_bits)], narrowed := true }
def CanonwriteKeepsUptoSaid : Prop := canonwriteKeepsUptoRow.holds Tryd.pinned (OpenSpec.upto canonwriteKeepsSpec)

/-- 'capnplaw26.WorkMatchesReference', WHERE WHAT IT READS IS OF BULK AT MOST 1048576: true; the input reads as it did. -/
def workMatchesReferenceUptoRow : OpenClaim := { program := "ytomjnaakkfimhaadoor", sum := "629ddc5a3faee76ad00f48ff6780087d589201635237468e79ac4c65f14ceaeb", func := "capnp/capnplaw26.WorkMatchesReference", spec := "workMatchesReference", unfollowed := true, recurses := true, named := ["capnp/pointer.decoders", "capnp/listsize.bits"], apart := false, laid := [("capnp/pointer.decoders", laid_capnp_pointer_decoders), ("capnp/listsize.bits", laid_capnp_listsize_bits)], narrowed := true }
def WorkMatchesReferenceUptoSaid : Prop := workMatchesReferenceUptoRow.holds Tryd.pinned (OpenSpec.upto workMatchesReferenceSpec)

/-- 'capnplaw26.WorkBounded', WHERE WHAT IT READS IS OF BULK AT MOST 1048576: true; the input reads as it did. -/
def workBoundedUptoRow : OpenClaim := { program := "ytomjnaakkfimhaadoor", sum := "629ddc5a3faee76ad00f48ff6780087d589201635237468e79ac4c65f14ceaeb", func := "capnp/capnplaw26.WorkBounded", spec := "workBounded", unfollowed := true, recurses := true, named := ["capnp/pointer.decoders", "capnp/listsize.bits"], apart := false, laid := [("capnp/pointer.decoders", laid_capnp_pointer_decoders), ("capnp/listsize.bits", laid_capnp_listsize_bits)], narrowed := true }
def WorkBoundedUptoSaid : Prop := workBoundedUptoRow.holds Tryd.pinned (OpenSpec.upto workBoundedSpec)

/-- 'capnplaw26.WorkStops', WHERE WHAT IT READS IS OF BULK AT MOST 1048576: true; the input reads as it did. -/
def workStopsUptoRow : OpenClaim := { program := "ytomjnaakkfimhaadoor", sum := "629ddc5a3faee76ad00f48ff6780087d589201635237468e79ac4c65f14ceaeb", func := "capnp/capnplaw26.WorkStops", spec := "workStops", unfollowed := true, recurses := true, named := ["capnp/pointer.decoders", "capnp/listsize.bits"], apart := false, laid := [("capnp/pointer.decoders", laid_capnp_pointer_decoders), ("capnp/listsize.bits", laid_capnp_listsize_bits)], narrowed := true }
def WorkStopsUptoSaid : Prop := workStopsUptoRow.holds Tryd.pinned (OpenSpec.upto workStopsSpec)

/-- 'capnplaw26.WorkAgrees', WHERE WHAT IT READS IS OF BULK AT MOST 1048576: true; the input reads as it did. -/
def workAgreesUptoRow : OpenClaim := { program := "ytomjnaakkfimhaadoor", sum := "629ddc5a3faee76ad00f48ff6780087d589201635237468e79ac4c65f14ceaeb", func := "capnp/capnplaw26.WorkAgrees", spec := "workAgrees", unfollowed := true, recurses := true, named := ["capnp/pointer.decoders", "capnp/listsize.bits"], apart := false, laid := [("capnp/pointer.decoders", laid_capnp_pointer_decoders), ("capnp/listsize.bits", laid_capnp_listsize_bits)], narrowed := true }
def WorkAgreesUptoSaid : Prop := workAgreesUptoRow.holds Tryd.pinned (OpenSpec.upto workAgreesSpec)

/-- 'capnplaw26.WorkKeeps', WHERE WHAT IT READS IS OF BULK AT MOST 1048576: true; the input reads as it did. -/
def workKeepsUptoRow : OpenClaim := { program := "ytomjnaakkfimhaadoor", sum := "629ddc5a3faee76ad00f48ff6780087d589201635237468e79ac4c65f14ceaeb", func := "capnp/capnplaw26.WorkKeeps", spec := "workKeeps", unfollowed := true, recurses := true, named := ["capnp/pointer.decoders", "capnp/listsize.bits"], apart := false, laid := [("capnp/pointer.decoders", laid_capnp_pointer_decoders), ("capnp/listsize.bits", laid_capnp_listsize_bits)], narrowed := true }
def WorkKeepsUptoSaid : Prop := workKeepsUptoRow.holds Tryd.pinned (OpenSpec.upto workKeepsSpec)

/-- 'capnplaw12.DenoteIgnoresUnreachableWords', WHERE WHAT IT READS IS OF BULK AT MOST 1048576: true; the input reads as it did. -/
def denoteIgnoresUnreachableWordsUptoRow : OpenClaim := { program := "ytomjnaakkfimhaadoor", sum := "629ddc5a3faee76ad00f48ff6780087d589201635237468e79ac4c65f14ceaeb", func := "capnp/capnplaw12.DenoteIgnoresUnreachableWords", spec := "denoteIgnoresUnreachableWords", unfollowed := true, recurses := true, named := ["capnp/pointer.decoders", "capnp/listsize.bits"], apart := false, laid := [("capnp/pointer.decoders", laid_capnp_pointer_decoders), ("capnp/listsize.bits", laid_capnp_listsize_bits)], narrowed := true }
def DenoteIgnoresUnreachableWordsUptoSaid : Prop := denoteIgnoresUnreachableWordsUptoRow.holds Tryd.pinned (OpenSpec.upto denoteIgnoresUnreachableWordsSpec)

/-- 'capnplaw12.DenoteKeepsMessage', WHERE WHAT IT READS IS OF BULK AT MOST 1048576: true; the input reads as it did. -/
def denoteKeepsMessageUptoRow : OpenClaim := { program := "ytomjnaakkfimhaadoor", sum := "629ddc5a3faee76ad00f48ff6780087d589201635237468e79ac4c65f14ceaeb", func := "capnp/capnplaw12.DenoteKeepsMessage", spec := "denoteKeepsMessage", unfollowed := true, recurses := true, named := ["capnp/pointer.decoders", "capnp/listsize.bits"], apart := false, laid := [("capnp/pointer.decoders", laid_capnp_pointer_decoders), ("capnp/listsize.bits", laid_capnp_listsize_bits)], narrowed := true }
def DenoteKeepsMessageUptoSaid : Prop := denoteKeepsMessageUptoRow.holds Tryd.pinned (OpenSpec.upto denoteKeepsMessageSpec)

end Rows
end Go.Proofs.YtomjnaakkfimhaaDoor
