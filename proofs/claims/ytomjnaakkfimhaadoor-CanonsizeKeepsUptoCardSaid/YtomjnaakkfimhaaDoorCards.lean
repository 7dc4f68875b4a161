/-
  DERIVED. GIVEN WITH THE SEED: THE CARDS: each row of YtomjnaakkfimhaaDoorRows.lean that lists a variable, with what it lists TIED to the program's text (the seventh form; the later family's looks); each row that meets fmt, with fmt's text TOLD by the authors' own Lean function (tested against real Go, not proved from fmt's source: count such statements apart). THE CARD IS WHAT COUNTS. Prove the row's statement (the work); the ties are given (YtomjnaakkfimhaaDoorTie.lean); close each card by the builder's one call (the guide's Derived/Test/ToyasCard.lean, 'card_holds'). Laid BY PROGRAM, IN A SANDBOX (cutbox-door.mjs). By AI agents, Wed Nov 11 2026. No macro, syntax, notation, axiom, sorry.
-/
import Derived.Test.YtomjnaakkfimhaaDoorRows
import GoSem.ClaimSeven
namespace Go.Proofs.YtomjnaakkfimhaaDoor
namespace Rows

/-- THE TIED CARD OF 'capnplaw13.CanonsizeIsAtMostCost'. -/
def canonsizeIsAtMostCostCard : Claim7 := { stood := { row := canonsizeIsAtMostCostRow, standIns := [], harness := (true, "3dd0355583118e506412fb6bc108e94b27cf95f1322b1066f5bcfc82a88fd704"), looks := true }, kinds := [], alts := [], laidByText := true, laidKinds := [.data], laidTests := true, laidLooks := .later }
def CanonsizeIsAtMostCostCardSaid : Prop := Claim7.holds Tryd.pinned (.plain (OpenSpec.ofChange canonsizeIsAtMostCostSpec)) canonsizeIsAtMostCostCard

/-- THE TIED CARD OF 'capnplaw13.CanonsizeKeeps'. -/
def canonsizeKeepsCard : Claim7 := { stood := { row := canonsizeKeepsRow, standIns := [], harness := (true, "3dd0355583118e506412fb6bc108e94b27cf95f1322b1066f5bcfc82a88fd704"), looks := true }, kinds := [], alts := [], laidByText := true, laidKinds := [.data], laidTests := true, laidLooks := .later }
def CanonsizeKeepsCardSaid : Prop := Claim7.holds Tryd.pinned (.plain (OpenSpec.ofChange canonsizeKeepsSpec)) canonsizeKeepsCard

/-- THE TIED CARD OF 'capnplaw14.CanonwriteMatchesReference'. -/
def canonwriteMatchesReferenceCard : Claim7 := { stood := { row := canonwriteMatchesReferenceRow, standIns := [], harness := (true, "3dd0355583118e506412fb6bc108e94b27cf95f1322b1066f5bcfc82a88fd704"), looks := true }, kinds := [], alts := [], laidByText := true, laidKinds := [.funcs, .data], laidTests := true, laidLooks := .later }
def CanonwriteMatchesReferenceCardSaid : Prop := Claim7.holds Tryd.pinned (.plain (OpenSpec.ofChange canonwriteMatchesReferenceSpec)) canonwriteMatchesReferenceCard

/-- THE TIED CARD OF 'capnplaw14.CanonwriteIsInjective'. -/
def canonwriteIsInjectiveCard : Claim7 := { stood := { row := canonwriteIsInjectiveRow, standIns := [], harness := (true, "3dd0355583118e506412fb6bc108e94b27cf95f1322b1066f5bcfc82a88fd704"), looks := true }, kinds := [], alts := [], laidByText := true, laidKinds := [.funcs, .data], laidTests := true, laidLooks := .later }
def CanonwriteIsInjectiveCardSaid : Prop := Claim7.holds Tryd.pinned (.plain (OpenSpec.ofChange canonwriteIsInjectiveSpec)) canonwriteIsInjectiveCard

/-- THE TIED CARD OF 'capnplaw14.CanonwriteNests'. -/
def canonwriteNestsCard : Claim7 := { stood := { row := canonwriteNestsRow, standIns := [], harness := (true, "3dd0355583118e506412fb6bc108e94b27cf95f1322b1066f5bcfc82a88fd704"), looks := true }, kinds := [], alts := [], laidByText := true, laidKinds := [.funcs, .data], laidTests := true, laidLooks := .later }
def CanonwriteNestsCardSaid : Prop := Claim7.holds Tryd.pinned (.plain (OpenSpec.ofChange canonwriteNestsSpec)) canonwriteNestsCard

/-- THE TIED CARD OF 'capnplaw14.CanonwriteKeeps'. -/
def canonwriteKeepsCard : Claim7 := { stood := { row := canonwriteKeepsRow, standIns := [], harness := (true, "3dd0355583118e506412fb6bc108e94b27cf95f1322b1066f5bcfc82a88fd704"), looks := true }, kinds := [], alts := [], laidByText := true, laidKinds := [.funcs, .data], laidTests := true, laidLooks := .later }
def CanonwriteKeepsCardSaid : Prop := Claim7.holds Tryd.pinned (.plain (OpenSpec.ofChange canonwriteKeepsSpec)) canonwriteKeepsCard

/-- THE TIED CARD OF 'capnplaw26.WorkMatchesReference'. -/
def workMatchesReferenceCard : Claim7 := { stood := { row := workMatchesReferenceRow, standIns := [], harness := (true, "3dd0355583118e506412fb6bc108e94b27cf95f1322b1066f5bcfc82a88fd704"), looks := true }, kinds := [], alts := [], laidByText := true, laidKinds := [.funcs, .data], laidTests := true, laidLooks := .later }
def WorkMatchesReferenceCardSaid : Prop := Claim7.holds Tryd.pinned (.plain (OpenSpec.ofChange workMatchesReferenceSpec)) workMatchesReferenceCard

/-- THE TIED CARD OF 'capnplaw26.WorkBounded'. -/
def workBoundedCard : Claim7 := { stood := { row := workBoundedRow, standIns := [], harness := (true, "3dd0355583118e506412fb6bc108e94b27cf95f1322b1066f5bcfc82a88fd704"), looks := true }, kinds := [], alts := [], laidByText := true, laidKinds := [.funcs, .data], laidTests := true, laidLooks := .later }
def WorkBoundedCardSaid : Prop := Claim7.holds Tryd.pinned (.plain (OpenSpec.ofChange workBoundedSpec)) workBoundedCard

/-- THE TIED CARD OF 'capnplaw26.WorkStops'. -/
def workStopsCard : Claim7 := { stood := { row := workStopsRow, standIns := [], harness := (true, "3dd0355583118e506412fb6bc108e94b27cf95f1322b1066f5bcfc82a88fd704"), looks := true }, kinds := [], alts := [], laidByText := true, laidKinds := [.funcs, .data], laidTests := true, laidLooks := .later }
def WorkStopsCardSaid : Prop := Claim7.holds Tryd.pinned (.plain (OpenSpec.ofChange workStopsSpec)) workStopsCard

/-- THE TIED CARD OF 'capnplaw26.WorkAgrees'. -/
def workAgreesCard : Claim7 := { stood := { row := workAgreesRow, standIns := [], harness := (true, "3dd0355583118e506412fb6bc108e94b27cf95f1322b1066f5bcfc82a88fd704"), looks := true }, kinds := [], alts := [], laidByText := true, laidKinds := [.funcs, .data], laidTests := true, laidLooks := .later }
def WorkAgreesCardSaid : Prop := Claim7.holds Tryd.pinned (.plain (OpenSpec.ofChange workAgreesSpec)) workAgreesCard

/-- THE TIED CARD OF 'capnplaw26.WorkKeeps'. -/
def workKeepsCard : Claim7 := { stood := { row := workKeepsRow, standIns := [], harness := (true, "3dd0355583118e506412fb6bc108e94b27cf95f1322b1066f5bcfc82a88fd704"), looks := true }, kinds := [], alts := [], laidByText := true, laidKinds := [.funcs, .data], laidTests := true, laidLooks := .later }
def WorkKeepsCardSaid : Prop := Claim7.holds Tryd.pinned (.plain (OpenSpec.ofChange workKeepsSpec)) workKeepsCard

/-- THE TIED CARD OF 'capnplaw12.DenoteIgnoresUnreachableWords'. -/
def denoteIgnoresUnreachableWordsCard : Claim7 := { stood := { row := denoteIgnoresUnreachableWordsRow, standIns := [], harness := (true, "3dd0355583118e506412fb6bc108e94b27cf95f1322b1066f5bcfc82a88fd704"), looks := true }, kinds := [], alts := [], laidByText := true, laidKinds := [.funcs, .data], laidTests := true, laidLooks := .later }
def DenoteIgnoresUnreachableWordsCardSaid : Prop := Claim7.holds Tryd.pinned (.plain (OpenSpec.ofChange denoteIgnoresUnreachableWordsSpec)) denoteIgnoresUnreachableWordsCard

/-- THE TIED CARD OF 'capnplaw12.DenoteKeepsMessage'. -/
def denoteKeepsMessageCard : Claim7 := { stood := { row := denoteKeepsMessageRow, standIns := [], harness := (true, "3dd0355583118e506412fb6bc108e94b27cf95f1322b1066f5bcfc82a88fd704"), looks := true }, kinds := [], alts := [], laidByText := true, laidKinds := [.funcs, .data], laidTests := true, laidLooks := .later }
def DenoteKeepsMessageCardSaid : Prop := Claim7.holds Tryd.pinned (.plain (OpenSpec.ofChange denoteKeepsMessageSpec)) denoteKeepsMessageCard

/-- THE SECOND FORM's CARD OF 'capnplaw13.CanonsizeIsAtMostCost'. -/
def canonsizeIsAtMostCostUptoCard : Claim7 := { stood := { row := canonsizeIsAtMostCostUptoRow, standIns := [], harness := (true, "3dd0355583118e506412fb6bc108e94b27cf95f1322b1066f5bcfc82a88fd704"), looks := true }, kinds := [], alts := [], laidByText := true, laidKinds := [.data], laidTests := true, laidLooks := .later }
def CanonsizeIsAtMostCostUptoCardSaid : Prop := Claim7.holds Tryd.pinned (.plain (OpenSpec.upto canonsizeIsAtMostCostSpec)) canonsizeIsAtMostCostUptoCard

/-- THE SECOND FORM's CARD OF 'capnplaw13.CanonsizeKeeps'. -/
def canonsizeKeepsUptoCard : Claim7 := { stood := { row := canonsizeKeepsUptoRow, standIns := [], harness := (true, "3dd0355583118e506412fb6bc108e94b27cf95f1322b1066f5bcfc82a88fd704"), looks := true }, kinds := [], alts := [], laidByText := true, laidKinds := [.data], laidTests := true, laidLooks := .later }
def CanonsizeKeepsUptoCardSaid : Prop := Claim7.holds Tryd.pinned (.plain (OpenSpec.upto canonsizeKeepsSpec)) canonsizeKeepsUptoCard

/-- THE SECOND FORM's CARD OF 'capnplaw14.CanonwriteMatchesReference'. -/
def canonwriteMatchesReferenceUptoCard : Claim7 := { stood := { row := canonwriteMatchesReferenceUptoRow, standIns := [], harness := (true, "3dd0355583118e506412fb6bc108e94b27cf95f1322b1066f5bcfc82a88fd704"), looks := true }, kinds := [], alts := [], laidByText := true, laidKinds := [.funcs, .data], laidTests := true, laidLooks := .later }
def CanonwriteMatchesReferenceUptoCardSaid : Prop := Claim7.holds Tryd.pinned (.plain (OpenSpec.upto canonwriteMatchesReferenceSpec)) canonwriteMatchesReferenceUptoCard

/-- THE SECOND FORM's CARD OF 'capnplaw14.CanonwriteIsInjective'. -/
def canonwriteIsInjectiveUptoCard : Claim7 := { stood := { row := canonwriteIsInjectiveUptoRow, standIns := [], harness := (true, "3dd0355583118e506412fb6bc108e94b27cf95f1322b1066f5bcfc82a88fd704"), looks := true }, kinds := [], alts := [], laidByText := true, laidKinds := [.funcs, .data], laidTests := true, laidLooks := .later }
def CanonwriteIsInjectiveUptoCardSaid : Prop := Claim7.holds Tryd.pinned (.plain (OpenSpec.upto canonwriteIsInjectiveSpec)) canonwriteIsInjectiveUptoCard

/-- THE SECOND FORM's CARD OF 'capnplaw14.CanonwriteNests'. -/
def canonwriteNestsUptoCard : Claim7 := { stood := { row := canonwriteNestsUptoRow, standIns := [], harness := (true, "3dd0355583118e506412fb6bc108e94b27cf95f1322b1066f5bcfc82a88fd704"), looks := true }, kinds := [], alts := [], laidByText := true, laidKinds := [.funcs, .data], laidTests := true, laidLooks := .later }
def CanonwriteNestsUptoCardSaid : Prop := Claim7.holds Tryd.pinned (.plain (OpenSpec.upto canonwriteNestsSpec)) canonwriteNestsUptoCard

/-- THE SECOND FORM's CARD OF 'capnplaw14.CanonwriteKeeps'. -/
def canonwriteKeepsUptoCard : Claim7 := { stood := { row := canonwriteKeepsUptoRow, standIns := [], harness := (true, "3dd0355583118e506412fb6bc108e94b27cf95f1322b1066f5bcfc82a88fd704"), looks := true }, kinds := [], alts := [], laidByText := true, laidKinds := [.funcs, .data], laidTests := true, laidLooks := .later }
def CanonwriteKeepsUptoCardSaid : Prop := Claim7.holds Tryd.pinned (.plain (OpenSpec.upto canonwriteKeepsSpec)) canonwriteKeepsUptoCard

/-- THE SECOND FORM's CARD OF 'capnplaw26.WorkMatchesReference'. -/
def workMatchesReferenceUptoCard : Claim7 := { stood := { row := workMatchesReferenceUptoRow, standIns := [], harness := (true, "3dd0355583118e506412fb6bc108e94b27cf95f1322b1066f5bcfc82a88fd704"), looks := true }, kinds := [], alts := [], laidByText := true, laidKinds := [.funcs, .data], laidTests := true, laidLooks := .later }
def WorkMatchesReferenceUptoCardSaid : Prop := Claim7.holds Tryd.pinned (.plain (OpenSpec.upto workMatchesReferenceSpec)) workMatchesReferenceUptoCard

/-- THE SECOND FORM's CARD OF 'capnplaw26.WorkBounded'. -/
def workBoundedUptoCard : Claim7 := { stood := { row := workBoundedUptoRow, standIns := [], harness := (true, "3dd0355583118e506412fb6bc108e94b27cf95f1322b1066f5bcfc82a88fd704"), looks := true }, kinds := [], alts := [], laidByText := true, laidKinds := [.funcs, .data], laidTests := true, laidLooks := .later }
def WorkBoundedUptoCardSaid : Prop := Claim7.holds Tryd.pinned (.plain (OpenSpec.upto workBoundedSpec)) workBoundedUptoCard

/-- THE SECOND FORM's CARD OF 'capnplaw26.WorkStops'. -/
def workStopsUptoCard : Claim7 := { stood := { row := workStopsUptoRow, standIns := [], harness := (true, "3dd0355583118e506412fb6bc108e94b27cf95f1322b1066f5bcfc82a88fd704"), looks := true }, kinds := [], alts := [], laidByText := true, laidKinds := [.funcs, .data], laidTests := true, laidLooks := .later }
def WorkStopsUptoCardSaid : Prop := Claim7.holds Tryd.pinned (.plain (OpenSpec.upto workStopsSpec)) workStopsUptoCard

/-- THE SECOND FORM's CARD OF 'capnplaw26.WorkAgrees'. -/
def workAgreesUptoCard : Claim7 := { stood := { row := workAgreesUptoRow, standIns := [], harness := (true, "3dd0355583118e506412fb6bc108e94b27cf95f1322b1066f5bcfc82a88fd704"), looks := true }, kinds := [], alts := [], laidByText := true, laidKinds := [.funcs, .data], laidTests := true, laidLooks := .later }
def WorkAgreesUptoCardSaid : Prop := Claim7.holds Tryd.pinned (.plain (OpenSpec.upto workAgreesSpec)) workAgreesUptoCard

/-- THE SECOND FORM's CARD OF 'capnplaw26.WorkKeeps'. -/
def workKeepsUptoCard : Claim7 := { stood := { row := workKeepsUptoRow, standIns := [], harness := (true, "3dd0355583118e506412fb6bc108e94b27cf95f1322b1066f5bcfc82a88fd704"), looks := true }, kinds := [], alts := [], laidByText := true, laidKinds := [.funcs, .data], laidTests := true, laidLooks := .later }
def WorkKeepsUptoCardSaid : Prop := Claim7.holds Tryd.pinned (.plain (OpenSpec.upto workKeepsSpec)) workKeepsUptoCard

/-- THE SECOND FORM's CARD OF 'capnplaw12.DenoteIgnoresUnreachableWords'. -/
def denoteIgnoresUnreachableWordsUptoCard : Claim7 := { stood := { row := denoteIgnoresUnreachableWordsUptoRow, standIns := [], harness := (true, "3dd0355583118e506412fb6bc108e94b27cf95f1322b1066f5bcfc82a88fd704"), looks := true }, kinds := [], alts := [], laidByText := true, laidKinds := [.funcs, .data], laidTests := true, laidLooks := .later }
def DenoteIgnoresUnreachableWordsUptoCardSaid : Prop := Claim7.holds Tryd.pinned (.plain (OpenSpec.upto denoteIgnoresUnreachableWordsSpec)) denoteIgnoresUnreachableWordsUptoCard

/-- THE SECOND FORM's CARD OF 'capnplaw12.DenoteKeepsMessage'. -/
def denoteKeepsMessageUptoCard : Claim7 := { stood := { row := denoteKeepsMessageUptoRow, standIns := [], harness := (true, "3dd0355583118e506412fb6bc108e94b27cf95f1322b1066f5bcfc82a88fd704"), looks := true }, kinds := [], alts := [], laidByText := true, laidKinds := [.funcs, .data], laidTests := true, laidLooks := .later }
def DenoteKeepsMessageUptoCardSaid : Prop := Claim7.holds Tryd.pinned (.plain (OpenSpec.upto denoteKeepsMessageSpec)) denoteKeepsMessageUptoCard
end Rows
end Go.Proofs.YtomjnaakkfimhaaDoor
