/-
  DERIVED. GIVEN WITH THE SEED: THE CARDS: each row of YtlnlodfnplkckaaDoorRows.lean that lists a variable, with what it lists TIED to the program's text (the seventh form; the later family's looks); each row that meets fmt, with fmt's text TOLD by the authors' own Lean function (tested against real Go, not proved from fmt's source: count such statements apart). THE CARD IS WHAT COUNTS. Prove the row's statement (the work); the ties are given (YtlnlodfnplkckaaDoorTie.lean); close each card by the builder's one call (the guide's Derived/Test/ToyasCard.lean, 'card_holds'). Laid BY PROGRAM, IN A SANDBOX (cutbox-door.mjs). By AI agents, Wed Nov 11 2026. No macro, syntax, notation, axiom, sorry.
-/
import Derived.Test.YtlnlodfnplkckaaDoorRows
import GoSem.ClaimSeven
namespace Go.Proofs.YtlnlodfnplkckaaDoor
namespace Rows

/-- THE TIED CARD OF 'brushwoodlaw21.TrieMeters'. -/
def trieMetersCard : Claim7 := { stood := { row := trieMetersRow, standIns := [], harness := (true, "0c11890754ca5680bd702c01b883689b5a44bf3f1cb060dc5b54e632a3cd157e"), looks := true }, kinds := [], alts := [], laidByText := true, laidKinds := [.data, .data], laidTests := true, laidLooks := .later }
def TrieMetersCardSaid : Prop := Claim7.holds Tryd.pinned (.plain (OpenSpec.ofChange trieMetersSpec)) trieMetersCard

/-- THE TIED CARD OF 'brushwoodlaw17.LayoutComes'. -/
def layoutComesCard : Claim7 := { stood := { row := layoutComesRow, standIns := [], harness := (true, "0c11890754ca5680bd702c01b883689b5a44bf3f1cb060dc5b54e632a3cd157e"), looks := true }, kinds := [], alts := [], laidByText := true, laidKinds := [.data], laidTests := true, laidLooks := .later }
def LayoutComesCardSaid : Prop := Claim7.holds Tryd.pinned (.plain (OpenSpec.ofChange layoutComesSpec)) layoutComesCard

/-- THE TIED CARD OF 'brushwoodlaw17.LayoutSums'. -/
def layoutSumsCard : Claim7 := { stood := { row := layoutSumsRow, standIns := [], harness := (true, "0c11890754ca5680bd702c01b883689b5a44bf3f1cb060dc5b54e632a3cd157e"), looks := true }, kinds := [], alts := [], laidByText := true, laidKinds := [.data], laidTests := true, laidLooks := .later }
def LayoutSumsCardSaid : Prop := Claim7.holds Tryd.pinned (.plain (OpenSpec.ofChange layoutSumsSpec)) layoutSumsCard

/-- THE TIED CARD OF 'brushwoodlaw18.FindAll'. -/
def findAllCard : Claim7 := { stood := { row := findAllRow, standIns := [], harness := (true, "0c11890754ca5680bd702c01b883689b5a44bf3f1cb060dc5b54e632a3cd157e"), looks := true }, kinds := [], alts := [], laidByText := true, laidKinds := [.data], laidTests := true, laidLooks := .later }
def FindAllCardSaid : Prop := Claim7.holds Tryd.pinned (.plain (OpenSpec.ofChange findAllSpec)) findAllCard

/-- THE TIED CARD OF 'brushwoodlaw18.FindMeters'. -/
def findMetersCard : Claim7 := { stood := { row := findMetersRow, standIns := [], harness := (true, "0c11890754ca5680bd702c01b883689b5a44bf3f1cb060dc5b54e632a3cd157e"), looks := true }, kinds := [], alts := [], laidByText := true, laidKinds := [.data], laidTests := true, laidLooks := .later }
def FindMetersCardSaid : Prop := Claim7.holds Tryd.pinned (.plain (OpenSpec.ofChange findMetersSpec)) findMetersCard

/-- THE TIED CARD OF 'brushwoodlaw18.FindGets'. -/
def findGetsCard : Claim7 := { stood := { row := findGetsRow, standIns := [], harness := (true, "0c11890754ca5680bd702c01b883689b5a44bf3f1cb060dc5b54e632a3cd157e"), looks := true }, kinds := [], alts := [], laidByText := true, laidKinds := [.data], laidTests := true, laidLooks := .later }
def FindGetsCardSaid : Prop := Claim7.holds Tryd.pinned (.plain (OpenSpec.ofChange findGetsSpec)) findGetsCard

/-- THE TIED CARD OF 'brushwoodlaw17.LayoutOrder'. -/
def layoutOrderCard : Claim7 := { stood := { row := layoutOrderRow, standIns := [], harness := (true, "0c11890754ca5680bd702c01b883689b5a44bf3f1cb060dc5b54e632a3cd157e"), looks := true }, kinds := [], alts := [], laidByText := true, laidKinds := [.data], laidTests := true, laidLooks := .later }
def LayoutOrderCardSaid : Prop := Claim7.holds Tryd.pinned (.plain (OpenSpec.ofChange layoutOrderSpec)) layoutOrderCard

/-- THE TIED CARD OF 'brushwoodlaw17.LayoutOf'. -/
def layoutOfCard : Claim7 := { stood := { row := layoutOfRow, standIns := [], harness := (true, "0c11890754ca5680bd702c01b883689b5a44bf3f1cb060dc5b54e632a3cd157e"), looks := true }, kinds := [], alts := [], laidByText := true, laidKinds := [.data], laidTests := true, laidLooks := .later }
def LayoutOfCardSaid : Prop := Claim7.holds Tryd.pinned (.plain (OpenSpec.ofChange layoutOfSpec)) layoutOfCard

/-- THE SECOND FORM's CARD OF 'brushwoodlaw21.TrieMeters'. -/
def trieMetersUptoCard : Claim7 := { stood := { row := trieMetersUptoRow, standIns := [], harness := (true, "0c11890754ca5680bd702c01b883689b5a44bf3f1cb060dc5b54e632a3cd157e"), looks := true }, kinds := [], alts := [], laidByText := true, laidKinds := [.data, .data], laidTests := true, laidLooks := .later }
def TrieMetersUptoCardSaid : Prop := Claim7.holds Tryd.pinned (.plain (OpenSpec.upto trieMetersSpec)) trieMetersUptoCard

/-- THE SECOND FORM's CARD OF 'brushwoodlaw17.LayoutComes'. -/
def layoutComesUptoCard : Claim7 := { stood := { row := layoutComesUptoRow, standIns := [], harness := (true, "0c11890754ca5680bd702c01b883689b5a44bf3f1cb060dc5b54e632a3cd157e"), looks := true }, kinds := [], alts := [], laidByText := true, laidKinds := [.data], laidTests := true, laidLooks := .later }
def LayoutComesUptoCardSaid : Prop := Claim7.holds Tryd.pinned (.plain (OpenSpec.upto layoutComesSpec)) layoutComesUptoCard

/-- THE SECOND FORM's CARD OF 'brushwoodlaw17.LayoutSums'. -/
def layoutSumsUptoCard : Claim7 := { stood := { row := layoutSumsUptoRow, standIns := [], harness := (true, "0c11890754ca5680bd702c01b883689b5a44bf3f1cb060dc5b54e632a3cd157e"), looks := true }, kinds := [], alts := [], laidByText := true, laidKinds := [.data], laidTests := true, laidLooks := .later }
def LayoutSumsUptoCardSaid : Prop := Claim7.holds Tryd.pinned (.plain (OpenSpec.upto layoutSumsSpec)) layoutSumsUptoCard

/-- THE SECOND FORM's CARD OF 'brushwoodlaw18.FindAll'. -/
def findAllUptoCard : Claim7 := { stood := { row := findAllUptoRow, standIns := [], harness := (true, "0c11890754ca5680bd702c01b883689b5a44bf3f1cb060dc5b54e632a3cd157e"), looks := true }, kinds := [], alts := [], laidByText := true, laidKinds := [.data], laidTests := true, laidLooks := .later }
def FindAllUptoCardSaid : Prop := Claim7.holds Tryd.pinned (.plain (OpenSpec.upto findAllSpec)) findAllUptoCard

/-- THE SECOND FORM's CARD OF 'brushwoodlaw18.FindMeters'. -/
def findMetersUptoCard : Claim7 := { stood := { row := findMetersUptoRow, standIns := [], harness := (true, "0c11890754ca5680bd702c01b883689b5a44bf3f1cb060dc5b54e632a3cd157e"), looks := true }, kinds := [], alts := [], laidByText := true, laidKinds := [.data], laidTests := true, laidLooks := .later }
def FindMetersUptoCardSaid : Prop := Claim7.holds Tryd.pinned (.plain (OpenSpec.upto findMetersSpec)) findMetersUptoCard

/-- THE SECOND FORM's CARD OF 'brushwoodlaw18.FindGets'. -/
def findGetsUptoCard : Claim7 := { stood := { row := findGetsUptoRow, standIns := [], harness := (true, "0c11890754ca5680bd702c01b883689b5a44bf3f1cb060dc5b54e632a3cd157e"), looks := true }, kinds := [], alts := [], laidByText := true, laidKinds := [.data], laidTests := true, laidLooks := .later }
def FindGetsUptoCardSaid : Prop := Claim7.holds Tryd.pinned (.plain (OpenSpec.upto findGetsSpec)) findGetsUptoCard

/-- THE SECOND FORM's CARD OF 'brushwoodlaw17.LayoutOrder'. -/
def layoutOrderUptoCard : Claim7 := { stood := { row := layoutOrderUptoRow, standIns := [], harness := (true, "0c11890754ca5680bd702c01b883689b5a44bf3f1cb060dc5b54e632a3cd157e"), looks := true }, kinds := [], alts := [], laidByText := true, laidKinds := [.data], laidTests := true, laidLooks := .later }
def LayoutOrderUptoCardSaid : Prop := Claim7.holds Tryd.pinned (.plain (OpenSpec.upto layoutOrderSpec)) layoutOrderUptoCard

/-- THE SECOND FORM's CARD OF 'brushwoodlaw17.LayoutOf'. -/
def layoutOfUptoCard : Claim7 := { stood := { row := layoutOfUptoRow, standIns := [], harness := (true, "0c11890754ca5680bd702c01b883689b5a44bf3f1cb060dc5b54e632a3cd157e"), looks := true }, kinds := [], alts := [], laidByText := true, laidKinds := [.data], laidTests := true, laidLooks := .later }
def LayoutOfUptoCardSaid : Prop := Claim7.holds Tryd.pinned (.plain (OpenSpec.upto layoutOfSpec)) layoutOfUptoCard
end Rows
end Go.Proofs.YtlnlodfnplkckaaDoor
