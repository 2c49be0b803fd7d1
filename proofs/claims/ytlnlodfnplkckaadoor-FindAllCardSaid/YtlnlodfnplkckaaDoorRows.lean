/-
  NARROWER THAN 'FOR EVERY INPUT', by the rows' own cells (each row's printed sentence says how): TrieMeters: laid · LayoutComes: laid · LayoutSums: laid · FindAll: laid · FindMeters: laid · FindGets: laid · LayoutOrder: laid · LayoutOf: laid.
  DERIVED. THE GIVEN ROWS OF THIS SEAT. 8 by the template 'for every input the law returns true; each argument reads behind the call as it read before'; 0 by the template 'total and deterministic' (their statements: YtlnlodfnplkckaaDoorTotals.lean).
  GIVEN WITH THE SEED: the statements are not yours to turn. If you find one false, say at which input.
  Laid BY PROGRAM, IN A SANDBOX (cutbox-rows.mjs): the forced cells as the released guide's own fill.sh prints them over the translation 0d1747de53e7208b… (all of the seat's roots in one cut). By AI agents, Wed Nov 11 2026. No macro, syntax, notation, axiom, sorry.
-/
import Derived.Test.YtlnlodfnplkckaaDoorChecked
import GoSem.Claim
import GoSem.ClaimJoined
import GoSem.ClaimMapViews
import Derived.JoinedTies
import Derived.KernelRfl
namespace Go.Proofs.YtlnlodfnplkckaaDoor
/- THE CELL 'sum', in the pinned program and in every row, IS THE sha256 OF THE DUMP (.gsa) THAT YtlnlodfnplkckaaDoorProg.lean LOADS. Nothing in Lean hashes anything: it is a label: what it is worth is what the hold of that sum in a sandbox is worth. -/
noncomputable def Tryd.pinned : Pinned := { name := "ytlnlodfnplkckaadoor", sum := "0d1747de53e7208bd9c51f03732542ffd66e27b1ded240c6cf00cb9f300e7045", checked := Tryd.checked }
namespace Rows
def none {H : Type} : Left H := { results := [], args := [] }

/- WHAT THE LISTED PACKAGE-LEVEL VARIABLES READ AS WHEN THE CALL BEGINS. Each datum BY PROGRAM (the guide's laid-datum.mjs) off the statement by which the dump's own 'gosem.cut.vars' lays the variable. In a bare row this is a premise. The card (YtlnlodfnplkckaaDoorCards.lean) ties it to the program's text. -/
def laid_math_bits_deBruijn32tab {H : Type} : DataW H := .agg [.lit (.int .u8 0), .lit (.int .u8 1), .lit (.int .u8 28), .lit (.int .u8 2), .lit (.int .u8 29), .lit (.int .u8 14), .lit (.int .u8 24), .lit (.int .u8 3), .lit (.int .u8 30), .lit (.int .u8 22), .lit (.int .u8 20), .lit (.int .u8 15), .lit (.int .u8 25), .lit (.int .u8 17), .lit (.int .u8 4), .lit (.int .u8 8), .lit (.int .u8 31), .lit (.int .u8 27), .lit (.int .u8 13), .lit (.int .u8 23), .lit (.int .u8 21), .lit (.int .u8 19), .lit (.int .u8 16), .lit (.int .u8 7), .lit (.int .u8 26), .lit (.int .u8 12), .lit (.int .u8 18), .lit (.int .u8 6), .lit (.int .u8 11), .lit (.int .u8 5), .lit (.int .u8 10), .lit (.int .u8 9)]
def laid_brushwood_sip_start {H : Type} : DataW H := .agg [.lit (.int .u64 8317987319222330741), .lit (.int .u64 7237128888997146477), .lit (.int .u64 7816392313619706465), .lit (.int .u64 8387220255154660723)]

/-- 'brushwoodlaw21.TrieMeters': WHATEVER THE INPUT: true; the input reads as it did. -/
def trieMetersSpec : ChangeSpec := { name := "trieMeters", fn := fun _ => fun
  | [d1, d2] => { results := [.lit (.bool true)], args := [d1, d2] }
  | _ => none }
def trieMetersRow : OpenClaim := { program := "ytlnlodfnplkckaadoor", sum := "0d1747de53e7208bd9c51f03732542ffd66e27b1ded240c6cf00cb9f300e7045", func := "brushwood/brushwoodlaw21.TrieMeters", spec := "trieMeters", inPlace := ["internal/bytealg.Compare"], unfollowed := true, recurses := true, named := ["brushwood/sip.start", "math/bits.deBruijn32tab"], apart := false, laid := [("math/bits.deBruijn32tab", laid_math_bits_deBruijn32tab), ("brushwood/sip.start", laid_brushwood_sip_start)] }
def TrieMetersSaid : Prop := trieMetersRow.holds Tryd.pinned (OpenSpec.ofChange trieMetersSpec)

/-- ITS FALSE NEIGHBOUR: 'it returns false'. Refute it at one input. -/
def trieMetersWrong : ChangeSpec := { name := "trieMeters", fn := fun _ => fun
  | [d1, d2] => { results := [.lit (.bool false)], args := [d1, d2] }
  | _ => none }
def TrieMetersWrongFalsely : Prop := trieMetersRow.holds Tryd.pinned (OpenSpec.ofChange trieMetersWrong)

/-- 'brushwoodlaw17.LayoutComes': WHATEVER THE INPUT: true; the input reads as it did. -/
def layoutComesSpec : ChangeSpec := { name := "layoutComes", fn := fun _ => fun
  | [d] => { results := [.lit (.bool true)], args := [d] }
  | _ => none }
def layoutComesRow : OpenClaim := { program := "ytlnlodfnplkckaadoor", sum := "0d1747de53e7208bd9c51f03732542ffd66e27b1ded240c6cf00cb9f300e7045", func := "brushwood/brushwoodlaw17.LayoutComes", spec := "layoutComes", inPlace := ["internal/bytealg.Compare"], unfollowed := true, recurses := true, named := ["math/bits.deBruijn32tab"], apart := false, laid := [("math/bits.deBruijn32tab", laid_math_bits_deBruijn32tab)] }
def LayoutComesSaid : Prop := layoutComesRow.holds Tryd.pinned (OpenSpec.ofChange layoutComesSpec)

/-- ITS FALSE NEIGHBOUR: 'it returns false'. Refute it at one input. -/
def layoutComesWrong : ChangeSpec := { name := "layoutComes", fn := fun _ => fun
  | [d] => { results := [.lit (.bool false)], args := [d] }
  | _ => none }
def LayoutComesWrongFalsely : Prop := layoutComesRow.holds Tryd.pinned (OpenSpec.ofChange layoutComesWrong)

/-- 'brushwoodlaw17.LayoutSums': WHATEVER THE INPUT: true; the input reads as it did. -/
def layoutSumsSpec : ChangeSpec := { name := "layoutSums", fn := fun _ => fun
  | [d] => { results := [.lit (.bool true)], args := [d] }
  | _ => none }
def layoutSumsRow : OpenClaim := { program := "ytlnlodfnplkckaadoor", sum := "0d1747de53e7208bd9c51f03732542ffd66e27b1ded240c6cf00cb9f300e7045", func := "brushwood/brushwoodlaw17.LayoutSums", spec := "layoutSums", inPlace := ["internal/bytealg.Compare"], unfollowed := true, recurses := true, named := ["math/bits.deBruijn32tab"], apart := false, laid := [("math/bits.deBruijn32tab", laid_math_bits_deBruijn32tab)] }
def LayoutSumsSaid : Prop := layoutSumsRow.holds Tryd.pinned (OpenSpec.ofChange layoutSumsSpec)

/-- ITS FALSE NEIGHBOUR: 'it returns false'. Refute it at one input. -/
def layoutSumsWrong : ChangeSpec := { name := "layoutSums", fn := fun _ => fun
  | [d] => { results := [.lit (.bool false)], args := [d] }
  | _ => none }
def LayoutSumsWrongFalsely : Prop := layoutSumsRow.holds Tryd.pinned (OpenSpec.ofChange layoutSumsWrong)

/-- 'brushwoodlaw18.FindAll': WHATEVER THE INPUT: true; the input reads as it did. -/
def findAllSpec : ChangeSpec := { name := "findAll", fn := fun _ => fun
  | [d1, d2] => { results := [.lit (.bool true)], args := [d1, d2] }
  | _ => none }
def findAllRow : OpenClaim := { program := "ytlnlodfnplkckaadoor", sum := "0d1747de53e7208bd9c51f03732542ffd66e27b1ded240c6cf00cb9f300e7045", func := "brushwood/brushwoodlaw18.FindAll", spec := "findAll", inPlace := ["internal/bytealg.Compare"], unfollowed := true, recurses := true, named := ["math/bits.deBruijn32tab"], apart := false, laid := [("math/bits.deBruijn32tab", laid_math_bits_deBruijn32tab)] }
def FindAllSaid : Prop := findAllRow.holds Tryd.pinned (OpenSpec.ofChange findAllSpec)

/-- ITS FALSE NEIGHBOUR: 'it returns false'. Refute it at one input. -/
def findAllWrong : ChangeSpec := { name := "findAll", fn := fun _ => fun
  | [d1, d2] => { results := [.lit (.bool false)], args := [d1, d2] }
  | _ => none }
def FindAllWrongFalsely : Prop := findAllRow.holds Tryd.pinned (OpenSpec.ofChange findAllWrong)

/-- 'brushwoodlaw18.FindMeters': WHATEVER THE INPUT: true; the input reads as it did. -/
def findMetersSpec : ChangeSpec := { name := "findMeters", fn := fun _ => fun
  | [d1, d2, d3] => { results := [.lit (.bool true)], args := [d1, d2, d3] }
  | _ => none }
def findMetersRow : OpenClaim := { program := "ytlnlodfnplkckaadoor", sum := "0d1747de53e7208bd9c51f03732542ffd66e27b1ded240c6cf00cb9f300e7045", func := "brushwood/brushwoodlaw18.FindMeters", spec := "findMeters", inPlace := ["internal/bytealg.Compare"], unfollowed := true, recurses := true, named := ["math/bits.deBruijn32tab"], apart := false, laid := [("math/bits.deBruijn32tab", laid_math_bits_deBruijn32tab)] }
def FindMetersSaid : Prop := findMetersRow.holds Tryd.pinned (OpenSpec.ofChange findMetersSpec)

/-- ITS FALSE NEIGHBOUR: 'it returns false'. Refute it at one input. -/
def findMetersWrong : ChangeSpec := { name := "findMeters", fn := fun _ => fun
  | [d1, d2, d3] => { results := [.lit (.bool false)], args := [d1, d2, d3] }
  | _ => none }
def FindMetersWrongFalsely : Prop := findMetersRow.holds Tryd.pinned (OpenSpec.ofChange findMetersWrong)

/-- 'brushwoodlaw18.FindGets': WHATEVER THE INPUT: true; the input reads as it did. -/
def findGetsSpec : ChangeSpec := { name := "findGets", fn := fun _ => fun
  | [d1, d2, d3] => { results := [.lit (.bool true)], args := [d1, d2, d3] }
  | _ => none }
def findGetsRow : OpenClaim := { program := "ytlnlodfnplkckaadoor", sum := "0d1747de53e7208bd9c51f03732542ffd66e27b1ded240c6cf00cb9f300e7045", func := "brushwood/brushwoodlaw18.FindGets", spec := "findGets", inPlace := ["internal/bytealg.Compare"], unfollowed := true, recurses := true, named := ["math/bits.deBruijn32tab"], apart := false, laid := [("math/bits.deBruijn32tab", laid_math_bits_deBruijn32tab)] }
def FindGetsSaid : Prop := findGetsRow.holds Tryd.pinned (OpenSpec.ofChange findGetsSpec)

/-- ITS FALSE NEIGHBOUR: 'it returns false'. Refute it at one input. -/
def findGetsWrong : ChangeSpec := { name := "findGets", fn := fun _ => fun
  | [d1, d2, d3] => { results := [.lit (.bool false)], args := [d1, d2, d3] }
  | _ => none }
def FindGetsWrongFalsely : Prop := findGetsRow.holds Tryd.pinned (OpenSpec.ofChange findGetsWrong)

/-- 'brushwoodlaw17.LayoutOrder': WHATEVER THE INPUT: true; the input reads as it did. -/
def layoutOrderSpec : ChangeSpec := { name := "layoutOrder", fn := fun _ => fun
  | [d1, d2] => { results := [.lit (.bool true)], args := [d1, d2] }
  | _ => none }
def layoutOrderRow : OpenClaim := { program := "ytlnlodfnplkckaadoor", sum := "0d1747de53e7208bd9c51f03732542ffd66e27b1ded240c6cf00cb9f300e7045", func := "brushwood/brushwoodlaw17.LayoutOrder", spec := "layoutOrder", inPlace := ["internal/bytealg.Compare"], unfollowed := true, recurses := true, named := ["math/bits.deBruijn32tab"], apart := false, laid := [("math/bits.deBruijn32tab", laid_math_bits_deBruijn32tab)] }
def LayoutOrderSaid : Prop := layoutOrderRow.holds Tryd.pinned (OpenSpec.ofChange layoutOrderSpec)

/-- ITS FALSE NEIGHBOUR: 'it returns false'. Refute it at one input. -/
def layoutOrderWrong : ChangeSpec := { name := "layoutOrder", fn := fun _ => fun
  | [d1, d2] => { results := [.lit (.bool false)], args := [d1, d2] }
  | _ => none }
def LayoutOrderWrongFalsely : Prop := layoutOrderRow.holds Tryd.pinned (OpenSpec.ofChange layoutOrderWrong)

/-- 'brushwoodlaw17.LayoutOf': WHATEVER THE INPUT: true; the input reads as it did. -/
def layoutOfSpec : ChangeSpec := { name := "layoutOf", fn := fun _ => fun
  | [d] => { results := [.lit (.bool true)], args := [d] }
  | _ => none }
def layoutOfRow : OpenClaim := { program := "ytlnlodfnplkckaadoor", sum := "0d1747de53e7208bd9c51f03732542ffd66e27b1ded240c6cf00cb9f300e7045", func := "brushwood/brushwoodlaw17.LayoutOf", spec := "layoutOf", inPlace := ["internal/bytealg.Compare"], unfollowed := true, recurses := true, named := ["math/bits.deBruijn32tab"], apart := false, laid := [("math/bits.deBruijn32tab", laid_math_bits_deBruijn32tab)] }
def LayoutOfSaid : Prop := layoutOfRow.holds Tryd.pinned (OpenSpec.ofChange layoutOfSpec)

/-- ITS FALSE NEIGHBOUR: 'it returns false'. Refute it at one input. -/
def layoutOfWrong : ChangeSpec := { name := "layoutOf", fn := fun _ => fun
  | [d] => { results := [.lit (.bool false)], args := [d] }
  | _ => none }
def LayoutOfWrongFalsely : Prop := layoutOfRow.holds Tryd.pinned (OpenSpec.ofChange layoutOfWrong)

/- THE SECOND FORM. 'bulk': how many values and letters a reading holds, each counted each time it is reached (what is shared counts as often as it is met; a slice's spare places count too). A statement '..UptoSaid' is the law's where the arguments, and the package variables that the reading takes, are together of bulk at most 1048576: NARROWER than '..Said'. Prove '..Said' where nothing that the law and all that it calls make is longer than what came in: it says more and counts as full. Else prove '..UptoSaid'. A law counts once. -/
mutual
def uptoBulk {H : Type} : DataW H → Nat
  | .lit (.string bytes) => bytes.length + 1
  | .lit _ => 1
  | .nil => 1
  | .ptr d => uptoBulk d + 1
  | .slice elems spare => uptoBulkAll elems + uptoBulkAll spare + 1
  | .agg parts => uptoBulkAll parts + 1
  | .iface _ d => uptoBulk d + 1
  | .map entries => uptoBulkEntries entries + 1
  | .held _ => 1
def uptoBulkAll {H : Type} : List (DataW H) → Nat
  | [] => 0
  | d :: r => uptoBulk d + uptoBulkAll r
def uptoBulkEntries {H : Type} : List (Lit × DataW H) → Nat
  | [] => 0
  | x :: r => uptoBulkEntry x + uptoBulkEntries r
def uptoBulkEntry {H : Type} : Lit × DataW H → Nat
  | (.string bytes, d) => bytes.length + uptoBulk d + 1
  | (_, d) => uptoBulk d + 1
 end
def uptoSmall : (H : Type) → List (DataW H) → Bool := fun _ ds => decide (uptoBulkAll ds ≤ 1048576)
def OpenSpec.upto (s : _root_.Go.ChangeSpec) : _root_.Go.OpenSpec := { _root_.Go.OpenSpec.ofChange s with cond := some uptoSmall }

/-- 'brushwoodlaw21.TrieMeters', WHERE WHAT IT READS IS OF BULK AT MOST 1048576: true; the input reads as it did. -/
def trieMetersUptoRow : OpenClaim := { program := "ytlnlodfnplkckaadoor", sum := "0d1747de53e7208bd9c51f03732542ffd66e27b1ded240c6cf00cb9f300e7045", func := "brushwood/brushwoodlaw21.TrieMeters", spec := "trieMeters", inPlace := ["internal/bytealg.Compare"], unfollowed := true, recurses := true, named := ["brushwood/sip.start", "math/bits.deBruijn32tab"], apart := false, laid := [("math/bits.deBruijn32tab", laid_math_bits_deBruijn32tab), ("brushwood/sip.start", laid_brushwood_sip_start)], narrowed := true }
def TrieMetersUptoSaid : Prop := trieMetersUptoRow.holds Tryd.pinned (OpenSpec.upto trieMetersSpec)

/-- 'brushwoodlaw17.LayoutComes', WHERE WHAT IT READS IS OF BULK AT MOST 1048576: true; the input reads as it did. -/
def layoutComesUptoRow : OpenClaim := { program := "ytlnlodfnplkckaadoor", sum := "0d1747de53e7208bd9c51f03732542ffd66e27b1ded240c6cf00cb9f300e7045", func := "brushwood/brushwoodlaw17.LayoutComes", spec := "layoutComes", inPlace := ["internal/bytealg.Compare"], unfollowed := true, recurses := true, named := ["math/bits.deBruijn32tab"], apart := false, laid := [("math/bits.deBruijn32tab", laid_math_bits_deBruijn32tab)], narrowed := true }
def LayoutComesUptoSaid : Prop := layoutComesUptoRow.holds Tryd.pinned (OpenSpec.upto layoutComesSpec)

/-- 'brushwoodlaw17.LayoutSums', WHERE WHAT IT READS IS OF BULK AT MOST 1048576: true; the input reads as it did. -/
def layoutSumsUptoRow : OpenClaim := { program := "ytlnlodfnplkckaadoor", sum := "0d1747de53e7208bd9c51f03732542ffd66e27b1ded240c6cf00cb9f300e7045", func := "brushwood/brushwoodlaw17.LayoutSums", spec := "layoutSums", inPlace := ["internal/bytealg.Compare"], unfollowed := true, recurses := true, named := ["math/bits.deBruijn32tab"], apart := false, laid := [("math/bits.deBruijn32tab", laid_math_bits_deBruijn32tab)], narrowed := true }
def LayoutSumsUptoSaid : Prop := layoutSumsUptoRow.holds Tryd.pinned (OpenSpec.upto layoutSumsSpec)

/-- 'brushwoodlaw18.FindAll', WHERE WHAT IT READS IS OF BULK AT MOST 1048576: true; the input reads as it did. -/
def findAllUptoRow : OpenClaim := { program := "ytlnlodfnplkckaadoor", sum := "0d1747de53e7208bd9c51f03732542ffd66e27b1ded240c6cf00cb9f300e7045", func := "brushwood/brushwoodlaw18.FindAll", spec := "findAll", inPlace := ["internal/bytealg.Compare"], unfollowed := true, recurses := true, named := ["math/bits.deBruijn32tab"], apart := false, laid := [("math/bits.deBruijn32tab", laid_math_bits_deBruijn32tab)], narrowed := true }
def FindAllUptoSaid : Prop := findAllUptoRow.holds Tryd.pinned (OpenSpec.upto findAllSpec)

/-- 'brushwoodlaw18.FindMeters', WHERE WHAT IT READS IS OF BULK AT MOST 1048576: true; the input reads as it did. -/
def findMetersUptoRow : OpenClaim := { program := "ytlnlodfnplkckaadoor", sum := "0d1747de53e7208bd9c51f03732542ffd66e27b1ded240c6cf00cb9f300e7045", func := "brushwood/brushwoodlaw18.FindMeters", spec := "findMeters", inPlace := ["internal/bytealg.Compare"], unfollowed := true, recurses := true, named := ["math/bits.deBruijn32tab"], apart := false, laid := [("math/bits.deBruijn32tab", laid_math_bits_deBruijn32tab)], narrowed := true }
def FindMetersUptoSaid : Prop := findMetersUptoRow.holds Tryd.pinned (OpenSpec.upto findMetersSpec)

/-- 'brushwoodlaw18.FindGets', WHERE WHAT IT READS IS OF BULK AT MOST 1048576: true; the input reads as it did. -/
def findGetsUptoRow : OpenClaim := { program := "ytlnlodfnplkckaadoor", sum := "0d1747de53e7208bd9c51f03732542ffd66e27b1ded240c6cf00cb9f300e7045", func := "brushwood/brushwoodlaw18.FindGets", spec := "findGets", inPlace := ["internal/bytealg.Compare"], unfollowed := true, recurses := true, named := ["math/bits.deBruijn32tab"], apart := false, laid := [("math/bits.deBruijn32tab", laid_math_bits_deBruijn32tab)], narrowed := true }
def FindGetsUptoSaid : Prop := findGetsUptoRow.holds Tryd.pinned (OpenSpec.upto findGetsSpec)

/-- 'brushwoodlaw17.LayoutOrder', WHERE WHAT IT READS IS OF BULK AT MOST 1048576: true; the input reads as it did. -/
def layoutOrderUptoRow : OpenClaim := { program := "ytlnlodfnplkckaadoor", sum := "0d1747de53e7208bd9c51f03732542ffd66e27b1ded240c6cf00cb9f300e7045", func := "brushwood/brushwoodlaw17.LayoutOrder", spec := "layoutOrder", inPlace := ["internal/bytealg.Compare"], unfollowed := true, recurses := true, named := ["math/bits.deBruijn32tab"], apart := false, laid := [("math/bits.deBruijn32tab", laid_math_bits_deBruijn32tab)], narrowed := true }
def LayoutOrderUptoSaid : Prop := layoutOrderUptoRow.holds Tryd.pinned (OpenSpec.upto layoutOrderSpec)

/-- 'brushwoodlaw17.LayoutOf', WHERE WHAT IT READS IS OF BULK AT MOST 1048576: true; the input reads as it did. -/
def layoutOfUptoRow : OpenClaim := { program := "ytlnlodfnplkckaadoor", sum := "0d1747de53e7208bd9c51f03732542ffd66e27b1ded240c6cf00cb9f300e7045", func := "brushwood/brushwoodlaw17.LayoutOf", spec := "layoutOf", inPlace := ["internal/bytealg.Compare"], unfollowed := true, recurses := true, named := ["math/bits.deBruijn32tab"], apart := false, laid := [("math/bits.deBruijn32tab", laid_math_bits_deBruijn32tab)], narrowed := true }
def LayoutOfUptoSaid : Prop := layoutOfUptoRow.holds Tryd.pinned (OpenSpec.upto layoutOfSpec)

end Rows
end Go.Proofs.YtlnlodfnplkckaaDoor
