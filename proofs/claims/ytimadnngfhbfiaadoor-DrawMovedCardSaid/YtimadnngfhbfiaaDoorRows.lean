/-
  NARROWER THAN 'FOR EVERY INPUT', by the rows' own cells (each row's printed sentence says how): NormTells: laid · NormCells: laid · NormBack: laid · TextTurns: laid · TextApart: laid · DrawTells: laid · DrawCounts: laid · DrawMoved: laid.
  DERIVED. THE GIVEN ROWS OF THIS SEAT. 8 by the template 'for every input the law returns true; each argument reads behind the call as it read before'; 0 by the template 'total and deterministic' (their statements: YtimadnngfhbfiaaDoorTotals.lean).
  GIVEN WITH THE SEED: the statements are not yours to turn. If you find one false, say at which input.
  Laid BY PROGRAM, IN A SANDBOX (cutbox-rows.mjs): the forced cells as the released guide's own fill.sh prints them over the translation 856c65466fd4d046… (all of the seat's roots in one cut). By AI agents, Wed Nov 11 2026. No macro, syntax, notation, axiom, sorry.
-/
import Derived.Test.YtimadnngfhbfiaaDoorChecked
import GoSem.PinnedTables
import GoSem.Claim
import GoSem.ClaimJoined
import GoSem.ClaimMapViews
import Derived.JoinedTies
import Derived.KernelRfl
namespace Go.Proofs.YtimadnngfhbfiaaDoor
/- THE CELL 'sum', in the pinned program and in every row, IS THE sha256 OF THE DUMP (.gsa) THAT YtimadnngfhbfiaaDoorProg.lean LOADS. Nothing in Lean hashes anything: it is a label: what it is worth is what the hold of that sum in a sandbox is worth. -/
noncomputable def Tryd.pinned : Pinned := { name := "ytimadnngfhbfiaadoor", sum := "856c65466fd4d046eb38f96c2614ce17923bf8c3b8429e2bbf580d33a05a4a95", checked := Tryd.checked }
namespace Rows
def none {H : Type} : Left H := { results := [], args := [] }

/- WHAT THE LISTED PACKAGE-LEVEL VARIABLES READ AS WHEN THE CALL BEGINS. Each datum BY PROGRAM (the guide's laid-datum.mjs) off the statement by which the dump's own 'gosem.cut.vars' lays the variable. In a bare row this is a premise. The card (YtimadnngfhbfiaaDoorCards.lean) ties it to the program's text. -/
def laid_unicode_utf8_acceptRanges {H : Type} : DataW H := .agg [.agg [.lit (.int .u8 128), .lit (.int .u8 191)], .agg [.lit (.int .u8 160), .lit (.int .u8 191)], .agg [.lit (.int .u8 128), .lit (.int .u8 159)], .agg [.lit (.int .u8 144), .lit (.int .u8 191)], .agg [.lit (.int .u8 128), .lit (.int .u8 143)], .agg [.lit (.int .u8 0), .lit (.int .u8 0)], .agg [.lit (.int .u8 0), .lit (.int .u8 0)], .agg [.lit (.int .u8 0), .lit (.int .u8 0)], .agg [.lit (.int .u8 0), .lit (.int .u8 0)], .agg [.lit (.int .u8 0), .lit (.int .u8 0)], .agg [.lit (.int .u8 0), .lit (.int .u8 0)], .agg [.lit (.int .u8 0), .lit (.int .u8 0)], .agg [.lit (.int .u8 0), .lit (.int .u8 0)], .agg [.lit (.int .u8 0), .lit (.int .u8 0)], .agg [.lit (.int .u8 0), .lit (.int .u8 0)], .agg [.lit (.int .u8 0), .lit (.int .u8 0)]]
/-- One of Go's own tables, pinned by name: the form's constant. -/
def laid_unicode_utf8_first : DataW Unit := Go.Pinned.utf8First
def laid_math_bits_deBruijn32tab {H : Type} : DataW H := .agg [.lit (.int .u8 0), .lit (.int .u8 1), .lit (.int .u8 28), .lit (.int .u8 2), .lit (.int .u8 29), .lit (.int .u8 14), .lit (.int .u8 24), .lit (.int .u8 3), .lit (.int .u8 30), .lit (.int .u8 22), .lit (.int .u8 20), .lit (.int .u8 15), .lit (.int .u8 25), .lit (.int .u8 17), .lit (.int .u8 4), .lit (.int .u8 8), .lit (.int .u8 31), .lit (.int .u8 27), .lit (.int .u8 13), .lit (.int .u8 23), .lit (.int .u8 21), .lit (.int .u8 19), .lit (.int .u8 16), .lit (.int .u8 7), .lit (.int .u8 26), .lit (.int .u8 12), .lit (.int .u8 18), .lit (.int .u8 6), .lit (.int .u8 11), .lit (.int .u8 5), .lit (.int .u8 10), .lit (.int .u8 9)]
def laid_math_bits_deBruijn64tab {H : Type} : DataW H := .agg [.lit (.int .u8 0), .lit (.int .u8 1), .lit (.int .u8 56), .lit (.int .u8 2), .lit (.int .u8 57), .lit (.int .u8 49), .lit (.int .u8 28), .lit (.int .u8 3), .lit (.int .u8 61), .lit (.int .u8 58), .lit (.int .u8 42), .lit (.int .u8 50), .lit (.int .u8 38), .lit (.int .u8 29), .lit (.int .u8 17), .lit (.int .u8 4), .lit (.int .u8 62), .lit (.int .u8 47), .lit (.int .u8 59), .lit (.int .u8 36), .lit (.int .u8 45), .lit (.int .u8 43), .lit (.int .u8 51), .lit (.int .u8 22), .lit (.int .u8 53), .lit (.int .u8 39), .lit (.int .u8 33), .lit (.int .u8 30), .lit (.int .u8 24), .lit (.int .u8 18), .lit (.int .u8 12), .lit (.int .u8 5), .lit (.int .u8 63), .lit (.int .u8 55), .lit (.int .u8 48), .lit (.int .u8 27), .lit (.int .u8 60), .lit (.int .u8 41), .lit (.int .u8 37), .lit (.int .u8 16), .lit (.int .u8 46), .lit (.int .u8 35), .lit (.int .u8 44), .lit (.int .u8 21), .lit (.int .u8 52), .lit (.int .u8 32), .lit (.int .u8 23), .lit (.int .u8 11), .lit (.int .u8 54), .lit (.int .u8 26), .lit (.int .u8 40), .lit (.int .u8 15), .lit (.int .u8 34), .lit (.int .u8 20), .lit (.int .u8 31), .lit (.int .u8 10), .lit (.int .u8 25), .lit (.int .u8 14), .lit (.int .u8 19), .lit (.int .u8 9), .lit (.int .u8 13), .lit (.int .u8 8), .lit (.int .u8 7), .lit (.int .u8 6)]
def laid_internal_strconv_uint64pow10 {H : Type} : DataW H := .agg [.lit (.int .u64 1), .lit (.int .u64 10), .lit (.int .u64 100), .lit (.int .u64 1000), .lit (.int .u64 10000), .lit (.int .u64 100000), .lit (.int .u64 1000000), .lit (.int .u64 10000000), .lit (.int .u64 100000000), .lit (.int .u64 1000000000), .lit (.int .u64 10000000000), .lit (.int .u64 100000000000), .lit (.int .u64 1000000000000), .lit (.int .u64 10000000000000), .lit (.int .u64 100000000000000), .lit (.int .u64 1000000000000000), .lit (.int .u64 10000000000000000), .lit (.int .u64 100000000000000000), .lit (.int .u64 1000000000000000000), .lit (.int .u64 10000000000000000000)]

/-- 'muntinlaw11.NormTells': WHATEVER THE INPUT: true; the input reads as it did. -/
def normTellsSpec : ChangeSpec := { name := "normTells", fn := fun _ => fun
  | [d] => { results := [.lit (.bool true)], args := [d] }
  | _ => none }
def normTellsRow : OpenClaim := { program := "ytimadnngfhbfiaadoor", sum := "856c65466fd4d046eb38f96c2614ce17923bf8c3b8429e2bbf580d33a05a4a95", func := "muntin/muntinlaw11.NormTells", spec := "normTells", named := ["unicode/utf8.first", "unicode/utf8.acceptRanges"], apart := false, laid := [("unicode/utf8.acceptRanges", laid_unicode_utf8_acceptRanges), ("unicode/utf8.first", laid_unicode_utf8_first)] }
def NormTellsSaid : Prop := normTellsRow.holds Tryd.pinned (OpenSpec.ofChange normTellsSpec)

/-- ITS FALSE NEIGHBOUR: 'it returns false'. Refute it at one input. -/
def normTellsWrong : ChangeSpec := { name := "normTells", fn := fun _ => fun
  | [d] => { results := [.lit (.bool false)], args := [d] }
  | _ => none }
def NormTellsWrongFalsely : Prop := normTellsRow.holds Tryd.pinned (OpenSpec.ofChange normTellsWrong)

/-- 'muntinlaw11.NormCells': WHATEVER THE INPUT: true; the input reads as it did. -/
def normCellsSpec : ChangeSpec := { name := "normCells", fn := fun _ => fun
  | [d] => { results := [.lit (.bool true)], args := [d] }
  | _ => none }
def normCellsRow : OpenClaim := { program := "ytimadnngfhbfiaadoor", sum := "856c65466fd4d046eb38f96c2614ce17923bf8c3b8429e2bbf580d33a05a4a95", func := "muntin/muntinlaw11.NormCells", spec := "normCells", unfollowed := true, recurses := true, named := ["unicode/utf8.first", "unicode/utf8.acceptRanges"], apart := false, laid := [("unicode/utf8.acceptRanges", laid_unicode_utf8_acceptRanges), ("unicode/utf8.first", laid_unicode_utf8_first)] }
def NormCellsSaid : Prop := normCellsRow.holds Tryd.pinned (OpenSpec.ofChange normCellsSpec)

/-- ITS FALSE NEIGHBOUR: 'it returns false'. Refute it at one input. -/
def normCellsWrong : ChangeSpec := { name := "normCells", fn := fun _ => fun
  | [d] => { results := [.lit (.bool false)], args := [d] }
  | _ => none }
def NormCellsWrongFalsely : Prop := normCellsRow.holds Tryd.pinned (OpenSpec.ofChange normCellsWrong)

/-- 'muntinlaw11.NormBack': WHATEVER THE INPUT: true; the input reads as it did. -/
def normBackSpec : ChangeSpec := { name := "normBack", fn := fun _ => fun
  | [d1, d2] => { results := [.lit (.bool true)], args := [d1, d2] }
  | _ => none }
def normBackRow : OpenClaim := { program := "ytimadnngfhbfiaadoor", sum := "856c65466fd4d046eb38f96c2614ce17923bf8c3b8429e2bbf580d33a05a4a95", func := "muntin/muntinlaw11.NormBack", spec := "normBack", named := ["unicode/utf8.first", "unicode/utf8.acceptRanges"], apart := false, laid := [("unicode/utf8.acceptRanges", laid_unicode_utf8_acceptRanges), ("unicode/utf8.first", laid_unicode_utf8_first)] }
def NormBackSaid : Prop := normBackRow.holds Tryd.pinned (OpenSpec.ofChange normBackSpec)

/-- ITS FALSE NEIGHBOUR: 'it returns false'. Refute it at one input. -/
def normBackWrong : ChangeSpec := { name := "normBack", fn := fun _ => fun
  | [d1, d2] => { results := [.lit (.bool false)], args := [d1, d2] }
  | _ => none }
def NormBackWrongFalsely : Prop := normBackRow.holds Tryd.pinned (OpenSpec.ofChange normBackWrong)

/-- 'muntinlaw09.TextTurns': WHATEVER THE INPUT: true; the input reads as it did. -/
def textTurnsSpec : ChangeSpec := { name := "textTurns", fn := fun _ => fun
  | [d] => { results := [.lit (.bool true)], args := [d] }
  | _ => none }
def textTurnsRow : OpenClaim := { program := "ytimadnngfhbfiaadoor", sum := "856c65466fd4d046eb38f96c2614ce17923bf8c3b8429e2bbf580d33a05a4a95", func := "muntin/muntinlaw09.TextTurns", spec := "textTurns", inPlace := ["internal/bytealg.IndexByteString", "internal/bytealg.IndexString", "internal/abi.NoEscape"], named := ["unicode/utf8.first", "unicode/utf8.acceptRanges", "internal/strconv.uint64pow10", "math/bits.deBruijn32tab", "math/bits.deBruijn64tab", "internal/bytealg.MaxLen"], apart := false, laid := [("math/bits.deBruijn32tab", laid_math_bits_deBruijn32tab), ("math/bits.deBruijn64tab", laid_math_bits_deBruijn64tab), ("internal/strconv.uint64pow10", laid_internal_strconv_uint64pow10), ("unicode/utf8.acceptRanges", laid_unicode_utf8_acceptRanges), ("unicode/utf8.first", laid_unicode_utf8_first)] }
def TextTurnsSaid : Prop := textTurnsRow.holds Tryd.pinned (OpenSpec.ofChange textTurnsSpec)

/-- ITS FALSE NEIGHBOUR: 'it returns false'. Refute it at one input. -/
def textTurnsWrong : ChangeSpec := { name := "textTurns", fn := fun _ => fun
  | [d] => { results := [.lit (.bool false)], args := [d] }
  | _ => none }
def TextTurnsWrongFalsely : Prop := textTurnsRow.holds Tryd.pinned (OpenSpec.ofChange textTurnsWrong)

/-- 'muntinlaw09.TextApart': WHATEVER THE INPUT: true; the input reads as it did. -/
def textApartSpec : ChangeSpec := { name := "textApart", fn := fun _ => fun
  | [d1, d2] => { results := [.lit (.bool true)], args := [d1, d2] }
  | _ => none }
def textApartRow : OpenClaim := { program := "ytimadnngfhbfiaadoor", sum := "856c65466fd4d046eb38f96c2614ce17923bf8c3b8429e2bbf580d33a05a4a95", func := "muntin/muntinlaw09.TextApart", spec := "textApart", inPlace := ["internal/abi.NoEscape", "internal/bytealg.IndexByteString", "internal/bytealg.IndexString"], named := ["unicode/utf8.first", "unicode/utf8.acceptRanges", "internal/strconv.uint64pow10", "math/bits.deBruijn32tab", "math/bits.deBruijn64tab", "internal/bytealg.MaxLen"], apart := false, laid := [("math/bits.deBruijn32tab", laid_math_bits_deBruijn32tab), ("math/bits.deBruijn64tab", laid_math_bits_deBruijn64tab), ("internal/strconv.uint64pow10", laid_internal_strconv_uint64pow10), ("unicode/utf8.acceptRanges", laid_unicode_utf8_acceptRanges), ("unicode/utf8.first", laid_unicode_utf8_first)] }
def TextApartSaid : Prop := textApartRow.holds Tryd.pinned (OpenSpec.ofChange textApartSpec)

/-- ITS FALSE NEIGHBOUR: 'it returns false'. Refute it at one input. -/
def textApartWrong : ChangeSpec := { name := "textApart", fn := fun _ => fun
  | [d1, d2] => { results := [.lit (.bool false)], args := [d1, d2] }
  | _ => none }
def TextApartWrongFalsely : Prop := textApartRow.holds Tryd.pinned (OpenSpec.ofChange textApartWrong)

/-- 'muntinlaw25.DrawTells': WHATEVER THE INPUT: true; the input reads as it did. -/
def drawTellsSpec : ChangeSpec := { name := "drawTells", fn := fun _ => fun
  | [d1, d2, d3] => { results := [.lit (.bool true)], args := [d1, d2, d3] }
  | _ => none }
def drawTellsRow : OpenClaim := { program := "ytimadnngfhbfiaadoor", sum := "856c65466fd4d046eb38f96c2614ce17923bf8c3b8429e2bbf580d33a05a4a95", func := "muntin/muntinlaw25.DrawTells", spec := "drawTells", unfollowed := true, recurses := true, named := ["unicode/utf8.first", "unicode/utf8.acceptRanges"], apart := false, laid := [("unicode/utf8.acceptRanges", laid_unicode_utf8_acceptRanges), ("unicode/utf8.first", laid_unicode_utf8_first)] }
def DrawTellsSaid : Prop := drawTellsRow.holds Tryd.pinned (OpenSpec.ofChange drawTellsSpec)

/-- ITS FALSE NEIGHBOUR: 'it returns false'. Refute it at one input. -/
def drawTellsWrong : ChangeSpec := { name := "drawTells", fn := fun _ => fun
  | [d1, d2, d3] => { results := [.lit (.bool false)], args := [d1, d2, d3] }
  | _ => none }
def DrawTellsWrongFalsely : Prop := drawTellsRow.holds Tryd.pinned (OpenSpec.ofChange drawTellsWrong)

/-- 'muntinlaw25.DrawCounts': WHATEVER THE INPUT: true; the input reads as it did. -/
def drawCountsSpec : ChangeSpec := { name := "drawCounts", fn := fun _ => fun
  | [d1, d2, d3] => { results := [.lit (.bool true)], args := [d1, d2, d3] }
  | _ => none }
def drawCountsRow : OpenClaim := { program := "ytimadnngfhbfiaadoor", sum := "856c65466fd4d046eb38f96c2614ce17923bf8c3b8429e2bbf580d33a05a4a95", func := "muntin/muntinlaw25.DrawCounts", spec := "drawCounts", unfollowed := true, recurses := true, named := ["unicode/utf8.first", "unicode/utf8.acceptRanges"], apart := false, laid := [("unicode/utf8.acceptRanges", laid_unicode_utf8_acceptRanges), ("unicode/utf8.first", laid_unicode_utf8_first)] }
def DrawCountsSaid : Prop := drawCountsRow.holds Tryd.pinned (OpenSpec.ofChange drawCountsSpec)

/-- ITS FALSE NEIGHBOUR: 'it returns false'. Refute it at one input. -/
def drawCountsWrong : ChangeSpec := { name := "drawCounts", fn := fun _ => fun
  | [d1, d2, d3] => { results := [.lit (.bool false)], args := [d1, d2, d3] }
  | _ => none }
def DrawCountsWrongFalsely : Prop := drawCountsRow.holds Tryd.pinned (OpenSpec.ofChange drawCountsWrong)

/-- 'muntinlaw25.DrawMoved': WHATEVER THE INPUT: true; the input reads as it did. -/
def drawMovedSpec : ChangeSpec := { name := "drawMoved", fn := fun _ => fun
  | [d] => { results := [.lit (.bool true)], args := [d] }
  | _ => none }
def drawMovedRow : OpenClaim := { program := "ytimadnngfhbfiaadoor", sum := "856c65466fd4d046eb38f96c2614ce17923bf8c3b8429e2bbf580d33a05a4a95", func := "muntin/muntinlaw25.DrawMoved", spec := "drawMoved", unfollowed := true, recurses := true, named := ["unicode/utf8.first", "unicode/utf8.acceptRanges"], apart := false, laid := [("unicode/utf8.acceptRanges", laid_unicode_utf8_acceptRanges), ("unicode/utf8.first", laid_unicode_utf8_first)] }
def DrawMovedSaid : Prop := drawMovedRow.holds Tryd.pinned (OpenSpec.ofChange drawMovedSpec)

/-- ITS FALSE NEIGHBOUR: 'it returns false'. Refute it at one input. -/
def drawMovedWrong : ChangeSpec := { name := "drawMoved", fn := fun _ => fun
  | [d] => { results := [.lit (.bool false)], args := [d] }
  | _ => none }
def DrawMovedWrongFalsely : Prop := drawMovedRow.holds Tryd.pinned (OpenSpec.ofChange drawMovedWrong)

/- THE SECOND FORM. 'bulk': how many values and letters a reading holds, each counted each time it is reached (what is shared counts as often as it is met; a slice's spare places count too). A statement '..UptoSaid' is the law's where the arguments, and the package variables that the reading takes, are together of bulk at most 1048576: NARROWER than '..Said'. Prove '..Said' where nothing that the law and all that it calls make is longer than what came in: it says more and counts as full. Else prove '..UptoSaid'. A law counts once. -/
mutual
def uptoBulk {H : Type} : DataW H → Nat
  | .lit (.string bytes) => bytes.length + 1
  | .lit _ => 1
  | .nil => 1
  | .ptr d => uptoBulk d + 1
  | .slice elems spare => uptoBulkAll elems + uptoBulkAll spare + 1
  | .agg parts => uptoBulkAll parts + 1
  | .iface _ d => uptoBulk d + 1
  | .map entries => uptoBulkEntries entries + 1
  | .held _ => 1
def uptoBulkAll {H : Type} : List (DataW H) → Nat
  | [] => 0
  | d :: r => uptoBulk d + uptoBulkAll r
def uptoBulkEntries {H : Type} : List (Lit × DataW H) → Nat
  | [] => 0
  | x :: r => uptoBulkEntry x + uptoBulkEntries r
def uptoBulkEntry {H : Type} : Lit × DataW H → Nat
  | (.string bytes, d) => bytes.length + uptoBulk d + 1
  | (_, d) => uptoBulk d + 1
 end
def uptoSmall : (H : Type) → List (DataW H) → Bool := fun _ ds => decide (uptoBulkAll ds ≤ 1048576)
def OpenSpec.upto (s : _root_.Go.ChangeSpec) : _root_.Go.OpenSpec := { _root_.Go.OpenSpec.ofChange s with cond := some uptoSmall }

/-- 'muntinlaw11.NormTells', WHERE WHAT IT READS IS OF BULK AT MOST 1048576: true; the input reads as it did. -/
def normTellsUptoRow : OpenClaim := { program := "ytimadnngfhbfiaadoor", sum := "856c65466fd4d046eb38f96c2614ce17923bf8c3b8429e2bbf580d33a05a4a95", func := "muntin/muntinlaw11.NormTells", spec := "normTells", named := ["unicode/utf8.first", "unicode/utf8.acceptRanges"], apart := false, laid := [("unicode/utf8.acceptRanges", laid_unicode_utf8_acceptRanges), ("unicode/utf8.first", laid_unicode_utf8_first)], narrowed := true }
def NormTellsUptoSaid : Prop := normTellsUptoRow.holds Tryd.pinned (OpenSpec.upto normTellsSpec)

/-- 'muntinlaw11.NormCells', WHERE WHAT IT READS IS OF BULK AT MOST 1048576: true; the input reads as it did. -/
def normCellsUptoRow : OpenClaim := { program := "ytimadnngfhbfiaadoor", sum := "856c65466fd4d046eb38f96c2614ce17923bf8c3b8429e2bbf580d33a05a4a95", func := "muntin/muntinlaw11.NormCells", spec := "normCells", unfollowed := true, recurses := true, named := ["unicode/utf8.first", "unicode/utf8.acceptRanges"], apart := false, laid := [("unicode/utf8.acceptRanges", laid_unicode_utf8_acceptRanges), ("unicode/utf8.first", laid_unicode_utf8_first)], narrowed := true }
def NormCellsUptoSaid : Prop := normCellsUptoRow.holds Tryd.pinned (OpenSpec.upto normCellsSpec)

/-- 'muntinlaw11.NormBack', WHERE WHAT IT READS IS OF BULK AT MOST 1048576: true; the input reads as it did. -/
def normBackUptoRow : OpenClaim := { program := "ytimadnngfhbfiaadoor", sum := "856c65466fd4d046eb38f96c2614ce17923bf8c3b8429e2bbf580d33a05a4a95", func := "muntin/muntinlaw11.NormBack", spec := "normBack", named := ["unicode/utf8.first", "unicode/utf8.acceptRanges"], apart := false, laid := [("unicode/utf8.acceptRanges", laid_unicode_utf8_acceptRanges), ("unicode/utf8.first", laid_unicode_utf8_first)], narrowed := true }
def NormBackUptoSaid : Prop := normBackUptoRow.holds Tryd.pinned (OpenSpec.upto normBackSpec)

/-- 'muntinlaw09.TextTurns', WHERE WHAT IT READS IS OF BULK AT MOST 1048576: true; the input reads as it did. -/
def textTurnsUptoRow : OpenClaim := { program := "ytimadnngfhbfiaadoor", sum := "856c65466fd4d046eb38f96c2614ce17923bf8c3b8429e2bbf580d33a05a4a95", func := "muntin/muntinlaw09.TextTurns", spec := "textTurns", inPlace := ["internal/bytealg.IndexByteString", "internal/bytealg.IndexString", "internal/abi.NoEscape"], named := ["unicode/utf8.first", "unicode/utf8.acceptRanges", "internal/strconv.uint64pow10", "math/bits.deBruijn32tab", "math/bits.deBruijn64tab", "internal/bytealg.MaxLen"], apart := false, laid := [("math/bits.deBruijn32tab", laid_math_bits_deBruijn32tab), ("math/bits.deBruijn64tab", laid_math_bits_deBruijn64tab), ("internal/strconv.uint64pow10", laid_internal_strconv_uint64pow10), ("unicode/utf8.acceptRanges", laid_unicode_utf8_acceptRanges), ("unicode/utf8.first", laid_unicode_utf8_first)], narrowed := true }
def TextTurnsUptoSaid : Prop := textTurnsUptoRow.holds Tryd.pinned (OpenSpec.upto textTurnsSpec)

/-- 'muntinlaw09.TextApart', WHERE WHAT IT READS IS OF BULK AT MOST 1048576: true; the input reads as it did. -/
def textApartUptoRow : OpenClaim := { program := "ytimadnngfhbfiaadoor", sum := "856c65466fd4d046eb38f96c2614ce17923bf8c3b8429e2bbf580d33a05a4a95", func := "muntin/muntinlaw09.TextApart", spec := "textApart", inPlace := ["internal/abi.NoEscape", "internal/bytealg.IndexByteString", "internal/bytealg.IndexString"], named := ["unicode/utf8.first", "unicode/utf8.acceptRanges", "internal/strconv.uint64pow10", "math/bits.deBruijn32tab", "math/bits.deBruijn64tab", "internal/bytealg.MaxLen"], apart := false, laid := [("math/bits.deBruijn32tab", laid_math_bits_deBruijn32tab), ("math/bits.deBruijn64tab", laid_math_bits_deBruijn64tab), ("internal/strconv.uint64pow10", laid_internal_strconv_uint64pow10), ("unicode/utf8.acceptRanges", laid_unicode_utf8_acceptRanges), ("unicode/utf8.first", laid_unicode_utf8_first)], narrowed := true }
def TextApartUptoSaid : Prop := textApartUptoRow.holds Tryd.pinned (OpenSpec.upto textApartSpec)

/-- 'muntinlaw25.DrawTells', WHERE WHAT IT READS IS OF BULK AT MOST 1048576: true; the input reads as it did. -/
def drawTellsUptoRow : OpenClaim := { program := "ytimadnngfhbfiaadoor", sum := "856c65466fd4d046eb38f96c2614ce17923bf8c3b8429e2bbf580d33a05a4a95", func := "muntin/muntinlaw25.DrawTells", spec := "drawTells", unfollowed := true, recurses := true, named := ["unicode/utf8.first", "unicode/utf8.acceptRanges"], apart := false, laid := [("unicode/utf8.acceptRanges", laid_unicode_utf8_acceptRanges), ("unicode/utf8.first", laid_unicode_utf8_first)], narrowed := true }
def DrawTellsUptoSaid : Prop := drawTellsUptoRow.holds Tryd.pinned (OpenSpec.upto drawTellsSpec)

/-- 'muntinlaw25.DrawCounts', WHERE WHAT IT READS IS OF BULK AT MOST 1048576: true; the input reads as it did. -/
def drawCountsUptoRow : OpenClaim := { program := "ytimadnngfhbfiaadoor", sum := "856c65466fd4d046eb38f96c2614ce17923bf8c3b8429e2bbf580d33a05a4a95", func := "muntin/muntinlaw25.DrawCounts", spec := "drawCounts", unfollowed := true, recurses := true, named := ["unicode/utf8.first", "unicode/utf8.acceptRanges"], apart := false, laid := [("unicode/utf8.acceptRanges", laid_unicode_utf8_acceptRanges), ("unicode/utf8.first", laid_unicode_utf8_first)], narrowed := true }
def DrawCountsUptoSaid : Prop := drawCountsUptoRow.holds Tryd.pinned (OpenSpec.upto drawCountsSpec)

/-- 'muntinlaw25.DrawMoved', WHERE WHAT IT READS IS OF BULK AT MOST 1048576: true; the input reads as it did. -/
def drawMovedUptoRow : OpenClaim := { program := "ytimadnngfhbfiaadoor", sum := "856c65466fd4d046eb38f96c2614ce17923bf8c3b8429e2bbf580d33a05a4a95", func := "muntin/muntinlaw25.DrawMoved", spec := "drawMoved", unfollowed := true, recurses := true, named := ["unicode/utf8.first", "unicode/utf8.acceptRanges"], apart := false, laid := [("unicode/utf8.acceptRanges", laid_unicode_utf8_acceptRanges), ("unicode/utf8.first", laid_unicode_utf8_first)], narrowed := true }
def DrawMovedUptoSaid : Prop := drawMovedUptoRow.holds Tryd.pinned (OpenSpec.upto drawMovedSpec)

end Rows
end Go.Proofs.YtimadnngfhbfiaaDoor
